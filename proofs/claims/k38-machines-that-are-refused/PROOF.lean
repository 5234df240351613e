import PyProof.Rows.All
import Wide.All
import OpenK.AllK
import Wide.FinOn
import PySem.Challenge.RW_whateverboxes_k38_machines_that_are_refu
import HandS.ForMost
import HandS.Nested
import HandS.Wide
import HandS.Style
import HandS.TupAny
import HandS.TupMul
import HandS.Defaults
import HandS.ExcOwn
import HandS.Star
import HandS.More
import HandS.ClsMeth
import HandS.Zip
import KE.GoesMore
import KE.GoesZip
import KE.GoesEnum
import HandS.IsInst
import HandS.SortInts
import HandS.Conv
import HandS.Text
import HandS.RaiseMore
import HandS.Strs
import HandS.SetBool
import HandS.Dict
import HandS.WordsDict
import HandS.MakeKwOnly
import HandS.TryOnly
import KE.KTupSum
import HandS.SetFor
import HandS.Deep
import HandS.DictComp
import HandS.Iter
import HandS.EndTab
import HandS.Exc
import HandS.ExcInit
import KE.KExcSuper
import KE.KSuper
import HandS.ExcField
import HandS.ExcIs
import KE.KExcIs
set_option Elab.async false
set_option linter.all false
set_option maxRecDepth 100000
set_option autoImplicit false
namespace L3
open PySem L2
inductive D where
  | non | bl (b : Bool) | int (i : Int) | str (x : Str)
  | lst (xs : List D) | tup (xs : List D)
  | dct (ks : List Key) (vs : List D)
  | ins (t : Nat) (fs : List D)
  | deck
  | cls (t : Nat)
  /-- a function that a def made: its object as the heap has it, its code object -/
  | raw (a : Addr) (o : HO)
  /-- a tuple whose object is known to have no dict -/
  | ptup (xs : List D)
  /-- a tuple of ints and texts whose object is no frozen one: a key -/
  | ktup (ks : List Key)
  /-- a dict whose keys are such tuples -/
  | dtt (ks : List (List Key)) (vs : List D)
  /-- a caught error at a, its dict, its class, what it keeps -/
  | exc (a : Addr) (dd : Option Addr) (t : Nat) (fs : List D)
/-- a code object -/
def isCodeO (a : Addr) (o : HO) : Prop := ∃ q, o = LamX.CodeO a q
theorem isCodeO.ext {a : Addr} {o : HO} (h : isCodeO a o) : ∃ φ, o = .ext φ := by
  obtain ⟨q, rfl⟩ := h
  exact ⟨_, rfl⟩
/-- what stands at p is no code object -/
def NoCode (H : Hp) (p : Addr) : Prop := ∀ o, H p = some o → ¬ isCodeO p o
theorem NoCode.of {H : Hp} {p : Addr} {o : HO} (h : H p = some o) (hx : ∀ φ, o ≠ .ext φ) : NoCode H p := fun o' h' c => by
  rw [h] at h'
  obtain ⟨φ, e⟩ := c.ext
  exact hx φ ((Option.some.inj h').trans e)
/-- slf: the instance that an __init__ is making (its slot is the first one) -/
structure Ent where
  H0 : Hp
  ads : List Addr
  gh : List (V × D)
  slf : Option Addr := none
theorem NoCode.same {H H' : Hp} {p : Addr} (n : NoCode H p) (al : H p ≠ none) (e : ∀ o, H p = some o → H' p = some o) : NoCode H' p := fun o h c => by
  cases q : H p with
  | none => exact al q
  | some u =>
    have := e u q
    rw [h] at this
    cases this
    exact n o q c
/-- okE: which entries are looked at (a def that raises: its own alone) -/
structure Gx where
  cls : Nat → Addr
  fld : Nat → List Str
  deck : Addr
  dk : List Addr
  DI : Nat → Hp → Prop
  frame : ∀ n (H H' : Hp), (∀ a o, (a ∈ dk ∨ isCodeO a o) → H a = some o → H' a = some o) → DI n H → DI n H'
  dal : ∀ n H, DI n H → ∀ a ∈ dk, H a ≠ none
  dnc : ∀ n H, DI n H → ∀ a ∈ dk, NoCode H a
  okE : Ent → Prop := fun _ => True
  okA : ∀ (E : Ent) (l : List (V × D)), okE E → okE ⟨E.H0, E.ads, l ++ E.gh, E.slf⟩ := by exact fun _ _ _ => trivial
mutual
def Rep (K : PySem.W.Frag) (G : Gx) (H : Hp) (v : V) : D → Prop
  | .non => v = .non
  | .bl b => v = .bl b
  | .int i => v = .int i
  | .str x => v = .str x
  | .lst ds => ∃ a xs, v = .ref a ∧ H a = some (.lst xs) ∧ RepAll K G H xs ds
  | .tup ds => ∃ a xs, v = .ref a ∧ SqT K H a xs ∧ RepAll K G H xs ds
  | .dct ks ds => ∃ a xs, v = .ref a ∧ Rd H a (.dK (ks.zip xs)) ∧ ks.length = xs.length ∧ RepAll K G H xs ds
  | .ins t ds => ∃ a dx xs, v = .ref a ∧ H a = some (.ins (G.cls t) dx ((G.fld t).zip xs)) ∧ xs.length ≤ (G.fld t).length ∧ RepAll K G H xs ds
  | .deck => v = .ref G.deck
  | .cls t => v = .ref (G.cls t)
  | .raw a o => v = .ref a ∧ H a = some o ∧ (∃ φ, o = .ext φ) ∧ ∀ F : NdefX.NF, o = NdefX.FnO a F → H F.c = some (LamX.CodeO F.c F.qual)
  | .ptup ds => ∃ a xs o, v = .ref a ∧ H a = some (.frz o (.tup xs)) ∧ o.cls = .type "tuple" ∧ o.dict = none ∧ RepAll K G H xs ds
  | .ktup ks => ∃ a, v = .ref a ∧ H a = some (.tup (ks.map kV))
  | .dtt ks ds => ∃ a xs, v = .ref a ∧ H a = some (.dT (ks.zip xs)) ∧ ks.length = xs.length ∧ RepAll K G H xs ds
  | .exc a dd t ds => ∃ xs, v = .ref a ∧ ((dd = none ∧ ds = []) ∨ ∃ da, dd = some da ∧ H da = some (.xd ((G.fld t).zip xs))) ∧ xs.length ≤ (G.fld t).length ∧ RepAll K G H xs ds
def RepAll (K : PySem.W.Frag) (G : Gx) (H : Hp) (vs : List V) : List D → Prop
  | [] => vs = []
  | d :: ds => ∃ x xs, vs = x :: xs ∧ Rep K G H x d ∧ RepAll K G H xs ds
end
theorem same_t {K : PySem.W.Frag} {H H' : Hp} {a : Addr} {xs : List V} (e : Same H H') (h : SqT K H a xs) : SqT K H' a xs := by
  rcases h with (h | ⟨o, h⟩) | h
  · exact .inl (.inl (e _ _ h))
  · exact .inl (.inr ⟨o, e _ _ h⟩)
  · exact .inr h
theorem rd_same {H H' : Hp} {a : Addr} {u : HO} (e : Same H H') (h : Rd H a u) : Rd H' a u := by
  rcases h with h | ⟨o, h⟩
  · exact .inl (e _ _ h)
  · exact .inr ⟨o, e _ _ h⟩
variable {K : PySem.W.Frag} {G : Gx} {H H' H1 H2 : Hp} {v : V} {d : D}
mutual
theorem Rep.mono (e : Same H H') : ∀ (d : D) {v : V}, Rep K G H v d → Rep K G H' v d
  | .non, _, h => h
  | .bl _, _, h => h
  | .int _, _, h => h
  | .str _, _, h => h
  | .lst ds, _, ⟨a, xs, h1, h2, h3⟩ => ⟨a, xs, h1, e _ _ h2, RepAll.mono e ds h3⟩
  | .tup ds, _, ⟨a, xs, h1, h2, h3⟩ => ⟨a, xs, h1, same_t e h2, RepAll.mono e ds h3⟩
  | .dct ks ds, _, ⟨a, xs, h1, h2, h3, h4⟩ => ⟨a, xs, h1, rd_same e h2, h3, RepAll.mono e ds h4⟩
  | .ins t ds, _, ⟨a, dx, xs, h1, h2, h3, h4⟩ => ⟨a, dx, xs, h1, e _ _ h2, h3, RepAll.mono e ds h4⟩
  | .deck, _, h => h
  | .cls _, _, h => h
  | .raw _ _, _, ⟨h1, h2, h3, h4⟩ => ⟨h1, e _ _ h2, h3, fun F q => e _ _ (h4 F q)⟩
  | .ptup ds, _, ⟨a, xs, o, h1, h2, h3, h4, h5⟩ => ⟨a, xs, o, h1, e _ _ h2, h3, h4, RepAll.mono e ds h5⟩
  | .ktup _, _, ⟨a, h1, h2⟩ => ⟨a, h1, e _ _ h2⟩
  | .dtt ks ds, _, ⟨a, xs, h1, h2, h3, h4⟩ => ⟨a, xs, h1, e _ _ h2, h3, RepAll.mono e ds h4⟩
  | .exc _ _ _ ds, _, ⟨xs, h1, h2, h3, h4⟩ => ⟨xs, h1, h2.imp id fun ⟨da, q1, q2⟩ => ⟨da, q1, e _ _ q2⟩, h3, RepAll.mono e ds h4⟩
theorem RepAll.mono (e : Same H H') : ∀ (ds : List D) {vs : List V}, RepAll K G H vs ds → RepAll K G H' vs ds
  | [], _, h => h
  | d :: ds, _, ⟨x, xs, h1, h2, h3⟩ => ⟨x, xs, h1, Rep.mono e d h2, RepAll.mono e ds h3⟩
end
theorem RepAll.length : ∀ {ds : List D} {vs : List V}, RepAll K G H vs ds → vs.length = ds.length
  | [], _, h => by cases h; rfl
  | d :: ds, _, ⟨x, xs, h1, h2, h3⟩ => by subst h1; simp [RepAll.length h3]
theorem RepAll.get : ∀ {ds : List D} {vs : List V} {i : Nat} {d : D}, RepAll K G H vs ds → ds[i]? = some d → ∃ v, vs[i]? = some v ∧ Rep K G H v d
  | [], _, _, _, _, e => by simp at e
  | d :: ds, _, 0, d', ⟨x, xs, h1, h2, h3⟩, e => by
    subst h1; simp at e; subst e; exact ⟨x, rfl, h2⟩
  | d :: ds, _, i + 1, d', ⟨x, xs, h1, h2, h3⟩, e => by
    subst h1
    obtain ⟨v, a, b⟩ := RepAll.get (i := i) (d := d') h3 (by simpa using e)
    exact ⟨v, by simpa using a, b⟩
theorem RepAll.getV : ∀ {ds : List D} {vs : List V} {i : Nat} {v : V}, RepAll K G H vs ds → vs[i]? = some v → ∃ d, ds[i]? = some d ∧ Rep K G H v d
  | [], _, _, _, h, e => by cases h; simp at e
  | d :: ds, _, 0, v, ⟨x, xs, h1, h2, h3⟩, e => by
    subst h1; simp at e; subst e; exact ⟨d, rfl, h2⟩
  | d :: ds, _, i + 1, v, ⟨x, xs, h1, h2, h3⟩, e => by
    subst h1
    obtain ⟨v, a, b⟩ := RepAll.getV (i := i) (v := v) h3 (by simpa using e)
    exact ⟨v, by simpa using a, b⟩
theorem RepAll.append : ∀ {ds es : List D} {vs us : List V}, RepAll K G H vs ds → RepAll K G H us es → RepAll K G H (vs ++ us) (ds ++ es)
  | [], _, _, _, h, h' => by cases h; exact h'
  | d :: ds, _, _, _, ⟨x, xs, h1, h2, h3⟩, h' => by subst h1; exact ⟨x, xs ++ _, rfl, h2, RepAll.append h3 h'⟩
theorem RepAll.drop : ∀ (n : Nat) {ds : List D} {vs : List V}, RepAll K G H vs ds → RepAll K G H (vs.drop n) (ds.drop n)
  | 0, _, _, h => h
  | _ + 1, [], _, h => by cases h; exact rfl
  | n + 1, d :: ds, _, ⟨x, xs, h1, h2, h3⟩ => by subst h1; exact RepAll.drop n h3
theorem RepAll.take : ∀ (n : Nat) {ds : List D} {vs : List V}, RepAll K G H vs ds → RepAll K G H (vs.take n) (ds.take n)
  | 0, _, _, h => rfl
  | _ + 1, [], _, h => by cases h; exact rfl
  | n + 1, d :: ds, _, ⟨x, xs, h1, h2, h3⟩ => by subst h1; exact ⟨x, _, rfl, h2, RepAll.take n h3⟩
theorem RepAll.reverse : ∀ {ds : List D} {vs : List V}, RepAll K G H vs ds → RepAll K G H vs.reverse ds.reverse
  | [], _, h => by cases h; exact rfl
  | d :: ds, _, ⟨x, xs, h1, h2, h3⟩ => by
    subst h1
    rw [List.reverse_cons, List.reverse_cons]
    exact (RepAll.reverse h3).append ⟨x, [], rfl, h2, rfl⟩
theorem RepAll.set : ∀ {ds : List D} {vs : List V} (i : Nat) {v : V} {d : D}, RepAll K G H vs ds → Rep K G H v d → RepAll K G H (vs.set i v) (ds.set i d)
  | [], _, _, _, _, h, _ => by cases h; exact rfl
  | _ :: _, _, 0, _, _, ⟨x, xs, h1, h2, h3⟩, r => by subst h1; exact ⟨_, xs, rfl, r, h3⟩
  | _ :: _, _, i + 1, _, _, ⟨x, xs, h1, h2, h3⟩, r => by subst h1; exact ⟨x, _, rfl, h2, RepAll.set i h3 r⟩
theorem RepAll.one {v : V} {d : D} (h : Rep K G H v d) : RepAll K G H [v] [d] := ⟨v, [], rfl, h, rfl⟩
theorem RepAll.dropLast {ds : List D} {vs : List V} (h : RepAll K G H vs ds) : RepAll K G H vs.dropLast ds.dropLast := by
  rw [List.dropLast_eq_take, List.dropLast_eq_take, h.length]; exact h.take _
theorem RepAll.eraseIdx : ∀ {ds : List D} {vs : List V} (i : Nat), RepAll K G H vs ds → RepAll K G H (vs.eraseIdx i) (ds.eraseIdx i)
  | [], _, _, h => by cases h; exact rfl
  | _ :: _, _, 0, ⟨x, xs, h1, h2, h3⟩ => by subst h1; exact h3
  | _ :: _, _, i + 1, ⟨x, xs, h1, h2, h3⟩ => by subst h1; exact ⟨x, _, rfl, h2, RepAll.eraseIdx i h3⟩
theorem RepAll.ints : ∀ {ns : List Int} {vs : List V}, RepAll K G H vs (ns.map D.int) → vs = ns.map V.int
  | [], _, h => h
  | n :: ns, _, ⟨x, xs, h1, h2, h3⟩ => by
    have e : x = .int n := h2
    subst h1 e
    rw [RepAll.ints h3]; rfl
theorem RepAll.of_ints : ∀ (ns : List Int), RepAll K G H (ns.map V.int) (ns.map D.int)
  | [] => rfl
  | n :: ns => ⟨.int n, _, rfl, rfl, RepAll.of_ints ns⟩
theorem RepAll.strs : ∀ {ns : List Str} {vs : List V}, RepAll K G H vs (ns.map D.str) → vs = ns.map V.str
  | [], _, h => h
  | n :: ns, _, ⟨x, xs, h1, h2, h3⟩ => by
    have e : x = .str n := h2
    subst h1 e
    rw [RepAll.strs h3]; rfl
theorem RepAll.of_strs : ∀ (ns : List Str), RepAll K G H (ns.map V.str) (ns.map D.str)
  | [] => rfl
  | n :: ns => ⟨.str n, _, rfl, rfl, RepAll.of_strs ns⟩
theorem RepAll.bls : ∀ {ns : List Bool} {vs : List V}, RepAll K G H vs (ns.map D.bl) → vs = ns.map V.bl
  | [], _, h => h
  | n :: ns, _, ⟨x, xs, h1, h2, h3⟩ => by
    have e : x = .bl n := h2
    subst h1 e
    rw [RepAll.bls h3]; rfl

open Classical in
noncomputable def mask (M : List Addr) (H : Hp) : Hp := fun a => if a ∈ M then none else H a
variable {M M' : List Addr}
theorem mask_in {a : Addr} (h : a ∈ M) : mask M H a = none := if_pos h
theorem mask_out {a : Addr} (h : a ∉ M) : mask M H a = H a := if_neg h
theorem mask_some {a : Addr} {o : HO} (h : mask M H a = some o) : a ∉ M ∧ H a = some o := by
  by_cases q : a ∈ M
  · rw [mask_in q] at h; cases h
  · rw [mask_out q] at h; exact ⟨q, h⟩
theorem mask_le : Same (mask M H) H := fun _ _ h => (mask_some h).2
theorem rd_out {a : Addr} {u : HO} (h : Rd (mask M H) a u) : a ∉ M := by
  rcases h with h | ⟨_, h⟩
  · exact (mask_some h).1
  · exact (mask_some h).1
theorem mask_same (h : ∀ b o, b ∉ M → H b = some o → H' b = some o) : Same (mask M H) (mask M H') := fun b o e => by
  obtain ⟨q, e⟩ := mask_some e
  rw [mask_out q]; exact h b o q e
theorem mask_mono (h : Same H H') : Same (mask M H) (mask M H') := mask_same fun b o _ e => h b o e
theorem mask_sub (h : ∀ a ∈ M', a ∈ M) : Same (mask M H) (mask M' H) := fun b o e => by
  obtain ⟨q, e⟩ := mask_some e
  rw [mask_out fun z => q (h b z)]; exact e
theorem mask_upd {p : Addr} {o : HO} (h : p ∈ M) : mask M (upd H p o) = mask M H := by
  funext a
  by_cases q : a ∈ M
  · rw [mask_in q, mask_in q]
  · rw [mask_out q, mask_out q, upd_ne fun z => q (by rw [z]; exact h)]
theorem mask_new {p : Addr} (hp : H p = none) (e : Same H H') : Same (mask M H) (mask (p :: M) H') := fun b o h => by
  obtain ⟨q, h⟩ := mask_some h
  have : b ∉ p :: M := fun z => by
    rcases List.mem_cons.mp z with z | z
    · subst z; rw [hp] at h; cases h
    · exact q z
  rw [mask_out this]; exact e b o h

/-- what a dict of one's own holds: a value, a list of one's own -/
inductive SubV where
  | sh (d : D) | ol (ds : List D)
def SubV.dat : SubV → D
  | .sh d => d
  | .ol ds => .lst ds
/-- od: a dict of one's own whose lists are one's own, too -/
inductive SV where
  | sh (d : D) | ow (d : D) | od (ks : List Key) (ss : List SubV)
structure St3 where
  sl : List (Option SV)
  n : Nat
/-- a list, a dict that may change, at p -/
def OwnAt (K : PySem.W.Frag) (G : Gx) (M : List Addr) (H : Hp) (p : Addr) : D → Prop
  | .lst ds => ∃ xs, H p = some (.lst xs) ∧ RepAll K G (mask M H) xs ds
  | .dct ks ds => ∃ xs, H p = some (.dK (ks.zip xs)) ∧ ks.length = xs.length ∧ RepAll K G (mask M H) xs ds
  | .ins t ds => ∃ dx xs, H p = some (.ins (G.cls t) dx ((G.fld t).zip xs)) ∧ xs.length ≤ (G.fld t).length ∧ RepAll K G (mask M H) xs ds
  | .dtt ks ds => ∃ xs, H p = some (.dT (ks.zip xs)) ∧ ks.length = xs.length ∧ RepAll K G (mask M H) xs ds
  | _ => False
theorem OwnAt.al {p : Addr} : ∀ {d : D}, OwnAt K G M H p d → H p ≠ none
  | .lst _, ⟨_, h, _⟩ => by rw [h]; simp
  | .dct _ _, ⟨_, h, _⟩ => by rw [h]; simp
  | .ins _ _, ⟨_, _, h, _⟩ => by rw [h]; simp
  | .dtt _ _, ⟨_, h, _⟩ => by rw [h]; simp
theorem OwnAt.noExt {p : Addr} {φ : Heap → Prop} : ∀ {d : D}, OwnAt K G M H p d → ¬ H p = some (.ext φ)
  | .lst _, ⟨_, h, _⟩ => fun z => by rw [h] at z; cases z
  | .dct _ _, ⟨_, h, _⟩ => fun z => by rw [h] at z; cases z
  | .ins _ _, ⟨_, _, h, _⟩ => fun z => by rw [h] at z; cases z
  | .dtt _ _, ⟨_, h, _⟩ => fun z => by rw [h] at z; cases z
theorem OwnAt.nc {p : Addr} {d : D} (o : OwnAt K G M H p d) : NoCode H p := fun u h c => by
  obtain ⟨φ, rfl⟩ := c.ext
  exact o.noExt h
theorem OwnAt.to {p : Addr} (hm : Same (mask M H) (mask M' H')) (hp : ∀ o, H p = some o → H' p = some o) : ∀ {d : D}, OwnAt K G M H p d → OwnAt K G M' H' p d
  | .lst _, ⟨xs, h, r⟩ => ⟨xs, hp _ h, r.mono hm⟩
  | .dct _ _, ⟨xs, h, l, r⟩ => ⟨xs, hp _ h, l, r.mono hm⟩
  | .ins _ _, ⟨dx, xs, h, l, r⟩ => ⟨dx, xs, hp _ h, l, r.mono hm⟩
  | .dtt _ _, ⟨xs, h, l, r⟩ => ⟨xs, hp _ h, l, r.mono hm⟩
theorem OwnAt.rep {p : Addr} (hm : Same (mask M H) H1) (hp : ∀ o, H p = some o → H1 p = some o) : ∀ {d : D}, OwnAt K G M H p d → Rep K G H1 (.ref p) d
  | .lst _, ⟨xs, h, r⟩ => ⟨p, xs, rfl, hp _ h, r.mono hm⟩
  | .dct _ _, ⟨xs, h, l, r⟩ => ⟨p, xs, rfl, .inl (hp _ h), l, r.mono hm⟩
  | .ins _ _, ⟨dx, xs, h, l, r⟩ => ⟨p, dx, xs, rfl, hp _ h, l, r.mono hm⟩
  | .dtt _ _, ⟨xs, h, l, r⟩ => ⟨p, xs, rfl, hp _ h, l, r.mono hm⟩
def D.isIns : D → Bool
  | .ins _ _ => true
  | _ => false
inductive Kx where
  | ow (i : Nat) | od (i : Nat) (ks : List Key) (ss : List SubV)
instance : Coe Nat Kx := ⟨Kx.ow⟩
def isOwn (δ : St3) : Kx → Prop
  | .ow i => ∃ d : D, δ.sl[i]? = some (some (SV.ow d))
  | .od i ks ss => δ.sl[i]? = some (some (SV.od ks ss))
def SubAt (K : PySem.W.Frag) (G : Gx) (M : List Addr) (H : Hp) (x : V) : SubV → Prop
  | .sh d => Rep K G (mask M H) x d
  | .ol ds => ∃ a ys, x = .ref a ∧ H a = some (.lst ys) ∧ RepAll K G (mask M H) ys ds
def SubAll (K : PySem.W.Frag) (G : Gx) (M : List Addr) (H : Hp) : List V → List SubV → Prop
  | xs, [] => xs = []
  | xs, s :: ss => ∃ x r, xs = x :: r ∧ SubAt K G M H x s ∧ SubAll K G M H r ss
def subAd : V → SubV → List Addr
  | .ref a, .ol _ => [a]
  | _, _ => []
def subAds : List V → List SubV → List Addr
  | x :: xs, s :: ss => subAd x s ++ subAds xs ss
  | _, _ => []
theorem SubAll.to (e : Same (mask M H) (mask M' H')) : ∀ {ss : List SubV} {xs : List V}, (∀ a ∈ subAds xs ss, ∀ o, H a = some o → H' a = some o) → SubAll K G M H xs ss → SubAll K G M' H' xs ss
  | [], _, _, h => h
  | s :: ss, _, k, ⟨x, r, q, h1, h2⟩ => by
    subst q
    refine ⟨x, r, rfl, ?_, h2.to e fun a z => k a (List.mem_append_right _ z)⟩
    cases s with
    | sh d => exact Rep.mono e d h1
    | ol ds =>
      obtain ⟨a, ys, rfl, h, r⟩ := h1
      exact ⟨a, ys, rfl, k a (List.mem_append_left _ (by simp [subAd])) _ h, r.mono e⟩
theorem SubAll.rep (e : Same (mask M H) H1) : ∀ {ss : List SubV} {xs : List V}, (∀ a ∈ subAds xs ss, ∀ o, H a = some o → H1 a = some o) → SubAll K G M H xs ss → RepAll K G H1 xs (ss.map SubV.dat)
  | [], _, _, h => h
  | s :: ss, _, k, ⟨x, r, q, h1, h2⟩ => by
    subst q
    refine ⟨x, r, rfl, ?_, h2.rep e fun a z => k a (List.mem_append_right _ z)⟩
    cases s with
    | sh d => exact Rep.mono e d h1
    | ol ds =>
      obtain ⟨a, ys, rfl, h, r⟩ := h1
      exact ⟨a, ys, rfl, k a (List.mem_append_left _ (by simp [subAd])) _ h, r.mono e⟩
/-- an address of a dict of one's own, of one of its lists -/
def isOdA (am : Nat → Addr) (δ : St3) (H : Hp) (a : Addr) : Prop := ∃ i ks ss xs, δ.sl[i]? = some (some (SV.od ks ss)) ∧ H (am i) = some (.dK (ks.zip xs)) ∧ ks.length = xs.length ∧ a ∈ am i :: subAds xs ss
structure OdAt (K : PySem.W.Frag) (G : Gx) (H0 : Hp) (ads : List Addr) (am : Nat → Addr) (M : List Addr) (σ : L2.St) (δ : St3) (H : Hp) (i : Nat) (ks : List Key) (ss : List SubV) (xs : List V) : Prop where
  s : σ[i]? = some (some (.ref (am i)))
  h : H (am i) = some (.dK (ks.zip xs))
  l : ks.length = xs.length
  r : SubAll K G M H xs ss
  nd : (am i :: subAds xs ss).Nodup
  a : ∀ a ∈ am i :: subAds xs ss, a ∈ M ∧ a ∉ ads ∧ H0 a = none ∧ ∀ j : Nat, isOwn δ j → am j ≠ a
structure OdOk (K : PySem.W.Frag) (G : Gx) (H0 : Hp) (ads : List Addr) (am : Nat → Addr) (M : List Addr) (σ : L2.St) (δ : St3) (H : Hp) : Prop where
  at' : ∀ (i : Nat) (ks : List Key) (ss : List SubV), δ.sl[i]? = some (some (SV.od ks ss)) → ∃ xs, OdAt K G H0 ads am M σ δ H i ks ss xs
  one : ∀ (i j : Nat) (ks : List Key) (ss : List SubV) (ks' : List Key) (ss' : List SubV), δ.sl[i]? = some (some (SV.od ks ss)) → δ.sl[j]? = some (some (SV.od ks' ss')) → i = j
theorem zip_inj {α β : Type} : ∀ {ks : List α} {xs ys : List β}, ks.length = xs.length → ks.length = ys.length → ks.zip xs = ks.zip ys → xs = ys
  | [], [], [], _, _, _ => rfl
  | [], _ :: _, _, h, _, _ => by simp at h
  | [], [], _ :: _, _, h, _ => by simp at h
  | _ :: _, [], _, h, _, _ => by simp at h
  | _ :: _, _ :: _, [], _, h, _ => by simp at h
  | k :: ks, x :: xs, y :: ys, h1, h2, e => by
    simp only [List.zip_cons_cons, List.cons.injEq, Prod.mk.injEq, true_and] at e
    rw [e.1, zip_inj (ks := ks) (by simpa using h1) (by simpa using h2) e.2]
theorem OdOk.isA {H0 : Hp} {ads : List Addr} {am : Nat → Addr} {σ : L2.St} {δ : St3} (O : OdOk K G H0 ads am M σ δ H) {a : Addr} (h : isOdA am δ H a) : a ∈ M ∧ a ∉ ads ∧ H0 a = none ∧ ∀ j : Nat, isOwn δ j → am j ≠ a := by
  obtain ⟨i, ks, ss, xs, h1, h2, h3, h4⟩ := h
  obtain ⟨ys, o⟩ := O.at' i ks ss h1
  have e := o.h
  rw [h2] at e
  simp only [Option.some.injEq, HO.dK.injEq] at e
  have e := zip_inj h3 o.l e
  subst e
  exact o.a a h4
theorem OdOk.none {H0 : Hp} {ads : List Addr} {am : Nat → Addr} {σ : L2.St} {δ : St3} (h : ∀ (i : Nat) (ks : List Key) (ss : List SubV), δ.sl[i]? ≠ some (some (SV.od ks ss))) : OdOk K G H0 ads am M σ δ H := ⟨fun i ks ss z => absurd z (h i ks ss), fun i j ks ss ks' ss' z _ => absurd z (h i ks ss)⟩
theorem OdOk.keep {H0 H0' : Hp} {ads ads' : List Addr} {am am' : Nat → Addr} {σ σ' : L2.St} {δ δ' : St3} (O : OdOk K G H0 ads am M σ δ H)
    (h1 : ∀ (i : Nat) (ks : List Key) (ss : List SubV), δ'.sl[i]? = some (some (SV.od ks ss)) → δ.sl[i]? = some (some (SV.od ks ss)) ∧ σ'[i]? = σ[i]? ∧ am' i = am i)
    (hA : ∀ a, isOdA am δ H a → a ∈ M → a ∉ ads → H0 a = Option.none → (∀ j : Nat, isOwn δ j → am j ≠ a) → a ∈ M' ∧ a ∉ ads' ∧ H0' a = Option.none ∧ (∀ o, H a = some o → H' a = some o) ∧ ∀ j : Nat, isOwn δ' j → am' j ≠ a)
    (hm : Same (mask M H) (mask M' H')) : OdOk K G H0' ads' am' M' σ' δ' H' := by
  refine ⟨fun i ks ss z => ?_, fun i j ks ss ks' ss' z w => O.one i j ks ss ks' ss' (h1 i ks ss z).1 (h1 j ks' ss' w).1⟩
  obtain ⟨z, e1, e2⟩ := h1 i ks ss z
  obtain ⟨xs, o⟩ := O.at' i ks ss z
  have A : ∀ a ∈ am i :: subAds xs ss, a ∈ M' ∧ a ∉ ads' ∧ H0' a = Option.none ∧ (∀ o, H a = some o → H' a = some o) ∧ ∀ j : Nat, isOwn δ' j → am' j ≠ a := fun a ha => by
    obtain ⟨q1, q2, q3, q4⟩ := o.a a ha
    exact hA a ⟨i, ks, ss, xs, z, o.h, o.l, ha⟩ q1 q2 q3 q4
  refine ⟨xs, by rw [e1, e2]; exact o.s, by rw [e2]; exact (A _ List.mem_cons_self).2.2.2.1 _ o.h, o.l, o.r.to hm fun a ha => (A a (List.mem_cons_of_mem _ ha)).2.2.2.1, by rw [e2]; exact o.nd, fun a ha => ?_⟩
  rw [e2] at ha
  obtain ⟨q1, q2, q3, _, q4⟩ := A a ha
  exact ⟨q1, q2, q3, q4⟩
structure SR (K : PySem.W.Frag) (G : Gx) (E : Ent) (am : Nat → Addr) (M : List Addr) (σ : L2.St) (δ : St3) (H : Hp) : Prop where
  len : σ.length = δ.sl.length
  sh : ∀ (i : Nat) (d : D), δ.sl[i]? = some (some (SV.sh d)) → ∃ v, σ[i]? = some (some v) ∧ Rep K G (mask M H) v d
  ow : ∀ (i : Nat) (d : D), δ.sl[i]? = some (some (SV.ow d)) → σ[i]? = some (some (.ref (am i))) ∧ am i ∈ M ∧ am i ∉ E.ads ∧ E.H0 (am i) = none ∧ OwnAt K G M H (am i) d
  inj : ∀ i j : Nat, isOwn δ i → isOwn δ j → am i = am j → i = j
  ads : ∀ a ∈ E.ads, a ∈ M
  dks : ∀ a ∈ G.dk, a ∈ E.ads
  al : ∀ a ∈ M, H a ≠ none
  base : ∀ b o, E.H0 b = some o → b ∉ G.dk → H b = some o
  di : G.DI δ.n H
  gh : ∀ p ∈ E.gh, Rep K G (mask M H) p.1 p.2
  slf : ∀ x, E.slf = some x → ∀ d, δ.sl[0]? = some (some (SV.ow d)) → d.isIns = true → am 0 = x
  od : OdOk K G E.H0 E.ads am M σ δ H
  mc : ∀ a ∈ M, NoCode H a
  ok : G.okE E
/-- what an expression's run may change: the deck, the own lists -/
def Ext (G : Gx) (am : Nat → Addr) (δ : St3) (H H' : Hp) : Prop := ∀ b o, H b = some o → b ∉ G.dk → (∀ i : Nat, isOwn δ i → am i ≠ b) → H' b = some o
variable {E : Ent} {am : Nat → Addr} {σ : L2.St} {δ δ' δ1 δ2 : St3}
theorem Ext.of (h : Same H H') : Ext G am δ H H' := fun b o e _ _ => h b o e
theorem Ext.refl : Ext G am δ H H := fun _ _ e _ _ => e
theorem Ext.trans (a : Ext G am δ H H1) (o : ∀ i, isOwn δ1 i → isOwn δ i) (b : Ext G am δ1 H1 H2) : Ext G am δ H H2 := fun x u e h1 h2 => b x u (a x u e h1 h2) h1 fun i hi => h2 i (o i hi)
theorem SR.mask (S : SR K G E am M σ δ H) (e : Ext G am δ H H') : Same (mask M H) (mask M H') := mask_same fun b o q h =>
  e b o h (fun z => q (S.ads b (S.dks b z))) fun i ⟨d, hi⟩ z => q (z ▸ (S.ow i d hi).2.1)
theorem SR.grow (S : SR K G E am M σ δ H) (e : Same H H') : SR K G E am M σ δ H' where
  len := S.len
  sh := fun i d h => let ⟨v, a, b⟩ := S.sh i d h; ⟨v, a, b.mono (mask_mono e)⟩
  ow := fun i d h => let ⟨a, b, c, f, g⟩ := S.ow i d h; ⟨a, b, c, f, g.to (mask_mono e) fun o => e _ o⟩
  inj := S.inj
  ads := S.ads
  dks := S.dks
  al := fun a h z => by
    cases q : H a with
    | none => exact S.al a h q
    | some o => rw [e a o q] at z; cases z
  base := fun b o h k => e b o (S.base b o h k)
  di := G.frame _ _ _ (fun a o _ h => e a o h) S.di
  gh := fun p h => (S.gh p h).mono (mask_mono e)
  slf := S.slf
  od := S.od.keep (fun _ _ _ z => ⟨z, rfl, rfl⟩) (fun a _ h1 h2 h3 h4 => ⟨h1, h2, h3, fun o => e a o, h4⟩) (mask_mono e)
  mc := fun a h => (S.mc a h).same (S.al a h) fun o => e a o
  ok := S.ok
/-- one more thing that is not leant on -/
theorem SR.more {p : Addr} (S : SR K G E am M σ δ H) (hp : H p = none) (e : Same H H') (hn : H' p ≠ none) (hx : NoCode H' p := by exact NoCode.of upd_same fun _ => HO.noConfusion) : SR K G E am (p :: M) σ δ H' where
  len := S.len
  sh := fun i d h => let ⟨v, a, b⟩ := S.sh i d h; ⟨v, a, b.mono (mask_new hp e)⟩
  ow := fun i d h => let ⟨a, b, c, f, g⟩ := S.ow i d h; ⟨a, List.mem_cons_of_mem _ b, c, f, g.to (mask_new hp e) fun o => e _ o⟩
  inj := S.inj
  ads := fun a h => List.mem_cons_of_mem _ (S.ads a h)
  dks := S.dks
  al := fun a h z => by
    rcases List.mem_cons.mp h with h | h
    · subst h; exact hn z
    · cases q : H a with
      | none => exact S.al a h q
      | some o => rw [e a o q] at z; cases z
  base := fun b o h k => e b o (S.base b o h k)
  di := G.frame _ _ _ (fun a o _ h => e a o h) S.di
  gh := fun p h => (S.gh p h).mono (mask_new hp e)
  slf := S.slf
  od := S.od.keep (fun _ _ _ z => ⟨z, rfl, rfl⟩) (fun a _ h1 h2 h3 h4 => ⟨List.mem_cons_of_mem _ h1, h2, h3, fun o => e a o, h4⟩) (mask_new hp e)
  mc := fun a h => by
    rcases List.mem_cons.mp h with h | h
    · subst h; exact hx
    · exact (S.mc a h).same (S.al a h) fun o => e a o
  ok := S.ok
/-- the deck may change -/
theorem SR.after {n : Nat} (S : SR K G E am M σ δ H) (e : ∀ b o, H b = some o → b ∉ G.dk → H' b = some o) (di : G.DI n H') : SR K G E am M σ ⟨δ.sl, n⟩ H' where
  len := S.len
  sh := fun i d h => let ⟨v, a, b⟩ := S.sh i d h; ⟨v, a, b.mono (mask_same fun b o q h => e b o h fun z => q (S.ads b (S.dks b z)))⟩
  ow := fun i d h => let ⟨a, b, c, f, g⟩ := S.ow i d h; ⟨a, b, c, f, g.to (mask_same fun b o q h => e b o h fun z => q (S.ads b (S.dks b z))) fun o h => e _ o h fun z => c (S.dks _ z)⟩
  inj := S.inj
  ads := S.ads
  dks := S.dks
  al := fun a h z => by
    by_cases k : a ∈ G.dk
    · exact G.dal _ _ di a k z
    · cases q : H a with
      | none => exact S.al a h q
      | some o => rw [e a o q k] at z; cases z
  base := fun b o h k => e b o (S.base b o h k) k
  di := di
  gh := fun p h => (S.gh p h).mono (mask_same fun b o q h => e b o h fun z => q (S.ads b (S.dks b z)))
  slf := S.slf
  od := S.od.keep (fun _ _ _ z => ⟨z, rfl, rfl⟩) (fun a _ h1 h2 h3 h4 => ⟨h1, h2, h3, fun o h => e a o h fun z => h2 (S.dks a z), h4⟩) (mask_same fun b o q h => e b o h fun z => q (S.ads b (S.dks b z)))
  mc := fun a h => by
    by_cases k : a ∈ G.dk
    · exact G.dnc _ _ di a k
    · exact (S.mc a h).same (S.al a h) fun o q => e a o q k
  ok := S.ok
theorem get_set {α : Type} {l : List α} {i j : Nat} {x y : α} (h : (l.set i x)[j]? = some y) : (j = i ∧ y = x) ∨ (j ≠ i ∧ l[j]? = some y) := by
  by_cases e : i = j
  · subst e
    rw [List.getElem?_set_self'] at h
    cases q : l[i]? with
    | none => rw [q] at h; cases h
    | some z => rw [q] at h; exact .inl ⟨rfl, (Option.some.inj h).symm⟩
  · rw [List.getElem?_set_ne e] at h
    exact .inr ⟨fun z => e z.symm, h⟩
theorem set_get {α β : Type} {l : List α} {m : List β} {i : Nat} {x : α} {y : β} {z : β} (hl : l.length = m.length) (h : (m.set i y)[i]? = some z) : (l.set i x)[i]? = some x := by
  have : i < m.length := by
    have := (List.getElem?_eq_some_iff.mp h).1
    rwa [List.length_set] at this
  rw [List.getElem?_set_self (by omega)]
theorem SR.set_sh {i : Nat} (S : SR K G E am M σ δ H) (r : Rep K G (L3.mask M H) v d) : SR K G E am M (σ.set i (some v)) ⟨δ.sl.set i (some (.sh d)), δ.n⟩ H where
  len := by simp [S.len]
  sh := fun j e h => by
    rcases get_set h with ⟨q, z⟩ | ⟨q, z⟩
    · subst q
      injection z with z; injection z with z
      subst z
      exact ⟨v, set_get S.len h, r⟩
    · rw [List.getElem?_set_ne (Ne.symm q)]; exact S.sh j e z
  ow := fun j e h => by
    rcases get_set h with ⟨q, z⟩ | ⟨q, z⟩
    · injection z with z; cases z
    · rw [List.getElem?_set_ne (Ne.symm q)]; exact S.ow j e z
  inj := fun a b ⟨x, ha⟩ ⟨y, hb⟩ => by
    rcases get_set ha with ⟨_, z⟩ | ⟨_, ha⟩
    · injection z with z; cases z
    · rcases get_set hb with ⟨_, z⟩ | ⟨_, hb⟩
      · injection z with z; cases z
      · exact S.inj a b ⟨x, ha⟩ ⟨y, hb⟩
  ads := S.ads
  dks := S.dks
  al := S.al
  base := S.base
  di := S.di
  gh := S.gh
  slf := fun x hx d' h k => by
    rcases get_set h with ⟨_, z⟩ | ⟨_, z⟩
    · first | cases z | (injection z with z; cases z)
    · exact S.slf x hx d' z k
  od := S.od.keep (fun j ks ss h => by
    rcases get_set h with ⟨_, z⟩ | ⟨q, z⟩
    · injection z with z; cases z
    · exact ⟨z, List.getElem?_set_ne (Ne.symm q), rfl⟩) (fun a _ h1 h2 h3 h4 => ⟨h1, h2, h3, fun o h => h, fun j ⟨d, h⟩ => by
    rcases get_set h with ⟨_, z⟩ | ⟨_, z⟩
    · injection z with z; cases z
    · exact h4 j ⟨d, z⟩⟩) (Same.refl _)
  mc := S.mc
  ok := S.ok
theorem SR.set_none {i : Nat} (S : SR K G E am M σ δ H) : SR K G E am M (σ.set i none) ⟨δ.sl.set i none, δ.n⟩ H where
  len := by simp [S.len]
  sh := fun j e h => by
    rcases get_set h with ⟨q, z⟩ | ⟨q, z⟩
    · cases z
    · rw [List.getElem?_set_ne (Ne.symm q)]; exact S.sh j e z
  ow := fun j e h => by
    rcases get_set h with ⟨q, z⟩ | ⟨q, z⟩
    · cases z
    · rw [List.getElem?_set_ne (Ne.symm q)]; exact S.ow j e z
  inj := fun a b ⟨x, ha⟩ ⟨y, hb⟩ => by
    rcases get_set ha with ⟨_, z⟩ | ⟨_, ha⟩
    · cases z
    · rcases get_set hb with ⟨_, z⟩ | ⟨_, hb⟩
      · cases z
      · exact S.inj a b ⟨x, ha⟩ ⟨y, hb⟩
  ads := S.ads
  dks := S.dks
  al := S.al
  base := S.base
  di := S.di
  gh := S.gh
  slf := fun x hx d' h k => by
    rcases get_set h with ⟨_, z⟩ | ⟨_, z⟩
    · first | cases z | (injection z with z; cases z)
    · exact S.slf x hx d' z k
  od := S.od.keep (fun j ks ss h => by
    rcases get_set h with ⟨_, z⟩ | ⟨q, z⟩
    · cases z
    · exact ⟨z, List.getElem?_set_ne (Ne.symm q), rfl⟩) (fun a _ h1 h2 h3 h4 => ⟨h1, h2, h3, fun o h => h, fun j ⟨d, h⟩ => by
    rcases get_set h with ⟨_, z⟩ | ⟨_, z⟩
    · cases z
    · exact h4 j ⟨d, z⟩⟩) (Same.refl _)
  mc := S.mc
  ok := S.ok
/-- a slot takes a list that nothing holds (p is among what is not leant on) -/
theorem SR.set_ow {i : Nat} {p : Addr} (S : SR K G E am M σ δ H) (hp : p ∈ M) (ha : p ∉ E.ads) (hm : ∀ (j : Nat) (d : D), δ.sl[j]? = some (some (SV.ow d)) → am j ≠ p) (h0 : E.H0 p = none) (o : OwnAt K G M H p d) (nins : d.isIns = false) (hq : ∀ a, isOdA am δ H a → p ≠ a) :
    SR K G E (fun j => if j = i then p else am j) M (σ.set i (some (.ref p))) ⟨δ.sl.set i (some (.ow d)), δ.n⟩ H where
  len := by simp [S.len]
  sh := fun j e h => by
    rcases get_set h with ⟨q, z⟩ | ⟨q, z⟩
    · injection z with z; cases z
    · rw [List.getElem?_set_ne (Ne.symm q)]; exact S.sh j e z
  ow := fun j e h => by
    rcases get_set h with ⟨q, z⟩ | ⟨q, z⟩
    · subst q
      injection z with z; injection z with z
      subst z
      rw [if_pos rfl]
      exact ⟨set_get S.len h, hp, ha, h0, o⟩
    · rw [List.getElem?_set_ne (Ne.symm q), if_neg q]; exact S.ow j e z
  inj := fun a b ⟨x, hA⟩ ⟨y, hB⟩ e => by
    rcases get_set hA with ⟨q1, z⟩ | ⟨q1, hA⟩
    · rcases get_set hB with ⟨q2, z⟩ | ⟨q2, hB⟩
      · exact q1.trans q2.symm
      · rw [if_pos q1, if_neg q2] at e
        exact absurd e.symm (hm b y hB)
    · rcases get_set hB with ⟨q2, z⟩ | ⟨q2, hB⟩
      · rw [if_neg q1, if_pos q2] at e
        exact absurd e (hm a x hA)
      · rw [if_neg q1, if_neg q2] at e
        exact S.inj a b ⟨x, hA⟩ ⟨y, hB⟩ e
  ads := S.ads
  dks := S.dks
  al := S.al
  base := S.base
  di := S.di
  gh := S.gh
  slf := fun x hx d' h k => by
    rcases get_set h with ⟨_, z⟩ | ⟨q, z⟩
    · injection z with z
      injection z with z
      subst z
      rw [nins] at k
      cases k
    · rw [if_neg q]; exact S.slf x hx d' z k
  od := S.od.keep (fun j ks ss h => by
    rcases get_set h with ⟨_, z⟩ | ⟨q, z⟩
    · injection z with z; cases z
    · exact ⟨z, List.getElem?_set_ne (Ne.symm q), by rw [if_neg q]⟩) (fun a ha h1 h2 h3 h4 => ⟨h1, h2, h3, fun o h => h, fun j ⟨d, h⟩ => by
    rcases get_set h with ⟨q, _⟩ | ⟨q, z⟩
    · rw [if_pos q]; exact hq a ha
    · rw [if_neg q]; exact h4 j ⟨d, z⟩⟩) (Same.refl _)
  mc := S.mc
  ok := S.ok
/-- leant on again -/
theorem SR.less (S : SR K G E am M σ δ H) (hs : ∀ a ∈ M', a ∈ M) (ha : ∀ a ∈ E.ads, a ∈ M') (hm : ∀ (j : Nat) (d : D), δ.sl[j]? = some (some (SV.ow d)) → am j ∈ M') (hq : ∀ a, isOdA am δ H a → a ∈ M') : SR K G E am M' σ δ H where
  len := S.len
  sh := fun j e h => let ⟨v, a, b⟩ := S.sh j e h; ⟨v, a, b.mono (mask_sub hs)⟩
  ow := fun j e h => let ⟨a, b, c, f, g⟩ := S.ow j e h; ⟨a, hm j e h, c, f, g.to (mask_sub hs) fun o e => e⟩
  inj := S.inj
  ads := ha
  dks := S.dks
  al := fun a h => S.al a (hs a h)
  base := S.base
  di := S.di
  gh := fun p h => (S.gh p h).mono (mask_sub hs)
  slf := S.slf
  od := S.od.keep (fun _ _ _ z => ⟨z, rfl, rfl⟩) (fun a ha h1 h2 h3 h4 => ⟨hq a ha, h2, h3, fun o h => h, h4⟩) (mask_sub hs)
  mc := fun a h => S.mc a (hs a h)
  ok := S.ok
theorem SR.ungh {l l' : List (V × D)} {H0 : Hp} {ads : List Addr} {sf : Option Addr} (S : SR K G ⟨H0, ads, l, sf⟩ am M σ δ H) (h : ∀ p ∈ l', p ∈ l) (ok : G.okE ⟨H0, ads, l', sf⟩) : SR K G ⟨H0, ads, l', sf⟩ am M σ δ H :=
  ⟨S.len, S.sh, S.ow, S.inj, S.ads, S.dks, S.al, S.base, S.di, fun p hp => S.gh p (h p hp), S.slf, S.od, S.mc, ok⟩
theorem SR.addgh {l : List (V × D)} {H0 : Hp} {ads : List Addr} {sf : Option Addr} (S : SR K G ⟨H0, ads, l, sf⟩ am M σ δ H) (l' : List (V × D)) (h : ∀ p ∈ l', Rep K G (L3.mask M H) p.1 p.2) : SR K G ⟨H0, ads, l' ++ l, sf⟩ am M σ δ H :=
  ⟨S.len, S.sh, S.ow, S.inj, S.ads, S.dks, S.al, S.base, S.di, fun p hp => (List.mem_append.mp hp).elim (h p) (S.gh p), S.slf, S.od, S.mc, G.okA _ l' S.ok⟩
/-- an own list changes -/
theorem SR.mut {i : Nat} {o : HO} {d' : D} (S : SR K G E am M σ δ H) (h : δ.sl[i]? = some (some (.ow d))) (ho : OwnAt K G M (upd H (am i) o) (am i) d') (hi : d'.isIns = d.isIns) : SR K G E am M σ ⟨δ.sl.set i (some (.ow d')), δ.n⟩ (upd H (am i) o) := by
  obtain ⟨h1, h2, h3, h4, h5⟩ := S.ow i d h
  refine ⟨by simp [S.len], fun j e hj => ?_, fun j e hj => ?_, fun a b ⟨x, ha⟩ ⟨y, hb⟩ e => ?_, S.ads, S.dks, fun a ha => ?_, fun b u hb k => ?_, ?_, fun p hp => by rw [mask_upd h2]; exact S.gh p hp, fun x hx e hj k => ?_, ?_, fun a ha => ?_, S.ok⟩
  · rcases get_set hj with ⟨q, z⟩ | ⟨q, z⟩
    · injection z with z; cases z
    · rw [mask_upd h2]; exact S.sh j e z
  · rcases get_set hj with ⟨q, z⟩ | ⟨q, z⟩
    · subst q
      injection z with z; injection z with z
      subst z
      exact ⟨h1, h2, h3, h4, ho⟩
    · obtain ⟨a, b, c, f, g⟩ := S.ow j e z
      have ne : am j ≠ am i := fun w => q (S.inj j i ⟨_, z⟩ ⟨_, h⟩ w)
      refine ⟨a, b, c, f, g.to (by rw [mask_upd h2]; exact Same.refl _) fun o e => ?_⟩
      rw [upd_ne ne]; exact e
  · have w : ∀ k : Nat, isOwn ⟨δ.sl.set i (some (.ow d')), δ.n⟩ k → isOwn δ k := fun k ⟨x, hk⟩ => by
      rcases get_set hk with ⟨q, z⟩ | ⟨q, z⟩
      · subst q; exact ⟨_, h⟩
      · exact ⟨_, z⟩
    exact S.inj a b (w a ⟨x, ha⟩) (w b ⟨y, hb⟩) e
  · by_cases q : a = am i
    · subst q; rw [upd_same]; simp
    · rw [upd_ne q]; exact S.al a ha
  · have ne : b ≠ am i := fun z => by subst z; rw [h4] at hb; cases hb
    rw [upd_ne ne]; exact S.base b u hb k
  · refine G.frame _ _ _ (fun a u ha e => ?_) S.di
    have ne : a ≠ am i := fun z => by
      rcases ha with ha | ha
      · exact h3 (z ▸ S.dks a ha)
      · obtain ⟨φ, rfl⟩ := ha.ext
        exact h5.noExt (by rw [← z]; exact e)
    rw [upd_ne ne]; exact e
  · rcases get_set hj with ⟨q, z⟩ | ⟨_, z⟩
    · subst q
      injection z with z
      injection z with z
      subst z
      exact S.slf x hx d h (hi ▸ k)
    · exact S.slf x hx e z k
  · refine S.od.keep (fun j ks ss h => ?_) (fun a ha q1 q2 q3 q4 => ⟨q1, q2, q3, fun u hu => ?_, fun j ⟨d, h'⟩ => ?_⟩) (by rw [mask_upd h2]; exact Same.refl _)
    · rcases get_set h with ⟨_, z⟩ | ⟨q, z⟩
      · injection z with z; cases z
      · exact ⟨z, rfl, rfl⟩
    · rw [upd_ne fun z => q4 i ⟨_, h⟩ z.symm]; exact hu
    · rcases get_set h' with ⟨q, _⟩ | ⟨_, z⟩
      · subst q; exact q4 j ⟨_, h⟩
      · exact q4 j ⟨d, z⟩
  · by_cases q : a = am i
    · subst q; exact ho.nc
    · exact (S.mc a ha).same (S.al a ha) fun o e => by rw [upd_ne q]; exact e
/-- leant on again: an own list is given away -/
theorem SR.free {i : Nat} (S : SR K G E am M σ δ H) (h : δ.sl[i]? = some (some (.ow d))) : ∃ M', (∀ a ∈ M', a ∈ M) ∧ SR K G E am M' σ ⟨δ.sl.set i (some (.sh d)), δ.n⟩ H := by
  obtain ⟨h1, h2, h3, h4, h5⟩ := S.ow i d h
  classical
  have sub : ∀ a ∈ M.filter (fun a => decide (a ≠ am i)), a ∈ M := fun a ha => (List.mem_filter.mp ha).1
  have ins : ∀ a ∈ M, a ≠ am i → a ∈ M.filter (fun a => decide (a ≠ am i)) := fun a ha q => List.mem_filter.mpr ⟨ha, decide_eq_true q⟩
  have le : Same (L3.mask M H) (L3.mask (M.filter fun a => decide (a ≠ am i)) H) := mask_sub sub
  have out : am i ∉ M.filter (fun a => decide (a ≠ am i)) := fun z => of_decide_eq_true (List.mem_filter.mp z).2 rfl
  have own : ∀ k : Nat, isOwn ⟨δ.sl.set i (some (.sh d)), δ.n⟩ k → isOwn δ k := fun k ⟨x, hk⟩ => by
    rcases get_set hk with ⟨q, z⟩ | ⟨q, z⟩
    · injection z with z; cases z
    · exact ⟨_, z⟩
  refine ⟨M.filter fun a => decide (a ≠ am i), sub, by simp [S.len], fun j e hj => ?_, fun j e hj => ?_, fun a b ha hb e => S.inj a b (own a ha) (own b hb) e, fun a ha => ?_, S.dks, fun a ha => S.al a (sub a ha), S.base, S.di, fun p hp => (S.gh p hp).mono le, fun x hx e hj k => ?_, ?_, fun a ha => S.mc a (sub a ha), S.ok⟩
  · rcases get_set hj with ⟨q, z⟩ | ⟨q, z⟩
    · subst q
      injection z with z; injection z with z
      subst z
      refine ⟨_, h1, h5.rep le fun o e => ?_⟩
      rw [mask_out out]; exact e
    · obtain ⟨v, a, b⟩ := S.sh j e z
      exact ⟨v, a, b.mono le⟩
  · rcases get_set hj with ⟨q, z⟩ | ⟨q, z⟩
    · injection z with z; cases z
    · obtain ⟨a, b, c, f, g⟩ := S.ow j e z
      have ne : am j ≠ am i := fun w => q (S.inj j i ⟨_, z⟩ ⟨_, h⟩ w)
      exact ⟨a, ins _ b ne, c, f, g.to le fun o e => e⟩
  · exact ins a (S.ads a ha) fun z => h3 (z ▸ ha)
  · rcases get_set hj with ⟨_, z⟩ | ⟨_, z⟩
    · injection z with z; cases z
    · exact S.slf x hx e z k
  · refine S.od.keep (fun j ks ss h => ?_) (fun a ha q1 q2 q3 q4 => ⟨ins a q1 fun z => q4 i ⟨_, h⟩ z.symm, q2, q3, fun u hu => hu, fun j hj => q4 j (own j hj)⟩) le
    rcases get_set h with ⟨_, z⟩ | ⟨q, z⟩
    · injection z with z; cases z
    · exact ⟨z, rfl, rfl⟩
/-- leant on again: a dict of one's own with its lists -/
theorem SR.freeOd {i : Nat} {ks : List Key} {ss : List SubV} (S : SR K G E am M σ δ H) (h : δ.sl[i]? = some (some (.od ks ss))) : ∃ M', (∀ a ∈ M', a ∈ M) ∧ SR K G E am M' σ ⟨δ.sl.set i (some (.sh (.dct ks (ss.map SubV.dat)))), δ.n⟩ H := by
  obtain ⟨xs, o⟩ := S.od.at' i ks ss h
  classical
  have sub : ∀ a ∈ M.filter (fun a => decide (a ∉ am i :: subAds xs ss)), a ∈ M := fun a ha => (List.mem_filter.mp ha).1
  have ins : ∀ a ∈ M, a ∉ am i :: subAds xs ss → a ∈ M.filter (fun a => decide (a ∉ am i :: subAds xs ss)) := fun a ha q => List.mem_filter.mpr ⟨ha, decide_eq_true q⟩
  have le : Same (L3.mask M H) (L3.mask (M.filter fun a => decide (a ∉ am i :: subAds xs ss)) H) := mask_sub sub
  have out : ∀ a ∈ am i :: subAds xs ss, a ∉ M.filter (fun a => decide (a ∉ am i :: subAds xs ss)) := fun a ha z => of_decide_eq_true (List.mem_filter.mp z).2 ha
  have own : ∀ k : Nat, isOwn ⟨δ.sl.set i (some (.sh (.dct ks (ss.map SubV.dat)))), δ.n⟩ k → isOwn δ k := fun k ⟨x, hk⟩ => by
    rcases get_set hk with ⟨q, z⟩ | ⟨q, z⟩
    · injection z with z; cases z
    · exact ⟨_, z⟩
  refine ⟨M.filter fun a => decide (a ∉ am i :: subAds xs ss), sub, by simp [S.len], fun j e hj => ?_, fun j e hj => ?_, fun a b ha hb e => S.inj a b (own a ha) (own b hb) e, fun a ha => ?_, S.dks, fun a ha => S.al a (sub a ha), S.base, S.di, fun p hp => (S.gh p hp).mono le, fun x hx e hj k => ?_, ?_, fun a ha => S.mc a (sub a ha), S.ok⟩
  · rcases get_set hj with ⟨q, z⟩ | ⟨q, z⟩
    · subst q
      injection z with z; injection z with z
      subst z
      refine ⟨_, o.s, am j, xs, rfl, .inl ?_, o.l, o.r.rep le fun a ha u hu => ?_⟩
      · rw [mask_out (out _ List.mem_cons_self)]; exact o.h
      · rw [mask_out (out _ (List.mem_cons_of_mem _ ha))]; exact hu
    · obtain ⟨v, a, b⟩ := S.sh j e z
      exact ⟨v, a, b.mono le⟩
  · rcases get_set hj with ⟨q, z⟩ | ⟨q, z⟩
    · injection z with z; cases z
    · obtain ⟨a, b, c, f, g⟩ := S.ow j e z
      exact ⟨a, ins _ b fun z' => (o.a _ z').2.2.2 j ⟨_, z⟩ rfl, c, f, g.to le fun o e => e⟩
  · exact ins a (S.ads a ha) fun z => (o.a _ z).2.1 ha
  · rcases get_set hj with ⟨_, z⟩ | ⟨_, z⟩
    · injection z with z; cases z
    · exact S.slf x hx e z k
  · refine OdOk.none fun j ks' ss' z => ?_
    rcases get_set z with ⟨_, z⟩ | ⟨q, z⟩
    · injection z with z; cases z
    · exact q (S.od.one j i ks' ss' ks ss z h)
end L3
namespace L3
open PySem L2
/-- a value that may be kept; a new list (dict) that nothing holds; an own one that is only looked at -/
inductive RD where
  | sh (d : D) | fr (d : D) | bo (d : D)
def RD.d : RD → D
  | .sh d => d
  | .fr d => d
  | .bo d => d
@[simp] theorem RD.d_0  (d : D) : RD.d (RD.sh d) = (d) := rfl
@[simp] theorem RD.d_1  (d : D) : RD.d (RD.fr d) = (d) := rfl
@[simp] theorem RD.d_2  (d : D) : RD.d (RD.bo d) = (d) := rfl
def RD.bor : RD → Prop
  | .bo _ => True
  | _ => False
@[simp] theorem RD.bor_0 (d : D) : RD.bor (RD.bo d) = True := rfl
@[simp] theorem RD.bor_sh (d : D) : RD.bor (.sh d) = False := rfl
@[simp] theorem RD.bor_fr (d : D) : RD.bor (.fr d) = False := rfl
abbrev WE := St3 → (RD → St3 → Prop) → Prop
abbrev WT := St3 → (Bool → St3 → Prop) → Prop
abbrev WA := St3 → (List RD → St3 → Prop) → Prop
structure Ends3 where
  nx : St3 → Prop
  rt : D → Nat → Prop
  bk : St3 → Prop
  ct : St3 → Prop
abbrev WS := Ends3 → St3 → Prop
section
variable {K : PySem.W.Frag} {G : Gx} {H H' H1 H2 H3 : Hp} {v x y : V} {d e : D} {M M' : List Addr} {E : Ent} {am : Nat → Addr} {σ : L2.St} {δ δ' δ1 δ2 δ3 : St3}
/-- readable now -/
def RB (K : PySem.W.Frag) (G : Gx) (M : List Addr) (H : Hp) (v : V) (d : D) : Prop := Rep K G (mask M H) v d ∨ ∃ p, v = .ref p ∧ OwnAt K G M H p d
theorem RB.full (h : RB K G M H v d) : Rep K G H v d := by
  rcases h with h | ⟨p, rfl, h⟩
  · exact h.mono mask_le
  · exact h.rep mask_le fun _ e => e
theorem RB.lst {ds : List D} (h : RB K G M H v (.lst ds)) : ∃ p xs, v = .ref p ∧ H p = some (.lst xs) ∧ RepAll K G (mask M H) xs ds := by
  rcases h with ⟨p, xs, e, q, r⟩ | ⟨p, e, xs, q, r⟩
  · exact ⟨p, xs, e, mask_le _ _ q, r⟩
  · exact ⟨p, xs, e, q, r⟩
theorem RB.tup {ds : List D} (h : RB K G M H v (.tup ds)) : ∃ p xs, v = .ref p ∧ SqT K H p xs ∧ RepAll K G (mask M H) xs ds := by
  rcases h with ⟨p, xs, e, q, r⟩ | ⟨p, e, q⟩
  · exact ⟨p, xs, e, same_t mask_le q, r⟩
  · exact q.elim
theorem RB.dct {ks : List Key} {ds : List D} (h : RB K G M H v (.dct ks ds)) : ∃ p xs, v = .ref p ∧ Rd H p (.dK (ks.zip xs)) ∧ ks.length = xs.length ∧ RepAll K G (mask M H) xs ds := by
  rcases h with ⟨p, xs, e, q, l, r⟩ | ⟨p, e, xs, q, l, r⟩
  · exact ⟨p, xs, e, rd_same mask_le q, l, r⟩
  · exact ⟨p, xs, e, .inl q, l, r⟩
theorem RB.int {i : Int} (h : RB K G M H v (.int i)) : v = .int i := h.full
theorem RB.bl {i : Bool} (h : RB K G M H v (.bl i)) : v = .bl i := h.full
theorem RB.str {i : Str} (h : RB K G M H v (.str i)) : v = .str i := h.full
theorem RB.non (h : RB K G M H v .non) : v = .non := h.full
/-- a list of one's own, one that a dict of one's own holds -/
def BoAt (am : Nat → Addr) (δ : St3) (H : Hp) (v : V) (d : D) : Prop := (∃ i : Nat, δ.sl[i]? = some (some (SV.ow d)) ∧ v = .ref (am i)) ∨
  ∃ (i j : Nat) (ks : List Key) (ss : List SubV) (xs : List V) (es : List D), δ.sl[i]? = some (some (SV.od ks ss)) ∧ H (am i) = some (.dK (ks.zip xs)) ∧ ks.length = xs.length ∧ xs[j]? = some v ∧ ss[j]? = some (.ol es) ∧ d = .lst es
theorem SubAll.get {K : PySem.W.Frag} {G : Gx} {M : List Addr} {H : Hp} : ∀ {ss : List SubV} {xs : List V} {j : Nat} {s : SubV}, SubAll K G M H xs ss → ss[j]? = some s → ∃ x, xs[j]? = some x ∧ SubAt K G M H x s ∧ ∀ a ∈ subAd x s, a ∈ subAds xs ss
  | [], _, _, _, _, e => by simp at e
  | s :: ss, _, 0, s', ⟨x, r, q, h1, h2⟩, e => by
    subst q
    simp at e; subst e
    exact ⟨x, rfl, h1, fun a h => List.mem_append_left _ h⟩
  | s :: ss, _, j + 1, s', ⟨x, r, q, h1, h2⟩, e => by
    subst q
    obtain ⟨y, a, b, c⟩ := SubAll.get (j := j) (s := s') h2 (by simpa using e)
    exact ⟨y, by simpa using a, b, fun a h => List.mem_append_right _ (c a h)⟩
theorem BoAt.own {v : V} {d : D} (S : SR K G E am M σ δ H) (h : BoAt am δ H v d) : ∃ p, v = .ref p ∧ p ∉ E.ads ∧ OwnAt K G M H p d := by
  rcases h with ⟨i, h1, rfl⟩ | ⟨i, j, ks, ss, xs, es, h1, h2, h3, h4, h5, rfl⟩
  · exact ⟨_, rfl, (S.ow i d h1).2.2.1, (S.ow i d h1).2.2.2.2⟩
  · obtain ⟨ys, o⟩ := S.od.at' i ks ss h1
    have e := o.h
    rw [h2] at e
    simp only [Option.some.injEq, HO.dK.injEq] at e
    have e := zip_inj h3 o.l e
    subst e
    obtain ⟨x, q1, ⟨a, zs, rfl, q2, q3⟩, q4⟩ := o.r.get h5
    rw [h4] at q1
    cases q1
    exact ⟨a, rfl, (o.a a (List.mem_cons_of_mem _ (q4 a (by simp [subAd])))).2.1, zs, q2, q3⟩
theorem BoAt.later {v : V} {d : D} (S : SR K G E am M σ δ1 H1) (h : BoAt am δ1 H1 v d) (e : Ext G am δ1 H1 H2) (k : δ2.sl = δ1.sl) : BoAt am δ2 H2 v d := by
  rcases h with ⟨i, h1, h2⟩ | ⟨i, j, ks, ss, xs, es, h1, h2, h3⟩
  · exact .inl ⟨i, by rw [k]; exact h1, h2⟩
  · obtain ⟨ys, o⟩ := S.od.at' i ks ss h1
    obtain ⟨q1, q2, q3, q4⟩ := o.a (am i) List.mem_cons_self
    exact .inr ⟨i, j, ks, ss, xs, es, by rw [k]; exact h1, e _ _ h2 (fun z => q2 (S.dks _ z)) fun j hj => q4 j hj, h3⟩
/-- a result that is kept through what follows -/
def RK (K : PySem.W.Frag) (G : Gx) (am : Nat → Addr) (M : List Addr) (δ : St3) (H : Hp) (v : V) : RD → Prop
  | .sh d => Rep K G (mask M H) v d
  | .fr d => Rep K G (mask M H) v d
  | .bo d => BoAt am δ H v d
def RV (K : PySem.W.Frag) (G : Gx) (E : Ent) (am : Nat → Addr) (M : List Addr) (σ : L2.St) (δ : St3) (H : Hp) (v : V) : RD → Prop
  | .sh d => Rep K G (mask M H) v d
  | .fr d => ∃ p, v = .ref p ∧ p ∉ M ∧ E.H0 p = none ∧ OwnAt K G (p :: M) H p d ∧ SR K G E am (p :: M) σ δ H
  | .bo d => BoAt am δ H v d
theorem RV.k {r : RD} (h : RV K G E am M σ δ H v r) : RK K G am M δ H v r := by
  cases r with
  | sh d => exact h
  | fr d =>
    obtain ⟨p, rfl, hp, _, o, _⟩ := h
    exact o.rep (mask_sub fun a h => List.mem_cons_of_mem _ h) fun o e => by rw [mask_out hp]; exact e
  | bo d => exact h
theorem RK.rb {r : RD} (S : SR K G E am M σ δ H) (h : RK K G am M δ H v r) : RB K G M H v r.d := by
  cases r with
  | sh d => exact .inl h
  | fr d => exact .inl h
  | bo d => obtain ⟨p, rfl, _, o⟩ := BoAt.own S h; exact .inr ⟨_, rfl, o⟩
theorem RK.rep {r : RD} (h : RK K G am M δ H v r) (k : ¬ r.bor) : Rep K G (mask M H) v r.d := by
  cases r with
  | sh d => exact h
  | fr d => exact h
  | bo d => exact (k trivial).elim
theorem RK.later {r : RD} (S : SR K G E am M σ δ1 H1) (h : RK K G am M δ1 H1 v r) (e : Ext G am δ1 H1 H2) (k : r.bor → δ2.sl = δ1.sl) : RK K G am M δ2 H2 v r := by
  cases r with
  | sh d => exact Rep.mono (S.mask e) d h
  | fr d => exact Rep.mono (S.mask e) d h
  | bo d => exact BoAt.later S h e (k trivial)
/-- a new value, by an operation that only lays new things -/
def RN (K : PySem.W.Frag) (G : Gx) (M : List Addr) (H H' : Hp) (v : V) : RD → Prop
  | .sh d => Rep K G (mask M H') v d
  | .fr d => ∃ p, v = .ref p ∧ H p = none ∧ OwnAt K G (p :: M) H' p d
  | .bo _ => False
theorem RN.rv {r : RD} (S : SR K G E am M σ δ H) (e : Same H H') (h : RN K G M H H' v r) : RV K G E am M σ δ H' v r := by
  cases r with
  | sh d => exact h
  | bo d => exact h.elim
  | fr d =>
    obtain ⟨p, rfl, hp, o⟩ := h
    refine ⟨p, rfl, fun z => S.al p z hp, ?_, o, S.more hp e o.al o.nc⟩
    cases q : E.H0 p with
    | none => rfl
    | some u =>
      by_cases k : p ∈ G.dk
      · exact (S.al p (S.ads p (S.dks p k)) hp).elim
      · rw [S.base p u q k] at hp; cases hp
end

def SimE (K : PySem.W.Frag) (G : Gx) (E : Ent) (te : TE) (w : WE) : Prop := ∀ (am : Nat → Addr) (M : List Addr) (σ : L2.St) (δ : St3) (H : Hp), SR K G E am M σ δ H → ∀ Qd : RD → St3 → Prop, w δ Qd → ∀ Q : VK,
  (∀ (v : V) (r : RD) (δ' : St3) (H' : Hp), SR K G E am M σ δ' H' → Ext G am δ H H' → (∀ i, isOwn δ' i → isOwn δ i) → RV K G E am M σ δ' H' v r → Qd r δ' → Q v H') → te σ H Q
def SimT (K : PySem.W.Frag) (G : Gx) (E : Ent) (tt : TT) (w : WT) : Prop := ∀ (am : Nat → Addr) (M : List Addr) (σ : L2.St) (δ : St3) (H : Hp), SR K G E am M σ δ H → ∀ Qd : Bool → St3 → Prop, w δ Qd → ∀ Q : Bool → Hp → Prop,
  (∀ (b : Bool) (δ' : St3) (H' : Hp), SR K G E am M σ δ' H' → Ext G am δ H H' → (∀ i, isOwn δ' i → isOwn δ i) → Qd b δ' → Q b H') → tt σ H Q
inductive RKs (K : PySem.W.Frag) (G : Gx) (am : Nat → Addr) (M : List Addr) (δ : St3) (H : Hp) : List V → List RD → Prop
  | nil : RKs K G am M δ H [] []
  | cons {v : V} {vs : List V} {r : RD} {rs : List RD} : RK K G am M δ H v r → RKs K G am M δ H vs rs → RKs K G am M δ H (v :: vs) (r :: rs)
def SimA (K : PySem.W.Frag) (G : Gx) (E : Ent) (ta : TA) (w : WA) : Prop := ∀ (am : Nat → Addr) (M : List Addr) (σ : L2.St) (δ : St3) (H : Hp), SR K G E am M σ δ H → ∀ Qd : List RD → St3 → Prop, w δ Qd → ∀ Q : List V → Hp → Prop,
  (∀ (vs : List V) (rs : List RD) (δ' : St3) (H' : Hp), SR K G E am M σ δ' H' → Ext G am δ H H' → (∀ i, isOwn δ' i → isOwn δ i) → RKs K G am M δ' H' vs rs → Qd rs δ' → Q vs H') → ta σ H Q
structure EndsR (K : PySem.W.Frag) (G : Gx) (E : Ent) (D3 : Ends3) (De : L2.Ends) : Prop where
  nx : ∀ (am : Nat → Addr) (M : List Addr) (σ : L2.St) (δ : St3) (H : Hp), SR K G E am M σ δ H → D3.nx δ → De.nx σ H
  bk : ∀ (am : Nat → Addr) (M : List Addr) (σ : L2.St) (δ : St3) (H : Hp), SR K G E am M σ δ H → D3.bk δ → De.bk σ H
  ct : ∀ (am : Nat → Addr) (M : List Addr) (σ : L2.St) (δ : St3) (H : Hp), SR K G E am M σ δ H → D3.ct δ → De.ct σ H
  rt : ∀ (v : V) (d : D) (n : Nat) (H : Hp), Rep K G (mask E.ads H) v d → (∀ b o, E.H0 b = some o → b ∉ G.dk → H b = some o) → G.DI n H → D3.rt d n → De.rt v H
def SimS (K : PySem.W.Frag) (G : Gx) (ts : TS) (w : WS) : Prop := ∀ (E : Ent) (am : Nat → Addr) (M : List Addr) (σ : L2.St) (δ : St3) (H : Hp), SR K G E am M σ δ H → ∀ D3 : Ends3, w D3 δ → ∀ De : L2.Ends, EndsR K G E D3 De → ts De σ H
structure DE (X : Cx) (G : Gx) (e : Expr) (te : TE) (w : WE) : Prop where
  pe : PE X e te
  sim : ∀ E, SimE X.K G E te w
structure DT (X : Cx) (G : Gx) (e : Expr) (tt : TT) (w : WT) : Prop where
  pt : PT X e tt
  sim : ∀ E, SimT X.K G E tt w
structure DW (X : Cx) (G : Gx) (e : Expr) (tt : TT) (w : WT) : Prop where
  pw : PW X e tt
  sim : ∀ E, SimT X.K G E tt w
structure DA (X : Cx) (G : Gx) (es : List Expr) (ta : TA) (w : WA) : Prop where
  pa : PA X es ta
  sim : ∀ E, SimA X.K G E ta w
structure DS (X : Cx) (G : Gx) (st : Stmt) (ts : TS) (w : WS) : Prop where
  ps : PS X st ts
  sim : SimS X.K G ts w
structure DSs (X : Cx) (G : Gx) (st : List Stmt) (ts : TS) (w : WS) : Prop where
  ps : PSs X st ts
  sim : SimS X.K G ts w

def svRD : SV → RD
  | .sh d => .sh d
  | .ow d => .bo d
  | .od _ _ => .sh .non
def SV.pl : SV → Bool
  | .od _ _ => false
  | _ => true
@[simp] theorem SV.pl_0 (d : D) : SV.pl (.sh d) = true := rfl
@[simp] theorem SV.pl_1 (d : D) : SV.pl (.ow d) = true := rfl
@[simp] theorem svRD_0  (d : D) : svRD (.sh d) = (.sh d) := rfl
@[simp] theorem svRD_1  (d : D) : svRD (.ow d) = (.bo d) := rfl
@[simp] def wVar (i : Nat) : WE := fun δ Q => ∃ s, δ.sl[i]? = some (some s) ∧ s.pl = true ∧ Q (svRD s) δ
@[simp] def wC (d : D) : WE := fun δ Q => Q (.sh d) δ
section
variable {X : Cx} {G : Gx} {K : PySem.W.Frag} {E : Ent}
theorem sim_var {i : Nat} : SimE K G E (tVar i) (wVar i) := fun am M σ δ H S Qd h Q k => by
  obtain ⟨s, hs, pl, h⟩ := h
  cases s with
  | od ks ss => cases pl
  | sh d =>
    obtain ⟨v, e, r⟩ := S.sh i d hs
    exact ⟨v, e, k v (.sh d) δ H S .refl (fun _ z => z) r h⟩
  | ow d =>
    have e := (S.ow i d hs).1
    exact ⟨_, e, k _ (.bo d) δ H S .refl (fun _ z => z) (.inl ⟨i, hs, rfl⟩) h⟩
theorem de_var (i : Nat) {x : Str} {pos : Pos} (hN : X.N[i]? = some x := by rfl) (hv : Vis X.env.scope x := by first | exact Or.inl rfl | exact Or.inr (Or.inl rfl) | exact Or.inr (Or.inr rfl)) (hd : (x == ("__debug__" : Str)) = false := by decide)
    (hcd : (x == ("__classdict__" : Str)) = false := by decide) : DE X G (.Name x pos) (tVar i) (wVar i) := ⟨pe_var hN hv hd hcd, fun _ => sim_var⟩
theorem sim_c {v : V} {d : D} (h : ∀ H, Rep K G H v d) : SimE K G E (tC v) (wC d) := fun am M σ δ H S Qd q Q k => k v (.sh d) δ H S .refl (fun _ z => z) (h _) q
theorem de_int {i j pos} : DE X G (.Constant (.int i) j pos) (tC (.int i)) (wC (.int i)) := ⟨pe_int, fun _ => sim_c fun _ => rfl⟩
theorem de_bl {b j pos} : DE X G (.Constant (.bool b) j pos) (tC (.bl b)) (wC (.bl b)) := ⟨pe_bl, fun _ => sim_c fun _ => rfl⟩
theorem de_non {j pos} : DE X G (.Constant .none j pos) (tC .non) (wC .non) := ⟨pe_non, fun _ => sim_c fun _ => rfl⟩
theorem de_str {x j pos} : DE X G (.Constant (.str x) j pos) (tC (.str x)) (wC (.str x)) := ⟨pe_str, fun _ => sim_c fun _ => rfl⟩
end

abbrev F2 := D → D → (RD → Prop) → Prop
def OpS (K : PySem.W.Frag) (G : Gx) (r : R2) (f : F2) : Prop := ∀ (M : List Addr) (H : Hp) (x y : V) (d e : D), (∀ a ∈ M, H a ≠ none) → RB K G M H x d → RB K G M H y e → ∀ Qd : RD → Prop, f d e Qd → ∀ Q : VK,
  (∀ v q H', Same H H' → RN K G M H H' v q → Qd q → Q v H') → r x y H Q
@[simp] def wOp (f : F2) (a b : WE) : WE := fun δ Q => a δ fun x δ1 => b δ1 fun y δ2 => (x.bor → δ2.sl = δ1.sl) ∧ f x.d y.d fun q => Q q δ2
section
variable {X : Cx} {G : Gx} {K : PySem.W.Frag} {E : Ent} {a b c : Expr} {ta tb tc : TE} {wa wb wc : WE} {pos : Pos} {r r' : R2} {f f' : F2}
theorem sim_op (hs : OpS K G r f) (ha : SimE K G E ta wa) (hb : SimE K G E tb wb) : SimE K G E (tOp r ta tb) (wOp f wa wb) := fun am M σ δ H S Qd h Q k => by
  refine ha am M σ δ H S _ h _ fun x rx δ1 H1 S1 e1 o1 v1 h => ?_
  refine hb am M σ δ1 H1 S1 _ h _ fun y ry δ2 H2 S2 e2 o2 v2 h => ?_
  obtain ⟨st, h⟩ := h
  have bx := (v1.k.later S1 e2 st).rb S2
  refine hs M H2 x y _ _ S2.al bx (v2.k.rb S2) _ h _ fun v q H3 sm rn hq => ?_
  exact k v q δ2 H3 (S2.grow sm) ((e1.trans o1 e2).trans (fun i z => o1 i (o2 i z)) (Ext.of (δ := δ2) sm)) (fun i z => o1 i (o2 i z)) (rn.rv S2 sm) hq
theorem de_op {op : Operator} (ho : OpR X (binaryOp op) r) (hs : OpS X.K G r f) (ha : DE X G a ta wa) (hb : DE X G b tb wb) : DE X G (.BinOp a op b pos) (tOp r ta tb) (wOp f wa wb) := ⟨pe_op ho ha.pe hb.pe, fun E => sim_op hs (ha.sim E) (hb.sim E)⟩
theorem de_cmp {op : CmpOp} (ho : OpR X (compareOp op) r) (hs : OpS X.K G r f) (ha : DE X G a ta wa) (hb : DE X G b tb wb) (hm : behindInMarks op b = false := by first | exact nomark _ | rfl) : DE X G (.Compare a [op] [b] pos) (tOp r ta tb) (wOp f wa wb) :=
  ⟨pe_cmpR ho ha.pe hb.pe hm, fun E => sim_op hs (ha.sim E) (hb.sim E)⟩
def wTest (w : WE) : WT := fun δ Q => w δ fun r δ1 => ∃ k, r.d = .bl k ∧ Q k δ1
theorem rv_bl {am : Nat → Addr} {M : List Addr} {σ : L2.St} {δ : St3} {H : Hp} {v : V} {q : RD} {k : Bool} (S : SR K G E am M σ δ H) (h : RV K G E am M σ δ H v q) (e : q.d = .bl k) : v = .bl k := by
  have := h.k.rb S
  rw [e] at this
  exact this.bl
theorem sim_test {te : TE} {w : WE} (h : SimE K G E te w) : SimT K G E (tTest te) (wTest w) := fun am M σ δ H S Qd q Q k =>
  h am M σ δ H S _ q _ fun v r δ' H' S' e o rv ⟨b, e1, hq⟩ => ⟨b, rv_bl S' rv e1, k b δ' H' S' e o hq⟩
theorem dt_cmp {op : CmpOp} (ho : OpR X (compareOp op) r) (hs : OpS X.K G r f) (ha : DE X G a ta wa) (hb : DE X G b tb wb) (hm : behindInMarks op b = false := by first | exact nomark _ | rfl) : DT X G (.Compare a [op] [b] pos) (tTest (tOp r ta tb)) (wTest (wOp f wa wb)) :=
  ⟨pt_cmpR ho ha.pe hb.pe hm, fun E => sim_test (sim_op hs (ha.sim E) (hb.sim E))⟩
theorem dt_val {e : Expr} {t : TE} {w : WE} (h : DE X G e t w) (he : ∀ whole, isTrue e X.env whole = (do let v ← whole; standAt e.pos; holding [v] (truthy v)) := by intro _; rfl) : DT X G e (tB t) (wTest w) := ⟨pt_val h.pe he, fun E => sim_test (h.sim E)⟩
/-- a < b < c -/
def wChain (f f' : F2) (a b c : WE) : WE := fun δ Q => a δ fun x δ1 => b δ1 fun y δ2 => (x.bor → δ2.sl = δ1.sl) ∧ f x.d y.d fun q => ∃ k, q.d = .bl k ∧ (k = true → c δ2 fun z δ3 => (y.bor → δ3.sl = δ2.sl) ∧ f' y.d z.d fun q' => Q q' δ3) ∧ (k = false → Q (.sh (.bl false)) δ2)
theorem sim_chain (hs : OpS K G r f) (hs' : OpS K G r' f') (ha : SimE K G E ta wa) (hb : SimE K G E tb wb) (hc : SimE K G E tc wc) : SimE K G E (tChain r r' ta tb tc) (wChain f f' wa wb wc) := fun am M σ δ H S Qd h Q k => by
  refine ha am M σ δ H S _ h _ fun x rx δ1 H1 S1 e1 o1 v1 h => ?_
  refine hb am M σ δ1 H1 S1 _ h _ fun y ry δ2 H2 S2 e2 o2 v2 h => ?_
  obtain ⟨st, h⟩ := h
  refine hs M H2 x y _ _ S2.al ((v1.k.later S1 e2 st).rb S2) (v2.k.rb S2) _ h _ fun v q H3 sm rn hq => ?_
  obtain ⟨b, e, hq⟩ := hq
  have S3 := S2.grow sm
  have ee : Ext G am δ H H3 := (e1.trans o1 e2).trans (fun i z => o1 i (o2 i z)) (Ext.of (δ := δ2) sm)
  have oo : ∀ i, isOwn δ2 i → isOwn δ i := fun i z => o1 i (o2 i z)
  refine ⟨b, rv_bl S3 (rn.rv S2 sm) e, ?_⟩
  cases b with
  | false =>
    rw [if_neg Bool.false_ne_true]
    exact k _ (.sh (.bl false)) δ2 H3 S3 ee oo rfl (hq.2 rfl)
  | true =>
    rw [if_pos rfl]
    refine hc am M σ δ2 H3 S3 _ (hq.1 rfl) _ fun z rz δ3 H4 S4 e4 o4 v4 h => ?_
    obtain ⟨st', h⟩ := h
    have vy : RK K G am M δ2 H3 y ry := v2.k.later S2 (Ext.of sm) fun _ => rfl
    refine hs' M H4 y z _ _ S4.al ((vy.later S3 e4 st').rb S4) (v4.k.rb S4) _ h _ fun v q H5 sm5 rn5 hq5 => ?_
    exact k v q δ3 H5 (S4.grow sm5) ((ee.trans oo e4).trans (fun i z => oo i (o4 i z)) (Ext.of (δ := δ3) sm5)) (fun i z => oo i (o4 i z)) (rn5.rv S4 sm5) hq5
theorem de_chain {op op' : CmpOp} (ho : OpR X (compareOp op) r) (hs : OpS X.K G r f) (ho' : OpR X (compareOp op') r') (hs' : OpS X.K G r' f') (ha : DE X G a ta wa) (hb : DE X G b tb wb) (hc : DE X G c tc wc)
    (hm : lastMarks [op, op'] [b, c] = false := by with_unfolding_all rfl) : DE X G (.Compare a [op, op'] [b, c] pos) (tChain r r' ta tb tc) (wChain f f' wa wb wc) := ⟨pe_chain ho ho' ha.pe hb.pe hc.pe hm, fun E => sim_chain hs hs' (ha.sim E) (hb.sim E) (hc.sim E)⟩
theorem dt_chain {op op' : CmpOp} (ho : OpR X (compareOp op) r) (hs : OpS X.K G r f) (ho' : OpR X (compareOp op') r') (hs' : OpS X.K G r' f') (ha : DE X G a ta wa) (hb : DE X G b tb wb) (hc : DE X G c tc wc)
    (hm : lastMarks [op, op'] [b, c] = false := by with_unfolding_all rfl) : DT X G (.Compare a [op, op'] [b, c] pos) (tTest (tChain r r' ta tb tc)) (wTest (wChain f f' wa wb wc)) := ⟨pt_chain ho ho' ha.pe hb.pe hc.pe hm, fun E => sim_test (sim_chain hs hs' (ha.sim E) (hb.sim E) (hc.sim E))⟩

abbrev F1 := D → (RD → Prop) → Prop
def UnS (K : PySem.W.Frag) (G : Gx) (r : V → Hp → VK → Prop) (f : F1) : Prop := ∀ (M : List Addr) (H : Hp) (x : V) (d : D), (∀ a ∈ M, H a ≠ none) → RB K G M H x d → ∀ Qd : RD → Prop, f d Qd → ∀ Q : VK,
  (∀ v q H', Same H H' → RN K G M H H' v q → Qd q → Q v H') → r x H Q
@[simp] def wUn (f : F1) (a : WE) : WE := fun δ Q => a δ fun x δ1 => f x.d fun q => Q q δ1
theorem sim_un {ru : V → Hp → VK → Prop} {fu : F1} (hs : UnS K G ru fu) (ha : SimE K G E ta wa) : SimE K G E (tUn ru ta) (wUn fu wa) := fun am M σ δ H S Qd h Q k => by
  refine ha am M σ δ H S _ h _ fun x rx δ1 H1 S1 e1 o1 v1 h => ?_
  exact hs M H1 x _ S1.al (v1.k.rb S1) _ h _ fun v q H3 sm rn hq => k v q δ1 H3 (S1.grow sm) (e1.trans o1 (Ext.of (δ := δ1) sm)) o1 (rn.rv S1 sm) hq
theorem de_un {op : UnaryOp} {ru : V → Hp → VK → Prop} {fu : F1} (ho : UnR X (unaryOp op) ru) (hs : UnS X.K G ru fu) (ha : DE X G a ta wa) : DE X G (.UnaryOp op a pos) (tUn ru ta) (wUn fu wa) := ⟨pe_un ho ha.pe, fun E => sim_un hs (ha.sim E)⟩
variable {t u : TT} {wt wu : WT} {rest : List Expr}
@[simp] def wAnd (t u : WT) : WT := fun δ Q => t δ fun b δ1 => (b = true → u δ1 Q) ∧ (b = false → Q false δ1)
@[simp] def wOr (t u : WT) : WT := fun δ Q => t δ fun b δ1 => (b = false → u δ1 Q) ∧ (b = true → Q true δ1)
@[simp] def wNot (t : WT) : WT := fun δ Q => t δ fun b δ1 => Q (!b) δ1
theorem sim_and (h1 : SimT K G E t wt) (h2 : SimT K G E u wu) : SimT K G E (tAnd t u) (wAnd wt wu) := fun am M σ δ H S Qd h Q k => by
  refine h1 am M σ δ H S _ h _ fun b δ1 H1 S1 e1 o1 h => ?_
  cases b with
  | true =>
    rw [if_pos rfl]
    exact h2 am M σ δ1 H1 S1 _ (h.1 rfl) _ fun b δ2 H2 S2 e2 o2 h => k b δ2 H2 S2 (e1.trans o1 e2) (fun i z => o1 i (o2 i z)) h
  | false =>
    rw [if_neg Bool.false_ne_true]
    exact k _ δ1 H1 S1 e1 o1 (h.2 rfl)
theorem sim_or (h1 : SimT K G E t wt) (h2 : SimT K G E u wu) : SimT K G E (tOr t u) (wOr wt wu) := fun am M σ δ H S Qd h Q k => by
  refine h1 am M σ δ H S _ h _ fun b δ1 H1 S1 e1 o1 h => ?_
  cases b with
  | false =>
    rw [if_neg Bool.false_ne_true]
    exact h2 am M σ δ1 H1 S1 _ (h.1 rfl) _ fun b δ2 H2 S2 e2 o2 h => k b δ2 H2 S2 (e1.trans o1 e2) (fun i z => o1 i (o2 i z)) h
  | true =>
    rw [if_pos rfl]
    exact k _ δ1 H1 S1 e1 o1 (h.2 rfl)
theorem sim_not (h1 : SimT K G E t wt) : SimT K G E (tNot t) (wNot wt) := fun am M σ δ H S Qd h Q k =>
  h1 am M σ δ H S _ h _ fun b δ1 H1 S1 e1 o1 h => k _ δ1 H1 S1 e1 o1 h
theorem dw_and1 (ha : DT X G a t wt) : DW X G (.BoolOp .And [a] pos) t wt := ⟨pw_and1 ha.pt, ha.sim⟩
theorem dw_or1 (ha : DT X G a t wt) : DW X G (.BoolOp .Or [a] pos) t wt := ⟨pw_or1 ha.pt, ha.sim⟩
theorem dw_and (ha : DT X G a t wt) (hb : DW X G (.BoolOp .And (b :: rest) pos) u wu) : DW X G (.BoolOp .And (a :: b :: rest) pos) (tAnd t u) (wAnd wt wu) := ⟨pw_and ha.pt hb.pw, fun E => sim_and (ha.sim E) (hb.sim E)⟩
theorem dw_or (ha : DT X G a t wt) (hb : DW X G (.BoolOp .Or (b :: rest) pos) u wu) : DW X G (.BoolOp .Or (a :: b :: rest) pos) (tOr t u) (wOr wt wu) := ⟨pw_or ha.pt hb.pw, fun E => sim_or (ha.sim E) (hb.sim E)⟩
theorem DW.dt {e : Expr} (h : DW X G e t wt) : DT X G e t wt := ⟨h.pw.pt, h.sim⟩
theorem dt_not (ha : DT X G a t wt) : DT X G (.UnaryOp .Not a pos) (tNot t) (wNot wt) := ⟨pt_not ha.pt, fun E => sim_not (ha.sim E)⟩
/-- as values -/
def wAndV (a b : WE) : WE := fun δ Q => a δ fun x δ1 => ∃ k, x.d = .bl k ∧ (k = true → b δ1 Q) ∧ (k = false → Q (.sh (.bl false)) δ1)
def wOrV (a b : WE) : WE := fun δ Q => a δ fun x δ1 => ∃ k, x.d = .bl k ∧ (k = false → b δ1 Q) ∧ (k = true → Q (.sh (.bl true)) δ1)
def wNotV (a : WE) : WE := fun δ Q => a δ fun x δ1 => ∃ k, x.d = .bl k ∧ Q (.sh (.bl (!k))) δ1
theorem RV.weak {am : Nat → Addr} {M : List Addr} {σ : L2.St} {δ : St3} {H : Hp} {v : V} {q : RD} (h : RV K G E am M σ δ H v q) : RV K G E am M σ δ H v q := h
theorem sim_andV (ha : SimE K G E ta wa) (hb : SimE K G E tb wb) : SimE K G E (tAndV ta tb) (wAndV wa wb) := fun am M σ δ H S Qd h Q k => by
  refine ha am M σ δ H S _ h _ fun x rx δ1 H1 S1 e1 o1 v1 ⟨b, eb, h⟩ => ⟨b, rv_bl S1 v1 eb, ?_⟩
  cases b with
  | true =>
    rw [if_pos rfl]
    exact hb am M σ δ1 H1 S1 _ (h.1 rfl) _ fun v r δ2 H2 S2 e2 o2 v2 h => k v r δ2 H2 S2 (e1.trans o1 e2) (fun i z => o1 i (o2 i z)) v2 h
  | false =>
    rw [if_neg Bool.false_ne_true]
    exact k _ (.sh (.bl false)) δ1 H1 S1 e1 o1 rfl (h.2 rfl)
theorem sim_orV (ha : SimE K G E ta wa) (hb : SimE K G E tb wb) : SimE K G E (tOrV ta tb) (wOrV wa wb) := fun am M σ δ H S Qd h Q k => by
  refine ha am M σ δ H S _ h _ fun x rx δ1 H1 S1 e1 o1 v1 ⟨b, eb, h⟩ => ⟨b, rv_bl S1 v1 eb, ?_⟩
  cases b with
  | false =>
    rw [if_neg Bool.false_ne_true]
    exact hb am M σ δ1 H1 S1 _ (h.1 rfl) _ fun v r δ2 H2 S2 e2 o2 v2 h => k v r δ2 H2 S2 (e1.trans o1 e2) (fun i z => o1 i (o2 i z)) v2 h
  | true =>
    rw [if_pos rfl]
    exact k _ (.sh (.bl true)) δ1 H1 S1 e1 o1 rfl (h.2 rfl)
theorem sim_notV (ha : SimE K G E ta wa) : SimE K G E (tNotV ta) (wNotV wa) := fun am M σ δ H S Qd h Q k =>
  ha am M σ δ H S _ h _ fun x rx δ1 H1 S1 e1 o1 v1 ⟨b, eb, h⟩ => ⟨b, rv_bl S1 v1 eb, k _ (.sh (.bl (!b))) δ1 H1 S1 e1 o1 rfl h⟩
theorem de_one {op} (h : DE X G a ta wa) : DE X G (.BoolOp op [a] pos) ta wa := ⟨pe_one h.pe, h.sim⟩
theorem de_and (ha : DE X G a ta wa) (hb : DE X G (.BoolOp .And (b :: rest) pos) tb wb) : DE X G (.BoolOp .And (a :: b :: rest) pos) (tAndV ta tb) (wAndV wa wb) := ⟨pe_and ha.pe hb.pe, fun E => sim_andV (ha.sim E) (hb.sim E)⟩
theorem de_or (ha : DE X G a ta wa) (hb : DE X G (.BoolOp .Or (b :: rest) pos) tb wb) : DE X G (.BoolOp .Or (a :: b :: rest) pos) (tOrV ta tb) (wOrV wa wb) := ⟨pe_or ha.pe hb.pe, fun E => sim_orV (ha.sim E) (hb.sim E)⟩
theorem de_not (ha : DE X G a ta wa) : DE X G (.UnaryOp .Not a pos) (tNotV ta) (wNotV wa) := ⟨pe_not ha.pe, fun E => sim_notV (ha.sim E)⟩
@[simp] def wIf (t : WT) (a b : WE) : WE := fun δ Q => t δ fun k δ1 => (k = true → a δ1 Q) ∧ (k = false → b δ1 Q)
theorem sim_if (ht : SimT K G E t wt) (ha : SimE K G E ta wa) (hb : SimE K G E tb wb) : SimE K G E (tIf t ta tb) (wIf wt wa wb) := fun am M σ δ H S Qd h Q k => by
  refine ht am M σ δ H S _ h _ fun b δ1 H1 S1 e1 o1 h => ?_
  cases b with
  | true =>
    rw [if_pos rfl]
    exact ha am M σ δ1 H1 S1 _ (h.1 rfl) _ fun v r δ2 H2 S2 e2 o2 v2 h => k v r δ2 H2 S2 (e1.trans o1 e2) (fun i z => o1 i (o2 i z)) v2 h
  | false =>
    rw [if_neg Bool.false_ne_true]
    exact hb am M σ δ1 H1 S1 _ (h.2 rfl) _ fun v r δ2 H2 S2 e2 o2 v2 h => k v r δ2 H2 S2 (e1.trans o1 e2) (fun i z => o1 i (o2 i z)) v2 h
theorem de_if (hc : DT X G c t wt) (ha : DE X G a ta wa) (hb : DE X G b tb wb) : DE X G (.IfExp c a b pos) (tIf t ta tb) (wIf wt wa wb) := ⟨pe_ifExp hc.pt ha.pe hb.pe, fun E => sim_if (hc.sim E) (ha.sim E) (hb.sim E)⟩

@[simp] def wNil : WA := fun δ Q => Q [] δ
@[simp] def wCons (a : WE) (t : WA) : WA := fun δ Q => a δ fun x δ1 => t δ1 fun xs δ2 => (x.bor → δ2.sl = δ1.sl) ∧ Q (x :: xs) δ2
variable {es : List Expr} {tA : TA} {wA : WA}
theorem sim_nil : SimA K G E tNil wNil := fun am M σ δ H S Qd h Q k => k [] [] δ H S .refl (fun _ z => z) .nil h
theorem sim_cons (ha : SimE K G E ta wa) (hr : SimA K G E tA wA) : SimA K G E (tCons ta tA) (wCons wa wA) := fun am M σ δ H S Qd h Q k => by
  refine ha am M σ δ H S _ h _ fun x rx δ1 H1 S1 e1 o1 v1 h => ?_
  refine hr am M σ δ1 H1 S1 _ h _ fun xs rs δ2 H2 S2 e2 o2 v2 ⟨st, h⟩ => ?_
  exact k _ _ δ2 H2 S2 (e1.trans o1 e2) (fun i z => o1 i (o2 i z)) (.cons (v1.k.later S1 e2 st) v2) h
theorem da_nil : DA X G [] tNil wNil := ⟨pa_nil, fun _ => sim_nil⟩
theorem da_cons (ha : DE X G a ta wa) (hr : DA X G es tA wA) (hs : starEach (a :: es) X.env = (false, eval a X.env) :: starEach es X.env := by rfl) : DA X G (a :: es) (tCons ta tA) (wCons wa wA) := ⟨pa_cons ha.pe hr.pa hs, fun E => sim_cons (ha.sim E) (hr.sim E)⟩
/-- all may be kept -/
@[simp] def keeps : List RD → Prop
  | [] => True
  | r :: rs => ¬ r.bor ∧ keeps rs
theorem RKs.rep {am : Nat → Addr} {M : List Addr} {δ : St3} {H : Hp} : ∀ {vs : List V} {rs : List RD}, RKs K G am M δ H vs rs → keeps rs → RepAll K G (mask M H) vs (rs.map RD.d)
  | _, _, .nil, _ => rfl
  | _, _, .cons h t, ⟨k, ks⟩ => ⟨_, _, rfl, h.rep k, t.rep ks⟩
theorem RKs.length {am : Nat → Addr} {M : List Addr} {δ : St3} {H : Hp} : ∀ {vs : List V} {rs : List RD}, RKs K G am M δ H vs rs → vs.length = rs.length
  | _, _, .nil => rfl
  | _, _, .cons _ t => congrArg Nat.succ t.length
inductive RBs (K : PySem.W.Frag) (G : Gx) (M : List Addr) (H : Hp) : List V → List D → Prop
  | nil : RBs K G M H [] []
  | cons {v : V} {vs : List V} {d : D} {ds : List D} : RB K G M H v d → RBs K G M H vs ds → RBs K G M H (v :: vs) (d :: ds)
theorem RKs.rbs {am : Nat → Addr} {M : List Addr} {σ : L2.St} {δ : St3} {H : Hp} (S : SR K G E am M σ δ H) : ∀ {vs : List V} {rs : List RD}, RKs K G am M δ H vs rs → RBs K G M H vs (rs.map RD.d)
  | _, _, .nil => .nil
  | _, _, .cons h t => .cons (h.rb S) (t.rbs S)
@[simp] def wTup (t : WA) : WE := fun δ Q => t δ fun rs δ1 => keeps rs ∧ rs.length ≤ 1000 ∧ Q (.sh (.tup (rs.map RD.d))) δ1
@[simp] def wLst (t : WA) : WE := fun δ Q => t δ fun rs δ1 => keeps rs ∧ rs.length ≤ 1000 ∧ Q (.fr (.lst (rs.map RD.d))) δ1
theorem sz1000 {n : Nat} (h : n ≤ 1000) : n ≤ sizeLine := Nat.le_of_lt (small1000 h)
theorem same_new {H : Hp} {p : Addr} {o : HO} (h : H p = none) : Same H (upd H p o) := fun b x e => by
  rw [upd_ne (ne_of_none e h)]; exact e
theorem sim_tup (h : SimA K G E tA wA) : SimE K G E (tTup tA) (wTup wA) := fun am M σ δ H S Qd q Q k => by
  refine h am M σ δ H S _ q _ fun vs rs δ1 H1 S1 e1 o1 r1 ⟨hk, hl, hq⟩ => ⟨sz1000 (by rw [r1.length]; exact hl), fun p hp => ?_⟩
  have sm := same_new (o := .tup vs) hp
  refine k _ (.sh (.tup (rs.map RD.d))) δ1 _ (S1.grow sm) (e1.trans o1 (Ext.of (δ := δ1) sm)) o1 ⟨p, vs, rfl, SqT.of ?_, (r1.rep hk).mono (mask_mono sm)⟩ hq
  rw [mask_out fun z => S1.al p z hp, upd_same]
theorem sim_lst (h : SimA K G E tA wA) : SimE K G E (tLst tA) (wLst wA) := fun am M σ δ H S Qd q Q k => by
  refine h am M σ δ H S _ q _ fun vs rs δ1 H1 S1 e1 o1 r1 ⟨hk, hl, hq⟩ => ⟨sz1000 (by rw [r1.length]; exact hl), fun p hp => ?_⟩
  have sm := same_new (o := .lst vs) hp
  exact k _ (.fr (.lst (rs.map RD.d))) δ1 _ (S1.grow sm) (e1.trans o1 (Ext.of (δ := δ1) sm)) o1 (RN.rv (r := .fr (.lst (rs.map RD.d))) S1 sm ⟨p, rfl, hp, vs, upd_same, (r1.rep hk).mono (mask_new hp sm)⟩) hq
theorem de_tup {x1} (h : DA X G es tA wA) : DE X G (.Tuple es x1 pos) (tTup tA) (wTup wA) := ⟨pe_tup h.pa, fun E => sim_tup (h.sim E)⟩
theorem de_lst (h : DA X G es tA wA) : DE X G (.List es pos) (tLst tA) (wLst wA) := ⟨pe_lst h.pa, fun E => sim_lst (h.sim E)⟩

abbrev FC := List D → (RD → Prop) → Prop
def CallS (K : PySem.W.Frag) (G : Gx) (r : List V → Hp → VK → Prop) (f : FC) : Prop := ∀ (M : List Addr) (H : Hp) (vs : List V) (ds : List D), (∀ a ∈ M, H a ≠ none) → RBs K G M H vs ds → ∀ Qd : RD → Prop, f ds Qd → ∀ Q : VK,
  (∀ v q H', Same H H' → RN K G M H H' v q → Qd q → Q v H') → r vs H Q
@[simp] def wCB (f : FC) (t : WA) : WE := fun δ Q => t δ fun rs δ1 => f (rs.map RD.d) fun q => Q q δ1
theorem sim_cb {rc : List V → Hp → VK → Prop} {fc : FC} (hs : CallS K G rc fc) (h : SimA K G E tA wA) : SimE K G E (tCB rc tA) (wCB fc wA) := fun am M σ δ H S Qd q Q k => by
  refine h am M σ δ H S _ q _ fun vs rs δ1 H1 S1 e1 o1 r1 hq => ?_
  exact hs M H1 vs _ S1.al (r1.rbs S1) _ hq _ fun v q H3 sm rn hq => k v q δ1 H3 (S1.grow sm) (e1.trans o1 (Ext.of (δ := δ1) sm)) o1 (rn.rv S1 sm) hq
theorem de_callB {id : String} {x : Str} {p : Pos} {rc : List V → Hp → VK → Prop} {fc : FC} (hc : CallR X (.builtin id) rc) (hs : CallS X.K G rc fc) (hg : Gl X x) (hm : X.mg x = none) (hv : bootBuiltins x = some (.builtin id)) (ha : DA X G (a :: es) tA wA) (hn : x ≠ "__name__" := by decide) (hdb : (x == ("__debug__" : Str)) = false := by decide)
    (he : starEach (a :: es) X.env = (false, eval a X.env) :: starEach es X.env := by rfl) (hpl : (backTo pos (starEach es X.env)).any (·.1) = false := by rfl) : DE X G (.Call (.Name x p) (a :: es) [] pos) (tCB rc tA) (wCB fc wA) := ⟨pe_callB hc hg hm hv ha.pa hn hdb he hpl, fun E => sim_cb hs (ha.sim E)⟩
theorem de_callTy {T : String} {x : Str} {p : Pos} {rc : List V → Hp → VK → Prop} {fc : FC} (hc : CallR X (.type T) rc) (hs : CallS X.K G rc fc) (hg : Gl X x) (hm : X.mg x = none) (hv : bootBuiltins x = some (.type T)) (ha : DA X G (a :: es) tA wA) (hn : x ≠ "__name__" := by decide) (hdb : (x == ("__debug__" : Str)) = false := by decide)
    (he : starEach (a :: es) X.env = (false, eval a X.env) :: starEach es X.env := by rfl) (hpl : (backTo pos (starEach es X.env)).any (·.1) = false := by rfl) : DE X G (.Call (.Name x p) (a :: es) [] pos) (tCB rc tA) (wCB fc wA) := ⟨pe_callTy hc hg hm hv ha.pa hn hdb he hpl, fun E => sim_cb hs (ha.sim E)⟩
end
end L3
namespace L3
open PySem L2
@[simp] def wipe3 (sl : List (Option SV)) : List Nat → List (Option SV)
  | [] => sl
  | v :: vs => (wipe3 sl vs).set v none
@[simp] def unwipe (sl0 sl : List (Option SV)) : List Nat → List (Option SV)
  | [] => sl
  | v :: vs => (unwipe sl0 sl vs).set v ((sl0[v]?).getD none)
@[simp] def noOwn (sl : List (Option SV)) : List Nat → Prop
  | [] => True
  | v :: vs => (match sl[v]? with | some (some (.ow _)) => False | some (some (.od _ _)) => False | _ => True) ∧ noOwn sl vs
theorem noOwn.at {sl : List (Option SV)} : ∀ {vs : List Nat} {v : Nat} {d : D}, noOwn sl vs → v ∈ vs → sl[v]? = some (some (SV.ow d)) → False
  | [], _, _, _, m, _ => by simp at m
  | w :: vs, v, d, ⟨h, t⟩, m, e => by
    rcases List.mem_cons.mp m with q | q
    · subst q; rw [e] at h; exact h
    · exact t.at q e
theorem noOwn.at2 {sl : List (Option SV)} : ∀ {vs : List Nat} {v : Nat} {ks : List Key} {ss : List SubV}, noOwn sl vs → v ∈ vs → sl[v]? = some (some (SV.od ks ss)) → False
  | [], _, _, _, _, m, _ => by simp at m
  | w :: vs, v, ks, ss, ⟨h, t⟩, m, e => by
    rcases List.mem_cons.mp m with q | q
    · subst q; rw [e] at h; exact h
    · exact t.at2 q e
section
variable {K : PySem.W.Frag} {G : Gx} {H H' H1 H2 H3 : Hp} {v : V} {d : D} {M M' : List Addr} {E : Ent} {am : Nat → Addr} {σ σ' : L2.St} {δ δ' δ1 δ2 : St3}
theorem SR.wiped (S : SR K G E am M σ δ H) : ∀ vs : List Nat, SR K G E am M (wipe σ vs) ⟨wipe3 δ.sl vs, δ.n⟩ H
  | [] => S
  | _ :: vs => (S.wiped vs).set_none
theorem wipe3_own {sl : List (Option SV)} {n : Nat} : ∀ {i : Kx} {vs : List Nat}, isOwn ⟨wipe3 sl vs, n⟩ i → isOwn ⟨sl, n⟩ i
  | _, [], h => h
  | .ow i, v :: vs, ⟨d, h⟩ => by
    rcases get_set h with ⟨_, z⟩ | ⟨_, z⟩
    · cases z
    · exact wipe3_own (i := .ow i) (vs := vs) ⟨d, z⟩
  | .od i ks ss, v :: vs, h => by
    rcases get_set (show ((wipe3 sl vs).set v none)[i]? = some (some (SV.od ks ss)) from h) with ⟨_, z⟩ | ⟨_, z⟩
    · cases z
    · exact wipe3_own (i := .od i ks ss) (vs := vs) z
theorem wipe_get {σ : L2.St} {j : Nat} : ∀ {vs : List Nat}, j ∉ vs → (wipe σ vs)[j]? = σ[j]?
  | [], _ => rfl
  | v :: vs, h => by
    have h1 : v ≠ j := fun z => h (z ▸ List.mem_cons_self)
    have h2 : j ∉ vs := fun z => h (List.mem_cons_of_mem _ z)
    show ((wipe σ vs).set v none)[j]? = _
    rw [List.getElem?_set_ne h1, wipe_get h2]
theorem wipe_in {σ : L2.St} {j : Nat} : ∀ {vs : List Nat}, j ∈ vs → (wipe σ vs)[j]? = if j < σ.length then some none else none
  | [], h => by simp at h
  | v :: vs, h => by
    show ((wipe σ vs).set v none)[j]? = _
    by_cases e : v = j
    · subst e
      by_cases l : v < σ.length
      · rw [List.getElem?_set_self (by rw [wipe_length]; exact l), if_pos l]
      · rw [List.getElem?_eq_none (by rw [List.length_set, wipe_length]; omega), if_neg l]
    · rw [List.getElem?_set_ne e]
      exact wipe_in ((List.mem_cons.mp h).resolve_left fun z => e z.symm)
theorem wipe_set {σ : L2.St} {i : Nat} {x : Option V} {vs : List Nat} (h : i ∈ vs) : wipe (σ.set i x) vs = wipe σ vs := by
  apply List.ext_getElem?
  intro j
  by_cases q : j ∈ vs
  · rw [wipe_in q, wipe_in q, List.length_set]
  · rw [wipe_get q, wipe_get q, List.getElem?_set_ne fun z => q (by rw [← z]; exact h)]
theorem wipe_wipe {σ : L2.St} {vs : List Nat} : wipe (wipe σ vs) vs = wipe σ vs := by
  apply List.ext_getElem?
  intro j
  by_cases q : j ∈ vs
  · rw [wipe_in q, wipe_in q, wipe_length]
  · rw [wipe_get q]
theorem unwipe_get {sl0 sl : List (Option SV)} {j : Nat} {x : SV} : ∀ {vs : List Nat}, (unwipe sl0 sl vs)[j]? = some (some x) → (j ∉ vs ∧ sl[j]? = some (some x)) ∨ (j ∈ vs ∧ sl0[j]? = some (some x))
  | [], h => .inl ⟨by simp, h⟩
  | v :: vs, h => by
    rcases get_set h with ⟨e, z⟩ | ⟨e, z⟩
    · subst e
      refine .inr ⟨List.mem_cons_self, ?_⟩
      cases q : sl0[j]? with
      | none => rw [q] at z; cases z
      | some y => rw [q] at z; exact congrArg some z.symm
    · rcases unwipe_get z with ⟨a, b⟩ | ⟨a, b⟩
      · exact .inl ⟨by simp only [List.mem_cons, not_or]; exact ⟨e, a⟩, b⟩
      · exact .inr ⟨List.mem_cons_of_mem _ a, b⟩
theorem unwipe_len {sl0 sl : List (Option SV)} : ∀ {vs : List Nat}, (unwipe sl0 sl vs).length = sl.length
  | [] => rfl
  | _ :: vs => by show ((unwipe sl0 sl vs).set _ _).length = _; rw [List.length_set, unwipe_len]
/-- the forgotten slots are what they were -/
theorem SR.back {vs : List Nat} (S0 : SR K G E am M σ δ1 H1) (S : SR K G E am M' (wipe σ vs) δ2 H2) (hM : ∀ a ∈ M, a ∈ M') (no : noOwn δ1.sl vs) (e : Same (L3.mask M' H1) (L3.mask M' H2)) (r : ∀ (i : Nat) (d : D), δ1.sl[i]? = some (some (SV.sh d)) → ∀ v : V, σ[i]? = some (some v) → Rep K G (L3.mask M' H1) v d) :
    SR K G E am M' σ ⟨unwipe δ1.sl δ2.sl vs, δ2.n⟩ H2 where
  len := by rw [unwipe_len, ← S.len, wipe_length]
  sh := fun j d h => by
    rcases unwipe_get h with ⟨a, b⟩ | ⟨a, b⟩
    · obtain ⟨v, x, y⟩ := S.sh j d b
      rw [wipe_get a] at x
      exact ⟨v, x, y⟩
    · obtain ⟨v, x, y⟩ := S0.sh j d b
      exact ⟨v, x, (r j d b v x).mono e⟩
  ow := fun j d h => by
    rcases unwipe_get h with ⟨a, b⟩ | ⟨a, b⟩
    · obtain ⟨x, y⟩ := S.ow j d b
      rw [wipe_get a] at x
      exact ⟨x, y⟩
    · exact (no.at a b).elim
  inj := fun a b ⟨x, ha⟩ ⟨y, hb⟩ => by
    rcases unwipe_get ha with ⟨_, p⟩ | ⟨p, q⟩
    · rcases unwipe_get hb with ⟨_, p'⟩ | ⟨p', q'⟩
      · exact S.inj a b ⟨x, p⟩ ⟨y, p'⟩
      · exact (no.at p' q').elim
    · exact (no.at p q).elim
  ads := S.ads
  dks := S.dks
  al := S.al
  base := S.base
  di := S.di
  gh := S.gh
  slf := fun x hx d h k => by
    rcases unwipe_get h with ⟨_, z⟩ | ⟨z, w⟩
    · exact S.slf x hx d z k
    · exact (no.at z w).elim
  od := S.od.keep (fun j ks ss h => by
    rcases unwipe_get h with ⟨a, b⟩ | ⟨a, b⟩
    · exact ⟨b, (wipe_get a).symm, rfl⟩
    · exact (no.at2 a b).elim) (fun a ha q1 q2 q3 q4 => ⟨q1, q2, q3, fun u hu => hu, fun j ⟨d, h⟩ => by
    rcases unwipe_get h with ⟨_, b⟩ | ⟨c, b⟩
    · exact q4 j ⟨d, b⟩
    · exact (no.at c b).elim⟩) (Same.refl _)
  mc := S.mc
  ok := S.ok
end

abbrev WG := D → St3 → (St3 → Prop) → Prop
abbrev WGs := List D → St3 → (St3 → Prop) → Prop
abbrev WI := St3 → (List D → St3 → Prop) → Prop
def SimG (K : PySem.W.Frag) (G : Gx) (us : List Nat) (g : TG) (w : WG) : Prop := ∀ (E : Ent) (am : Nat → Addr) (M : List Addr) (σ : L2.St) (δ : St3) (H : Hp), SR K G E am M σ δ H → ∀ (x : V) (d : D), Rep K G (mask M H) x d → ∀ Qd : St3 → Prop, w d δ Qd → ∀ Q : L2.St → Hp → Prop,
  (∀ (σ' : L2.St) (δ' : St3), SR K G E am M σ' δ' H → (∀ vs : List Nat, (∀ u ∈ us, u ∈ vs) → wipe σ' vs = wipe σ vs) → (∀ i, isOwn δ' i → isOwn δ i) → Qd δ' → Q σ' H) → g x σ H Q
def SimGs (K : PySem.W.Frag) (G : Gx) (us : List Nat) (g : TGs) (w : WGs) : Prop := ∀ (E : Ent) (am : Nat → Addr) (M : List Addr) (σ : L2.St) (δ : St3) (H : Hp), SR K G E am M σ δ H → ∀ (xs : List V) (ds : List D), RepAll K G (mask M H) xs ds → ∀ Qd : St3 → Prop, w ds δ Qd → ∀ Q : L2.St → Hp → Prop,
  (∀ (σ' : L2.St) (δ' : St3), SR K G E am M σ' δ' H → (∀ vs : List Nat, (∀ u ∈ us, u ∈ vs) → wipe σ' vs = wipe σ vs) → (∀ i, isOwn δ' i → isOwn δ i) → Qd δ' → Q σ' H) → g xs σ H Q
structure DG (X : Cx) (G : Gx) (tg : Expr) (us : List Nat) (g : TG) (w : WG) : Prop where
  pg : PG X tg g
  sim : SimG X.K G us g w
structure DGs (X : Cx) (G : Gx) (tgs : List Expr) (us : List Nat) (g : TGs) (w : WGs) : Prop where
  pg : PGs X tgs g
  sim : SimGs X.K G us g w
@[simp] def gN (i : Nat) : WG := fun d δ Q => Q ⟨δ.sl.set i (some (.sh d)), δ.n⟩
@[simp] def gNil3 : WGs := fun ds δ Q => ds = [] ∧ Q δ
def gCons3 (g : WG) (t : WGs) : WGs := fun ds δ Q => ∃ d r, ds = d :: r ∧ g d δ fun δ1 => t r δ1 Q
@[simp] def gTup3 (n : Nat) (t : WGs) : WG := fun d δ Q => ∃ ds, d = .tup ds ∧ ds.length = n ∧ t ds δ Q
section
variable {X : Cx} {G : Gx} {K : PySem.W.Frag}
theorem own_set {δ : St3} {i : Nat} {j : Kx} {d : D} (h : isOwn ⟨δ.sl.set i (some (.sh d)), δ.n⟩ j) : isOwn δ j := by
  cases j with
  | ow j =>
    obtain ⟨e, h⟩ := h
    rcases get_set h with ⟨_, z⟩ | ⟨_, z⟩
    · injection z with z; cases z
    · exact ⟨e, z⟩
  | od j ks ss =>
    rcases get_set (show (δ.sl.set i (some (.sh d)))[j]? = some (some (SV.od ks ss)) from h) with ⟨_, z⟩ | ⟨_, z⟩
    · injection z with z; cases z
    · exact z
theorem own_setS {δ : St3} {i : Nat} {j : Nat} {d : D} (h : isOwn ⟨δ.sl.set i (some (.sh d)), δ.n⟩ j) : isOwn δ j := own_set h
theorem sim_gN {i : Nat} : SimG K G [i] (gName i) (gN i) := fun E am M σ δ H S x d r Qd h Q k =>
  k _ _ (S.set_sh r) (fun vs hv => wipe_set (hv i (by simp))) (fun j z => own_set z) h
theorem sim_gNil : SimGs K G [] gNil gNil3 := fun E am M σ δ H S xs ds r Qd ⟨e, h⟩ Q k => by
  subst e
  exact ⟨r, k σ δ S (fun _ _ => rfl) (fun _ z => z) h⟩
theorem sim_gCons {g : TG} {t : TGs} {w : WG} {ws : WGs} {us us' : List Nat} (h1 : SimG K G us g w) (h2 : SimGs K G us' t ws) : SimGs K G (us ++ us') (gCons g t) (gCons3 w ws) := fun E am M σ δ H S xs ds r Qd ⟨d, rs, e, h⟩ Q k => by
  subst e
  obtain ⟨x, xs, rfl, r1, r2⟩ := r
  refine ⟨x, xs, rfl, h1 E am M σ δ H S x d r1 _ h _ fun σ1 δ1 S1 w1 o1 h => ?_⟩
  refine h2 E am M σ1 δ1 H S1 xs rs r2 _ h _ fun σ2 δ2 S2 w2 o2 h => ?_
  exact k σ2 δ2 S2 (fun vs hv => (w2 vs fun u hu => hv u (List.mem_append_right _ hu)).trans (w1 vs fun u hu => hv u (List.mem_append_left _ hu))) (fun i z => o1 i (o2 i z)) h
theorem sim_gTup {n : Nat} {t : TGs} {ws : WGs} {us : List Nat} (h : SimGs K G us t ws) : SimG K G us (gTup K n t) (gTup3 n ws) := fun E am M σ δ H S x d r Qd ⟨ds, e, hl, q⟩ Q k => by
  subst e
  obtain ⟨a, xs, rfl, ht, rs⟩ := r
  exact ⟨a, xs, rfl, same_t mask_le ht, by rw [rs.length]; exact hl, h E am M σ δ H S xs ds rs _ q _ k⟩
theorem dg_name {i : Nat} {x : Str} {pos : Pos} (hN : X.N.Nodup) (hi : X.N[i]? = some x := by rfl) (hx : Loc X.env.scope x := by first | exact Or.inl rfl | exact Or.inr rfl) (hf : X.fn x = true ∨ X.env.scope.names.lookup x = some .local := by first | exact .inl rfl | exact .inr rfl) : DG X G (.Name x pos) [i] (gName i) (gN i) := ⟨pg_name hN hi hx hf, sim_gN⟩
theorem dgs_nil : DGs X G [] [] gNil gNil3 := ⟨pgs_nil, sim_gNil⟩
theorem dgs_cons {e : Expr} {es : List Expr} {g : TG} {t : TGs} {w : WG} {ws : WGs} {us us' : List Nat} (h1 : DG X G e us g w) (h2 : DGs X G es us' t ws) (hs : (assignEach (e :: es) X.env).map (·.2) = assign e X.env :: (assignEach es X.env).map (·.2) := by rfl) : DGs X G (e :: es) (us ++ us') (gCons g t) (gCons3 w ws) := ⟨pgs_cons h1.pg h2.pg hs, sim_gCons h1.sim h2.sim⟩
theorem dg_tup {es : List Expr} {k : Nat} {pos : Pos} {t : TGs} {ws : WGs} {us : List Nat} {n : Nat} (hc : X.calm = true) (h : DGs X G es us t ws) (hn : (assignEach es X.env).length = n := by rfl) (hst : (assignEach es X.env).findIdx? (·.1) = none := by rfl) :
    DG X G (.Tuple es k pos) us (gTup X.K n t) (gTup3 n ws) := ⟨pg_tup hc h.pg hn hst, sim_gTup h.sim⟩
end

/-- an iterator gives just these, as long as the ghosts stand -/
def IterOk (K : PySem.W.Frag) (G : Gx) (gh : List (V × D)) (J : It) (items : List D) : Prop := ∀ (E : Ent) (am : Nat → Addr) (M : List Addr) (σ : L2.St) (δ : St3) (H : Hp), SR K G E am M σ δ H → (∀ p ∈ gh, p ∈ E.gh) →
  (∀ i, items.length = i → J.stop i H) ∧ ∀ (i : Nat) (d : D), items[i]? = some d → J.go i H ∧ ∀ x H', J.yld i H x H' → Same H H' ∧ Rep K G (mask M H') x d
def Ent.add (E : Ent) (l : List (V × D)) : Ent := ⟨E.H0, E.ads, l ++ E.gh, E.slf⟩
def SimI (K : PySem.W.Frag) (G : Gx) (E : Ent) (ti : TI) (w : WI) : Prop := ∀ (am : Nat → Addr) (M : List Addr) (σ : L2.St) (δ : St3) (H : Hp), SR K G E am M σ δ H → ∀ Rd : List D → St3 → Prop, w δ Rd → ∀ R : It → Hp → Prop,
  (∀ (J : It) (items : List D) (gh : List (V × D)) (δ' : St3) (H' : Hp), SR K G (E.add gh) am M σ δ' H' → Ext G am δ H H' → (∀ i, isOwn δ' i → isOwn δ i) → IterOk K G gh J items → Rd items δ' → R J H') → ti σ H R
structure DI (X : Cx) (G : Gx) (tg iter : Expr) (ti : TI) (w : WI) : Prop where
  pi : PI X tg iter ti
  sim : ∀ E, SimI X.K G E ti w
@[simp] def wItems (f : D → Option (List D)) (a : WE) : WI := fun δ R => a δ fun r δ1 => ¬ r.bor ∧ ∃ ds, f r.d = some ds ∧ R ds δ1
def asL : D → Option (List D)
  | .lst ds => some ds
  | _ => none
def asT : D → Option (List D)
  | .tup ds => some ds
  | _ => none
section
variable {X : Cx} {G : Gx} {K : PySem.W.Frag} {E : Ent} {tg e : Expr} {te : TE} {we : WE}
theorem SR.drop {gh : List (V × D)} {am : Nat → Addr} {M : List Addr} {σ : L2.St} {δ : St3} {H : Hp} (S : SR K G (E.add gh) am M σ δ H) (ok : G.okE E) : SR K G E am M σ δ H := S.ungh (fun p h => List.mem_append_right _ h) ok
theorem iterL {a : Addr} {ds : List D} : IterOk K G [(.ref a, .lst ds)] (Itl K a) ds := fun E am M σ δ H S hg => by
  obtain ⟨a', xs, e, hs, r⟩ := S.gh _ (hg (.ref a, .lst ds) (by simp))
  cases e
  have hs' : SqL K H a xs := SqL.of (mask_le _ _ hs)
  refine ⟨fun i hi => ⟨xs, hs', Nat.le_of_eq (r.length.trans hi)⟩, fun i d hd => ?_⟩
  obtain ⟨x, hx, rx⟩ := r.get hd
  refine ⟨⟨xs, x, hs', hx⟩, fun y H' ⟨e1, e2⟩ => ?_⟩
  subst e1
  have e3 := e2 xs hs'
  rw [hx] at e3
  cases e3
  exact ⟨Same.refl _, rx⟩
theorem iterT {a : Addr} {ds : List D} : IterOk K G [(.ref a, .tup ds)] (Itt K a) ds := fun E am M σ δ H S hg => by
  obtain ⟨a', xs, e, hs, r⟩ := S.gh _ (hg (.ref a, .tup ds) (by simp))
  cases e
  have hs' := same_t mask_le hs
  refine ⟨fun i hi => ⟨xs, hs', Nat.le_of_eq (r.length.trans hi)⟩, fun i d hd => ?_⟩
  obtain ⟨x, hx, rx⟩ := r.get hd
  refine ⟨⟨xs, x, hs', hx⟩, fun y H' ⟨e1, e2⟩ => ?_⟩
  subst e1
  have e3 := e2 xs hs'
  rw [hx] at e3
  cases e3
  exact ⟨Same.refl _, rx⟩
theorem sim_iL (h : SimE K G E te we) : SimI K G E (iList K te) (wItems asL we) := fun am M σ δ H S Rd q R k =>
  h am M σ δ H S _ q _ fun v r δ1 H1 S1 e1 o1 rv ⟨nb, ds, hd, hR⟩ => by
    have rr := rv.k.rep nb
    cases q : r.d with
    | lst ds' =>
      rw [q] at hd rr
      cases hd
      obtain ⟨a, xs, rfl, hs, r2⟩ := id rr
      refine ⟨a, rfl, ⟨xs, SqL.of (mask_le _ _ hs)⟩, k (Itl K a) ds [(.ref a, .lst ds)] δ1 H1 (S1.addgh _ fun p hp => ?_) e1 o1 iterL hR⟩
      have : p = (V.ref a, D.lst ds) := by simpa using hp
      subst this
      exact rr
    | _ => rw [q] at hd; cases hd
theorem sim_iT (h : SimE K G E te we) : SimI K G E (iTup K te) (wItems asT we) := fun am M σ δ H S Rd q R k =>
  h am M σ δ H S _ q _ fun v r δ1 H1 S1 e1 o1 rv ⟨nb, ds, hd, hR⟩ => by
    have rr := rv.k.rep nb
    cases q : r.d with
    | tup ds' =>
      rw [q] at hd rr
      cases hd
      obtain ⟨a, xs, rfl, hs, r2⟩ := id rr
      refine ⟨a, rfl, ⟨xs, same_t mask_le hs⟩, k (Itt K a) ds [(.ref a, .tup ds)] δ1 H1 (S1.addgh _ fun p hp => ?_) e1 o1 iterT hR⟩
      have : p = (V.ref a, D.tup ds) := by simpa using hp
      subst this
      exact rr
    | _ => rw [q] at hd; cases hd
theorem di_list (h : DE X G e te we) : DI X G tg e (iList X.K te) (wItems asL we) := ⟨pi_list h.pe, fun E => sim_iL (h.sim E)⟩
theorem di_tup (h : DE X G e te we) : DI X G tg e (iTup X.K te) (wItems asT we) := ⟨pi_tup h.pe, fun E => sim_iT (h.sim E)⟩
/-- range -/
def rng (lo : Int) (n : Nat) : List D := (List.range n).map fun (k : Nat) => D.int (lo + (k : Int))
theorem rng_len {lo : Int} {n : Nat} : (rng lo n).length = n := by simp [rng]
theorem rng_get {lo : Int} {n i : Nat} {d : D} (h : (rng lo n)[i]? = some d) : i < n ∧ d = .int (lo + i) := by
  have hi : i < n := by
    have := (List.getElem?_eq_some_iff.mp h).1
    rwa [rng_len] at this
  refine ⟨hi, ?_⟩
  rw [rng, List.getElem?_map, List.getElem?_range hi] at h
  exact (Option.some.inj h).symm
theorem iterR {lo : Int} {n : Nat} : IterOk K G [] (Itr lo n) (rng lo n) := fun E am M σ δ H S hg => by
  refine ⟨fun i hi => by rw [rng_len] at hi; exact Nat.le_of_eq hi, fun i d hd => ?_⟩
  obtain ⟨h1, rfl⟩ := rng_get hd
  refine ⟨h1, fun y H' ⟨e1, e2⟩ => ?_⟩
  subst e1 e2
  exact ⟨Same.refl _, rfl⟩
@[simp] def wRng1 (a : WA) : WI := fun δ R => a δ fun rs δ1 => ∃ j : Int, rs.map RD.d = [.int j] ∧ j < 2 ^ 62 ∧ -(2 ^ 62) ≤ j ∧ R (rng 0 j.toNat) δ1
@[simp] def wRng2 (a : WA) : WI := fun δ R => a δ fun rs δ1 => ∃ i j : Int, rs.map RD.d = [.int i, .int j] ∧ (-(2 ^ 62) ≤ i ∧ i < 2 ^ 62 ∧ -(2 ^ 62) ≤ j ∧ j < 2 ^ 62) ∧ R (rng i (j - i).toNat) δ1
variable {es : List Expr} {ta : TA} {wa : WA}
theorem RBs.one {M : List Addr} {H : Hp} {vs : List V} {d : D} (h : RBs K G M H vs [d]) : ∃ v, vs = [v] ∧ RB K G M H v d := by
  cases h with
  | cons a b => cases b; exact ⟨_, rfl, a⟩
theorem RBs.two {M : List Addr} {H : Hp} {vs : List V} {d e : D} (h : RBs K G M H vs [d, e]) : ∃ v u, vs = [v, u] ∧ RB K G M H v d ∧ RB K G M H u e := by
  cases h with
  | cons a b =>
    obtain ⟨u, rfl, c⟩ := b.one
    exact ⟨_, _, rfl, a, c⟩
theorem sim_r1 (h : SimA K G E ta wa) : SimI K G E (iRng1 ta) (wRng1 wa) := fun am M σ δ H S Rd q R k =>
  h am M σ δ H S _ q _ fun vs rs δ1 H1 S1 e1 o1 rv ⟨j, hj, h1, h2, hR⟩ => by
    have := rv.rbs S1
    rw [hj] at this
    obtain ⟨v, rfl, b⟩ := this.one
    rw [b.int]
    exact ⟨j, rfl, h2, h1, k _ _ [] δ1 H1 (S1.addgh _ fun p hp => by simp at hp) e1 o1 iterR hR⟩
theorem sim_r2 (h : SimA K G E ta wa) : SimI K G E (iRng2 ta) (wRng2 wa) := fun am M σ δ H S Rd q R k =>
  h am M σ δ H S _ q _ fun vs rs δ1 H1 S1 e1 o1 rv ⟨i, j, hj, hb, hR⟩ => by
    have := rv.rbs S1
    rw [hj] at this
    obtain ⟨v, u, rfl, b, c⟩ := this.two
    rw [b.int, c.int]
    exact ⟨i, j, rfl, hb, k _ _ [] δ1 H1 (S1.addgh _ fun p hp => by simp at hp) e1 o1 iterR hR⟩
theorem di_range1 {a : Expr} {p pos : Pos} (hg : Gl X "range") (hm : X.mg "range" = none) (ha : DA X G [a] ta wa) (hs : starEach [a] X.env = [(false, eval a X.env)] := by rfl) : DI X G tg (.Call (.Name "range" p) [a] [] pos) (iRng1 ta) (wRng1 wa) := ⟨pi_range1 hg hm ha.pa hs, fun E => sim_r1 (ha.sim E)⟩
theorem di_range2 {a b : Expr} {p pos : Pos} (hg : Gl X "range") (hm : X.mg "range" = none) (ha : DA X G [a, b] ta wa) (hs : starEach [a, b] X.env = [(false, eval a X.env), (false, eval b X.env)] := by rfl) (hs2 : starEach [b] X.env = [(false, eval b X.env)] := by rfl) :
    DI X G tg (.Call (.Name "range" p) [a, b] [] pos) (iRng2 ta) (wRng2 wa) := ⟨pi_range2 hg hm ha.pa hs hs2, fun E => sim_r2 (ha.sim E)⟩
end

@[simp] def wNext : WS := fun De δ => De.nx δ
@[simp] def wSeq (a b : WS) : WS := fun De δ => a ⟨b De, De.rt, De.bk, De.ct⟩ δ
@[simp] def wBrk : WS := fun De δ => De.bk δ
@[simp] def wCnt : WS := fun De δ => De.ct δ
@[simp] def wAsg (i : Nat) (w : WE) : WS := fun De δ => w δ fun r δ1 => ¬ r.bor ∧ De.nx ⟨δ1.sl.set i (some (.sh r.d)), δ1.n⟩
@[simp] def wAsgO (i : Nat) (w : WE) : WS := fun De δ => w δ fun r δ1 => ∃ d, r = .fr d ∧ d.isIns = false ∧ De.nx ⟨δ1.sl.set i (some (.ow d)), δ1.n⟩
@[simp] def wAsgG (g : WG) (w : WE) : WS := fun De δ => w δ fun r δ1 => ¬ r.bor ∧ g r.d δ1 De.nx
@[simp] def wDrop (w : WE) : WS := fun De δ => w δ fun _ δ1 => De.nx δ1
@[simp] def wRet (w : WE) : WS := fun De δ => w δ fun r δ1 => De.rt r.d δ1.n
@[simp] def wRetN : WS := fun De δ => De.rt .non δ.n
@[simp] def wIfS (t : WT) (a b : WS) : WS := fun De δ => t δ fun k δ1 => (k = true → a De δ1) ∧ (k = false → b De δ1)
/-- the list in a slot is never changed again -/
@[simp] def wFree (i : Nat) (w : WS) : WS := fun De δ => ∃ d, δ.sl[i]? = some (some (SV.ow d)) ∧ w De ⟨δ.sl.set i (some (.sh d)), δ.n⟩
def wLoop (g : WG) (b : WS) (De : Ends3) : List D → St3 → Prop
  | [], δ => De.nx δ
  | x :: r, δ => g x δ fun δ1 => b ⟨wLoop g b De r, De.rt, De.nx, wLoop g b De r⟩ δ1
@[simp] def wFor (wi : WI) (g : WG) (b : WS) : WS := fun De δ => wi δ fun ds δ1 => wLoop g b De ds δ1
def wWhile (t : WT) (b : WS) : WS := fun De δ => ∃ W : Nat → St3 → Prop, (∃ m, W m δ) ∧ ∀ m δ, W m δ → t δ fun k δ1 =>
  (k = true → b ⟨fun δ' => ∃ m', m' < m ∧ W m' δ', De.rt, De.nx, fun δ' => ∃ m', m' < m ∧ W m' δ'⟩ δ1) ∧ (k = false → De.nx δ1)
def okp (o : Bool) (r : RD) : Prop := match o with
  | true => ∃ d, r = .fr d ∧ d.isIns = false
  | false => ¬ r.bor
@[simp] theorem okp_0 (r : RD) : okp true r = ∃ d, r = .fr d ∧ d.isIns = false := rfl
@[simp] theorem okp_1 (r : RD) : okp false r = ¬ r.bor := rfl
def svOf (o : Bool) (r : RD) : SV := match o with
  | true => .ow r.d
  | false => .sh r.d
@[simp] theorem svOf_0 (r : RD) : svOf true r = .ow r.d := rfl
@[simp] theorem svOf_1 (r : RD) : svOf false r = .sh r.d := rfl
@[simp] def wPar2 (i : Nat) (oi : Bool) (j : Nat) (oj : Bool) (a b : WE) : WS := fun De δ => a δ fun x δ1 => b δ1 fun y δ2 => okp oi x ∧ okp oj y ∧ De.nx ⟨(δ2.sl.set i (some (svOf oi x))).set j (some (svOf oj y)), δ2.n⟩
@[simp] def wPar3 (i : Nat) (oi : Bool) (j : Nat) (oj : Bool) (l : Nat) (ol : Bool) (a b c : WE) : WS := fun De δ => a δ fun x δ1 => b δ1 fun y δ2 => c δ2 fun z δ3 => okp oi x ∧ okp oj y ∧ okp ol z ∧
  De.nx ⟨((δ3.sl.set i (some (svOf oi x))).set j (some (svOf oj y))).set l (some (svOf ol z)), δ3.n⟩
section
variable {X : Cx} {G : Gx} {K : PySem.W.Frag} {E : Ent} {te ta tb tc : TE} {we wa wb wc : WE} {t u : TS} {w w' : WS} {e a b c : Expr} {st : Stmt} {sts : List Stmt} {tt : TT} {wt : WT} {pos : Pos}
theorem sim_seq (h1 : SimS K G t w) (h2 : SimS K G u w') : SimS K G (tSeq t u) (wSeq w w') := fun E am M σ δ H S D3 h De R =>
  h1 E am M σ δ H S _ h _ ⟨fun am M σ δ H S q => h2 E am M σ δ H S D3 q De R, R.bk, R.ct, R.rt⟩
theorem sim_next : SimS K G tNext wNext := fun E am M σ δ H S D3 h De R => R.nx am M σ δ H S h
theorem sim_brk : SimS K G tBreak wBrk := fun E am M σ δ H S D3 h De R => R.bk am M σ δ H S h
theorem sim_cnt : SimS K G tCont wCnt := fun E am M σ δ H S D3 h De R => R.ct am M σ δ H S h
theorem sim_asg {i : Nat} (h : ∀ E, SimE K G E te we) : SimS K G (tAsg te (gName i)) (wAsg i we) := fun E am M σ δ H S D3 q De R =>
  h E am M σ δ H S _ q _ fun v r δ1 H1 S1 e1 o1 rv ⟨nb, q⟩ => R.nx am M _ _ H1 (S1.set_sh (rv.k.rep nb)) q
theorem sim_asgG {g : TG} {wg : WG} {us : List Nat} (h : ∀ E, SimE K G E te we) (hg : SimG K G us g wg) : SimS K G (tAsg te g) (wAsgG wg we) := fun E am M σ δ H S D3 q De R =>
  h E am M σ δ H S _ q _ fun v r δ1 H1 S1 e1 o1 rv ⟨nb, q⟩ => hg E am M σ δ1 H1 S1 v _ (rv.k.rep nb) _ q _ fun σ' δ' S' _ _ q => R.nx am M σ' δ' H1 S' q
theorem sim_asgO {i : Nat} (h : ∀ E, SimE K G E te we) : SimS K G (tAsg te (gName i)) (wAsgO i we) := fun E am M σ δ H S D3 q De R =>
  h E am M σ δ H S _ q _ fun v r δ1 H1 S1 e1 o1 rv ⟨d, er, ni, q⟩ => by
    subst er
    obtain ⟨p, rfl, hp, h0, o, S2⟩ := rv
    exact R.nx _ _ _ _ H1 (S2.set_ow List.mem_cons_self (fun z => hp (S1.ads p z)) (fun j d hd z => hp (z ▸ (S1.ow j d hd).2.1)) h0 o ni fun a ha z => hp (z ▸ (S1.od.isA ha).1)) q
theorem sim_drop (h : ∀ E, SimE K G E te we) : SimS K G (tDrop te) (wDrop we) := fun E am M σ δ H S D3 q De R =>
  h E am M σ δ H S _ q _ fun v r δ1 H1 S1 e1 o1 rv q => R.nx am M σ δ1 H1 S1 q
theorem RV.out {am : Nat → Addr} {M : List Addr} {σ : L2.St} {δ : St3} {H : Hp} {v : V} {r : RD} (S : SR K G E am M σ δ H) (h : RV K G E am M σ δ H v r) : Rep K G (mask E.ads H) v r.d := by
  cases r with
  | sh d => exact Rep.mono (mask_sub S.ads) d h
  | fr d => exact Rep.mono (mask_sub S.ads) d (RV.k h)
  | bo d =>
    obtain ⟨p, rfl, c, o⟩ := BoAt.own S h
    exact o.rep (mask_sub S.ads) fun u e => by rw [mask_out c]; exact e
theorem sim_ret (h : ∀ E, SimE K G E te we) : SimS K G (tRet te) (wRet we) := fun E am M σ δ H S D3 q De R =>
  h E am M σ δ H S _ q _ fun v r δ1 H1 S1 e1 o1 rv q => R.rt v _ _ H1 (rv.out S1) S1.base S1.di q
theorem sim_retN : SimS K G tRetN wRetN := fun E am M σ δ H S D3 q De R => R.rt .non .non _ H rfl S.base S.di q
theorem sim_ifS (h : ∀ E, SimT K G E tt wt) (h1 : SimS K G t w) (h2 : SimS K G u w') : SimS K G (tIfS tt t u) (wIfS wt w w') := fun E am M σ δ H S D3 q De R =>
  h E am M σ δ H S _ q _ fun k δ1 H1 S1 e1 o1 q => by
    cases k with
    | true => rw [if_pos rfl]; exact h1 E am M σ δ1 H1 S1 D3 (q.1 rfl) De R
    | false => rw [if_neg Bool.false_ne_true]; exact h2 E am M σ δ1 H1 S1 D3 (q.2 rfl) De R
theorem sim_free {i : Nat} (h : SimS K G t w) : SimS K G t (wFree i w) := fun E am M σ δ H S D3 ⟨d, hd, q⟩ De R => by
  obtain ⟨M', _, S'⟩ := S.free hd
  exact h E am M' σ _ H S' D3 q De R
theorem sim_for {ti : TI} {wi : WI} {g : TG} {wg : WG} {us : List Nat} (hi : ∀ E, SimI K G E ti wi) (hg : SimG K G us g wg) (hb : SimS K G t w) : SimS K G (tFor ti g t) (wFor wi wg w) := fun E am M σ δ H S D3 q De R => by
  have kE := S.ok
  refine hi E am M σ δ H S _ q _ fun J items gh δ1 H1 S1 e1 o1 ok q => ?_
  refine ⟨fun i m σ H => m = items.length - i ∧ i ≤ items.length ∧ ∃ am M δ, SR K G (E.add gh) am M σ δ H ∧ wLoop wg w D3 (items.drop i) δ, ⟨_, rfl, Nat.zero_le _, am, M, δ1, S1, q⟩, ?_⟩
  rintro i m σ H ⟨rfl, hle, am, M, δ, S, q⟩
  obtain ⟨j1, j2⟩ := ok _ _ _ _ _ _ S fun p hp => List.mem_append_left _ hp
  by_cases hlt : i < items.length
  · have hd : items[i]? = some items[i] := List.getElem?_eq_getElem hlt
    obtain ⟨g1, g2⟩ := j2 i _ hd
    rw [List.drop_eq_getElem_cons hlt] at q
    refine .inr ⟨g1, fun σ' H' => ∃ am M δ, SR K G (E.add gh) am M σ' δ H' ∧ wLoop wg w D3 (items.drop (i + 1)) δ, fun σ' H' ⟨am, M, δ, S, q⟩ => ⟨_, by omega, rfl, hlt, am, M, δ, S, q⟩, fun x H' hy => ?_⟩
    obtain ⟨sm, rx⟩ := g2 x H' hy
    have S' := S.grow sm
    refine hg _ am M σ δ H' S' x _ rx _ q _ fun σ2 δ2 S2 _ _ q => ?_
    refine hb _ am M σ2 δ2 H' S2 _ q _ ⟨fun am M σ δ H S q => ⟨am, M, δ, S, q⟩, fun am M σ δ H S q => R.nx am M σ δ H (S.drop kE) q, fun am M σ δ H S q => ⟨am, M, δ, S, q⟩, R.rt⟩
  · have e : i = items.length := by omega
    subst e
    rw [List.drop_length] at q
    exact .inl ⟨j1 _ rfl, R.nx am M σ δ H (S.drop kE) q⟩
theorem sim_while (ht : ∀ E, SimT K G E tt wt) (hb : SimS K G t w) : SimS K G (tWhile tt t) (wWhile wt w) := fun E am M σ δ H S D3 ⟨W, ⟨m, w0⟩, q⟩ De R => by
  refine ⟨fun m σ H => ∃ am M δ, SR K G E am M σ δ H ∧ W m δ, ⟨m, am, M, δ, S, w0⟩, fun m σ H ⟨am, M, δ, S, hw⟩ => ?_⟩
  refine ht E am M σ δ H S _ (q m δ hw) _ fun k δ1 H1 S1 e1 o1 q => ?_
  cases k with
  | false => rw [if_neg Bool.false_ne_true]; exact R.nx am M σ δ1 H1 S1 (q.2 rfl)
  | true =>
    rw [if_pos rfl]
    refine ⟨fun σ' H' => ∃ m', m' < m ∧ ∃ am M δ, SR K G E am M σ' δ H' ∧ W m' δ, fun σ' H' z => z, hb E am M σ δ1 H1 S1 _ (q.1 rfl) _ ⟨?_, ?_, ?_, R.rt⟩⟩
    · exact fun am M σ δ H S ⟨m', l, z⟩ => ⟨m', l, am, M, δ, S, z⟩
    · exact R.nx
    · exact fun am M σ δ H S ⟨m', l, z⟩ => ⟨m', l, am, M, δ, S, z⟩
theorem SR.isOdA {am : Nat → Addr} {M : List Addr} {σ : L2.St} {δ δ' : St3} {H H' : Hp} (S : SR K G E am M σ δ H) (e : Ext G am δ H H') (ow : ∀ i, isOwn δ' i → isOwn δ i) {a : Addr} (h : L3.isOdA am δ' H' a) : L3.isOdA am δ H a := by
  obtain ⟨i, ks, ss, xs, h1, h2, h3, h4⟩ := h
  have h1 : δ.sl[i]? = some (some (SV.od ks ss)) := ow (.od i ks ss) h1
  obtain ⟨ys, o⟩ := S.od.at' i ks ss h1
  obtain ⟨q1, q2, q3, q4⟩ := o.a (am i) List.mem_cons_self
  have := e _ _ o.h (fun z => q2 (S.dks _ z)) fun j hj => q4 j hj
  rw [h2] at this
  simp only [Option.some.injEq, HO.dK.injEq] at this
  have e := zip_inj h3 o.l this
  subst e
  exact ⟨i, ks, ss, xs, h1, o.h, o.l, h4⟩
/-- a value at hand that is to be stored later, kept while others are worked out -/
def PV (K : PySem.W.Frag) (G : Gx) (E : Ent) (am : Nat → Addr) (M : List Addr) (δ : St3) (H : Hp) (v : V) : Bool → D → Prop
  | true, d => ∃ p, v = .ref p ∧ p ∈ M ∧ p ∉ E.ads ∧ E.H0 p = none ∧ (∀ (j : Nat) (d : D), δ.sl[j]? = some (some (SV.ow d)) → am j ≠ p) ∧ OwnAt K G M H p d ∧ (∀ a, isOdA am δ H a → p ≠ a)
  | false, d => Rep K G (mask M H) v d
theorem RV.pv {am : Nat → Addr} {M : List Addr} {σ : L2.St} {δ : St3} {H : Hp} {v : V} {r : RD} {o : Bool} (S : SR K G E am M σ δ H) (h : RV K G E am M σ δ H v r) (k : okp o r) :
    ∃ M', (∀ a ∈ M, a ∈ M') ∧ SR K G E am M' σ δ H ∧ PV K G E am M' δ H v o r.d ∧ (o = true → ∀ p, v = .ref p → p ∉ M) := by
  cases o with
  | false => exact ⟨M, fun _ z => z, S, h.k.rep k, fun z => by cases z⟩
  | true =>
    obtain ⟨d, rfl, _⟩ := k
    obtain ⟨p, rfl, hp, h0, o, S2⟩ := h
    exact ⟨p :: M, fun a z => List.mem_cons_of_mem _ z, S2, ⟨p, rfl, List.mem_cons_self, fun z => hp (S.ads p z), h0, fun j d hd z => hp (z ▸ (S.ow j d hd).2.1), o, fun a ha z => hp (z ▸ (S.od.isA ha).1)⟩, fun _ q e => by cases e; exact hp⟩
theorem RepAll.zip {H : Hp} : ∀ {xs : List V} {ds : List D}, RepAll K G H xs ds → ∀ p ∈ xs.zip ds, Rep K G H p.1 p.2
  | _, [], h, p, hp => by cases h; simp at hp
  | _, d :: ds, ⟨x, xs, e, r, t⟩, p, hp => by
    subst e
    rcases List.mem_cons.mp (show p ∈ (x, d) :: xs.zip ds from hp) with z | z
    · rw [z]; exact r
    · exact t.zip p z
theorem RepAll.unzip {H : Hp} : ∀ {xs : List V} {ds : List D}, xs.length = ds.length → (∀ p ∈ xs.zip ds, Rep K G H p.1 p.2) → RepAll K G H xs ds
  | [], [], _, _ => rfl
  | [], _ :: _, l, _ => by simp at l
  | _ :: _, [], l, _ => by simp at l
  | x :: xs, d :: ds, l, h => ⟨x, xs, rfl, h (x, d) List.mem_cons_self, RepAll.unzip (by simpa using l) fun p hp => h p (List.mem_cons_of_mem _ hp)⟩
theorem PV.ghost {am : Nat → Addr} {M : List Addr} {σ : L2.St} {δ : St3} {H : Hp} {v : V} {d : D} {o : Bool} (S : SR K G E am M σ δ H) (h : PV K G E am M δ H v o d) :
    ∃ l, SR K G (E.add l) am M σ δ H ∧ ∀ (M' : List Addr) (δ' : St3) (H' : Hp), SR K G (E.add l) am M' σ δ' H' → Ext G am δ H H' → (∀ i, isOwn δ' i → isOwn δ i) → (∀ a ∈ M, a ∈ M') → PV K G E am M' δ' H' v o d := by
  cases o with
  | false =>
    refine ⟨[(v, d)], S.addgh _ fun p hp => ?_, fun M' δ' H' S' _ _ _ => S'.gh (v, d) (by simp [Ent.add])⟩
    have : p = (v, d) := by simpa using hp
    subst this
    exact h
  | true =>
    obtain ⟨p, rfl, hp, ha, h0, hn, o, hq⟩ := h
    have hq' : ∀ {δ' : St3} {H' : Hp}, (∀ i, isOwn δ' i → isOwn δ i) → Ext G am δ H H' → ∀ a, isOdA am δ' H' a → p ≠ a := fun ow e a ha => hq a (S.isOdA e ow ha)
    have own : ∀ {δ' : St3}, (∀ i, isOwn δ' i → isOwn δ i) → ∀ (j : Nat) (d : D), δ'.sl[j]? = some (some (SV.ow d)) → am j ≠ p := fun ow j d hd => by
      obtain ⟨d', h'⟩ := ow j ⟨d, hd⟩
      exact hn j d' h'
    have keep : ∀ {H' : Hp}, Ext G am δ H H' → ∀ u, H p = some u → H' p = some u := fun e u hu => e p u hu (fun z => ha (S.dks p z)) fun i ⟨d, hi⟩ => hn i d hi
    cases d with
    | lst ds =>
      obtain ⟨xs, hx, r⟩ := o
      refine ⟨xs.zip ds, S.addgh _ r.zip, fun M' δ' H' S' e ow hM => ⟨p, rfl, hM p hp, ha, h0, own ow, ⟨xs, keep e _ hx, RepAll.unzip r.length fun q hq => S'.gh q (List.mem_append_left _ hq)⟩, hq' ow e⟩⟩
    | dct ks ds =>
      obtain ⟨xs, hx, l, r⟩ := o
      refine ⟨xs.zip ds, S.addgh _ r.zip, fun M' δ' H' S' e ow hM => ⟨p, rfl, hM p hp, ha, h0, own ow, ⟨xs, keep e _ hx, l, RepAll.unzip r.length fun q hq => S'.gh q (List.mem_append_left _ hq)⟩, hq' ow e⟩⟩
    | dtt ks ds =>
      obtain ⟨xs, hx, l, r⟩ := o
      refine ⟨xs.zip ds, S.addgh _ r.zip, fun M' δ' H' S' e ow hM => ⟨p, rfl, hM p hp, ha, h0, own ow, ⟨xs, keep e _ hx, l, RepAll.unzip r.length fun q hq => S'.gh q (List.mem_append_left _ hq)⟩, hq' ow e⟩⟩
    | ins t ds =>
      obtain ⟨dx, xs, hx, l, r⟩ := o
      refine ⟨xs.zip ds, S.addgh _ r.zip, fun M' δ' H' S' e ow hM => ⟨p, rfl, hM p hp, ha, h0, own ow, ⟨dx, xs, keep e _ hx, l, RepAll.unzip r.length fun q hq => S'.gh q (List.mem_append_left _ hq)⟩, hq' ow e⟩⟩
    | _ => exact o.elim
theorem okp_ni {o : Bool} {r : RD} (k : okp o r) : o = true → r.d.isIns = false := fun e => by
  subst e
  obtain ⟨d, rfl, h⟩ := k
  exact h
theorem PV.put {am : Nat → Addr} {M : List Addr} {σ : L2.St} {δ : St3} {H : Hp} {v : V} {r : RD} {o : Bool} {i : Nat} (S : SR K G E am M σ δ H) (h : PV K G E am M δ H v o r.d) (ni : o = true → r.d.isIns = false) :
    ∃ am', SR K G E am' M (σ.set i (some v)) ⟨δ.sl.set i (some (svOf o r)), δ.n⟩ H ∧ ∀ (v' : V) (o' : Bool) (d' : D), (o = true → o' = true → v' ≠ v) → PV K G E am M δ H v' o' d' → PV K G E am' M ⟨δ.sl.set i (some (svOf o r)), δ.n⟩ H v' o' d' := by
  cases o with
  | false =>
    refine ⟨am, S.set_sh h, fun v' o' r' _ h' => ?_⟩
    cases o' with
    | false => exact h'
    | true =>
      obtain ⟨p, e, hp, ha, h0, hn, o, hq⟩ := h'
      exact ⟨p, e, hp, ha, h0, fun j d hd => by obtain ⟨d', q⟩ := own_setS ⟨d, hd⟩; exact hn j d' q, o, fun a ⟨i', ks, ss, xs, h1, h2⟩ => hq a ⟨i', ks, ss, xs, own_set (j := .od i' ks ss) h1, h2⟩⟩
  | true =>
    obtain ⟨p, rfl, hp, ha, h0, hn, o, hq⟩ := h
    refine ⟨_, S.set_ow (i := i) hp ha hn h0 o (ni rfl) hq, fun v' o' r' hne h' => ?_⟩
    cases o' with
    | false => exact h'
    | true =>
      obtain ⟨p', rfl, hp', ha', h0', hn', o', hq'⟩ := h'
      refine ⟨p', rfl, hp', ha', h0', fun j d hd => ?_, o', fun a ⟨i', ks, ss, xs, h1, h2, h3, h4⟩ => ?_⟩
      rotate_left
      · rcases get_set h1 with ⟨_, z⟩ | ⟨q, z⟩
        · injection z with z; cases z
        · have q : ¬ i' = i := q
          simp only [if_neg q] at h2 h4
          exact hq' a ⟨i', ks, ss, xs, z, h2, h3, h4⟩
      show (if j = i then p else am j) ≠ p'
      by_cases q : j = i
      · rw [if_pos q]
        intro z
        exact hne rfl rfl (by rw [z])
      · rw [if_neg q]
        rcases get_set hd with ⟨z, _⟩ | ⟨_, z⟩
        · exact (q z).elim
        · exact hn' j d z
theorem EndsR.add {D3 : Ends3} {De : L2.Ends} (R : EndsR K G E D3 De) (kE : G.okE E) (l : List (V × D)) : EndsR K G (E.add l) D3 De :=
  ⟨fun am M σ δ H S => R.nx am M σ δ H (S.drop kE), fun am M σ δ H S => R.bk am M σ δ H (S.drop kE), fun am M σ δ H S => R.ct am M σ δ H (S.drop kE), R.rt⟩
theorem PV.of_add {am : Nat → Addr} {M : List Addr} {δ : St3} {H : Hp} {v : V} {d : D} {o : Bool} {l : List (V × D)} (h : PV K G (E.add l) am M δ H v o d) : PV K G E am M δ H v o d := by
  cases o with
  | false => exact h
  | true => exact h
theorem PV.ref {am : Nat → Addr} {M : List Addr} {δ : St3} {H : Hp} {v : V} {d : D} (h : PV K G E am M δ H v true d) : ∃ p, v = .ref p ∧ p ∈ M := by
  obtain ⟨p, e, hp, _⟩ := h
  exact ⟨p, e, hp⟩
theorem sim_par2 {i j : Nat} {oi oj : Bool} (ha : ∀ E, SimE K G E ta wa) (hb : ∀ E, SimE K G E tb wb) : SimS K G (tPar i j (tCons ta (tCons tb tNil))) (wPar2 i oi j oj wa wb) := fun E am M σ δ H S D3 q De R => by
  refine ha E am M σ δ H S _ q _ fun x rx δ1 H1 S1 e1 o1 v1 q => ?_
  -- the first one must be fit to be stored: told at the end; till then both ways
  by_cases k1 : okp oi rx
  · obtain ⟨M1, i1, T1, p1, n1⟩ := v1.pv S1 k1
    obtain ⟨l1, G1, b1⟩ := p1.ghost T1
    refine hb (E.add l1) am M1 σ δ1 H1 G1 _ q _ fun y ry δ2 H2 S2 e2 o2 v2 ⟨_, k2, q⟩ => ?_
    obtain ⟨M2, i2, T2, p2, n2⟩ := v2.pv S2 k2
    have q1 := b1 M2 δ2 H2 T2 e2 o2 i2
    obtain ⟨am1, U1, f1⟩ := PV.put (i := i) (T2.drop S.ok) q1 (okp_ni k1)
    have q2 := f1 y oj ry.d (fun z1 z2 e => by
      subst z1 z2
      obtain ⟨p, e', hp⟩ := p1.ref
      exact n2 rfl p (by rw [e, e']) hp) p2.of_add
    obtain ⟨am2, U2, _⟩ := PV.put (i := j) U1 q2 (okp_ni k2)
    exact ⟨x, y, rfl, R.nx _ _ _ _ _ U2 q⟩
  · refine hb E am M σ δ1 H1 S1 _ q _ fun y ry δ2 H2 S2 e2 o2 v2 ⟨k, _⟩ => (k1 k).elim
theorem sim_par3 {i j m : Nat} {oi oj om : Bool} (ha : ∀ E, SimE K G E ta wa) (hb : ∀ E, SimE K G E tb wb) (hc : ∀ E, SimE K G E tc wc) : SimS K G (tPar3 i j m (tCons ta (tCons tb (tCons tc tNil)))) (wPar3 i oi j oj m om wa wb wc) := fun E am M σ δ H S D3 q De R => by
  refine ha E am M σ δ H S _ q _ fun x rx δ1 H1 S1 e1 o1 v1 q => ?_
  by_cases k1 : okp oi rx
  · obtain ⟨M1, i1, T1, p1, n1⟩ := v1.pv S1 k1
    obtain ⟨l1, G1, b1⟩ := p1.ghost T1
    refine hb (E.add l1) am M1 σ δ1 H1 G1 _ q _ fun y ry δ2 H2 S2 e2 o2 v2 q => ?_
    by_cases k2 : okp oj ry
    · obtain ⟨M2, i2, T2, p2, n2⟩ := v2.pv S2 k2
      obtain ⟨l2, G2, b2⟩ := p2.ghost T2
      refine hc ((E.add l1).add l2) am M2 σ δ2 H2 G2 _ q _ fun z rz δ3 H3 S3 e3 o3 v3 ⟨_, _, k3, q⟩ => ?_
      obtain ⟨M3, i3, T3, p3, n3⟩ := v3.pv S3 k3
      have q2 := (b2 M3 δ3 H3 T3 e3 o3 i3).of_add
      have q1 := b1 M3 δ3 H3 (T3.drop G1.ok) (e2.trans o2 e3) (fun i z => o2 i (o3 i z)) fun a z => i3 a (i2 a z)
      obtain ⟨am1, U1, f1⟩ := PV.put (i := i) ((T3.drop G1.ok).drop S.ok) q1 (okp_ni k1)
      have r2 := f1 y oj ry.d (fun z1 z2 e => by
        subst z1 z2
        obtain ⟨p, e', hp⟩ := p1.ref
        exact n2 rfl p (by rw [e, e']) hp) q2
      have r3 := f1 z om rz.d (fun z1 z2 e => by
        subst z1 z2
        obtain ⟨p, e', hp⟩ := p1.ref
        exact n3 rfl p (by rw [e, e']) (i2 p hp)) p3.of_add.of_add
      obtain ⟨am2, U2, f2⟩ := PV.put (i := j) U1 r2 (okp_ni k2)
      have s3 := f2 z om rz.d (fun z1 z2 e => by
        subst z1 z2
        obtain ⟨p, e', hp⟩ := p2.ref
        exact n3 rfl p (by rw [e, e']) hp) r3
      obtain ⟨am3, U3, _⟩ := PV.put (i := m) U2 s3 (okp_ni k3)
      exact ⟨x, y, z, rfl, R.nx _ _ _ _ _ U3 q⟩
    · refine hc _ am M1 σ δ2 H2 S2 _ q _ fun z rz δ3 H3 S3 e3 o3 v3 ⟨_, k, _⟩ => (k2 k).elim
  · refine hb E am M σ δ1 H1 S1 _ q _ fun y ry δ2 H2 S2 e2 o2 v2 q => ?_
    refine hc _ am M σ δ2 H2 S2 _ q _ fun z rz δ3 H3 S3 e3 o3 v3 ⟨k, _⟩ => (k1 k).elim
end
end L3
namespace L3
open PySem L2
def wLcGo (g : WG) (t : WT) (w : WE) (vs : List Nat) (Q : List D → St3 → Prop) : List D → List D → St3 → Prop
  | [], acc, δ => Q acc δ
  | x :: r, acc, δ => g x δ fun δ1 => t δ1 fun k δ2 =>
    (k = true → w δ2 fun q δ3 => ¬ q.bor ∧ acc.length < 16777216 ∧ wLcGo g t w vs Q r (acc ++ [q.d]) ⟨wipe3 δ3.sl vs, δ3.n⟩) ∧ (k = false → wLcGo g t w vs Q r acc ⟨wipe3 δ2.sl vs, δ2.n⟩)
@[simp] def wLc (wi : WI) (g : WG) (t : WT) (w : WE) (vs : List Nat) : WE := fun δ Q => wi δ fun ds δ1 => noOwn δ1.sl vs ∧
  wLcGo g t w vs (fun acc δ2 => Q (.fr (.lst acc)) ⟨unwipe δ1.sl δ2.sl vs, δ2.n⟩) ds [] ⟨wipe3 δ1.sl vs, δ1.n⟩
@[simp] def wYes : WT := fun δ Q => Q true δ
section
variable {X : Cx} {G : Gx} {K : PySem.W.Frag} {E : Ent}
theorem sim_yes : SimT K G E tYes wYes := fun am M σ δ H S Qd h Q k => k true δ H S .refl (fun _ z => z) h
theorem line16 : sizeLine = 16777216 := by decide
theorem unwipe_own {sl0 sl : List (Option SV)} {n m : Nat} {i : Kx} {vs : List Nat} (no : noOwn sl0 vs) (h : isOwn ⟨unwipe sl0 sl vs, n⟩ i) : isOwn ⟨sl, m⟩ i := by
  cases i with
  | ow i =>
    obtain ⟨d, h⟩ := h
    rcases unwipe_get h with ⟨_, z⟩ | ⟨z, w⟩
    · exact ⟨d, z⟩
    · exact (no.at z w).elim
  | od i ks ss =>
    rcases unwipe_get (show (unwipe sl0 sl vs)[i]? = some (some (SV.od ks ss)) from h) with ⟨_, z⟩ | ⟨z, w⟩
    · exact z
    · exact (no.at2 z w).elim
theorem sim_lc {ti : TI} {wi : WI} {g : TG} {wg : WG} {us vs : List Nat} {tt : TT} {wt : WT} {te : TE} {we : WE} (hi : ∀ E, SimI K G E ti wi) (hg : SimG K G us g wg) (hu : ∀ u ∈ us, u ∈ vs) (ht : ∀ E, SimT K G E tt wt) (he : ∀ E, SimE K G E te we) : SimE K G E (tLc ti g tt te vs) (wLc wi wg wt we vs) := fun am M σ δ H S Qd q Q k => by
  have kE := S.ok
  refine hi E am M σ δ H S _ q _ fun J items gh δ1 H1 S1 e1 o1 ok ⟨no, q⟩ => fun p hp => ?_
  have sm := same_new (o := .lst []) hp
  have T0 := S1.more (p := p) hp sm (by rw [upd_same]; simp)
  have T1 := T0.wiped vs
  have pM : p ∉ M := fun z => S1.al p z hp
  refine ⟨fun i m H => m = items.length - i ∧ i ≤ items.length ∧ ∃ (δ : St3) (acc : List D) (xs : List V), SR K G (E.add gh) am (p :: M) (wipe σ vs) δ H ∧ H p = some (.lst xs) ∧ RepAll K G (mask (p :: M) H) xs acc ∧
      Ext G am δ1 H1 H ∧ (∀ i, isOwn δ i → isOwn δ1 i) ∧ wLcGo wg wt we vs (fun acc δ2 => Qd (.fr (.lst acc)) ⟨unwipe δ1.sl δ2.sl vs, δ2.n⟩) (items.drop i) acc δ,
    ⟨_, rfl, Nat.zero_le _, _, [], [], T1, upd_same, rfl, Ext.of sm, fun i z => wipe3_own z, q⟩, ?_⟩
  rintro i m H ⟨rfl, hle, δ, acc, xs, S, hx, rx, ex, ox, q⟩
  obtain ⟨j1, j2⟩ := ok _ _ _ _ _ _ S fun p hp => List.mem_append_left _ hp
  have pOwn : ∀ i : Nat, isOwn δ1 i → am i ≠ p := fun i ⟨d, hi⟩ z => pM (z ▸ (S1.ow i d hi).2.1)
  have pDk : p ∉ G.dk := fun z => pM (S1.ads p (S1.dks p z))
  by_cases hlt : i < items.length
  · have hd : items[i]? = some items[i] := List.getElem?_eq_getElem hlt
    obtain ⟨g1, g2⟩ := j2 i _ hd
    rw [List.drop_eq_getElem_cons hlt] at q
    refine .inr ⟨g1, fun H' => ∃ (δ : St3) (acc : List D) (xs : List V), SR K G (E.add gh) am (p :: M) (wipe σ vs) δ H' ∧ H' p = some (.lst xs) ∧ RepAll K G (mask (p :: M) H') xs acc ∧
      Ext G am δ1 H1 H' ∧ (∀ i, isOwn δ i → isOwn δ1 i) ∧ wLcGo wg wt we vs (fun acc δ2 => Qd (.fr (.lst acc)) ⟨unwipe δ1.sl δ2.sl vs, δ2.n⟩) (items.drop (i + 1)) acc δ, fun H' z => ⟨_, by omega, rfl, hlt, z⟩, fun x H' hy => ?_⟩
    obtain ⟨sm2, rx2⟩ := g2 x H' hy
    have S' := S.grow sm2
    refine hg _ am (p :: M) _ δ H' S' x _ rx2 _ q _ fun σ2 δ2 S2 w2 o2 q => ?_
    have hw : wipe σ2 vs = wipe σ vs := (w2 vs hu).trans wipe_wipe
    refine ⟨hw, ?_⟩
    refine ht _ am (p :: M) σ2 δ2 H' S2 _ q _ fun b δ3 H3 S3 e3 o3 q => ?_
    have keep : ∀ {H4 : Hp} {δ4 : St3}, Ext G am δ4 H' H4 → (∀ i, isOwn δ4 i → isOwn δ1 i) → ∀ o, H p = some o → H4 p = some o := fun e o u hu => e p u (sm2 _ _ hu) pDk fun i hi => pOwn i (o i hi)
    have ext3 : Ext G am δ1 H1 H3 := (ex.trans ox (Ext.of (δ := δ) sm2)).trans (fun i z => ox i (o2 i z)) e3
    have own3 : ∀ i, isOwn δ3 i → isOwn δ1 i := fun i z => ox i (o2 i (o3 i z))
    cases b with
    | false =>
      rw [if_neg Bool.false_ne_true]
      have T := S3.wiped vs
      rw [hw] at T
      exact ⟨_, acc, xs, T, keep e3 (fun i z => ox i (o2 i z)) _ hx, (rx.mono (mask_mono sm2)).mono (S2.mask e3), ext3, fun i z => own3 i (wipe3_own z), q.2 rfl⟩
    | true =>
      rw [if_pos rfl]
      refine he _ am (p :: M) σ2 δ3 H3 S3 _ (q.1 rfl) _ fun y ry δ4 H4 S4 e4 o4 v4 ⟨nb, sz, q⟩ => ?_
      have h4 : H4 p = some (.lst xs) := e4 p _ (keep e3 (fun i z => ox i (o2 i z)) _ hx) pDk fun i hi => pOwn i (own3 i hi)
      have r4 : RepAll K G (mask (p :: M) H4) xs acc := ((rx.mono (mask_mono sm2)).mono (S2.mask e3)).mono (S3.mask e4)
      refine ⟨xs, h4, by rw [r4.length, line16]; exact sz, ?_⟩
      have T4 : SR K G (E.add gh) am (p :: M) σ2 δ4 (upd H4 p (.lst (xs ++ [y]))) := by
        refine ⟨S4.len, fun j d h => ?_, fun j d h => ?_, S4.inj, S4.ads, S4.dks, fun a ha => ?_, fun b o hb kb => ?_, ?_, fun g hg => ?_, S4.slf, ?_, fun a ha => ?_, S4.ok⟩
        · rw [mask_upd List.mem_cons_self]; exact S4.sh j d h
        · obtain ⟨a1, a2, a3, a4, a5⟩ := S4.ow j d h
          refine ⟨a1, a2, a3, a4, a5.to (by rw [mask_upd List.mem_cons_self]; exact Same.refl _) fun o e => ?_⟩
          rw [upd_ne (pOwn j (own3 j (o4 j ⟨d, h⟩)))]; exact e
        · by_cases z : a = p
          · subst z; rw [upd_same]; simp
          · rw [upd_ne z]; exact S4.al a ha
        · have := S4.base b o hb kb
          have ne : b ≠ p := fun z => by
            subst z
            have h0 := S1.base _ o hb kb
            rw [hp] at h0; cases h0
          rw [upd_ne ne]; exact this
        · refine G.frame _ _ _ (fun a o ha e => ?_) S4.di
          have ne : a ≠ p := fun z => by
            rcases ha with ha | ha
            · exact pDk (by rw [← z]; exact ha)
            · rw [z] at e ha
              exact NoCode.of h4 (fun _ => HO.noConfusion) _ e ha
          rw [upd_ne ne]; exact e
        · rw [mask_upd List.mem_cons_self]; exact S4.gh g hg
        · exact S4.od.keep (fun _ _ _ z => ⟨z, rfl, rfl⟩) (fun a ha q1 q2 q3 q4 => ⟨q1, q2, q3, fun u hu => by
            have aM := (S1.od.isA (S1.isOdA (ext3.trans own3 e4) (fun i z => own3 i (o4 i z)) ha)).1
            rw [upd_ne fun z => pM (by rw [← z]; exact aM)]; exact hu, q4⟩) (by rw [mask_upd List.mem_cons_self]; exact Same.refl _)
        · by_cases z : a = p
          · subst z; exact NoCode.of upd_same fun _ => HO.noConfusion
          · exact (S4.mc a ha).same (S4.al a ha) fun o e => by rw [upd_ne z]; exact e
      have T := T4.wiped vs
      rw [hw] at T
      refine ⟨_, acc ++ [ry.d], xs ++ [y], T, upd_same, ?_, fun b o hb kb ho => ?_, fun i z => own3 i (o4 i (wipe3_own z)), q⟩
      · rw [mask_upd List.mem_cons_self]
        exact r4.append (RepAll.one (v4.k.rep nb))
      · have ne : b ≠ p := fun z => by subst z; rw [hp] at hb; cases hb
        rw [upd_ne ne]
        exact (ext3.trans own3 e4) b o hb kb ho
  · have e : i = items.length := by omega
    subst e
    rw [List.drop_length] at q
    refine .inl ⟨j1 _ rfl, ?_⟩
    have smk : Same (mask (p :: M) H1) (mask (p :: M) H) := mask_same fun b o hb h => ex b o h (fun z => hb (List.mem_cons_of_mem _ (S1.ads b (S1.dks b z)))) fun i ⟨d, hi⟩ z => hb (z ▸ List.mem_cons_of_mem _ (S1.ow i d hi).2.1)
    have B : SR K G (E.add gh) am (p :: M) σ ⟨unwipe δ1.sl δ.sl vs, δ.n⟩ H := S1.back S (fun a z => List.mem_cons_of_mem _ z) no smk fun i d hi v hv => by
      obtain ⟨v', a, b⟩ := S1.sh i d hi
      rw [hv] at a
      cases a
      exact b.mono (mask_new hp (Same.refl _))
    have own : ∀ i, isOwn ⟨unwipe δ1.sl δ.sl vs, δ.n⟩ i → isOwn δ1 i := fun i z => ox i (unwipe_own no z)
    have B2 : SR K G (E.add gh) am M σ ⟨unwipe δ1.sl δ.sl vs, δ.n⟩ H := B.less (fun a z => List.mem_cons_of_mem _ z) S1.ads (fun j d h => by
      obtain ⟨d', h'⟩ := own j ⟨d, h⟩
      exact (S1.ow j d' h').2.1) fun a ha => (S1.od.isA (S1.isOdA ex own ha)).1
    refine k (.ref p) (.fr (.lst acc)) _ H (B2.drop kE) (e1.trans o1 ex) (fun i z => o1 i (own i z)) ⟨p, rfl, pM, ?_, ⟨xs, hx, rx⟩, B.drop kE⟩ q
    cases z : E.H0 p with
    | none => rfl
    | some o => exact absurd (S1.base p o z pDk) (by rw [hp]; simp)
end
/-- a clause's tests -/
structure DTs (X : Cx) (G : Gx) (ifs : List Expr) (tt : TT) (w : WT) : Prop where
  pt : PTs X ifs tt
  sim : ∀ E, SimT X.K G E tt w
section
variable {X : Cx} {G : Gx} {E : Ent}
theorem dts_nil : DTs X G [] tYes wYes := ⟨pts_nil, fun _ => sim_yes⟩
theorem dts_one {c : Expr} {t : TT} {w : WT} (h : DT X G c t w) : DTs X G [c] t w := ⟨pts_one h.pt, h.sim⟩
variable {elt tg iter : Expr} {ifs : List Expr} {scope : Scope} {own : List (Str × Nat)} {pos spos py : Pos} {ti : TI} {wi : WI} {g : TG} {wg : WG} {us : List Nat} {tt : TT} {wt : WT} {te : TE} {we : WE} {i : Nat} {y : Str}
theorem de_lc (hc : X.calm = true) (hN : X.N.Nodup) (hi : DI X G tg iter ti wi) (ok : BlkOk X.N X.env.scope scope own)
    (hg : ∀ (s : Shared) (H : Hp) (C : Addr) (cl : List (Str × Addr)) (fp : List Addr), DG (X.blk s H scope (compEnvC scope cl C X.env) fp) G tg us g wg) (ht : ∀ (s : Shared) (H : Hp) (C : Addr) (cl : List (Str × Addr)) (fp : List Addr), DTs (X.blk s H scope (compEnvC scope cl C X.env) fp) G ifs tt wt)
    (he : ∀ (s : Shared) (H : Hp) (C : Addr) (cl : List (Str × Addr)) (fp : List Addr), DE (X.blk s H scope (compEnvC scope cl C X.env) fp) G elt te we) (hu : ∀ u ∈ us, u ∈ own.map (·.2)) (hs : ∀ x, foldedSetIterable iter X.env x = pure x := by intro _; rfl) :
    DE X G (.ListComp elt [⟨tg, iter, ifs, 0⟩] scope pos) (tLc ti g tt te (own.map (·.2))) (wLc wi wg wt we (own.map (·.2))) :=
  ⟨pe_lc hc hN hi.pi ok (fun s H C cl fp => (hg s H C cl fp).pg) (fun s H C cl fp => (ht s H C cl fp).pt) (fun s H C cl fp => (he s H C cl fp).pe) hs,
    fun E => sim_lc hi.sim (hg X.s_0 (fun _ => none) 0 [] []).sim hu (ht X.s_0 (fun _ => none) 0 [] []).sim (he X.s_0 (fun _ => none) 0 [] []).sim⟩
theorem ds_setLc (hc : X.calm = true) (hN : X.N.Nodup) (hy : X.N[i]? = some y) (hyl : X.env.scope.names.lookup y = some .local)
    (hsw : swapsWith (.ListComp elt [⟨tg, iter, ifs, 0⟩] scope pos) (some (.Name y py)) spos.line X.env = pure true) (hi : DI X G tg iter ti wi) (ok : BlkOk X.N X.env.scope scope own)
    (hg : ∀ (s : Shared) (H : Hp) (C : Addr) (cl : List (Str × Addr)) (fp : List Addr), DG (X.blk s H scope (compEnvC scope cl C X.env) fp) G tg us g wg) (ht : ∀ (s : Shared) (H : Hp) (C : Addr) (cl : List (Str × Addr)) (fp : List Addr), DTs (X.blk s H scope (compEnvC scope cl C X.env) fp) G ifs tt wt)
    (he : ∀ (s : Shared) (H : Hp) (C : Addr) (cl : List (Str × Addr)) (fp : List Addr), DE (X.blk s H scope (compEnvC scope cl C X.env) fp) G elt te we) (hu : ∀ u ∈ us, u ∈ own.map (·.2)) (hs : ∀ x, foldedSetIterable iter X.env x = pure x := by intro _; rfl) :
    DS X G (.Assign [.Name y py] (.ListComp elt [⟨tg, iter, ifs, 0⟩] scope pos) spos) (tAsg (tLc ti g tt te (own.map (·.2))) (gName i)) (wAsg i (wLc wi wg wt we (own.map (·.2)))) :=
  ⟨ps_setLc hc hN hy hyl hsw hi.pi ok (fun s H C cl fp => (hg s H C cl fp).pg) (fun s H C cl fp => (ht s H C cl fp).pt) (fun s H C cl fp => (he s H C cl fp).pe) hs,
    sim_asg fun E => sim_lc hi.sim (hg X.s_0 (fun _ => none) 0 [] []).sim hu (ht X.s_0 (fun _ => none) 0 [] []).sim (he X.s_0 (fun _ => none) 0 [] []).sim⟩
theorem ds_setLcO (hc : X.calm = true) (hN : X.N.Nodup) (hy : X.N[i]? = some y) (hyl : X.env.scope.names.lookup y = some .local)
    (hsw : swapsWith (.ListComp elt [⟨tg, iter, ifs, 0⟩] scope pos) (some (.Name y py)) spos.line X.env = pure true) (hi : DI X G tg iter ti wi) (ok : BlkOk X.N X.env.scope scope own)
    (hg : ∀ (s : Shared) (H : Hp) (C : Addr) (cl : List (Str × Addr)) (fp : List Addr), DG (X.blk s H scope (compEnvC scope cl C X.env) fp) G tg us g wg) (ht : ∀ (s : Shared) (H : Hp) (C : Addr) (cl : List (Str × Addr)) (fp : List Addr), DTs (X.blk s H scope (compEnvC scope cl C X.env) fp) G ifs tt wt)
    (he : ∀ (s : Shared) (H : Hp) (C : Addr) (cl : List (Str × Addr)) (fp : List Addr), DE (X.blk s H scope (compEnvC scope cl C X.env) fp) G elt te we) (hu : ∀ u ∈ us, u ∈ own.map (·.2)) (hs : ∀ x, foldedSetIterable iter X.env x = pure x := by intro _; rfl) :
    DS X G (.Assign [.Name y py] (.ListComp elt [⟨tg, iter, ifs, 0⟩] scope pos) spos) (tAsg (tLc ti g tt te (own.map (·.2))) (gName i)) (wAsgO i (wLc wi wg wt we (own.map (·.2)))) :=
  ⟨ps_setLc hc hN hy hyl hsw hi.pi ok (fun s H C cl fp => (hg s H C cl fp).pg) (fun s H C cl fp => (ht s H C cl fp).pt) (fun s H C cl fp => (he s H C cl fp).pe) hs,
    sim_asgO fun E => sim_lc hi.sim (hg X.s_0 (fun _ => none) 0 [] []).sim hu (ht X.s_0 (fun _ => none) 0 [] []).sim (he X.s_0 (fun _ => none) 0 [] []).sim⟩

variable {st : Stmt} {sts a b : List Stmt} {e c : Expr} {t u : TS} {w w' : WS}
theorem dss_nil : DSs X G [] tNext wNext := ⟨pss_nil, sim_next⟩
theorem dss_cons (h1 : DS X G st t w) (h2 : DSs X G sts u w') : DSs X G (st :: sts) (tSeq t u) (wSeq w w') := ⟨pss_cons h1.ps h2.ps, sim_seq h1.sim h2.sim⟩
theorem dss_one (h1 : DS X G st t w) : DSs X G [st] t w := ⟨pss_one h1.ps, h1.sim⟩
theorem dss_free (i : Nat) (h1 : DSs X G sts t w) : DSs X G sts t (wFree i w) := ⟨h1.ps, sim_free h1.sim⟩
theorem ds_pass : DS X G (.Pass pos) tNext wNext := ⟨ps_pass, sim_next⟩
theorem ds_break : DS X G (.Break pos) tBreak wBrk := ⟨ps_break, sim_brk⟩
theorem ds_continue : DS X G (.Continue pos) tCont wCnt := ⟨ps_continue, sim_cnt⟩
theorem ds_expr (he : DE X G e te we) (hs : swapsWith e none pos.line X.env = pure false := by rfl) : DS X G (.Expr e pos) (tDrop te) (wDrop we) := ⟨ps_expr he.pe hs, sim_drop he.sim⟩
theorem ds_ret (he : DE X G e te we) : DS X G (.Return (some e) pos) (tRet te) (wRet we) := ⟨ps_ret he.pe, sim_ret he.sim⟩
theorem ds_retN : DS X G (.Return none pos) tRetN wRetN := ⟨ps_retN, sim_retN⟩
theorem ds_if (hc : DT X G c tt wt) (ha : DSs X G a t w) (hb : DSs X G b u w') : DS X G (.If c a b pos) (tIfS tt t u) (wIfS wt w w') := ⟨ps_if hc.pt ha.ps hb.ps, sim_ifS hc.sim ha.sim hb.sim⟩
theorem ds_set (i : Nat) {x : Str} (hN : X.N.Nodup) (he : DE X G e te we) (hi : X.N[i]? = some x := by rfl) (hx : Loc X.env.scope x := by first | exact Or.inl rfl | exact Or.inr rfl) (hs : swapsWith e (some (.Name x py)) pos.line X.env = pure false := by rfl)
    (hf : X.fn x = true ∨ X.env.scope.names.lookup x = some .local := by first | exact .inl rfl | exact .inr rfl) : DS X G (.Assign [.Name x py] e pos) (tAsg te (gName i)) (wAsg i we) := ⟨ps_set hN hi hx he.pe hs hf, sim_asg he.sim⟩
theorem ds_setO (i : Nat) {x : Str} (hN : X.N.Nodup) (he : DE X G e te we) (hi : X.N[i]? = some x := by rfl) (hx : Loc X.env.scope x := by first | exact Or.inl rfl | exact Or.inr rfl) (hs : swapsWith e (some (.Name x py)) pos.line X.env = pure false := by rfl)
    (hf : X.fn x = true ∨ X.env.scope.names.lookup x = some .local := by first | exact .inl rfl | exact .inr rfl) : DS X G (.Assign [.Name x py] e pos) (tAsg te (gName i)) (wAsgO i we) := ⟨ps_set hN hi hx he.pe hs hf, sim_asgO he.sim⟩
theorem ds_asg (he : DE X G e te we) (hg : DG X G tg us g wg) (hs : swapsWithSole [tg] e pos.line X.env = pure false := by rfl) (hw : swappedStores [tg] e X.env = pure none := by rfl)
    (h1 : (assignEach [tg] X.env).map (·.2) = [assign tg X.env] := by rfl) : DS X G (.Assign [tg] e pos) (tAsg te g) (wAsgG wg we) := ⟨ps_asg he.pe hg.pg hs hw h1, sim_asgG he.sim hg.sim⟩
theorem ds_for (hp : PassesOwn (model X.prog X.w) X.A X.env X.xe) (hc : X.calm = true) (hi : DI X G tg iter ti wi) (hg : DG X G tg us g wg) (hb : DSs X G a t w) (hs : ∀ x, foldedSetIterable iter X.env x = pure x := by intro _; rfl) :
    DS X G (.For tg iter a [] pos) (tFor ti g t) (wFor wi wg w) := ⟨ps_for hp hc hi.pi hg.pg hb.ps hs, sim_for hi.sim hg.sim hb.sim⟩
theorem ds_while (hp : PassesOwn (model X.prog X.w) X.A X.env X.xe) (hc : DT X G c tt wt) (hb : DSs X G a t w) : DS X G (.While c a [] pos) (tWhile tt t) (wWhile wt w) := ⟨ps_while hp hc.pt hb.ps, sim_while hc.sim hb.sim⟩
variable {e1 e2 e3 : Expr} {t1 t2 t3 : TE} {w1 w2 w3 : WE} {x y' z : Str} {px py' pz pt pt2 : Pos} {i' j l : Nat} {oi oj ol : Bool}
theorem ds_par2 (i' : Nat) (oi : Bool) (j : Nat) (oj : Bool) {kt k2} (hc : X.calm = true) (hN : X.N.Nodup) (h1 : DE X G e1 t1 w1) (h2 : DE X G e2 t2 w2) (hij : i' ≠ j := by decide) (hi : X.N[i']? = some x := by rfl) (hj : X.N[j]? = some y' := by rfl)
    (hx : X.env.scope.names.lookup x = some .local := by rfl) (hy : X.env.scope.names.lookup y' = some .local := by rfl) (hst : starEach [e1, e2] X.env = (false, eval e1 X.env) :: starEach [e2] X.env := by rfl) (hst2 : starEach [e2] X.env = (false, eval e2 X.env) :: starEach [] X.env := by rfl)
    (hw : swappedStores [.Tuple [.Name x px, .Name y' py'] kt pt] (.Tuple [e1, e2] k2 pt2) X.env = pure (some [x, y']) := by rfl)
    (hs : swapsWithSole [.Tuple [.Name x px, .Name y' py'] kt pt] (.Tuple [e1, e2] k2 pt2) pos.line X.env = pure false := by rfl) :
    DS X G (.Assign [.Tuple [.Name x px, .Name y' py'] kt pt] (.Tuple [e1, e2] k2 pt2) pos) (tPar i' j (tCons t1 (tCons t2 tNil))) (wPar2 i' oi j oj w1 w2) :=
  ⟨ps_par hc hN hi hj hij hx hy (pa_cons h1.pe (pa_cons h2.pe pa_nil hst2) hst) hw hs, sim_par2 h1.sim h2.sim⟩
theorem ds_par3 (i' : Nat) (oi : Bool) (j : Nat) (oj : Bool) (l : Nat) (ol : Bool) {kt k2} (hc : X.calm = true) (hN : X.N.Nodup) (h1 : DE X G e1 t1 w1) (h2 : DE X G e2 t2 w2) (h3 : DE X G e3 t3 w3) (hij : i' ≠ j := by decide) (hil : i' ≠ l := by decide) (hjl : j ≠ l := by decide)
    (hi : X.N[i']? = some x := by rfl) (hj : X.N[j]? = some y' := by rfl) (hl : X.N[l]? = some z := by rfl)
    (hx : X.env.scope.names.lookup x = some .local := by rfl) (hy : X.env.scope.names.lookup y' = some .local := by rfl) (hz : X.env.scope.names.lookup z = some .local := by rfl)
    (hst : starEach [e1, e2, e3] X.env = (false, eval e1 X.env) :: starEach [e2, e3] X.env := by rfl) (hst2 : starEach [e2, e3] X.env = (false, eval e2 X.env) :: starEach [e3] X.env := by rfl) (hst3 : starEach [e3] X.env = (false, eval e3 X.env) :: starEach [] X.env := by rfl)
    (hw : swappedStores [.Tuple [.Name x px, .Name y' py', .Name z pz] kt pt] (.Tuple [e1, e2, e3] k2 pt2) X.env = pure (some [x, y', z]) := by rfl)
    (hs : swapsWithSole [.Tuple [.Name x px, .Name y' py', .Name z pz] kt pt] (.Tuple [e1, e2, e3] k2 pt2) pos.line X.env = pure false := by rfl) :
    DS X G (.Assign [.Tuple [.Name x px, .Name y' py', .Name z pz] kt pt] (.Tuple [e1, e2, e3] k2 pt2) pos) (tPar3 i' j l (tCons t1 (tCons t2 (tCons t3 tNil)))) (wPar3 i' oi j oj l ol w1 w2 w3) :=
  ⟨ps_par3 hc hN hi hj hl hij hil hjl hx hy hz (pa_cons h1.pe (pa_cons h2.pe (pa_cons h3.pe pa_nil hst3) hst2) hst) hw hs, sim_par3 h1.sim h2.sim h3.sim⟩
end
end L3
namespace L3
open PySem L2
def keyP : Key → PyData
  | .inl i => .int i
  | .inr s => .str s
mutual
def D.py : D → Option PyData
  | .non => some .none
  | .bl b => some (.bool b)
  | .int i => some (.int i)
  | .str x => some (.str x)
  | .lst ds => (D.pys ds).map .list
  | .tup ds => (D.pys ds).map .tuple
  | .dct _ _ => none
  | .ins _ _ => none
  | .deck => none
  | .cls _ => none
  | .raw _ _ => none
  | .ptup ds => (D.pys ds).map .tuple
  | .ktup ks => some (.tuple (ks.map keyP))
  | .dtt _ _ => none
  | .exc _ _ _ _ => none
def D.pys : List D → Option (List PyData)
  | [] => some []
  | d :: ds => (D.py d).bind fun p => (D.pys ds).map fun ps => p :: ps
end
section
variable {K : PySem.W.Frag} {G : Gx} {H : Hp}
theorem keys_dp : ∀ ks : List Key, DpAll K H (ks.map kV) (ks.map keyP)
  | [] => .nil
  | .inl i :: ks => .cons (.int i) (keys_dp ks)
  | .inr s :: ks => .cons (.str s) (keys_dp ks)
mutual
theorem Rep.dp : ∀ (d : D) {v : V} {p : PyData}, d.py = some p → Rep K G H v d → Dp K H v p
  | .non, v, p, e, r => by
    have e : p = .none := (Option.some.inj (by simpa [D.py] using e)).symm
    have r : v = .non := r
    subst e r
    exact .non
  | .bl b, v, p, e, r => by
    have e : p = .bool b := (Option.some.inj (by simpa [D.py] using e)).symm
    have r : v = .bl b := r
    subst e r
    exact .bl b
  | .int i, v, p, e, r => by
    have e : p = .int i := (Option.some.inj (by simpa [D.py] using e)).symm
    have r : v = .int i := r
    subst e r
    exact .int i
  | .str x, v, p, e, r => by
    have e : p = .str x := (Option.some.inj (by simpa [D.py] using e)).symm
    have r : v = .str x := r
    subst e r
    exact .str x
  | .lst ds, v, p, e, ⟨a, xs, h1, h2, h3⟩ => by
    unfold D.py at e
    obtain ⟨ps, e1, e2⟩ := Option.map_eq_some_iff.mp e
    subst e2 h1
    exact .lst (SqL.of h2) (RepAll.dp ds e1 h3)
  | .tup ds, v, p, e, ⟨a, xs, h1, h2, h3⟩ => by
    unfold D.py at e
    obtain ⟨ps, e1, e2⟩ := Option.map_eq_some_iff.mp e
    subst e2 h1
    exact .tup h2 (RepAll.dp ds e1 h3)
  | .dct _ _, _, _, e, _ => by simp [D.py] at e
  | .ins _ _, _, _, e, _ => by simp [D.py] at e
  | .deck, _, _, e, _ => by simp [D.py] at e
  | .cls _, _, _, e, _ => by simp [D.py] at e
  | .exc _ _ _ _, _, _, e, _ => by simp [D.py] at e
  | .raw _ _, _, _, e, _ => by simp [D.py] at e
  | .ptup ds, v, p, e, ⟨a, xs, o, h1, h2, _, _, h3⟩ => by
    unfold D.py at e
    obtain ⟨ps, e1, e2⟩ := Option.map_eq_some_iff.mp e
    subst e2 h1
    exact .tup (.inl (.inr ⟨o, h2⟩)) (RepAll.dp ds e1 h3)
  | .ktup ks, v, p, e, ⟨a, h1, h2⟩ => by
    have e : p = .tuple (ks.map keyP) := (Option.some.inj (by simpa [D.py] using e)).symm
    subst e h1
    exact .tup (.inl (.inl h2)) (keys_dp ks)
  | .dtt _ _, _, _, e, _ => by simp [D.py] at e
theorem RepAll.dp : ∀ (ds : List D) {vs : List V} {ps : List PyData}, D.pys ds = some ps → RepAll K G H vs ds → DpAll K H vs ps
  | [], vs, ps, e, r => by
    have e : ps = [] := (Option.some.inj (by simpa [D.pys] using e)).symm
    have r : vs = [] := r
    subst e r
    exact .nil
  | d :: ds, vs, ps, e, ⟨x, xs, h1, h2, h3⟩ => by
    unfold D.pys at e
    obtain ⟨p, e1, e2⟩ := Option.bind_eq_some_iff.mp e
    obtain ⟨qs, e3, e4⟩ := Option.map_eq_some_iff.mp e2
    subst e4 h1
    exact .cons (Rep.dp d e1 h2) (RepAll.dp ds e3 h3)
end
theorem pys_ints : ∀ ns : List Int, D.pys (ns.map D.int) = some (ns.map PyData.int)
  | [] => by simp [D.pys]
  | n :: ns => by simp [D.pys, D.py, pys_ints ns]
theorem py_int (i : Int) : (D.int i).py = some (.int i) := by simp [D.py]
theorem py_bl (i : Bool) : (D.bl i).py = some (.bool i) := by simp [D.py]
theorem py_str (i : Str) : (D.str i).py = some (.str i) := by simp [D.py]
theorem py_non : D.non.py = some .none := by simp [D.py]
theorem py_ints (ns : List Int) : (D.lst (ns.map D.int)).py = some (.list (ns.map PyData.int)) := by simp [D.py, pys_ints]
theorem py_tints (ns : List Int) : (D.tup (ns.map D.int)).py = some (.tuple (ns.map PyData.int)) := by simp [D.py, pys_ints]
end

section
variable {K : PySem.W.Frag} {G : Gx} {M : List Addr} {H H' : Hp}
theorem rn_int {i : Int} : RN K G M H H' (.int i) (.sh (.int i)) := rfl
theorem rn_bl {i : Bool} : RN K G M H H' (.bl i) (.sh (.bl i)) := rfl
theorem rn_str {i : Str} : RN K G M H H' (.str i) (.sh (.str i)) := rfl
theorem rn_non : RN K G M H H' .non (.sh .non) := rfl
theorem rn_sh {v : V} {d : D} (h : Rep K G (mask M H') v d) : RN K G M H H' v (.sh d) := h
theorem rn_lst {p : Addr} {xs : List V} {ds : List D} (hp : H p = none) (r : RepAll K G (mask M H) xs ds) : RN K G M H (upd H p (.lst xs)) (.ref p) (.fr (.lst ds)) := ⟨p, rfl, hp, xs, upd_same, r.mono (mask_new hp (same_new hp))⟩
theorem rn_tup {p : Addr} {xs : List V} {ds : List D} (al : ∀ a ∈ M, H a ≠ none) (hp : H p = none) (r : RepAll K G (mask M H) xs ds) : RN K G M H (upd H p (.tup xs)) (.ref p) (.sh (.tup ds)) :=
  ⟨p, xs, rfl, SqT.of (by rw [mask_out fun z => al p z hp, upd_same]), r.mono (mask_mono (same_new hp))⟩
theorem RB.shT {v : V} {ds : List D} (h : RB K G M H v (.tup ds)) : Rep K G (mask M H) v (.tup ds) := by
  rcases h with z | ⟨p, z, w⟩
  · exact z
  · exact w.elim
theorem RB.dp {v : V} {d : D} {p : PyData} (h : RB K G M H v d) (e : d.py = some p) : Dp K H v p := Rep.dp d e h.full
end
def fNeg : F1
  | .int i, Q => Q (.sh (.int (-i)))
  | _, _ => False
@[simp] theorem fNeg_0  (i : Int) (Q : RD → Prop) : fNeg (.int i) Q = (Q (.sh (.int (-i)))) := rfl
def fI (C : Int → Int → Prop) (g : Int → Int → Int) : F2
  | .int i, .int j, Q => C i j ∧ Q (.sh (.int (g i j)))
  | _, _, _ => False
@[simp] theorem fI_0 (C : Int → Int → Prop) (g : Int → Int → Int) (i : Int) (j : Int) (Q : RD → Prop) : fI C g (.int i) (.int j) Q = (C i j ∧ Q (.sh (.int (g i j)))) := rfl
def fIB (g : Int → Int → Bool) : F2
  | .int i, .int j, Q => Q (.sh (.bl (g i j)))
  | _, _, _ => False
@[simp] theorem fIB_0 (g : Int → Int → Bool) (i : Int) (j : Int) (Q : RD → Prop) : fIB g (.int i) (.int j) Q = (Q (.sh (.bl (g i j)))) := rfl
section
variable {X : Cx} {K : PySem.W.Frag} {G : Gx}
theorem ops_I {C : Int → Int → Prop} {g : Int → Int → Int} : OpS K G (rI C fun i j => .int (g i j)) (fI C g) := fun M H x y d e al bx by' Qd h Q k => by
  cases d <;> cases e <;> first | exact h.elim | skip
  obtain ⟨hc, h⟩ := h
  exact ⟨_, _, bx.int, by'.int, hc, k _ _ H (Same.refl _) rn_int h⟩
theorem ops_I0 {g : Int → Int → Int} : OpS K G (rI0 fun i j => .int (g i j)) (fI (fun _ _ => True) g) := fun M H x y d e al bx by' Qd h Q k => by
  cases d <;> cases e <;> first | exact h.elim | skip
  obtain ⟨_, h⟩ := h
  exact ⟨_, _, bx.int, by'.int, k _ _ H (Same.refl _) rn_int h⟩
theorem ops_IB {g : Int → Int → Bool} : OpS K G (rI0 fun i j => .bl (g i j)) (fIB g) := fun M H x y d e al bx by' Qd h Q k => by
  cases d <;> cases e <;> first | exact h.elim | skip
  exact ⟨_, _, bx.int, by'.int, k _ _ H (Same.refl _) rn_bl h⟩
theorem OpS.or {r r' : R2} {f f' g : F2} (h : OpS K G r f) (h' : OpS K G r' f') (hg : ∀ d e Q, g d e Q → f d e Q ∨ f' d e Q) : OpS K G (fun x y H Q => r x y H Q ∨ r' x y H Q) g := fun M H x y d e al bx by' Qd q Q k => by
  rcases hg d e Qd q with q | q
  · exact .inl (h M H x y d e al bx by' Qd q Q k)
  · exact .inr (h' M H x y d e al bx by' Qd q Q k)
def fAdd : F2
  | .int i, .int j, Q => Q (.sh (.int (i + j)))
  | .str i, .str j, Q => i.length + j.length ≤ 16777216 ∧ Q (.sh (.str (i ++ j)))
  | .lst i, .lst j, Q => i.length + j.length ≤ 16777216 ∧ Q (.fr (.lst (i ++ j)))
  | .tup i, .tup j, Q => i.length + j.length ≤ 16777216 ∧ Q (.sh (.tup (i ++ j)))
  | _, _, _ => False
@[simp] theorem fAdd_0  (i : Int) (j : Int) (Q : RD → Prop) : fAdd (.int i) (.int j) Q = (Q (.sh (.int (i + j)))) := rfl
@[simp] theorem fAdd_1  (i : Str) (j : Str) (Q : RD → Prop) : fAdd (.str i) (.str j) Q = (i.length + j.length ≤ 16777216 ∧ Q (.sh (.str (i ++ j)))) := rfl
@[simp] theorem fAdd_2  (i : List D) (j : List D) (Q : RD → Prop) : fAdd (.lst i) (.lst j) Q = (i.length + j.length ≤ 16777216 ∧ Q (.fr (.lst (i ++ j)))) := rfl
@[simp] theorem fAdd_3  (i : List D) (j : List D) (Q : RD → Prop) : fAdd (.tup i) (.tup j) Q = (i.length + j.length ≤ 16777216 ∧ Q (.sh (.tup (i ++ j)))) := rfl
def rAddA (K : PySem.W.Frag) : R2 := fun x y H Q => (rI0 fun i j => .int (i + j)) x y H Q ∨ (∃ i j, x = .str i ∧ y = .str j ∧ i.length + j.length ≤ sizeLine ∧ Q (.str (i ++ j)) H) ∨ rCat x y H Q ∨ rCatA K x y H Q
theorem op_addA : OpR X (binaryOp .Add) (rAddA X.K) := op_add.or (op_add_str.or (op_cat.or op_catA))
theorem ops_add : OpS K G (rAddA K) fAdd := fun M H x y d e al bx by' Qd h Q k => by
  cases d <;> cases e <;> first | exact h.elim | skip
  · exact .inl ⟨_, _, bx.int, by'.int, k _ _ H (Same.refl _) rn_int h⟩
  · obtain ⟨hc, h⟩ := h
    exact .inr (.inl ⟨_, _, bx.str, by'.str, by rw [line16]; exact hc, k _ _ H (Same.refl _) rn_str h⟩)
  · obtain ⟨hc, h⟩ := h
    obtain ⟨a, xs, rfl, ha, ra⟩ := bx.lst
    obtain ⟨b, ys, rfl, hb, rb⟩ := by'.lst
    exact .inr (.inr (.inl ⟨a, b, xs, ys, rfl, rfl, ha, hb, by rw [ra.length, rb.length, line16]; exact hc, fun p hp => k _ _ _ (same_new hp) (rn_lst hp (ra.append rb)) h⟩))
  · obtain ⟨hc, h⟩ := h
    obtain ⟨a, xs, rfl, ha, ra⟩ := bx.tup
    obtain ⟨b, ys, rfl, hb, rb⟩ := by'.tup
    refine .inr (.inr (.inr ⟨a, b, xs, ys, rfl, rfl, ha, hb, by rw [ra.length, rb.length, line16]; exact hc, fun q => ?_, fun _ q => ?_, fun _ _ p hp => k _ _ _ (same_new hp) (rn_tup al hp (ra.append rb)) h⟩))
    · subst q
      have := ra.length
      have e0 := List.length_eq_zero_iff.mp this.symm
      subst e0
      exact k _ _ H (Same.refl _) (rn_sh by'.shT) h
    · subst q
      have := rb.length
      have e0 := List.length_eq_zero_iff.mp this.symm
      subst e0
      rw [List.append_nil] at h
      exact k _ _ H (Same.refl _) (rn_sh bx.shT) h
def fMul : F2
  | .int i, .int j, Q => CMulW i j ∧ Q (.sh (.int (i * j)))
  | .lst ds, .int j, Q => j < 2 ^ 62 ∧ -(2 ^ 62) ≤ j ∧ ds.length * j.toNat ≤ 16777216 ∧ Q (.fr (.lst (List.replicate j.toNat ds).flatten))
  | _, _, _ => False
@[simp] theorem fMul_0  (i : Int) (j : Int) (Q : RD → Prop) : fMul (.int i) (.int j) Q = (CMulW i j ∧ Q (.sh (.int (i * j)))) := rfl
@[simp] theorem fMul_1  (ds : List D) (j : Int) (Q : RD → Prop) : fMul (.lst ds) (.int j) Q = (j < 2 ^ 62 ∧ -(2 ^ 62) ≤ j ∧ ds.length * j.toNat ≤ 16777216 ∧ Q (.fr (.lst (List.replicate j.toNat ds).flatten))) := rfl
def rMulA : R2 := fun x y H Q => (rI CMulW fun i j => .int (i * j)) x y H Q ∨ rRep x y H Q
theorem op_mulA : OpR X (binaryOp .Mult) rMulA := op_mulW.or op_rep
theorem RepAll.rep {M : List Addr} {H : Hp} {xs : List V} {ds : List D} (h : RepAll K G (mask M H) xs ds) : ∀ n : Nat, RepAll K G (mask M H) (List.replicate n xs).flatten (List.replicate n ds).flatten
  | 0 => rfl
  | n + 1 => by
    rw [List.replicate_succ, List.replicate_succ, List.flatten_cons, List.flatten_cons]
    exact h.append (RepAll.rep h n)
theorem ops_mul : OpS K G rMulA fMul := fun M H x y d e al bx by' Qd h Q k => by
  cases d <;> cases e <;> first | exact h.elim | skip
  · obtain ⟨hc, h⟩ := h
    exact .inl ⟨_, _, bx.int, by'.int, hc, k _ _ H (Same.refl _) rn_int h⟩
  · obtain ⟨h1, h2, h3, h⟩ := h
    obtain ⟨a, xs, rfl, ha, ra⟩ := bx.lst
    exact .inr ⟨a, _, xs, rfl, by'.int, ha, by omega, by omega, by rw [ra.length, line16]; exact h3, fun p hp => k _ _ _ (same_new hp) (rn_lst hp (ra.rep _)) h⟩
/-- // by anything but 0 below 2 ^ 9000 -/
def CDivA (_ j : Int) : Prop := j ≠ 0 ∧ j.natAbs.log2 < 9000
theorem op_fdivA : OpR X (binaryOp .FloorDiv) (rI CDivA fun i j => .int (i.fdiv j)) := opI fun _ _ _ _ _ _ _ hc q => PyProof.Rows.floordiv_int hc.1 q (.inl (PyProof.noPylong_of_log2 hc.2))
def eqD (neg : Bool) (d e : D) (Q : RD → Prop) : Prop := ∃ p q, d.py = some p ∧ e.py = some q ∧ SeqAt.shaped p = true ∧ SeqAt.shaped q = true ∧ Q (.sh (.bl (if neg then !PyData.eqv p q else PyData.eqv p q)))
def fEq (neg : Bool) : F2
  | .int i, .int j, Q => Q (.sh (.bl (if neg then !decide (i = j) else decide (i = j))))
  | .str i, .str j, Q => Q (.sh (.bl (if neg then !decide (i = j) else decide (i = j))))
  | .bl i, .bl j, Q => Q (.sh (.bl (if neg then !decide (i = j) else decide (i = j))))
  | d, e, Q => eqD neg d e Q
@[simp] theorem fEq_0 (neg : Bool) (i : Int) (j : Int) (Q : RD → Prop) : fEq neg (.int i) (.int j) Q = (Q (.sh (.bl (if neg then !decide (i = j) else decide (i = j))))) := rfl
@[simp] theorem fEq_1 (neg : Bool) (i : Str) (j : Str) (Q : RD → Prop) : fEq neg (.str i) (.str j) Q = (Q (.sh (.bl (if neg then !decide (i = j) else decide (i = j))))) := rfl
@[simp] theorem fEq_2 (neg : Bool) (i : Bool) (j : Bool) (Q : RD → Prop) : fEq neg (.bl i) (.bl j) Q = (Q (.sh (.bl (if neg then !decide (i = j) else decide (i = j))))) := rfl
@[simp] theorem fEq_lst (neg : Bool) (a b : List D) (Q : RD → Prop) : fEq neg (.lst a) (.lst b) Q = eqD neg (.lst a) (.lst b) Q := rfl
@[simp] theorem fEq_tup (neg : Bool) (a b : List D) (Q : RD → Prop) : fEq neg (.tup a) (.tup b) Q = eqD neg (.tup a) (.tup b) Q := rfl
def rEqA (K : PySem.W.Frag) : R2 := fun x y H Q => rEq x y H Q ∨ rEqD K x y H Q
def rNeA (K : PySem.W.Frag) : R2 := fun x y H Q => rNe x y H Q ∨ rNeD K x y H Q
theorem op_eqA (hu : X.A.units + 64 < cLine) : OpR X (compareOp .Eq) (rEqA X.K) := op_eq.or (op_eqD hu)
theorem op_neA (hu : X.A.units + 64 < cLine) : OpR X (compareOp .NotEq) (rNeA X.K) := op_ne.or (op_neD hu)
theorem dec_i {i j : Int} : decide (V.int i = V.int j) = decide (i = j) := by simp
theorem dec_s {i j : Str} : decide (V.str i = V.str j) = decide (i = j) := by simp
theorem dec_b {i j : Bool} : decide (V.bl i = V.bl j) = decide (i = j) := by simp
theorem ops_eq : OpS K G (rEqA K) (fEq false) := fun M H x y d e al bx by' Qd h Q k => by
  have deep : (∃ p q, d.py = some p ∧ e.py = some q ∧ SeqAt.shaped p = true ∧ SeqAt.shaped q = true ∧ Qd (.sh (.bl (PyData.eqv p q)))) → rEqA K x y H Q := fun ⟨p, q, e1, e2, s1, s2, z⟩ =>
    .inr ⟨p, q, bx.dp e1, by'.dp e2, s1, s2, k _ _ H (Same.refl _) rn_bl z⟩
  cases d <;> cases e <;> first
    | exact deep h
    | exact .inl (by
        have e1 := bx.int
        have e2 := by'.int
        subst e1 e2
        exact ⟨rfl, by rw [dec_i]; exact k _ _ H (Same.refl _) rn_bl h⟩)
    | exact .inl (by
        have e1 := bx.str
        have e2 := by'.str
        subst e1 e2
        exact ⟨rfl, by rw [dec_s]; exact k _ _ H (Same.refl _) rn_bl h⟩)
    | exact .inl (by
        have e1 := bx.bl
        have e2 := by'.bl
        subst e1 e2
        exact ⟨rfl, by rw [dec_b]; exact k _ _ H (Same.refl _) rn_bl h⟩)
theorem ops_ne : OpS K G (rNeA K) (fEq true) := fun M H x y d e al bx by' Qd h Q k => by
  have deep : (∃ p q, d.py = some p ∧ e.py = some q ∧ SeqAt.shaped p = true ∧ SeqAt.shaped q = true ∧ Qd (.sh (.bl (!PyData.eqv p q)))) → rNeA K x y H Q := fun ⟨p, q, e1, e2, s1, s2, z⟩ =>
    .inr ⟨p, q, bx.dp e1, by'.dp e2, s1, s2, k _ _ H (Same.refl _) rn_bl z⟩
  cases d <;> cases e <;> first
    | exact deep h
    | exact .inl (by
        have e1 := bx.int
        have e2 := by'.int
        subst e1 e2
        exact ⟨rfl, by rw [dec_i]; exact k _ _ H (Same.refl _) rn_bl h⟩)
    | exact .inl (by
        have e1 := bx.str
        have e2 := by'.str
        subst e1 e2
        exact ⟨rfl, by rw [dec_s]; exact k _ _ H (Same.refl _) rn_bl h⟩)
    | exact .inl (by
        have e1 := bx.bl
        have e2 := by'.bl
        subst e1 e2
        exact ⟨rfl, by rw [dec_b]; exact k _ _ H (Same.refl _) rn_bl h⟩)
def fIs (neg : Bool) : F2
  | .non, .non, Q => Q (.sh (.bl (!neg)))
  | _, .non, Q => Q (.sh (.bl neg))
  | _, _, _ => False
@[simp] theorem fIs_0 (neg : Bool) (Q : RD → Prop) : fIs neg .non .non Q = (Q (.sh (.bl (!neg)))) := rfl
@[simp] theorem fIs_int (neg : Bool) (x : Int) (Q : RD → Prop) : fIs neg (.int x) .non Q = Q (.sh (.bl neg)) := rfl
@[simp] theorem fIs_str (neg : Bool) (x : Str) (Q : RD → Prop) : fIs neg (.str x) .non Q = Q (.sh (.bl neg)) := rfl
@[simp] theorem fIs_bl (neg : Bool) (x : Bool) (Q : RD → Prop) : fIs neg (.bl x) .non Q = Q (.sh (.bl neg)) := rfl
@[simp] theorem fIs_lst (neg : Bool) (x : List D) (Q : RD → Prop) : fIs neg (.lst x) .non Q = Q (.sh (.bl neg)) := rfl
@[simp] theorem fIs_tup (neg : Bool) (x : List D) (Q : RD → Prop) : fIs neg (.tup x) .non Q = Q (.sh (.bl neg)) := rfl
theorem ops_isN : OpS K G (fun x y H Q => y = .non ∧ Q (.bl (decide (x = .non))) H) (fIs false) := fun M H x y d e al bx by' Qd h Q k => by
  have fin : ∀ b, decide (x = V.non) = b → Qd (.sh (.bl b)) → Q (.bl (decide (x = V.non))) H := fun b e q => by rw [e]; exact k _ _ H (Same.refl _) rn_bl q
  cases e <;> first | (cases d <;> exact h.elim) | skip
  refine ⟨by'.non, ?_⟩
  cases d with
  | non => exact fin true (by rw [bx.non]; rfl) h
  | bl b => exact fin false (by rw [bx.bl]; rfl) h
  | int b => exact fin false (by rw [bx.int]; rfl) h
  | str b => exact fin false (by rw [bx.str]; rfl) h
  | lst b => obtain ⟨p, _, e, _⟩ := bx.lst; exact fin false (by rw [e]; rfl) h
  | tup b => obtain ⟨p, _, e, _⟩ := bx.tup; exact fin false (by rw [e]; rfl) h
  | dct a b => obtain ⟨p, _, e, _⟩ := bx.dct; exact fin false (by rw [e]; rfl) h
  | ins a b => obtain ⟨p, _, _, e, _⟩ := bx.full; exact fin false (by rw [e]; rfl) h
  | deck => exact fin false (by rw [show x = V.ref G.deck from bx.full]; rfl) h
  | cls b => exact fin false (by rw [show x = V.ref (G.cls b) from bx.full]; rfl) h
  | raw p o => exact fin false (by rw [show x = V.ref p from bx.full.1]; rfl) h
  | ptup b => obtain ⟨p, _, _, e, _⟩ := bx.full; exact fin false (by rw [e]; rfl) h
  | ktup b => obtain ⟨p, e, _⟩ := bx.full; exact fin false (by rw [e]; rfl) h
  | dtt a b => obtain ⟨p, _, e, _⟩ := bx.full; exact fin false (by rw [e]; rfl) h
  | exc a b c q => obtain ⟨_, e, _⟩ := bx.full; exact fin false (by rw [e]; rfl) h
theorem ops_notN : OpS K G (fun x y H Q => y = .non ∧ Q (.bl (!decide (x = .non))) H) (fIs true) := fun M H x y d e al bx by' Qd h Q k => by
  have fin : ∀ b, decide (x = V.non) = (!b) → Qd (.sh (.bl b)) → Q (.bl (!decide (x = V.non))) H := fun b e q => by rw [e, Bool.not_not]; exact k _ _ H (Same.refl _) rn_bl q
  cases e <;> first | (cases d <;> exact h.elim) | skip
  refine ⟨by'.non, ?_⟩
  cases d with
  | non => exact fin false (by rw [bx.non]; rfl) h
  | bl b => exact fin true (by rw [bx.bl]; rfl) h
  | int b => exact fin true (by rw [bx.int]; rfl) h
  | str b => exact fin true (by rw [bx.str]; rfl) h
  | lst b => obtain ⟨p, _, e, _⟩ := bx.lst; exact fin true (by rw [e]; rfl) h
  | tup b => obtain ⟨p, _, e, _⟩ := bx.tup; exact fin true (by rw [e]; rfl) h
  | dct a b => obtain ⟨p, _, e, _⟩ := bx.dct; exact fin true (by rw [e]; rfl) h
  | ins a b => obtain ⟨p, _, _, e, _⟩ := bx.full; exact fin true (by rw [e]; rfl) h
  | deck => exact fin true (by rw [show x = V.ref G.deck from bx.full]; rfl) h
  | cls b => exact fin true (by rw [show x = V.ref (G.cls b) from bx.full]; rfl) h
  | raw p o => exact fin true (by rw [show x = V.ref p from bx.full.1]; rfl) h
  | ptup b => obtain ⟨p, _, _, e, _⟩ := bx.full; exact fin true (by rw [e]; rfl) h
  | ktup b => obtain ⟨p, e, _⟩ := bx.full; exact fin true (by rw [e]; rfl) h
  | dtt a b => obtain ⟨p, _, e, _⟩ := bx.full; exact fin true (by rw [e]; rfl) h
  | exc a b c q => obtain ⟨_, e, _⟩ := bx.full; exact fin true (by rw [e]; rfl) h
def D.flat : D → Bool
  | .non => true
  | .bl _ => true
  | .int _ => true
  | .str _ => true
  | _ => false
def D.v : D → V
  | .bl b => .bl b
  | .int i => .int i
  | .str x => .str x
  | _ => .non
def inD (d : D) (ds : List D) : Bool := inV d.v (ds.map D.v)
theorem RB.flat {M : List Addr} {H : Hp} {v : V} {d : D} (h : RB K G M H v d) (f : d.flat = true) : v = d.v ∧ flatV v = true := by
  cases d with
  | non => have := h.non; subst this; exact ⟨rfl, rfl⟩
  | bl b => have := h.bl; subst this; exact ⟨rfl, rfl⟩
  | int b => have := h.int; subst this; exact ⟨rfl, rfl⟩
  | str b => have := h.str; subst this; exact ⟨rfl, rfl⟩
  | _ => cases f
theorem RepAll.flat {H : Hp} : ∀ {ds : List D} {xs : List V}, RepAll K G H xs ds → (ds.all D.flat) = true → xs = ds.map D.v ∧ xs.all flatV = true
  | [], xs, h, _ => by
    have h : xs = [] := h
    subst h; exact ⟨rfl, rfl⟩
  | d :: ds, xs, ⟨x, ys, e, r, t⟩, f => by
    subst e
    rw [List.all_cons, Bool.and_eq_true] at f
    obtain ⟨a, b⟩ := t.flat f.2
    obtain ⟨a', b'⟩ := RB.flat (M := []) (H := H) (.inl (r.mono fun b o e => by rw [mask_out (by simp)]; exact e)) f.1
    subst a a'
    exact ⟨rfl, by rw [List.all_cons, b', b]; rfl⟩
def fIn (neg : Bool) : F2
  | d, .lst ds, Q => d.flat = true ∧ ds.all D.flat = true ∧ Q (.sh (.bl (if neg then !inD d ds else inD d ds)))
  | d, .tup ds, Q => d.flat = true ∧ ds.all D.flat = true ∧ Q (.sh (.bl (if neg then !inD d ds else inD d ds)))
  | _, _, _ => False
@[simp] theorem fIn_0 (neg : Bool) (d : D) (ds : List D) (Q : RD → Prop) : fIn neg d (.lst ds) Q = (d.flat = true ∧ ds.all D.flat = true ∧ Q (.sh (.bl (if neg then !inD d ds else inD d ds)))) := rfl
@[simp] theorem fIn_1 (neg : Bool) (d : D) (ds : List D) (Q : RD → Prop) : fIn neg d (.tup ds) Q = (d.flat = true ∧ ds.all D.flat = true ∧ Q (.sh (.bl (if neg then !inD d ds else inD d ds)))) := rfl
theorem ops_in {neg : Bool} : OpS K G (rIn K neg) (fIn neg) := fun M H x y d e al bx by' Qd h Q k => by
  cases e <;> first | exact h.elim | skip
  · obtain ⟨f1, f2, h⟩ := h
    obtain ⟨a, xs, rfl, ha, ra⟩ := by'.lst
    obtain ⟨e1, e2⟩ := bx.flat f1
    obtain ⟨e3, e4⟩ := ra.flat f2
    refine ⟨a, xs, rfl, .inl (SqL.of ha), e2, e4, ?_⟩
    rw [e1, e3]
    exact k _ _ H (Same.refl _) rn_bl h
  · obtain ⟨f1, f2, h⟩ := h
    obtain ⟨a, xs, rfl, ha, ra⟩ := by'.tup
    obtain ⟨e1, e2⟩ := bx.flat f1
    obtain ⟨e3, e4⟩ := ra.flat f2
    refine ⟨a, xs, rfl, .inr ha, e2, e4, ?_⟩
    rw [e1, e3]
    exact k _ _ H (Same.refl _) rn_bl h
def fIx : F2
  | .lst ds, .int i, Q => ∃ x, atI ds i = some x ∧ Q (.sh x)
  | .tup ds, .int i, Q => ∃ x, atI ds i = some x ∧ Q (.sh x)
  | .str z, .int i, Q => ∃ c, z.length ≤ 16777216 ∧ atI z.cps.toList i = some c ∧ Q (.sh (.str ⟨#[c]⟩))
  | _, _, _ => False
@[simp] theorem fIx_0  (ds : List D) (i : Int) (Q : RD → Prop) : fIx (.lst ds) (.int i) Q = (∃ x, atI ds i = some x ∧ Q (.sh x)) := rfl
@[simp] theorem fIx_1  (ds : List D) (i : Int) (Q : RD → Prop) : fIx (.tup ds) (.int i) Q = (∃ x, atI ds i = some x ∧ Q (.sh x)) := rfl
@[simp] theorem fIx_2  (z : Str) (i : Int) (Q : RD → Prop) : fIx (.str z) (.int i) Q = (∃ c, z.length ≤ 16777216 ∧ atI z.cps.toList i = some c ∧ Q (.sh (.str ⟨#[c]⟩))) := rfl
theorem RepAll.atI {H : Hp} {xs : List V} {ds : List D} {i : Int} {d : D} (r : RepAll K G H xs ds) (h : L2.atI ds i = some d) : ∃ v, L2.atI xs i = some v ∧ Rep K G H v d := by
  unfold L2.atI at h ⊢
  rw [r.length]
  obtain ⟨j, h1, h2⟩ := Option.bind_eq_some_iff.mp h
  obtain ⟨v, h3, h4⟩ := r.get h2
  exact ⟨v, by rw [h1]; exact h3, h4⟩
theorem ops_ix : OpS K G (rIx K) fIx := fun M H x y d e al bx by' Qd h Q k => by
  cases d <;> cases e <;> first | exact h.elim | skip
  · obtain ⟨c, h1, h2, h⟩ := h
    exact .inr (.inr ⟨_, _, c, bx.str, by'.int, by rw [line16]; exact h1, h2, k _ _ H (Same.refl _) rn_str h⟩)
  · obtain ⟨x, h1, h⟩ := h
    obtain ⟨a, xs, rfl, ha, ra⟩ := bx.lst
    obtain ⟨v, h2, rv⟩ := ra.atI h1
    exact .inl ⟨a, xs, _, v, rfl, by'.int, SqL.of ha, h2, k _ _ H (Same.refl _) (rn_sh rv) h⟩
  · obtain ⟨x, h1, h⟩ := h
    obtain ⟨a, xs, rfl, ha, ra⟩ := bx.tup
    obtain ⟨v, h2, rv⟩ := ra.atI h1
    exact .inr (.inl ⟨a, xs, _, v, rfl, by'.int, ha, h2, k _ _ H (Same.refl _) (rn_sh rv) h⟩)
variable {a b : Expr} {ta tb : TE} {wa wb : WE} {pos : Pos}
theorem de_ix (ha : DE X G a ta wa) (hb : DE X G b tb wb) (hs : PlainIx b := by exact fun _ _ => rfl) : DE X G (.Subscript a b pos) (tOp (rIx X.K) ta tb) (wOp fIx wa wb) := ⟨pe_ix ix_seq ha.pe hb.pe hs, fun E => sim_op ops_ix (ha.sim E) (hb.sim E)⟩
theorem de_add (ha : DE X G a ta wa) (hb : DE X G b tb wb) : DE X G (.BinOp a .Add b pos) (tOp (rAddA X.K) ta tb) (wOp fAdd wa wb) := de_op op_addA ops_add ha hb
theorem de_sub (ha : DE X G a ta wa) (hb : DE X G b tb wb) : DE X G (.BinOp a .Sub b pos) (tOp (rI0 fun i j => .int (i - j)) ta tb) (wOp (fI (fun _ _ => True) fun i j => i - j) wa wb) := de_op op_sub ops_I0 ha hb
theorem de_mul (ha : DE X G a ta wa) (hb : DE X G b tb wb) : DE X G (.BinOp a .Mult b pos) (tOp rMulA ta tb) (wOp fMul wa wb) := de_op op_mulA ops_mul ha hb
theorem de_fdiv (ha : DE X G a ta wa) (hb : DE X G b tb wb) : DE X G (.BinOp a .FloorDiv b pos) (tOp (rI CDivA fun i j => .int (i.fdiv j)) ta tb) (wOp (fI CDivA Int.fdiv) wa wb) := de_op op_fdivA ops_I ha hb
theorem de_mod (ha : DE X G a ta wa) (hb : DE X G b tb wb) : DE X G (.BinOp a .Mod b pos) (tOp (rI (fun _ j => j ≠ 0) fun i j => .int (i.fmod j)) ta tb) (wOp (fI (fun _ j => j ≠ 0) Int.fmod) wa wb) := de_op op_modN ops_I ha hb
theorem de_pow (ha : DE X G a ta wa) (hb : DE X G b tb wb) : DE X G (.BinOp a .Pow b pos) (tOp (rI CPow fun i j => .int (i ^ j.toNat)) ta tb) (wOp (fI CPow fun i j => i ^ j.toNat) wa wb) := de_op op_pow ops_I ha hb
theorem de_neg (ha : DE X G a ta wa) : DE X G (.UnaryOp .USub a pos) (tUn (rU fun i => .int (-i)) ta) (wUn fNeg wa) := de_un un_neg (fun M H x d al bx Qd h Q k => by
  cases d <;> first | exact h.elim | skip
  exact ⟨_, bx.int, k _ _ H (Same.refl _) rn_int h⟩) ha
end
end L3
namespace L3
open PySem L2
@[simp] abbrev fLt : F2 := fIB fun i j => decide (i < j)
@[simp] abbrev fLe : F2 := fIB fun i j => decide (i ≤ j)
@[simp] abbrev fGt : F2 := fIB fun i j => decide (j < i)
@[simp] abbrev fGe : F2 := fIB fun i j => decide (j ≤ i)
@[simp] abbrev fSub : F2 := fI (fun _ _ => True) fun i j => i - j
@[simp] abbrev fFdiv : F2 := fI CDivA Int.fdiv
@[simp] abbrev fMod : F2 := fI (fun _ j => j ≠ 0) Int.fmod
@[simp] abbrev fPow : F2 := fI CPow fun i j => i ^ j.toNat
end L3
namespace L3
open PySem PySem.Spec PyProof.Rows L2
structure FnG (P : Program) (w : World) (K : PySem.W.Frag) (mg : Str → Option Value) (base : Heap) (CX : CXT) (k : Nat) (f : Addr) (fd : FuncData) (ps : List Str) (sp : Sp) : Prop where
  len : ∀ vs H Q E, sp vs H Q E → vs.length = ps.length
  go : ∀ (A : Around) (outer : List Env) (s : Shared) (H : Hp) (args : Args) (us : List Value) (vs : List V) (Q : VK) (E : XK), (Room k A ∧ A.guards = some []) → Env0 P w K mg base A outer s H →
    BindsTo s fd args (ps.zip us) → Vals vs us → sp vs H Q E → codeAny (model P w) A (.call (.ref f) args) (CR CX outer P w H s Q E) s
/-- a def of the text as it stands -/
def FunB (K : PySem.W.Frag) (x qual : Str) (params : Arguments) (body : List Stmt) (scope : Scope) (f : Addr) (fd : FuncData) : Prop :=
  ∃ (oc : Value) (od : Option Addr) (dV kV doc pm : Value) (an : Option Addr) (cdv ct : Value) (osl : Array (Option Value)),
    fd = PySem.W.fnOf x qual params body scope dV kV doc pm an cdv ct ∧ K.lookup f = some ⟨oc, od, .func fd, osl⟩ ∧ PySem.W.codeIn K cdv qual = true
theorem FunB.ofD {K : PySem.W.Frag} {x qual : Str} {params : Arguments} {body : List Stmt} {scope : Scope} {dvs : List V} {kws : List (Str × V)} {f : Addr} {fd : FuncData} (F : FunD K x qual params body scope dvs kws f fd) : FunB K x qual params body scope f fd := by
  obtain ⟨oc, od, dV, kV, doc, pm, an, cdv, ct, osl, h1, h2, h3, _⟩ := F.ex
  exact ⟨oc, od, dV, kV, doc, pm, an, cdv, ct, osl, h1, h2, h3⟩
theorem FunB.of {K : PySem.W.Frag} {x qual : Str} {st : Stmt} {f : Addr} {fd : FuncData} (F : Fun K x qual st f fd) : FunB K x qual (defArgs st) (defBody st) (defScope st) f fd := by
  obtain ⟨oc, od, kV, doc, pm, an, cdv, ct, osl, h1, h2, h3⟩ := F.ex
  exact ⟨oc, od, _, kV, doc, pm, an, cdv, ct, osl, h1, h2, h3⟩
section
variable {P : Program} {w : World} {K : PySem.W.Frag} {mg : Str → Option Value} {base : Heap} {CX : CXT} {k : Nat} {f : Addr} {fd : FuncData} {ps N : List Str} {sp : Sp} {x qual : Str} {params : Arguments} {body : List Stmt} {scope : Scope}
/-- a def keeps its promise if its body does -/
theorem FnG.of (F : FunB K x qual params body scope f fd) (S : FnScope N ps scope) (len : ∀ vs H Q E, sp vs H Q E → vs.length = ps.length)
    (hb : ∀ (cdv : Value) (A : Around) (outer : List Env) (s : Shared) (H : Hp) (vs : List V) (Q : VK) (E : XK), Room k (A.deeper (envOfC qual scope s.heap.objs.size f cdv)) → A.guards = some [] → sp vs H Q E →
      ∃ t, PSs (cxOf CX P w K mg base N qual scope f cdv A outer s H E) body t ∧ t { nx := fun _ H' => Q .non H', rt := Q } (start N vs) H) : FnG P w K mg base CX (k + 1) f fd ps sp := by
  obtain ⟨oc, od, dV, kV, doc, pm, an, cdv, ct, osl, rfl, lk, hcd⟩ := F
  refine ⟨len, fun A outer s H args us vs Q E ⟨hr, hg⟩ e0 bt r hsp => ?_⟩
  have hl := len vs H Q E hsp
  have keepB : ∀ b o, base.get? b = some o → s.heap.get? b = some o := fun b o e => (e0.bs b o e).1
  have kx : K.In s.heap := e0.mod.kin.keeps keepB
  have nl : s.heap.NoLimit := e0.mod.nolimit.keeps keepB
  refine codeAny_call_function hr.depth (kx _ _ lk) rfl S.co S.gen rfl (PySem.W.codeRec_of kx hcd) (bt _ _ _ _ ?_)
  have kinds : ∀ y ∈ ps.zip us, scope.names.lookup y.1 = some .local ∨ (scope.names.lookup y.1 = some .cell ∧ ((cellsFrom (s.heap.objs.size + 1) scope.names []).lookup y.1).isSome = true) := by
    rintro ⟨n, v⟩ hy
    exact (S.par n (List.of_mem_zip hy).1).imp_right fun q => ⟨q, PySem.W.cellsFrom_some _ _ _ (.inl q)⟩
  refine wpAny_newFunctionEnv_cells S.kind kinds fun env he s1 ic => ?_
  subst he
  refine ⟨nl.keeps ic.toInCall.keep, codeAny_func ?_⟩
  obtain ⟨t, ht, hq⟩ := hb cdv A outer s H vs Q E (hr.deeper _) hg hsp
  have J0 : Inv (cxOf CX P w K mg base N qual scope f cdv A outer s H E) [] (start N vs) H s1 := inv_start S hr.hd e0 hl r ic
  refine wpAny_mono (ht.run [] s1 (start N vs) H _ J0 hq) (fun fl s' hs => ?_) fun _ _ z => z
  cases fl with
  | ret u => obtain ⟨v, σ', H', J, rv, q⟩ := hs; exact ⟨v, H', J.os, J.bare, J.base, J.hok, rv, q⟩
  | next => obtain ⟨σ', H', J, q⟩ := hs; exact ⟨V.non, H', J.os, J.bare, J.base, J.hok, rfl, q⟩
  | brk => obtain ⟨_, _, _, q⟩ := hs; cases q
  | cont => obtain ⟨_, _, _, q⟩ := hs; cases q
theorem FnG.mono {j : Nat} (F : FnG P w K mg base CX j f fd ps sp) (h : j ≤ k) : FnG P w K mg base CX k f fd ps sp := ⟨F.len, fun A outer s H args us vs Q E ⟨hr, hg⟩ => F.go A outer s H args us vs Q E ⟨hr.mono h, hg⟩⟩
theorem FnG.ofOk (F : FnOk P w K mg base CX k f fd ps sp) : FnG P w K mg base CX k f fd ps sp := ⟨F.len, fun A outer s H args us vs Q E ⟨hr, _⟩ => F.run A outer s H args us vs Q E hr⟩
end
section
variable {X : Cx} {CX : CXT} {k : Nat} {f C : Addr} {fd : FuncData} {ps ks : List Str} {sp : Sp} {dvs : List V} {ds : List Value} {E : XK} {x m : Str} {p pos apos : Pos} {e o : Expr} {es : List Expr} {kws : List Keyword} {ta : TE} {t tk : TA}
theorem _root_.L2.Passes.at_ (h : Passes CX X E) (σ : L2.St) : PassesAt CX X σ E := fun pins H s e s' I c => h pins σ H s e s' I c
theorem FnG.call {pins : List (Addr × Obj)} {σ : L2.St} {H : Hp} {s : Shared} {Q : VK} {args : Args} {us : List Value} {vs : List V} (F : FnG X.prog X.w X.K X.mg X.base CX k f fd ps sp) (hr : Room k X.A) (hg : X.A.guards = some []) (hx : PassesAt CX X σ E)
    (I : Inv X pins σ H s) (bt : us.length = ps.length → BindsTo s fd args (ps.zip us)) (r : Vals vs us) (h : sp vs H Q E) : codeAny (model X.prog X.w) X.A (.call (.ref f) args) (fun q s' => match q with | .ok (.ret u) => EP X pins σ Q u s' | .ok _ => False | .error e => X.xe e s') s := by
  have hl : us.length = ps.length := by rw [← r.length]; exact F.len vs H Q E h
  refine codeAny_mono (F.go X.A X.stack s H args us vs Q E ⟨hr, hg⟩ I.env0 (bt hl) r h) fun q s' hq => ?_
  cases q with
  | error e => exact hx pins H s e s' I hq
  | ok fl => cases fl with
    | ret u => exact I.after hq
    | next => cases hq
    | brk => cases hq
    | cont => cases hq
theorem wp_of_code {α : Type} {M : Model} {A : Around} {fv : Value} {us : List Value} {kw : List (Str × Value)} {Q : Value → Shared → Prop} {E' : Value → Shared → Prop} {s : Shared}
    (h : codeAny M A (.call fv ⟨us, kw⟩) (fun q s' => match q with | .ok (.ret u) => Q u s' | .ok _ => False | .error e => E' e s') s) : wpAny M A (PySem.call fv us kw) Q E' s := by
  refine wpAny_call (codeAny_mono h fun q s' hq => ?_)
  cases q with
  | error e => exact hq
  | ok fl => cases fl with
    | ret u => exact hq
    | next => cases hq
    | brk => cases hq
    | cont => cases hq
theorem pg_call (F : FnG X.prog X.w X.K X.mg X.base CX k f fd ps sp) (hr : Room k X.A) (hg : X.A.guards = some []) (gl : Gl X x) (hm : X.mg x = some (.ref f)) (hk : PySem.W.keepIn X.K (.ref f) = true) (hb : Binds X.K fd ps ds) (hd : Vals dvs ds) (hx : Passes CX X E)
    (ha : PA X (e :: es) t) (hdb : (x == ("__debug__" : Str)) = false := by decide) (he : starEach (e :: es) X.env = (false, eval e X.env) :: starEach es X.env := by rfl) (hpl : (backTo pos (starEach es X.env)).any (·.1) = false := by rfl) :
    PE X (.Call (.Name x p) (e :: es) [] pos) (tCall sp dvs E t) :=
  ⟨fun pins s σ H Q I h => wpAny_Call_Name_kw (ld_glob I gl hm (PySem.W.callWith_K (h₀ := X.base) I.ok.mod.kin hk (thn (ha.run pos pins s σ H _ I h) fun us s1 ⟨vs, H1, I1, r, q⟩ =>
    ⟨I1.kIn, wp_of_code (α := Unit) (F.call hr hg (hx.at_ _) I1 (fun hl => hb s1 us I1.kIn hl) (r.append hd) q)⟩) he hpl) hdb)⟩
theorem pg_call0 (F : FnG X.prog X.w X.K X.mg X.base CX k f fd ps sp) (hr : Room k X.A) (hg : X.A.guards = some []) (gl : Gl X x) (hm : X.mg x = some (.ref f)) (hk : PySem.W.keepIn X.K (.ref f) = true) (hb : Binds X.K fd ps ds) (hd : Vals dvs ds) (hx : Passes CX X E)
    (hdb : (x == ("__debug__" : Str)) = false := by decide) : PE X (.Call (.Name x p) [] [] pos) (tCall sp dvs E tNil) :=
  ⟨fun pins s σ H Q I h => wpAny_Call_Name_kw (ld_glob I gl hm (PySem.W.callWith_K0 I.kIn hk (wp_of_code (α := Unit) (F.call (args := ⟨[], []⟩) hr hg (hx.at_ _) I (fun hl => hb s [] I.kIn hl) (us := [] ++ ds) (vs := [] ++ dvs) hd h))) hdb)⟩
/-- the values of some places -/
@[simp] def pick {α : Type} (perm : List Nat) (l : List α) : List α := perm.filterMap fun i => l[i]?
theorem pick_vals {perm : List Nat} {vs : List V} {us : List Value} (r : Vals vs us) : Vals (pick perm vs) (pick perm us) := by
  induction perm with
  | nil => exact .nil
  | cons i perm ih =>
    unfold pick at ih ⊢
    cases q : vs[i]? with
    | none =>
      rw [List.filterMap_cons_none q, List.filterMap_cons_none (r.none_of q)]
      exact ih
    | some v =>
      obtain ⟨u, hu, ru⟩ := r.get q
      rw [List.filterMap_cons_some q, List.filterMap_cons_some hu]
      exact .cons ru ih
/-- how a call with keywords binds: n values, then those of the keywords ks, then the defaults, of which perm picks the parameters' -/
def KB (K : PySem.W.Frag) (fd : FuncData) (ps : List Str) (n : Nat) (ks : List Str) (perm : List Nat) (ds : List Value) : Prop :=
  ∀ (s : Shared) (us ws : List Value), K.In s.heap → us.length = n → ws.length = ks.length → BindsTo s fd ⟨us, ks.zip ws⟩ (ps.zip (pick perm (us ++ ws ++ ds)))
def tCallP (sp : Sp) (n m : Nat) (perm : List Nat) (dvs : List V) (E : XK) (t tk : TA) : TE := fun σ H Q => t σ H fun vs H1 => tk σ H1 fun zs H2 => vs.length = n ∧ zs.length = m ∧ sp (pick perm (vs ++ zs ++ dvs)) H2 Q E
theorem pg_callK {n : Nat} {perm : List Nat} (F : FnG X.prog X.w X.K X.mg X.base CX k f fd ps sp) (hr : Room k X.A) (hg : X.A.guards = some []) (gl : Gl X x) (hm : X.mg x = some (.ref f)) (hk : PySem.W.keepIn X.K (.ref f) = true) (hb : KB X.K fd ps n ks perm ds) (hd : Vals dvs ds) (hx : Passes CX X E)
    (ha : PA X (e :: es) t) (hkw : PK X kws tk) (hall : (backToKw pos (keywordEach kws X.env)).all (·.1.isSome) = true := by rfl) (hks : (backToKw pos (keywordEach kws X.env)).filterMap (·.1) = ks := by rfl)
    (hdb : (x == ("__debug__" : Str)) = false := by decide) (he : starEach (e :: es) X.env = (false, eval e X.env) :: starEach es X.env := by rfl)
    (hpl : ((backTo pos (starEach (e :: es) X.env)).any (·.1) || (backToKw pos (keywordEach kws X.env)).any (·.1.isNone)) = false := by rfl) :
    PE X (.Call (.Name x p) (e :: es) kws pos) (tCallP sp n ks.length perm dvs E t tk) := by
  refine ⟨fun pins s σ H Q I h => wpAny_Call_Name_kw (ld_glob I gl hm ?_ hdb)⟩
  refine PySem.W.callWith_KW (h₀ := X.base) I.ok.mod.kin hk hall (thn (ha.run pos pins s σ H _ I h) fun us s1 ⟨vs, H1, I1, r, q⟩ => thn (hkw.run pos pins s1 σ H1 _ I1 q) fun ws s2 ⟨zs, H2, I2, rz, l1, l2, q2⟩ => ⟨I2.kIn, ?_⟩) hpl he
  rw [hks]
  exact wp_of_code (α := Unit) (F.call hr hg (hx.at_ _) I2 (fun _ => hb s2 us ws I2.kIn (by rw [← r.length]; exact l1) (by rw [← rz.length]; exact l2)) (pick_vals ((r.append rz).append hd)) q2)
theorem pg_callK0 {perm : List Nat} (F : FnG X.prog X.w X.K X.mg X.base CX k f fd ps sp) (hr : Room k X.A) (hg : X.A.guards = some []) (gl : Gl X x) (hm : X.mg x = some (.ref f)) (hk : PySem.W.keepIn X.K (.ref f) = true) (hb : KB X.K fd ps 0 ks perm ds) (hd : Vals dvs ds) (hx : Passes CX X E)
    (hkw : PK X kws tk) (hall : (backToKw pos (keywordEach kws X.env)).all (·.1.isSome) = true := by rfl) (hks : (backToKw pos (keywordEach kws X.env)).filterMap (·.1) = ks := by rfl) (hdb : (x == ("__debug__" : Str)) = false := by decide)
    (hpl : ((backTo pos (starEach [] X.env)).any (·.1) || (backToKw pos (keywordEach kws X.env)).any (·.1.isNone)) = false := by rfl) :
    PE X (.Call (.Name x p) [] kws pos) (tCallP sp 0 ks.length perm dvs E tNil tk) := by
  refine ⟨fun pins s σ H Q I h => wpAny_Call_Name_kw (ld_glob I gl hm ?_ hdb)⟩
  refine PySem.W.callWith_KW0 (h₀ := X.base) I.ok.mod.kin hk hall (thn (hkw.run pos pins s σ H _ I h) fun ws s2 ⟨zs, H2, I2, rz, _, l2, q2⟩ => ⟨I2.kIn, ?_⟩) hpl
  rw [hks]
  exact wp_of_code (α := Unit) (F.call hr hg (hx.at_ _) I2 (fun _ => hb s2 [] ws I2.kIn rfl (by rw [← rz.length]; exact l2)) (pick_vals (vs := [] ++ zs ++ dvs) (us := [] ++ ws ++ ds) (rz.append hd)) q2)
end

abbrev Con := List D → Nat → (D → Nat → Prop) → Prop
def lift (K : PySem.W.Frag) (Gf : Addr → Addr → Gx) (C : Con) : Sp := fun vs H Q _ => ∃ (a c : Addr) (ads : List Addr) (ds : List D) (n : Nat) (Qd : D → Nat → Prop),
  (∀ x ∈ (Gf a c).dk, x ∈ ads) ∧ (∀ x ∈ ads, H x ≠ none) ∧ (∀ x ∈ ads, NoCode H x) ∧ (Gf a c).DI n H ∧ RepAll K (Gf a c) (mask ads H) vs ds ∧ C ds n Qd ∧
  ∀ (v : V) (d : D) (n' : Nat) (H' : Hp), (∀ b o, H b = some o → b ∉ (Gf a c).dk → H' b = some o) → (Gf a c).DI n' H' → Rep K (Gf a c) (mask ads H') v d → Qd d n' → Q v H'
@[simp] def start3 (N : List Str) (ds : List D) : List (Option SV) := ds.map (fun d => some (.sh d)) ++ List.replicate (N.length - ds.length) none
section
variable {P : Program} {w : World} {K : PySem.W.Frag} {mg : Str → Option Value} {base : Heap} {k : Nat} {f : Addr} {fd : FuncData} {ps N : List Str} {x qual : Str} {params : Arguments} {body : List Stmt} {scope : Scope} {Gf : Addr → Addr → Gx} {C : Con} {ws : WS}
theorem start_sr {G : Gx} {H : Hp} {ads : List Addr} {n : Nat} {am : Nat → Addr} {vs : List V} {ds : List D} (hk : ∀ x ∈ G.dk, x ∈ ads) (ha : ∀ x ∈ ads, H x ≠ none) (hc : ∀ x ∈ ads, NoCode H x) (di : G.DI n H) (r : RepAll K G (mask ads H) vs ds) (ok : G.okE ⟨H, ads, [], none⟩) :
    SR K G ⟨H, ads, [], none⟩ am ads (L2.start N vs) ⟨start3 N ds, n⟩ H where
  len := by unfold L2.start start3; simp [r.length]
  sh := fun i d h => by
    unfold start3 at h
    by_cases q : i < ds.length
    · rw [List.getElem?_append_left (by simpa using q), List.getElem?_map] at h
      cases e : ds[i]? with
      | none => rw [e] at h; cases h
      | some d' =>
        rw [e] at h
        have : d' = d := by simpa using h
        subst this
        obtain ⟨v, h1, h2⟩ := r.get e
        refine ⟨v, ?_, h2⟩
        unfold L2.start
        rw [List.getElem?_append_left (by simpa [r.length] using q), List.getElem?_map, h1]
        rfl
    · rw [List.getElem?_append_right (by simpa using q), List.getElem?_replicate] at h
      split at h <;> cases h
  ow := fun i d h => by
    unfold start3 at h
    by_cases q : i < ds.length
    · rw [List.getElem?_append_left (by simpa using q), List.getElem?_map] at h
      cases e : ds[i]? with
      | none => rw [e] at h; cases h
      | some d' => rw [e] at h; cases h
    · rw [List.getElem?_append_right (by simpa using q), List.getElem?_replicate] at h
      split at h <;> cases h
  inj := fun a b ⟨d, h⟩ _ _ => by
    exfalso
    unfold start3 at h
    by_cases q : a < ds.length
    · rw [List.getElem?_append_left (by simpa using q), List.getElem?_map] at h
      cases e : ds[a]? with
      | none => rw [e] at h; cases h
      | some d' => rw [e] at h; cases h
    · rw [List.getElem?_append_right (by simpa using q), List.getElem?_replicate] at h
      split at h <;> cases h
  ads := fun a z => z
  dks := hk
  al := ha
  base := fun b o h _ => h
  di := di
  gh := fun p hp => by cases hp
  slf := fun x hx => by cases hx
  od := OdOk.none fun i ks ss h => by
    unfold start3 at h
    by_cases q : i < ds.length
    · rw [List.getElem?_append_left (by simpa using q), List.getElem?_map] at h
      cases e : ds[i]? with
      | none => rw [e] at h; cases h
      | some d' => rw [e] at h; cases h
    · rw [List.getElem?_append_right (by simpa using q), List.getElem?_replicate] at h
      split at h <;> cases h
  mc := hc
  ok := ok
/-- THE RULE: a def by its body's reading over data -/
theorem FnG.data (F : FunB K x qual params body scope f fd) (S : FnScope N ps scope) (len : ∀ ds n Q, C ds n Q → ds.length = ps.length)
    (hb : ∀ (cdv : Value) (A : Around) (outer : List Env) (s : Shared) (H : Hp) (E : XK) (a c : Addr), Room k (A.deeper (envOfC qual scope s.heap.objs.size f cdv)) → A.guards = some [] →
      ∃ t, DSs (cxOf CX0 P w K mg base N qual scope f cdv A outer s H E).nox (Gf a c) body t ws)
    (hw : ∀ ds n Q, C ds n Q → ws ⟨fun δ => Q .non δ.n, Q, fun _ => False, fun _ => False⟩ ⟨start3 N ds, n⟩) (hE : ∀ a c E, (Gf a c).okE E := by exact fun _ _ _ => trivial) : FnG P w K mg base CX0 (k + 1) f fd ps (lift K Gf C) := by
  refine FnG.of F S (fun vs H Q E ⟨a, c, ads, ds, n, Qd, _, _, _, _, r, hc, _⟩ => by rw [r.length]; exact len ds n Qd hc) fun cdv A outer s H vs Q E hr hg ⟨a, c, ads, ds, n, Qd, hk, ha, hnc, di, r, hc, q⟩ => ?_
  obtain ⟨t, ht⟩ := hb cdv A outer s H E a c hr hg
  refine ⟨t, ht.ps.nox, ht.sim ⟨H, ads, [], none⟩ (fun _ => 0) ads _ _ H (start_sr hk ha hnc di r (hE a c _)) _ (hw ds n Qd hc) _ ⟨fun am M σ δ H' S' z => ?_, fun _ _ _ _ _ _ z => z, fun _ _ _ _ _ _ z => z, fun v d n' H' rv hbase di' z => q v d n' H' hbase di' rv z⟩⟩
  exact q .non .non _ H' S'.base S'.di rfl z
end
@[simp] def wCall (C : Con) (dd : List D) (w : WA) : WE := fun δ Q => w δ fun rs δ1 => keeps rs ∧ C (rs.map RD.d ++ dd) δ1.n fun d n' => Q (.sh d) ⟨δ1.sl, n'⟩
@[simp] def wCallP (C : Con) (n m : Nat) (perm : List Nat) (dd : List D) (w wk : WA) : WE := fun δ Q => w δ fun rs δ1 => wk δ1 fun qs δ2 => keeps rs ∧ keeps qs ∧ rs.length = n ∧ qs.length = m ∧
  C (pick perm (rs.map RD.d ++ qs.map RD.d ++ dd)) δ2.n fun d n' => Q (.sh d) ⟨δ2.sl, n'⟩
section
variable {X : Cx} {G : Gx} {K : PySem.W.Frag} {E : Ent} {Gf : Addr → Addr → Gx} {a c : Addr} {C : Con} {dd : List D} {dvs : List V} {ta tk : TA} {wa wk : WA}
/-- the default values, that stand whatever the heap -/
def Dfl (K : PySem.W.Frag) (G : Gx) (dvs : List V) (dd : List D) : Prop := ∀ H, RepAll K G H dvs dd
theorem dfl_nil {G : Gx} : Dfl K G [] [] := fun _ => rfl
theorem lift_use {Ex : XK} {am : Nat → Addr} {M : List Addr} {σ : L2.St} {δ : St3} {H : Hp} {vs : List V} {ds : List D} {Qd : RD → St3 → Prop} {Q : VK} (S : SR K (Gf a c) E am M σ δ H) (r : RepAll K (Gf a c) (mask M H) vs ds) (hc : C ds δ.n fun d n' => Qd (.sh d) ⟨δ.sl, n'⟩)
    (k : ∀ (v : V) (r : RD) (δ' : St3) (H' : Hp), SR K (Gf a c) E am M σ δ' H' → Ext (Gf a c) am δ H H' → (∀ i, isOwn δ' i → isOwn δ i) → RV K (Gf a c) E am M σ δ' H' v r → Qd r δ' → Q v H') : lift K Gf C vs H Q Ex := by
  refine ⟨a, c, M, ds, δ.n, _, fun x hx => S.ads x (S.dks x hx), S.al, S.mc, S.di, r, hc, fun v d n' H' hb di rv q => ?_⟩
  exact k v (.sh d) ⟨δ.sl, n'⟩ H' (S.after hb di) (fun b o h hk _ => hb b o h hk) (fun i z => z) rv q
theorem sim_call {Ex : XK} (h : SimA K (Gf a c) E ta wa) (hd : Dfl K (Gf a c) dvs dd) : SimE K (Gf a c) E (tCall (lift K Gf C) dvs Ex ta) (wCall C dd wa) := fun am M σ δ H S Qd q Q k =>
  h am M σ δ H S _ q _ fun vs rs δ1 H1 S1 e1 o1 r1 ⟨hk, hc⟩ => lift_use S1 ((r1.rep hk).append (hd _)) hc fun v r δ' H' S' e' o' rv hq => k v r δ' H' S' (e1.trans o1 e') (fun i z => o1 i (o' i z)) rv hq
theorem pick_rep {perm : List Nat} {H : Hp} {G : Gx} {vs : List V} {ds : List D} (r : RepAll K G H vs ds) : RepAll K G H (pick perm vs) (pick perm ds) := by
  induction perm with
  | nil => exact rfl
  | cons i perm ih =>
    unfold pick at ih ⊢
    cases q : ds[i]? with
    | none =>
      have q' : vs[i]? = none := by
        rw [List.getElem?_eq_none_iff] at q ⊢
        rw [r.length]; exact q
      rw [List.filterMap_cons_none q, List.filterMap_cons_none q']
      exact ih
    | some d =>
      obtain ⟨v, hv, rv⟩ := r.get q
      rw [List.filterMap_cons_some q, List.filterMap_cons_some hv]
      exact ⟨v, _, rfl, rv, ih⟩
theorem RKs.later {G : Gx} {am : Nat → Addr} {M : List Addr} {σ : L2.St} {δ1 δ2 : St3} {H1 H2 : Hp} (S : SR K G E am M σ δ1 H1) (e : Ext G am δ1 H1 H2) : ∀ {vs : List V} {rs : List RD}, RKs K G am M δ1 H1 vs rs → keeps rs → RKs K G am M δ2 H2 vs rs
  | _, _, .nil, _ => .nil
  | _, _, .cons h t, ⟨k, ks⟩ => .cons (h.later S e fun z => (k z).elim) (t.later S e ks)
theorem sim_callP {Ex : XK} {n m : Nat} {perm : List Nat} (h : SimA K (Gf a c) E ta wa) (h' : SimA K (Gf a c) E tk wk) (hd : Dfl K (Gf a c) dvs dd) : SimE K (Gf a c) E (tCallP (lift K Gf C) n m perm dvs Ex ta tk) (wCallP C n m perm dd wa wk) := fun am M σ δ H S Qd q Q k =>
  h am M σ δ H S _ q _ fun vs rs δ1 H1 S1 e1 o1 r1 q => h' am M σ δ1 H1 S1 _ q _ fun zs qs δ2 H2 S2 e2 o2 r2 ⟨k1, k2, l1, l2, hc⟩ =>
    ⟨by rw [r1.length]; exact l1, by rw [r2.length]; exact l2, lift_use S2 (pick_rep ((((r1.later (δ2 := δ2) S1 e2 k1).rep k1).append (r2.rep k2)).append (hd _))) hc fun v r δ' H' S' e' o' rv hq =>
      k v r δ' H' S' ((e1.trans o1 e2).trans (fun i z => o1 i (o2 i z)) e') (fun i z => o1 i (o2 i (o' i z))) rv hq⟩
variable {k : Nat} {f : Addr} {fd : FuncData} {ps ks : List Str} {ds : List Value} {x : Str} {p pos : Pos} {e : Expr} {es : List Expr} {kws : List Keyword}
theorem de_call (F : FnG X.prog X.w X.K X.mg X.base CX0 k f fd ps (lift X.K Gf C)) (hr : Room k X.A) (hg : X.A.guards = some []) (hm : X.mg x = some (.ref f)) (hk : PySem.W.keepIn X.K (.ref f) = true) (hb : Binds X.K fd ps ds) (hv : Vals dvs ds) (hd : Dfl X.K (Gf a c) dvs dd)
    (ha : DA X (Gf a c) (e :: es) ta wa) (gl : Gl X x := by rfl) (hdb : (x == ("__debug__" : Str)) = false := by decide) (he : starEach (e :: es) X.env = (false, eval e X.env) :: starEach es X.env := by rfl) (hpl : (backTo pos (starEach es X.env)).any (·.1) = false := by rfl) :
    DE X (Gf a c) (.Call (.Name x p) (e :: es) [] pos) (tCall (lift X.K Gf C) dvs E0 ta) (wCall C dd wa) := ⟨pg_call F hr hg gl hm hk hb hv pass0 ha.pa hdb he hpl, fun E => sim_call (ha.sim E) hd⟩
theorem de_call0 (F : FnG X.prog X.w X.K X.mg X.base CX0 k f fd ps (lift X.K Gf C)) (hr : Room k X.A) (hg : X.A.guards = some []) (hm : X.mg x = some (.ref f)) (hk : PySem.W.keepIn X.K (.ref f) = true) (hb : Binds X.K fd ps ds) (hv : Vals dvs ds) (hd : Dfl X.K (Gf a c) dvs dd)
    (gl : Gl X x := by rfl) (hdb : (x == ("__debug__" : Str)) = false := by decide) : DE X (Gf a c) (.Call (.Name x p) [] [] pos) (tCall (lift X.K Gf C) dvs E0 tNil) (wCall C dd wNil) := ⟨pg_call0 F hr hg gl hm hk hb hv pass0 hdb, fun E => sim_call sim_nil hd⟩
structure DK (X : Cx) (G : Gx) (kws : List Keyword) (tk : TA) (w : WA) : Prop where
  pk : PK X kws tk
  sim : ∀ E, SimA X.K G E tk w
theorem dk_nil {G : Gx} : DK X G [] tNil wNil := ⟨pk_nil, fun _ => sim_nil⟩
theorem dk_cons {G : Gx} {nm : Option Str} {kpos : Pos} {te : TE} {we : WE} (h : DE X G e te we) (hr : DK X G kws tk wk) : DK X G (⟨nm, e, kpos⟩ :: kws) (tCons te tk) (wCons we wk) := ⟨pk_cons h.pe hr.pk, fun E => sim_cons (h.sim E) (hr.sim E)⟩
theorem de_callK {n m : Nat} {perm : List Nat} (F : FnG X.prog X.w X.K X.mg X.base CX0 k f fd ps (lift X.K Gf C)) (hr : Room k X.A) (hg : X.A.guards = some []) (hm : X.mg x = some (.ref f)) (hk : PySem.W.keepIn X.K (.ref f) = true) (hb : KB X.K fd ps n ks perm ds) (hv : Vals dvs ds) (hd : Dfl X.K (Gf a c) dvs dd)
    (ha : DA X (Gf a c) (e :: es) ta wa) (hkw : DK X (Gf a c) kws tk wk) (gl : Gl X x := by rfl) (hall : (backToKw pos (keywordEach kws X.env)).all (·.1.isSome) = true := by rfl) (hks : (backToKw pos (keywordEach kws X.env)).filterMap (·.1) = ks := by rfl)
    (hdb : (x == ("__debug__" : Str)) = false := by decide) (he : starEach (e :: es) X.env = (false, eval e X.env) :: starEach es X.env := by rfl)
    (hpl : ((backTo pos (starEach (e :: es) X.env)).any (·.1) || (backToKw pos (keywordEach kws X.env)).any (·.1.isNone)) = false := by rfl) (hlen : ks.length = m := by rfl) :
    DE X (Gf a c) (.Call (.Name x p) (e :: es) kws pos) (tCallP (lift X.K Gf C) n m perm dvs E0 ta tk) (wCallP C n m perm dd wa wk) := by subst hlen; exact ⟨pg_callK F hr hg gl hm hk hb hv pass0 ha.pa hkw.pk hall hks hdb he hpl, fun E => sim_callP (ha.sim E) (hkw.sim E) hd⟩
theorem de_callK0 {m : Nat} {perm : List Nat} (F : FnG X.prog X.w X.K X.mg X.base CX0 k f fd ps (lift X.K Gf C)) (hr : Room k X.A) (hg : X.A.guards = some []) (hm : X.mg x = some (.ref f)) (hk : PySem.W.keepIn X.K (.ref f) = true) (hb : KB X.K fd ps 0 ks perm ds) (hv : Vals dvs ds) (hd : Dfl X.K (Gf a c) dvs dd)
    (hkw : DK X (Gf a c) kws tk wk) (gl : Gl X x := by rfl) (hall : (backToKw pos (keywordEach kws X.env)).all (·.1.isSome) = true := by rfl) (hks : (backToKw pos (keywordEach kws X.env)).filterMap (·.1) = ks := by rfl)
    (hdb : (x == ("__debug__" : Str)) = false := by decide) (hpl : ((backTo pos (starEach [] X.env)).any (·.1) || (backToKw pos (keywordEach kws X.env)).any (·.1.isNone)) = false := by rfl) (hlen : ks.length = m := by rfl) :
    DE X (Gf a c) (.Call (.Name x p) [] kws pos) (tCallP (lift X.K Gf C) 0 m perm dvs E0 tNil tk) (wCallP C 0 m perm dd wNil wk) := by subst hlen; exact ⟨pg_callK0 F hr hg gl hm hk hb hv pass0 hkw.pk hall hks hdb hpl, fun E => sim_callP sim_nil (hkw.sim E) hd⟩
end

def fLen : FC
  | [.lst xs], Q => Q (.sh (.int xs.length))
  | [.tup xs], Q => Q (.sh (.int xs.length))
  | [.str z], Q => z.length ≤ 16777216 ∧ Q (.sh (.int z.length))
  | _, _ => False
@[simp] theorem fLen_0  (xs : List D) (Q : RD → Prop) : fLen [.lst xs] Q = (Q (.sh (.int xs.length))) := rfl
@[simp] theorem fLen_1  (xs : List D) (Q : RD → Prop) : fLen [.tup xs] Q = (Q (.sh (.int xs.length))) := rfl
@[simp] theorem fLen_2  (z : Str) (Q : RD → Prop) : fLen [.str z] Q = (z.length ≤ 16777216 ∧ Q (.sh (.int z.length))) := rfl
def fInt : FC
  | [.int i], Q => Q (.sh (.int i))
  | [.bl b], Q => Q (.sh (.int (if b then 1 else 0)))
  | _, _ => False
@[simp] theorem fInt_0  (i : Int) (Q : RD → Prop) : fInt [.int i] Q = (Q (.sh (.int i))) := rfl
@[simp] theorem fInt_1  (b : Bool) (Q : RD → Prop) : fInt [.bl b] Q = (Q (.sh (.int (if b then 1 else 0)))) := rfl
def fAbs : FC
  | [.int i], Q => Q (.sh (.int (if i < 0 then -i else i)))
  | _, _ => False
@[simp] theorem fAbs_0  (i : Int) (Q : RD → Prop) : fAbs [.int i] Q = (Q (.sh (.int (if i < 0 then -i else i)))) := rfl
def fMax2 : FC
  | [.int i, .int j], Q => Q (.sh (.int (if j > i then j else i)))
  | _, _ => False
@[simp] theorem fMax2_0  (i : Int) (j : Int) (Q : RD → Prop) : fMax2 [.int i, .int j] Q = (Q (.sh (.int (if j > i then j else i)))) := rfl
def fMin2 : FC
  | [.int i, .int j], Q => Q (.sh (.int (if j < i then j else i)))
  | _, _ => False
@[simp] theorem fMin2_0  (i : Int) (j : Int) (Q : RD → Prop) : fMin2 [.int i, .int j] Q = (Q (.sh (.int (if j < i then j else i)))) := rfl
def fList : FC
  | [.lst xs], Q => Q (.fr (.lst xs))
  | [.tup xs], Q => Q (.fr (.lst xs))
  | _, _ => False
@[simp] theorem fList_0  (xs : List D) (Q : RD → Prop) : fList [.lst xs] Q = (Q (.fr (.lst xs))) := rfl
@[simp] theorem fList_1  (xs : List D) (Q : RD → Prop) : fList [.tup xs] Q = (Q (.fr (.lst xs))) := rfl
def fTuple : FC
  | [.lst xs], Q => Q (.sh (.tup xs))
  | [.tup xs], Q => Q (.sh (.tup xs))
  | _, _ => False
@[simp] theorem fTuple_0  (xs : List D) (Q : RD → Prop) : fTuple [.lst xs] Q = (Q (.sh (.tup xs))) := rfl
@[simp] theorem fTuple_1  (xs : List D) (Q : RD → Prop) : fTuple [.tup xs] Q = (Q (.sh (.tup xs))) := rfl
def fRepr : FC
  | [d], Q => ∃ p, d.py = some p ∧ p.showable = true ∧ p.hasDict = false ∧ p.depth ≤ 30 ∧ p.shown.length ≤ 16777216 ∧ Q (.sh (.str p.shown))
  | _, _ => False
section
variable {X : Cx} {G : Gx} {K : PySem.W.Frag}
def rLenA (K : PySem.W.Frag) : List V → Hp → VK → Prop := fun xs H Q => (∃ p ys, xs = [.ref p] ∧ (SqL K H p ys ∨ SqT K H p ys) ∧ Q (.int ys.length) H) ∨ ∃ z, xs = [.str z] ∧ z.length ≤ sizeLine ∧ Q (.int z.length) H
theorem call_lenA : CallR X (.builtin "len") (rLenA X.K) := call_len_seq.or call_len_str
theorem calls_len : CallS K G (rLenA K) fLen := fun M H vs ds al b Qd h Q k => by
  match ds, h with
  | [.lst xs], h =>
    obtain ⟨v, rfl, b1⟩ := b.one
    obtain ⟨p, ys, rfl, hy, r⟩ := b1.lst
    exact .inl ⟨p, ys, rfl, .inl (SqL.of hy), by rw [r.length]; exact k _ _ H (Same.refl _) rn_int h⟩
  | [.tup xs], h =>
    obtain ⟨v, rfl, b1⟩ := b.one
    obtain ⟨p, ys, rfl, hy, r⟩ := b1.tup
    exact .inl ⟨p, ys, rfl, .inr hy, by rw [r.length]; exact k _ _ H (Same.refl _) rn_int h⟩
  | [.str z], ⟨h1, h⟩ =>
    obtain ⟨v, rfl, b1⟩ := b.one
    exact .inr ⟨z, by rw [b1.str], by rw [line16]; exact h1, k _ _ H (Same.refl _) rn_int h⟩
theorem calls_int : CallS K G (fun xs H Q => (∃ i, xs = [.int i] ∧ Q (.int i) H) ∨ ∃ k, xs = [.bl k] ∧ Q (.int (if k then 1 else 0)) H) fInt := fun M H vs ds al b Qd h Q k => by
  match ds, h with
  | [.int i], h =>
    obtain ⟨v, rfl, b1⟩ := b.one
    exact .inl ⟨i, by rw [b1.int], k _ _ H (Same.refl _) rn_int h⟩
  | [.bl i], h =>
    obtain ⟨v, rfl, b1⟩ := b.one
    exact .inr ⟨i, by rw [b1.bl], k _ _ H (Same.refl _) rn_int h⟩
theorem calls_abs : CallS K G (fun xs H Q => ∃ i, xs = [.int i] ∧ Q (.int (if i < 0 then -i else i)) H) fAbs := fun M H vs ds al b Qd h Q k => by
  match ds, h with
  | [.int i], h =>
    obtain ⟨v, rfl, b1⟩ := b.one
    exact ⟨i, by rw [b1.int], k _ _ H (Same.refl _) rn_int h⟩
theorem calls_max2 : CallS K G (fun xs H Q => ∃ i j, xs = [.int i, .int j] ∧ Q (.int (if j > i then j else i)) H) fMax2 := fun M H vs ds al b Qd h Q k => by
  match ds, h with
  | [.int i, .int j], h =>
    obtain ⟨v, u, rfl, b1, b2⟩ := b.two
    exact ⟨i, j, by rw [b1.int, b2.int], k _ _ H (Same.refl _) rn_int h⟩
theorem calls_min2 : CallS K G (fun xs H Q => ∃ i j, xs = [.int i, .int j] ∧ Q (.int (if j < i then j else i)) H) fMin2 := fun M H vs ds al b Qd h Q k => by
  match ds, h with
  | [.int i, .int j], h =>
    obtain ⟨v, u, rfl, b1, b2⟩ := b.two
    exact ⟨i, j, by rw [b1.int, b2.int], k _ _ H (Same.refl _) rn_int h⟩
theorem calls_list : CallS K G (fun xs H Q => ∃ p ys, xs = [.ref p] ∧ (SqL K H p ys ∨ SqT K H p ys) ∧ ∀ l, H l = none → Q (.ref l) (upd H l (.lst ys))) fList := fun M H vs ds al b Qd h Q k => by
  match ds, h with
  | [.lst xs], h =>
    obtain ⟨v, rfl, b1⟩ := b.one
    obtain ⟨p, ys, rfl, hy, r⟩ := b1.lst
    exact ⟨p, ys, rfl, .inl (SqL.of hy), fun l hl => k _ _ _ (same_new hl) (rn_lst hl r) h⟩
  | [.tup xs], h =>
    obtain ⟨v, rfl, b1⟩ := b.one
    obtain ⟨p, ys, rfl, hy, r⟩ := b1.tup
    exact ⟨p, ys, rfl, .inr hy, fun l hl => k _ _ _ (same_new hl) (rn_lst hl r) h⟩
theorem calls_tuple : CallS K G (fun xs H Q => ∃ p ys, xs = [.ref p] ∧ ((SqL K H p ys ∧ ∀ l, H l = none → Q (.ref l) (upd H l (.tup ys))) ∨ (SqT K H p ys ∧ Q (.ref p) H))) fTuple := fun M H vs ds al b Qd h Q k => by
  match ds, h with
  | [.lst xs], h =>
    obtain ⟨v, rfl, b1⟩ := b.one
    obtain ⟨p, ys, rfl, hy, r⟩ := b1.lst
    exact ⟨p, ys, rfl, .inl ⟨SqL.of hy, fun l hl => k _ _ _ (same_new hl) (rn_tup al hl r) h⟩⟩
  | [.tup xs], h =>
    obtain ⟨v, rfl, b1⟩ := b.one
    have bb := b1
    obtain ⟨p, ys, rfl, hy, r⟩ := b1.tup
    exact ⟨p, ys, rfl, .inr ⟨hy, k _ _ _ (Same.refl _) (rn_sh bb.shT) h⟩⟩
/-- repr of data -/
def rRepr (K : PySem.W.Frag) : List V → Hp → VK → Prop := fun xs H Q => ∃ v p, xs = [v] ∧ Dp K H v p ∧ p.showable = true ∧ p.hasDict = false ∧ p.depth ≤ 30 ∧ p.shown.length ≤ sizeLine ∧ Q (.str p.shown) H
theorem call_reprA (hg : X.A.guards = some []) (hu : X.A.units + 64 < cLine) : CallR X (.builtin "repr") (rRepr X.K) := by
  intro pins s σ H xs us Q I r h
  obtain ⟨v, p, rfl, hd, h1, h2, h3, h4, q⟩ := h
  obtain ⟨u, rfl, ru⟩ := vals1 r
  obtain ⟨as, rd⟩ := Dp.reads I p v u hd ru
  cases p with
  | none => cases rd; exact PySem.P.repr_of_none ⟨.str _, H, I.tok _, ⟨_, rfl⟩, q⟩
  | bool b =>
    cases rd
    refine PySem.P.repr_of_bool ⟨.str _, H, I.tok _, ⟨_, rfl⟩, ?_⟩
    cases b <;> exact q
  | int i => cases rd; exact PySem.P.repr_of_int (of_decide_eq_true h1) ⟨.str _, H, I.tok _, ⟨_, rfl⟩, q⟩
  | str x => cases rd; exact PySem.P.repr_of_str ⟨.str _, H, I.tok _, ⟨_, rfl⟩, q⟩ h4
  | dict _ => cases h2
  | list ps =>
    cases rd with
    | list e1 e2 e3 e4 => exact repr_of_reads' (.list e1 e2 e3 e4) h1 (PyData.noDict_hsm h2) hg (by omega) (fun _ _ e => e) (fun h' u tk hk => ⟨.str _, H, I.kept hk, ⟨_, rfl⟩, q⟩) h4
  | tuple ps =>
    cases rd with
    | tuple e1 e2 e3 e4 => exact repr_of_reads' (.tuple e1 e2 e3 e4) h1 (PyData.noDict_hsm h2) hg (by omega) (fun _ _ e => e) (fun h' u tk hk => ⟨.str _, H, I.kept hk, ⟨_, rfl⟩, q⟩) h4
theorem calls_repr : CallS K G (rRepr K) fRepr := fun M H vs ds al b Qd h Q k => by
  match ds, h with
  | [d], ⟨p, e, h1, h2, h3, h4, h⟩ =>
    obtain ⟨v, rfl, b1⟩ := b.one
    exact ⟨v, p, rfl, b1.dp e, h1, h2, h3, by rw [line16]; exact h4, k _ _ H (Same.refl _) rn_str h⟩
end
end L3
namespace L3
open PySem PySem.Spec PyProof.Rows L2
/-- the heap in which at most the script is tracked -/
def Scr (a : Addr) (o : Obj) (xs : List V) (H : Hp) : Prop := ∀ b u, H b = some u → b = a ∧ u = .frz o (.lst xs)
theorem law_callG {P : Program} {w : World} {K : PySem.W.Frag} {mg mb : Str → Option Value} {k : Nat} {fa a : Addr} {fd : FuncData} {x : Str} {sp : Sp} {s₁ : Shared} {vs : List Value} {ns : List Int}
    (kx : K.In s₁.heap) (g1 : s₁.heap.Ns mainGlobals mg) (g2 : s₁.heap.Ns builtinsNs mb) (g3 : ∀ x : Str, x ≠ "__name__" → mb x = bootBuiltins x) (nl : s₁.heap.NoLimit) (ng : s₁.gens = #[])
    (ha : s₁.heap.get? a = some { cls := .type "list", data := .seq vs.toArray }) (hi : IntsAre vs ns) (hl : ns.length ≤ sizeLine) (hr : Room k callerA)
    (F : ∀ base : Heap, K.In base → base.Ns mainGlobals mg → FnG P w K mg base CX0 k fa fd [x] sp) (bt : ∀ (s : Shared) (u : Value), BindsTo s fd ⟨[u], []⟩ [(x, u)])
    (hsp : ∀ H : Hp, SqL K H a (ns.map V.int) → sp [.ref a] H (fun v _ => v = .bl true) fun _ _ _ => False) :
    codeAny (model P w) callerA (.call (.ref fa) ⟨[.ref a], []⟩) (fun r s' => r = .ok (.ret (.bool true)) ∧ OldK s₁.heap s'.heap ∧ s'.os = s₁.os ∧ AllBare s'.gens) s₁ := by
  have rv := vals_ints hi
  obtain ⟨H, hS, sc, hK⟩ : ∃ H : Hp, SqL K H a (ns.map V.int) ∧ Scr a { cls := .type "list", data := .seq vs.toArray } (ns.map V.int) H ∧ (H a ≠ none → K.lookup a = none) := by
    cases q : K.lookup a with
    | none =>
      refine ⟨fun b => if b = a then some (.frz { cls := .type "list", data := .seq vs.toArray } (.lst (ns.map V.int))) else none, .inl (.inr ⟨_, if_pos rfl⟩), fun b u e => ?_, fun _ => rfl⟩
      by_cases z : b = a
      · exact ⟨z, (Option.some.inj ((if_pos z).symm.trans e)).symm⟩
      · cases (if_neg z).symm.trans e
    | some o =>
      have e := kx a o q
      rw [ha] at e
      cases e
      refine ⟨fun _ => none, .inr ⟨_, vs.toArray, _, q, rfl, rfl, rfl, by rw [List.size_toArray, hi.length]; exact hl, rv⟩, ?_, fun z => absurd rfl z⟩
      intro b u e
      cases e
  have hok : HOk P w H s₁.heap := fun b u e => by
    obtain ⟨rfl, rfl⟩ := sc b u e
    exact ⟨ha, by rw [List.length_map]; exact hl, vs, _, rv, ha⟩
  -- what is written at the top is not the script
  have dictNo : ∀ {b : Addr} {o : Obj} {es : Array DictEntry} {ep : Nat}, s₁.heap.get? b = some o → o.data = .dict es ep → H b = none := fun {b o es ep} e d => by
    cases q : H b with
    | none => rfl
    | some u =>
      obtain ⟨rfl, _⟩ := sc b u q
      rw [ha] at e
      cases e
      exact nomatch d
  have toNs : ∀ {b : Addr} {m : Str → Option Value}, s₁.heap.Ns b m → (hidT s₁.heap H).Ns b m := by
    rintro b m ⟨o, es, ep, e, d, r⟩
    exact ⟨o, es, ep, hidT_get e (dictNo e d), d, r⟩
  have kb : K.In (hidT s₁.heap H) := fun b o e => hidT_get (kx b o e) (by
    cases q : H b with
    | none => rfl
    | some u =>
      obtain ⟨rfl, _⟩ := sc b u q
      rw [hK (by rw [q]; simp)] at e
      cases e)
  obtain ⟨mc, n1, n2⟩ := nl
  have e0 : Env0 P w K mg (hidT s₁.heap H) callerA [] s₁ H :=
    { frames := rfl, mod := ⟨kb, toNs g1, ⟨mb, toNs g2, g3⟩, ⟨mc, toNs n1, n2⟩⟩, bs := fun b o e => of_hidT e, bsz := Nat.le_of_eq (hidT_size _ _), funs := trivial, frf := fun b hb => (by cases hb), hok := hok, bare := .of_eq ng }
  have run := (F _ kb (toNs g1)).go callerA [] s₁ H ⟨[.ref a], []⟩ [.ref a] [.ref a] _ _ ⟨hr, rfl⟩ e0 (bt s₁ (.ref a)) (.cons rfl .nil) (hsp H hS)
  refine codeAny_mono run fun r s' h => ?_
  match r, h with
  | .error _, h => exact False.elim h
  | .ok .next, h => exact False.elim h
  | .ok .brk, h => exact False.elim h
  | .ok .cont, h => exact False.elim h
  | .ok (.ret u), ⟨v, H', os, bare, un, hok', r', q⟩ =>
    have q : v = .bl true := q
    subst q
    have r' : u = Value.bool true := r'
    subst r'
    refine ⟨rfl, OldK.of_keep fun b o e => ?_, os, bare⟩
    cases z : H b with
    | none => exact un.keep b o e z (fun m => nomatch m) (fun m => nomatch m)
    | some y =>
      obtain ⟨rfl, rfl⟩ := sc b y z
      rw [ha] at e
      cases e
      exact (hok' _ _ (un.frzs _ _ _ z)).1
/-- the goal that k_head leaves -/
theorem walk_ofG {l : PySem.W.OpenLaw} {n k : Nat} {q : Program} {loose : List Str} {XP : (Str → Option Value) → Heap → Prop} {YP : World → Heap → Prop} {d : DefRec} {K : Params → PySem.W.Frag} {sp : PySem.W.Frag → Sp} {x : Str}
    (hn : l.most = some n) (hn2 : n ≤ sizeLine) (hdf : d.params.defaults = []) (hr : Room k callerA) (hY : ∀ (w : World) (h : Heap), YP w h → (K w.params).In h)
    (F : ∀ (w : World) (mg : Str → Option Value) (fa : Addr) (h : Heap), (K w.params).In h → h.Ns mainGlobals mg → mg d.name = some (.ref fa) →
      ∃ fd : FuncData, (∀ (s : Shared) (u : Value), BindsTo s fd ⟨[u], []⟩ [(x, u)]) ∧ ∀ base : Heap, (K w.params).In base → base.Ns mainGlobals mg → FnG l.prog w (K w.params) mg base CX0 k fa fd [x] (sp (K w.params)))
    (hsp : ∀ (K : PySem.W.Frag) (H : Hp) (a : Addr) (ns : List Int), ns.length ≤ n → SqL K H a (ns.map V.int) → sp K [.ref a] H (fun v _ => v = .bl true) fun _ _ _ => False) :
    PySem.W.WalkO q loose XP YP l.row.toRowW d [] (fun f vs => PySem.call f vs) :=
  Att.attach_call hn hdf fun w s₀ s₁ mg mb fa o pm cd doc a vs ns G Y ho hd hcd hmg hobj hints hlen hg => by
    obtain ⟨fd, b1, b2⟩ := F w mg fa _ (hY w _ Y) G.T.g hmg
    exact law_callG (hY w _ Y) G.T.g G.T.b G.T.builtins G.T.nolimit hg hobj hints (Nat.le_trans hlen hn2) hr b2 b1 fun H hS => hsp _ H a ns hlen hS
end L3
namespace L3
open PySem PySem.Spec PyProof.Rows L2
/-- the own list of a slot -/
@[simp] def ownL (δ : St3) (i : Nat) (ds : List D) : Prop := δ.sl[i]? = some (some (SV.ow (.lst ds)))
@[simp] def wAppend (i : Nat) (w : WE) : WS := fun De δ => (∃ ds0, ownL δ i ds0) ∧ w δ fun r δ1 => ¬ r.bor ∧ ∃ ds, ownL δ1 i ds ∧ ds.length < 16777216 ∧ De.nx ⟨δ1.sl.set i (some (.ow (.lst (ds ++ [r.d])))), δ1.n⟩
@[simp] def wExtend (i : Nat) (w : WE) : WS := fun De δ => (∃ ds0, ownL δ i ds0) ∧ w δ fun r δ1 => ∃ ds es, ownL δ1 i ds ∧ r.d = .lst es ∧ ds.length + es.length ≤ 16777216 ∧ De.nx ⟨δ1.sl.set i (some (.ow (.lst (ds ++ es)))), δ1.n⟩
@[simp] def wPop (i : Nat) : WE := fun δ Q => ∃ ds d, ownL δ i (ds ++ [d]) ∧ Q (.sh d) ⟨δ.sl.set i (some (.ow (.lst ds))), δ.n⟩
@[simp] def wPopAt (i : Nat) (w : WE) : WE := fun δ Q => (∃ ds0, ownL δ i ds0) ∧ w δ fun r δ1 => ∃ ds z k d, ownL δ1 i ds ∧ r.d = .int z ∧ -(2 ^ 63) ≤ z ∧ z < 2 ^ 63 ∧ seqIndex? z ds.length = some k ∧ ds[k]? = some d ∧ Q (.sh d) ⟨δ1.sl.set i (some (.ow (.lst (ds.eraseIdx k)))), δ1.n⟩
section
variable {X : Cx} {G : Gx} {K : PySem.W.Frag} {E : Ent} {te : TE} {we : WE} {e o : Expr} {pos apos : Pos} {i : Nat}
theorem own_mut {δ : St3} {i : Nat} {j : Kx} {d d' : D} (h : δ.sl[i]? = some (some (SV.ow d))) (hj : isOwn ⟨δ.sl.set i (some (.ow d')), δ.n⟩ j) : isOwn δ j := by
  cases j with
  | ow j =>
    obtain ⟨e, hj⟩ := hj
    rcases get_set hj with ⟨q, z⟩ | ⟨_, z⟩
    · subst q; exact ⟨_, h⟩
    · exact ⟨e, z⟩
  | od j ks ss =>
    rcases get_set (show (δ.sl.set i (some (.ow d')))[j]? = some (some (SV.od ks ss)) from hj) with ⟨_, z⟩ | ⟨_, z⟩
    · injection z with z; cases z
    · exact z
theorem sim_append (h : ∀ E, SimE K G E te we) : SimS K G (tDrop (tBM K "list" rAppend (tVar i) (tCons te tNil))) (wAppend i we) := fun E am M σ δ H S D3 ⟨⟨ds0, h0⟩, q⟩ De R => by
  obtain ⟨a1, a2, a3, a4, xs0, a5, a6⟩ := S.ow i _ h0
  refine ⟨_, a1, .inl ⟨rfl, xs0, SqL.of a5⟩, ?_⟩
  refine h E am M σ δ H S _ q _ fun v r δ1 H1 S1 e1 o1 rv ⟨nb, ds, h1, sz, q⟩ => ?_
  obtain ⟨b1, b2, b3, b4, xs, b5, b6⟩ := S1.ow i _ h1
  refine ⟨am i, xs, v, rfl, rfl, b5, by rw [b6.length, line16]; exact sz, R.nx am M _ _ _ (S1.mut (d' := .lst (ds ++ [r.d])) h1 ⟨xs ++ [v], upd_same, ?_⟩ rfl) q⟩
  rw [mask_upd b2]
  exact b6.append (RepAll.one (rv.k.rep nb))
theorem ds_append (i : Nat) {x : Str} {p pos2 : Pos} (he : DE X G e te we) (hx : PE X (.Name x p) (tVar i)) (hbase : attributeBase (.Name x p) "append" X.env (eval (.Name x p) X.env) = eval (.Name x p) X.env := by rfl)
    (hfew : ((backTo pos (starEach [e] X.env)).all (fun x => !x.1) && (backToKw pos (keywordEach [] X.env)).all (fun x => x.1.isSome) && decide (([e] : List Expr).length + ([] : List Keyword).length + (if ([] : List Keyword).isEmpty then 0 else 1) < 30)) = true := by rfl)
    (hline : (apos.endLine == pos.line) = true := by rfl) (hst : starEach [e] X.env = (false, eval e X.env) :: starEach [] X.env := by rfl)
    (hs : swapsWith (.Call (.Attribute (.Name x p) "append" apos) [e] [] pos) none pos2.line X.env = pure false := by rfl) : DS X G (.Expr (.Call (.Attribute (.Name x p) "append" apos) [e] [] pos) pos2) (tDrop (tBM X.K "list" rAppend (tVar i) (tCons te tNil))) (wAppend i we) :=
  ⟨ps_expr (pe_bm PySem.F.plainAttrs_list PySem.F.slot_list_append PySem.F.type_list_append mt_append hx (pa_cons he.pe pa_nil hst) hbase hfew hline hst rfl) hs, sim_append he.sim⟩
theorem sim_extend (h : ∀ E, SimE K G E te we) : SimS K G (tDrop (tBM K "list" rExtend (tVar i) (tCons te tNil))) (wExtend i we) := fun E am M σ δ H S D3 ⟨⟨ds0, h0⟩, q⟩ De R => by
  obtain ⟨a1, a2, a3, a4, xs0, a5, a6⟩ := S.ow i _ h0
  refine ⟨_, a1, .inl ⟨rfl, xs0, SqL.of a5⟩, ?_⟩
  refine h E am M σ δ H S _ q _ fun v r δ1 H1 S1 e1 o1 rv ⟨ds, es, h1, er, sz, q⟩ => ?_
  obtain ⟨b1, b2, b3, b4, xs, b5, b6⟩ := S1.ow i _ h1
  have rb := rv.k.rb S1
  rw [er] at rb
  obtain ⟨p, ys, rfl, hy, ry⟩ := rb.lst
  refine ⟨am i, p, xs, ys, rfl, rfl, b5, hy, by rw [b6.length, ry.length, line16]; exact sz, R.nx am M _ _ _ (S1.mut (d' := .lst (ds ++ es)) h1 ⟨xs ++ ys, upd_same, ?_⟩ rfl) q⟩
  rw [mask_upd b2]
  exact b6.append ry
theorem ds_extend (i : Nat) {x : Str} {p pos2 : Pos} (he : DE X G e te we) (hx : PE X (.Name x p) (tVar i)) (hbase : attributeBase (.Name x p) "extend" X.env (eval (.Name x p) X.env) = eval (.Name x p) X.env := by rfl)
    (hfew : ((backTo pos (starEach [e] X.env)).all (fun x => !x.1) && (backToKw pos (keywordEach [] X.env)).all (fun x => x.1.isSome) && decide (([e] : List Expr).length + ([] : List Keyword).length + (if ([] : List Keyword).isEmpty then 0 else 1) < 30)) = true := by rfl)
    (hline : (apos.endLine == pos.line) = true := by rfl) (hst : starEach [e] X.env = (false, eval e X.env) :: starEach [] X.env := by rfl)
    (hs : swapsWith (.Call (.Attribute (.Name x p) "extend" apos) [e] [] pos) none pos2.line X.env = pure false := by rfl) : DS X G (.Expr (.Call (.Attribute (.Name x p) "extend" apos) [e] [] pos) pos2) (tDrop (tBM X.K "list" rExtend (tVar i) (tCons te tNil))) (wExtend i we) :=
  ⟨ps_expr (pe_bm PySem.F.plainAttrs_list PySem.F.slot_list_extend PySem.F.type_list_extend mt_extend hx (pa_cons he.pe pa_nil hst) hbase hfew hline hst rfl) hs, sim_extend he.sim⟩
theorem sim_pop : SimE K G E (tBM0 K "list" rPop (tVar i)) (wPop i) := fun am M σ δ H S Qd ⟨ds, d, h0, q⟩ Q k => by
  obtain ⟨a1, a2, a3, a4, xs, a5, a6⟩ := S.ow i _ h0
  have hl : xs.length = ds.length + 1 := by rw [a6.length]; simp
  obtain ⟨v, hv, rv⟩ := a6.get (i := ds.length) (d := d) (by simp)
  refine ⟨_, a1, .inl ⟨rfl, xs, SqL.of a5⟩, am i, xs, v, rfl, rfl, a5, by rw [hl]; exact hv, ?_⟩
  have S' := S.mut (o := .lst xs.dropLast) (d' := .lst ds) h0 ⟨xs.dropLast, upd_same, by
    rw [mask_upd a2]
    have := a6.dropLast
    rwa [List.dropLast_concat] at this⟩ rfl
  exact k v (.sh d) _ _ S' (fun b u hb _ ho => by rw [upd_ne fun z => ho i ⟨_, h0⟩ z.symm]; exact hb) (fun j z => own_mut h0 z) (show Rep K G _ v d by rw [mask_upd a2]; exact rv) q
theorem sim_popAt (h : ∀ E, SimE K G E te we) : SimE K G E (tBM K "list" rPopAt (tVar i) (tCons te tNil)) (wPopAt i we) := fun am M σ δ H S Qd ⟨⟨ds0, h0⟩, q⟩ Q k => by
  obtain ⟨a1, a2, a3, a4, xs0, a5, a6⟩ := S.ow i _ h0
  refine ⟨_, a1, .inl ⟨rfl, xs0, SqL.of a5⟩, ?_⟩
  refine h E am M σ δ H S _ q _ fun v r δ1 H1 S1 e1 o1 rv ⟨ds, z, j, d, h1, er, z1, z2, hj, hd, q⟩ => ?_
  obtain ⟨b1, b2, b3, b4, xs, b5, b6⟩ := S1.ow i _ h1
  have rb := rv.k.rb S1
  rw [er] at rb
  have ev := rb.int
  subst ev
  obtain ⟨y, hy, ry⟩ := b6.get hd
  refine ⟨am i, xs, z, j, y, rfl, rfl, b5, z1, z2, by rw [b6.length]; exact hj, hy, ?_⟩
  have S' := S1.mut (o := .lst (xs.eraseIdx j)) (d' := .lst (ds.eraseIdx j)) h1 ⟨xs.eraseIdx j, upd_same, by
    rw [mask_upd b2]
    exact b6.eraseIdx j⟩ rfl
  refine k y (.sh d) _ _ S' (e1.trans o1 fun b u hb _ ho => by rw [upd_ne fun z => ho i ⟨_, h1⟩ z.symm]; exact hb) (fun j z => o1 j (own_mut h1 z)) (show Rep K G _ y d by rw [mask_upd b2]; exact ry) q
theorem de_pop (i : Nat) {x : Str} {p : Pos} (hx : PE X (.Name x p) (tVar i)) (hbase : attributeBase (.Name x p) "pop" X.env (eval (.Name x p) X.env) = eval (.Name x p) X.env := by rfl) (hline : (apos.endLine == pos.line) = true := by rfl) :
    DE X G (.Call (.Attribute (.Name x p) "pop" apos) [] [] pos) (tBM0 X.K "list" rPop (tVar i)) (wPop i) := ⟨pe_bm0 PySem.F.plainAttrs_list PySem.F.slot_list_pop PySem.F.type_list_pop mt_pop hx hbase hline, fun _ => sim_pop⟩
theorem de_popAt (i : Nat) {x : Str} {p : Pos} (he : DE X G e te we) (hx : PE X (.Name x p) (tVar i)) (hbase : attributeBase (.Name x p) "pop" X.env (eval (.Name x p) X.env) = eval (.Name x p) X.env := by rfl)
    (hfew : ((backTo pos (starEach [e] X.env)).all (fun x => !x.1) && (backToKw pos (keywordEach [] X.env)).all (fun x => x.1.isSome) && decide (([e] : List Expr).length + ([] : List Keyword).length + (if ([] : List Keyword).isEmpty then 0 else 1) < 30)) = true := by rfl)
    (hline : (apos.endLine == pos.line) = true := by rfl) (hst : starEach [e] X.env = (false, eval e X.env) :: starEach [] X.env := by rfl) :
    DE X G (.Call (.Attribute (.Name x p) "pop" apos) [e] [] pos) (tBM X.K "list" rPopAt (tVar i) (tCons te tNil)) (wPopAt i we) := ⟨pe_bm PySem.F.plainAttrs_list PySem.F.slot_list_pop PySem.F.type_list_pop mt_popAt hx (pa_cons he.pe pa_nil hst) hbase hfew hline hst rfl, fun _ => sim_popAt he.sim⟩
end
end L3
namespace L3
open PySem PySem.Spec PyProof.Rows L2
/-- a list, a tuple, a text -/
def iSeq (K : PySem.W.Frag) (te : TE) : TI := fun σ H R => te σ H fun x H1 =>
  (∃ a, x = .ref a ∧ (∃ xs, SqL K H1 a xs) ∧ R (Itl K a) H1) ∨ (∃ a, x = .ref a ∧ (∃ xs, SqT K H1 a xs) ∧ R (Itt K a) H1)
theorem pi_seq {X : Cx} {tg e : Expr} {te : TE} (he : PE X e te) : PI X tg e (iSeq X.K te) := by
  refine ⟨fun pins s σ H R I h => thn (he.run pins s σ H _ I h) fun v s1 ⟨x, H1, I1, r1, q1⟩ => ?_⟩
  have fresh : ∀ (o : Obj) (b : Addr), b ∈ [s1.heap.objs.size] → FpOk X pins H1 b := fun o b hb => by
    rw [List.mem_singleton.mp hb]
    exact I1.fpOk (Nat.le_refl _) (I1.hok.fresh (Nat.le_refl _))
  rcases q1 with ⟨a, rfl, ⟨xs, hq⟩, q⟩ | ⟨a, rfl, ⟨xs, hq⟩, q⟩
  · cases r1
    obtain ⟨its, rv, p, hz⟩ := I1.list hq
    exact wpAny_pyIter_list p.isList ⟨_, [s1.heap.objs.size], _, Itl X.K a, H1, rfl, I1.kept (t' := s1.toks) fun b o e => Heap.get?_push_of_some _ e, turn_list a _, ⟨_, Heap.get?_push_size _ rfl, rfl, rfl⟩, fresh { cls := .none, data := .fields #[] }, q⟩
  · cases r1
    obtain ⟨its, rv, p, hz⟩ := I1.tuple hq
    exact wpAny_pyIter_tuple (show s1.heap.IsTuple a its.toArray from p) ⟨_, [s1.heap.objs.size], _, Itt X.K a, H1, rfl, I1.kept (t' := s1.toks) fun b o e => Heap.get?_push_of_some _ e, turn_tuple a _, ⟨_, Heap.get?_push_size _ rfl, rfl, rfl⟩, fresh { cls := .none, data := .fields #[] }, q⟩
def asS : D → Option (List D)
  | .lst ds => some ds
  | .tup ds => some ds
  | _ => none
@[simp] theorem asS_0  (ds : List D) : asS (.lst ds) = (some ds) := rfl
@[simp] theorem asS_1  (ds : List D) : asS (.tup ds) = (some ds) := rfl
section
variable {X : Cx} {G : Gx} {K : PySem.W.Frag} {E : Ent} {tg e : Expr} {te : TE} {we : WE}
theorem sim_iS (h : SimE K G E te we) : SimI K G E (iSeq K te) (wItems asS we) := fun am M σ δ H S Rd q R k =>
  h am M σ δ H S _ q _ fun v r δ1 H1 S1 e1 o1 rv ⟨nb, ds, hd, hR⟩ => by
    have rr := rv.k.rep nb
    cases q : r.d with
    | lst ds' =>
      rw [q] at hd rr
      cases hd
      obtain ⟨a, xs, rfl, hs, r2⟩ := id rr
      refine .inl ⟨a, rfl, ⟨xs, SqL.of (mask_le _ _ hs)⟩, k (Itl K a) ds [(.ref a, .lst ds)] δ1 H1 (S1.addgh _ fun p hp => ?_) e1 o1 iterL hR⟩
      have : p = (V.ref a, D.lst ds) := by simpa using hp
      subst this
      exact rr
    | tup ds' =>
      rw [q] at hd rr
      cases hd
      obtain ⟨a, xs, rfl, hs, r2⟩ := id rr
      refine .inr ⟨a, rfl, ⟨xs, same_t mask_le hs⟩, k (Itt K a) ds [(.ref a, .tup ds)] δ1 H1 (S1.addgh _ fun p hp => ?_) e1 o1 iterT hR⟩
      have : p = (V.ref a, D.tup ds) := by simpa using hp
      subst this
      exact rr
    | _ => rw [q] at hd; cases hd
theorem di_seq (h : DE X G e te we) : DI X G tg e (iSeq X.K te) (wItems asS we) := ⟨pi_seq h.pe, fun E => sim_iS (h.sim E)⟩
end
end L3
namespace L3
open PySem PySem.Spec PyProof.Rows L2
section
variable {X : Cx} {G : Gx} {a b e : Expr} {ta tb te : TE} {wa wb we : WE} {pos p : Pos}
theorem op_eqK (K : PySem.W.Frag) (hu : X.A.units + 64 < cLine) (hK : X.K = K := by rfl) : OpR X (compareOp .Eq) (rEqA K) := by subst hK; exact op_eqA hu
theorem op_neK (K : PySem.W.Frag) (hu : X.A.units + 64 < cLine) (hK : X.K = K := by rfl) : OpR X (compareOp .NotEq) (rNeA K) := by subst hK; exact op_neA hu
theorem op_inK (K : PySem.W.Frag) (hK : X.K = K := by rfl) : OpR X (compareOp .In) (rIn K false) := by subst hK; exact op_in_seq
theorem op_niK (K : PySem.W.Frag) (hK : X.K = K := by rfl) : OpR X (compareOp .NotIn) (rIn K true) := by subst hK; exact op_notIn_seq
theorem op_addK (K : PySem.W.Frag) (hK : X.K = K := by rfl) : OpR X (binaryOp .Add) (rAddA K) := by subst hK; exact op_addA
theorem call_lenK (K : PySem.W.Frag) (hK : X.K = K := by rfl) : CallR X (.builtin "len") (rLenA K) := by subst hK; exact call_lenA
theorem call_reprK (K : PySem.W.Frag) (hg : X.A.guards = some []) (hu : X.A.units + 64 < cLine) (hK : X.K = K := by rfl) : CallR X (.builtin "repr") (rRepr K) := by subst hK; exact call_reprA hg hu
def rListC (K : PySem.W.Frag) : List V → Hp → VK → Prop := fun xs H Q => ∃ p ys, xs = [.ref p] ∧ (SqL K H p ys ∨ SqT K H p ys) ∧ ∀ l, H l = none → Q (.ref l) (upd H l (.lst ys))
def rTupleC (K : PySem.W.Frag) : List V → Hp → VK → Prop := fun xs H Q => ∃ p ys, xs = [.ref p] ∧ ((SqL K H p ys ∧ ∀ l, H l = none → Q (.ref l) (upd H l (.tup ys))) ∨ (SqT K H p ys ∧ Q (.ref p) H))
theorem call_listK (K : PySem.W.Frag) (hK : X.K = K := by rfl) : CallR X (.type "list") (rListC K) := by subst hK; exact call_list_of
theorem call_tupleK (K : PySem.W.Frag) (hK : X.K = K := by rfl) : CallR X (.type "tuple") (rTupleC K) := by subst hK; exact call_tuple_of
theorem de_ixK (K : PySem.W.Frag) (ha : DE X G a ta wa) (hb : DE X G b tb wb) (hs : PlainIx b := by exact fun _ _ => rfl) (hK : X.K = K := by rfl) : DE X G (.Subscript a b pos) (tOp (rIx K) ta tb) (wOp fIx wa wb) := by subst hK; exact de_ix ha hb hs
theorem de_addK (K : PySem.W.Frag) (ha : DE X G a ta wa) (hb : DE X G b tb wb) (hK : X.K = K := by rfl) : DE X G (.BinOp a .Add b pos) (tOp (rAddA K) ta tb) (wOp fAdd wa wb) := by subst hK; exact de_add ha hb
theorem di_seqK (K : PySem.W.Frag) {tg : Expr} (h : DE X G e te we) (hK : X.K = K := by rfl) : DI X G tg e (iSeq K te) (wItems asS we) := by subst hK; exact di_seq h
theorem dg_tupK (K : PySem.W.Frag) {es : List Expr} {k : Nat} {t : TGs} {ws : WGs} {us : List Nat} {n : Nat} (hc : X.calm = true) (h : DGs X G es us t ws) (hn : (assignEach es X.env).length = n := by rfl) (hst : (assignEach es X.env).findIdx? (·.1) = none := by rfl) (hK : X.K = K := by rfl) :
    DG X G (.Tuple es k pos) us (gTup K n t) (gTup3 n ws) := by subst hK; exact dg_tup hc h hn hst
end
section
variable {X : Cx} {Gf : Addr → Addr → Gx} {a c : Addr} {C : Con} {dd : List D} {dvs : List V} {ta tk : TA} {wa wk : WA} {k : Nat} {f : Addr} {fd : FuncData} {ps ks : List Str} {ds : List Value} {x : Str} {p pos : Pos} {e : Expr} {es : List Expr} {kws : List Keyword}
theorem de_callX (K : PySem.W.Frag) (F : FnG X.prog X.w K X.mg X.base CX0 k f fd ps (lift K Gf C)) (hr : Room k X.A) (hg : X.A.guards = some []) (hm : X.mg x = some (.ref f)) (hk : PySem.W.keepIn K (.ref f) = true) (hb : Binds K fd ps ds) (hv : Vals dvs ds) (hd : Dfl K (Gf a c) dvs dd)
    (ha : DA X (Gf a c) (e :: es) ta wa) (gl : Gl X x := by rfl) (hdb : (x == ("__debug__" : Str)) = false := by decide) (he : starEach (e :: es) X.env = (false, eval e X.env) :: starEach es X.env := by rfl) (hpl : (backTo pos (starEach es X.env)).any (·.1) = false := by rfl) (hK : X.K = K := by rfl) :
    DE X (Gf a c) (.Call (.Name x p) (e :: es) [] pos) (tCall (lift K Gf C) dvs E0 ta) (wCall C dd wa) := by subst hK; exact de_call F hr hg hm hk hb hv hd ha gl hdb he hpl
theorem de_callX0 (K : PySem.W.Frag) (F : FnG X.prog X.w K X.mg X.base CX0 k f fd ps (lift K Gf C)) (hr : Room k X.A) (hg : X.A.guards = some []) (hm : X.mg x = some (.ref f)) (hk : PySem.W.keepIn K (.ref f) = true) (hb : Binds K fd ps ds) (hv : Vals dvs ds) (hd : Dfl K (Gf a c) dvs dd)
    (gl : Gl X x := by rfl) (hdb : (x == ("__debug__" : Str)) = false := by decide) (hK : X.K = K := by rfl) : DE X (Gf a c) (.Call (.Name x p) [] [] pos) (tCall (lift K Gf C) dvs E0 tNil) (wCall C dd wNil) := by subst hK; exact de_call0 F hr hg hm hk hb hv hd gl hdb
theorem de_callXK {n m : Nat} {perm : List Nat} (K : PySem.W.Frag) (F : FnG X.prog X.w K X.mg X.base CX0 k f fd ps (lift K Gf C)) (hr : Room k X.A) (hg : X.A.guards = some []) (hm : X.mg x = some (.ref f)) (hk : PySem.W.keepIn K (.ref f) = true) (hb : KB K fd ps n ks perm ds) (hv : Vals dvs ds) (hd : Dfl K (Gf a c) dvs dd)
    (ha : DA X (Gf a c) (e :: es) ta wa) (hkw : DK X (Gf a c) kws tk wk) (gl : Gl X x := by rfl) (hall : (backToKw pos (keywordEach kws X.env)).all (·.1.isSome) = true := by rfl) (hks : (backToKw pos (keywordEach kws X.env)).filterMap (·.1) = ks := by rfl)
    (hdb : (x == ("__debug__" : Str)) = false := by decide) (he : starEach (e :: es) X.env = (false, eval e X.env) :: starEach es X.env := by rfl)
    (hpl : ((backTo pos (starEach (e :: es) X.env)).any (·.1) || (backToKw pos (keywordEach kws X.env)).any (·.1.isNone)) = false := by rfl) (hlen : ks.length = m := by rfl) (hK : X.K = K := by rfl) :
    DE X (Gf a c) (.Call (.Name x p) (e :: es) kws pos) (tCallP (lift K Gf C) n m perm dvs E0 ta tk) (wCallP C n m perm dd wa wk) := by subst hK; exact de_callK F hr hg hm hk hb hv hd ha hkw gl hall hks hdb he hpl hlen
theorem de_callXK0 {m : Nat} {perm : List Nat} (K : PySem.W.Frag) (F : FnG X.prog X.w K X.mg X.base CX0 k f fd ps (lift K Gf C)) (hr : Room k X.A) (hg : X.A.guards = some []) (hm : X.mg x = some (.ref f)) (hk : PySem.W.keepIn K (.ref f) = true) (hb : KB K fd ps 0 ks perm ds) (hv : Vals dvs ds) (hd : Dfl K (Gf a c) dvs dd)
    (hkw : DK X (Gf a c) kws tk wk) (gl : Gl X x := by rfl) (hall : (backToKw pos (keywordEach kws X.env)).all (·.1.isSome) = true := by rfl) (hks : (backToKw pos (keywordEach kws X.env)).filterMap (·.1) = ks := by rfl)
    (hdb : (x == ("__debug__" : Str)) = false := by decide) (hpl : ((backTo pos (starEach [] X.env)).any (·.1) || (backToKw pos (keywordEach kws X.env)).any (·.1.isNone)) = false := by rfl) (hlen : ks.length = m := by rfl) (hK : X.K = K := by rfl) :
    DE X (Gf a c) (.Call (.Name x p) [] kws pos) (tCallP (lift K Gf C) 0 m perm dvs E0 tNil tk) (wCallP C 0 m perm dd wNil wk) := by subst hK; exact de_callK0 F hr hg hm hk hb hv hd hkw gl hall hks hdb hpl hlen
end
end L3
namespace L3
open PySem PySem.Spec PyProof.Rows L2
theorem tuple_mul1 (l : Addr) (items : Array Value) (n : Nat) (dd : Option Addr) (sl : Array (Option Value)) (u : Tok) :
    Meets (Builtin.«tuple.__mul__» ⟨[.ref l, .int 1 u], []⟩) (fun _ R s => s.heap.get? l = some { cls := .type "tuple", dict := dd, data := .seq items n, slots := sl } ∧ R (.ok (.ret (.ref l))) s) :=
  .of_wp fun prog w A R s h => by
    obtain ⟨hp, g, d, tk, os⟩ := s
    obtain ⟨hl, h⟩ := h
    have f1 := AutoSeq1.idx_int
    wp_walk using wpAny_loadPart' hl
    repeat (first
      | (refine wpAny_ite_false (by decide) ?_; wp_walk using wpAny_loadPart' hl)
      | (refine wpAny_ite_true (by simp) ?_; wp_walk using wpAny_loadPart' hl))
    exact ⟨_, rfl, h⟩
def rRepA (K : PySem.W.Frag) : R2 := fun x y H Q => ∃ l k xs, x = .ref l ∧ y = .int k ∧ SqT K H l xs ∧ xs ≠ [] ∧ 1 ≤ k ∧ k ≤ 1000 ∧ xs.length ≤ 1000 ∧ (k = 1 → Q (.ref l) H) ∧ (k ≠ 1 → ∀ p, H p = none → Q (.ref p) (upd H p (.tup (List.replicate k.toNat xs).flatten)))
section
variable {X : Cx} {G : Gx} {K : PySem.W.Frag} {a b : Expr} {ta tb : TE} {wa wb : WE} {pos : Pos}
theorem op_repA : OpR X (binaryOp .Mult) (rRepA X.K) := by
  intro pins s σ H x y v u Q I rx ry h
  obtain ⟨l, k, xs, rfl, rfl, hT, hne, h1, h2, hz, q1, q2⟩ := h
  by_cases e : k = 1
  · subst e
    cases rx
    obtain ⟨t, rfl⟩ := ry
    obtain ⟨its, r, ⟨⟨cls, dd, data, sl⟩, ho, hc, n, hd⟩, hs⟩ := I.tuple hT
    simp only at hc hd
    subst hc hd
    refine wpAny_binaryOp_repeat_ref (T := "tuple") (U := "int") (by decide) ⟨_, ho, rfl⟩ (fun s' => typeIs_int s' 1 t) noFill_tuple_mul F.fills_int_mul F.slot_int_rmul repeat_tuple F.slot_int_index.lookup ?_
    refine call_meets F.slot_int_rmul (typeIs_int s 1 t) F.entry_int_rmul (F.args_int_rmul_2 _ _) (int_rmul_tuple 1 t l its.toArray n dd sl) ⟨ho, rfl, ⟨_, ho, rfl⟩, ?_⟩
    exact call_meets F.slot_tuple_mul ⟨_, ho, rfl⟩ F.entry_tuple_mul (F.args_tuple_mul_2 _ _) (tuple_mul1 l its.toArray n dd sl t) ⟨ho, .ref l, H, I, rfl, q1 rfl⟩
  · exact op_repT pins s σ H _ _ v u Q I rx ry ⟨l, k, xs, rfl, rfl, hT, hne, by omega, h2, hz, q2 e⟩
def fMulA : F2
  | .tup ds, .int j, Q => ds ≠ [] ∧ 1 ≤ j ∧ j ≤ 1000 ∧ ds.length ≤ 1000 ∧ Q (.sh (.tup (List.replicate j.toNat ds).flatten))
  | d, e, Q => fMul d e Q
@[simp] theorem fMulA_0 (i j : Int) (Q : RD → Prop) : fMulA (.int i) (.int j) Q = (CMulW i j ∧ Q (.sh (.int (i * j)))) := rfl
@[simp] theorem fMulA_1 (ds : List D) (j : Int) (Q : RD → Prop) : fMulA (.lst ds) (.int j) Q = (j < 2 ^ 62 ∧ -(2 ^ 62) ≤ j ∧ ds.length * j.toNat ≤ 16777216 ∧ Q (.fr (.lst (List.replicate j.toNat ds).flatten))) := rfl
@[simp] theorem fMulA_2 (ds : List D) (j : Int) (Q : RD → Prop) : fMulA (.tup ds) (.int j) Q = (ds ≠ [] ∧ 1 ≤ j ∧ j ≤ 1000 ∧ ds.length ≤ 1000 ∧ Q (.sh (.tup (List.replicate j.toNat ds).flatten))) := rfl
theorem ops_mulA : OpS K G (fun x y H Q => rMulA x y H Q ∨ rRepA K x y H Q) fMulA := fun M H x y d e al bx by' Qd h Q k => by
  by_cases z : ∃ ds j, d = .tup ds ∧ e = .int j
  · obtain ⟨ds, j, rfl, rfl⟩ := z
    obtain ⟨h0, h1, h2, h3, q⟩ := h
    have bb := bx
    obtain ⟨p, xs, rfl, hp, r⟩ := bx.tup
    refine .inr ⟨p, j, xs, rfl, by'.int, hp, fun w => ?_, h1, h2, by rw [r.length]; exact h3, fun e => ?_, fun _ p' hp' => ?_⟩
    · subst w
      exact h0 (List.length_eq_zero_iff.mp r.length.symm)
    · subst e
      have ef : (List.replicate (1 : Int).toNat ds).flatten = ds := by simp
      rw [ef] at q
      exact k _ _ H (Same.refl _) (rn_sh bb.shT) q
    · exact k _ _ _ (same_new hp') (rn_tup al hp' (r.rep _)) q
  · refine .inl (ops_mul M H x y d e al bx by' Qd ?_ Q k)
    cases d <;> cases e <;> first | exact h | exact (z ⟨_, _, rfl, rfl⟩).elim
theorem de_mulK (K : PySem.W.Frag) (ha : DE X G a ta wa) (hb : DE X G b tb wb) (hK : X.K = K := by rfl) : DE X G (.BinOp a .Mult b pos) (tOp (fun x y H Q => rMulA x y H Q ∨ rRepA K x y H Q) ta tb) (wOp fMulA wa wb) := by
  subst hK
  exact de_op (op_mulA.or op_repA) ops_mulA ha hb
end
/-- what is never asked for -/
def Cno : Con := fun _ _ _ => False
theorem FnG.never {P : Program} {w : World} {K : PySem.W.Frag} {mg : Str → Option Value} {base : Heap} {k : Nat} {f : Addr} {fd : FuncData} {ps : List Str} {Gf : Addr → Addr → Gx} : FnG P w K mg base CX0 k f fd ps (lift K Gf Cno) :=
  ⟨fun vs H Q E ⟨_, _, _, _, _, _, _, _, _, _, _, h, _⟩ => h.elim, fun A outer s H args us vs Q E _ _ _ _ ⟨_, _, _, _, _, _, _, _, _, _, _, h, _⟩ => h.elim⟩
end L3
namespace L3
open PySem PySem.Spec PyProof.Rows L2
def kCells : Key := Sum.inr "cells"
def kBlend : Key := Sum.inr "blend"
def kDraws : Key := Sum.inr "draws"
theorem k_cb : kCells ≠ kBlend := by decide +kernel
theorem k_cd : kCells ≠ kDraws := by decide +kernel
theorem k_bd : kBlend ≠ kDraws := by decide +kernel
def dkv (c : Addr) (b t : Int) : List (Key × V) := [(kCells, .ref c), (kBlend, .int b), (kDraws, .int t)]
theorem dkv_c {c : Addr} {b t : Int} : valV (dkv c b t) kCells = some (.ref c) := valV_pos rfl
theorem dkv_b {c : Addr} {b t : Int} : valV (dkv c b t) kBlend = some (.int b) := (valV_neg k_cb).trans (valV_pos rfl)
theorem dkv_d {c : Addr} {b t : Int} : valV (dkv c b t) kDraws = some (.int t) := (valV_neg k_cd).trans ((valV_neg k_bd).trans (valV_pos rfl))
theorem dkv_put {c : Addr} {b t u : Int} : putK (dkv c b t) kDraws (.int u) = dkv c b u := by
  unfold putK
  rw [valV_any, dkv_d, if_pos (show (some (V.int t)).isSome = true from rfl)]
  show [if kCells = kDraws then (kCells, V.int u) else (kCells, .ref c), if kBlend = kDraws then (kBlend, V.int u) else (kBlend, .int b), if kDraws = kDraws then (kDraws, V.int u) else (kDraws, .int t)] = _
  rw [if_neg k_cd, if_neg k_bd, if_pos rfl]
  all_goals rfl
/-- the deck stands at p, its cells at c; at most n draws were made -/
def DkA (p c : Addr) (n : Nat) (H : Hp) : Prop := ∃ (ns : List Int) (b t : Int), H p = some (.dK (dkv c b t)) ∧ H c = some (.lst (ns.map V.int)) ∧ ns.length ≤ 63 ∧ 0 ≤ b ∧ b < 2147483587 ∧ 0 ≤ t ∧ t ≤ n
/-- what else may grow in the heap: tables of code objects -/
structure Jx where
  dk : List Addr
  J : Hp → Prop
  fr : ∀ H H' : Hp, (∀ a o, (a ∈ dk ∨ isCodeO a o) → H a = some o → H' a = some o) → J H → J H'
  al : ∀ H : Hp, J H → ∀ a ∈ dk, ∃ ps, H a = some (.tbl ps)
def Jx.no : Jx := ⟨[], fun _ => True, fun _ _ _ h => h, fun _ _ _ h => by cases h⟩
/-- all but dicts and lists stay: so do the tables -/
theorem Jx.stay (X : Jx) {H H' : Hp} (e : ∀ a o, H a = some o → (∀ kvs, o ≠ .dK kvs) → (∀ xs, o ≠ .lst xs) → H' a = some o) (h : X.J H) : X.J H' := X.fr H H' (fun a o ha q => by
  rcases ha with ha | ha
  · obtain ⟨ps, z⟩ := X.al H h a ha
    rw [z] at q
    cases q
    exact e a _ z (fun _ => HO.noConfusion) fun _ => HO.noConfusion
  · obtain ⟨φ, rfl⟩ := ha.ext
    exact e a _ q (fun _ => HO.noConfusion) fun _ => HO.noConfusion) h
def GAJ (X : Jx) (cls : Nat → Addr) (fld : Nat → List Str) (p c : Addr) : Gx where
  cls := cls
  fld := fld
  deck := p
  dk := p :: c :: X.dk
  DI := fun n H => DkA p c n H ∧ X.J H
  frame := fun n H H' h ⟨⟨ns, b, t, h1, h2, h3⟩, hj⟩ => ⟨⟨ns, b, t, h p _ (.inl (by simp)) h1, h c _ (.inl (by simp)) h2, h3⟩, X.fr H H' (fun a o ha e => h a o (ha.imp (fun z => List.mem_cons_of_mem _ (List.mem_cons_of_mem _ z)) id) e) hj⟩
  dal := fun n H ⟨⟨ns, b, t, h1, h2, _⟩, hj⟩ a ha => by
    rcases List.mem_cons.mp ha with z | ha
    · rw [z, h1]; simp
    · rcases List.mem_cons.mp ha with z | ha
      · rw [z, h2]; simp
      · obtain ⟨ps, z⟩ := X.al H hj a ha
        rw [z]; simp
  dnc := fun n H ⟨⟨ns, b, t, h1, h2, _⟩, hj⟩ a ha => by
    rcases List.mem_cons.mp ha with z | ha
    · rw [z]; exact NoCode.of h1 fun _ => HO.noConfusion
    · rcases List.mem_cons.mp ha with z | ha
      · rw [z]; exact NoCode.of h2 fun _ => HO.noConfusion
      · obtain ⟨ps, z⟩ := X.al H hj a ha
        exact NoCode.of z fun _ => HO.noConfusion
abbrev GA : (Nat → Addr) → (Nat → List Str) → Addr → Addr → Gx := GAJ Jx.no
/-- most draws that a law may make -/
def mostDraws : Nat := 2 ^ 40
/-- a draw: any number below the bound -/
def CdrawA : Con := fun ds n Q => ∃ m : Int, ds = [.deck, .int m] ∧ 1 ≤ m ∧ m.natAbs.log2 < 9000 ∧ n < mostDraws ∧ ∀ r : Int, 0 ≤ r → r < m → Q (.int r) (n + 1)
theorem dp_ints {K : PySem.W.Frag} {H : Hp} : ∀ ns : List Int, DpAll K H (ns.map V.int) (ns.map PyData.int)
  | [] => .nil
  | n :: ns => .cons (.int n) (dp_ints ns)
theorem lay_ints : ∀ ns : List Int, PyData.canLayAll0 (ns.map PyData.int) = true
  | [] => rfl
  | n :: ns => by
    show (PyData.canLay0 (.int n) && PyData.canLayAll0 (ns.map PyData.int)) = true
    rw [lay_ints ns]
    rfl
theorem depth_ints : ∀ ns : List Int, PyData.depthAll (ns.map PyData.int) = 0
  | [] => rfl
  | n :: ns => by
    show max (PyData.depth (.int n)) (PyData.depthAll (ns.map PyData.int)) = 0
    rw [depth_ints ns]
    rfl
theorem shaped_ints (ns : List Int) : SeqAt.shaped (.list (ns.map PyData.int)) = true := by
  unfold SeqAt.shaped
  rw [Bool.and_eq_true]
  refine ⟨lay_ints ns, decide_eq_true ?_⟩
  show PyData.depthAll (ns.map PyData.int) + 1 ≤ 64
  rw [depth_ints]
  omega
theorem shaped_tints (ns : List Int) : SeqAt.shaped (.tuple (ns.map PyData.int)) = true := by
  unfold SeqAt.shaped
  rw [Bool.and_eq_true]
  refine ⟨lay_ints ns, decide_eq_true ?_⟩
  show PyData.depthAll (ns.map PyData.int) + 1 ≤ 64
  rw [depth_ints]
  omega
theorem eqv_ints_nil (ns : List Int) : PyData.eqv (.list (ns.map PyData.int)) (.list []) = ns.isEmpty := by
  cases ns <;> rfl
section
variable {K : PySem.W.Frag} {cls : Nat → Addr} {fld : Nat → List Str}
/-- what a draw does ahead of its own mixing -/
def tDrawA (K : PySem.W.Frag) (rest : TS) : TS :=
  tSeq (sDPut (tVar 0) (tC (.str "draws")) (tOp (rI0 fun i j => .int (i + j)) (tDGet (tVar 0) (tC (.str "draws"))) (tC (.int 1))))
  (tSeq (tPar 2 3 (tCons (tDGet (tVar 0) (tC (.str "draws"))) (tCons (tDGet (tVar 0) (tC (.str "blend"))) tNil)))
  (tSeq (tIfS (tTest (tOp (rNeD K) (tDGet (tVar 0) (tC (.str "cells"))) (tLst tNil)))
    (tSeq (tAsg (tBM0 K "list" rPop (tDGet (tVar 0) (tC (.str "cells")))) (gName 3))
    (tSeq (tIfS (tTest (tOp (rI0 fun i j => .bl (decide (j ≤ i))) (tVar 3) (tOp (rI CPow fun i j => .int (i ^ j.toNat)) (tC (.int 10)) (tC (.int 18)))))
      (tSeq (tDrop (tBM K "list" rAppend (tDGet (tVar 0) (tC (.str "cells"))) (tCons (tOp (rI CDivA fun i j => .int (i.fdiv j)) (tVar 3) (tVar 1)) tNil)))
        (tRet (tOp (rI (fun _ j => j ≠ 0) fun i j => .int (i.fmod j)) (tCB (fun xs H Q => (∃ i, xs = [.int i] ∧ Q (.int i) H) ∨ ∃ k, xs = [.bl k] ∧ Q (.int (if k then 1 else 0)) H) (tCons (tVar 3) tNil)) (tVar 1)))) tNext)
      (tAsg (tOp (rI0 fun i j => .int (i + j)) (tVar 3) (tDGet (tVar 0) (tC (.str "blend")))) (gName 3)))) tNext) rest))
theorem rd_drawA {X : Jx} {rest : TS} {wr : WS} {N : List Str} {vs : List V} {H : Hp} {Q : VK} {Ex : XK} (hN : 4 ≤ N.length) (hs : ∀ p c, SimS K (GAJ X cls fld p c) rest wr)
    (hw : ∀ (m turn cell : Int) (n : Nat) (Qd : D → Nat → Prop), 1 ≤ m → m.natAbs.log2 < 9000 → 0 ≤ turn → turn ≤ 2 ^ 40 → (∀ r : Int, 0 ≤ r → r < m → Qd (.int r) n) →
      wr ⟨fun δ => Qd .non δ.n, Qd, fun _ => False, fun _ => False⟩ ⟨some (.sh .deck) :: some (.sh (.int m)) :: some (.sh (.int turn)) :: some (.sh (.int cell)) :: List.replicate (N.length - 4) none, n⟩)
    (h : lift K (GAJ X cls fld) CdrawA vs H Q Ex) : tDrawA K rest { nx := fun _ H' => Q .non H', rt := Q } (L2.start N vs) H := by
  obtain ⟨p, c, ads, ds, n, Qd, hk, ha, hnc, di, r, ⟨m, rfl, m1, m2, hn, hq⟩, q⟩ := h
  have S0 := start_sr (N := N) (am := fun _ => 0) hk ha hnc di r trivial
  obtain ⟨x, xs, rfl, e1, y, ys, rfl, e2, e3⟩ := r
  have e1 : x = .ref p := e1
  have e2 : y = .int m := e2
  have e3 : ys = [] := e3
  subst e1 e2 e3
  obtain ⟨⟨ns, b, t, h1, h2, hl, b0, b1, t0, t1⟩, hj⟩ := di
  have pc : p ≠ c := ne_of h1 h2 (by intro z; cases z)
  have tab : ∀ H' : Hp, (∀ x o, H x = some o → x ∉ [p, c] → H' x = some o) → X.J H' := fun H' e => X.stay (fun a o q n1 n2 => e a o q fun z => by
    rcases List.mem_cons.mp z with z | z
    · rw [z, h1] at q; cases q; exact n1 _ rfl
    · rw [List.mem_singleton.mp z, h2] at q; cases q; exact n2 _ rfl) hj
  have two : ∀ {x : Addr}, x ∉ (GAJ X cls fld p c).dk → x ∉ [p, c] := fun {x} n z => n (by
    rcases List.mem_cons.mp z with z | z
    · rw [z]; exact List.mem_cons_self
    · rw [List.mem_singleton.mp z]; exact List.mem_cons_of_mem _ List.mem_cons_self)
  obtain ⟨L, hL⟩ : ∃ L, N.length = L + 4 := ⟨N.length - 4, by omega⟩
  have st : L2.start N [.ref p, .int m] = some (.ref p) :: some (.int m) :: none :: none :: List.replicate L none := by
    unfold L2.start
    rw [show N.length - ([V.ref p, V.int m] : List V).length = L + 2 by simp [hL]]
    rfl
  have st3 : start3 N [.deck, .int m] = some (.sh .deck) :: some (.sh (.int m)) :: none :: none :: List.replicate L none := by
    unfold start3
    rw [show N.length - ([D.deck, D.int m] : List D).length = L + 2 by simp [hL]]
    rfl
  have hL4 : N.length - 4 = L := by omega
  rw [hL4] at hw
  rw [st, st3] at S0
  rw [st]
  -- deck["draws"] = deck["draws"] + 1
  refine ⟨.ref p, rfl, p, .int t, rfl, ?_, t, 1, rfl, rfl, .ref p, rfl, p, _, rfl, DPut.k (k := kDraws) h1 (small1000 (by show 3 ≤ 1000; omega)), ?_⟩
  · have := DGet.k (k := kDraws) h1; rw [dkv_d] at this; exact this
  rw [dkv_put]
  have g1 : upd H p (.dK (dkv c b (t + 1))) p = some (.dK (dkv c b (t + 1))) := upd_same
  have g2 : upd H p (.dK (dkv c b (t + 1))) c = some (.lst (ns.map V.int)) := by rw [upd_ne pc.symm]; exact h2
  have gd : ∀ {H : Hp} {b t : Int}, H p = some (.dK (dkv c b t)) → DGet H p (.str "draws") (some (.int t)) := fun h => by
    have := DGet.k (k := kDraws) h; rw [dkv_d] at this; exact this
  have gb : ∀ {H : Hp} {b t : Int}, H p = some (.dK (dkv c b t)) → DGet H p (.str "blend") (some (.int b)) := fun h => by
    have := DGet.k (k := kBlend) h; rw [dkv_b] at this; exact this
  have gc : ∀ {H : Hp} {b t : Int}, H p = some (.dK (dkv c b t)) → DGet H p (.str "cells") (some (.ref c)) := fun h => by
    have := DGet.k (k := kCells) h; rw [dkv_c] at this; exact this
  -- turn, cell = deck["draws"], deck["blend"]
  refine ⟨.ref p, rfl, p, .int (t + 1), rfl, gd g1, .ref p, rfl, p, .int b, rfl, gb g1, _, _, rfl, ?_⟩
  -- the end by the rest
  have fin : ∀ (cell : Int) (H' : Hp) (ms : List Int), H' p = some (.dK (dkv c b (t + 1))) → H' c = some (.lst (ms.map V.int)) → ms.length ≤ 63 → (∀ x o, H x = some o → x ∉ [p, c] → H' x = some o) →
      rest { nx := fun _ H' => Q .non H', rt := Q } (some (.ref p) :: some (.int m) :: some (.int (t + 1)) :: some (.int cell) :: List.replicate L none) H' := fun cell H' ms k1 k2 k3 k4 => by
    have di' : (GAJ X cls fld p c).DI (n + 1) H' := ⟨⟨ms, b, t + 1, k1, k2, k3, b0, b1, by omega, by omega⟩, tab H' k4⟩
    have S1 := (S0.after (n := n + 1) (fun x o h hn => k4 x o h (two hn)) di')
    have S2 := (S1.set_sh (i := 2) (v := .int (t + 1)) (d := .int (t + 1)) rfl).set_sh (i := 3) (v := .int cell) (d := .int cell) rfl
    refine hs p c _ _ _ _ _ _ S2 _ (hw m (t + 1) cell (n + 1) Qd m1 m2 (by omega) ?_ hq) _ ⟨fun am M σ δ H' S' z => q .non .non _ H' S'.base S'.di rfl z, fun _ _ _ _ _ _ z => z, fun _ _ _ _ _ _ z => z, fun v d n' H' rv hb di z => q v d n' H' hb di rv z⟩
    have : n < 2 ^ 40 := hn
    omega
  -- if deck["cells"] != []
  refine ⟨.ref p, rfl, p, .ref c, rfl, gc g1, Nat.zero_le _, fun l hl0 => ?_⟩
  have lp : p ≠ l := ne_of_none g1 hl0
  have lc : c ≠ l := ne_of_none g2 hl0
  have f1 : upd (upd H p (.dK (dkv c b (t + 1)))) l (.lst []) p = some (.dK (dkv c b (t + 1))) := by rw [upd_ne lp]; exact g1
  have f2 : upd (upd H p (.dK (dkv c b (t + 1)))) l (.lst []) c = some (.lst (ns.map V.int)) := by rw [upd_ne lc]; exact g2
  have f0 : ∀ x o, H x = some o → x ∉ [p, c] → upd (upd H p (.dK (dkv c b (t + 1)))) l (.lst []) x = some o := fun x o hx hn => by
    have n1 : x ≠ p := fun z => hn (by simp [z])
    have n2 : x ≠ l := by
      refine ne_of_none (H := upd H p (.dK (dkv c b (t + 1)))) (o := o) ?_ hl0
      rw [upd_ne n1]; exact hx
    rw [upd_ne n2, upd_ne n1]; exact hx
  refine ⟨.list (ns.map PyData.int), .list [], .lst (SqL.of f2) (dp_ints ns), .lst (SqL.of upd_same) .nil, shaped_ints ns, rfl, _, rfl, ?_⟩
  rw [eqv_ints_nil]
  cases hns : ns with
  | nil =>
    rw [hns] at f2
    exact fin b _ [] f1 f2 (Nat.zero_le _) f0
  | cons n0 ns0 =>
    rw [if_pos (show (!(n0 :: ns0).isEmpty) = true from rfl)]
    rw [hns] at f2 hl
    obtain ⟨ms, z, ez⟩ : ∃ ms z, n0 :: ns0 = ms ++ [z] := ⟨(n0 :: ns0).dropLast, (n0 :: ns0).getLast (List.cons_ne_nil _ _), (List.dropLast_concat_getLast _).symm⟩
    rw [ez] at f2 hl
    have em : (ms ++ [z]).map V.int = ms.map V.int ++ [V.int z] := by rw [List.map_append]; rfl
    rw [em] at f2
    have lm : ms.length ≤ 62 := by rw [List.length_append] at hl; simp at hl; omega
    -- cell = deck["cells"].pop()
    refine ⟨.ref p, rfl, p, .ref c, rfl, gc f1, .inl ⟨rfl, _, SqL.of f2⟩, c, _, .int z, rfl, rfl, f2, by simp, ?_⟩
    rw [List.dropLast_concat]
    have u1 : upd (upd (upd H p (.dK (dkv c b (t + 1)))) l (.lst [])) c (.lst (ms.map V.int)) p = some (.dK (dkv c b (t + 1))) := by rw [upd_ne pc]; exact f1
    have u0 : ∀ (o' : HO) x o, H x = some o → x ∉ [p, c] → upd (upd (upd H p (.dK (dkv c b (t + 1)))) l (.lst [])) c o' x = some o := fun o' x o hx hn => by
      have n1 : x ≠ c := fun w => hn (by simp [w])
      rw [upd_ne n1]; exact f0 x o hx hn
    -- if cell >= 10 ** 18
    refine ⟨.int z, rfl, 10, 18, rfl, rfl, ⟨by decide, by decide, by decide⟩, _, _, rfl, rfl, _, rfl, ite2 (fun _ => ?_) (fun _ => ?_)⟩
    · -- deck["cells"].append(cell // many); return int(cell) % many
      refine ⟨.ref p, rfl, p, .ref c, rfl, gc u1, .inl ⟨rfl, _, SqL.of upd_same⟩, .int z, rfl, .int m, rfl, z, m, rfl, rfl, ⟨by omega, m2⟩, c, _, _, rfl, rfl, upd_same, ?_, ?_⟩
      · rw [List.length_map]; exact small1000 (by omega)
      · refine ⟨.int z, rfl, .inl ⟨z, rfl, .int m, rfl, z, m, rfl, rfl, by omega, ?_⟩⟩
        have um : (upd (upd (upd (upd H p (.dK (dkv c b (t + 1)))) l (.lst [])) c (.lst (ms.map V.int))) c (.lst (ms.map V.int ++ [V.int (z.fdiv m)]))) = upd (upd (upd H p (.dK (dkv c b (t + 1)))) l (.lst [])) c (.lst (ms.map V.int ++ [V.int (z.fdiv m)])) := upd_upd
        rw [um]
        refine q (.int (z.fmod m)) (.int (z.fmod m)) (n + 1) _ (fun x o h hn => u0 _ x o h (two hn)) ⟨⟨ms ++ [z.fdiv m], b, t + 1, ?_, ?_, ?_, b0, b1, by omega, by omega⟩, tab _ (u0 _)⟩ rfl (hq _ (Int.fmod_nonneg_of_pos _ (by omega)) (Int.fmod_lt_of_pos _ (by omega)))
        · rw [upd_ne pc]; exact f1
        · rw [upd_same, List.map_append]; rfl
        · rw [List.length_append]; simp; omega
    · -- cell = cell + deck["blend"]
      refine ⟨.int z, rfl, .ref p, rfl, p, .int b, rfl, gb u1, z, b, rfl, rfl, ?_⟩
      exact fin (z + b) _ ms u1 upd_same (by omega) (u0 _)
end
end L3
namespace L3
open PySem PySem.Spec PyProof.Rows L2
abbrev tInt1 (ta : TA) : TE := tCB (fun xs H Q => (∃ i, xs = [.int i] ∧ Q (.int i) H) ∨ ∃ k, xs = [.bl k] ∧ Q (.int (if k then 1 else 0)) H) ta
abbrev tModN (a b : TE) : TE := tOp (rI (fun _ j => j ≠ 0) fun i j => .int (i.fmod j)) a b
abbrev tAddI (a b : TE) : TE := tOp (rI0 fun i j => .int (i + j)) a b
abbrev tMulI (a b : TE) : TE := tOp (rI CMul fun i j => .int (i * j)) a b
section
variable {K : PySem.W.Frag} {cls : Nat → Addr} {fld : Nat → List Str}
def tDeckA (K : PySem.W.Frag) (c0 k1 : Int) : TS :=
  tSeq (tPar 1 2 (tCons (tCB (fun xs H Q => ∃ p ys, xs = [.ref p] ∧ (SqL K H p ys ∨ SqT K H p ys) ∧ ∀ l, H l = none → Q (.ref l) (upd H l (.lst ys))) (tCons (tSl (rSlL K) (tVar 0) tNoPart (tPart (tC (.int 63)))) tNil)) (tCons (tC (.int c0)) tNil)))
  (tSeq (tFor (iList K (tVar 1)) (gName 3) (tAsg (tModN (tInt1 (tCons (tAddI (tAddI (tMulI (tVar 2) (tC (.int 48271))) (tModN (tInt1 (tCons (tVar 3) tNil)) (tC (.int 2147483629)))) (tC (.int k1))) tNil)) (tC (.int 2147483587))) (gName 2)))
  (tRet (tDisp [(tC (.str "cells"), tRevL K (tVar 1)), (tC (.str "blend"), tVar 2), (tC (.str "draws"), tC (.int 0))])))
def spDeckA (K : PySem.W.Frag) : Sp := fun vs H Q _ => ∃ (a : Addr) (ns : List Int), vs = [.ref a] ∧ SqL K H a (ns.map V.int) ∧ ns.length ≤ 63 ∧
  ∀ (p c : Addr) (H' : Hp), Same H H' → DkA p c 0 H' → H p = none → H c = none → Q (.ref p) H'
theorem merge_dkv {q : Addr} {b t : Int} : mergeK [] (dkv q b t) = dkv q b t := by
  show putK (putK (putK [] kCells (.ref q)) kBlend (.int b)) kDraws (.int t) = _
  have e1 : putK ([] : List (Key × V)) kCells (.ref q) = [(kCells, .ref q)] := putK_new _ rfl
  have e2 : putK [(kCells, V.ref q)] kBlend (.int b) = [(kCells, .ref q), (kBlend, .int b)] := putK_new _ ((valV_neg k_cb).trans rfl)
  have e3 : putK [(kCells, V.ref q), (kBlend, V.int b)] kDraws (.int t) = [(kCells, .ref q), (kBlend, .int b), (kDraws, .int t)] := putK_new _ ((valV_neg k_cd).trans ((valV_neg k_bd).trans rfl))
  rw [e1, e2, e3]
  all_goals rfl
theorem rd_deckA {c0 k1 : Int} {N : List Str} {vs : List V} {H : Hp} {Q : VK} {Ex : XK} (hN : N.length = 4) (hc0 : 0 ≤ c0 ∧ c0 < 2147483587) (h : spDeckA K vs H Q Ex) : tDeckA K c0 k1 { nx := fun _ H' => Q .non H', rt := Q } (L2.start N vs) H := by
  obtain ⟨a, ns, rfl, hS, hl, q⟩ := h
  have st : L2.start N [.ref a] = [some (.ref a), none, none, none] := by
    unfold L2.start
    rw [show N.length - ([V.ref a] : List V).length = 3 by simp [hN]]
    rfl
  rw [st]
  -- cells, blend = list(script[:63]), c0
  refine ⟨.ref a, rfl, 63, rfl, a, _, rfl, hS, fun p1 hp1 => ?_⟩
  have s1 := same_new (o := .lst (cutV (ns.map V.int) none (some 63))) hp1
  refine ⟨p1, _, rfl, .inl (SqL.of upd_same), fun l hl0 => ?_⟩
  have ecut : cutV (ns.map V.int) none (some 63) = ns.map V.int := by
    unfold cutV
    rw [HT.sIx_none, show HT.sIx (ns.map V.int).length (ns.map V.int).length (some 63) = min 63 (ns.map V.int).length from HT.sIx_nat _ _ 63, List.length_map, Nat.sub_zero, List.drop_zero]
    exact List.take_of_length_le (by rw [List.length_map]; omega)
  rw [ecut] at s1 hl0 ⊢
  have s2 := s1.trans (same_new (o := .lst (ns.map V.int)) hl0)
  refine ⟨_, _, rfl, ?_⟩
  -- the loop
  have hlst : upd (upd H p1 (.lst (ns.map V.int))) l (.lst (ns.map V.int)) l = some (.lst (ns.map V.int)) := upd_same
  refine ⟨.ref l, rfl, l, rfl, ⟨_, SqL.of hlst⟩, for_list (K := K) (a := l) (xs := ns.map V.int) (fun i σ H3 => ∃ (b : Int) (x : Option V), σ = [some (.ref a), some (.ref l), some (.int b), x] ∧ H3 = upd (upd H p1 (.lst (ns.map V.int))) l (.lst (ns.map V.int)) ∧ 0 ≤ b ∧ b < 2147483587)
    ⟨c0, none, rfl, rfl, hc0⟩ (fun i σ H3 _ ⟨_, _, _, e, _⟩ => by rw [e]; exact SqL.of hlst) ?_ ?_⟩
  · rintro i x σ H3 hx ⟨b, y, rfl, rfl, b0, b1⟩
    obtain ⟨z, rfl⟩ : ∃ z, x = V.int z := by
      rw [List.getElem?_map] at hx
      cases e : ns[i]? with
      | none => rw [e] at hx; cases hx
      | some z => rw [e] at hx; exact ⟨z, (Option.some.inj hx).symm⟩
    refine ⟨.int b, rfl, b, 48271, rfl, rfl, .inl ⟨by omega, by omega⟩, .int z, rfl, .inl ⟨z, rfl, z, 2147483629, rfl, rfl, (show (2147483629 : Int) ≠ 0 by decide), _, _, rfl, rfl, _, _, rfl, rfl, .inl ⟨_, rfl, _, 2147483587, rfl, rfl, (show (2147483587 : Int) ≠ 0 by decide), ?_⟩⟩⟩
    exact ⟨_, _, rfl, rfl, Int.fmod_nonneg_of_pos _ (by decide), Int.fmod_lt_of_pos _ (by decide)⟩
  · rintro σ H3 ⟨b, y, rfl, rfl, b0, b1⟩
    -- return {..}
    intro p hp
    have pl : l ≠ p := ne_of_none hlst hp
    refine ⟨.ref l, rfl, l, _, rfl, SqL.of (by rw [upd_ne pl]; exact hlst), fun c hc => ?_⟩
    have pc : p ≠ c := ne_of_none (H := upd _ p (.dK [])) upd_same hc
    refine ⟨.int b, rfl, by rw [upd_ne pc, upd_same], dkv c b 0, rfl, (show 3 ≤ 15 by omega), ?_⟩
    rw [merge_dkv]
    have sp : Same _ _ := same_new (o := .dK []) hp
    have s3 : Same H (upd (upd (upd (upd H p1 (.lst (ns.map V.int))) l (.lst (ns.map V.int))) p (.dK [])) c (.lst (ns.map V.int).reverse)) := (s2.trans (same_new hp)).trans (same_new hc)
    refine q p c _ (fun x o hx => ?_) ⟨ns.reverse, b, 0, upd_same, ?_, by rw [List.length_reverse]; exact hl, b0, b1, Int.le_refl _, Int.le_refl _⟩ (s2.free hp) ((s2.trans (same_new hp)).free hc)
    · rw [upd_ne (ne_of_none (s2 _ _ hx) hp)]
      exact s3 x o hx
    · rw [upd_ne pc.symm, upd_same, List.map_reverse]
/-- the law: its deck, then the rest over data; it hands back True -/
def spLaw (K : PySem.W.Frag) : Sp := fun vs H Q _ => ∃ (a : Addr) (ns : List Int), vs = [.ref a] ∧ SqL K H a (ns.map V.int) ∧ ns.length ≤ 63 ∧ ∀ H', Q (.bl true) H'
theorem rd_lawAJ {X : Jx} {rest : TS} {wr : WS} {N : List Str} {vs : List V} {H : Hp} {Q : VK} {Ex E1 : XK} (hN : 2 ≤ N.length) (hs : ∀ p c, SimS K (GAJ X cls fld p c) rest wr)
    (hw : wr ⟨fun _ => False, fun d _ => d = .bl true, fun _ => False, fun _ => False⟩ ⟨none :: some (.sh .deck) :: List.replicate (N.length - 2) none, 0⟩)
    (hJ : X.J H) (h : spLaw K vs H Q Ex) : tSeq (tAsg (tCall (spDeckA K) [] E1 (tCons (tVar 0) tNil)) (gName 1)) rest { nx := fun _ H' => Q .non H', rt := Q } (L2.start N vs) H := by
  obtain ⟨a, ns, rfl, hS, hl, q⟩ := h
  obtain ⟨L, hL⟩ : ∃ L, N.length = L + 2 := ⟨N.length - 2, by omega⟩
  have st : L2.start N [.ref a] = some (.ref a) :: none :: List.replicate L none := by
    unfold L2.start
    rw [show N.length - ([V.ref a] : List V).length = L + 1 by simp [hL]]
    rfl
  rw [show N.length - 2 = L by omega] at hw
  rw [st]
  refine ⟨.ref a, rfl, a, ns, rfl, hS, hl, fun p c H1 s1 dk hp hc => ?_⟩
  have hj1 : X.J H1 := X.stay (fun a o q _ _ => s1 a o q) hJ
  have dk' := dk
  obtain ⟨cs, b, t, h1, h2, _⟩ := dk'
  have S : SR K (GAJ X cls fld p c) ⟨H1, p :: c :: X.dk, [], none⟩ (fun _ => 0) (p :: c :: X.dk) (some (.ref a) :: some (.ref p) :: List.replicate L none) ⟨none :: some (.sh .deck) :: List.replicate L none, 0⟩ H1 := by
    have no : ∀ (i : Nat) (x : SV), (none :: some (.sh .deck) :: List.replicate L none : List (Option SV))[i]? = some (some x) → i = 1 ∧ x = .sh .deck := fun i x e => by
      match i with
      | 0 => cases e
      | 1 => exact ⟨rfl, by injection e with e; injection e with e; exact e.symm⟩
      | i + 2 =>
        have e : (List.replicate L (none : Option SV))[i]? = some (some x) := e
        rw [List.getElem?_replicate] at e
        split at e <;> cases e
    refine ⟨by simp, fun i d e => ?_, fun i d e => ?_, fun i j ⟨d, e⟩ _ _ => ?_, fun a z => z, fun a z => z, fun a z => ?_, fun b o e _ => e, ⟨dk, hj1⟩, fun p hp => (by cases hp), fun x hx => (by cases hx), OdOk.none (fun i ks ss z => by obtain ⟨_, e2⟩ := no i _ z; cases e2), fun a z => ?_, trivial⟩
    · obtain ⟨rfl, e2⟩ := no i _ e
      cases e2
      exact ⟨_, rfl, rfl⟩
    · obtain ⟨_, e2⟩ := no i _ e
      cases e2
    · obtain ⟨_, e2⟩ := no i _ e
      cases e2
    · exact (GAJ X cls fld p c).dal 0 H1 ⟨dk, hj1⟩ a z
    · exact (GAJ X cls fld p c).dnc 0 H1 ⟨dk, hj1⟩ a z
  exact hs p c _ _ _ _ _ _ S _ hw _ ⟨fun _ _ _ _ _ _ z => z.elim, fun _ _ _ _ _ _ z => z.elim, fun _ _ _ _ _ _ z => z.elim, fun v d n H' rv _ _ z => by
    have z : d = .bl true := z
    subst z
    have rv : v = .bl true := rv
    subst rv
    exact q H'⟩
theorem rd_lawA {rest : TS} {wr : WS} {N : List Str} {vs : List V} {H : Hp} {Q : VK} {Ex E1 : XK} (hN : 2 ≤ N.length) (hs : ∀ p c, SimS K (GA cls fld p c) rest wr)
    (hw : wr ⟨fun _ => False, fun d _ => d = .bl true, fun _ => False, fun _ => False⟩ ⟨none :: some (.sh .deck) :: List.replicate (N.length - 2) none, 0⟩)
    (h : spLaw K vs H Q Ex) : tSeq (tAsg (tCall (spDeckA K) [] E1 (tCons (tVar 0) tNil)) (gName 1)) rest { nx := fun _ H' => Q .non H', rt := Q } (L2.start N vs) H := rd_lawAJ hN hs hw trivial h
end
end L3
namespace L3
open PySem PySem.Spec PyProof.Rows L2
theorem wLoop_of {g : WG} {b : WS} {De : Ends3} (I : Nat → St3 → Prop) : ∀ (ds : List D) (k : Nat) (δ : St3), I k δ →
    (∀ (i : Nat) (d : D) (δ : St3), ds[i]? = some d → I (k + i) δ → ∀ N : St3 → Prop, (∀ δ, I (k + i + 1) δ → N δ) → g d δ fun δ1 => b ⟨N, De.rt, De.nx, N⟩ δ1) →
    (∀ δ, I (k + ds.length) δ → De.nx δ) → wLoop g b De ds δ
  | [], k, δ, h0, _, hn => hn δ h0
  | d :: ds, k, δ, h0, hs, hn => hs 0 d δ rfl h0 _ fun δ1 h1 => wLoop_of I ds (k + 1) δ1 h1 (fun i d' δ' hd hi N hN => hs (i + 1) d' δ' hd (by rw [show k + (i + 1) = k + 1 + i by omega]; exact hi) N fun δ2 h2 => hN δ2 (by rw [show k + 1 + i + 1 = k + (i + 1) + 1 by omega]; exact h2))
      fun δ2 h2 => hn δ2 (by rw [show k + (d :: ds).length = k + 1 + ds.length by simp only [List.length_cons]; omega]; exact h2)
/-- a loop, by what holds ahead of the item of each index -/
theorem wLoop_inv {g : WG} {b : WS} {De : Ends3} {ds : List D} {δ : St3} (I : Nat → St3 → Prop) (h0 : I 0 δ)
    (hs : ∀ (i : Nat) (d : D) (δ : St3), ds[i]? = some d → I i δ → ∀ N : St3 → Prop, (∀ δ, I (i + 1) δ → N δ) → g d δ fun δ1 => b ⟨N, De.rt, De.nx, N⟩ δ1) (hn : ∀ δ, I ds.length δ → De.nx δ) : wLoop g b De ds δ :=
  wLoop_of I ds 0 δ h0 (fun i d δ hd hi N hN => hs i d δ hd (by rwa [Nat.zero_add] at hi) N fun δ h => hN δ (by rwa [Nat.zero_add])) fun δ h => hn δ (by rwa [Nat.zero_add] at h)
theorem wLc_of {g : WG} {t : WT} {w : WE} {vs : List Nat} {Q : List D → St3 → Prop} (I : Nat → List D → St3 → Prop) : ∀ (ds : List D) (k : Nat) (acc : List D) (δ : St3), I k acc δ →
    (∀ (i : Nat) (d : D) (acc : List D) (δ : St3), ds[i]? = some d → I (k + i) acc δ → ∀ N : List D → St3 → Prop, (∀ acc δ, I (k + i + 1) acc δ → N acc δ) → g d δ fun δ1 => t δ1 fun b δ2 =>
      (b = true → w δ2 fun q δ3 => ¬ q.bor ∧ acc.length < 16777216 ∧ N (acc ++ [q.d]) ⟨wipe3 δ3.sl vs, δ3.n⟩) ∧ (b = false → N acc ⟨wipe3 δ2.sl vs, δ2.n⟩)) →
    (∀ acc δ, I (k + ds.length) acc δ → Q acc δ) → wLcGo g t w vs Q ds acc δ
  | [], k, acc, δ, h0, _, hn => hn acc δ h0
  | d :: ds, k, acc, δ, h0, hs, hn => hs 0 d acc δ rfl h0 _ fun acc1 δ1 h1 => wLc_of I ds (k + 1) acc1 δ1 h1 (fun i d' acc' δ' hd hi N hN => hs (i + 1) d' acc' δ' hd (by rw [show k + (i + 1) = k + 1 + i by omega]; exact hi) N fun acc2 δ2 h2 => hN acc2 δ2 (by rw [show k + 1 + i + 1 = k + (i + 1) + 1 by omega]; exact h2))
      fun acc2 δ2 h2 => hn acc2 δ2 (by rw [show k + (d :: ds).length = k + 1 + ds.length by simp only [List.length_cons]; omega]; exact h2)
theorem wLc_inv {g : WG} {t : WT} {w : WE} {vs : List Nat} {Q : List D → St3 → Prop} {ds acc : List D} {δ : St3} (I : Nat → List D → St3 → Prop) (h0 : I 0 acc δ)
    (hs : ∀ (i : Nat) (d : D) (acc : List D) (δ : St3), ds[i]? = some d → I i acc δ → ∀ N : List D → St3 → Prop, (∀ acc δ, I (i + 1) acc δ → N acc δ) → g d δ fun δ1 => t δ1 fun b δ2 =>
      (b = true → w δ2 fun q δ3 => ¬ q.bor ∧ acc.length < 16777216 ∧ N (acc ++ [q.d]) ⟨wipe3 δ3.sl vs, δ3.n⟩) ∧ (b = false → N acc ⟨wipe3 δ2.sl vs, δ2.n⟩))
    (hn : ∀ acc δ, I ds.length acc δ → Q acc δ) : wLcGo g t w vs Q ds acc δ :=
  wLc_of I ds 0 acc δ h0 (fun i d acc δ hd hi N hN => hs i d acc δ hd (by rwa [Nat.zero_add] at hi) N fun acc δ h => hN acc δ (by rwa [Nat.zero_add])) fun acc δ h => hn acc δ (by rwa [Nat.zero_add] at h)
@[simp] theorem isIns_lst (d : List D) : (D.lst d).isIns = false := rfl
@[simp] theorem isIns_tup (d : List D) : (D.tup d).isIns = false := rfl
@[simp] theorem isIns_dct (k : List Key) (d : List D) : (D.dct k d).isIns = false := rfl
def isB : D → (Bool → Prop) → Prop
  | .bl k, Q => Q k
  | _, _ => False
@[simp] theorem isB_0  (k : Bool) (Q : Bool → Prop) : isB (.bl k) Q = (Q k) := rfl
theorem isB_eq (d : D) (Q : Bool → Prop) : (∃ k, d = .bl k ∧ Q k) = isB d Q := by
  cases d <;> simp [isB]
@[simp] theorem wTest_eq (w : WE) (δ : St3) (Q : Bool → St3 → Prop) : wTest w δ Q = w δ fun r δ1 => isB r.d fun k => Q k δ1 := by
  unfold wTest
  simp only [isB_eq]
@[simp] theorem wChain_eq (f f' : F2) (a b c : WE) (δ : St3) (Q : RD → St3 → Prop) : wChain f f' a b c δ Q = a δ fun x δ1 => b δ1 fun y δ2 => (x.bor → δ2.sl = δ1.sl) ∧ f x.d y.d fun q => isB q.d fun k =>
    (k = true → c δ2 fun z δ3 => (y.bor → δ3.sl = δ2.sl) ∧ f' y.d z.d fun q' => Q q' δ3) ∧ (k = false → Q (.sh (.bl false)) δ2) := by
  unfold wChain
  simp only [isB_eq]
@[simp] theorem wAndV_eq (a b : WE) (δ : St3) (Q : RD → St3 → Prop) : wAndV a b δ Q = a δ fun x δ1 => isB x.d fun k => (k = true → b δ1 Q) ∧ (k = false → Q (.sh (.bl false)) δ1) := by
  unfold wAndV
  simp only [isB_eq]
@[simp] theorem wOrV_eq (a b : WE) (δ : St3) (Q : RD → St3 → Prop) : wOrV a b δ Q = a δ fun x δ1 => isB x.d fun k => (k = false → b δ1 Q) ∧ (k = true → Q (.sh (.bl true)) δ1) := by
  unfold wOrV
  simp only [isB_eq]
@[simp] theorem wNotV_eq (a : WE) (δ : St3) (Q : RD → St3 → Prop) : wNotV a δ Q = a δ fun x δ1 => isB x.d fun k => Q (.sh (.bl (!k))) δ1 := by
  unfold wNotV
  simp only [isB_eq]
def unc : List D → (D → List D → Prop) → Prop
  | d :: r, Q => Q d r
  | [], _ => False
@[simp] theorem unc_0 (d : D) (r : List D) (Q : D → List D → Prop) : unc (d :: r) Q = Q d r := rfl
@[simp] theorem gCons3_eq (g : WG) (t : WGs) (ds : List D) (δ : St3) (Q : St3 → Prop) : gCons3 g t ds δ Q = unc ds fun d r => g d δ fun δ1 => t r δ1 Q := by
  cases ds with
  | nil => simp [gCons3, unc]
  | cons d r =>
    refine propext ⟨fun ⟨d', r', h, q⟩ => ?_, fun q => ⟨d, r, rfl, q⟩⟩
    cases h
    exact q
theorem log_lt {n k : Nat} (hk : 0 < k) (h : n < 2 ^ k) : n.log2 < k := by
  by_cases z : n = 0
  · subst z; simpa using hk
  · exact (Nat.log2_lt z).mpr h
/-- below 2 ^ k, either sign -/
def Sz (k : Nat) (i : Int) : Prop := i.natAbs < 2 ^ k
theorem Sz.mono {k l : Nat} {i : Int} (h : Sz k i) (hl : k ≤ l) : Sz l i := Nat.lt_of_lt_of_le h (Nat.pow_le_pow_right (by omega) hl)
theorem Sz.mul {k l : Nat} {i j : Int} (h : Sz k i) (h' : Sz l j) : Sz (k + l) (i * j) := by
  unfold Sz at *
  rw [Int.natAbs_mul, Nat.pow_add]
  exact Nat.mul_lt_mul'' h h'
theorem Sz.add {k l : Nat} {i j : Int} (h : Sz k i) (h' : Sz l j) : Sz (max k l + 1) (i + j) := by
  have a : Sz (max k l) i := h.mono (Nat.le_max_left _ _)
  have b : Sz (max k l) j := h'.mono (Nat.le_max_right _ _)
  unfold Sz at *
  have := Int.natAbs_add_le i j
  rw [Nat.pow_succ]
  omega
theorem Sz.neg {k : Nat} {i : Int} (h : Sz k i) : Sz k (-i) := by unfold Sz at *; rwa [Int.natAbs_neg]
theorem Sz.sub {k l : Nat} {i j : Int} (h : Sz k i) (h' : Sz l j) : Sz (max k l + 1) (i - j) := h.add h'.neg
theorem Sz.emod {k : Nat} {i j : Int} (h : Sz k j) (h0 : 0 < j) : Sz k (i.fmod j) := by
  unfold Sz at *
  have a := Int.fmod_nonneg_of_pos i h0
  have b := Int.fmod_lt_of_pos i h0
  omega
theorem Sz.of {k : Nat} {i : Int} (a : -(2 ^ k : Int) < i) (b : i < 2 ^ k) : Sz k i := by
  unfold Sz
  have : ((2 ^ k : Nat) : Int) = (2 : Int) ^ k := by simp
  omega
theorem Sz.pos {k : Nat} {i : Int} (a : 0 ≤ i) (b : i < 2 ^ k) : Sz k i := by
  refine Sz.of ?_ b
  have : (0 : Int) < 2 ^ k := Int.pow_pos (by omega)
  omega
theorem Sz.lt {k : Nat} {i : Int} (h : Sz k i) : i < 2 ^ k := by
  unfold Sz at h
  have : ((2 ^ k : Nat) : Int) = (2 : Int) ^ k := by simp
  omega
theorem Sz.log {k l : Nat} {i : Int} (h : Sz k i) (hl : k ≤ l) (h0 : 0 < k) : i.natAbs.log2 < l := Nat.lt_of_lt_of_le (log_lt h0 h) hl
theorem Sz.cmul {k l : Nat} {i j : Int} (h : Sz k i) (h' : Sz l j) (hs : k + l < 1000000) : CMulW i j := by
  have a : i.natAbs.log2 < k + 1 := log_lt (by omega) (h.mono (by omega : k ≤ k + 1))
  have b : j.natAbs.log2 < l + 1 := log_lt (by omega) (h'.mono (by omega : l ≤ l + 1))
  unfold CMulW
  omega
theorem Sz.cdiv {k : Nat} {i j : Int} (h : Sz k j) (h0 : j ≠ 0) (hk : k ≤ 9000) : CDivA i j := ⟨h0, by
  have : j.natAbs.log2 < k + 1 := log_lt (by omega) (h.mono (by omega : k ≤ k + 1))
  rcases Nat.eq_zero_or_pos k with z | z
  · subst z
    unfold Sz at h
    omega
  · exact Nat.lt_of_lt_of_le (log_lt z h) hk⟩
instance {k : Nat} {i : Int} : Decidable (Sz k i) := inferInstanceAs (Decidable (i.natAbs < 2 ^ k))
theorem Sz.n {k : Nat} {i : Int} (h : decide (i.natAbs < 2 ^ k) = true) : Sz k i := of_decide_eq_true h
theorem fmod_pos {i j : Int} (h : 0 ≤ j) : i.fmod j = i % j := Int.fmod_eq_emod_of_nonneg i h
theorem fdiv_pos {i j : Int} (h : 0 ≤ j) : i.fdiv j = i / j := Int.fdiv_eq_ediv_of_nonneg i h
def wMixA (a k e : Int) : WS :=
  wSeq (wAsg 4 (wOp fMod (wCB fInt (wCons (wOp fMulA (wOp fAdd (wOp fAdd (wOp fMod (wCB fInt (wCons (wVar 3) wNil)) (wC (.int 2147483629))) (wOp fMulA (wOp fMulA (wC (.int a)) (wVar 2)) (wVar 2))) (wC (.int k))) (wC (.int 40692))) wNil)) (wC (.int 2147483647))))
    (wSeq (wAsg 4 (wOp fMod (wCB fInt (wCons (wOp fAdd (wOp fAdd (wOp fMulA (wVar 4) (wVar 4)) (wOp fMulA (wC (.int 69621)) (wVar 2))) (wC (.int e))) wNil)) (wC (.int 2147483587))))
    (wRet (wOp fMod (wCB fInt (wCons (wOp fFdiv (wOp fMod (wCB fInt (wCons (wOp fMulA (wVar 4) (wC (.int 39373))) wNil)) (wC (.int 2147483563))) (wC (.int 64))) wNil)) (wVar 1))))
theorem mixA {a k e : Int} (ha : Sz 20 a) (hk : Sz 20 k) (m turn cell : Int) (n : Nat) (Qd : D → Nat → Prop) (m1 : 1 ≤ m) (m2 : m.natAbs.log2 < 9000) (t0 : 0 ≤ turn) (t1 : turn ≤ 2 ^ 40) (q : ∀ r : Int, 0 ≤ r → r < m → Qd (.int r) n) :
    wMixA a k e ⟨fun δ => Qd .non δ.n, Qd, fun _ => False, fun _ => False⟩ ⟨some (.sh .deck) :: some (.sh (.int m)) :: some (.sh (.int turn)) :: some (.sh (.int cell)) :: [none], n⟩ := by
  have ht : Sz 41 turn := .pos t0 (by omega)
  have h1 : Sz 31 (cell.fmod 2147483629) := Sz.emod (.n (by decide)) (by decide)
  have h2 : CMulW a turn := ha.cmul ht (by omega)
  have h3 : CMulW (a * turn) turn := (ha.mul ht).cmul ht (by omega)
  have h4 := (h1.add ((ha.mul ht).mul ht)).add hk
  have h5 : CMulW (cell.fmod 2147483629 + a * turn * turn + k) 40692 := h4.cmul (l := 31) (.n (by decide)) (by decide)
  have h6 : ∀ i : Int, Sz 31 (i.fmod 2147483647) := fun i => Sz.emod (.n (by decide)) (by decide)
  have h7 : ∀ i : Int, Sz 31 (i.fmod 2147483587) := fun i => Sz.emod (.n (by decide)) (by decide)
  have h8 : CMulW 69621 turn := Sz.cmul (k := 31) (.n (by decide)) ht (by decide)
  simp [wMixA, wSeq, wAsg, wOp, wCB, wCons, wNil, wVar, wC, wRet, svRD, RD.d, RD.bor, fMod, fI, fAdd, fInt, fFdiv, h2, h3, h5]
  refine ⟨(h6 _).cmul (h6 _) (by decide), h8, (h7 _).cmul (l := 31) (.n (by decide)) (by decide), ⟨by decide, by decide⟩, by omega, ?_⟩
  exact q _ (Int.fmod_nonneg_of_pos _ (by omega)) (Int.fmod_lt_of_pos _ (by omega))
theorem draw_le {n : Nat} {m : Int} {Q : D → Nat → Prop} (h1 : 1 ≤ m) (hs : Sz 9000 m) (hn : n < mostDraws) (q : ∀ r : Int, 0 ≤ r → r < m → Q (.int r) (n + 1)) : CdrawA [.deck, .int m] n Q := ⟨m, rfl, h1, hs.log (Nat.le_refl _) (by decide), hn, q⟩
/-- some of a list -/
def CpickA : Con := fun ds n Q => ∃ xs : List D, (ds = [.deck, .lst xs] ∨ ds = [.deck, .tup xs]) ∧ xs ≠ [] ∧ xs.length ≤ 1000 ∧ n < mostDraws ∧ ∀ x ∈ xs, Q x (n + 1)
theorem pick_ints {n : Nat} {xs : List D} {Q : D → Nat → Prop} (P : Int → Prop) (h0 : xs ≠ []) (hl : xs.length ≤ 1000) (hn : n < mostDraws) (hP : ∀ x ∈ xs, ∃ i, x = .int i ∧ P i) (q : ∀ i : Int, P i → Q (.int i) (n + 1)) : CpickA [.deck, .lst xs] n Q :=
  ⟨xs, .inl rfl, h0, hl, hn, fun x hx => by obtain ⟨i, rfl, hi⟩ := hP x hx; exact q i hi⟩
theorem atI_some {α : Type} {xs : List α} {i : Int} (h0 : 0 ≤ i) (h1 : i < xs.length) : ∃ x, x ∈ xs ∧ L2.atI xs i = some x := by
  obtain ⟨j, rfl⟩ := Int.eq_ofNat_of_zero_le h0
  have hi : j < xs.length := by omega
  exact ⟨xs[j], List.getElem_mem _, L2.atI_nat (List.getElem?_eq_getElem hi)⟩
theorem sz_len {n k : Nat} (h : n < 2 ^ k) : Sz k (n : Int) := by unfold Sz; simpa using h
theorem pow_sz {b : Int} {k : Nat} (h : Sz k b) : ∀ e : Nat, Sz (k * e + 1) (b ^ e)
  | 0 => by unfold Sz; simp
  | e + 1 => by
    rw [Int.pow_succ]
    exact ((pow_sz h e).mul h).mono (by rw [Nat.mul_succ]; omega)
end L3
namespace L3
open PySem PySem.Spec PyProof.Rows L2
structure Sh (d : D) (p : PyData) (h l : Nat) : Prop where
  py : d.py = some p
  sw : p.showable = true
  nd : p.hasDict = false
  dp : p.depth ≤ h
  ln : p.shown.length ≤ l
structure ShAll (ds : List D) (ps : List PyData) (h l : Nat) : Prop where
  py : D.pys ds = some ps
  sw : PyData.showableAll ps = true
  nd : PyData.hasDictAll ps = false
  dp : PyData.depthAll ps ≤ h
  ln : ((PyData.shownAll ps).map (·.length)).sum + 2 * (PyData.shownAll ps).length ≤ l
theorem Sh.int {i : Int} (h : Sz 1900 i) : Sh (.int i) (.int i) 0 601 where
  py := py_int i
  sw := decide_eq_true (h.log (l := 1920) (by omega) (by omega))
  nd := rfl
  dp := Nat.le_refl _
  ln := by
    have h2 : i.natAbs < 10 ^ 600 := Nat.lt_of_lt_of_le h (by decide +kernel)
    have e := int_text_length_le10 (k := 600) (by decide) h2
    show (Str.ofString (toString i)).length ≤ 601
    rw [PySem.ofString_length]; exact e
theorem Sh.bl {b : Bool} : Sh (.bl b) (.bool b) 0 5 where
  py := py_bl b
  sw := rfl
  nd := rfl
  dp := Nat.le_refl _
  ln := by cases b <;> decide
theorem Sh.non : Sh .non .none 0 4 where
  py := py_non
  sw := rfl
  nd := rfl
  dp := Nat.le_refl _
  ln := by decide
theorem ShAll.nil {h : Nat} : ShAll [] [] h 0 where
  py := by simp [D.pys]
  sw := rfl
  nd := rfl
  dp := Nat.zero_le _
  ln := Nat.le_refl _
theorem ShAll.cons {d : D} {ds : List D} {p : PyData} {ps : List PyData} {h h' l m : Nat} (a : Sh d p h' l) (b : ShAll ds ps h m) (hh : h' ≤ h) : ShAll (d :: ds) (p :: ps) h (l + 2 + m) where
  py := by simp [D.pys, a.py, b.py]
  sw := by simp [PyData.showableAll, a.sw, b.sw]
  nd := by simp [PyData.hasDictAll, a.nd, b.nd]
  dp := by
    have := a.dp
    have := b.dp
    simp only [PyData.depthAll]
    omega
  ln := by
    have := a.ln
    have := b.ln
    simp only [PyData.shownAll, List.map_cons, List.sum_cons, List.length_cons]
    omega
theorem Sh.lst {ds : List D} {ps : List PyData} {h l : Nat} (a : ShAll ds ps h l) : Sh (.lst ds) (.list ps) (h + 1) (l + 3) where
  py := by simp [D.py, a.py]
  sw := a.sw
  nd := a.nd
  dp := Nat.succ_le_succ a.dp
  ln := by
    have := listText_len_le (PyData.shownAll ps)
    have := a.ln
    simp only [PyData.shown]
    omega
theorem Sh.tup {ds : List D} {ps : List PyData} {h l : Nat} (a : ShAll ds ps h l) : Sh (.tup ds) (.tuple ps) (h + 1) (l + 3) where
  py := by simp [D.py, a.py]
  sw := a.sw
  nd := a.nd
  dp := Nat.succ_le_succ a.dp
  ln := by
    have := tupleText_len_le (PyData.shownAll ps)
    have := a.ln
    simp only [PyData.shown]
    omega
theorem Sh.repr {d : D} {p : PyData} {h l : Nat} {Q : RD → Prop} (a : Sh d p h l) (hh : h ≤ 30) (hl : l ≤ 16777216) (q : Q (.sh (.str p.shown))) : fRepr [d] Q := by
  refine ⟨p, a.py, a.sw, a.nd, Nat.le_trans a.dp hh, Nat.le_trans a.ln hl, q⟩
theorem ShAll.ints : ∀ {ns : List Int}, (∀ n ∈ ns, Sz 1900 n) → ShAll (ns.map D.int) (ns.map PyData.int) 0 (603 * ns.length)
  | [], _ => .nil
  | n :: ns, h => by
    have := ShAll.cons (Sh.int (h n List.mem_cons_self)) (ShAll.ints (ns := ns) fun m hm => h m (List.mem_cons_of_mem _ hm)) (Nat.le_refl _)
    refine ⟨this.py, this.sw, this.nd, this.dp, Nat.le_trans this.ln ?_⟩
    simp only [List.length_cons]
    omega
theorem Sh.mono {d : D} {p : PyData} {h h' l l' : Nat} (a : Sh d p h l) (hh : h ≤ h') (hl : l ≤ l') : Sh d p h' l' := ⟨a.py, a.sw, a.nd, Nat.le_trans a.dp hh, Nat.le_trans a.ln hl⟩
theorem ShAll.mono {d : List D} {p : List PyData} {h h' l l' : Nat} (a : ShAll d p h l) (hh : h ≤ h') (hl : l ≤ l') : ShAll d p h' l' := ⟨a.py, a.sw, a.nd, Nat.le_trans a.dp hh, Nat.le_trans a.ln hl⟩
end L3
namespace L3
open PySem PySem.Spec PyProof.Rows L2
@[simp] theorem flat_int (i : Int) : D.flat (.int i) = true := rfl
@[simp] theorem flat_str (i : Str) : D.flat (.str i) = true := rfl
@[simp] theorem flat_bl (i : Bool) : D.flat (.bl i) = true := rfl
@[simp] theorem flat_non : D.flat .non = true := rfl
@[simp] theorem inD_nil (d : D) : inD d [] = false := rfl
@[simp] theorem inD_int (i j : Int) (ds : List D) : inD (.int i) (.int j :: ds) = (decide (i = j) || inD (.int i) ds) := by
  have e : eqV (V.int j) (V.int i) = decide (i = j) := by
    show (j == i) = decide (i = j)
    rw [Bool.eq_iff_iff, beq_iff_eq, decide_eq_true_eq]
    exact ⟨Eq.symm, Eq.symm⟩
  unfold inD inV
  simp [D.v, e]
@[simp] theorem inD_str (i j : Str) (ds : List D) : inD (.str i) (.str j :: ds) = (decide (i = j) || inD (.str i) ds) := by
  have e : eqV (V.str j) (V.str i) = decide (i = j) := by
    show (j == i) = decide (i = j)
    rw [Bool.eq_iff_iff, beq_iff_eq, decide_eq_true_eq]
    exact ⟨Eq.symm, Eq.symm⟩
  unfold inD inV
  simp [D.v, e]
end L3
namespace L3
open PySem PySem.Spec PyProof.Rows L2
/-- the arguments of a call as they are written -/
structure ArgsOk (X : Cx) (es : List Expr) (kws : List Keyword) (pos : Pos) (ks : List Str) : Prop where
  st : es = [] ∨ ∃ e rest, es = e :: rest ∧ starEach (e :: rest) X.env = (false, eval e X.env) :: starEach rest X.env
  pl : ((backTo pos (starEach es X.env)).any (·.1) || (backToKw pos (keywordEach kws X.env)).any (·.1.isNone)) = false
  al : (backToKw pos (keywordEach kws X.env)).all (·.1.isSome) = true
  nm : (backToKw pos (keywordEach kws X.env)).filterMap (·.1) = ks
section
variable {X : Cx} {CX : CXT} {k n m : Nat} {f C : Addr} {fd : FuncData} {ps ks : List Str} {sp : Sp} {dvs : List V} {ds : List Value} {E : XK} {x mn : Str} {p pos apos : Pos} {e o : Expr} {es : List Expr} {kws : List Keyword} {ta : TE} {t tk : TA} {perm : List Nat}
theorem args_run {fv : Value} {pins : List (Addr × Obj)} {σ : L2.St} {H : Hp} {s : Shared} {B : List V → List V → Hp → Prop} {R : Args → Shared → Prop} (ok : ArgsOk X es kws pos ks) (hn : es = [] → t = tNil) (ha : PA X es t) (hkw : PK X kws tk) (I : Inv X pins σ H s)
    (h : t σ H fun vs H1 => tk σ H1 fun zs H2 => B vs zs H2)
    (go : ∀ us ws vs zs s2 H2, Inv X pins σ H2 s2 → Vals vs us → Vals zs ws → B vs zs H2 → R ⟨us, ks.zip ws⟩ s2) :
    wpAny (model X.prog X.w) X.A (evalArgs fv true (backTo pos (starEach es X.env)) (backToKw pos (keywordEach kws X.env))) R X.xe s := by
  rcases ok.st with rfl | ⟨e, rest, rfl, he⟩
  · rw [hn rfl] at h
    refine evalArgs_kw2_nil ok.al ?_
    rw [ok.nm]
    exact thn (hkw.run pos pins s σ H _ I h) fun ws s2 ⟨zs, H2, I2, rz, b⟩ => go [] ws [] zs s2 H2 I2 .nil rz b
  · refine evalArgs_kw2 ok.al ?_ he
    rw [ok.nm]
    exact thn (ha.run pos pins s σ H _ I h) fun us s1 ⟨vs, H1, I1, r, q⟩ => thn (hkw.run pos pins s1 σ H1 _ I1 q) fun ws s2 ⟨zs, H2, I2, rz, b⟩ => go us ws vs zs s2 H2 I2 r rz b
/-- the callee's node -/
theorem callw {fv : Value} {first : List Value} {pins : List (Addr × Obj)} {σ : L2.St} {H : Hp} {s : Shared} {B : List V → List V → Hp → Prop} {Q : Value → Shared → Prop} (ok : ArgsOk X es kws pos ks) (hn : es = [] → t = tNil) (hk : PySem.W.keepIn X.K fv = true) (ha : PA X es t) (hkw : PK X kws tk) (I : Inv X pins σ H s)
    (h : t σ H fun vs H1 => tk σ H1 fun zs H2 => B vs zs H2)
    (go : ∀ us ws vs zs s2 H2, Inv X pins σ H2 s2 → Vals vs us → Vals zs ws → B vs zs H2 → wpAny (model X.prog X.w) X.A (call fv (first ++ us) (ks.zip ws)) Q X.xe s2) :
    wpAny (model X.prog X.w) X.A (callWith pos fv first (backTo pos (starEach es X.env)) (backToKw pos (keywordEach kws X.env))) Q X.xe s :=
  PySem.W.callWith_of ok.pl (PySem.W.keeps_K hk) (args_run ok hn ha hkw I h fun us ws vs zs s2 H2 I2 r rz b => ⟨I2.kIn, go us ws vs zs s2 H2 I2 r rz b⟩)
/-- the node of a call whose callee is an instance, by what stands behind the arguments -/
theorem inst_node {M : Model} {A : Around} {Er : Value → Shared → Prop} {s : Shared} {a : Addr} {Q : Value → Shared → Prop} {args : List (Bool × Sem Value)} {kw : List (Option Str × Sem Value)} (hp : (args.any (·.1) || kw.any (·.1.isNone)) = false)
    (h : wpAny M A (evalArgs (.ref a) true args kw) (fun z s1 => (∃ C ox od, PySem.W.InstAt s1.heap a ox C od ∧ ox.data = .plain) ∧ wpAny M A (call (.ref a) z.pos z.kw) Q Er s1) Er s) : wpAny M A (callWith pos (.ref a) [] args kw) Q Er s := by
  unfold callWith
  refine wpAny_bind (wpAny_holding (wpAny_mono h (fun z s1 hz => ?_) fun _ _ y => y))
  refine wpAny_bind (wpAny_standAt ?_)
  obtain ⟨⟨C, ox, od, J, hd⟩, hz⟩ := hz
  simp only [hp]
  refine wpAny_bind ((PySem.W.kco_keeper (M := M) J hd).here ?_)
  refine wpAny_bind (wpAny_mono (wpAny_operateT hz) (fun r s2 hr => ?_) fun _ _ y => y)
  exact wpAny_bind (wpAny_holding (wpAny_point (wpAny_pure hr)))
theorem ins_at {pins : List (Addr × Obj)} {σ : L2.St} {H : Hp} {s : Shared} {a dx : Addr} {fs : List (Str × V)} (I : Inv X pins σ H s) (h : H a = some (.ins C dx fs)) : ∃ ox od, PySem.W.InstAt s.heap a ox C od ∧ ox.data = .plain := by
  obtain ⟨mA, O, _⟩ := ins_get I.hok h
  obtain ⟨od, J, _⟩ := O.look
  exact ⟨_, _, J, rfl⟩
theorem calli {a : Addr} {pins : List (Addr × Obj)} {σ : L2.St} {H : Hp} {s : Shared} {B : List V → List V → Hp → Prop} {Q : Value → Shared → Prop} (ok : ArgsOk X es kws pos ks) (hn : es = [] → t = tNil) (ha : PA X es t) (hkw : PK X kws tk) (I : Inv X pins σ H s)
    (h : t σ H fun vs H1 => tk σ H1 fun zs H2 => B vs zs H2)
    (go : ∀ us ws vs zs s2 H2, Inv X pins σ H2 s2 → Vals vs us → Vals zs ws → B vs zs H2 → (∃ C dx fs, H2 a = some (.ins C dx fs)) ∧ wpAny (model X.prog X.w) X.A (call (.ref a) us (ks.zip ws)) Q X.xe s2) :
    wpAny (model X.prog X.w) X.A (callWith pos (.ref a) [] (backTo pos (starEach es X.env)) (backToKw pos (keywordEach kws X.env))) Q X.xe s := by
  refine inst_node ok.pl (args_run ok hn ha hkw I h fun us ws vs zs s2 H2 I2 r rz b => ?_)
  obtain ⟨⟨C, dx, fs, hi⟩, g⟩ := go us ws vs zs s2 H2 I2 r rz b
  obtain ⟨ox, od, J⟩ := ins_at I2 hi
  exact ⟨⟨C, ox, od, J⟩, g⟩
/-- how a method binds: itself, n values, the keywords -/
abbrev KBm (K : PySem.W.Frag) (fd : FuncData) (ps : List Str) (n : Nat) (ks : List Str) (perm : List Nat) (ds : List Value) : Prop := KB K fd ps (n + 1) ks (0 :: perm.map (· + 1)) ds
theorem pick_shift {α : Type} {x : α} {l : List α} {perm : List Nat} : pick (0 :: perm.map (· + 1)) (x :: l) = x :: pick perm l := by
  unfold pick
  rw [List.filterMap_cons_some (f := fun i => (x :: l)[i]?) (a := 0) (b := x) rfl, List.filterMap_map]
  rfl
theorem FnG.callM {pins : List (Addr × Obj)} {σ : L2.St} {H : Hp} {s : Shared} {Q : VK} {a : Value} {va : V} {us ws : List Value} {vs zs : List V} (F : FnG X.prog X.w X.K X.mg X.base CX k f fd ps sp) (hr : Room k X.A) (hg : X.A.guards = some []) (hx : PassesAt CX X σ E)
    (I : Inv X pins σ H s) (hb : KBm X.K fd ps n ks perm ds) (hd : Vals dvs ds) (ra : RelV va a) (r : Vals vs us) (rz : Vals zs ws) (l1 : vs.length = n) (l2 : zs.length = ks.length) (h : sp (va :: pick perm (vs ++ zs ++ dvs)) H Q E) :
    codeAny (model X.prog X.w) X.A (.call (.ref f) ⟨a :: us, ks.zip ws⟩) (fun q s' => match q with | .ok (.ret u) => EP X pins σ Q u s' | .ok _ => False | .error e => X.xe e s') s := by
  have rr : Vals (va :: pick perm (vs ++ zs ++ dvs)) (pick (0 :: perm.map (· + 1)) (a :: us ++ ws ++ ds)) := by
    show Vals _ (pick (0 :: perm.map (· + 1)) (a :: (us ++ ws ++ ds)))
    rw [pick_shift]
    exact .cons ra (pick_vals ((r.append rz).append hd))
  exact F.call hr hg hx I (fun _ => hb s (a :: us) ws I.kIn (by rw [List.length_cons, ← r.length, l1]) (by rw [← rz.length, l2])) rr h
def tMakeP (C : Addr) (sp : Sp) (n m : Nat) (perm : List Nat) (dvs : List V) (E : XK) (t tk : TA) : TE := fun σ H Q => t σ H fun vs H1 => tk σ H1 fun zs H2 => vs.length = n ∧ zs.length = m ∧
  ∀ x dx, H2 x = none → H2 dx = none → dx ≠ x → sp (.ref x :: pick perm (vs ++ zs ++ dvs)) (upd (upd H2 dx (.own x)) x (.ins C dx [])) (fun v H3 => v = .non ∧ Q (.ref x) H3) E
theorem make_run {pins : List (Addr × Obj)} {σ : L2.St} {H : Hp} {s : Shared} {Q : VK} {us ws : List Value} {vs zs : List V} (M : Mk X.K C f) (F : FnG X.prog X.w X.K X.mg X.base CX k f fd ps sp) (hr : Room (k + 1) X.A) (hg : X.A.guards = some []) (hb : KBm X.K fd ps n ks perm ds) (hd : Vals dvs ds)
    (hx : PassesAt CX X σ E) (I : Inv X pins σ H s) (r : Vals vs us) (rz : Vals zs ws) (l1 : vs.length = n) (l2 : zs.length = ks.length)
    (h : ∀ x dx, H x = none → H dx = none → dx ≠ x → sp (.ref x :: pick perm (vs ++ zs ++ dvs)) (upd (upd H dx (.own x)) x (.ins C dx [])) (fun v H3 => v = .non ∧ Q (.ref x) H3) E) :
    wpAny (model X.prog X.w) X.A (call (.ref C) us (ks.zip ws)) (EP X pins σ Q) X.xe s := by
  have I2 := Inv.made (C := C) I
  have q := h (s.heap.objs.size + 1) s.heap.objs.size (I.hok.fresh (Nat.le_succ _)) (I.hok.fresh (Nat.le_refl _)) (Nat.ne_of_lt (Nat.lt_succ_self _))
  have rr : Vals (V.ref (s.heap.objs.size + 1) :: pick perm (vs ++ zs ++ dvs)) (pick (0 :: perm.map (· + 1)) (Value.ref (s.heap.objs.size + 1) :: us ++ ws ++ ds)) := by
    show Vals _ (pick (0 :: perm.map (· + 1)) (Value.ref (s.heap.objs.size + 1) :: (us ++ ws ++ ds)))
    rw [pick_shift]
    exact .cons rfl (pick_vals ((r.append rz).append hd))
  have bt := hb _ (Value.ref (s.heap.objs.size + 1) :: us) ws I2.kIn (by rw [List.length_cons, ← r.length, l1]) (by rw [← rz.length, l2])
  refine wpAny_call (make_map (f := f) I.kIn M.makes M.init (beq_iff_eq.mp M.fn) (codeAny_mono (F.go _ X.stack _ _ ⟨_, ks.zip ws⟩ _ _ _ E ⟨hr.make C us (ks.zip ws), hg⟩ (I2.env0.make C us (ks.zip ws)) bt rr q) fun z s' hz => ?_))
  cases z with
  | error e => exact hx pins _ _ e s' I2 hz
  | ok fl => cases fl with
    | ret u =>
      obtain ⟨v, H', I3, rv, ev, q3⟩ := I2.after hz
      subst ev
      exact ⟨rv, .ref (s.heap.objs.size + 1), H', I3, rfl, q3⟩
    | next => exact hz.elim
    | brk => exact hz.elim
    | cont => exact hz.elim
theorem pg_make (M : Mk X.K C f) (F : FnG X.prog X.w X.K X.mg X.base CX k f fd ps sp) (hr : Room (k + 1) X.A) (hg : X.A.guards = some []) (gl : Gl X x) (hm : X.mg x = some (.ref C)) (hb : KBm X.K fd ps n ks perm ds) (hd : Vals dvs ds) (hx : Passes CX X E)
    (ok : ArgsOk X es kws pos ks) (hn : es = [] → t = tNil) (ha : PA X es t) (hkw : PK X kws tk) (hdb : (x == ("__debug__" : Str)) = false) : PE X (.Call (.Name x p) es kws pos) (tMakeP C sp n ks.length perm dvs E t tk) :=
  ⟨fun pins s σ H Q I h => wpAny_Call_Name_kw (ld_glob I gl hm (callw ok hn M.kp ha hkw I h fun us ws vs zs s2 H2 I2 r rz ⟨l1, l2, q⟩ => make_run M F hr hg hb hd (hx.at_ _) I2 r rz l1 l2 q) hdb)⟩
def tMethP (C : Addr) (mn : Str) (sp : Sp) (n m : Nat) (perm : List Nat) (dvs : List V) (E : XK) (ta : TE) (t tk : TA) : TE := fun σ H Q => ta σ H fun x H1 => ∃ a dx fs, x = .ref a ∧ H1 a = some (.ins C dx fs) ∧ fs.lookup mn = none ∧
  t σ H1 fun vs H2 => tk σ H2 fun zs H3 => vs.length = n ∧ zs.length = m ∧ sp (x :: pick perm (vs ++ zs ++ dvs)) H3 Q E
theorem pg_meth {pl : Sem Bool} (he : PE X o ta) (c : Cls X.K C) (hm : Meth X.K C mn f) (F : FnG X.prog X.w X.K X.mg X.base CX k f fd ps sp) (hr : Room k X.A) (hg : X.A.guards = some []) (hb : KBm X.K fd ps n ks perm ds) (hd : Vals dvs ds) (hx : Passes CX X E)
    (ok : ArgsOk X es kws pos ks) (hn : es = [] → t = tNil) (ha : PA X es t) (hkw : PK X kws tk)
    (ht : eval (.Call (.Attribute o mn apos) es kws pos) X.env = (do
      let ov ← eval o X.env
      standAt apos.atName
      let (f, first) ← holding [ov] (getMethod ov mn pl)
      callWith pos f first (backTo pos (starEach es X.env)) (backToKw pos (keywordEach kws X.env)))) :
    PE X (.Call (.Attribute o mn apos) es kws pos) (tMethP C mn sp n ks.length perm dvs E ta t tk) := by
  refine ⟨fun pins s σ H Q I h => PySem.W.methodCall_KW (pl := pl) (thn (he.run pins s σ H _ I h) fun u s1 ⟨x, H1, I1, rx, a, dx, fs, ex, ea, l, q⟩ => ?_) ht⟩
  subst ex
  obtain rfl : u = Value.ref a := rx
  refine getmeth_ok I1 ea c hm l (callw (first := [.ref a]) ok hn hm.kp ha hkw I1 q fun us ws vs zs s2 H2 I2 r rz ⟨l1, l2, q2⟩ => ?_)
  exact wp_of_code (α := Unit) (FnG.callM (va := .ref a) F hr hg (hx.at_ _) I2 hb hd rfl r rz l1 l2 q2)
structure CallI (K : PySem.W.Frag) (C g : Addr) : Prop where
  at_ : PySem.W.findIn K (.ref C) "__call__" = some (some (.ref g))
  fn : PySem.W.isFn K (.ref g) = true
  fi : PySem.W.fnIn K g = true
theorem run_inst {pins : List (Addr × Obj)} {σ : L2.St} {H : Hp} {s : Shared} {Q : VK} {a dx : Addr} {fs : List (Str × V)} {us ws : List Value} {vs zs : List V} (c : CallI X.K C f) (F : FnG X.prog X.w X.K X.mg X.base CX k f fd ps sp) (hr : Room k X.A) (hg : X.A.guards = some []) (hx : Passes CX X E)
    (I : Inv X pins σ H s) (hi : H a = some (.ins C dx fs)) (hb : KBm X.K fd ps n ks perm ds) (hd : Vals dvs ds) (r : Vals vs us) (rz : Vals zs ws) (l1 : vs.length = n) (l2 : zs.length = ks.length) (h : sp (.ref a :: pick perm (vs ++ zs ++ dvs)) H Q E) :
    wpAny (model X.prog X.w) X.A (call (.ref a) us (ks.zip ws)) (EP X pins σ Q) X.xe s := by
  obtain ⟨ox, od, J, d⟩ := ins_at I hi
  exact wp_of_code (α := Unit) (PySem.W.kco_code I.kIn J d c.at_ c.fn c.fi (FnG.callM (va := .ref a) F hr hg (hx.at_ _) I hb hd rfl r rz l1 l2 h))
def tInst (C : Addr) (sp : Sp) (n m : Nat) (perm : List Nat) (dvs : List V) (E : XK) (ta : TE) (t tk : TA) : TE := fun σ H Q => ta σ H fun x H1 => ∃ a, x = .ref a ∧
  t σ H1 fun vs H2 => tk σ H2 fun zs H3 => vs.length = n ∧ zs.length = m ∧ (∃ dx fs, H3 a = some (.ins C dx fs)) ∧ sp (x :: pick perm (vs ++ zs ++ dvs)) H3 Q E
theorem pg_inst {fe : Expr} (he : PE X fe ta) (c : CallI X.K C f) (F : FnG X.prog X.w X.K X.mg X.base CX k f fd ps sp) (hr : Room k X.A) (hg : X.A.guards = some []) (hb : KBm X.K fd ps n ks perm ds) (hd : Vals dvs ds) (hx : Passes CX X E)
    (ok : ArgsOk X es kws pos ks) (hn : es = [] → t = tNil) (ha : PA X es t) (hkw : PK X kws tk)
    (ht : eval (.Call fe es kws pos) X.env = (do callWith pos (← eval fe X.env) [] (backTo pos (starEach es X.env)) (backToKw pos (keywordEach kws X.env)))) :
    PE X (.Call fe es kws pos) (tInst C sp n ks.length perm dvs E ta t tk) := by
  refine ⟨fun pins s σ H Q I h => ?_⟩
  rw [ht]
  refine wpAny_bind (thn (he.run pins s σ H _ I h) fun u s1 ⟨x, H1, I1, rx, a, ex, q⟩ => ?_)
  subst ex
  obtain rfl : u = Value.ref a := rx
  refine calli ok hn ha hkw I1 q fun us ws vs zs s2 H2 I2 r rz ⟨l1, l2, ⟨dx, fs, hi⟩, q2⟩ => ⟨⟨C, dx, fs, hi⟩, run_inst c F hr hg hx I2 hi hb hd r rz l1 l2 q2⟩
/-- o.f(..) where f is a field that holds an instance -/
def tFInst (K : PySem.W.Frag) (fn : Str) (C : Addr) (sp : Sp) (n m : Nat) (perm : List Nat) (dvs : List V) (E : XK) (ta : TE) (t tk : TA) : TE := fun σ H Q => ta σ H fun x H1 => ∃ a D dx fs b, x = .ref a ∧ H1 a = some (.ins D dx fs) ∧ Cls K D ∧ NoAttr K D fn ∧ fs.lookup fn = some (.ref b) ∧
  t σ H1 fun vs H2 => tk σ H2 fun zs H3 => vs.length = n ∧ zs.length = m ∧ (∃ dx fs, H3 b = some (.ins C dx fs)) ∧ sp (.ref b :: pick perm (vs ++ zs ++ dvs)) H3 Q E
end
end L3
namespace L3
open PySem PySem.Spec PyProof.Rows L2
theorem RepAll.cons {K : PySem.W.Frag} {G : Gx} {H : Hp} {x : V} {xs : List V} {d : D} {ds : List D} (h : Rep K G H x d) (t : RepAll K G H xs ds) : RepAll K G H (x :: xs) (d :: ds) := ⟨x, xs, rfl, h, t⟩
theorem lookup_zip {f : Str} : ∀ {fl : List Str} {i : Nat} (xs : List V), fl.findIdx? (· == f) = some i → (fl.zip xs).lookup f = xs[i]?
  | [], _, _, h => by simp at h
  | g :: fl, i, [], h => by simp
  | g :: fl, i, x :: xs, h => by
    rw [List.findIdx?_cons] at h
    by_cases e : (g == f) = true
    · rw [if_pos e] at h
      cases h
      have e : g = f := beq_iff_eq.mp e
      subst e
      simp [List.zip_cons_cons]
    · rw [if_neg e] at h
      obtain ⟨j, h1, rfl⟩ := Option.map_eq_some_iff.mp h
      have e' : (f == g) = false := by
        rw [Bool.eq_false_iff]
        exact fun z => e (beq_iff_eq.mpr (beq_iff_eq.mp z).symm)
      rw [List.zip_cons_cons, List.lookup_cons, e', lookup_zip xs h1]
      simp
theorem putF_zip {f : Str} {y : V} : ∀ {fl : List Str} {i : Nat} {xs : List V}, fl.findIdx? (· == f) = some i → i ≤ xs.length → putF f y (fl.zip xs) = fl.zip (xs.take i ++ y :: xs.drop (i + 1))
  | [], _, _, h, _ => by simp at h
  | g :: fl, i, [], h, hl => by
    have : i = 0 := by simpa using hl
    subst this
    rw [List.findIdx?_cons] at h
    by_cases e : (g == f) = true
    · have e : g = f := beq_iff_eq.mp e
      subst e
      simp [putF]
    · rw [if_neg e] at h
      obtain ⟨j, h1, h2⟩ := Option.map_eq_some_iff.mp h
      omega
  | g :: fl, i, x :: xs, h, hl => by
    rw [List.findIdx?_cons] at h
    by_cases e : (g == f) = true
    · rw [if_pos e] at h
      cases h
      have e : g = f := beq_iff_eq.mp e
      subst e
      simp [putF]
    · rw [if_neg e] at h
      obtain ⟨j, h1, rfl⟩ := Option.map_eq_some_iff.mp h
      have e' : ¬ g = f := fun z => e (beq_iff_eq.mpr z)
      rw [List.zip_cons_cons]
      show (if g = f then _ else (g, x) :: putF f y (fl.zip xs)) = _
      rw [if_neg e', putF_zip h1 (by simpa using hl)]
      simp
/-- where the field f stands, class by class -/
structure FldOk (K : PySem.W.Frag) (G : Gx) (f : Str) (tab : List (Nat × Nat)) : Prop where
  ix : ∀ t i, tab.lookup t = some i → (G.fld t).findIdx? (· == f) = some i ∧ (G.fld t).length < 1000
  cl : ∀ t i, tab.lookup t = some i → Cls K (G.cls t) ∧ NoAttr K (G.cls t) f
theorem FldOk.nil {K : PySem.W.Frag} {G : Gx} {f : Str} : FldOk K G f [] := ⟨fun _ _ h => by simp at h, fun _ _ h => by simp at h⟩
theorem FldOk.cons {K : PySem.W.Frag} {G : Gx} {f : Str} {tab : List (Nat × Nat)} {t i : Nat} (h1 : (G.fld t).findIdx? (· == f) = some i) (h2 : (G.fld t).length < 1000) (c : Cls K (G.cls t)) (n : NoAttr K (G.cls t) f) (r : FldOk K G f tab) : FldOk K G f ((t, i) :: tab) := by
  have key : ∀ u j, ((t, i) :: tab).lookup u = some j → (u = t ∧ j = i) ∨ tab.lookup u = some j := fun u j h => by
    rw [List.lookup_cons] at h
    by_cases e : (u == t) = true
    · rw [e] at h
      exact .inl ⟨beq_iff_eq.mp e, (Option.some.inj h).symm⟩
    · rw [Bool.eq_false_iff.mpr e] at h
      exact .inr h
  refine ⟨fun u j h => ?_, fun u j h => ?_⟩
  · rcases key u j h with ⟨rfl, rfl⟩ | h
    · exact ⟨h1, h2⟩
    · exact r.ix u j h
  · rcases key u j h with ⟨rfl, rfl⟩ | h
    · exact ⟨c, n⟩
    · exact r.cl u j h
def fFld (tab : List (Nat × Nat)) : F1
  | .ins t ds, Q => ∃ i x, tab.lookup t = some i ∧ ds[i]? = some x ∧ Q (.sh x)
  | _, _ => False
@[simp] theorem fFld_0 (tab : List (Nat × Nat)) (t : Nat) (ds : List D) (Q : RD → Prop) : fFld tab (.ins t ds) Q = (∃ i x, tab.lookup t = some i ∧ ds[i]? = some x ∧ Q (.sh x)) := rfl
@[simp] def wSetF (i : Nat) (tab : List (Nat × Nat)) (w : WE) : WS := fun De δ => w δ fun r δ1 => ¬ r.bor ∧ ∃ t fs k, δ1.sl[i]? = some (some (.ow (.ins t fs))) ∧ tab.lookup t = some k ∧ k ≤ fs.length ∧
  De.nx ⟨δ1.sl.set i (some (.ow (.ins t (fs.take k ++ r.d :: fs.drop (k + 1))))), δ1.n⟩
section
variable {X : Cx} {G : Gx} {K : PySem.W.Frag} {E : Ent} {f : Str} {tab : List (Nat × Nat)} {o e : Expr} {ta te : TE} {wa we : WE} {pos pos' : Pos}
theorem RB.ins {M : List Addr} {H : Hp} {v : V} {t : Nat} {ds : List D} (h : RB K G M H v (.ins t ds)) : ∃ p dx xs, v = .ref p ∧ H p = some (.ins (G.cls t) dx ((G.fld t).zip xs)) ∧ xs.length ≤ (G.fld t).length ∧ RepAll K G (mask M H) xs ds := by
  rcases h with ⟨p, dx, xs, e, q, l, r⟩ | ⟨p, e, dx, xs, q, l, r⟩
  · exact ⟨p, dx, xs, e, mask_le _ _ q, l, r⟩
  · exact ⟨p, dx, xs, e, q, l, r⟩
theorem uns_fld (ok : FldOk K G f tab) : UnS K G (fun x H1 Q => ∃ a C dx fs v, x = .ref a ∧ H1 a = some (.ins C dx fs) ∧ Cls K C ∧ NoAttr K C f ∧ fs.lookup f = some v ∧ Q v H1) (fFld tab) := fun M H x d al bx Qd h Q k => by
  cases d <;> first | exact h.elim | skip
  obtain ⟨i, y, h1, h2, q⟩ := h
  obtain ⟨p, dx, xs, rfl, hp, hl, r⟩ := bx.ins
  obtain ⟨v, hv, rv⟩ := r.get h2
  exact ⟨p, _, dx, _, v, rfl, hp, (ok.cl _ _ h1).1, (ok.cl _ _ h1).2, by rw [lookup_zip xs (ok.ix _ _ h1).1]; exact hv, k v (.sh y) H (Same.refl _) (rn_sh rv) q⟩
theorem de_fld (K : PySem.W.Frag) (ok : FldOk K G f tab) (he : DE X G o ta wa) (hb : attributeBase o f X.env (eval o X.env) = eval o X.env := by rfl) (hK : X.K = K := by rfl) : DE X G (.Attribute o f pos) (tFld K ta f) (wUn (fFld tab) wa) := by
  subst hK
  exact ⟨pe_fld he.pe hb, fun E => sim_un (uns_fld ok) (he.sim E)⟩
theorem sim_setF {i : Nat} (ok : FldOk K G f tab) (h : ∀ E, SimE K G E te we) : SimS K G (sFld K (tVar i) te f) (wSetF i tab we) := fun E am M σ δ H S D3 q De R => by
  refine h E am M σ δ H S _ q _ fun y r δ1 H1 S1 e1 o1 rv ⟨nb, t, fs, k, h0, h1, hk, q⟩ => ?_
  obtain ⟨a1, a2, a3, a4, dx, xs, a5, a6, a7⟩ := S1.ow i _ h0
  obtain ⟨f1, f2⟩ := ok.ix _ _ h1
  have hk' : k ≤ xs.length := by rw [a7.length]; exact hk
  have kl : k < (G.fld t).length := by
    have := List.findIdx?_eq_some_iff_findIdx_eq.mp f1
    exact this.1
  refine ⟨_, a1, am i, _, dx, _, rfl, a5, (ok.cl _ _ h1).1, (ok.cl _ _ h1).2, ?_, R.nx am M _ _ _ (S1.mut (d' := .ins t (fs.take k ++ r.d :: fs.drop (k + 1))) h0 ⟨dx, xs.take k ++ y :: xs.drop (k + 1), ?_, ?_, ?_⟩ rfl) q⟩
  · rw [List.length_zip]; omega
  · rw [upd_same, putF_zip f1 hk']
  · rw [List.length_append, List.length_cons, List.length_take, List.length_drop]; omega
  · rw [mask_upd a2]
    exact (a7.take k).append ⟨y, _, rfl, rv.k.rep nb, a7.drop (k + 1)⟩
theorem ds_fld (i : Nat) (K : PySem.W.Frag) (ok : FldOk K G f tab) (hx : PE X o (tVar i)) (he : DE X G e te we) (hs : swapsWith e (some (.Attribute o f pos')) pos.line X.env = pure false := by rfl) (hK : X.K = K := by rfl) :
    DS X G (.Assign [.Attribute o f pos'] e pos) (sFld K (tVar i) te f) (wSetF i tab we) := by
  subst hK
  exact ⟨ps_fld hx he.pe hs, sim_setF ok he.sim⟩
end
def liftI (K : PySem.W.Frag) (Gf : Addr → Addr → Gx) (t : Nat) (C : Con) : Sp := fun vs H Q _ => ∃ (a c : Addr) (ads : List Addr) (ds : List D) (n : Nat) (Qd : D → Nat → Prop) (x dx : Addr) (us : List V), vs = .ref x :: us ∧
  (∀ y ∈ (Gf a c).dk, y ∈ ads) ∧ (∀ y ∈ ads, H y ≠ none) ∧ (∀ y ∈ ads, NoCode H y) ∧ x ∉ ads ∧ H x = some (.ins ((Gf a c).cls t) dx []) ∧ (Gf a c).DI n H ∧ RepAll K (Gf a c) (mask (x :: ads) H) us ds ∧ C ds n Qd ∧
  ∀ (d : D) (n' : Nat) (H' : Hp), (∀ b o, H b = some o → b ∉ (Gf a c).dk → b ≠ x → H' b = some o) → (Gf a c).DI n' H' → Rep K (Gf a c) (mask ads H') (.ref x) d → Qd d n' → Q .non H'
def startI (N : List Str) (t : Nat) (ds : List D) : List (Option SV) := some (.ow (.ins t [])) :: (ds.map (fun d => some (.sh d)) ++ List.replicate (N.length - (ds.length + 1)) none)
theorem tail_get {ds : List D} {n i : Nat} {s : SV} (h : (ds.map (fun d => some (SV.sh d)) ++ List.replicate n none)[i]? = some (some s)) : ∃ d, s = .sh d ∧ ds[i]? = some d := by
  by_cases q : i < ds.length
  · rw [List.getElem?_append_left (by simpa using q), List.getElem?_map] at h
    cases e : ds[i]? with
    | none => rw [e] at h; cases h
    | some d =>
      rw [e] at h
      exact ⟨d, by simpa using h.symm, rfl⟩
  · rw [List.getElem?_append_right (by simpa using q), List.getElem?_replicate] at h
    split at h <;> cases h
section
variable {P : Program} {w : World} {K : PySem.W.Frag} {mg : Str → Option Value} {base : Heap} {k : Nat} {f : Addr} {fd : FuncData} {ps N : List Str} {x qual : Str} {params : Arguments} {body : List Stmt} {scope : Scope} {Gf : Addr → Addr → Gx} {C : Con} {ws : WS} {t : Nat}
theorem init_sr {G : Gx} {H : Hp} {ads : List Addr} {n : Nat} {x dx : Addr} {us : List V} {ds : List D} (hk : ∀ y ∈ G.dk, y ∈ ads) (ha : ∀ y ∈ ads, H y ≠ none) (hc : ∀ y ∈ ads, NoCode H y) (hx : x ∉ ads) (hi : H x = some (.ins (G.cls t) dx [])) (di : G.DI n H) (r : RepAll K G (mask (x :: ads) H) us ds) (ok : G.okE ⟨fun b => if b = x then none else H b, ads, [], some x⟩) :
    SR K G ⟨fun b => if b = x then none else H b, ads, [], some x⟩ (fun _ => x) (x :: ads) (L2.start N (.ref x :: us)) ⟨startI N t ds, n⟩ H where
  len := by unfold L2.start startI; simp [r.length]
  sh := fun i d h => by
    cases i with
    | zero => cases h
    | succ i =>
      obtain ⟨d', e1, e2⟩ := tail_get (h : (ds.map (fun d => some (SV.sh d)) ++ List.replicate (N.length - (ds.length + 1)) none)[i]? = _)
      cases e1
      obtain ⟨v, h1, h2⟩ := r.get e2
      refine ⟨v, ?_, h2⟩
      have il : i < us.length := (List.getElem?_eq_some_iff.mp h1).1
      unfold L2.start
      rw [List.getElem?_append_left (by simp; omega), List.getElem?_map, List.getElem?_cons_succ, h1]
      rfl
  ow := fun i d h => by
    cases i with
    | zero =>
      cases h
      exact ⟨rfl, List.mem_cons_self, hx, if_pos rfl, dx, [], by simpa using hi, Nat.zero_le _, rfl⟩
    | succ i =>
      obtain ⟨d', e1, e2⟩ := tail_get (h : (ds.map (fun d => some (SV.sh d)) ++ List.replicate (N.length - (ds.length + 1)) none)[i]? = _)
      cases e1
  inj := fun i j ⟨d, h⟩ ⟨d', h'⟩ _ => by
    have z : ∀ (i : Nat) (d : D), (startI N t ds)[i]? = some (some (SV.ow d)) → i = 0 := fun i d h => by
      cases i with
      | zero => rfl
      | succ i =>
        obtain ⟨d', e1, e2⟩ := tail_get (h : (ds.map (fun d => some (SV.sh d)) ++ List.replicate (N.length - (ds.length + 1)) none)[i]? = _)
        cases e1
    rw [z i d h, z j d' h']
  ads := fun a z => List.mem_cons_of_mem _ z
  dks := hk
  al := fun a z => by
    rcases List.mem_cons.mp z with e | e
    · subst e; rw [hi]; simp
    · exact ha a e
  base := fun b o h _ => by
    have h : (if b = x then none else H b) = some o := h
    by_cases e : b = x
    · rw [if_pos e] at h; cases h
    · rw [if_neg e] at h; exact h
  di := di
  gh := fun p hp => by cases hp
  slf := fun y hy d h k => by cases hy; rfl
  od := OdOk.none fun i ks ss h => by
    cases i with
    | zero => cases h
    | succ i =>
      obtain ⟨d', e1, e2⟩ := tail_get (h : (ds.map (fun d => some (SV.sh d)) ++ List.replicate (N.length - (ds.length + 1)) none)[i]? = _)
      cases e1
  mc := fun a z => by
    rcases List.mem_cons.mp z with e | e
    · subst e; exact NoCode.of hi fun _ => HO.noConfusion
    · exact hc a e
  ok := ok
theorem FnG.init (t : Nat) (F : FunB K x qual params body scope f fd) (S : FnScope N ps scope) (len : ∀ ds n Q, C ds n Q → ds.length + 1 = ps.length)
    (hb : ∀ (cdv : Value) (A : Around) (outer : List Env) (s : Shared) (H : Hp) (E : XK) (a c : Addr), Room k (A.deeper (envOfC qual scope s.heap.objs.size f cdv)) → A.guards = some [] →
      ∃ t, DSs (cxOf CX0 P w K mg base N qual scope f cdv A outer s H E).nox (Gf a c) body t ws)
    (hw : ∀ ds n Q, C ds n Q → ws ⟨fun δ => ∃ fs, δ.sl[0]? = some (some (.ow (.ins t fs))) ∧ Q (.ins t fs) δ.n, fun _ _ => False, fun _ => False, fun _ => False⟩ ⟨startI N t ds, n⟩) (hE : ∀ a c E, (Gf a c).okE E := by exact fun _ _ _ => trivial) : FnG P w K mg base CX0 (k + 1) f fd ps (liftI K Gf t C) := by
  refine FnG.of F S (fun vs H Q E ⟨a, c, ads, ds, n, Qd, x, dx, us, e, _, _, _, _, _, _, r, hc, _⟩ => by rw [e, List.length_cons, r.length]; exact len ds n Qd hc) fun cdv A outer s H vs Q E hr hg ⟨a, c, ads, ds, n, Qd, x, dx, us, e, hk, ha, hnc, hx, hi, di, r, hc, q⟩ => ?_
  subst e
  obtain ⟨tt, ht⟩ := hb cdv A outer s H E a c hr hg
  refine ⟨tt, ht.ps.nox, ht.sim ⟨fun b => if b = x then none else H b, ads, [], some x⟩ _ _ _ _ H (init_sr hk ha hnc hx hi di r (hE a c _)) _ (hw ds n Qd hc) _ ⟨fun am M σ δ H' S' ⟨fs, h0, z⟩ => ?_, fun _ _ _ _ _ _ z => z, fun _ _ _ _ _ _ z => z, fun v d n' H' rv hbase di' z => z.elim⟩⟩
  obtain ⟨_, _, a3, _, own⟩ := S'.ow 0 _ h0
  have e0 : am 0 = x := S'.slf x rfl _ h0 rfl
  rw [e0] at own a3
  refine q (.ins t fs) δ.n H' (fun b o h hd ne => S'.base b o (by show (if b = x then none else H b) = some o; rw [if_neg ne]; exact h) hd) S'.di (own.rep (mask_sub S'.ads) fun o e => by rw [mask_out a3]; exact e) z
end
@[simp] def wMeth (t : Nat) (C : Con) (n m : Nat) (perm : List Nat) (dd : List D) (wo : WE) (w wk : WA) : WE := fun δ Q => wo δ fun r δ0 => ¬ r.bor ∧ (∃ fs, r.d = .ins t fs) ∧ w δ0 fun rs δ1 => wk δ1 fun qs δ2 => keeps rs ∧ keeps qs ∧ rs.length = n ∧ qs.length = m ∧
  C (r.d :: pick perm (rs.map RD.d ++ qs.map RD.d ++ dd)) δ2.n fun d n' => Q (.sh d) ⟨δ2.sl, n'⟩
section
variable {X : Cx} {G : Gx} {K : PySem.W.Frag} {E : Ent} {Gf : Addr → Addr → Gx} {a c : Addr} {C : Con} {dd : List D} {dvs : List V} {to : TE} {wo : WE} {ts tk : TA} {wa wk : WA} {n m t : Nat} {perm : List Nat}
theorem sim_make {Ex : XK} (h : SimA K (Gf a c) E ts wa) (h' : SimA K (Gf a c) E tk wk) (hd : Dfl K (Gf a c) dvs dd) : SimE K (Gf a c) E (tMakeP ((Gf a c).cls t) (liftI K Gf t C) n m perm dvs Ex ts tk) (wCallP C n m perm dd wa wk) := fun am M σ δ H S Qd q Q k =>
  h am M σ δ H S _ q _ fun vs rs δ1 H1 S1 e1 o1 r1 q => h' am M σ δ1 H1 S1 _ q _ fun zs qs δ2 H2 S2 e2 o2 r2 ⟨k1, k2, l1, l2, hc⟩ => by
    refine ⟨by rw [r1.length]; exact l1, by rw [r2.length]; exact l2, fun x dx hx hdx ne => ?_⟩
    have hx' : (upd H2 dx (.own x)) x = none := by rw [upd_ne ne.symm]; exact hx
    have sm : Same H2 (upd (upd H2 dx (.own x)) x (.ins ((Gf a c).cls t) dx [])) := (same_new hdx).trans (same_new hx')
    have S3 := S2.grow sm
    have xM : x ∉ M := fun z => S2.al x z hx
    have rep := pick_rep (perm := perm) ((((r1.later (δ2 := δ2) S1 e2 k1).rep k1).append (r2.rep k2)).append (hd _))
    refine ⟨a, c, M, _, δ2.n, _, x, dx, _, rfl, fun y hy => S3.ads y (S3.dks y hy), S3.al, S3.mc, xM, upd_same, S3.di, rep.mono (mask_new hx sm), hc, fun d n' H' hb di rv hq => ⟨rfl, ?_⟩⟩
    have hb' : ∀ b o, H2 b = some o → b ∉ (Gf a c).dk → H' b = some o := fun b o h hk => hb b o (sm b o h) hk fun z => by subst z; rw [hx] at h; cases h
    exact k (.ref x) (.sh d) ⟨δ2.sl, n'⟩ H' (S2.after hb' di) ((e1.trans o1 e2).trans (fun i z => o1 i (o2 i z)) fun b o h hk _ => hb' b o h hk) (fun i z => o1 i (o2 i z)) rv hq
theorem zip_none {mn : Str} : ∀ {fl : List Str} (xs : List V), mn ∉ fl → (fl.zip xs).lookup mn = none
  | [], _, _ => by simp
  | g :: fl, [], _ => by simp
  | g :: fl, x :: xs, h => by
    have h1 : (mn == g) = false := by
      rw [Bool.eq_false_iff]
      exact fun z => h (by rw [beq_iff_eq.mp z]; exact List.mem_cons_self)
    rw [List.zip_cons_cons, List.lookup_cons, h1]
    exact zip_none xs fun z => h (List.mem_cons_of_mem _ z)
theorem sim_meth {Ex : XK} {mn : Str} (hmn : mn ∉ (Gf a c).fld t) (ho : SimE K (Gf a c) E to wo) (h : SimA K (Gf a c) E ts wa) (h' : SimA K (Gf a c) E tk wk) (hd : Dfl K (Gf a c) dvs dd) :
    SimE K (Gf a c) E (tMethP ((Gf a c).cls t) mn (lift K Gf C) n m perm dvs Ex to ts tk) (wMeth t C n m perm dd wo wa wk) := fun am M σ δ H S Qd q Q k =>
  ho am M σ δ H S _ q _ fun x r δ0 H0 S0 e0 o0 r0 ⟨nb, ⟨fs, ef⟩, q⟩ => by
    have rr := r0.k.rep nb
    have ri := rr
    rw [ef] at ri
    obtain ⟨p, dx, xs, rfl, hp, hl, rx⟩ := ri
    refine ⟨p, dx, _, rfl, mask_le _ _ hp, zip_none xs hmn, ?_⟩
    refine h am M σ δ0 H0 S0 _ q _ fun vs rs δ1 H1 S1 e1 o1 r1 q => h' am M σ δ1 H1 S1 _ q _ fun zs qs δ2 H2 S2 e2 o2 r2 ⟨k1, k2, l1, l2, hc⟩ => ?_
    refine ⟨by rw [r1.length]; exact l1, by rw [r2.length]; exact l2, ?_⟩
    have rep := pick_rep (perm := perm) ((((r1.later (δ2 := δ2) S1 e2 k1).rep k1).append (r2.rep k2)).append (hd _))
    have r0' : Rep K (Gf a c) (mask M H2) (.ref p) r.d := Rep.mono ((S0.mask e1).trans (S1.mask e2)) _ rr
    exact lift_use S2 (RepAll.cons r0' rep) hc fun v r δ' H' S' e' o' rv hq =>
      k v r δ' H' S' (((e0.trans o0 e1).trans (fun i z => o0 i (o1 i z)) e2).trans (fun i z => o0 i (o1 i (o2 i z))) e') (fun i z => o0 i (o1 i (o2 i (o' i z)))) rv hq
theorem sim_inst {Ex : XK} (ho : SimE K (Gf a c) E to wo) (h : SimA K (Gf a c) E ts wa) (h' : SimA K (Gf a c) E tk wk) (hd : Dfl K (Gf a c) dvs dd) :
    SimE K (Gf a c) E (tInst ((Gf a c).cls t) (lift K Gf C) n m perm dvs Ex to ts tk) (wMeth t C n m perm dd wo wa wk) := fun am M σ δ H S Qd q Q k =>
  ho am M σ δ H S _ q _ fun x r δ0 H0 S0 e0 o0 r0 ⟨nb, ⟨fs, ef⟩, q⟩ => by
    have rr := r0.k.rep nb
    have ri := rr
    rw [ef] at ri
    obtain ⟨p, dx, xs, rfl, hp, hl, rx⟩ := ri
    refine ⟨p, rfl, ?_⟩
    refine h am M σ δ0 H0 S0 _ q _ fun vs rs δ1 H1 S1 e1 o1 r1 q => h' am M σ δ1 H1 S1 _ q _ fun zs qs δ2 H2 S2 e2 o2 r2 ⟨k1, k2, l1, l2, hc⟩ => ?_
    have rep := pick_rep (perm := perm) ((((r1.later (δ2 := δ2) S1 e2 k1).rep k1).append (r2.rep k2)).append (hd _))
    have r0' : Rep K (Gf a c) (mask M H2) (.ref p) r.d := Rep.mono ((S0.mask e1).trans (S1.mask e2)) _ rr
    have ri' := r0'
    rw [ef] at ri'
    obtain ⟨p', dx', xs', e', hp', _⟩ := ri'
    cases e'
    refine ⟨by rw [r1.length]; exact l1, by rw [r2.length]; exact l2, ⟨dx', _, mask_le _ _ hp'⟩, ?_⟩
    exact lift_use S2 (RepAll.cons r0' rep) hc fun v r δ' H' S' e' o' rv hq =>
      k v r δ' H' S' (((e0.trans o0 e1).trans (fun i z => o0 i (o1 i z)) e2).trans (fun i z => o0 i (o1 i (o2 i z))) e') (fun i z => o0 i (o1 i (o2 i (o' i z)))) rv hq
variable {k : Nat} {f : Addr} {fd : FuncData} {ps ks : List Str} {ds : List Value} {x mn : Str} {p pos apos : Pos} {o : Expr} {es : List Expr} {kws : List Keyword}
theorem de_make (K : PySem.W.Frag) (t : Nat) (M : Mk K ((Gf a c).cls t) f) (F : FnG X.prog X.w K X.mg X.base CX0 k f fd ps (liftI K Gf t C)) (hr : Room (k + 1) X.A) (hg : X.A.guards = some []) (hm : X.mg x = some (.ref ((Gf a c).cls t))) (hb : KBm K fd ps n ks perm ds) (hv : Vals dvs ds) (hd : Dfl K (Gf a c) dvs dd)
    (ha : DA X (Gf a c) es ts wa) (hkw : DK X (Gf a c) kws tk wk) (gl : Gl X x := by rfl) (ok : ArgsOk X es kws pos ks := by exact ⟨by first | exact .inl rfl | exact .inr ⟨_, _, rfl, rfl⟩, rfl, rfl, rfl⟩) (hn : es = [] → ts = tNil := by first | exact fun _ => rfl | (intro h; cases h)) (hdb : (x == ("__debug__" : Str)) = false := by decide) (hl : ks.length = m := by rfl) (hK : X.K = K := by rfl) :
    DE X (Gf a c) (.Call (.Name x p) es kws pos) (tMakeP ((Gf a c).cls t) (liftI K Gf t C) n m perm dvs E0 ts tk) (wCallP C n m perm dd wa wk) := by
  subst hK hl
  exact ⟨pg_make M F hr hg gl hm hb hv pass0 ok hn ha.pa hkw.pk hdb, fun E => sim_make (ha.sim E) (hkw.sim E) hd⟩
theorem de_meth {pl : Sem Bool} (K : PySem.W.Frag) (t : Nat) (c' : Cls K ((Gf a c).cls t)) (hm : Meth K ((Gf a c).cls t) mn f) (F : FnG X.prog X.w K X.mg X.base CX0 k f fd ps (lift K Gf C)) (hr : Room k X.A) (hg : X.A.guards = some []) (hb : KBm K fd ps n ks perm ds) (hv : Vals dvs ds) (hd : Dfl K (Gf a c) dvs dd)
    (hmn : mn ∉ (Gf a c).fld t) (he : DE X (Gf a c) o to wo) (ha : DA X (Gf a c) es ts wa) (hkw : DK X (Gf a c) kws tk wk) (ok : ArgsOk X es kws pos ks := by exact ⟨by first | exact .inl rfl | exact .inr ⟨_, _, rfl, rfl⟩, rfl, rfl, rfl⟩) (hn : es = [] → ts = tNil := by first | exact fun _ => rfl | (intro h; cases h))
    (ht : eval (.Call (.Attribute o mn apos) es kws pos) X.env = (do
      let ov ← eval o X.env
      standAt apos.atName
      let (f, first) ← holding [ov] (getMethod ov mn pl)
      callWith pos f first (backTo pos (starEach es X.env)) (backToKw pos (keywordEach kws X.env))) := by rfl) (hl : ks.length = m := by rfl) (hK : X.K = K := by rfl) :
    DE X (Gf a c) (.Call (.Attribute o mn apos) es kws pos) (tMethP ((Gf a c).cls t) mn (lift K Gf C) n m perm dvs E0 to ts tk) (wMeth t C n m perm dd wo wa wk) := by
  subst hK hl
  exact ⟨pg_meth he.pe c' hm F hr hg hb hv pass0 ok hn ha.pa hkw.pk ht, fun E => sim_meth hmn (he.sim E) (ha.sim E) (hkw.sim E) hd⟩
theorem de_inst {fe : Expr} (K : PySem.W.Frag) (t : Nat) (c' : CallI K ((Gf a c).cls t) f) (F : FnG X.prog X.w K X.mg X.base CX0 k f fd ps (lift K Gf C)) (hr : Room k X.A) (hg : X.A.guards = some []) (hb : KBm K fd ps n ks perm ds) (hv : Vals dvs ds) (hd : Dfl K (Gf a c) dvs dd)
    (he : DE X (Gf a c) fe to wo) (ha : DA X (Gf a c) es ts wa) (hkw : DK X (Gf a c) kws tk wk) (ok : ArgsOk X es kws pos ks := by exact ⟨by first | exact .inl rfl | exact .inr ⟨_, _, rfl, rfl⟩, rfl, rfl, rfl⟩) (hn : es = [] → ts = tNil := by first | exact fun _ => rfl | (intro h; cases h))
    (ht : eval (.Call fe es kws pos) X.env = (do callWith pos (← eval fe X.env) [] (backTo pos (starEach es X.env)) (backToKw pos (keywordEach kws X.env))) := by rfl) (hl : ks.length = m := by rfl) (hK : X.K = K := by rfl) :
    DE X (Gf a c) (.Call fe es kws pos) (tInst ((Gf a c).cls t) (lift K Gf C) n m perm dvs E0 to ts tk) (wMeth t C n m perm dd wo wa wk) := by
  subst hK hl
  exact ⟨pg_inst he.pe c' F hr hg hb hv pass0 ok hn ha.pa hkw.pk ht, fun E => sim_inst (he.sim E) (ha.sim E) (hkw.sim E) hd⟩
end
end L3
namespace L3
open PySem PySem.Spec PyProof.Rows L2
/-- the kind: false a list, true a tuple -/
def SqB (K : PySem.W.Frag) (H : Hp) : Bool → Addr → List V → Prop
  | false, a, xs => SqL K H a xs
  | true, a, xs => SqT K H a xs
def seqAt (h : Heap) : Bool → Addr → Array Value → Prop
  | false, a, its => h.IsList a its
  | true, a, its => h.IsTuple a its
def iterAt (h : Heap) : Bool → Addr → Addr → Nat → Prop
  | false, it, a, i => h.IsListIter it a i
  | true, it, a, i => h.IsTupleIter it a i
def iterOb : Bool → Addr → Obj
  | false, a => { cls := .type "list_iterator", data := .fields #[.ref a, .int 0 0] }
  | true, a => { cls := .type "tuple_iterator", data := .fields #[.ref a, .int 0 0] }
theorem iterAt.ob {h : Heap} {t : Bool} {it a : Addr} {i : Nat} (x : iterAt h t it a i) : ∃ o, h.get? it = some o ∧ ∀ v, o.data ≠ .cell v := by
  cases t with
  | false => obtain ⟨o, ho, _, hd⟩ := id x; exact ⟨o, ho, fun v q => by rw [hd] at q; cases q⟩
  | true => obtain ⟨o, ho, _, hd⟩ := id x; exact ⟨o, ho, fun v q => by rw [hd] at q; cases q⟩
theorem iterAt.to {h h' : Heap} {t : Bool} {it a : Addr} {i : Nat} (x : iterAt h t it a i) (k : ∀ o, h.get? it = some o → h'.get? it = some o) : iterAt h' t it a i := by
  cases t with
  | false => exact Heap.IsListIter.at x k
  | true => exact Heap.IsTupleIter.at x k
theorem drawsB {P : Program} {w : World} {A : Around} (hh : A.handled = none) (t : Bool) (it a : Addr) (ne : a ≠ it) (items : Array Value) :
    Draws P w A it [it, a] items.size (fun i v => items[i]? = some v) (fun i h => iterAt h t it a i ∧ seqAt h t a items) := by
  cases t with
  | false => exact Draws.list hh it a ne items
  | true => exact Draws.tuple hh it a ne items
theorem beginsB (t : Bool) (a : Addr) (items : Array Value) : Begins (.ref a) (iterOb t a) fun h => seqAt h t a items := by
  cases t with
  | false => exact begins_list a items
  | true => exact begins_tuple a items
theorem iterOb_at {h : Heap} {t : Bool} {it a : Addr} (e : h.get? it = some (iterOb t a)) : iterAt h t it a 0 := by
  cases t with
  | false => exact ⟨_, e, rfl, rfl⟩
  | true => exact ⟨_, e, rfl, rfl⟩
section
variable {X : Cx} {pins : List (Addr × Obj)} {σ : L2.St} {H : Hp} {s : Shared} {a : Addr} {xs : List V} {t : Bool}
theorem seq_its (I : Inv X pins σ H s) (h : SqB X.K H t a xs) : ∃ its : List Value, Vals xs its ∧ seqAt s.heap t a its.toArray ∧ a < s.heap.objs.size := by
  cases t with
  | false =>
    obtain ⟨its, r, p, _⟩ := I.list h
    exact ⟨its, r, p.isList, p.lt⟩
  | true =>
    obtain ⟨its, r, p, _⟩ := I.tuple h
    obtain ⟨o, ho, _⟩ := id p
    exact ⟨its, r, p, Heap.lt_size ho⟩
theorem seq_inj (I : Inv X pins σ H s) {ys : List V} (h : SqB X.K H t a xs) (h' : SqB X.K H t a ys) : xs = ys := by
  cases t with
  | false => exact I.list_inj h h'
  | true => exact I.tuple_inj h h'
end
def ItEn (K : PySem.W.Frag) (t : Bool) (a : Addr) : It where
  go := fun i H => ∃ (xs : List V) (x : V), SqB K H t a xs ∧ xs[i]? = some x
  yld := fun i H v H' => ∃ T x, v = .ref T ∧ H T = none ∧ H' = upd H T (.tup [.int (i : Nat), x]) ∧ ∀ xs, SqB K H t a xs → xs[i]? = some x
  stop := fun i H => ∃ xs : List V, SqB K H t a xs ∧ xs.length = i
theorem turn_en {P : Program} {w : World} {K : PySem.W.Frag} {elts : List Expr} {kk : Nat} {tpos : Pos} (t : Bool) (a e it : Addr) :
    Turn P w K (.Tuple elts kk tpos) (ItEn K t a) [e, it] e (fun i h => (∃ old, IsEnum h e it ((i : Nat) : Int) old) ∧ iterAt h t it a i ∧ e ≠ it ∧ a ≠ it ∧ e ≠ a) where
  mem := List.mem_cons_self
  obj := fun i h ⟨⟨old, he⟩, hi, _⟩ b hb => by
    rcases List.mem_cons.mp hb with z | z
    · subst z; exact ⟨_, he, fun v q => nomatch q⟩
    · rw [List.mem_singleton.mp z]; exact hi.ob
  keep := fun i h h' ⟨⟨old, he⟩, hi, ne⟩ k => ⟨⟨old, k e List.mem_cons_self _ he⟩, hi.to fun o q => k it (by simp) o q, ne⟩
  item := by
    intro X hP hw hK hc i pins s σ H E I hf ⟨⟨old, he⟩, hit, n1, n2, n3⟩ ⟨xs, x, hq, hx⟩
    subst hP hw hK
    obtain ⟨its, rv, p, _⟩ := seq_its I hq
    obtain ⟨u, hu, ru⟩ := rv.get hx
    have el : e < s.heap.objs.size := Heap.lt_size he
    have il : it < s.heap.objs.size := by obtain ⟨o, ho, _⟩ := hit.ob; exact Heap.lt_size ho
    have lt : i < its.toArray.size := by simpa using (List.getElem?_eq_some_iff.mp hu).1
    refine wpAny_pyNext_enum_itemD (drawsB (A := X.A.in1) (I.ok.hd hc) t it a n2 its.toArray) he ⟨hit, p⟩ lt n1 (by simp [n1, n3]) fun y h1 tk hy ho st1 hT sz hk => ?_
    have ey : y = u := by
      have hu' : its.toArray[i]? = some u := by simpa using hu
      have hy : its.toArray[i]? = some y := hy
      rw [hu'] at hy
      exact (Option.some.inj hy).symm
    subst ey
    refine ⟨_, rfl, wpAny_letOwnedTupleGo_enum (s := { s with heap := h1, toks := tk + 1 }) ho fun h2 he2 sb => ?_⟩
    have hT2 : h2.get? s.heap.objs.size = some { cls := .type "tuple", data := .seq #[.int i tk, y] } := (sb.2 _ (Nat.ne_of_gt el)).trans hT
    have ob : ObjOk X.prog X.w (upd H s.heap.objs.size (.tup [.int (i : Nat), x])) h2 s.heap.objs.size (.tup [.int (i : Nat), x]) :=
      ⟨(by decide : 2 ≤ sizeLine), [.int i tk, y], .cons ⟨_, rfl⟩ (.cons ru .nil), ⟨_, hT2, rfl, _, rfl⟩⟩
    have I2 : Inv X pins σ (upd H s.heap.objs.size (.tup [.int (i : Nat), x])) { s with heap := h2, toks := tk + 1 } := by
      refine I.turnedNew (ch := [e, it]) (fun b o hb q => ?_) hf (Nat.le_refl _) ob
      have b1 : b ≠ e := fun z => hb (by simp [z])
      have b2 : b ≠ it := fun z => hb (by simp [z])
      exact (sb.2 b b1).trans (hk b o b1 b2 q)
    refine ⟨.ref s.heap.objs.size, _, I2, rfl, ⟨_, x, rfl, I.hok.fresh (Nat.le_refl _), rfl, fun ys hy => by rw [seq_inj I hy hq]; exact hx⟩, ⟨⟨y, ?_⟩, st1.1.to fun o q => (sb.2 it n1.symm).trans q, n1, n2, n3⟩, fun b hb => ?_⟩
    · rw [show ((i + 1 : Nat) : Int) = (i : Int) + 1 by omega]; exact he2
    · have lb : b < s.heap.objs.size := by
        rcases List.mem_cons.mp hb with z | z
        · rw [z]; exact el
        · rw [List.mem_singleton.mp z]; exact il
      rw [upd_ne (Nat.ne_of_lt lb)]
      exact (hf b hb).1
  done := by
    intro X hP hw hK hc i pins s σ H E I hf ⟨⟨old, he⟩, hit, n1, n2, n3⟩ ⟨xs, hq, hl⟩
    subst hP hw hK
    obtain ⟨its, rv, p, _⟩ := seq_its I hq
    have en : i = its.toArray.size := by rw [List.size_toArray, ← rv.length]; exact hl.symm
    subst en
    obtain ⟨f0, f1, f2, f3, f4, f5⟩ := hf it (by simp)
    exact wpAny_pyNext_enum_endD (drawsB (A := X.A.in1) (I.ok.hd hc) t it a n2 its.toArray) he ⟨hit, p⟩ fun h1 eb => ⟨rfl, I.turned (t' := s.toks) (fun b o hb q => eb b o hb q) f0 f1 f3 f4 f5⟩
  self := fun A i s Q E ⟨⟨_, he⟩, _⟩ h => wpAny_pyIter_enum he h
def ItZp (K : PySem.W.Frag) (t u : Bool) (a b : Addr) : It where
  go := fun i H => ∃ (xs ys : List V) (x y : V), SqB K H t a xs ∧ SqB K H u b ys ∧ xs[i]? = some x ∧ ys[i]? = some y
  yld := fun i H v H' => ∃ T x y, v = .ref T ∧ H T = none ∧ H' = upd H T (.tup [x, y]) ∧ (∀ xs, SqB K H t a xs → xs[i]? = some x) ∧ ∀ ys, SqB K H u b ys → ys[i]? = some y
  stop := fun i H => ∃ xs ys : List V, SqB K H t a xs ∧ SqB K H u b ys ∧ i ≤ xs.length ∧ i ≤ ys.length ∧ (i = xs.length ∨ i = ys.length)
theorem turn_zp {P : Program} {w : World} {K : PySem.W.Frag} {elts : List Expr} {kk : Nat} {tpos : Pos} {t u : Bool} {a b z TI TO i1 i2 : Addr} (S : ZipSep2 z TI TO i1 i2 [i1, a] [i2, b]) (na : a ≠ i1) (nb : b ≠ i2) :
    Turn P w K (.Tuple elts kk tpos) (ItZp K t u a b) [z, TI, TO, i1, i2] z (fun i h => IsZip h z TI TO .none ∧ IsTupOf2 h TI (.ref i1) (.ref i2) ∧ (∃ x y, IsTupOf2 h TO x y) ∧ iterAt h t i1 a i ∧ iterAt h u i2 b i) where
  mem := List.mem_cons_self
  obj := fun i h ⟨hz, hI, ⟨x, y, hO⟩, h1, h2⟩ c hc => by
    have e : c = z ∨ c = TI ∨ c = TO ∨ c = i1 ∨ c = i2 := by simpa using hc
    rcases e with q | q | q | q | q
    · subst q; exact ⟨_, hz, fun v q => nomatch q⟩
    · subst q; exact ⟨_, hI, fun v q => nomatch q⟩
    · subst q; exact ⟨_, hO, fun v q => nomatch q⟩
    · subst q; exact h1.ob
    · subst q; exact h2.ob
  keep := fun i h h' ⟨hz, hI, ⟨x, y, hO⟩, h1, h2⟩ k => ⟨k z (by simp) _ hz, k TI (by simp) _ hI, ⟨x, y, k TO (by simp) _ hO⟩, h1.to fun o q => k i1 (by simp) o q, h2.to fun o q => k i2 (by simp) o q⟩
  item := by
    intro X hP hw hK hc i pins s σ H E I hf ⟨hz, hI, ⟨x0, y0, hO⟩, h1, h2⟩ ⟨xs, ys, x, y, qx, qy, hx, hy⟩
    subst hP hw hK
    obtain ⟨its, rv, p, _⟩ := seq_its I qx
    obtain ⟨jts, rw', p', _⟩ := seq_its I qy
    obtain ⟨u1, hu1, ru1⟩ := rv.get hx
    obtain ⟨u2, hu2, ru2⟩ := rw'.get hy
    have zl : z < s.heap.objs.size := Heap.lt_size hz
    have l1 : i < its.toArray.size := by simpa using (List.getElem?_eq_some_iff.mp hu1).1
    have l2 : i < jts.toArray.size := by simpa using (List.getElem?_eq_some_iff.mp hu2).1
    refine wpAny_pyNext_zipD2_item S (drawsB (A := X.A.in1) (I.ok.hd hc) t i1 a na its.toArray) (drawsB (A := X.A.in1) (I.ok.hd hc) u i2 b nb jts.toArray) hz hI hO ⟨h1, p⟩ ⟨h2, p'⟩ l1 l2 fun y1 y2 g1 tk e1 e2 gz gO s1 s2 gT sz hk => ?_
    have r1 : y1 = u1 := by
      have q1 : its.toArray[i]? = some u1 := by simpa using hu1
      have e1 : its.toArray[i]? = some y1 := e1
      rw [q1] at e1
      exact (Option.some.inj e1).symm
    have r2 : y2 = u2 := by
      have q1 : jts.toArray[i]? = some u2 := by simpa using hu2
      have e2 : jts.toArray[i]? = some y2 := e2
      rw [q1] at e2
      exact (Option.some.inj e2).symm
    subst r1 r2
    refine ⟨_, rfl, wpAny_letOwnedTupleGo_zip (s := { s with heap := g1, toks := tk }) gz fun g2 gz2 sb => ?_⟩
    have hT2 : g2.get? s.heap.objs.size = some { cls := .type "tuple", data := .seq #[y1, y2] } := (sb.2 _ (Nat.ne_of_gt zl)).trans gT
    have ob : ObjOk X.prog X.w (upd H s.heap.objs.size (.tup [x, y])) g2 s.heap.objs.size (.tup [x, y]) :=
      ⟨(by decide : 2 ≤ sizeLine), [y1, y2], .cons ru1 (.cons ru2 .nil), ⟨_, hT2, rfl, _, rfl⟩⟩
    have I2 : Inv X pins σ (upd H s.heap.objs.size (.tup [x, y])) { s with heap := g2, toks := tk } := by
      refine I.turnedNew (ch := [z, TI, TO, i1, i2]) (fun c o hb q => ?_) hf (Nat.le_refl _) ob
      have b1 : c ≠ z := fun w => hb (by simp [w])
      exact (sb.2 c b1).trans (hk c o b1 (fun w => hb (by simp [w])) (fun w => hb (by simp [w])) (fun w => hb (by simp [w])) q)
    refine ⟨.ref s.heap.objs.size, _, I2, rfl, ⟨_, x, y, rfl, I.hok.fresh (Nat.le_refl _), rfl, fun l hl => by rw [seq_inj I hl qx]; exact hx, fun l hl => by rw [seq_inj I hl qy]; exact hy⟩, ⟨gz2, ?_, ⟨y1, y2, ?_⟩, ?_, ?_⟩, fun c hcm => ?_⟩
    · exact (sb.2 _ S.TIz).trans (hk _ _ S.TIz S.TITO S.TIi1 S.TIi2 hI)
    · exact (sb.2 _ S.TOz).trans gO
    · exact s1.1.to fun o q => (sb.2 _ S.zi1.symm).trans q
    · exact s2.1.to fun o q => (sb.2 _ S.zi2.symm).trans q
    · have lc : c < s.heap.objs.size := by
        have e : c = z ∨ c = TI ∨ c = TO ∨ c = i1 ∨ c = i2 := by simpa using hcm
        rcases e with q | q | q | q | q
        · rw [q]; exact zl
        · rw [q]; exact Heap.lt_size hI
        · rw [q]; exact Heap.lt_size hO
        · rw [q]; obtain ⟨_, w, _⟩ := h1.ob; exact Heap.lt_size w
        · rw [q]; obtain ⟨_, w, _⟩ := h2.ob; exact Heap.lt_size w
      rw [upd_ne (Nat.ne_of_lt lc)]
      exact (hf c hcm).1
  done := by
    intro X hP hw hK hc i pins s σ H E I hf ⟨hz, hI, ⟨x0, y0, hO⟩, h1, h2⟩ ⟨xs, ys, qx, qy, le1, le2, en⟩
    subst hP hw hK
    obtain ⟨its, rv, p, _⟩ := seq_its I qx
    obtain ⟨jts, rw', p', _⟩ := seq_its I qy
    have n1 := rv.length
    have n2 := rw'.length
    exact wpAny_pyNext_zipD2_end S (drawsB (A := X.A.in1) (I.ok.hd hc) t i1 a na its.toArray) (drawsB (A := X.A.in1) (I.ok.hd hc) u i2 b nb jts.toArray) hz hI hO ⟨h1, p⟩ ⟨h2, p'⟩ (by simp; omega) (by simp; omega) (by simp; omega) fun g1 tk hk => ⟨rfl, I.turnedL (t' := tk) (ch := [z, TI, TO, i1, i2])
      (fun c o hb q => hk c o (fun w => hb (by simp [w])) (fun w => hb (by simp [w])) (fun w => hb (by simp [w])) (fun w => hb (by simp [w])) q) hf⟩
  self := fun A i s Q E st h => wpAny_pyIter_zip st.1 h
end L3
namespace L3
open PySem PySem.Spec PyProof.Rows L2
set_option maxHeartbeats 2000000 in
theorem meets_en1 {v : Value} {o : Obj} {H : Heap → Prop} (B : Begins v o H) : Meets (Builtin.«enumerate.__new__» ⟨[.type "enumerate", v], []⟩) (fun _ R s => H s.heap ∧
    R (.ok (.ret (.ref (s.heap.push o).objs.size))) { s with heap := (s.heap.push o).push { cls := .type "enumerate", data := .fields #[.none, .bool false, .ref s.heap.objs.size, rawInt 0, .none, .none] } }) :=
  .of_wp fun prog w A R s hh => by
    obtain ⟨hp, gs, dr, tk, os⟩ := s
    obtain ⟨h1, hr⟩ := hh
    have hsub := sub_enumerate
    have go : ∀ {A' : Around} {E Q : Value → Shared → Prop}, Q (.ref hp.objs.size) ⟨hp.push o, gs, dr, tk, os⟩ → wpAny (model prog w) A' (pyIter v) Q E ⟨hp, gs, dr, tk, os⟩ := fun q => B.iter prog w _ _ ⟨hp, gs, dr, tk, os⟩ _ h1 q
    wp_walk using go
    refine wpAny_stack_any fun st => wpAny_pure ?_
    split
    · rename_i c _ _ _ _ _
      cases c == Value.type "enumerate" <;> (wp_walk using go) <;> exact ⟨_, rfl, hr⟩
    · (wp_walk using go)
      exact ⟨_, rfl, hr⟩
theorem call_en1 {prog : Program} {w : World} {A : Around} {E : Value → Shared → Prop} {s : Shared} {v : Value} {o : Obj} {H : Heap → Prop} {Q : Value → Shared → Prop} (B : Begins v o H) (h1 : H s.heap)
    (h : ∀ h', IsEnum h' (s.heap.objs.size + 1) s.heap.objs.size 0 .none → h'.get? s.heap.objs.size = some o → (∀ b o, s.heap.get? b = some o → h'.get? b = some o) → Q (.ref (s.heap.objs.size + 1)) { s with heap := h' }) :
    wpAny (model prog w) A (call (.type "enumerate") [v]) Q E s := by
  refine callType_new F.called_enumerate (by decide) (F.typeCall_enumerate_1 _) (F.newCall_enumerate_1 _) (fun obj => F.args_object_init_2 obj _) F.entry_enumerate_new (meets_en1 B) ⟨h1, ?_⟩
  have z1 : (s.heap.push o).objs.size = s.heap.objs.size + 1 := Heap.size_push ..
  show _ ∧ _
  rw [z1]
  have he : IsEnum ((s.heap.push o).push { cls := .type "enumerate", data := .fields #[.none, .bool false, .ref s.heap.objs.size, rawInt 0, .none, .none] }) (s.heap.objs.size + 1) s.heap.objs.size 0 .none := by
    have q := Heap.get?_push_size (s.heap.push o) (o := { cls := .type "enumerate", data := .fields #[.none, .bool false, .ref s.heap.objs.size, rawInt 0, .none, .none] }) rfl
    rw [z1] at q
    exact q
  exact ⟨⟨_, he, rfl⟩, h _ he (Heap.get?_push_of_some _ (Heap.get?_push_size _ B.free)) fun b o x => Heap.get?_push_of_some _ (Heap.get?_push_of_some _ x)⟩
def iEn (K : PySem.W.Frag) (ta : TA) : TI := fun σ H R => ta σ H fun vs H1 => ∃ t a xs, vs = [.ref a] ∧ SqB K H1 t a xs ∧ R (ItEn K t a) H1
theorem pi_en {X : Cx} {e : Expr} {ta : TA} {p pos tpos : Pos} {elts : List Expr} {kk : Nat} (hg : Gl X "enumerate") (hm : X.mg "enumerate" = none) (ha : PA X [e] ta) (hs : starEach [e] X.env = [(false, eval e X.env)]) :
    PI X (.Tuple elts kk tpos) (.Call (.Name "enumerate" p) [e] [] pos) (iEn X.K ta) := by
  refine ⟨fun pins s σ H R I h => Call_ (ld_blt I hg hm boot_enumerate (PyProof.Rows.callWith_type1 (thn (ha.run pos pins s σ H _ I h) fun us s1 ⟨vs, H1, I1, r1, t, a, xs, ex, hq, q⟩ => ?_) hs rfl))⟩
  subst ex
  rw [Vals.ref1 r1]
  obtain ⟨its, rv, p', la⟩ := seq_its I1 hq
  refine call_en1 (beginsB t a its.toArray) p' fun h' he hit hk => wpAny_pyIter_enum he ?_
  have I2 : Inv X pins σ H1 { s1 with heap := h' } := I1.kept (t' := s1.toks) hk
  refine ⟨s1.heap.objs.size + 1, [s1.heap.objs.size + 1, s1.heap.objs.size], _, _, H1, rfl, I2, turn_en t a (s1.heap.objs.size + 1) s1.heap.objs.size, ⟨⟨.none, he⟩, iterOb_at hit, Nat.succ_ne_self _, Nat.ne_of_lt la, (Nat.ne_of_lt (Nat.lt_succ_of_lt la)).symm⟩, fun b hb => ?_, q⟩
  have le : s1.heap.objs.size ≤ b := by
    rcases List.mem_cons.mp hb with z | z
    · rw [z]; exact Nat.le_succ _
    · rw [List.mem_singleton.mp z]; exact Nat.le_refl _
  exact I1.fpOk le (I1.hok.fresh le)
def iZp (K : PySem.W.Frag) (ta : TA) : TI := fun σ H R => ta σ H fun vs H1 => ∃ t u a b xs ys, vs = [.ref a, .ref b] ∧ SqB K H1 t a xs ∧ SqB K H1 u b ys ∧ R (ItZp K t u a b) H1
theorem pi_zp {X : Cx} {e e2 : Expr} {ta : TA} {p pos tpos : Pos} {elts : List Expr} {kk : Nat} (hg : Gl X "zip") (hm : X.mg "zip" = none) (ha : PA X [e, e2] ta)
    (hs : starEach [e, e2] X.env = (false, eval e X.env) :: starEach [e2] X.env) (hpl : (backTo pos (starEach [e2] X.env)).any (·.1) = false) : PI X (.Tuple elts kk tpos) (.Call (.Name "zip" p) [e, e2] [] pos) (iZp X.K ta) := by
  refine ⟨fun pins s σ H R I h => Call_ (ld_blt I hg hm PyProof.Rows.boot_zip (PyProof.Rows.callWith_type1 (thn (ha.run pos pins s σ H _ I h) fun us s1 ⟨vs, H1, I1, r1, t, u, a, b, xs, ys, ex, hq, hq', q⟩ => ?_) hs hpl))⟩
  subst ex
  obtain ⟨u1, u2, rfl, r1, r2⟩ := vals2 r1
  cases r1
  cases r2
  obtain ⟨its, rv, p1, la⟩ := seq_its I1 hq
  obtain ⟨jts, rv', p2, lb⟩ := seq_its I1 hq'
  refine zip_begins2 (beginsB t a its.toArray) (beginsB u b jts.toArray) p1 p2 fun h' hz hI hO e1 e2 _ hk => wpAny_pyIter_zip hz ?_
  have I2 : Inv X pins σ H1 { s1 with heap := h' } := I1.kept (t' := s1.toks) hk
  refine ⟨s1.heap.objs.size + 4, [s1.heap.objs.size + 4, s1.heap.objs.size + 2, s1.heap.objs.size + 3, s1.heap.objs.size, s1.heap.objs.size + 1], _, _, H1, rfl, I2,
    turn_zp (zip_sep2 (fp1 := [a]) (fp2 := [b]) (fun c hc => by rw [List.mem_singleton.mp hc]; exact la) fun c hc => by rw [List.mem_singleton.mp hc]; exact lb) (Nat.ne_of_lt la) (Nat.ne_of_lt (Nat.lt_succ_of_lt lb)), ⟨hz, hI, ⟨_, _, hO⟩, iterOb_at e1, iterOb_at e2⟩, fun c hc => ?_, q⟩
  have le : s1.heap.objs.size ≤ c := by
    simp only [List.mem_cons, List.not_mem_nil, or_false] at hc
    rcases hc with z | z | z | z | z <;> (rw [z]; first | exact Nat.le_add_right _ _ | exact Nat.le_refl _)
  exact I1.fpOk le (I1.hok.fresh le)
def enumD : Nat → List D → List D
  | _, [] => []
  | i, d :: ds => .tup [.int (i : Int), d] :: enumD (i + 1) ds
theorem enumD_len : ∀ (i : Nat) (ds : List D), (enumD i ds).length = ds.length
  | _, [] => rfl
  | i, d :: ds => congrArg Nat.succ (enumD_len (i + 1) ds)
theorem enumD_get : ∀ (i : Nat) (ds : List D) (k : Nat), (enumD i ds)[k]? = (ds[k]?).map fun d => .tup [.int ((i + k : Nat) : Int), d]
  | _, [], k => by simp [enumD]
  | i, d :: ds, 0 => by simp [enumD]
  | i, d :: ds, k + 1 => by
    show (enumD (i + 1) ds)[k]? = _
    rw [enumD_get (i + 1) ds k, List.getElem?_cons_succ, show i + 1 + k = i + (k + 1) by omega]
def zipD (ds es : List D) : List D := List.zipWith (fun a b => .tup [a, b]) ds es
theorem zipD_get (ds es : List D) (k : Nat) (d : D) (h : (zipD ds es)[k]? = some d) : ∃ a b, ds[k]? = some a ∧ es[k]? = some b ∧ d = .tup [a, b] := by
  unfold zipD at h
  rw [List.getElem?_zipWith] at h
  split at h
  · rename_i a b ha hb
    exact ⟨a, b, ha, hb, (Option.some.inj h).symm⟩
  · cases h
def wEnum (w : WA) : WI := fun δ R => w δ fun rs δ1 => keeps rs ∧ ∃ d ds, rs.map RD.d = [d] ∧ asS d = some ds ∧ R (enumD 0 ds) δ1
def wZip (w : WA) : WI := fun δ R => w δ fun rs δ1 => keeps rs ∧ ∃ d e ds es, rs.map RD.d = [d, e] ∧ asS d = some ds ∧ asS e = some es ∧ R (zipD ds es) δ1
section
variable {X : Cx} {G : Gx} {K : PySem.W.Frag} {E : Ent}
/-- what a data list stands for -/
theorem rep_seq {H : Hp} {M : List Addr} {v : V} {d : D} {ds : List D} (r : Rep K G (mask M H) v d) (e : asS d = some ds) : ∃ t a xs, v = .ref a ∧ SqB K H t a xs ∧ RepAll K G (mask M H) xs ds := by
  cases d <;> first | (cases e; done) | skip
  · cases e
    obtain ⟨a, xs, rfl, h, rr⟩ := r
    exact ⟨false, a, xs, rfl, SqL.of (mask_le _ _ h), rr⟩
  · cases e
    obtain ⟨a, xs, rfl, h, rr⟩ := r
    exact ⟨true, a, xs, rfl, same_t mask_le h, rr⟩
theorem seq_rep {H H' : Hp} {M : List Addr} {a : Addr} {t : Bool} {d : D} {ds : List D} {xs0 : List V} (h0 : Rep K G (mask M H) (.ref a) d) (e : asS d = some ds) (q0 : SqB K H t a xs0) (h : Rep K G (mask M H') (.ref a) d) (sm : ∀ o, H a = some o → H' a = some o) : True := trivial
/-- the kind of a data list -/
def kindD : D → Bool
  | .tup _ => true
  | _ => false
theorem rep_seqK {H : Hp} {M : List Addr} {a : Addr} {d : D} {ds : List D} (r : Rep K G (mask M H) (.ref a) d) (e : asS d = some ds) : ∃ xs, SqB K H (kindD d) a xs ∧ RepAll K G (mask M H) xs ds := by
  cases d <;> first | (cases e; done) | skip
  · cases e
    obtain ⟨a, xs, ea, h, rr⟩ := r
    cases ea
    exact ⟨xs, SqL.of (mask_le _ _ h), rr⟩
  · cases e
    obtain ⟨a, xs, ea, h, rr⟩ := r
    cases ea
    exact ⟨xs, same_t mask_le h, rr⟩
theorem rep_ref {H : Hp} {v : V} {d : D} {ds : List D} (r : Rep K G H v d) (e : asS d = some ds) : ∃ a, v = .ref a := by
  cases d <;> first | (cases e; done) | skip
  · obtain ⟨a, xs, rfl, _⟩ := r; exact ⟨a, rfl⟩
  · obtain ⟨a, xs, rfl, _⟩ := r; exact ⟨a, rfl⟩
theorem new_pair {M : List Addr} {H : Hp} {T : Addr} {x y : V} {d e : D} (al : ∀ a ∈ M, H a ≠ none) (hT : H T = none) (r1 : Rep K G (mask M H) x d) (r2 : Rep K G (mask M H) y e) : Same H (upd H T (.tup [x, y])) ∧ Rep K G (mask M (upd H T (.tup [x, y]))) (.ref T) (.tup [d, e]) := by
  have sm := same_new (o := .tup [x, y]) hT
  have m := mask_mono (M := M) sm
  refine ⟨sm, T, [x, y], rfl, SqT.of ?_, ⟨x, _, rfl, r1.mono m, ⟨y, _, rfl, r2.mono m, rfl⟩⟩⟩
  rw [mask_out fun z => al T z hT, upd_same]
theorem iterEn {a : Addr} {d : D} {ds : List D} (e : asS d = some ds) : IterOk K G [(.ref a, d)] (ItEn K (kindD d) a) (enumD 0 ds) := fun E am M σ δ H S hg => by
  obtain ⟨xs, hs, r⟩ := rep_seqK (S.gh _ (hg (.ref a, d) (by simp))) e
  refine ⟨fun i hi => ⟨xs, hs, by rw [r.length, ← enumD_len 0]; exact hi⟩, fun i y hy => ?_⟩
  rw [enumD_get] at hy
  obtain ⟨z, hz, rfl⟩ := Option.map_eq_some_iff.mp hy
  obtain ⟨x, hx, rx⟩ := r.get hz
  refine ⟨⟨xs, x, hs, hx⟩, fun v H' ⟨T, x', ev, hT, eH, hx'⟩ => ?_⟩
  have : x' = x := by have := hx' xs hs; rw [hx] at this; exact (Option.some.inj this).symm
  subst this ev eH
  rw [Nat.zero_add]
  exact new_pair S.al hT rfl rx
theorem iterZp {a b : Addr} {d e : D} {ds es : List D} (h1 : asS d = some ds) (h2 : asS e = some es) : IterOk K G [(.ref a, d), (.ref b, e)] (ItZp K (kindD d) (kindD e) a b) (zipD ds es) := fun E am M σ δ H S hg => by
  obtain ⟨xs, hs, r⟩ := rep_seqK (S.gh _ (hg (.ref a, d) (by simp))) h1
  obtain ⟨ys, hs', r'⟩ := rep_seqK (S.gh _ (hg (.ref b, e) (by simp))) h2
  have l1 := r.length
  have l2 := r'.length
  have lz : (zipD ds es).length = min ds.length es.length := by unfold zipD; rw [List.length_zipWith]
  refine ⟨fun i hi => ⟨xs, ys, hs, hs', by omega, by omega, by omega⟩, fun i y hy => ?_⟩
  obtain ⟨p, q, hp, hq, rfl⟩ := zipD_get ds es i y hy
  obtain ⟨x, hx, rx⟩ := r.get hp
  obtain ⟨z, hz, rz⟩ := r'.get hq
  refine ⟨⟨xs, ys, x, z, hs, hs', hx, hz⟩, fun v H' ⟨T, x', z', ev, hT, eH, hx', hz'⟩ => ?_⟩
  have e1 : x' = x := by have := hx' xs hs; rw [hx] at this; exact (Option.some.inj this).symm
  have e2 : z' = z := by have := hz' ys hs'; rw [hz] at this; exact (Option.some.inj this).symm
  subst e1 e2 ev eH
  exact new_pair S.al hT rx rz
variable {ta : TA} {wa : WA} {es : List Expr}
theorem sim_en (h : SimA K G E ta wa) : SimI K G E (iEn K ta) (wEnum wa) := fun am M σ δ H S Rd q R k =>
  h am M σ δ H S _ q _ fun vs rs δ1 H1 S1 e1 o1 rv ⟨hk, d, ds, hd, hs, hR⟩ => by
    have rr := rv.rep hk
    rw [hd] at rr
    obtain ⟨v, xs, rfl, r1, r2⟩ := rr
    have r2 : xs = [] := r2
    subst r2
    obtain ⟨a, rfl⟩ := rep_ref r1 hs
    obtain ⟨xs, hq, _⟩ := rep_seqK r1 hs
    refine ⟨kindD d, a, xs, rfl, hq, k _ _ [(.ref a, d)] δ1 H1 (S1.addgh _ fun p hp => ?_) e1 o1 (iterEn hs) hR⟩
    have : p = (V.ref a, d) := by simpa using hp
    subst this
    exact r1
theorem sim_zp (h : SimA K G E ta wa) : SimI K G E (iZp K ta) (wZip wa) := fun am M σ δ H S Rd q R k =>
  h am M σ δ H S _ q _ fun vs rs δ1 H1 S1 e1 o1 rv ⟨hk, d, e, ds, es, hd, hs, hs', hR⟩ => by
    have rr := rv.rep hk
    rw [hd] at rr
    obtain ⟨v, xs, rfl, r1, u, ys, rfl, r2, r3⟩ := rr
    have r3 : ys = [] := r3
    subst r3
    obtain ⟨a, rfl⟩ := rep_ref r1 hs
    obtain ⟨b, rfl⟩ := rep_ref r2 hs'
    obtain ⟨xs, hq, _⟩ := rep_seqK r1 hs
    obtain ⟨ys, hq', _⟩ := rep_seqK r2 hs'
    refine ⟨kindD d, kindD e, a, b, xs, ys, rfl, hq, hq', k _ _ [(.ref a, d), (.ref b, e)] δ1 H1 (S1.addgh _ fun p hp => ?_) e1 o1 (iterZp hs hs') hR⟩
    simp only [List.mem_cons, List.not_mem_nil, or_false] at hp
    rcases hp with z | z
    · rw [z]; exact r1
    · rw [z]; exact r2
theorem di_en (K : PySem.W.Frag) {a : Expr} {p pos tpos : Pos} {elts : List Expr} {kk : Nat} (hg : Gl X "enumerate") (hm : X.mg "enumerate" = none) (ha : DA X G [a] ta wa) (hs : starEach [a] X.env = [(false, eval a X.env)] := by rfl) (hK : X.K = K := by rfl) :
    DI X G (.Tuple elts kk tpos) (.Call (.Name "enumerate" p) [a] [] pos) (iEn K ta) (wEnum wa) := by
  subst hK
  exact ⟨pi_en hg hm ha.pa hs, fun E => sim_en (ha.sim E)⟩
theorem di_zp (K : PySem.W.Frag) {a b : Expr} {p pos tpos : Pos} {elts : List Expr} {kk : Nat} (hg : Gl X "zip") (hm : X.mg "zip" = none) (ha : DA X G [a, b] ta wa)
    (hs : starEach [a, b] X.env = (false, eval a X.env) :: starEach [b] X.env := by rfl) (hpl : (backTo pos (starEach [b] X.env)).any (·.1) = false := by rfl) (hK : X.K = K := by rfl) :
    DI X G (.Tuple elts kk tpos) (.Call (.Name "zip" p) [a, b] [] pos) (iZp K ta) (wZip wa) := by
  subst hK
  exact ⟨pi_zp hg hm ha.pa hs hpl, fun E => sim_zp (ha.sim E)⟩
end
def isSeq : D → (List D → Prop) → Prop
  | .lst ds, Q => Q ds
  | .tup ds, Q => Q ds
  | _, _ => False
@[simp] theorem isSeq_0 (ds : List D) (Q : List D → Prop) : isSeq (.lst ds) Q = Q ds := rfl
@[simp] theorem isSeq_1 (ds : List D) (Q : List D → Prop) : isSeq (.tup ds) Q = Q ds := rfl
theorem isSeq_eq (d : D) (Q : List D → Prop) : (∃ ds, asS d = some ds ∧ Q ds) = isSeq d Q := by
  cases d <;> simp [isSeq, asS]
def one1 : List RD → (D → Prop) → Prop
  | [a], Q => Q a.d
  | _, _ => False
def two2 : List RD → (D → D → Prop) → Prop
  | [a, b], Q => Q a.d b.d
  | _, _ => False
@[simp] theorem one1_0 (a : RD) (Q : D → Prop) : one1 [a] Q = Q a.d := rfl
@[simp] theorem two2_0 (a b : RD) (Q : D → D → Prop) : two2 [a, b] Q = Q a.d b.d := rfl
theorem one1_eq (rs : List RD) (Q : D → Prop) : (∃ d, rs.map RD.d = [d] ∧ Q d) = one1 rs Q := by
  match rs with
  | [] => simp [one1]
  | [a] => simp
  | a :: b :: r => simp [one1]
theorem two2_eq (rs : List RD) (Q : D → D → Prop) : (∃ d e, rs.map RD.d = [d, e] ∧ Q d e) = two2 rs Q := by
  match rs with
  | [] => simp [two2]
  | [a] => simp [two2]
  | [a, b] =>
    refine propext ⟨fun ⟨d, e, h, q⟩ => ?_, fun q => ⟨a.d, b.d, rfl, q⟩⟩
    have h : [a.d, b.d] = [d, e] := h
    cases h
    exact q
  | a :: b :: c :: r => simp [two2]
@[simp] theorem wEnum_eq (w : WA) (δ : St3) (R : List D → St3 → Prop) : wEnum w δ R = w δ fun rs δ1 => keeps rs ∧ one1 rs fun d => isSeq d fun ds => R (enumD 0 ds) δ1 := by
  unfold wEnum
  simp only [← isSeq_eq, ← one1_eq, exists_and_left]
@[simp] theorem wZip_eq (w : WA) (δ : St3) (R : List D → St3 → Prop) : wZip w δ R = w δ fun rs δ1 => keeps rs ∧ two2 rs fun d e => isSeq d fun ds => isSeq e fun es => R (zipD ds es) δ1 := by
  unfold wZip
  simp only [← isSeq_eq, ← two2_eq, exists_and_left]
end L3
namespace L3
open PySem PySem.Spec PyProof.Rows L2
abbrev WO := St3 → (Option Int → St3 → Prop) → Prop
@[simp] def wNoP : WO := fun δ Q => Q none δ
def isI : D → (Int → Prop) → Prop
  | .int i, Q => Q i
  | _, _ => False
@[simp] theorem isI_0 (i : Int) (Q : Int → Prop) : isI (.int i) Q = Q i := rfl
@[simp] def wP (w : WE) : WO := fun δ Q => w δ fun r δ1 => isI r.d fun i => Q (some i) δ1
def cutD (ds : List D) (lo hi : Option Int) : List D := (ds.drop (HT.sIx ds.length 0 lo)).take (HT.sIx ds.length ds.length hi - HT.sIx ds.length 0 lo)
def fSl (lo hi : Option Int) : F1
  | .lst ds, Q => Q (.fr (.lst (cutD ds lo hi)))
  | .tup ds, Q => Q (.sh (.tup (cutD ds lo hi)))
  | .str z, Q => z.length ≤ 16777216 ∧ Q (.sh (.str (cutS z lo hi)))
  | _, _ => False
@[simp] theorem fSl_0 (lo hi : Option Int) (ds : List D) (Q : RD → Prop) : fSl lo hi (.lst ds) Q = Q (.fr (.lst (cutD ds lo hi))) := rfl
@[simp] theorem fSl_1 (lo hi : Option Int) (ds : List D) (Q : RD → Prop) : fSl lo hi (.tup ds) Q = Q (.sh (.tup (cutD ds lo hi))) := rfl
@[simp] theorem fSl_2 (lo hi : Option Int) (z : Str) (Q : RD → Prop) : fSl lo hi (.str z) Q = (z.length ≤ 16777216 ∧ Q (.sh (.str (cutS z lo hi)))) := rfl
@[simp] def wSl (w : WE) (l h : WO) : WE := fun δ Q => w δ fun x δ1 => l δ1 fun lo δ2 => h δ2 fun hi δ3 => (x.bor → δ3.sl = δ1.sl) ∧ fSl lo hi x.d fun q => Q q δ3
def SimO (K : PySem.W.Frag) (G : Gx) (E : Ent) (to : TO) (w : WO) : Prop := ∀ (am : Nat → Addr) (M : List Addr) (σ : L2.St) (δ : St3) (H : Hp), SR K G E am M σ δ H → ∀ Qd : Option Int → St3 → Prop, w δ Qd → ∀ Q : Option Int → Hp → Prop,
  (∀ (o : Option Int) (δ' : St3) (H' : Hp), SR K G E am M σ δ' H' → Ext G am δ H H' → (∀ i, isOwn δ' i → isOwn δ i) → Qd o δ' → Q o H') → to σ H Q
structure DO (X : Cx) (G : Gx) (e : Option Expr) (to : TO) (w : WO) : Prop where
  po : PO X e to
  sim : ∀ E, SimO X.K G E to w
def rSlAll (K : PySem.W.Frag) : V → Option Int → Option Int → Hp → VK → Prop := fun x lo hi H Q => rSlL K x lo hi H Q ∨ (rSlA K x lo hi H Q ∨ rSlS x lo hi H Q)
section
variable {X : Cx} {G : Gx} {K : PySem.W.Frag} {E : Ent} {e : Expr} {te : TE} {we : WE} {lo hi : Option Expr} {tl th : TO} {wl wh : WO} {p2 pos : Pos}
theorem do_none : DO X G none tNoPart wNoP := ⟨po_none, fun _ am M σ δ H S Qd q Q k => k none δ H S .refl (fun _ z => z) q⟩
theorem do_some (h : DE X G e te we) : DO X G (some e) (tPart te) (wP we) := ⟨po_some h.pe, fun E am M σ δ H S Qd q Q k => h.sim E am M σ δ H S _ q _ fun v r δ1 H1 S1 e1 o1 rv q => by
  cases er : r.d <;> rw [er] at q <;> first | exact q.elim | skip
  have := rv.k.rb S1
  rw [er] at this
  exact ⟨_, this.int, k _ δ1 H1 S1 e1 o1 q⟩⟩
theorem RepAll.cut {H : Hp} {xs : List V} {ds : List D} (r : RepAll K G H xs ds) (lo hi : Option Int) : RepAll K G H (cutV xs lo hi) (cutD ds lo hi) := by
  unfold cutV cutD
  rw [r.length]
  exact (r.drop _).take _
theorem uns_sl (lo hi : Option Int) : UnS K G (fun x H Q => rSlAll K x lo hi H Q) (fSl lo hi) := fun M H x d al bx Qd h Q k => by
  cases d <;> first | exact h.elim | skip
  · obtain ⟨h1, h⟩ := h
    exact .inr (.inr ⟨_, bx.str, by rw [line16]; exact h1, k _ _ H (Same.refl _) rn_str h⟩)
  · obtain ⟨a, xs, rfl, ha, r⟩ := bx.lst
    exact .inl ⟨a, xs, rfl, SqL.of ha, fun p hp => k _ _ _ (same_new hp) (rn_lst hp (r.cut lo hi)) h⟩
  · rename_i ds
    have bb := bx
    obtain ⟨a, xs, rfl, ha, r⟩ := bx.tup
    refine .inr (.inl ⟨a, xs, rfl, ha, fun ⟨z1, z2⟩ => ?_, fun _ p hp => k _ _ _ (same_new hp) (rn_tup al hp (r.cut lo hi)) h⟩)
    have e : cutD ds lo hi = ds := by
      unfold cutD
      rw [← r.length, z1, z2, List.drop_zero, Nat.sub_zero, r.length]
      exact List.take_of_length_le (Nat.le_refl _)
    have h : Qd (.sh (.tup (cutD ds lo hi))) := h
    rw [e] at h
    exact k _ _ H (Same.refl _) (rn_sh bb.shT) h
theorem sim_sl (ha : SimE K G E te we) (hl : SimO K G E tl wl) (hh : SimO K G E th wh) : SimE K G E (tSl (rSlAll K) te tl th) (wSl we wl wh) := fun am M σ δ H S Qd q Q k =>
  ha am M σ δ H S _ q _ fun x rx δ1 H1 S1 e1 o1 v1 q => hl am M σ δ1 H1 S1 _ q _ fun lo δ2 H2 S2 e2 o2 q => hh am M σ δ2 H2 S2 _ q _ fun hi δ3 H3 S3 e3 o3 ⟨st, q⟩ => by
    have e23 := e2.trans o2 e3
    have bx := (v1.k.later (δ2 := δ3) S1 e23 st).rb S3
    exact uns_sl lo hi M H3 x _ S3.al bx _ q _ fun v q H4 sm rn hq => k v q δ3 H4 (S3.grow sm) ((e1.trans o1 e23).trans (fun i z => o1 i (o2 i (o3 i z))) (Ext.of (δ := δ3) sm)) (fun i z => o1 i (o2 i (o3 i z))) (rn.rv S3 sm) hq
theorem de_slice (K : PySem.W.Frag) (ha : DE X G e te we) (hl : DO X G lo tl wl) (hh : DO X G hi th wh) (hK : X.K = K := by rfl) : DE X G (.Subscript e (.Slice lo hi none p2) pos) (tSl (rSlAll K) te tl th) (wSl we wl wh) := by
  subst hK
  exact ⟨pe_slice (sl_list.or (sl_tupA.or sl_str)) ha.pe hl.po hh.po, fun E => sim_sl (ha.sim E) (hl.sim E) (hh.sim E)⟩
end
def tyIs : D → String → Option Bool
  | .non, t => some (t == "NoneType")
  | .bl _, t => some (t == "bool" || t == "int")
  | .int _, t => some (t == "int")
  | .str _, t => some (t == "str")
  | .lst _, t => some (t == "list")
  | .tup _, t => some (t == "tuple")
  | .dct _ _, t => some (t == "dict")
  | _, _ => none
def fIsI (t : String) : F1 := fun d Q => ∃ b, tyIs d t = some b ∧ Q (.sh (.bl b))
@[simp] theorem fIsI_bl (t : String) (i : Bool) (Q : RD → Prop) : fIsI t (.bl i) Q = Q (.sh (.bl (t == "bool" || t == "int"))) := by simp [fIsI, tyIs]
@[simp] theorem fIsI_int (t : String) (i : Int) (Q : RD → Prop) : fIsI t (.int i) Q = Q (.sh (.bl (t == "int"))) := by simp [fIsI, tyIs]
@[simp] theorem fIsI_str (t : String) (i : Str) (Q : RD → Prop) : fIsI t (.str i) Q = Q (.sh (.bl (t == "str"))) := by simp [fIsI, tyIs]
@[simp] theorem fIsI_lst (t : String) (i : List D) (Q : RD → Prop) : fIsI t (.lst i) Q = Q (.sh (.bl (t == "list"))) := by simp [fIsI, tyIs]
@[simp] theorem fIsI_tup (t : String) (i : List D) (Q : RD → Prop) : fIsI t (.tup i) Q = Q (.sh (.bl (t == "tuple"))) := by simp [fIsI, tyIs]
@[simp] theorem fIsI_non (t : String) (Q : RD → Prop) : fIsI t .non Q = Q (.sh (.bl (t == "NoneType"))) := by simp [fIsI, tyIs]
/-- the class's answers as the kit tells them -/
def goodT (t : String) : Prop := kitB "NoneType" t = some (t == "NoneType") ∧ kitB "bool" t = some (t == "bool" || t == "int") ∧ kitB "int" t = some (t == "int") ∧ kitB "str" t = some (t == "str") ∧ kitB "list" t = some (t == "list") ∧ kitB "tuple" t = some (t == "tuple") ∧ kitB "dict" t = some (t == "dict")
instance (t : String) : Decidable (goodT t) := inferInstanceAs (Decidable (_ ∧ _))
section
variable {X : Cx} {G : Gx} {K : PySem.W.Frag} {E : Ent} {e : Expr} {te : TE} {we : WE} {pos : Pos}
def tIsI (K : PySem.W.Frag) (t : String) (te : TE) : TE := tCB (rIsi K) (tCons te (tCons (tC (.ty t)) tNil))
theorem sim_isi {t : String} (hT : goodT t) (h : SimE K G E te we) : SimE K G E (tIsI K t te) (wUn (fIsI t) we) := fun am M σ δ H S Qd q Q k =>
  h am M σ δ H S _ q _ fun x r δ1 H1 S1 e1 o1 rv ⟨b, hb, q⟩ => by
    obtain ⟨g1, g2, g3, g4, g5, g6, g7⟩ := hT
    have bx := rv.k.rb S1
    have fin : ∀ a : String, TyX K H1 x (.type a) → kitB a t = some b → tIsI K t te σ H Q → True := fun _ _ _ _ => trivial
    suffices ∃ a : String, TyX K H1 x (.type a) ∧ kitB a t = some b by
      obtain ⟨a, ty, hk⟩ := this
      exact ⟨x, .ty t, .type a, .type t, b, rfl, .ty t, ty, kit_ty hk, k (.bl b) (.sh (.bl b)) δ1 H1 S1 e1 o1 rfl q⟩
    generalize r.d = d at hb bx
    cases d <;> simp only [tyIs] at hb <;> first | (cases hb; done) | skip
    · cases hb; rw [bx.non]; exact ⟨_, .base .non, g1⟩
    · cases hb; rw [bx.bl]; exact ⟨_, .base (.bl _), g2⟩
    · cases hb; rw [bx.int]; exact ⟨_, .base (.int _), g3⟩
    · cases hb; rw [bx.str]; exact ⟨_, .base (.str _), g4⟩
    · cases hb
      obtain ⟨p, xs, rfl, hp, _⟩ := bx.lst
      exact ⟨_, .base (.lst hp), g5⟩
    · cases hb
      obtain ⟨p, xs, rfl, hp, _⟩ := bx.tup
      rcases hp with (hp | ⟨o, hp⟩) | ⟨o, its, n, hk, hc, _⟩
      · exact ⟨_, .base (.tup hp), g6⟩
      · exact ⟨_, .fTuple hp, g6⟩
      · exact ⟨_, .kTuple hk hc, g6⟩
    · cases hb
      obtain ⟨p, xs, rfl, hp, _⟩ := bx.dct
      rcases hp with hp | ⟨o, hp⟩
      · exact ⟨_, .base (.dK hp), g7⟩
      · exact ⟨_, .fDict hp, g7⟩
theorem de_isi (K : PySem.W.Frag) {t : String} {xt : Str} {p pt : Pos} (hT : goodT t) (h : DE X G e te we) (hm : X.mg "isinstance" = none) (hmt : X.mg xt = none) (hvt : bootBuiltins xt = some (.type t)) (gl : Gl X "isinstance" := by rfl) (glt : Gl X xt := by rfl)
    (hv : bootBuiltins "isinstance" = some (.builtin "isinstance") := by decide +kernel) (hnt : xt ≠ "__name__" := by decide) (hdt : (xt == ("__debug__" : Str)) = false := by decide)
    (hs : starEach [e, .Name xt pt] X.env = (false, eval e X.env) :: starEach [.Name xt pt] X.env := by rfl) (hs2 : starEach [.Name xt pt] X.env = (false, eval (.Name xt pt) X.env) :: starEach [] X.env := by rfl)
    (hpl : (backTo pos (starEach [.Name xt pt] X.env)).any (·.1) = false := by rfl) (hK : X.K = K := by rfl) :
    DE X G (.Call (.Name "isinstance" p) [e, .Name xt pt] [] pos) (tIsI K t te) (wUn (fIsI t) we) := by
  subst hK
  exact ⟨pe_callB call_isi gl hm hv (pa_cons h.pe (pa_cons (pe_bltn glt hmt hvt rfl hnt hdt) pa_nil hs2) hs) (by decide) (by decide) hs hpl, fun E => sim_isi hT (h.sim E)⟩
end
def fSum : FC := fun ds Q => ∃ ns : List Int, ds = [.lst (ns.map D.int)] ∧ Q (.sh (.int ns.sum))
def fMax : FC := fun ds Q => ∃ ns : List Int, ds = [.lst (ns.map D.int)] ∧ ns ≠ [] ∧ ∀ m, m ∈ ns → (∀ y ∈ ns, y ≤ m) → Q (.sh (.int m))
def fMin : FC := fun ds Q => ∃ ns : List Int, ds = [.lst (ns.map D.int)] ∧ ns ≠ [] ∧ ∀ m, m ∈ ns → (∀ y ∈ ns, m ≤ y) → Q (.sh (.int m))
def fSorted : FC := fun ds Q => ∃ ns : List Int, ds = [.lst (ns.map D.int)] ∧ ∀ ns' : List Int, ns'.Perm ns → ns'.Pairwise (· ≤ ·) → Q (.fr (.lst (ns'.map D.int)))
def fAll : FC := fun ds Q => ∃ bs : List Bool, ds = [.lst (bs.map D.bl)] ∧ Q (.sh (.bl (bs.all id)))
def fAny : FC := fun ds Q => ∃ bs : List Bool, ds = [.lst (bs.map D.bl)] ∧ Q (.sh (.bl (bs.any id)))
section
variable {X : Cx} {G : Gx} {K : PySem.W.Frag}
theorem lst1 {M : List Addr} {H : Hp} {vs : List V} {ns : List Int} (b : RBs K G M H vs [.lst (ns.map D.int)]) : ∃ p, vs = [.ref p] ∧ SqL K H p (ns.map V.int) := by
  obtain ⟨v, rfl, b1⟩ := b.one
  obtain ⟨p, xs, rfl, hp, r⟩ := b1.lst
  rw [r.ints] at hp
  exact ⟨p, rfl, SqL.of hp⟩
theorem lst1b {M : List Addr} {H : Hp} {vs : List V} {ns : List Bool} (b : RBs K G M H vs [.lst (ns.map D.bl)]) : ∃ p, vs = [.ref p] ∧ SqL K H p (ns.map V.bl) := by
  obtain ⟨v, rfl, b1⟩ := b.one
  obtain ⟨p, xs, rfl, hp, r⟩ := b1.lst
  rw [r.bls] at hp
  exact ⟨p, rfl, SqL.of hp⟩
theorem calls_sum : CallS K G (rSum K) fSum := fun M H vs ds al b Qd h Q k => by
  obtain ⟨ns, rfl, h⟩ := h
  obtain ⟨p, rfl, hp⟩ := lst1 b
  exact ⟨p, ns, rfl, hp, k _ _ H (Same.refl _) rn_int h⟩
theorem calls_max : CallS K G (rMax K) fMax := fun M H vs ds al b Qd h Q k => by
  obtain ⟨ns, rfl, h0, h⟩ := h
  obtain ⟨p, rfl, hp⟩ := lst1 b
  exact ⟨p, ns, rfl, hp, List.length_pos_iff.mpr h0, fun m hm hy => k _ _ H (Same.refl _) rn_int (h m hm hy)⟩
theorem calls_min : CallS K G (rMin K) fMin := fun M H vs ds al b Qd h Q k => by
  obtain ⟨ns, rfl, h0, h⟩ := h
  obtain ⟨p, rfl, hp⟩ := lst1 b
  exact ⟨p, ns, rfl, hp, List.length_pos_iff.mpr h0, fun m hm hy => k _ _ H (Same.refl _) rn_int (h m hm hy)⟩
theorem calls_sorted : CallS K G (rSortedI K) fSorted := fun M H vs ds al b Qd h Q k => by
  obtain ⟨ns, rfl, h⟩ := h
  obtain ⟨p, rfl, hp⟩ := lst1 b
  exact ⟨p, ns, rfl, hp, fun ns' q pm st hq => k _ _ _ (same_new hq) (rn_lst hq (RepAll.of_ints ns')) (h ns' pm st)⟩
theorem calls_all : CallS K G (rAll K) fAll := fun M H vs ds al b Qd h Q k => by
  obtain ⟨ns, rfl, h⟩ := h
  obtain ⟨p, rfl, hp⟩ := lst1b b
  exact ⟨p, ns, rfl, hp, k _ _ H (Same.refl _) rn_bl h⟩
theorem calls_any : CallS K G (rAny K) fAny := fun M H vs ds al b Qd h Q k => by
  obtain ⟨ns, rfl, h⟩ := h
  obtain ⟨p, rfl, hp⟩ := lst1b b
  exact ⟨p, ns, rfl, hp, k _ _ H (Same.refl _) rn_bl h⟩
theorem call_sumK (K : PySem.W.Frag) (hc : X.calm = true) (hK : X.K = K := by rfl) : CallR X (.builtin "sum") (rSum K) := by subst hK; exact cr_sum hc
theorem call_maxK (K : PySem.W.Frag) (hc : X.calm = true) (hK : X.K = K := by rfl) : CallR X (.builtin "max") (rMax K) := by subst hK; exact cr_max hc
theorem call_minK (K : PySem.W.Frag) (hc : X.calm = true) (hK : X.K = K := by rfl) : CallR X (.builtin "min") (rMin K) := by subst hK; exact cr_min hc
theorem call_sortedK (K : PySem.W.Frag) (hK : X.K = K := by rfl) : CallR X (.builtin "sorted") (rSortedI K) := by subst hK; exact cr_sortedI
theorem call_allK (K : PySem.W.Frag) (hc : X.calm = true) (hK : X.K = K := by rfl) : CallR X (.builtin "all") (rAll K) := by subst hK; exact cr_all hc
theorem call_anyK (K : PySem.W.Frag) (hc : X.calm = true) (hK : X.K = K := by rfl) : CallR X (.builtin "any") (rAny K) := by subst hK; exact cr_any hc
end
@[simp] def wLRg1 (w : WE) : WE := fun δ Q => w δ fun r δ1 => isI r.d fun n => n ≤ 16777216 ∧ -(2 ^ 62) ≤ n ∧ Q (.fr (.lst (rng 0 n.toNat))) δ1
@[simp] def wTRg1 (w : WE) : WE := fun δ Q => w δ fun r δ1 => isI r.d fun n => n ≤ 16777216 ∧ -(2 ^ 62) ≤ n ∧ Q (.sh (.tup (rng 0 n.toNat))) δ1
@[simp] def wLRg2 (a b : WE) : WE := fun δ Q => a δ fun r δ1 => b δ1 fun s δ2 => (r.bor → δ2.sl = δ1.sl) ∧ isI r.d fun i => isI s.d fun j => RgOk i j ∧ Q (.fr (.lst (rng i (j - i).toNat))) δ2
@[simp] def wTRg2 (a b : WE) : WE := fun δ Q => a δ fun r δ1 => b δ1 fun s δ2 => (r.bor → δ2.sl = δ1.sl) ∧ isI r.d fun i => isI s.d fun j => RgOk i j ∧ Q (.sh (.tup (rng i (j - i).toNat))) δ2
section
variable {X : Cx} {G : Gx} {K : PySem.W.Frag} {E : Ent} {a b : Expr} {ta tb : TE} {wa wb : WE} {p p2 pos pos2 : Pos}
theorem rep_rg {H : Hp} (i j : Int) : RepAll K G H (rgV i j) (rng i (j - i).toNat) := by
  unfold rgV rng
  have key : ∀ (n : Nat) (f : Nat → Int), RepAll K G H ((List.range n).map fun k => V.int (f k)) ((List.range n).map fun k => D.int (f k)) := fun n f => by
    have := RepAll.of_ints (K := K) (G := G) (H := H) ((List.range n).map f)
    rw [List.map_map, List.map_map] at this
    exact this
  exact key _ _
theorem isI_of {am : Nat → Addr} {M : List Addr} {σ : L2.St} {δ : St3} {H : Hp} {v : V} {r : RD} {Q : Int → Prop} (S : SR K G E am M σ δ H) (rv : RK K G am M δ H v r) (q : isI r.d Q) : ∃ i, r.d = .int i ∧ v = .int i ∧ Q i := by
  have rb := rv.rb S
  generalize r.d = d at q rb
  cases d <;> first | exact q.elim | skip
  exact ⟨_, rfl, rb.int, q⟩
theorem de_lrg1 (ha : DE X G a ta wa) (hm : X.mg "list" = none) (hm2 : X.mg "range" = none) (hc : X.calm = true := by rfl) (g1 : Gl X "list" := by rfl) (g2 : Gl X "range" := by rfl) (na : starEach [a] X.env = (false, eval a X.env) :: starEach [] X.env := by rfl)
    (nr : starEach [.Call (.Name "range" p) [a] [] pos] X.env = (false, eval (.Call (.Name "range" p) [a] [] pos) X.env) :: starEach [] X.env := by rfl) :
    DE X G (.Call (.Name "list" p2) [.Call (.Name "range" p) [a] [] pos] [] pos2) (tLstRg (tRg1 ta)) (wLRg1 wa) := ⟨pe_listRg hc g1 hm (prg_1 g2 hm2 ha.pe na) nr, fun E am M σ δ H S Qd q Q k => ha.sim E am M σ δ H S _ q _ fun v r δ1 H1 S1 e1 o1 rv q => by
  obtain ⟨n, _, rfl, h1, h2, q⟩ := isI_of S1 rv.k q
  refine ⟨n, rfl, ⟨by omega, by omega, by omega, by omega, by omega⟩, fun l hl => ?_⟩
  have sm := same_new (o := .lst (rgV 0 n)) hl
  have rr : RN X.K G M H1 (upd H1 l (.lst (rgV 0 n))) (.ref l) (.fr (.lst (rng 0 n.toNat))) := by
    have := rep_rg (K := X.K) (G := G) (H := mask M H1) 0 n
    rw [Int.sub_zero] at this
    exact rn_lst hl this
  exact k _ _ δ1 _ (S1.grow sm) (e1.trans o1 (Ext.of (δ := δ1) sm)) o1 (rr.rv S1 sm) q⟩
theorem de_trg1 (ha : DE X G a ta wa) (hm : X.mg "tuple" = none) (hm2 : X.mg "range" = none) (hc : X.calm = true := by rfl) (g1 : Gl X "tuple" := by rfl) (g2 : Gl X "range" := by rfl) (na : starEach [a] X.env = (false, eval a X.env) :: starEach [] X.env := by rfl)
    (nr : starEach [.Call (.Name "range" p) [a] [] pos] X.env = (false, eval (.Call (.Name "range" p) [a] [] pos) X.env) :: starEach [] X.env := by rfl) :
    DE X G (.Call (.Name "tuple" p2) [.Call (.Name "range" p) [a] [] pos] [] pos2) (tTupRg (tRg1 ta)) (wTRg1 wa) := ⟨pe_tupRg hc g1 hm (prg_1 g2 hm2 ha.pe na) nr, fun E am M σ δ H S Qd q Q k => ha.sim E am M σ δ H S _ q _ fun v r δ1 H1 S1 e1 o1 rv q => by
  obtain ⟨n, _, rfl, h1, h2, q⟩ := isI_of S1 rv.k q
  refine ⟨n, rfl, ⟨by omega, by omega, by omega, by omega, by omega⟩, fun l hl => ?_⟩
  have sm := same_new (o := .tup (rgV 0 n)) hl
  have rr : RN X.K G M H1 (upd H1 l (.tup (rgV 0 n))) (.ref l) (.sh (.tup (rng 0 n.toNat))) := by
    have := rep_rg (K := X.K) (G := G) (H := mask M H1) 0 n
    rw [Int.sub_zero] at this
    exact rn_tup S1.al hl this
  exact k _ _ δ1 _ (S1.grow sm) (e1.trans o1 (Ext.of (δ := δ1) sm)) o1 (rr.rv S1 sm) q⟩
end
end L3
namespace L3
open PySem PySem.Spec PyProof.Rows L2
def kGreat : Key := Sum.inr "great"
def kMixed : Key := Sum.inr "mixed"
theorem k_gm : kGreat ≠ kMixed := by decide +kernel
def dgv (c : Addr) (b : Int) : List (Key × V) := [(kGreat, .ref c), (kMixed, .int b)]
theorem dgv_g {c : Addr} {b : Int} : valV (dgv c b) kGreat = some (.ref c) := valV_pos rfl
theorem dgv_m {c : Addr} {b : Int} : valV (dgv c b) kMixed = some (.int b) := (valV_neg k_gm).trans (valV_pos rfl)
theorem dgv_put {c : Addr} {b u : Int} : putK (dgv c b) kMixed (.int u) = dgv c u := by
  unfold putK
  rw [valV_any, dgv_m, if_pos (show (some (V.int b)).isSome = true from rfl)]
  show [if kGreat = kMixed then (kGreat, V.int u) else (kGreat, .ref c), if kMixed = kMixed then (kMixed, V.int u) else (kMixed, .int b)] = _
  rw [if_neg k_gm, if_pos rfl]
  all_goals rfl
def DkG (p c : Addr) (H : Hp) : Prop := ∃ (ns : List Int) (b : Int), H p = some (.dK (dgv c b)) ∧ H c = some (.lst (ns.map V.int)) ∧ ns.length ≤ 63 ∧ 0 ≤ b ∧ b < 2147483587
def GB (cls : Nat → Addr) (fld : Nat → List Str) (p c : Addr) : Gx where
  cls := cls
  fld := fld
  deck := p
  dk := [p, c]
  DI := fun _ H => DkG p c H
  frame := fun n H H' h ⟨ns, b, h1, h2, h3⟩ => ⟨ns, b, h p _ (.inl (by simp)) h1, h c _ (.inl (by simp)) h2, h3⟩
  dal := fun n H ⟨ns, b, h1, h2, _⟩ a ha => by
    have ha : a = p ∨ a = c := by simpa using ha
    rcases ha with z | z
    · rw [z, h1]; simp
    · rw [z, h2]; simp
  dnc := fun n H ⟨ns, b, h1, h2, _⟩ a ha => by
    have ha : a = p ∨ a = c := by simpa using ha
    rcases ha with z | z
    · rw [z]; exact NoCode.of h1 fun _ => HO.noConfusion
    · rw [z]; exact NoCode.of h2 fun _ => HO.noConfusion
def CdrawB : Con := fun ds n Q => ∃ m : Int, ds = [.deck, .int m] ∧ 1 ≤ m ∧ m.natAbs.log2 < 9000 ∧ ∀ r : Int, 0 ≤ r → r < m → Q (.int r) n
theorem drawB_le {n : Nat} {m : Int} {Q : D → Nat → Prop} (h1 : 1 ≤ m) (hs : Sz 8999 m) (q : ∀ r : Int, 0 ≤ r → r < m → Q (.int r) n) : CdrawB [.deck, .int m] n Q := ⟨m, rfl, h1, hs.log (by omega) (by omega), q⟩
def CpickB : Con := fun ds n Q => ∃ xs : List D, (ds = [.deck, .lst xs] ∨ ds = [.deck, .tup xs]) ∧ xs ≠ [] ∧ xs.length ≤ 1000 ∧ ∀ x ∈ xs, Q x n
theorem pickB_ints {n : Nat} {xs : List D} {Q : D → Nat → Prop} (P : Int → Prop) (h0 : xs ≠ []) (hl : xs.length ≤ 1000) (hP : ∀ x ∈ xs, ∃ i, x = .int i ∧ P i) (q : ∀ i : Int, P i → Q (.int i) n) : CpickB [.deck, .lst xs] n Q :=
  ⟨xs, .inl rfl, h0, hl, fun x hx => by obtain ⟨i, rfl, hi⟩ := hP x hx; exact q i hi⟩
section
variable {K : PySem.W.Frag} {cls : Nat → Addr} {fld : Nat → List Str}
abbrev tGt : TE := tDGet (tVar 0) (tC (.str "great"))
def tDrawB2 : TS :=
  tSeq (sDPut (tVar 0) (tC (.str "mixed")) (tVar 3))
  (tSeq (tAsg (tModN (tInt1 (tCons (tAddI (tMulI (tVar 3) (tVar 3)) (tMulI (tC (.int 39373)) (tVar 3))) tNil)) (tC (.int 2147483579))) (gName 3))
  (tRet (tModN (tOp (rI CDivA fun i j => .int (i.fdiv j)) (tVar 3) (tC (.int 64))) (tVar 1))))
def tDrawB (K : PySem.W.Frag) (k1 : Int) : TS :=
  tSeq (tIfS (tTest (tOp (rNeD K) tGt (tLst tNil)))
    (tSeq (tAsg (tInt1 (tCons (tBM0 K "list" rPop tGt) tNil)) (gName 2))
    (tSeq (tIfS (tTest (tOp (rI0 fun i j => .bl (decide (j ≤ i))) (tVar 2) (tVar 1))) (tDrop (tBM K "list" rAppend tGt (tCons (tOp (rI CDivA fun i j => .int (i.fdiv j)) (tVar 2) (tVar 1)) tNil))) tNext)
    (tRet (tModN (tVar 2) (tVar 1))))) tNext)
  (tSeq (tAsg (tModN (tInt1 (tCons (tAddI (tMulI (tInt1 (tCons (tDGet (tVar 0) (tC (.str "mixed"))) tNil)) (tC (.int 69621))) (tC (.int k1))) tNil)) (tC (.int 2147483587))) (gName 3)) tDrawB2)
theorem rd_drawB {k1 : Int} {N : List Str} {vs : List V} {H : Hp} {Q : VK} {Ex : XK} (hN : N.length = 4) (h : lift K (GB cls fld) CdrawB vs H Q Ex) : tDrawB K k1 { nx := fun _ H' => Q .non H', rt := Q } (L2.start N vs) H := by
  obtain ⟨p, c, ads, ds, n, Qd, hk, ha, hnc, di, r, ⟨m, rfl, m1, m2, hq⟩, q⟩ := h
  obtain ⟨x, xs, rfl, e1, y, ys, rfl, e2, e3⟩ := r
  have e1 : x = .ref p := e1
  have e2 : y = .int m := e2
  have e3 : ys = [] := e3
  subst e1 e2 e3
  obtain ⟨ns, b, h1, h2, hl, b0, b1⟩ := di
  have pc : p ≠ c := ne_of h1 h2 (by intro z; cases z)
  have st : L2.start N [.ref p, .int m] = [some (.ref p), some (.int m), none, none] := by
    unfold L2.start
    rw [show N.length - ([V.ref p, V.int m] : List V).length = 2 by simp [hN]]
    rfl
  rw [st]
  have gg : ∀ {H : Hp} {b : Int}, H p = some (.dK (dgv c b)) → DGet H p (.str "great") (some (.ref c)) := fun h => by
    have := DGet.k (k := kGreat) h; rw [dgv_g] at this; exact this
  have gm : ∀ {H : Hp} {b : Int}, H p = some (.dK (dgv c b)) → DGet H p (.str "mixed") (some (.int b)) := fun h => by
    have := DGet.k (k := kMixed) h; rw [dgv_m] at this; exact this
  have m0 : m ≠ 0 := by omega
  refine ⟨.ref p, rfl, p, .ref c, rfl, gg h1, Nat.zero_le _, fun l hl0 => ?_⟩
  have lp : p ≠ l := ne_of_none h1 hl0
  have lc : c ≠ l := ne_of_none h2 hl0
  have f1 : upd H l (.lst []) p = some (.dK (dgv c b)) := by rw [upd_ne lp]; exact h1
  have f2 : upd H l (.lst []) c = some (.lst (ns.map V.int)) := by rw [upd_ne lc]; exact h2
  have f0 : ∀ x o, H x = some o → x ∉ [p, c] → upd H l (.lst []) x = some o := fun x o hx hn => by
    rw [upd_ne (ne_of_none hx hl0)]; exact hx
  refine ⟨.list (ns.map PyData.int), .list [], .lst (SqL.of f2) (dp_ints ns), .lst (SqL.of upd_same) .nil, shaped_ints ns, rfl, _, rfl, ?_⟩
  rw [eqv_ints_nil]
  cases hns : ns with
  | nil =>
    rw [hns] at f2
    rw [if_neg (show ¬ (!([] : List Int).isEmpty) = true from Bool.false_ne_true)]
    -- the mixed number
    have c1 : CMul b 69621 := .inr ⟨by omega, by omega⟩
    refine ⟨.ref p, rfl, p, .int b, rfl, gm f1, .inl ⟨b, rfl, b, 69621, rfl, rfl, c1, _, _, rfl, rfl, .inl ⟨_, rfl, _, 2147483587, rfl, rfl, (show (2147483587 : Int) ≠ 0 by decide), ?_⟩⟩⟩
    suffices key : ∀ z : Int, 0 ≤ z → z < 2147483587 → tDrawB2 { nx := fun _ H' => Q .non H', rt := Q } [some (.ref p), some (.int m), none, some (.int z)] (upd H l (.lst [])) by
      exact key _ (Int.fmod_nonneg_of_pos (b * 69621 + k1) (by decide)) (Int.fmod_lt_of_pos (b * 69621 + k1) (by decide))
    intro z z0 z1
    refine ⟨.int z, rfl, .ref p, rfl, p, _, rfl, DPut.k (k := kMixed) f1 (small1000 (by show 2 ≤ 1000; omega)), ?_⟩
    rw [dgv_put]
    refine ⟨.int z, rfl, .int z, rfl, z, z, rfl, rfl, .inl ⟨by omega, by omega⟩, .int z, rfl, 39373, z, rfl, rfl, .inl ⟨by omega, by omega⟩, _, _, rfl, rfl, .inl ⟨_, rfl, _, 2147483579, rfl, rfl, (show (2147483579 : Int) ≠ 0 by decide), ?_⟩⟩
    refine ⟨_, rfl, _, 64, rfl, rfl, ⟨by decide, by decide⟩, .int m, rfl, _, m, rfl, rfl, m0, ?_⟩
    refine q _ (.int (Int.fmod _ m)) n _ (fun x o hx hn => ?_) ⟨[], z, upd_same, ?_, Nat.zero_le _, z0, z1⟩ rfl (hq _ (Int.fmod_nonneg_of_pos _ (by omega)) (Int.fmod_lt_of_pos _ (by omega)))
    · rw [upd_ne fun w => hn (by show x ∈ [p, c]; simp [w])]; exact f0 x o hx hn
    · rw [upd_ne pc.symm]; exact f2
  | cons n0 ns0 =>
    rw [if_pos (show (!(n0 :: ns0).isEmpty) = true from rfl)]
    rw [hns] at f2 hl
    obtain ⟨ms, z, ez⟩ : ∃ ms z, n0 :: ns0 = ms ++ [z] := ⟨(n0 :: ns0).dropLast, (n0 :: ns0).getLast (List.cons_ne_nil _ _), (List.dropLast_concat_getLast _).symm⟩
    rw [ez] at f2 hl
    have em : (ms ++ [z]).map V.int = ms.map V.int ++ [V.int z] := by rw [List.map_append]; rfl
    rw [em] at f2
    have lm : ms.length ≤ 62 := by rw [List.length_append] at hl; simp at hl; omega
    refine ⟨.ref p, rfl, p, .ref c, rfl, gg f1, .inl ⟨rfl, _, SqL.of f2⟩, c, _, .int z, rfl, rfl, f2, by simp, ?_⟩
    rw [List.dropLast_concat]
    refine .inl ⟨z, rfl, ?_⟩
    have u1 : upd (upd H l (.lst [])) c (.lst (ms.map V.int)) p = some (.dK (dgv c b)) := by rw [upd_ne pc]; exact f1
    have u0 : ∀ (o' : HO) x o, H x = some o → x ∉ [p, c] → upd (upd H l (.lst [])) c o' x = some o := fun o' x o hx hn => by
      rw [upd_ne fun w => hn (by simp [w])]; exact f0 x o hx hn
    have fin : ∀ (H' : Hp) (ks : List Int), H' p = some (.dK (dgv c b)) → H' c = some (.lst (ks.map V.int)) → ks.length ≤ 63 → (∀ x o, H x = some o → x ∉ [p, c] → H' x = some o) → Q (.int (z.fmod m)) H' := fun H' ks g1 g2 g3 g4 =>
      q _ (.int (z.fmod m)) n _ g4 ⟨ks, b, g1, g2, g3, b0, b1⟩ rfl (hq _ (Int.fmod_nonneg_of_pos _ (by omega)) (Int.fmod_lt_of_pos _ (by omega)))
    refine ⟨.int z, rfl, .int m, rfl, z, m, rfl, rfl, _, rfl, ite2 (fun _ => ?_) (fun _ => ?_)⟩
    · refine ⟨.ref p, rfl, p, .ref c, rfl, gg u1, .inl ⟨rfl, _, SqL.of upd_same⟩, .int z, rfl, .int m, rfl, z, m, rfl, rfl, ⟨m0, m2⟩, c, _, _, rfl, rfl, upd_same, ?_, ?_⟩
      · rw [List.length_map]; exact small1000 (by omega)
      · refine ⟨.int z, rfl, .int m, rfl, z, m, rfl, rfl, m0, ?_⟩
        have um : (upd (upd (upd H l (.lst [])) c (.lst (ms.map V.int))) c (.lst (ms.map V.int ++ [V.int (z.fdiv m)]))) = upd (upd H l (.lst [])) c (.lst (ms.map V.int ++ [V.int (z.fdiv m)])) := upd_upd
        rw [um]
        refine fin _ (ms ++ [z.fdiv m]) ?_ ?_ ?_ (u0 _)
        · rw [upd_ne pc]; exact f1
        · rw [upd_same, List.map_append]; rfl
        · rw [List.length_append]; simp; omega
    · refine ⟨.int z, rfl, .int m, rfl, z, m, rfl, rfl, m0, ?_⟩
      exact fin _ ms u1 upd_same (by omega) (u0 _)
end
end L3
namespace L3
open PySem PySem.Spec PyProof.Rows L2
theorem k_cm : kCells ≠ kMixed := by decide +kernel
theorem k_md : kMixed ≠ kDraws := by decide +kernel
def dmv (c : Addr) (b t : Int) : List (Key × V) := [(kCells, .ref c), (kMixed, .int b), (kDraws, .int t)]
theorem dmv_c {c : Addr} {b t : Int} : valV (dmv c b t) kCells = some (.ref c) := valV_pos rfl
theorem dmv_b {c : Addr} {b t : Int} : valV (dmv c b t) kMixed = some (.int b) := (valV_neg k_cm).trans (valV_pos rfl)
theorem dmv_d {c : Addr} {b t : Int} : valV (dmv c b t) kDraws = some (.int t) := (valV_neg k_cd).trans ((valV_neg k_md).trans (valV_pos rfl))
theorem dmv_put {c : Addr} {b t u : Int} : putK (dmv c b t) kDraws (.int u) = dmv c b u := by
  unfold putK
  rw [valV_any, dmv_d, if_pos (show (some (V.int t)).isSome = true from rfl)]
  show [if kCells = kDraws then (kCells, V.int u) else (kCells, .ref c), if kMixed = kDraws then (kMixed, V.int u) else (kMixed, .int b), if kDraws = kDraws then (kDraws, V.int u) else (kDraws, .int t)] = _
  rw [if_neg k_cd, if_neg k_md, if_pos rfl]
  all_goals rfl
/-- the deck stands at p, its cells at c; at most n draws were made -/
def DkM (p c : Addr) (n : Nat) (H : Hp) : Prop := ∃ (ns : List Int) (b t : Int), H p = some (.dK (dmv c b t)) ∧ H c = some (.lst (ns.map V.int)) ∧ ns.length ≤ 63 ∧ 0 ≤ b ∧ b < 2147483587 ∧ 0 ≤ t ∧ t ≤ n
def GM (cls : Nat → Addr) (fld : Nat → List Str) (p c : Addr) : Gx where
  cls := cls
  fld := fld
  deck := p
  dk := [p, c]
  DI := DkM p c
  frame := fun n H H' h ⟨ns, b, t, h1, h2, h3⟩ => ⟨ns, b, t, h p _ (.inl (by simp)) h1, h c _ (.inl (by simp)) h2, h3⟩
  dal := fun n H ⟨ns, b, t, h1, h2, _⟩ a ha => by
    have ha : a = p ∨ a = c := by simpa using ha
    rcases ha with z | z
    · rw [z, h1]; simp
    · rw [z, h2]; simp
  dnc := fun n H ⟨ns, b, t, h1, h2, _⟩ a ha => by
    have ha : a = p ∨ a = c := by simpa using ha
    rcases ha with z | z
    · rw [z]; exact NoCode.of h1 fun _ => HO.noConfusion
    · rw [z]; exact NoCode.of h2 fun _ => HO.noConfusion
section
variable {K : PySem.W.Frag} {cls : Nat → Addr} {fld : Nat → List Str}
/-- what a draw does ahead of its own mixing -/
def tDrawM (K : PySem.W.Frag) (rest : TS) : TS :=
  tSeq (tPar 2 3 (tCons (tOp (rI0 fun i j => .int (i + j)) (tDGet (tVar 0) (tC (.str "draws"))) (tC (.int 1))) (tCons (tDGet (tVar 0) (tC (.str "mixed"))) tNil)))
  (tSeq (sDPut (tVar 0) (tC (.str "draws")) (tVar 2))
  (tSeq (tIfS (tTest (tOp (rNeD K) (tDGet (tVar 0) (tC (.str "cells"))) (tLst tNil)))
    (tSeq (tAsg (tBM0 K "list" rPop (tDGet (tVar 0) (tC (.str "cells")))) (gName 3))
    (tSeq (tIfS (tTest (tOp (rI0 fun i j => .bl (decide (j ≤ i))) (tVar 3) (tOp (rI CPow fun i j => .int (i ^ j.toNat)) (tC (.int 10)) (tC (.int 18)))))
      (tSeq (tDrop (tBM K "list" rAppend (tDGet (tVar 0) (tC (.str "cells"))) (tCons (tOp (rI CDivA fun i j => .int (i.fdiv j)) (tVar 3) (tVar 1)) tNil)))
        (tRet (tOp (rI (fun _ j => j ≠ 0) fun i j => .int (i.fmod j)) (tCB (fun xs H Q => (∃ i, xs = [.int i] ∧ Q (.int i) H) ∨ ∃ k, xs = [.bl k] ∧ Q (.int (if k then 1 else 0)) H) (tCons (tVar 3) tNil)) (tVar 1)))) tNext)
      (tAsg (tOp (rI0 fun i j => .int (i + j)) (tVar 3) (tDGet (tVar 0) (tC (.str "mixed")))) (gName 3)))) tNext) rest))
theorem rd_drawM {rest : TS} {wr : WS} {N : List Str} {vs : List V} {H : Hp} {Q : VK} {Ex : XK} (hN : 4 ≤ N.length) (hs : ∀ p c, SimS K (GM cls fld p c) rest wr)
    (hw : ∀ (m turn cell : Int) (n : Nat) (Qd : D → Nat → Prop), 1 ≤ m → m.natAbs.log2 < 9000 → 0 ≤ turn → turn ≤ 2 ^ 40 → (∀ r : Int, 0 ≤ r → r < m → Qd (.int r) n) →
      wr ⟨fun δ => Qd .non δ.n, Qd, fun _ => False, fun _ => False⟩ ⟨some (.sh .deck) :: some (.sh (.int m)) :: some (.sh (.int turn)) :: some (.sh (.int cell)) :: List.replicate (N.length - 4) none, n⟩)
    (h : lift K (GM cls fld) CdrawA vs H Q Ex) : tDrawM K rest { nx := fun _ H' => Q .non H', rt := Q } (L2.start N vs) H := by
  obtain ⟨p, c, ads, ds, n, Qd, hk, ha, hnc, di, r, ⟨m, rfl, m1, m2, hn, hq⟩, q⟩ := h
  have S0 := start_sr (N := N) (am := fun _ => 0) hk ha hnc di r trivial
  obtain ⟨x, xs, rfl, e1, y, ys, rfl, e2, e3⟩ := r
  have e1 : x = .ref p := e1
  have e2 : y = .int m := e2
  have e3 : ys = [] := e3
  subst e1 e2 e3
  obtain ⟨ns, b, t, h1, h2, hl, b0, b1, t0, t1⟩ := di
  have pc : p ≠ c := ne_of h1 h2 (by intro z; cases z)
  obtain ⟨L, hL⟩ : ∃ L, N.length = L + 4 := ⟨N.length - 4, by omega⟩
  have st : L2.start N [.ref p, .int m] = some (.ref p) :: some (.int m) :: none :: none :: List.replicate L none := by
    unfold L2.start
    rw [show N.length - ([V.ref p, V.int m] : List V).length = L + 2 by simp [hL]]
    rfl
  have st3 : start3 N [.deck, .int m] = some (.sh .deck) :: some (.sh (.int m)) :: none :: none :: List.replicate L none := by
    unfold start3
    rw [show N.length - ([D.deck, D.int m] : List D).length = L + 2 by simp [hL]]
    rfl
  have hL4 : N.length - 4 = L := by omega
  rw [hL4] at hw
  rw [st, st3] at S0
  rw [st]
  have gd0 : DGet H p (.str "draws") (some (.int t)) := by
    have := DGet.k (k := kDraws) h1; rw [dmv_d] at this; exact this
  have gb0 : DGet H p (.str "mixed") (some (.int b)) := by
    have := DGet.k (k := kMixed) h1; rw [dmv_b] at this; exact this
  -- turn, cell = deck["draws"] + 1, deck["mixed"]; deck["draws"] = turn
  refine ⟨.ref p, rfl, p, .int t, rfl, gd0, t, 1, rfl, rfl, .ref p, rfl, p, .int b, rfl, gb0, _, _, rfl, .int (t + 1), rfl, .ref p, rfl, p, _, rfl, DPut.k (k := kDraws) h1 (small1000 (by show 3 ≤ 1000; omega)), ?_⟩
  rw [dmv_put]
  have g1 : upd H p (.dK (dmv c b (t + 1))) p = some (.dK (dmv c b (t + 1))) := upd_same
  have g2 : upd H p (.dK (dmv c b (t + 1))) c = some (.lst (ns.map V.int)) := by rw [upd_ne pc.symm]; exact h2
  have gd : ∀ {H : Hp} {b t : Int}, H p = some (.dK (dmv c b t)) → DGet H p (.str "draws") (some (.int t)) := fun h => by
    have := DGet.k (k := kDraws) h; rw [dmv_d] at this; exact this
  have gb : ∀ {H : Hp} {b t : Int}, H p = some (.dK (dmv c b t)) → DGet H p (.str "mixed") (some (.int b)) := fun h => by
    have := DGet.k (k := kMixed) h; rw [dmv_b] at this; exact this
  have gc : ∀ {H : Hp} {b t : Int}, H p = some (.dK (dmv c b t)) → DGet H p (.str "cells") (some (.ref c)) := fun h => by
    have := DGet.k (k := kCells) h; rw [dmv_c] at this; exact this
  -- the end by the rest
  have fin : ∀ (cell : Int) (H' : Hp) (ms : List Int), H' p = some (.dK (dmv c b (t + 1))) → H' c = some (.lst (ms.map V.int)) → ms.length ≤ 63 → (∀ x o, H x = some o → x ∉ [p, c] → H' x = some o) →
      rest { nx := fun _ H' => Q .non H', rt := Q } (some (.ref p) :: some (.int m) :: some (.int (t + 1)) :: some (.int cell) :: List.replicate L none) H' := fun cell H' ms k1 k2 k3 k4 => by
    have di' : DkM p c (n + 1) H' := ⟨ms, b, t + 1, k1, k2, k3, b0, b1, by omega, by omega⟩
    have S1 := (S0.after (n := n + 1) k4 di')
    have S2 := (S1.set_sh (i := 2) (v := .int (t + 1)) (d := .int (t + 1)) rfl).set_sh (i := 3) (v := .int cell) (d := .int cell) rfl
    refine hs p c _ _ _ _ _ _ S2 _ (hw m (t + 1) cell (n + 1) Qd m1 m2 (by omega) ?_ hq) _ ⟨fun am M σ δ H' S' z => q .non .non _ H' S'.base S'.di rfl z, fun _ _ _ _ _ _ z => z, fun _ _ _ _ _ _ z => z, fun v d n' H' rv hb di z => q v d n' H' hb di rv z⟩
    have : n < 2 ^ 40 := hn
    omega
  -- if deck["cells"] != []
  refine ⟨.ref p, rfl, p, .ref c, rfl, gc g1, Nat.zero_le _, fun l hl0 => ?_⟩
  have lp : p ≠ l := ne_of_none g1 hl0
  have lc : c ≠ l := ne_of_none g2 hl0
  have f1 : upd (upd H p (.dK (dmv c b (t + 1)))) l (.lst []) p = some (.dK (dmv c b (t + 1))) := by rw [upd_ne lp]; exact g1
  have f2 : upd (upd H p (.dK (dmv c b (t + 1)))) l (.lst []) c = some (.lst (ns.map V.int)) := by rw [upd_ne lc]; exact g2
  have f0 : ∀ x o, H x = some o → x ∉ [p, c] → upd (upd H p (.dK (dmv c b (t + 1)))) l (.lst []) x = some o := fun x o hx hn => by
    have n1 : x ≠ p := fun z => hn (by simp [z])
    have n2 : x ≠ l := by
      refine ne_of_none (H := upd H p (.dK (dmv c b (t + 1)))) (o := o) ?_ hl0
      rw [upd_ne n1]; exact hx
    rw [upd_ne n2, upd_ne n1]; exact hx
  refine ⟨.list (ns.map PyData.int), .list [], .lst (SqL.of f2) (dp_ints ns), .lst (SqL.of upd_same) .nil, shaped_ints ns, rfl, _, rfl, ?_⟩
  rw [eqv_ints_nil]
  cases hns : ns with
  | nil =>
    rw [hns] at f2
    exact fin b _ [] f1 f2 (Nat.zero_le _) f0
  | cons n0 ns0 =>
    rw [if_pos (show (!(n0 :: ns0).isEmpty) = true from rfl)]
    rw [hns] at f2 hl
    obtain ⟨ms, z, ez⟩ : ∃ ms z, n0 :: ns0 = ms ++ [z] := ⟨(n0 :: ns0).dropLast, (n0 :: ns0).getLast (List.cons_ne_nil _ _), (List.dropLast_concat_getLast _).symm⟩
    rw [ez] at f2 hl
    have em : (ms ++ [z]).map V.int = ms.map V.int ++ [V.int z] := by rw [List.map_append]; rfl
    rw [em] at f2
    have lm : ms.length ≤ 62 := by rw [List.length_append] at hl; simp at hl; omega
    -- cell = deck["cells"].pop()
    refine ⟨.ref p, rfl, p, .ref c, rfl, gc f1, .inl ⟨rfl, _, SqL.of f2⟩, c, _, .int z, rfl, rfl, f2, by simp, ?_⟩
    rw [List.dropLast_concat]
    have u1 : upd (upd (upd H p (.dK (dmv c b (t + 1)))) l (.lst [])) c (.lst (ms.map V.int)) p = some (.dK (dmv c b (t + 1))) := by rw [upd_ne pc]; exact f1
    have u0 : ∀ (o' : HO) x o, H x = some o → x ∉ [p, c] → upd (upd (upd H p (.dK (dmv c b (t + 1)))) l (.lst [])) c o' x = some o := fun o' x o hx hn => by
      have n1 : x ≠ c := fun w => hn (by simp [w])
      rw [upd_ne n1]; exact f0 x o hx hn
    -- if cell >= 10 ** 18
    refine ⟨.int z, rfl, 10, 18, rfl, rfl, ⟨by decide, by decide, by decide⟩, _, _, rfl, rfl, _, rfl, ite2 (fun _ => ?_) (fun _ => ?_)⟩
    · -- deck["cells"].append(cell // many); return int(cell) % many
      refine ⟨.ref p, rfl, p, .ref c, rfl, gc u1, .inl ⟨rfl, _, SqL.of upd_same⟩, .int z, rfl, .int m, rfl, z, m, rfl, rfl, ⟨by omega, m2⟩, c, _, _, rfl, rfl, upd_same, ?_, ?_⟩
      · rw [List.length_map]; exact small1000 (by omega)
      · refine ⟨.int z, rfl, .inl ⟨z, rfl, .int m, rfl, z, m, rfl, rfl, by omega, ?_⟩⟩
        have um : (upd (upd (upd (upd H p (.dK (dmv c b (t + 1)))) l (.lst [])) c (.lst (ms.map V.int))) c (.lst (ms.map V.int ++ [V.int (z.fdiv m)]))) = upd (upd (upd H p (.dK (dmv c b (t + 1)))) l (.lst [])) c (.lst (ms.map V.int ++ [V.int (z.fdiv m)])) := upd_upd
        rw [um]
        refine q (.int (z.fmod m)) (.int (z.fmod m)) (n + 1) _ (u0 _) ⟨ms ++ [z.fdiv m], b, t + 1, ?_, ?_, ?_, b0, b1, by omega, by omega⟩ rfl (hq _ (Int.fmod_nonneg_of_pos _ (by omega)) (Int.fmod_lt_of_pos _ (by omega)))
        · rw [upd_ne pc]; exact f1
        · rw [upd_same, List.map_append]; rfl
        · rw [List.length_append]; simp; omega
    · -- cell = cell + deck["mixed"]
      refine ⟨.int z, rfl, .ref p, rfl, p, .int b, rfl, gb u1, z, b, rfl, rfl, ?_⟩
      exact fin (z + b) _ ms u1 upd_same (by omega) (u0 _)
def tDeckM (K : PySem.W.Frag) (c0 k1 : Int) : TS :=
  tSeq (tPar 1 2 (tCons (tCB (fun xs H Q => ∃ p ys, xs = [.ref p] ∧ (SqL K H p ys ∨ SqT K H p ys) ∧ ∀ l, H l = none → Q (.ref l) (upd H l (.lst ys))) (tCons (tSl (rSlL K) (tVar 0) tNoPart (tPart (tC (.int 63)))) tNil)) (tCons (tC (.int c0)) tNil)))
  (tSeq (tFor (iList K (tVar 1)) (gName 3) (tAsg (tModN (tInt1 (tCons (tAddI (tAddI (tMulI (tVar 2) (tC (.int 48271))) (tModN (tInt1 (tCons (tVar 3) tNil)) (tC (.int 2147483629)))) (tC (.int k1))) tNil)) (tC (.int 2147483587))) (gName 2)))
  (tRet (tDisp [(tC (.str "cells"), tRevL K (tVar 1)), (tC (.str "mixed"), tVar 2), (tC (.str "draws"), tC (.int 0))])))
def spDeckM (K : PySem.W.Frag) : Sp := fun vs H Q _ => ∃ (a : Addr) (ns : List Int), vs = [.ref a] ∧ SqL K H a (ns.map V.int) ∧ ns.length ≤ 63 ∧
  ∀ (p c : Addr) (H' : Hp), Same H H' → DkM p c 0 H' → H p = none → H c = none → Q (.ref p) H'
theorem merge_dmv {q : Addr} {b t : Int} : mergeK [] (dmv q b t) = dmv q b t := by
  show putK (putK (putK [] kCells (.ref q)) kMixed (.int b)) kDraws (.int t) = _
  have e1 : putK ([] : List (Key × V)) kCells (.ref q) = [(kCells, .ref q)] := putK_new _ rfl
  have e2 : putK [(kCells, V.ref q)] kMixed (.int b) = [(kCells, .ref q), (kMixed, .int b)] := putK_new _ ((valV_neg k_cm).trans rfl)
  have e3 : putK [(kCells, V.ref q), (kMixed, V.int b)] kDraws (.int t) = [(kCells, .ref q), (kMixed, .int b), (kDraws, .int t)] := putK_new _ ((valV_neg k_cd).trans ((valV_neg k_md).trans rfl))
  rw [e1, e2, e3]
  all_goals rfl
theorem rd_deckM {c0 k1 : Int} {N : List Str} {vs : List V} {H : Hp} {Q : VK} {Ex : XK} (hN : N.length = 4) (hc0 : 0 ≤ c0 ∧ c0 < 2147483587) (h : spDeckM K vs H Q Ex) : tDeckM K c0 k1 { nx := fun _ H' => Q .non H', rt := Q } (L2.start N vs) H := by
  obtain ⟨a, ns, rfl, hS, hl, q⟩ := h
  have st : L2.start N [.ref a] = [some (.ref a), none, none, none] := by
    unfold L2.start
    rw [show N.length - ([V.ref a] : List V).length = 3 by simp [hN]]
    rfl
  rw [st]
  -- cells, blend = list(script[:63]), c0
  refine ⟨.ref a, rfl, 63, rfl, a, _, rfl, hS, fun p1 hp1 => ?_⟩
  have s1 := same_new (o := .lst (cutV (ns.map V.int) none (some 63))) hp1
  refine ⟨p1, _, rfl, .inl (SqL.of upd_same), fun l hl0 => ?_⟩
  have ecut : cutV (ns.map V.int) none (some 63) = ns.map V.int := by
    unfold cutV
    rw [HT.sIx_none, show HT.sIx (ns.map V.int).length (ns.map V.int).length (some 63) = min 63 (ns.map V.int).length from HT.sIx_nat _ _ 63, List.length_map, Nat.sub_zero, List.drop_zero]
    exact List.take_of_length_le (by rw [List.length_map]; omega)
  rw [ecut] at s1 hl0 ⊢
  have s2 := s1.trans (same_new (o := .lst (ns.map V.int)) hl0)
  refine ⟨_, _, rfl, ?_⟩
  -- the loop
  have hlst : upd (upd H p1 (.lst (ns.map V.int))) l (.lst (ns.map V.int)) l = some (.lst (ns.map V.int)) := upd_same
  refine ⟨.ref l, rfl, l, rfl, ⟨_, SqL.of hlst⟩, for_list (K := K) (a := l) (xs := ns.map V.int) (fun i σ H3 => ∃ (b : Int) (x : Option V), σ = [some (.ref a), some (.ref l), some (.int b), x] ∧ H3 = upd (upd H p1 (.lst (ns.map V.int))) l (.lst (ns.map V.int)) ∧ 0 ≤ b ∧ b < 2147483587)
    ⟨c0, none, rfl, rfl, hc0⟩ (fun i σ H3 _ ⟨_, _, _, e, _⟩ => by rw [e]; exact SqL.of hlst) ?_ ?_⟩
  · rintro i x σ H3 hx ⟨b, y, rfl, rfl, b0, b1⟩
    obtain ⟨z, rfl⟩ : ∃ z, x = V.int z := by
      rw [List.getElem?_map] at hx
      cases e : ns[i]? with
      | none => rw [e] at hx; cases hx
      | some z => rw [e] at hx; exact ⟨z, (Option.some.inj hx).symm⟩
    refine ⟨.int b, rfl, b, 48271, rfl, rfl, .inl ⟨by omega, by omega⟩, .int z, rfl, .inl ⟨z, rfl, z, 2147483629, rfl, rfl, (show (2147483629 : Int) ≠ 0 by decide), _, _, rfl, rfl, _, _, rfl, rfl, .inl ⟨_, rfl, _, 2147483587, rfl, rfl, (show (2147483587 : Int) ≠ 0 by decide), ?_⟩⟩⟩
    exact ⟨_, _, rfl, rfl, Int.fmod_nonneg_of_pos _ (by decide), Int.fmod_lt_of_pos _ (by decide)⟩
  · rintro σ H3 ⟨b, y, rfl, rfl, b0, b1⟩
    -- return {..}
    intro p hp
    have pl : l ≠ p := ne_of_none hlst hp
    refine ⟨.ref l, rfl, l, _, rfl, SqL.of (by rw [upd_ne pl]; exact hlst), fun c hc => ?_⟩
    have pc : p ≠ c := ne_of_none (H := upd _ p (.dK [])) upd_same hc
    refine ⟨.int b, rfl, by rw [upd_ne pc, upd_same], dmv c b 0, rfl, (show 3 ≤ 15 by omega), ?_⟩
    rw [merge_dmv]
    have sp : Same _ _ := same_new (o := .dK []) hp
    have s3 : Same H (upd (upd (upd (upd H p1 (.lst (ns.map V.int))) l (.lst (ns.map V.int))) p (.dK [])) c (.lst (ns.map V.int).reverse)) := (s2.trans (same_new hp)).trans (same_new hc)
    refine q p c _ (fun x o hx => ?_) ⟨ns.reverse, b, 0, upd_same, ?_, by rw [List.length_reverse]; exact hl, b0, b1, Int.le_refl _, Int.le_refl _⟩ (s2.free hp) ((s2.trans (same_new hp)).free hc)
    · rw [upd_ne (ne_of_none (s2 _ _ hx) hp)]
      exact s3 x o hx
    · rw [upd_ne pc.symm, upd_same, List.map_reverse]
theorem rd_lawM {rest : TS} {wr : WS} {N : List Str} {vs : List V} {H : Hp} {Q : VK} {Ex E1 : XK} (hN : 2 ≤ N.length) (hs : ∀ p c, SimS K (GM cls fld p c) rest wr)
    (hw : wr ⟨fun _ => False, fun d _ => d = .bl true, fun _ => False, fun _ => False⟩ ⟨none :: some (.sh .deck) :: List.replicate (N.length - 2) none, 0⟩)
    (h : spLaw K vs H Q Ex) : tSeq (tAsg (tCall (spDeckM K) [] E1 (tCons (tVar 0) tNil)) (gName 1)) rest { nx := fun _ H' => Q .non H', rt := Q } (L2.start N vs) H := by
  obtain ⟨a, ns, rfl, hS, hl, q⟩ := h
  obtain ⟨L, hL⟩ : ∃ L, N.length = L + 2 := ⟨N.length - 2, by omega⟩
  have st : L2.start N [.ref a] = some (.ref a) :: none :: List.replicate L none := by
    unfold L2.start
    rw [show N.length - ([V.ref a] : List V).length = L + 1 by simp [hL]]
    rfl
  rw [show N.length - 2 = L by omega] at hw
  rw [st]
  refine ⟨.ref a, rfl, a, ns, rfl, hS, hl, fun p c H1 s1 dk hp hc => ?_⟩
  have dk' := dk
  obtain ⟨cs, b, t, h1, h2, _⟩ := dk'
  have S : SR K (GM cls fld p c) ⟨H1, [p, c], [], none⟩ (fun _ => 0) [p, c] (some (.ref a) :: some (.ref p) :: List.replicate L none) ⟨none :: some (.sh .deck) :: List.replicate L none, 0⟩ H1 := by
    have no : ∀ (i : Nat) (x : SV), (none :: some (.sh .deck) :: List.replicate L none : List (Option SV))[i]? = some (some x) → i = 1 ∧ x = .sh .deck := fun i x e => by
      match i with
      | 0 => cases e
      | 1 => exact ⟨rfl, by injection e with e; injection e with e; exact e.symm⟩
      | i + 2 =>
        have e : (List.replicate L (none : Option SV))[i]? = some (some x) := e
        rw [List.getElem?_replicate] at e
        split at e <;> cases e
    refine ⟨by simp, fun i d e => ?_, fun i d e => ?_, fun i j ⟨d, e⟩ _ _ => ?_, fun a z => z, fun a z => z, fun a z => ?_, fun b o e _ => e, dk, fun p hp => (by cases hp), fun x hx => (by cases hx), OdOk.none (fun i ks ss z => by obtain ⟨_, e2⟩ := no i _ z; cases e2), fun a z => ?_, trivial⟩
    · obtain ⟨rfl, e2⟩ := no i _ e
      cases e2
      exact ⟨_, rfl, rfl⟩
    · obtain ⟨_, e2⟩ := no i _ e
      cases e2
    · obtain ⟨_, e2⟩ := no i _ e
      cases e2
    · exact (GM cls fld p c).dal 0 H1 dk a z
    · exact (GM cls fld p c).dnc 0 H1 dk a z
  exact hs p c _ _ _ _ _ _ S _ hw _ ⟨fun _ _ _ _ _ _ z => z.elim, fun _ _ _ _ _ _ z => z.elim, fun _ _ _ _ _ _ z => z.elim, fun v d n H' rv _ _ z => by
    have z : d = .bl true := z
    subst z
    have rv : v = .bl true := rv
    subst rv
    exact q H'⟩
end
end L3
namespace L3
open PySem PySem.Spec PyProof.Rows L2
section
variable {K : PySem.W.Frag} {cls : Nat → Addr} {fld : Nat → List Str}
abbrev tCut (K : PySem.W.Frag) : TE := tSl (rSlL K) (tVar 0) tNoPart (tPart (tC (.int 63)))
def tDeckB (K : PySem.W.Frag) (c0 k1 : Int) : TS :=
  tSeq (tAsg (tC (.int c0)) (gName 1))
  (tSeq (tFor (iList K (tCut K)) (gName 2) (tAsg (tModN (tInt1 (tCons (tAddI (tAddI (tMulI (tVar 1) (tC (.int 48271))) (tModN (tInt1 (tCons (tVar 2) tNil)) (tC (.int 2147483629)))) (tC (.int k1))) tNil)) (tC (.int 2147483587))) (gName 1)))
  (tRet (tDisp [(tC (.str "great"), tRevL K (tLc (iList K (tCut K)) (gName 2) (tTest (tOp (rI0 fun i j => .bl (decide (j ≤ i))) (tVar 2) (tOp (rI CPow fun i j => .int (i ^ j.toNat)) (tC (.int 10)) (tC (.int 18))))) (tVar 2) [2])), (tC (.str "mixed"), tVar 1)])))
def spDeckG (K : PySem.W.Frag) : Sp := fun vs H Q _ => ∃ (a : Addr) (ns : List Int), vs = [.ref a] ∧ SqL K H a (ns.map V.int) ∧ ns.length ≤ 63 ∧
  ∀ (p c : Addr) (H' : Hp), Same H H' → DkG p c H' → H p = none → H c = none → Q (.ref p) H'
theorem merge_dgv {q : Addr} {b : Int} : mergeK [] (dgv q b) = dgv q b := by
  show putK (putK [] kGreat (.ref q)) kMixed (.int b) = _
  have e1 : putK ([] : List (Key × V)) kGreat (.ref q) = [(kGreat, .ref q)] := putK_new _ rfl
  have e2 : putK [(kGreat, V.ref q)] kMixed (.int b) = [(kGreat, .ref q), (kMixed, .int b)] := putK_new _ ((valV_neg k_gm).trans rfl)
  rw [e1, e2]
  all_goals rfl
theorem sq_same {H H' : Hp} {a : Addr} {xs : List V} (e : Same H H') (h : SqL K H a xs) : SqL K H' a xs := by
  rcases h with (h | ⟨o, h⟩) | h
  · exact .inl (.inl (e _ _ h))
  · exact .inl (.inr ⟨o, e _ _ h⟩)
  · exact .inr h
theorem rd_deckB {c0 k1 : Int} {N : List Str} {vs : List V} {H : Hp} {Q : VK} {Ex : XK} (hN : N.length = 3) (hc0 : 0 ≤ c0 ∧ c0 < 2147483587) (h : spDeckG K vs H Q Ex) : tDeckB K c0 k1 { nx := fun _ H' => Q .non H', rt := Q } (L2.start N vs) H := by
  obtain ⟨a, ns, rfl, hS, hl, q⟩ := h
  have st : L2.start N [.ref a] = [some (.ref a), none, none] := by
    unfold L2.start
    rw [show N.length - ([V.ref a] : List V).length = 2 by simp [hN]]
    rfl
  rw [st]
  have ecut : cutV (ns.map V.int) none (some 63) = ns.map V.int := by
    unfold cutV
    rw [HT.sIx_none, show HT.sIx (ns.map V.int).length (ns.map V.int).length (some 63) = min 63 (ns.map V.int).length from HT.sIx_nat _ _ 63, List.length_map, Nat.sub_zero, List.drop_zero]
    exact List.take_of_length_le (by rw [List.length_map]; omega)
  refine ⟨.ref a, rfl, 63, rfl, a, _, rfl, hS, fun l hl0 => ?_⟩
  rw [ecut]
  have s2 := same_new (o := .lst (ns.map V.int)) hl0
  have hlst : upd H l (.lst (ns.map V.int)) l = some (.lst (ns.map V.int)) := upd_same
  refine ⟨l, rfl, ⟨_, SqL.of hlst⟩, for_list (K := K) (a := l) (xs := ns.map V.int) (fun i σ H3 => ∃ (b : Int) (x : Option V), σ = [some (.ref a), some (.int b), x] ∧ H3 = upd H l (.lst (ns.map V.int)) ∧ 0 ≤ b ∧ b < 2147483587)
    ⟨c0, none, rfl, rfl, hc0⟩ (fun i σ H3 _ ⟨_, _, _, e, _⟩ => by rw [e]; exact SqL.of hlst) ?_ ?_⟩
  · rintro i x σ H3 hx ⟨b, y, rfl, rfl, b0, b1⟩
    obtain ⟨z, rfl⟩ : ∃ z, x = V.int z := by
      rw [List.getElem?_map] at hx
      cases e : ns[i]? with
      | none => rw [e] at hx; cases hx
      | some z => rw [e] at hx; exact ⟨z, (Option.some.inj hx).symm⟩
    refine ⟨.int b, rfl, b, 48271, rfl, rfl, .inl ⟨by omega, by omega⟩, .int z, rfl, .inl ⟨z, rfl, z, 2147483629, rfl, rfl, (show (2147483629 : Int) ≠ 0 by decide), _, _, rfl, rfl, _, _, rfl, rfl, .inl ⟨_, rfl, _, 2147483587, rfl, rfl, (show (2147483587 : Int) ≠ 0 by decide), ?_⟩⟩⟩
    exact ⟨_, _, rfl, rfl, Int.fmod_nonneg_of_pos _ (by decide), Int.fmod_lt_of_pos _ (by decide)⟩
  · rintro σ H3 ⟨b, y, rfl, rfl, b0, b1⟩
    intro p hp
    have sp := s2.trans (same_new (o := .dK []) hp)
    -- the slice again
    refine ⟨.ref a, rfl, 63, rfl, a, _, rfl, sq_same sp hS, fun l2 hl2 => ?_⟩
    rw [ecut]
    have h2 : upd (upd (upd H l (.lst (ns.map V.int))) p (.dK [])) l2 (.lst (ns.map V.int)) l2 = some (.lst (ns.map V.int)) := upd_same
    have sl := sp.trans (same_new (o := .lst (ns.map V.int)) hl2)
    have pl2 : p ≠ l2 := ne_of_none (H := upd _ p (.dK [])) upd_same hl2
    refine ⟨l2, rfl, ⟨_, SqL.of h2⟩, fun D hD => lc_list (K := K) (a := l2) (xs := ns.map V.int) (fun i H5 => ∃ ms : List Int, ms.length ≤ i ∧ H5 = upd (upd (upd (upd H l (.lst (ns.map V.int))) p (.dK [])) l2 (.lst (ns.map V.int))) D (.lst (ms.map V.int)))
      ⟨[], Nat.le_refl _, rfl⟩ (fun i H5 _ ⟨ms, _, e⟩ => by rw [e]; refine SqL.of ?_; rw [upd_ne (ne_of_none h2 hD)]; exact h2) ?_ ?_⟩
    · rintro i x H5 hx ⟨ms, hm, rfl⟩
      have il : i < ns.length := by
        have := (List.getElem?_eq_some_iff.mp hx).1
        rwa [List.length_map] at this
      obtain ⟨z, rfl⟩ : ∃ z, x = V.int z := by
        rw [List.getElem?_map] at hx
        cases e : ns[i]? with
        | none => rw [e] at hx; cases hx
        | some z => rw [e] at hx; exact ⟨z, (Option.some.inj hx).symm⟩
      refine ⟨rfl, .int z, rfl, 10, 18, rfl, rfl, ⟨by decide, by decide, by decide⟩, _, _, rfl, rfl, _, rfl, ite2 (fun _ => ?_) (fun _ => ?_)⟩
      · refine ⟨.int z, rfl, ms.map V.int, upd_same, ?_, ms ++ [z], by rw [List.length_append]; simp; omega, ?_⟩
        · rw [List.length_map]; exact small1000 (by omega)
        · rw [upd_upd, List.map_append]; rfl
      · exact ⟨ms, by omega, rfl⟩
    · rintro H5 ⟨ms, hm, rfl⟩
      rw [List.length_map] at hm
      have hDl : upd (upd (upd (upd H l (.lst (ns.map V.int))) p (.dK [])) l2 (.lst (ns.map V.int))) D (.lst (ms.map V.int)) D = some (.lst (ms.map V.int)) := upd_same
      have sD := sl.trans (same_new (o := .lst (ms.map V.int)) hD)
      have pD : p ≠ D := ne_of_none (H := upd (upd _ p (.dK [])) l2 _) (by rw [upd_ne pl2]; exact upd_same) hD
      refine ⟨D, _, rfl, SqL.of hDl, fun c hc => ?_⟩
      have s3 := sD.trans (same_new (o := .lst (ms.map V.int).reverse) hc)
      have pc : p ≠ c := ne_of_none (H := upd (upd (upd _ p (.dK [])) l2 _) D _) (by rw [upd_ne pD, upd_ne pl2]; exact upd_same) hc
      refine ⟨.int b, rfl, by rw [upd_ne pc, upd_ne pD, upd_ne pl2]; exact upd_same, dgv c b, rfl, (show 2 ≤ 15 by omega), ?_⟩
      rw [merge_dgv]
      refine q p c _ (fun x o hx => ?_) ⟨ms.reverse, b, upd_same, ?_, by rw [List.length_reverse]; omega, b0, b1⟩ (s2.free hp) (sD.free hc)
      · rw [upd_ne (ne_of_none (s2 _ _ hx) hp)]
        exact s3 x o hx
      · rw [upd_ne pc.symm, upd_same, List.map_reverse]
theorem rd_lawB {rest : TS} {wr : WS} {N : List Str} {vs : List V} {H : Hp} {Q : VK} {Ex E1 : XK} (hN : 2 ≤ N.length) (hs : ∀ p c, SimS K (GB cls fld p c) rest wr)
    (hw : wr ⟨fun _ => False, fun d _ => d = .bl true, fun _ => False, fun _ => False⟩ ⟨none :: some (.sh .deck) :: List.replicate (N.length - 2) none, 0⟩)
    (h : spLaw K vs H Q Ex) : tSeq (tAsg (tCall (spDeckG K) [] E1 (tCons (tVar 0) tNil)) (gName 1)) rest { nx := fun _ H' => Q .non H', rt := Q } (L2.start N vs) H := by
  obtain ⟨a, ns, rfl, hS, hl, q⟩ := h
  obtain ⟨L, hL⟩ : ∃ L, N.length = L + 2 := ⟨N.length - 2, by omega⟩
  have st : L2.start N [.ref a] = some (.ref a) :: none :: List.replicate L none := by
    unfold L2.start
    rw [show N.length - ([V.ref a] : List V).length = L + 1 by simp [hL]]
    rfl
  rw [show N.length - 2 = L by omega] at hw
  rw [st]
  refine ⟨.ref a, rfl, a, ns, rfl, hS, hl, fun p c H1 s1 dk hp hc => ?_⟩
  have S : SR K (GB cls fld p c) ⟨H1, [p, c], [], none⟩ (fun _ => 0) [p, c] (some (.ref a) :: some (.ref p) :: List.replicate L none) ⟨none :: some (.sh .deck) :: List.replicate L none, 0⟩ H1 := by
    have no : ∀ (i : Nat) (x : SV), (none :: some (.sh .deck) :: List.replicate L none : List (Option SV))[i]? = some (some x) → i = 1 ∧ x = .sh .deck := fun i x e => by
      match i with
      | 0 => cases e
      | 1 => exact ⟨rfl, by injection e with e; injection e with e; exact e.symm⟩
      | i + 2 =>
        have e : (List.replicate L (none : Option SV))[i]? = some (some x) := e
        rw [List.getElem?_replicate] at e
        split at e <;> cases e
    refine ⟨by simp, fun i d e => ?_, fun i d e => ?_, fun i j ⟨d, e⟩ _ _ => ?_, fun a z => z, fun a z => z, fun a z => ?_, fun b o e _ => e, dk, fun p hp => (by cases hp), fun x hx => (by cases hx), OdOk.none (fun i ks ss z => by obtain ⟨_, e2⟩ := no i _ z; cases e2), fun a z => ?_, trivial⟩
    · obtain ⟨rfl, e2⟩ := no i _ e
      cases e2
      exact ⟨_, rfl, rfl⟩
    · obtain ⟨_, e2⟩ := no i _ e
      cases e2
    · obtain ⟨_, e2⟩ := no i _ e
      cases e2
    · exact (GB cls fld p c).dal 0 H1 dk a z
    · exact (GB cls fld p c).dnc 0 H1 dk a z
  exact hs p c _ _ _ _ _ _ S _ hw _ ⟨fun _ _ _ _ _ _ z => z.elim, fun _ _ _ _ _ _ z => z.elim, fun _ _ _ _ _ _ z => z.elim, fun v d n H' rv _ _ z => by
    have z : d = .bl true := z
    subst z
    have rv : v = .bl true := rv
    subst rv
    exact q H'⟩
end
end L3
namespace L3
open PySem PySem.Spec PyProof.Rows L2
theorem cut_to (ds : List D) (k : Nat) : cutD ds none (some (k : Int)) = ds.take k := by
  unfold cutD
  rw [HT.sIx_none, HT.sIx_nat, List.drop_zero, Nat.sub_zero]
  rcases Nat.le_total k ds.length with h | h
  · rw [Nat.min_eq_left h]
  · rw [Nat.min_eq_right h, List.take_of_length_le h, List.take_of_length_le (Nat.le_refl _)]
theorem cut_from (ds : List D) (k : Nat) : cutD ds (some (k : Int)) none = ds.drop k := by
  unfold cutD
  rw [HT.sIx_none, HT.sIx_nat]
  rcases Nat.le_total k ds.length with h | h
  · rw [Nat.min_eq_left h]
    exact List.take_of_length_le (by rw [List.length_drop]; omega)
  · rw [Nat.min_eq_right h, List.drop_of_length_le (Nat.le_refl _), List.drop_of_length_le h]; simp
theorem cut_mid (ds : List D) (j k : Nat) : cutD ds (some (j : Int)) (some (k : Int)) = (ds.take k).drop j := by
  unfold cutD
  rw [HT.sIx_nat, HT.sIx_nat]
  apply List.ext_getElem?
  intro i
  rw [List.getElem?_take, List.getElem?_drop, List.getElem?_drop, List.getElem?_take]
  by_cases a : j ≤ ds.length
  · rw [Nat.min_eq_left a]
    by_cases b : k ≤ ds.length
    · rw [Nat.min_eq_left b]
      by_cases c : j + i < k
      · rw [if_pos (by omega), if_pos c]
      · rw [if_neg (by omega), if_neg c]
    · rw [Nat.min_eq_right (by omega)]
      by_cases c : j + i < ds.length
      · rw [if_pos (by omega), if_pos (by omega)]
      · rw [if_neg (by omega), List.getElem?_eq_none (by omega)]; simp
  · rw [List.getElem?_eq_none (show ds.length ≤ j + i by omega), if_neg (by omega)]; simp
theorem cut_all (ds : List D) : cutD ds none none = ds := by
  unfold cutD
  rw [HT.sIx_none, HT.sIx_none]
  exact List.take_of_length_le (Nat.le_refl _)
/-- plain data without truth values, at most h deep -/
inductive Pl : Nat → D → Prop
  | int (h : Nat) (i : Int) : Pl h (.int i)
  | str (h : Nat) (x : Str) (hx : PyData.canLay0 (.str x) = true) : Pl h (.str x)
  | non (h : Nat) : Pl h .non
  | lst {h : Nat} {ds : List D} : (∀ d, d ∈ ds → Pl h d) → Pl (h + 1) (.lst ds)
  | tup {h : Nat} {ds : List D} : (∀ d, d ∈ ds → Pl h d) → Pl (h + 1) (.tup ds)
theorem Pl.mono {h k : Nat} {d : D} (p : Pl h d) (hk : h ≤ k) : Pl k d := by
  induction p generalizing k with
  | int h i => exact .int _ _
  | str h i hx => exact .str _ _ hx
  | non h => exact .non _
  | lst _ ih => 
    cases k with
    | zero => omega
    | succ k => exact .lst fun d hd => ih d hd (by omega)
  | tup _ ih => 
    cases k with
    | zero => omega
    | succ k => exact .tup fun d hd => ih d hd (by omega)
theorem pys_ex {h : Nat} : ∀ {ds : List D}, (∀ d, d ∈ ds → ∃ p, d.py = some p ∧ p.canLay0 = true ∧ p.depth ≤ h) → ∃ ps, D.pys ds = some ps ∧ PyData.canLayAll0 ps = true ∧ PyData.depthAll ps ≤ h
  | [], _ => ⟨[], by simp [D.pys], rfl, Nat.zero_le _⟩
  | d :: ds, hd => by
    obtain ⟨p, e1, e2, e3⟩ := hd d List.mem_cons_self
    obtain ⟨ps, f1, f2, f3⟩ := pys_ex (ds := ds) fun d' h' => hd d' (List.mem_cons_of_mem _ h')
    refine ⟨p :: ps, by simp [D.pys, e1, f1], by simp [PyData.canLayAll0, e2, f2], ?_⟩
    simp only [PyData.depthAll]
    omega
theorem Pl.py {h : Nat} {d : D} (p : Pl h d) : ∃ p, d.py = some p ∧ p.canLay0 = true ∧ p.depth ≤ h := by
  induction p with
  | int h i => exact ⟨_, py_int i, rfl, Nat.zero_le _⟩
  | str h i hx => exact ⟨_, py_str i, hx, Nat.zero_le _⟩
  | non h => exact ⟨_, py_non, rfl, Nat.zero_le _⟩
  | lst _ ih =>
    obtain ⟨ps, f1, f2, f3⟩ := pys_ex ih
    exact ⟨.list ps, by simp [D.py, f1], by simpa [PyData.canLay0] using f2, Nat.succ_le_succ f3⟩
  | tup _ ih =>
    obtain ⟨ps, f1, f2, f3⟩ := pys_ex ih
    exact ⟨.tuple ps, by simp [D.py, f1], by simpa [PyData.canLay0] using f2, Nat.succ_le_succ f3⟩
theorem eqvAll_iff {ds : List D} (ih : ∀ d, d ∈ ds → ∀ (k : Nat) (e : D) (p q : PyData), Pl k e → d.py = some p → e.py = some q → (PyData.eqv p q = true ↔ d = e)) : ∀ {es : List D} {ps qs : List PyData} {k : Nat}, (∀ e, e ∈ es → Pl k e) → D.pys ds = some ps → D.pys es = some qs → (PyData.eqvAll ps qs = true ↔ ds = es) := by
  induction ds with
  | nil =>
    intro es ps qs k he e1 e2
    have e1 : ps = [] := by simpa [D.pys] using e1.symm
    subst e1
    cases es with
    | nil =>
      have e2 : qs = [] := by simpa [D.pys] using e2.symm
      subst e2
      simp [PyData.eqvAll]
    | cons e es =>
      simp only [D.pys] at e2
      obtain ⟨q, q1, q2⟩ := Option.bind_eq_some_iff.mp e2
      obtain ⟨qs', q3, rfl⟩ := Option.map_eq_some_iff.mp q2
      simp [PyData.eqvAll]
  | cons d ds ih2 =>
    intro es ps qs k he e1 e2
    simp only [D.pys] at e1
    obtain ⟨p, p1, p2⟩ := Option.bind_eq_some_iff.mp e1
    obtain ⟨ps', p3, rfl⟩ := Option.map_eq_some_iff.mp p2
    cases es with
    | nil =>
      have e2 : qs = [] := by simpa [D.pys] using e2.symm
      subst e2
      simp [PyData.eqvAll]
    | cons e es =>
      simp only [D.pys] at e2
      obtain ⟨q, q1, q2⟩ := Option.bind_eq_some_iff.mp e2
      obtain ⟨qs', q3, rfl⟩ := Option.map_eq_some_iff.mp q2
      have a := ih d List.mem_cons_self k e p q (he e List.mem_cons_self) p1 q1
      have b := ih2 (fun d' h' => ih d' (List.mem_cons_of_mem _ h')) (fun e' h' => he e' (List.mem_cons_of_mem _ h')) p3 q3
      simp only [PyData.eqvAll, Bool.and_eq_true, a, b, List.cons.injEq]
theorem Pl.eqv {h : Nat} {d : D} (pd : Pl h d) : ∀ (k : Nat) (e : D) (p q : PyData), Pl k e → d.py = some p → e.py = some q → (PyData.eqv p q = true ↔ d = e) := by
  induction pd with
  | int h i =>
    intro k e p q pe e1 e2
    rw [py_int] at e1
    cases e1
    cases pe with
    | int _ j => rw [py_int] at e2; cases e2; simp [PyData.eqv]
    | str _ j _ => rw [py_str] at e2; cases e2; simp [PyData.eqv]
    | non => rw [py_non] at e2; cases e2; simp [PyData.eqv]
    | lst _ => simp only [D.py] at e2; obtain ⟨ps, _, rfl⟩ := Option.map_eq_some_iff.mp e2; simp [PyData.eqv]
    | tup _ => simp only [D.py] at e2; obtain ⟨ps, _, rfl⟩ := Option.map_eq_some_iff.mp e2; simp [PyData.eqv]
  | str h i hx =>
    intro k e p q pe e1 e2
    rw [py_str] at e1
    cases e1
    cases pe with
    | int _ j => rw [py_int] at e2; cases e2; simp [PyData.eqv]
    | str _ j _ => rw [py_str] at e2; cases e2; simp [PyData.eqv]
    | non => rw [py_non] at e2; cases e2; simp [PyData.eqv]
    | lst _ => simp only [D.py] at e2; obtain ⟨ps, _, rfl⟩ := Option.map_eq_some_iff.mp e2; simp [PyData.eqv]
    | tup _ => simp only [D.py] at e2; obtain ⟨ps, _, rfl⟩ := Option.map_eq_some_iff.mp e2; simp [PyData.eqv]
  | non h =>
    intro k e p q pe e1 e2
    rw [py_non] at e1
    cases e1
    cases pe with
    | int _ j => rw [py_int] at e2; cases e2; simp [PyData.eqv]
    | str _ j _ => rw [py_str] at e2; cases e2; simp [PyData.eqv]
    | non => rw [py_non] at e2; cases e2; simp [PyData.eqv]
    | lst _ => simp only [D.py] at e2; obtain ⟨ps, _, rfl⟩ := Option.map_eq_some_iff.mp e2; simp [PyData.eqv]
    | tup _ => simp only [D.py] at e2; obtain ⟨ps, _, rfl⟩ := Option.map_eq_some_iff.mp e2; simp [PyData.eqv]
  | @lst h ds hd ih =>
    intro k e p q pe e1 e2
    simp only [D.py] at e1
    obtain ⟨ps, f1, rfl⟩ := Option.map_eq_some_iff.mp e1
    cases pe with
    | int _ j => rw [py_int] at e2; cases e2; simp [PyData.eqv]
    | str _ j _ => rw [py_str] at e2; cases e2; simp [PyData.eqv]
    | non => rw [py_non] at e2; cases e2; simp [PyData.eqv]
    | lst he =>
      simp only [D.py] at e2
      obtain ⟨qs, f2, rfl⟩ := Option.map_eq_some_iff.mp e2
      simp only [PyData.eqv, D.lst.injEq]
      exact eqvAll_iff ih he f1 f2
    | tup _ => simp only [D.py] at e2; obtain ⟨ps, _, rfl⟩ := Option.map_eq_some_iff.mp e2; simp [PyData.eqv]
  | @tup h ds hd ih =>
    intro k e p q pe e1 e2
    simp only [D.py] at e1
    obtain ⟨ps, f1, rfl⟩ := Option.map_eq_some_iff.mp e1
    cases pe with
    | int _ j => rw [py_int] at e2; cases e2; simp [PyData.eqv]
    | str _ j _ => rw [py_str] at e2; cases e2; simp [PyData.eqv]
    | non => rw [py_non] at e2; cases e2; simp [PyData.eqv]
    | lst _ => simp only [D.py] at e2; obtain ⟨ps, _, rfl⟩ := Option.map_eq_some_iff.mp e2; simp [PyData.eqv]
    | tup he =>
      simp only [D.py] at e2
      obtain ⟨qs, f2, rfl⟩ := Option.map_eq_some_iff.mp e2
      simp only [PyData.eqv, D.tup.injEq]
      exact eqvAll_iff ih he f1 f2
/-- == of plain data -/
theorem eqD_pl {neg : Bool} {d e : D} (hd : Pl 32 d) (he : Pl 32 e) {Q : RD → Prop} (q1 : d = e → Q (.sh (.bl (!neg)))) (q2 : d ≠ e → Q (.sh (.bl neg))) : eqD neg d e Q := by
  obtain ⟨p, e1, c1, d1⟩ := hd.py
  obtain ⟨q, e2, c2, d2⟩ := he.py
  have iff := hd.eqv 32 e p q he e1 e2
  refine ⟨p, q, e1, e2, ?_, ?_, ?_⟩
  · unfold SeqAt.shaped; rw [c1, decide_eq_true (by omega)]; rfl
  · unfold SeqAt.shaped; rw [c2, decide_eq_true (by omega)]; rfl
  · by_cases z : d = e
    · rw [iff.mpr z]
      have := q1 z
      cases neg <;> exact this
    · have f : PyData.eqv p q = false := by
        cases y : PyData.eqv p q with
        | false => rfl
        | true => exact (z (iff.mp y)).elim
      rw [f]
      have := q2 z
      cases neg <;> exact this
theorem Pl.ints {h : Nat} (l : List Int) : Pl (h + 1) (.lst (l.map D.int)) := .lst fun d hd => by
  obtain ⟨i, _, rfl⟩ := List.mem_map.mp hd
  exact .int _ _
theorem Pl.tints {h : Nat} (l : List Int) : Pl (h + 1) (.tup (l.map D.int)) := .tup fun d hd => by
  obtain ⟨i, _, rfl⟩ := List.mem_map.mp hd
  exact .int _ _
theorem Pl.map {α : Type} {f : α → D} {h : Nat} {l : List α} (hf : ∀ a ∈ l, Pl h (f a)) : Pl (h + 1) (.lst (l.map f)) := .lst fun d hd => by
  obtain ⟨i, hi, rfl⟩ := List.mem_map.mp hd
  exact hf i hi
theorem Pl.tmap {α : Type} {f : α → D} {h : Nat} {l : List α} (hf : ∀ a ∈ l, Pl h (f a)) : Pl (h + 1) (.tup (l.map f)) := .tup fun d hd => by
  obtain ⟨i, hi, rfl⟩ := List.mem_map.mp hd
  exact hf i hi
theorem Pl.nil {h : Nat} : Pl (h + 1) (.lst []) := .lst fun d hd => by cases hd
theorem Pl.tnil {h : Nat} : Pl (h + 1) (.tup []) := .tup fun d hd => by cases hd
theorem ints_inj {a b : List Int} : a.map D.int = b.map D.int ↔ a = b := by
  constructor
  · intro h
    induction a generalizing b with
    | nil => cases b with
      | nil => rfl
      | cons _ _ => simp at h
    | cons x a ih => cases b with
      | nil => simp at h
      | cons y b =>
        simp only [List.map_cons, List.cons.injEq, D.int.injEq] at h
        rw [h.1, ih h.2]
  · rintro rfl; rfl
theorem cut_from1 (ds : List D) (k : Nat) : cutD ds (some ((k : Int) + 1)) none = ds.drop (k + 1) := cut_from ds (k + 1)
theorem cut_tl (ds : List D) : cutD ds (some 1) none = ds.drop 1 := cut_from ds 1
theorem cut_to1 (ds : List D) (k : Nat) : cutD ds none (some ((k : Int) + 1)) = ds.take (k + 1) := cut_to ds (k + 1)
theorem atI_zero {α : Type} (x : α) (xs : List α) : L2.atI (x :: xs) 0 = some x := L2.atI_nat (j := 0) rfl
theorem atI_getLast {α : Type} (xs : List α) : L2.atI xs (-1) = xs.getLast? := by
  unfold L2.atI L2.ixN
  cases xs with
  | nil => simp
  | cons x xs =>
    have e1 : ¬ (0 : Int) ≤ -1 := by decide
    have e2 : -(((x :: xs).length : Nat) : Int) ≤ -1 := by simp; omega
    have e3 : (-1 + (((x :: xs).length : Nat) : Int)).toNat = xs.length := by simp; omega
    rw [if_neg e1, if_pos e2, e3, List.getLast?_eq_getElem?]
    simp
theorem atI_snoc {α : Type} (x : α) (xs : List α) : L2.atI (xs ++ [x]) (-1) = some x := by rw [atI_getLast]; simp
end L3
namespace L3
open PySem PySem.Spec PyProof.Rows L2
section
variable {X : Cx} {G : Gx} {K : PySem.W.Frag} {e1 e2 : Expr} {t1 t2 : TE} {w1 w2 : WE} {x y' : Str} {px py' pt pt2 pos : Pos}
theorem sim_parC2 {ta tb : TE} {wa wb : WE} {i j : Nat} {oi oj : Bool} (ha : ∀ E, SimE K G E ta wa) (hb : ∀ E, SimE K G E tb wb) : SimS K G (tAsg (tTup (tCons ta (tCons tb tNil))) (gTup K 2 (gCons (gName i) (gCons (gName j) gNil)))) (wPar2 i oi j oj wa wb) := fun E am M σ δ H S D3 q De R => by
  refine ha E am M σ δ H S _ q _ fun x rx δ1 H1 S1 e1 o1 v1 q => ?_
  by_cases k1 : okp oi rx
  · obtain ⟨M1, i1, T1, p1, n1⟩ := v1.pv S1 k1
    obtain ⟨l1, G1, b1⟩ := p1.ghost T1
    refine hb (E.add l1) am M1 σ δ1 H1 G1 _ q _ fun y ry δ2 H2 S2 e2 o2 v2 ⟨_, k2, q⟩ => ?_
    obtain ⟨M2, i2, T2, p2, n2⟩ := v2.pv S2 k2
    have q1 := b1 M2 δ2 H2 T2 e2 o2 i2
    obtain ⟨am1, U1, f1⟩ := PV.put (i := i) (T2.drop S.ok) q1 (okp_ni k1)
    have q2 := f1 y oj ry.d (fun z1 z2 e => by
      subst z1 z2
      obtain ⟨p, e', hp⟩ := p1.ref
      exact n2 rfl p (by rw [e, e']) hp) p2.of_add
    obtain ⟨am2, U2, _⟩ := PV.put (i := j) U1 q2 (okp_ni k2)
    exact ⟨(by decide : 2 ≤ sizeLine), fun p hp => ⟨p, [x, y], rfl, .inl (.inl upd_same), rfl, x, [y], rfl, y, [], rfl, rfl, R.nx _ _ _ _ _ (U2.grow (same_new hp)) q⟩⟩
  · refine hb E am M σ δ1 H1 S1 _ q _ fun y ry δ2 H2 S2 e2 o2 v2 ⟨k, _⟩ => (k1 k).elim
theorem ds_parC2 (K : PySem.W.Frag) (i' : Nat) (oi : Bool) (j : Nat) (oj : Bool) {kt k2} (hc : X.calm = true) (hN : X.N.Nodup) (h1 : DE X G e1 t1 w1) (h2 : DE X G e2 t2 w2) (hi : X.N[i']? = some x := by rfl) (hj : X.N[j]? = some y' := by rfl)
    (hx : Loc X.env.scope x := by first | exact Or.inl rfl | exact Or.inr rfl) (hy : Loc X.env.scope y' := by first | exact Or.inl rfl | exact Or.inr rfl) (hfx : X.fn x = true ∨ X.env.scope.names.lookup x = some .local := by first | exact .inl rfl | exact .inr rfl) (hfy : X.fn y' = true ∨ X.env.scope.names.lookup y' = some .local := by first | exact .inl rfl | exact .inr rfl)
    (hst : starEach [e1, e2] X.env = (false, eval e1 X.env) :: starEach [e2] X.env := by rfl) (hst2 : starEach [e2] X.env = (false, eval e2 X.env) :: starEach [] X.env := by rfl)
    (hw : swappedStores [.Tuple [.Name x px, .Name y' py'] kt pt] (.Tuple [e1, e2] k2 pt2) X.env = pure none := by rfl)
    (hs : swapsWithSole [.Tuple [.Name x px, .Name y' py'] kt pt] (.Tuple [e1, e2] k2 pt2) pos.line X.env = pure false := by rfl)
    (h3 : (assignEach [.Tuple [.Name x px, .Name y' py'] kt pt] X.env).map (·.2) = [assign (.Tuple [.Name x px, .Name y' py'] kt pt) X.env] := by rfl)
    (hs1 : (assignEach [.Name x px, .Name y' py'] X.env).map (·.2) = assign (.Name x px) X.env :: (assignEach [.Name y' py'] X.env).map (·.2) := by rfl) (hs2 : (assignEach [.Name y' py'] X.env).map (·.2) = assign (.Name y' py') X.env :: (assignEach [] X.env).map (·.2) := by rfl)
    (hn : (assignEach [.Name x px, .Name y' py'] X.env).length = 2 := by rfl) (hst' : (assignEach [.Name x px, .Name y' py'] X.env).findIdx? (·.1) = none := by rfl) (hK : X.K = K := by rfl) :
    DS X G (.Assign [.Tuple [.Name x px, .Name y' py'] kt pt] (.Tuple [e1, e2] k2 pt2) pos) (tAsg (tTup (tCons t1 (tCons t2 tNil))) (gTup K 2 (gCons (gName i') (gCons (gName j) gNil)))) (wPar2 i' oi j oj w1 w2) := by
  subst hK
  exact ⟨ps_asg (pe_tup (pa_cons h1.pe (pa_cons h2.pe pa_nil hst2) hst)) (pg_tup hc (pgs_cons (pg_name hN hi hx hfx) (pgs_cons (pg_name hN hj hy hfy) pgs_nil hs2) hs1) hn hst') hs hw h3, sim_parC2 h1.sim h2.sim⟩
end
end L3
namespace L3
open PySem PySem.Spec PyProof.Rows L2
section
variable {X : Cx} {G : Gx} {K : PySem.W.Frag} {E : Ent} {te ti : TE} {we wi wo : WE} {e i o : Expr} {pos apos : Pos}
/-- never reached -/
@[simp] def wWall : WS := fun _ _ => False
theorem ds_wall {st : Stmt} : DS X G st (fun _ _ _ => False) wWall := ⟨⟨fun _ _ _ _ _ _ h => h.elim⟩, fun E am M σ δ H S D3 q De R => q.elim⟩
@[simp] def wSetIx (k : Nat) (wv wi : WE) : WS := fun De δ => wv δ fun r δ1 => ¬ r.bor ∧ (∃ ds0, ownL δ1 k ds0) ∧ wi δ1 fun s δ2 => ∃ ds, ownL δ2 k ds ∧ isI s.d fun z => ∃ j, ixN ds.length z = some j ∧ De.nx ⟨δ2.sl.set k (some (.ow (.lst (ds.set j r.d)))), δ2.n⟩
theorem sim_setIx {k : Nat} (h : ∀ E, SimE K G E te we) (h' : ∀ E, SimE K G E ti wi) : SimS K G (tAsg te (gSub (tVar k) ti rSetL)) (wSetIx k we wi) := fun E am M σ δ H S D3 q De R => by
  refine h E am M σ δ H S _ q _ fun x r δ1 H1 S1 e1 o1 rv ⟨nb, ⟨ds0, h0⟩, q⟩ => ?_
  obtain ⟨a1, _⟩ := S1.ow k _ h0
  refine ⟨_, a1, ?_⟩
  refine h' E am M σ δ1 H1 S1 _ q _ fun z s δ2 H2 S2 e2 o2 sv ⟨ds, h1, q⟩ => ?_
  obtain ⟨b1, b2, b3, b4, xs, b5, b6⟩ := S2.ow k _ h1
  obtain ⟨zi, es, rfl, j, hj, q⟩ := isI_of S2 sv.k q
  have rr := (rv.k.later (δ2 := δ2) S1 e2 (fun b => (nb b).elim)).rep nb
  refine ⟨am k, xs, zi, j, rfl, rfl, b5, by rw [b6.length]; exact hj, R.nx am M _ _ _ (S2.mut (d' := .lst (ds.set j r.d)) h1 ⟨xs.set j x, upd_same, ?_⟩ rfl) q⟩
  rw [mask_upd b2]
  exact b6.set j rr
theorem ds_setIx (k : Nat) {x : Str} {px pos2 : Pos} (he : DE X G e te we) (hx : PE X (.Name x px) (tVar k)) (hi : DE X G i ti wi) (ha : ∀ v, assign (.Subscript (.Name x px) i pos2) X.env v = (do
      let ov ← holding [v] (eval (.Name x px) X.env)
      let iv ← holding [v, ov] (eval i X.env)
      standAt pos2
      holding [v, ov, iv] (setItem ov iv v)
      release [v, ov, iv] []) := by intro _; rfl) (hs : swapsWithSole [.Subscript (.Name x px) i pos2] e pos.line X.env = pure false := by rfl) (hw : swappedStores [.Subscript (.Name x px) i pos2] e X.env = pure none := by rfl)
    (h1 : (assignEach [.Subscript (.Name x px) i pos2] X.env).map (·.2) = [assign (.Subscript (.Name x px) i pos2) X.env] := by rfl) :
    DS X G (.Assign [.Subscript (.Name x px) i pos2] e pos) (tAsg te (gSub (tVar k) ti rSetL)) (wSetIx k we wi) :=
  ⟨ps_asg he.pe (pg_sub hx hi.pe set_list ha) hs hw h1, sim_setIx he.sim hi.sim⟩
def isS : D → (Str → Prop) → Prop
  | .str i, Q => Q i
  | _, _ => False
@[simp] theorem isS_0 (i : Str) (Q : Str → Prop) : isS (.str i) Q = Q i := rfl
/-- a text's method with one argument -/
@[simp] def wM1 (f : F2) (a b : WE) : WE := fun δ Q => a δ fun x δ1 => isS x.d fun _ => b δ1 fun y δ2 => (x.bor → δ2.sl = δ1.sl) ∧ f x.d y.d fun q => Q q δ2
theorem sim_m1 {r : V → List V → Hp → VK → Prop} {f : F2} (hs : OpS K G (fun x y H Q => r x [y] H Q) f) (ha : SimE K G E te we) (hb : SimE K G E ti wi) : SimE K G E (tM1 r te ti) (wM1 f we wi) := fun am M σ δ H S Qd h Q k => by
  refine ha am M σ δ H S _ h _ fun x rx δ1 H1 S1 e1 o1 v1 h => ?_
  have b0 := v1.k.rb S1
  cases er : rx.d <;> rw [er] at h <;> first | exact h.elim | skip
  have ex := b0
  rw [er] at ex
  refine ⟨⟨_, ex.str⟩, ?_⟩
  refine hb am M σ δ1 H1 S1 _ h _ fun y ry δ2 H2 S2 e2 o2 v2 h => ?_
  obtain ⟨st, h⟩ := h
  have bx := (v1.k.later S1 e2 st).rb S2
  rw [er] at bx
  refine hs M H2 x y _ _ S2.al bx (v2.k.rb S2) _ h _ fun v q H3 sm rn hq => ?_
  exact k v q δ2 H3 (S2.grow sm) ((e1.trans o1 e2).trans (fun i z => o1 i (o2 i z)) (Ext.of (δ := δ2) sm)) (fun i z => o1 i (o2 i z)) (rn.rv S2 sm) hq
def strsOf : D → (List Str → Prop) → Prop
  | .lst ds, Q => ∃ ys : List Str, ds = ys.map D.str ∧ Q ys
  | .tup ds, Q => ∃ ys : List Str, ds = ys.map D.str ∧ Q ys
  | _, _ => False
@[simp] theorem strsOf_l (ds : List D) (Q : List Str → Prop) : strsOf (.lst ds) Q = ∃ ys : List Str, ds = ys.map D.str ∧ Q ys := rfl
@[simp] theorem strsOf_t (ds : List D) (Q : List Str → Prop) : strsOf (.tup ds) Q = ∃ ys : List Str, ds = ys.map D.str ∧ Q ys := rfl
def fJoin : F2
  | .str a, d, Q => strsOf d fun ys => (ys.map (·.length)).sum + ys.length * a.length ≤ 16777216 ∧ Q (.sh (.str (Txt.join a ys)))
  | _, _, _ => False
@[simp] theorem fJoin_0 (a : Str) (d : D) (Q : RD → Prop) : fJoin (.str a) d Q = strsOf d fun ys => (ys.map (·.length)).sum + ys.length * a.length ≤ 16777216 ∧ Q (.sh (.str (Txt.join a ys))) := rfl
def rJoin (K : PySem.W.Frag) : V → List V → Hp → VK → Prop := fun x xs H Q => ∃ a p, ∃ ys : List Str, x = .str a ∧ xs = [.ref p] ∧ (SqL K H p (ys.map V.str) ∨ SqT K H p (ys.map V.str)) ∧ (ys.map (·.length)).sum + ys.length * a.length ≤ 16777216 ∧ Q (.str (Txt.join a ys)) H
theorem ops_join : OpS K G (fun x y H Q => rJoin K x [y] H Q) fJoin := fun M H x y d e al bx by' Qd h Q k => by
  cases d <;> first | exact h.elim | skip
  cases e <;> first | exact h.elim | skip
  · obtain ⟨ys, rfl, hz, h⟩ := h
    obtain ⟨p, xs, rfl, hp, r⟩ := by'.lst
    rw [r.strs] at hp
    exact ⟨_, p, ys, bx.str, rfl, .inl (SqL.of hp), hz, k _ _ H (Same.refl _) rn_str h⟩
  · obtain ⟨ys, rfl, hz, h⟩ := h
    obtain ⟨p, xs, rfl, hp, r⟩ := by'.tup
    rw [r.strs] at hp
    exact ⟨_, p, ys, bx.str, rfl, .inr hp, hz, k _ _ H (Same.refl _) rn_str h⟩
theorem de_join (K : PySem.W.Frag) (ho : DE X G o te we) (he : DE X G e ti wi) (hs : starEach [e] X.env = [(false, eval e X.env)] := by rfl) (hbase : attributeBase o "join" X.env (eval o X.env) = eval o X.env := by rfl) (hline : (apos.endLine == pos.line) = true := by rfl) (hK : X.K = K := by rfl) :
    DE X G (.Call (.Attribute o "join" apos) [e] [] pos) (tM1 (rJoin K) te ti) (wM1 fJoin we wi) := by
  subst hK
  exact ⟨pe_join ho.pe he.pe hs hbase hline, fun E => sim_m1 ops_join (ho.sim E) (he.sim E)⟩
def fStr : FC
  | [.int i], Q => i.natAbs.log2 < 1920 ∧ Q (.sh (.str (toString i)))
  | [.str i], Q => Q (.sh (.str i))
  | _, _ => False
@[simp] theorem fStr_0 (i : Int) (Q : RD → Prop) : fStr [.int i] Q = (i.natAbs.log2 < 1920 ∧ Q (.sh (.str (toString i)))) := rfl
@[simp] theorem fStr_1 (i : Str) (Q : RD → Prop) : fStr [.str i] Q = (Q (.sh (.str i))) := rfl
theorem call_strA : CallR X (.type "str") (fun xs H Q => (∃ i, xs = [.int i] ∧ i.natAbs.log2 < 1920 ∧ Q (.str (toString i)) H) ∨ ∃ a, xs = [.str a] ∧ Q (.str a) H) := call_str_int.or SkE.call_str_str
theorem calls_str : CallS K G (fun xs H Q => (∃ i, xs = [.int i] ∧ i.natAbs.log2 < 1920 ∧ Q (.str (toString i)) H) ∨ ∃ a, xs = [.str a] ∧ Q (.str a) H) fStr := fun M H vs ds al b Qd h Q k => by
  match ds, h with
  | [.int i], ⟨h1, h⟩ =>
    obtain ⟨v, rfl, b1⟩ := b.one
    exact .inl ⟨i, by rw [b1.int], h1, k _ _ H (Same.refl _) rn_str h⟩
  | [.str i], h =>
    obtain ⟨v, rfl, b1⟩ := b.one
    exact .inr ⟨i, by rw [b1.str], k _ _ H (Same.refl _) rn_str h⟩
end
section
variable {K : PySem.W.Frag} {x qual : Str} {params : Arguments} {body : List Stmt} {scope : Scope} {dvs : List V} {kws : List (Str × V)} {f : Addr} {fd : FuncData} {ps : List Str}
theorem FunD.kb (F : FunD K x qual params body scope dvs kws f fd) (n : Nat) (ks : List Str) (perm : List Nat) (hd : dvs ≠ [])
    (h : ∀ (T : Addr) (kV doc pm : Value) (an : Option Addr) (cdv ct : Value) (us its ws : List Value), us.length = n → its.length = dvs.length → ws.length = ks.length →
      ∃ k, bindArgs (PySem.W.fnOf x qual params body scope (.ref T) kV doc pm an cdv ct) ⟨us, ks.zip ws⟩ = seqItems? (.ref T) >>= k ∧ k (some its.toArray) = pure (ps.zip (pick perm (us ++ ws ++ its)))) : ∃ its, Vals dvs its ∧ KB K fd ps n ks perm its := by
  obtain ⟨oc, od, dV, kV, doc, pm, an, cdv, ct, osl, rfl, lk, hcd, hD, hK⟩ := F.ex
  rcases hD with ⟨e, _⟩ | ⟨_, T, o, its, m, rfl, lT, oT, rT⟩
  · exact absurd e hd
  · refine ⟨its, rT, fun s us ws X l1 l2 => ?_⟩
    obtain ⟨k, e1, e2⟩ := h T kV doc pm an cdv ct us its ws l1 rT.length.symm l2
    refine BindsTo.of_looks fun M => ?_
    rw [e1]
    exact looks_items X lT oT (.of_pure e2)
/-- an empty tuple that stands in K -/
theorem rep_tup0 {G : Gx} {a : Addr} {o : Obj} {n : Nat} (l : K.lookup a = some o) (c : o.cls = .type "tuple") (d : o.data = .seq #[] n) : ∀ H, Rep K G H (.ref a) (.tup []) := fun H => ⟨a, [], rfl, .inr ⟨o, #[], n, l, c, d, Nat.zero_le _, .nil⟩, rfl⟩
theorem Dfl.cons {G : Gx} {v : V} {d : D} {vs : List V} {ds : List D} (h : ∀ H, Rep K G H v d) (t : Dfl K G vs ds) : Dfl K G (v :: vs) (d :: ds) := fun H => ⟨v, vs, rfl, h H, t H⟩
end
end L3
namespace L3
open PySem PySem.Spec PyProof.Rows L2
/-- an own list is given away, where it is one -/
@[simp] def freeAt (sl : List (Option SV)) (i : Nat) : List (Option SV) := match sl[i]? with
  | some (some (.ow d)) => sl.set i (some (.sh d))
  | some (some (.od ks ss)) => sl.set i (some (.sh (.dct ks (ss.map SubV.dat))))
  | _ => sl
@[simp] theorem SubV.dat_0 (d : D) : SubV.dat (.sh d) = d := rfl
@[simp] theorem SubV.dat_1 (ds : List D) : SubV.dat (.ol ds) = .lst ds := rfl
@[simp] def wFreeA (i : Nat) (w : WS) : WS := fun De δ => w De ⟨freeAt δ.sl i, δ.n⟩
section
variable {X : Cx} {G : Gx} {K : PySem.W.Frag} {E : Ent} {sts : List Stmt} {t : TS} {w : WS}
theorem sim_freeA {i : Nat} (h : SimS K G t w) : SimS K G t (wFreeA i w) := fun E am M σ δ H S D3 q De R => by
  unfold wFreeA freeAt at q
  cases e : δ.sl[i]? with
  | none => rw [e] at q; exact h E am M σ δ H S D3 q De R
  | some o =>
    cases o with
    | none => rw [e] at q; exact h E am M σ δ H S D3 q De R
    | some sv =>
      cases sv with
      | sh d => rw [e] at q; exact h E am M σ δ H S D3 q De R
      | ow d =>
        rw [e] at q
        obtain ⟨M', _, S'⟩ := S.free e
        exact h E am M' σ _ H S' D3 q De R
      | od ks ss =>
        rw [e] at q
        obtain ⟨M', _, S'⟩ := S.freeOd e
        exact h E am M' σ _ H S' D3 q De R
theorem dss_freeA (i : Nat) (h1 : DSs X G sts t w) : DSs X G sts t (wFreeA i w) := ⟨h1.ps, sim_freeA h1.sim⟩
end
/-- a text of at most k signs -/
def OkS (k : Nat) (x : Str) : Prop := x.length ≤ k ∧ ∀ c ∈ x.cps.toList, c < 0x110000
theorem OkS.mono {k l : Nat} {x : Str} (h : OkS k x) (hl : k ≤ l) : OkS l x := ⟨Nat.le_trans h.1 hl, h.2⟩
theorem OkS.of {k : Nat} {x : Str} (h : decide (x.length ≤ k) = true) (h' : (x.cps.toList.all fun c => decide (c < 0x110000)) = true) : OkS k x := ⟨of_decide_eq_true h, fun c hc => of_decide_eq_true (List.all_eq_true.mp h' c hc)⟩
theorem OkS.one {c : Nat} (h : c < 0x110000) : OkS 1 ⟨#[c]⟩ := ⟨Nat.le_refl _, fun d hd => by
  have : d = c := by simpa using hd
  rw [this]; exact h⟩
theorem app_cps (x y : Str) : (x ++ y).cps.toList = x.cps.toList ++ y.cps.toList := by
  show (x.cps ++ y.cps).toList = _
  simp
theorem app_len (x y : Str) : (x ++ y).length = x.length + y.length := by
  show (x.cps ++ y.cps).size = _
  simp [Str.length]
theorem OkS.app {k l : Nat} {x y : Str} (h : OkS k x) (h' : OkS l y) : OkS (k + l) (x ++ y) := ⟨by rw [app_len]; exact Nat.add_le_add h.1 h'.1, fun c hc => by
  rw [app_cps] at hc
  rcases List.mem_append.mp hc with z | z
  · exact h.2 c z
  · exact h'.2 c z⟩
theorem OkS.joinS {k a : Nat} {sep : Str} (hs : OkS a sep) : ∀ {ys : List Str}, (∀ y ∈ ys, OkS k y) → OkS (ys.length * (k + a)) (Str.join sep ys)
  | [], _ => ⟨Nat.zero_le _, fun c hc => by simp [Str.join, Str.empty] at hc⟩
  | [y], h => (h y (by simp)).mono (by simp)
  | x :: y :: r, h => by
    have ih := OkS.joinS hs (ys := y :: r) fun z hz => h z (List.mem_cons_of_mem _ hz)
    have := ((h x List.mem_cons_self).app hs).app ih
    refine OkS.mono (show OkS _ (x ++ sep ++ Str.join sep (y :: r)) from this) ?_
    simp only [List.length_cons, Nat.add_mul]
    omega
theorem OkS.join {k a : Nat} {sep : Str} (hs : OkS a sep) {ys : List Str} (h : ∀ y ∈ ys, OkS k y) : OkS (ys.length * (k + a)) (Txt.join sep ys) := by
  have e : Txt.join sep ys = Str.join sep ys := PySem.StrLaws.glued_eq_join sep ys
  rw [e]; exact OkS.joinS hs h
theorem OkS.cut {k : Nat} {x : Str} (h : OkS k x) (lo hi : Option Int) : OkS k (cutS x lo hi) := by
  refine ⟨Nat.le_trans ?_ h.1, fun c hc => h.2 c ?_⟩
  · unfold cutS Str.length
    simp
    omega
  · unfold cutS at hc
    simp at hc
    exact List.mem_of_mem_drop (List.mem_of_mem_take hc)
theorem sum_len {k : Nat} : ∀ {ys : List Str}, (∀ y ∈ ys, y.length ≤ k) → (ys.map (·.length)).sum ≤ ys.length * k
  | [], _ => by simp
  | y :: r, h => by
    have := sum_len (ys := r) fun z hz => h z (List.mem_cons_of_mem _ hz)
    have := h y List.mem_cons_self
    simp only [List.map_cons, List.sum_cons, List.length_cons, Nat.add_mul]
    omega
theorem OkS.lay {k : Nat} {x : Str} (h : OkS k x) : PyData.canLay0 (.str x) = true := by
  show PyData.strOk x = true
  unfold PyData.strOk
  rw [Array.all_eq_true']
  intro c hc
  exact decide_eq_true (h.2 c (by simpa using hc))
theorem Sh.str {k : Nat} {x : Str} (h : OkS k x) : Sh (.str x) (.str x) 0 (10 * k + 2) where
  py := py_str x
  sw := rfl
  nd := rfl
  dp := Nat.le_refl _
  ln := by
    have := PySem.StrLaws.reprText_len x fun c hc => Nat.lt_trans (h.2 c hc) (by decide)
    have := h.1
    show (reprText x).length ≤ _
    omega
theorem ShAll.strs {k : Nat} : ∀ {ns : List Str}, (∀ n ∈ ns, OkS k n) → ShAll (ns.map D.str) (ns.map PyData.str) 0 ((10 * k + 4) * ns.length)
  | [], _ => .nil
  | n :: ns, h => by
    have := ShAll.cons (Sh.str (h n List.mem_cons_self)) (ShAll.strs (ns := ns) fun m hm => h m (List.mem_cons_of_mem _ hm)) (Nat.le_refl _)
    refine ⟨this.py, this.sw, this.nd, this.dp, Nat.le_trans this.ln ?_⟩
    simp only [List.length_cons, Nat.mul_add]
    omega
theorem Pl.strs {k h : Nat} {l : List Str} (hl : ∀ x ∈ l, OkS k x) : Pl (h + 1) (.lst (l.map D.str)) := .lst fun d hd => by
  obtain ⟨i, hi, rfl⟩ := List.mem_map.mp hd
  exact .str _ _ (hl i hi).lay
theorem Pl.tstrs {k h : Nat} {l : List Str} (hl : ∀ x ∈ l, OkS k x) : Pl (h + 1) (.tup (l.map D.str)) := .tup fun d hd => by
  obtain ⟨i, hi, rfl⟩ := List.mem_map.mp hd
  exact .str _ _ (hl i hi).lay
theorem OkS.int {i : Int} {k : Nat} (hk : 0 < k) (h : i.natAbs < 10 ^ k) : OkS (k + 1) (Str.ofString (toString i)) := by
  refine ⟨by rw [PySem.ofString_length]; exact int_text_length_le10 hk h, fun c hc => ?_⟩
  rw [signs_ofString] at hc
  obtain ⟨ch, _, rfl⟩ := List.mem_map.mp hc
  have := ch.valid
  show ch.val.toNat < 0x110000
  rcases this with z | z
  · have z : ch.val.toNat < 0xd800 := z
    omega
  · exact z.2
end L3
namespace L3
open PySem PySem.Spec PyProof.Rows L2
section
variable {prog : Program} {w : World} {A : Around} {R : Result → Shared → Prop} {s : Shared} {elt t0 i0 t1 i1 : Expr} {ifs0 ifs1 : List Expr} {scope : Scope} {pos : Pos} {it acc : Value} {env : Env}
abbrev sc2 (elt t0 i0 t1 i1 : Expr) (ifs0 ifs1 : List Expr) (scope : Scope) (pos : Pos) : Expr := .SetComp elt [⟨t0, i0, ifs0, 0⟩, ⟨t1, i1, ifs1, 0⟩] scope pos
abbrev tests (env : Env) (ifs : List Expr) : Sem Bool := forIn ifs true fun c r => if r = true then do let ok ← isTrue c env (eval c env); pure (ForInStep.yield ok) else pure (ForInStep.yield r)
theorem turn_out : compTurn (sc2 elt t0 i0 t1 i1 ifs0 ifs1 scope pos) 0 it acc env = (do
      standAt i0.pos
      match ← pyNext it with
      | none => pure (.done .next)
      | some v =>
        letOwnedTupleGo t0 it v
        assign t0 env v
        let mut ok := true
        for c in ifs0 do
          if ok then ok ← isTrue c env (eval c env)
        if ok then
          let x ← eval i1 env
          standAt i1.pos
          let x ← foldedSetIterable i1 env x
          let _ ← runOwn (.compStart (sc2 elt t0 i0 t1 i1 ifs0 ifs1 scope pos) 1 (← holding [x] (pyIter x)) acc env) env
        again (.compLoop (sc2 elt t0 i0 t1 i1 ifs0 ifs1 scope pos) 0 it acc env)) := by rfl
theorem turn_in : compTurn (sc2 elt t0 i0 t1 i1 ifs0 ifs1 scope pos) 1 it acc env = (do
      standAt i1.pos
      match ← pyNext it with
      | none => pure (.done .next)
      | some v =>
        letOwnedTupleGo t1 it v
        assign t1 env v
        let mut ok := true
        for c in ifs1 do
          if ok then ok ← isTrue c env (eval c env)
        if ok then
          (do let v ← eval elt env; standAt elt.pos; let _ ← call (.builtin "set.add") [acc, v])
        again (.compLoop (sc2 elt t0 i0 t1 i1 ifs0 ifs1 scope pos) 1 it acc env)) := by rfl
theorem loop_out (hs : ∀ x, foldedSetIterable i1 env x = pure x) (I : Nat → Shared → Prop)
    (turn : ∀ n s, I n s → wpAny (model prog w) A (pyNext it) (fun r s₁ => match r with
      | none => R (.ok .next) s₁
      | some v => wpAny (model prog w) A (letOwnedTupleGo t0 it v) (fun _ s₁' => wpAny (model prog w) A (assign t0 env v) (fun _ s₂ =>
          wpAny (model prog w) A (tests env ifs0) (fun ok s₃ =>
            if ok = true then wpAny (model prog w) A (eval i1 env) (fun x s₄ => wpAny (model prog w) A (pyIter x) (fun it1 s₅ =>
              codeAny (model prog w) A (.compStart (sc2 elt t0 i0 t1 i1 ifs0 ifs1 scope pos) 1 it1 acc env) (fun r s' => match r with
                | .ok _ => ∃ m, m < n ∧ I m s'
                | .error _ => False) s₅) (notedBy (model prog w) A env fun e s' => R (.error e) s') s₄) (notedBy (model prog w) A env fun e s' => R (.error e) s') s₃
            else ∃ m, m < n ∧ I m s₃) (notedBy (model prog w) A env fun e s' => R (.error e) s') s₂) (notedBy (model prog w) A env fun e s' => R (.error e) s') s₁') (notedBy (model prog w) A env fun e s' => R (.error e) s') s₁) (notedBy (model prog w) A env fun e s' => R (.error e) s') s)
    (n : Nat) (h : I n s) : codeAny (model prog w) A (.compLoop (sc2 elt t0 i0 t1 i1 ifs0 ifs1 scope pos) 0 it acc env) R s := by
  refine codeAny_loop rfl I (fun n s hI => ?_) n h
  show wpAny _ A ((compTurn (sc2 elt t0 i0 t1 i1 ifs0 ifs1 scope pos) 0 it acc env).onRaise (fun x => do noteFrame x env; theTreesLotGoes x)) _ _ s
  refine wpAny_noted ?_
  rw [turn_out]
  refine wpAny_bind (wpAny_standAt (wpAny_bind (wpAny_mono (turn n s hI) (fun r s₁ h₁ => ?_) fun _ _ h' => h')))
  cases r with
  | none => exact wpAny_pure h₁
  | some v =>
    refine wpAny_bind (wpAny_mono h₁ (fun _ _ h₁' => wpAny_bind (wpAny_mono h₁' (fun _ _ h₂ => wpAny_bind (wpAny_mono h₂ (fun ok s₃ h₃ => ?_) fun _ _ h' => h')) fun _ _ h' => h')) fun _ _ h' => h')
    cases ok with
    | false => exact wpAny_pure ⟨rfl, h₃⟩
    | true =>
      refine wpAny_bind (wpAny_mono h₃ (fun x s₄ h₄ => ?_) fun _ _ h' => h')
      refine wpAny_bind (wpAny_standAt (wpAny_bind (wpAny_of_eq (hs x) (wpAny_bind (wpAny_holding (wpAny_mono h₄ (fun it1 s₅ h₅ => ?_) fun _ _ h' => h'))))))
      refine wpAny_bind (wpAny_runOwn ?_)
      rw [Around.mark_none]
      refine codeAny_mono h₅ fun r s' hr => ?_
      cases r with
      | ok f =>
        first
          | exact wpAny_pure ⟨rfl, hr⟩
          | exact wpAny_bind (wpAny_pure (wpAny_pure ⟨rfl, hr⟩))
      | error e => exact hr.elim
theorem loop_in (I : Nat → Shared → Prop)
    (turn : ∀ n s, I n s → wpAny (model prog w) A (pyNext it) (fun r s₁ => match r with
      | none => R (.ok .next) s₁
      | some v => wpAny (model prog w) A (letOwnedTupleGo t1 it v) (fun _ s₁' => wpAny (model prog w) A (assign t1 env v) (fun _ s₂ =>
          wpAny (model prog w) A (tests env ifs1) (fun ok s₃ =>
            if ok = true then wpAny (model prog w) A (eval elt env) (fun x s₄ =>
              wpAny (model prog w) A (call (.builtin "set.add") [acc, x]) (fun _ s₅ => ∃ m, m < n ∧ I m s₅) (notedBy (model prog w) A env fun e s' => R (.error e) s') s₄) (notedBy (model prog w) A env fun e s' => R (.error e) s') s₃
            else ∃ m, m < n ∧ I m s₃) (notedBy (model prog w) A env fun e s' => R (.error e) s') s₂) (notedBy (model prog w) A env fun e s' => R (.error e) s') s₁') (notedBy (model prog w) A env fun e s' => R (.error e) s') s₁) (notedBy (model prog w) A env fun e s' => R (.error e) s') s)
    (n : Nat) (h : I n s) : codeAny (model prog w) A (.compLoop (sc2 elt t0 i0 t1 i1 ifs0 ifs1 scope pos) 1 it acc env) R s := by
  refine codeAny_loop rfl I (fun n s hI => ?_) n h
  show wpAny _ A ((compTurn (sc2 elt t0 i0 t1 i1 ifs0 ifs1 scope pos) 1 it acc env).onRaise (fun x => do noteFrame x env; theTreesLotGoes x)) _ _ s
  refine wpAny_noted ?_
  rw [turn_in]
  refine wpAny_bind (wpAny_standAt (wpAny_bind (wpAny_mono (turn n s hI) (fun r s₁ h₁ => ?_) fun _ _ h' => h')))
  cases r with
  | none => exact wpAny_pure h₁
  | some v =>
    refine wpAny_bind (wpAny_mono h₁ (fun _ _ h₁' => wpAny_bind (wpAny_mono h₁' (fun _ _ h₂ => wpAny_bind (wpAny_mono h₂ (fun ok s₃ h₃ => ?_) fun _ _ h' => h')) fun _ _ h' => h')) fun _ _ h' => h')
    cases ok with
    | false => exact wpAny_pure ⟨rfl, h₃⟩
    | true => exact wpAny_bind (wpAny_bind (wpAny_mono h₃ (fun x s₄ h₄ => wpAny_bind (wpAny_standAt (wpAny_bind (wpAny_mono h₄ (fun _ s₅ h₅ => wpAny_pure (wpAny_pure ⟨rfl, h₅⟩)) fun _ _ h' => h')))) fun _ _ h' => h'))
theorem start_in (h0 : codeAny (model prog w) A (.compLoop (sc2 elt t0 i0 t1 i1 ifs0 ifs1 scope pos) 1 it acc env) R s)
    (h : wpAny (model prog w) A (pyIter it) (fun it' s' => codeAny (model prog w) A (.compLoop (sc2 elt t0 i0 t1 i1 ifs0 ifs1 scope pos) 1 it' acc env) R s')
      (notedBy (model prog w) A env fun x s' => R (.error x) s') s) : codeAny (model prog w) A (.compStart (sc2 elt t0 i0 t1 i1 ifs0 ifs1 scope pos) 1 it acc env) R s := by
  refine codeAny_of_tree ?_
  show wpAny _ _ ((compStart (sc2 elt t0 i0 t1 i1 ifs0 ifs1 scope pos) 1 it acc env).onRaise (fun x => do noteFrame x env; standAt theWindowsPlace)) _ _ s
  refine wpAny_notedAt ?_
  unfold compStart
  show wpAny _ _ (ask >>= _) _ _ s
  refine wpAny_bind (wpAny_askSetting (wpAny_ite ?_))
  split
  · first
      | exact wpAny_bind (wpAny_pure (wpAny_pure (And.intro rfl h0)))
      | exact wpAny_pure (And.intro rfl h0)
  · first
      | exact wpAny_bind (wpAny_rule (wpAny_bind (wpAny_standAt (wpAny_bind (wpAny_mono h (fun it' s' h' => wpAny_pure (And.intro rfl h')) fun _ _ x => x)))))
      | (refine wpAny_bind (wpAny_rule ?_); show wpAny _ _ (standAt i1.pos >>= _) _ _ s; exact wpAny_bind (wpAny_standAt (wpAny_bind (wpAny_mono h (fun it' s' h' => wpAny_pure (And.intro rfl h')) fun _ _ x => x))))
end
section
variable {X : Cx}
theorem addI_ok {pins : List (Addr × Obj)} {σ : L2.St} {H : Hp} {s : Shared} {F : Value → Shared → Prop} {D : Addr} {S : Int → Bool} {n : Nat} {y : Int} {tk : Tok} {Q : Value → Shared → Prop} (I : Inv X pins σ H s) (hD : H D = some (SetO X.w D S n)) (room : n + 1 < scanBound)
    (h : ∀ s', Inv X pins σ (upd H D (SetO X.w D (fun j => S j || decide (j = y)) (if S y = true then n else n + 1))) s' → Q .none s') : wpAny (model X.prog X.w) X.A (call (.builtin "set.add") [.ref D, .int y tk]) Q F s := by
  refine setR_add (setO_get I hD) room fun h' sb new => ?_
  obtain ⟨o, a1, a2, a3, ho, a4⟩ := id new
  exact h _ (I.write (e := D) (t' := s.toks + 1) (by rw [hD]; trivial) (.inl rfl) (fun b u hb hu => (sb.2 b hb).trans hu) ⟨o, ho⟩ (setO_new new))
def tSc2 (w : World) (wi : TI) (g : TG) (tt : TT) (wi1 : TI) (g1 : TG) (tt1 : TT) (te : TE) (vs vs1 : List Nat) : TE := fun σ H Q => wi σ H fun J H1 => ∀ D, H1 D = none → ∃ W : Nat → Nat → Hp → Prop, (∃ m, W 0 m (upd H1 D (SetO w D (fun _ => false) 0))) ∧ ∀ i m H, W i m H →
  (J.stop i H ∧ Q (.ref D) H) ∨ (J.go i H ∧ ∃ Nx : Hp → Prop, (∀ H', Nx H' → ∃ m', m' < m ∧ W (i + 1) m' H') ∧ ∀ x H', J.yld i H x H' → g x (wipe σ vs) H' fun σ2 H2 => wipe σ2 vs = wipe σ vs ∧ tt σ2 H2 fun b H3 =>
    if b = true then wi1 σ2 H3 fun J1 H4 => ∃ W1 : Nat → Nat → Hp → Prop, (∃ m, W1 0 m H4) ∧ ∀ j k H, W1 j k H →
      (J1.stop j H ∧ Nx H) ∨ (J1.go j H ∧ ∃ Nx1 : Hp → Prop, (∀ H', Nx1 H' → ∃ k', k' < k ∧ W1 (j + 1) k' H') ∧ ∀ x H', J1.yld j H x H' → g1 x (wipe σ2 vs1) H' fun σ3 H5 => wipe σ3 vs1 = wipe σ2 vs1 ∧ tt1 σ3 H5 fun b H6 =>
        if b = true then te σ3 H6 fun y H7 => ∃ (c : Int) (S : Int → Bool) (n : Nat), y = .int c ∧ H7 D = some (SetO w D S n) ∧ n + 1 < scanBound ∧ Nx1 (upd H7 D (SetO w D (fun j => S j || decide (j = c)) (if S c = true then n else n + 1))) else Nx1 H6)
    else Nx H3)
set_option maxHeartbeats 4000000 in
theorem pe_sc2 {elt tg iter tg1 iter1 : Expr} {ifs ifs1 : List Expr} {scope : Scope} {own : List (Str × Nat)} {vs1 : List Nat} {pos : Pos} {wi wi1 : TI} {g g1 : TG} {tt tt1 : TT} {te : TE} (hc : X.calm = true) (hN : X.N.Nodup) (hi : PI X tg iter wi) (ok : BlkOk X.N X.env.scope scope own) (hv : ∀ i ∈ vs1, i ∈ own.map (·.2))
    (hg : ∀ (s : Shared) (H : Hp) (C : Addr) (cl : List (Str × Addr)) (fp : List Addr), PG (X.blk s H scope (compEnvC scope cl C X.env) fp) tg g) (ht : ∀ (s : Shared) (H : Hp) (C : Addr) (cl : List (Str × Addr)) (fp : List Addr), PTs (X.blk s H scope (compEnvC scope cl C X.env) fp) ifs tt)
    (hi1 : ∀ (s : Shared) (H : Hp) (C : Addr) (cl : List (Str × Addr)) (fp : List Addr), PI (X.blk s H scope (compEnvC scope cl C X.env) fp) tg1 iter1 wi1)
    (hg1 : ∀ (s : Shared) (H : Hp) (C : Addr) (cl : List (Str × Addr)) (fp : List Addr), PG (X.blk s H scope (compEnvC scope cl C X.env) fp) tg1 g1) (ht1 : ∀ (s : Shared) (H : Hp) (C : Addr) (cl : List (Str × Addr)) (fp : List Addr), PTs (X.blk s H scope (compEnvC scope cl C X.env) fp) ifs1 tt1)
    (he : ∀ (s : Shared) (H : Hp) (C : Addr) (cl : List (Str × Addr)) (fp : List Addr), PE (X.blk s H scope (compEnvC scope cl C X.env) fp) elt te) (hs : ∀ x, foldedSetIterable iter X.env x = pure x := by intro _; rfl) (hs1 : ∀ env x, foldedSetIterable iter1 env x = pure x := by intro _ _; rfl) :
    PE X (sc2 elt tg iter tg1 iter1 ifs ifs1 scope pos) (tSc2 X.w wi g tt wi1 g1 tt1 te (own.map (·.2)) vs1) := by
  refine ⟨fun pins s σ H Q I h => ?_⟩
  rw [PpSet.eval_SetComp]
  have hfree : ∀ y ∈ scope.names, y.2 = .free → ∃ c, X.env.cells.lookup y.1 = some c := fun y hy e => by
    rcases ok.free y hy e with k | k
    · exact I.ok.has _ (.inl k)
    · exact I.ok.has _ (.inr k)
  refine wpAny_comprehension_free (use := none) rfl hs (closure_ok hfree) ok.kind (fun y hy e => by rw [ok.uniq y hy, e])
    (thn (hi.run pins s σ H _ I h) fun xv s1 hx => thn hx fun itv s2 h2 => ?_)
  obtain ⟨it, fp, tn, J, H2, e, I2, T, st2, f2, q⟩ := h2
  subst e
  refine PpSet.newSet_ok (newEnv_comp ?_)
  generalize hD : s2.heap.objs.size = D
  have hDn : H2 D = none := I2.hok.fresh (Nat.le_of_eq hD)
  obtain ⟨W, ⟨m0, w0⟩, turn⟩ := q D hDn
  generalize hs3 : ({ s2 with heap := s2.heap.push { cls := .type "set", dict := none, data := .set #[] 0 (.fresh 0 0 (!X.w.params.followText "set-order")) } } : Shared) = s3
  have I3 : Inv X pins σ (upd H2 D (SetO X.w D (fun _ => false) 0)) s3 := by
    rw [← hs3]
    refine I2.laid (t' := s2.toks) (fun b o e => Heap.get?_push_of_some _ e) (Nat.le_of_eq hD) ?_
    rw [← hD]
    exact setO_new (setR_fresh X.w)
  have h3 : s3.heap = s2.heap.push { cls := .type "set", dict := none, data := .set #[] 0 (.fresh 0 0 (!X.w.params.followText "set-order")) } := by rw [← hs3]
  have f3 : ∀ b ∈ fp, FpOk X pins (upd H2 D (SetO X.w D (fun _ => false) 0)) b ∧ b < s3.heap.objs.size := fun b hb => by
    have hlt : b < s2.heap.objs.size := by
      obtain ⟨o, e, _⟩ := T.obj _ _ st2 b hb
      exact Heap.lt_size e
    refine ⟨⟨?_, (f2 b hb).2⟩, by rw [h3, Heap.size_push]; exact Nat.lt_succ_of_lt hlt⟩
    rw [upd_ne (by rw [← hD]; exact Nat.ne_of_lt hlt)]
    exact (f2 b hb).1
  have st3 : tn 0 s3.heap := T.keep _ _ _ st2 fun b _ o e => by rw [h3]; exact Heap.get?_push_of_some _ e
  have I4 := block_start I3 ok hN f3
  generalize hH3 : upd H2 D (SetO X.w D (fun _ => false) 0) = H3 at I3 I4 w0 f3
  generalize hcl : cellsFrom (s3.heap.objs.size + 1) scope.names (cloFrom X.env.cells scope.names []) = cl at I4 ⊢
  have pg := hg s3 H3 s3.heap.objs.size cl fp
  have pt := ht s3 H3 s3.heap.objs.size cl fp
  have pe := he s3 H3 s3.heap.objs.size cl fp
  have pi1 := hi1 s3 H3 s3.heap.objs.size cl fp
  have pg1 := hg1 s3 H3 s3.heap.objs.size cl fp
  have pt1 := ht1 s3 H3 s3.heap.objs.size cl fp
  have nfp : ∀ b ∈ fp, H3 b = none := fun b hb => (f3 b hb).1.1
  show codeAny _ _ (.compStart (sc2 elt tg iter tg1 iter1 ifs ifs1 scope pos) 0 (.ref it) (.ref D) (compEnvC scope cl s3.heap.objs.size X.env)) (compPost (model X.prog X.w) X.A X.xe none (EP X pins σ Q) (.ref D) s3.heap.objs.size) { s3 with heap := pushCells (s3.heap.push { cls := .type "dict", data := .dict #[] }) scope.names }
  generalize hce : compEnvC scope cl s3.heap.objs.size X.env = ce at I4 pg pt pe pi1 pg1 pt1 ⊢
  have cL : ce.locals = s3.heap.objs.size := by subst hce; rfl
  generalize hs4 : ({ s3 with heap := pushCells (s3.heap.push { cls := .type "dict", data := .dict #[] }) scope.names } : Shared) = s4 at I4 ⊢
  have st4 : tn 0 s4.heap := T.keep _ _ _ st3 fun b _ o e => by rw [← hs4]; exact pushCells_keeps _ _ _ _ (Heap.get?_push_of_some _ e)
  have stat : ∀ {σ' : L2.St} {H' : Hp} {s' : Shared}, Inv (X.blk s3 H3 scope ce fp) [] σ' H' s' → (∀ b ∈ fp, H' b = none) → ∀ b ∈ fp, FpOk (X.blk s3 H3 scope ce fp) [] H' b := fun {σ' H' s'} I' hn b hb =>
    ⟨hn b hb, (I'.ok.exf b hb).1, I'.ok.exfs b hb, .inl hb, fun x c e => (I'.ok.exf b hb).2 x c e, fun p hp => absurd (show p ∈ ([] : List (Addr × Obj)) ++ [] from hp) (by simp)⟩
  have loop : codeAny (model X.prog X.w) X.A (.compLoop (sc2 elt tg iter tg1 iter1 ifs ifs1 scope pos) 0 (.ref it) (.ref D) ce) (compPost (model X.prog X.w) X.A X.xe none (EP X pins σ Q) (.ref D) s3.heap.objs.size) s4 := by
    refine loop_out (hs1 ce) (fun n s' => ∃ i H', Inv (X.blk s3 H3 scope ce fp) [] (wipe σ (own.map (·.2))) H' s' ∧ tn i s'.heap ∧ (∀ b ∈ fp, H' b = none) ∧ W i n H') ?_ m0 ⟨0, H3, I4, st4, nfp, w0⟩
    rintro n s5 ⟨i, H5, I5, st5, n5, w5⟩
    rcases turn i n H5 w5 with ⟨stop, qq⟩ | ⟨go, Nx, hNx, step⟩
    · refine thnF (T.done (X.blk s3 H3 scope ce fp) rfl rfl rfl hc i [] s5 _ H5 (fun _ _ => False) I5 (stat I5 n5) st5 stop) fun r s6 ⟨hr, I6⟩ => ?_
      subst hr
      have I7 : Inv X pins σ H5 s6 := I3.call' (ch := fp) I6.os I6.base I6.hok I6.bare fun b hb => ⟨(f3 b hb).1.2.2.2.1, (f3 b hb).1.2.1, (f3 b hb).1.2.2.2.2.1, (f3 b hb).1.2.2.2.2.2⟩
      have nC : H5 s3.heap.objs.size = none := by
        have z : H5 ce.locals = none := I6.free
        rwa [cL] at z
      obtain ⟨m, hn, _⟩ := I6.loc
      have hn : s6.heap.Ns ce.locals m := hn
      rw [cL] at hn
      obtain ⟨f0, f1, f2', f3', f4, f5⟩ := I3.fpOk (Nat.le_refl _) nC
      exact ⟨m, hn, fun h'' sb => ⟨.ref D, H5, I7.turned (t' := s6.toks) (fun b o hb e => (sb.2 b hb).trans e) f0 f1 f3' f4 f5, rfl, qq⟩⟩
    · refine thnF (T.item (X.blk s3 H3 scope ce fp) rfl rfl rfl hc i [] s5 _ H5 (fun _ _ => False) I5 (stat I5 n5) st5 go) fun r s6 ⟨u, hr, h6⟩ => ?_
      subst hr
      refine thnF h6 fun _ s7 ⟨x, H7, I7, r7, y7, st7, n7⟩ => ?_
      have I7' := I7.pinned (stat I7 n7) (T.obj _ _ st7)
      refine thnF (pg.run _ s7 _ H7 x u _ I7' r7 (step x H7 y7)) fun _ s8 ⟨σ8, H8, I8, hw8, q8⟩ => ?_
      refine thnF (pt.run _ s8 σ8 H8 _ I8 q8) fun b s9 ⟨H9, I9, q9⟩ => ?_
      have fin : ∀ {σ9 : L2.St} {s' : Shared} {H' : Hp}, Inv (X.blk s3 H3 scope ce fp) ([] ++ pinsAt fp s7.heap) σ9 H' s' → (wipe σ (own.map (·.2))).length = σ9.length → (∀ (j : Nat) v, (wipe σ (own.map (·.2)))[j]? = some (some v) → σ9[j]? = some (some v)) → Nx H' →
          ∃ m, m < n ∧ ∃ i H', Inv (X.blk s3 H3 scope ce fp) [] (wipe σ (own.map (·.2))) H' s' ∧ tn i s'.heap ∧ (∀ b ∈ fp, H' b = none) ∧ W i m H' := fun {σ9 s' H'} I' hl hk nx => by
        obtain ⟨m', hm, w'⟩ := hNx H' nx
        have pin' : ∀ b ∈ fp, ∀ o, s7.heap.get? b = some o → s'.heap.get? b = some o ∧ H' b = none := fun b hb o e =>
          let z := I'.pin (b, o) (List.mem_append_right _ (List.mem_append_right _ (mem_pinsAt hb e)))
          ⟨z.1, z.2.1⟩
        refine ⟨m', hm, i + 1, H', (I'.unpinned (pins := [])).weak hl hk, T.keep _ _ _ st7 fun b hb o e => (pin' b hb o e).1, fun b hb => ?_, w'⟩
        obtain ⟨o, e, _⟩ := T.obj _ _ st7 b hb
        exact (pin' b hb o e).2
      have hl8 : (wipe σ (own.map (·.2))).length = σ8.length := by rw [← hw8, wipe_length]
      have hk8 : ∀ (j : Nat) v, (wipe σ (own.map (·.2)))[j]? = some (some v) → σ8[j]? = some (some v) := fun j v e => by
        rw [← hw8] at e
        exact (wipe_some e).1
      have hk9 : ∀ (j : Nat) v, (wipe σ (own.map (·.2)))[j]? = some (some v) → (wipe σ8 vs1)[j]? = some (some v) := fun j v e => by
        rw [← hw8] at e
        obtain ⟨e1, e2⟩ := wipe_some e
        rw [wipe_out fun z => e2 (hv j z)]
        exact e1
      cases b with
      | false =>
        simp only [Bool.false_eq_true, if_false] at q9 ⊢
        exact fin I9 hl8 hk8 q9
      | true =>
        simp only [if_true] at q9 ⊢
        refine thnF (pi1.run _ s9 σ8 H9 _ I9 q9) fun xv s10 hx => thnF hx fun itv s11 h11 => ?_
        obtain ⟨it1, fp1, tn1, J1, H11, e1, I11, T1, st11, f11, W1, ⟨m1, w1⟩, turn1⟩ := h11
        subst e1
        have stat1 : ∀ {H' : Hp}, (∀ b ∈ fp1, H' b = none) → ∀ b ∈ fp1, FpOk (X.blk s3 H3 scope ce fp) ([] ++ pinsAt fp s7.heap) H' b := fun hn b hb => ⟨hn b hb, (f11 b hb).2⟩
        have loop1 : codeAny (model X.prog X.w) X.A (.compLoop (sc2 elt tg iter tg1 iter1 ifs ifs1 scope pos) 1 (.ref it1) (.ref D) ce)
            (fun r s' => match r with
              | .ok _ => ∃ m, m < n ∧ ∃ i H', Inv (X.blk s3 H3 scope ce fp) [] (wipe σ (own.map (·.2))) H' s' ∧ tn i s'.heap ∧ (∀ b ∈ fp, H' b = none) ∧ W i m H'
              | .error _ => False) s11 := by
          refine loop_in (fun k s' => ∃ j H', Inv (X.blk s3 H3 scope ce fp) ([] ++ pinsAt fp s7.heap) (wipe σ8 vs1) H' s' ∧ tn1 j s'.heap ∧ (∀ b ∈ fp1, H' b = none) ∧ W1 j k H') ?_ m1 ⟨0, H11, I11.weak (wipe_length _ _) (fun j v e => (wipe_some e).1), st11, fun b hb => (f11 b hb).1, w1⟩
          rintro k s12 ⟨j, H12, I12, st12, n12, w12⟩
          rcases turn1 j k H12 w12 with ⟨stop1, nx1⟩ | ⟨go1, Nx1, hNx1, step1⟩
          · refine thnF (T1.done (X.blk s3 H3 scope ce fp) rfl rfl rfl hc j _ s12 (wipe σ8 vs1) H12 (fun _ _ => False) I12 (stat1 n12) st12 stop1) fun r s13 ⟨hr, I13⟩ => ?_
            subst hr
            exact fin I13 (hl8.trans (wipe_length σ8 vs1).symm) hk9 nx1
          · refine thnF (T1.item (X.blk s3 H3 scope ce fp) rfl rfl rfl hc j _ s12 (wipe σ8 vs1) H12 (fun _ _ => False) I12 (stat1 n12) st12 go1) fun r s13 ⟨u1, hr, h13⟩ => ?_
            subst hr
            refine thnF h13 fun _ s14 ⟨x1, H14, I14, r14, y14, st14, n14⟩ => ?_
            have I14' := I14.pinned (stat1 n14) (T1.obj _ _ st14)
            refine thnF (pg1.run _ s14 (wipe σ8 vs1) H14 x1 u1 _ I14' r14 (step1 x1 H14 y14)) fun _ s15 ⟨σ15, H15, I15, hw15, q15⟩ => ?_
            refine thnF (pt1.run _ s15 σ15 H15 _ I15 q15) fun b1 s16 ⟨H16, I16, q16⟩ => ?_
            have fin1 : ∀ {s' : Shared} {H' : Hp}, Inv (X.blk s3 H3 scope ce fp) (([] ++ pinsAt fp s7.heap) ++ pinsAt fp1 s14.heap) σ15 H' s' → Nx1 H' → ∃ m, m < k ∧ ∃ j H', Inv (X.blk s3 H3 scope ce fp) ([] ++ pinsAt fp s7.heap) (wipe σ8 vs1) H' s' ∧ tn1 j s'.heap ∧ (∀ b ∈ fp1, H' b = none) ∧ W1 j m H' := fun {s' H'} I' nx => by
              obtain ⟨m', hm, w'⟩ := hNx1 H' nx
              have pin' : ∀ b ∈ fp1, ∀ o, s14.heap.get? b = some o → s'.heap.get? b = some o ∧ H' b = none := fun b hb o e =>
                let z := I'.pin (b, o) (List.mem_append_right _ (List.mem_append_right _ (mem_pinsAt hb e)))
                ⟨z.1, z.2.1⟩
              refine ⟨m', hm, j + 1, H', I'.unpinned.weak (by rw [← hw15, wipe_length]) (fun j v e => by rw [← hw15] at e; exact (wipe_some e).1), T1.keep _ _ _ st14 fun b hb o e => (pin' b hb o e).1, fun b hb => ?_, w'⟩
              obtain ⟨o, e, _⟩ := T1.obj _ _ st14 b hb
              exact (pin' b hb o e).2
            cases b1 with
            | false =>
              simp only [Bool.false_eq_true, if_false] at q16 ⊢
              exact fin1 I16 q16
            | true =>
              simp only [if_true] at q16 ⊢
              refine thnF (pe.run _ s16 σ15 H16 _ I16 q16) fun z s17 ⟨yv, H17, I17, r17, c, S0, n0, ey, hD17, hz17, nx⟩ => ?_
              subst ey
              obtain ⟨tk, rfl⟩ := r17
              exact addI_ok (X := X.blk s3 H3 scope ce fp) I17 hD17 hz17 fun s18 I18 => fin1 I18 nx
        exact start_in loop1 (T1.self X.A 0 _ _ _ st11 loop1)
  exact PpSet.codeAny_compStart_set loop (T.self X.A 0 _ _ _ st4 loop)
end
end L3
namespace L3
open PySem PySem.Spec PyProof.Rows L2
/-- what is gathered: how it lies in the heap, what it takes to put one more -/
structure Acc (K : PySem.W.Frag) (G : Gx) (α : Type) where
  At : List Addr → Hp → Addr → α → Prop
  ad : α → RD → (α → Prop) → Prop
  put : Addr → V → Hp → (Hp → Prop) → Prop
  o0 : Addr → HO
  a0 : α
  start : ∀ M H p, At M (upd H p (o0 p)) p a0
  nc : ∀ M H p a, At M H p a → NoCode H p
  mono : ∀ M H H' p a, At M H p a → (∀ o, H p = some o → H' p = some o) → Same (mask M H) (mask M H') → At M H' p a
  step : ∀ M H p a v r N Nx, p ∈ M → At M H p a → RB K G M H v r.d → (¬ r.bor → Rep K G (mask M H) v r.d) → ad a r N → (∀ o a', N a' → At M (upd H p o) p a' → Nx (upd H p o)) → put p v H Nx
section
variable {K : PySem.W.Frag} {G : Gx} {E : Ent} {α : Type}
def c2In (ad : α → RD → (α → Prop) → Prop) (g : WG) (t : WT) (w : WE) (vs : List Nat) (Q : α → St3 → Prop) : List D → α → St3 → Prop
  | [], acc, δ => Q acc δ
  | x :: r, acc, δ => g x δ fun δ1 => t δ1 fun k δ2 => (k = true → w δ2 fun q δ3 => ad acc q fun acc' => c2In ad g t w vs Q r acc' ⟨wipe3 δ3.sl vs, δ3.n⟩) ∧ (k = false → c2In ad g t w vs Q r acc ⟨wipe3 δ2.sl vs, δ2.n⟩)
def c2Out (ad : α → RD → (α → Prop) → Prop) (g : WG) (t : WT) (wi1 : WI) (g1 : WG) (t1 : WT) (w : WE) (vs vs1 : List Nat) (Q : α → St3 → Prop) : List D → α → St3 → Prop
  | [], acc, δ => Q acc δ
  | x :: r, acc, δ => g x δ fun δ1 => t δ1 fun k δ2 => (k = true → wi1 δ2 fun es δ3 => c2In ad g1 t1 w vs1 (fun acc' δ4 => c2Out ad g t wi1 g1 t1 w vs vs1 Q r acc' ⟨wipe3 δ4.sl vs, δ4.n⟩) es acc ⟨wipe3 δ3.sl vs1, δ3.n⟩) ∧
    (k = false → c2Out ad g t wi1 g1 t1 w vs vs1 Q r acc ⟨wipe3 δ2.sl vs, δ2.n⟩)
def tC2 (o0 : Addr → HO) (put : Addr → V → Hp → (Hp → Prop) → Prop) (wi : TI) (g : TG) (tt : TT) (wi1 : TI) (g1 : TG) (tt1 : TT) (te : TE) (vs vs1 : List Nat) : TE := fun σ H Q => wi σ H fun J H1 => ∀ D, H1 D = none → ∃ W : Nat → Nat → Hp → Prop, (∃ m, W 0 m (upd H1 D (o0 D))) ∧ ∀ i m H, W i m H →
  (J.stop i H ∧ Q (.ref D) H) ∨ (J.go i H ∧ ∃ Nx : Hp → Prop, (∀ H', Nx H' → ∃ m', m' < m ∧ W (i + 1) m' H') ∧ ∀ x H', J.yld i H x H' → g x (wipe σ vs) H' fun σ2 H2 => wipe σ2 vs = wipe σ vs ∧ tt σ2 H2 fun b H3 =>
    if b = true then wi1 σ2 H3 fun J1 H4 => ∃ W1 : Nat → Nat → Hp → Prop, (∃ m, W1 0 m H4) ∧ ∀ j k H, W1 j k H →
      (J1.stop j H ∧ Nx H) ∨ (J1.go j H ∧ ∃ Nx1 : Hp → Prop, (∀ H', Nx1 H' → ∃ k', k' < k ∧ W1 (j + 1) k' H') ∧ ∀ x H', J1.yld j H x H' → g1 x (wipe σ2 vs1) H' fun σ3 H5 => wipe σ3 vs1 = wipe σ2 vs1 ∧ tt1 σ3 H5 fun b H6 =>
        if b = true then te σ3 H6 fun y H7 => put D y H7 Nx1 else Nx1 H6)
    else Nx H3)
theorem wipe_sub {σ : L2.St} {vs vs1 : List Nat} (h : ∀ v ∈ vs1, v ∈ vs) : wipe (wipe σ vs1) vs = wipe σ vs := by
  apply List.ext_getElem?
  intro j
  by_cases q : j ∈ vs
  · rw [wipe_in q, wipe_in q, wipe_length]
  · rw [wipe_get q, wipe_get q, wipe_get fun z => q (h j z)]
theorem SR.put {am : Nat → Addr} {M : List Addr} {σ : L2.St} {δ : St3} {H : Hp} {p : Addr} {o : HO} (S : SR K G E am M σ δ H) (hp : p ∈ M) (hd : p ∉ G.dk) (h0 : E.H0 p = none) (ho : ∀ i : Nat, isOwn δ i → am i ≠ p) (hq : ∀ a, L3.isOdA am δ H a → a ≠ p) (hx : NoCode H p) (hx' : NoCode (upd H p o) p := by exact NoCode.of upd_same fun _ => HO.noConfusion) : SR K G E am M σ δ (upd H p o) where
  len := S.len
  sh := fun j d h => by rw [mask_upd hp]; exact S.sh j d h
  ow := fun j d h => by
    obtain ⟨a1, a2, a3, a4, a5⟩ := S.ow j d h
    refine ⟨a1, a2, a3, a4, a5.to (by rw [mask_upd hp]; exact Same.refl _) fun o e => ?_⟩
    rw [upd_ne (ho j ⟨d, h⟩)]; exact e
  inj := S.inj
  ads := S.ads
  dks := S.dks
  al := fun a ha => by
    by_cases z : a = p
    · subst z; rw [upd_same]; simp
    · rw [upd_ne z]; exact S.al a ha
  base := fun b o hb kb => by
    have ne : b ≠ p := fun z => by subst z; rw [h0] at hb; cases hb
    rw [upd_ne ne]; exact S.base b o hb kb
  di := G.frame _ _ _ (fun a o' ha e => by
    have ne : a ≠ p := fun z => by
      rcases ha with ha | ha
      · exact hd (by rw [← z]; exact ha)
      · rw [z] at e ha
        exact hx _ e ha
    rw [upd_ne ne]; exact e) S.di
  gh := fun g hg => by rw [mask_upd hp]; exact S.gh g hg
  slf := S.slf
  od := S.od.keep (fun _ _ _ z => ⟨z, rfl, rfl⟩) (fun a ha q1 q2 q3 q4 => ⟨q1, q2, q3, fun u hu => by rw [upd_ne (hq a ha)]; exact hu, q4⟩) (by rw [mask_upd hp]; exact Same.refl _)
  mc := fun a ha => by
    by_cases z : a = p
    · subst z; exact hx'
    · exact (S.mc a ha).same (S.al a ha) fun u e => by rw [upd_ne z]; exact e
  ok := S.ok
set_option maxHeartbeats 4000000 in
/-- the program's loops go as the data's -/
theorem sim_c2 (A : Acc K G α) {ti ti1 : TI} {wi wi1 : WI} {g g1 : TG} {wg wg1 : WG} {us us1 vs vs1 : List Nat} {tt tt1 : TT} {wt wt1 : WT} {te : TE} {we : WE} (hi : ∀ E, SimI K G E ti wi) (hg : SimG K G us g wg) (hu : ∀ u ∈ us, u ∈ vs) (ht : ∀ E, SimT K G E tt wt)
    (hi1 : ∀ E, SimI K G E ti1 wi1) (hg1 : SimG K G us1 g1 wg1) (hu1 : ∀ u ∈ us1, u ∈ vs1) (hv : ∀ u ∈ vs1, u ∈ vs) (ht1 : ∀ E, SimT K G E tt1 wt1) (he : ∀ E, SimE K G E te we)
    (am : Nat → Addr) (M : List Addr) (σ : L2.St) (δ : St3) (H : Hp) (S : SR K G E am M σ δ H) (Qd : α → St3 → Prop) (q : wi δ fun ds δ1 => noOwn δ1.sl vs ∧ c2Out A.ad wg wt wi1 wg1 wt1 we vs vs1 (fun acc δ2 => Qd acc ⟨unwipe δ1.sl δ2.sl vs, δ2.n⟩) ds A.a0 ⟨wipe3 δ1.sl vs, δ1.n⟩) (Q : VK)
    (k : ∀ (p : Addr) (acc : α) (δ' : St3) (H' : Hp), SR K G E am M σ δ' H' → SR K G E am (p :: M) σ δ' H' → p ∉ M → E.H0 p = none → p ∉ G.dk → A.At (p :: M) H' p acc → Ext G am δ H H' → (∀ i, isOwn δ' i → isOwn δ i) → Qd acc δ' → Q (.ref p) H') : tC2 A.o0 A.put ti g tt ti1 g1 tt1 te vs vs1 σ H Q := by
  have kE := S.ok
  refine hi E am M σ δ H S _ q _ fun J items gh δ1 H1 S1 e1 o1 ok ⟨no, q⟩ => fun p hp => ?_
  have sm := same_new (o := A.o0 p) hp
  have T0 := S1.more (p := p) hp sm (by rw [upd_same]; simp) (A.nc M _ _ _ (A.start M H1 p))
  have T1 := T0.wiped vs
  have pM : p ∉ M := fun z => S1.al p z hp
  have pOwn : ∀ i : Nat, isOwn δ1 i → am i ≠ p := fun i ⟨d, hi⟩ z => pM (z ▸ (S1.ow i d hi).2.1)
  have pDk : p ∉ G.dk := fun z => pM (S1.ads p (S1.dks p z))
  have pH0 : E.H0 p = none := by
    cases z : E.H0 p with
    | none => rfl
    | some o => exact absurd (S1.base p o z pDk) (by rw [hp]; simp)
  refine ⟨fun i m H => m = items.length - i ∧ i ≤ items.length ∧ ∃ (δ : St3) (acc : α), SR K G (E.add gh) am (p :: M) (wipe σ vs) δ H ∧ A.At (p :: M) H p acc ∧
      Ext G am δ1 H1 H ∧ (∀ i, isOwn δ i → isOwn δ1 i) ∧ c2Out A.ad wg wt wi1 wg1 wt1 we vs vs1 (fun acc δ2 => Qd acc ⟨unwipe δ1.sl δ2.sl vs, δ2.n⟩) (items.drop i) acc δ,
    ⟨_, rfl, Nat.zero_le _, _, _, T1, A.start _ _ _, Ext.of sm, fun i z => wipe3_own z, q⟩, ?_⟩
  rintro i m H ⟨rfl, hle, δ, acc, S, hx, ex, ox, q⟩
  obtain ⟨j1, j2⟩ := ok _ _ _ _ _ _ S fun p hp => List.mem_append_left _ hp
  by_cases hlt : i < items.length
  · have hd : items[i]? = some items[i] := List.getElem?_eq_getElem hlt
    obtain ⟨g1', g2⟩ := j2 i _ hd
    rw [List.drop_eq_getElem_cons hlt] at q
    refine .inr ⟨g1', fun H' => ∃ (δ : St3) (acc : α), SR K G (E.add gh) am (p :: M) (wipe σ vs) δ H' ∧ A.At (p :: M) H' p acc ∧
      Ext G am δ1 H1 H' ∧ (∀ i, isOwn δ i → isOwn δ1 i) ∧ c2Out A.ad wg wt wi1 wg1 wt1 we vs vs1 (fun acc δ2 => Qd acc ⟨unwipe δ1.sl δ2.sl vs, δ2.n⟩) (items.drop (i + 1)) acc δ, fun H' z => ⟨_, by omega, rfl, hlt, z⟩, fun x H' hy => ?_⟩
    obtain ⟨sm2, rx2⟩ := g2 x H' hy
    have S' := S.grow sm2
    refine hg _ am (p :: M) _ δ H' S' x _ rx2 _ q _ fun σ2 δ2 S2 w2 o2 q => ?_
    have hw : wipe σ2 vs = wipe σ vs := (w2 vs hu).trans wipe_wipe
    refine ⟨hw, ?_⟩
    refine ht _ am (p :: M) σ2 δ2 H' S2 _ q _ fun b δ3 H3 S3 e3 o3 q => ?_
    have keep : ∀ {Ha Hb : Hp} {δa : St3}, Ext G am δa Ha Hb → (∀ i, isOwn δa i → isOwn δ1 i) → ∀ o, Ha p = some o → Hb p = some o := fun e o u hu => e p u hu pDk fun i hi => pOwn i (o i hi)
    have own2 : ∀ i, isOwn δ2 i → isOwn δ1 i := fun i z => ox i (o2 i z)
    have own3 : ∀ i, isOwn δ3 i → isOwn δ1 i := fun i z => own2 i (o3 i z)
    have ext3 : Ext G am δ1 H1 H3 := (ex.trans ox (Ext.of (δ := δ) sm2)).trans own2 e3
    have hx3 : A.At (p :: M) H3 p acc := A.mono _ _ _ _ _ (A.mono _ _ _ _ _ hx (fun o e => sm2 _ _ e) (mask_mono sm2)) (keep e3 own2) (S2.mask e3)
    cases b with
    | false =>
      rw [if_neg Bool.false_ne_true]
      have T := S3.wiped vs
      rw [hw] at T
      exact ⟨_, acc, T, hx3, ext3, fun i z => own3 i (wipe3_own z), q.2 rfl⟩
    | true =>
      rw [if_pos rfl]
      refine hi1 _ am (p :: M) σ2 δ3 H3 S3 _ (q.1 rfl) _ fun J1 es gh1 δ4 H4 S4 e4 o4 ok1 q => ?_
      have own4 : ∀ i, isOwn δ4 i → isOwn δ1 i := fun i z => own3 i (o4 i z)
      have ext4 : Ext G am δ1 H1 H4 := ext3.trans own3 e4
      have hx4 : A.At (p :: M) H4 p acc := A.mono _ _ _ _ _ hx3 (keep e4 own3) (S3.mask e4)
      refine ⟨fun j m H => m = es.length - j ∧ j ≤ es.length ∧ ∃ (δ : St3) (acc : α), SR K G ((E.add gh).add gh1) am (p :: M) (wipe σ2 vs1) δ H ∧ A.At (p :: M) H p acc ∧
        Ext G am δ1 H1 H ∧ (∀ i, isOwn δ i → isOwn δ1 i) ∧ c2In A.ad wg1 wt1 we vs1 (fun acc' δ4 => c2Out A.ad wg wt wi1 wg1 wt1 we vs vs1 (fun acc δ2 => Qd acc ⟨unwipe δ1.sl δ2.sl vs, δ2.n⟩) (items.drop (i + 1)) acc' ⟨wipe3 δ4.sl vs, δ4.n⟩) (es.drop j) acc δ,
        ⟨_, rfl, Nat.zero_le _, _, acc, S4.wiped vs1, hx4, ext4, fun i z => own4 i (wipe3_own z), q⟩, ?_⟩
      rintro j m H ⟨rfl, hle1, δ, acc, S, hx, ex, ox, q⟩
      obtain ⟨k1, k2⟩ := ok1 _ _ _ _ _ _ S fun p hp => List.mem_append_left _ hp
      by_cases hlt1 : j < es.length
      · have hd1 : es[j]? = some es[j] := List.getElem?_eq_getElem hlt1
        obtain ⟨g3, g4⟩ := k2 j _ hd1
        rw [List.drop_eq_getElem_cons hlt1] at q
        refine .inr ⟨g3, fun H' => ∃ (δ : St3) (acc : α), SR K G ((E.add gh).add gh1) am (p :: M) (wipe σ2 vs1) δ H' ∧ A.At (p :: M) H' p acc ∧
          Ext G am δ1 H1 H' ∧ (∀ i, isOwn δ i → isOwn δ1 i) ∧ c2In A.ad wg1 wt1 we vs1 (fun acc' δ4 => c2Out A.ad wg wt wi1 wg1 wt1 we vs vs1 (fun acc δ2 => Qd acc ⟨unwipe δ1.sl δ2.sl vs, δ2.n⟩) (items.drop (i + 1)) acc' ⟨wipe3 δ4.sl vs, δ4.n⟩) (es.drop (j + 1)) acc δ,
          fun H' z => ⟨_, by omega, rfl, hlt1, z⟩, fun x H' hy => ?_⟩
        obtain ⟨sm5, rx5⟩ := g4 x H' hy
        have S' := S.grow sm5
        refine hg1 _ am (p :: M) _ δ H' S' x _ rx5 _ q _ fun σ3 δ5 S5 w5 o5 q => ?_
        have hw1 : wipe σ3 vs1 = wipe σ2 vs1 := (w5 vs1 hu1).trans wipe_wipe
        refine ⟨hw1, ?_⟩
        refine ht1 _ am (p :: M) σ3 δ5 H' S5 _ q _ fun b δ6 H6 S6 e6 o6 q => ?_
        have own5 : ∀ i, isOwn δ5 i → isOwn δ1 i := fun i z => ox i (o5 i z)
        have own6 : ∀ i, isOwn δ6 i → isOwn δ1 i := fun i z => own5 i (o6 i z)
        have ext6 : Ext G am δ1 H1 H6 := (ex.trans ox (Ext.of (δ := δ) sm5)).trans own5 e6
        have hx6 : A.At (p :: M) H6 p acc := A.mono _ _ _ _ _ (A.mono _ _ _ _ _ hx (fun o e => sm5 _ _ e) (mask_mono sm5)) (keep e6 own5) (S5.mask e6)
        cases b with
        | false =>
          rw [if_neg Bool.false_ne_true]
          have T := S6.wiped vs1
          rw [hw1] at T
          exact ⟨_, acc, T, hx6, ext6, fun i z => own6 i (wipe3_own z), q.2 rfl⟩
        | true =>
          rw [if_pos rfl]
          refine he _ am (p :: M) σ3 δ6 H6 S6 _ (q.1 rfl) _ fun y ry δ7 H7 S7 e7 o7 v7 q => ?_
          have own7 : ∀ i, isOwn δ7 i → isOwn δ1 i := fun i z => own6 i (o7 i z)
          have ext7 : Ext G am δ1 H1 H7 := ext6.trans own6 e7
          have hx7 : A.At (p :: M) H7 p acc := A.mono _ _ _ _ _ hx6 (keep e7 own6) (S6.mask e7)
          refine A.step _ _ _ _ _ _ _ _ List.mem_cons_self hx7 (v7.k.rb S7) (fun nb => v7.k.rep nb) q fun o acc' q ha => ?_
          have T := (S7.put (o := o) List.mem_cons_self pDk pH0 (fun i z => pOwn i (own7 i z)) (fun a ha z => pM (by rw [← z]; exact (S1.od.isA (S1.isOdA ext7 own7 ha)).1)) (A.nc _ _ _ _ hx7) (A.nc _ _ _ _ ha)).wiped vs1
          rw [hw1] at T
          refine ⟨_, acc', T, ha, fun b u hb kb ho => ?_, fun i z => own7 i (wipe3_own z), q⟩
          have ne : b ≠ p := fun z => by subst z; rw [hp] at hb; cases hb
          rw [upd_ne ne]
          exact ext7 b u hb kb ho
      · have e : j = es.length := by omega
        subst e
        rw [List.drop_length] at q
        have T := (S.drop S3.ok).wiped vs
        rw [wipe_sub hv, hw] at T
        exact .inl ⟨k1 _ rfl, _, acc, T, hx, ex, fun i z => ox i (wipe3_own z), q⟩
  · have e : i = items.length := by omega
    subst e
    rw [List.drop_length] at q
    refine .inl ⟨j1 _ rfl, ?_⟩
    have smk : Same (mask (p :: M) H1) (mask (p :: M) H) := mask_same fun b o hb h => ex b o h (fun z => hb (List.mem_cons_of_mem _ (S1.ads b (S1.dks b z)))) fun i ⟨d, hi⟩ z => hb (z ▸ List.mem_cons_of_mem _ (S1.ow i d hi).2.1)
    have B : SR K G (E.add gh) am (p :: M) σ ⟨unwipe δ1.sl δ.sl vs, δ.n⟩ H := S1.back S (fun a z => List.mem_cons_of_mem _ z) no smk fun i d hi v hv => by
      obtain ⟨v', a, b⟩ := S1.sh i d hi
      rw [hv] at a
      cases a
      exact b.mono (mask_new hp (Same.refl _))
    have own : ∀ i, isOwn ⟨unwipe δ1.sl δ.sl vs, δ.n⟩ i → isOwn δ1 i := fun i z => ox i (unwipe_own no z)
    have B2 : SR K G (E.add gh) am M σ ⟨unwipe δ1.sl δ.sl vs, δ.n⟩ H := B.less (fun a z => List.mem_cons_of_mem _ z) S1.ads (fun j d h => by
      obtain ⟨d', h'⟩ := own j ⟨d, h⟩
      exact (S1.ow j d' h').2.1) fun a ha => (S1.od.isA (S1.isOdA ex own ha)).1
    exact k p acc _ H (B2.drop kE) (B.drop kE) pM pH0 pDk hx (e1.trans o1 ex) (fun i z => o1 i (own i z)) q
end
end L3
namespace L3
open PySem PySem.Spec PyProof.Rows L2
section
variable {K : PySem.W.Frag} {G : Gx} {E : Ent}
def adL (acc : List D) (q : RD) (N : List D → Prop) : Prop := ¬ q.bor ∧ acc.length < 16777216 ∧ N (acc ++ [q.d])
def accL (K : PySem.W.Frag) (G : Gx) : Acc K G (List D) where
  At := fun M H p acc => ∃ xs, H p = some (.lst xs) ∧ RepAll K G (mask M H) xs acc
  ad := adL
  put := fun p y H Nx => ∃ acc, H p = some (.lst acc) ∧ acc.length < sizeLine ∧ Nx (upd H p (.lst (acc ++ [y])))
  o0 := fun _ => .lst []
  a0 := []
  start := fun M H p => ⟨[], upd_same, rfl⟩
  nc := fun M H p a ⟨xs, h, _⟩ => NoCode.of h fun _ => HO.noConfusion
  mono := fun M H H' p a ⟨xs, h, r⟩ k m => ⟨xs, k _ h, r.mono m⟩
  step := fun M H p a v r N Nx hp ⟨xs, h, rx⟩ rb rk ⟨nb, sz, q⟩ k => ⟨xs, h, by rw [rx.length, line16]; exact sz, k _ _ q ⟨xs ++ [v], upd_same, by rw [mask_upd hp]; exact rx.append (RepAll.one (rk nb))⟩⟩
theorem heap_of (n : Nat) : ∃ h : Heap, h.objs.size = n := by
  induction n with
  | zero => exact ⟨{ objs := #[] }, rfl⟩
  | succ n ih =>
    obtain ⟨h, e⟩ := ih
    exact ⟨h.push { cls := .none, data := .fields #[] }, by rw [Heap.size_push, e]⟩
/-- a set is no code object -/
theorem codeO_set {w : World} {p : Addr} {q : Str} {S : Int → Bool} {n : Nat} : LamX.CodeO p q ≠ SetO w p S n := fun z => by
  obtain ⟨h, e⟩ := heap_of p
  have f := congrFun (HO.ext.inj z) (h.push { cls := .none, data := .fields #[.none, .str q 0] })
  have g : (h.push { cls := .none, data := .fields #[.none, .str q 0] }).get? p = some { cls := .none, data := .fields #[.none, .str q 0] } := by
    rw [← e]; exact Heap.get?_push_size _ rfl
  have t := cast f ⟨_, _, 0, g, rfl, rfl⟩
  obtain ⟨o, es, ep, tt, h1, _, h2, _⟩ := t
  rw [g] at h1
  cases h1
  cases h2
def adS (acc : List Int) (q : RD) (N : List Int → Prop) : Prop := isI q.d fun c => acc.length + 1 < 4096 ∧ N (if c ∈ acc then acc else acc ++ [c])
theorem scan4096 : scanBound = 4096 := rfl
def accS (w : World) (K : PySem.W.Frag) (G : Gx) : Acc K G (List Int) where
  At := fun M H p acc => acc.Nodup ∧ ∃ S n, H p = some (SetO w p S n) ∧ (∀ k, S k = decide (k ∈ acc)) ∧ n = acc.length
  ad := adS
  put := fun p y H Nx => ∃ (c : Int) (S : Int → Bool) (n : Nat), y = .int c ∧ H p = some (SetO w p S n) ∧ n + 1 < scanBound ∧ Nx (upd H p (SetO w p (fun j => S j || decide (j = c)) (if S c = true then n else n + 1)))
  o0 := fun p => SetO w p (fun _ => false) 0
  a0 := []
  start := fun M H p => ⟨List.nodup_nil, _, _, upd_same, fun k => by simp, rfl⟩
  nc := fun M H p a ⟨nd, S, n, h, _⟩ o ho hc => by
    rw [h] at ho
    obtain ⟨q, e⟩ := hc
    exact codeO_set ((Option.some.inj ho).trans e).symm
  mono := fun M H H' p a ⟨nd, S, n, h, r⟩ k m => ⟨nd, S, n, k _ h, r⟩
  step := fun M H p a v r N Nx hp ⟨nd, S, n, h, hS, hn⟩ rb rk q k => by
    cases er : r.d <;> (try simp only [adS, er] at q) <;> (try exact q.elim)
    rename_i c
    rw [er] at rb
    obtain ⟨sz, q⟩ := (show a.length + 1 < 4096 ∧ N (if c ∈ a then a else a ++ [c]) from q)
    refine ⟨c, S, n, rb.int, h, by rw [hn, scan4096]; exact sz, k _ _ q ?_⟩
    by_cases m : c ∈ a
    · rw [if_pos m]
      refine ⟨nd, _, _, upd_same, fun j => ?_, ?_⟩
      · rw [hS]
        by_cases z : j = c
        · subst z; simp [m]
        · simp [z]
      · rw [hS, if_pos (by simpa using m)]; exact hn
    · rw [if_neg m]
      refine ⟨List.nodup_append.mpr ⟨nd, by simp, fun x hx y hy z => by simp at hy; subst hy; subst z; exact m hx⟩, _, _, upd_same, fun j => ?_, ?_⟩
      · rw [hS]; simp
      · rw [hS, if_neg (by simpa using m)]; simp [hn]
@[simp] def wLc2 (wi : WI) (g : WG) (t : WT) (wi1 : WI) (g1 : WG) (t1 : WT) (w : WE) (vs vs1 : List Nat) : WE := fun δ Q => wi δ fun ds δ1 => noOwn δ1.sl vs ∧ c2Out adL g t wi1 g1 t1 w vs vs1 (fun acc δ2 => Q (.fr (.lst acc)) ⟨unwipe δ1.sl δ2.sl vs, δ2.n⟩) ds [] ⟨wipe3 δ1.sl vs, δ1.n⟩
@[simp] def wSortSc2 (wi : WI) (g : WG) (t : WT) (wi1 : WI) (g1 : WG) (t1 : WT) (w : WE) (vs vs1 : List Nat) : WE := fun δ Q => wi δ fun ds δ1 => noOwn δ1.sl vs ∧ c2Out adS g t wi1 g1 t1 w vs vs1 (fun acc δ2 => acc.length < 64 ∧
  ∀ ns : List Int, ns.Pairwise (· < ·) → (∀ k, k ∈ ns ↔ k ∈ acc) → Q (.fr (.lst (ns.map D.int))) ⟨unwipe δ1.sl δ2.sl vs, δ2.n⟩) ds [] ⟨wipe3 δ1.sl vs, δ1.n⟩
variable {ti ti1 : TI} {wi wi1 : WI} {g g1 : TG} {wg wg1 : WG} {us us1 vs vs1 : List Nat} {tt tt1 : TT} {wt wt1 : WT} {te : TE} {we : WE}
theorem sim_lc2 (hi : ∀ E, SimI K G E ti wi) (hg : SimG K G us g wg) (hu : ∀ u ∈ us, u ∈ vs) (ht : ∀ E, SimT K G E tt wt)
    (hi1 : ∀ E, SimI K G E ti1 wi1) (hg1 : SimG K G us1 g1 wg1) (hu1 : ∀ u ∈ us1, u ∈ vs1) (hv : ∀ u ∈ vs1, u ∈ vs) (ht1 : ∀ E, SimT K G E tt1 wt1) (he : ∀ E, SimE K G E te we) : SimE K G E (tLc2 ti g tt ti1 g1 tt1 te vs vs1) (wLc2 wi wg wt wi1 wg1 wt1 we vs vs1) := fun am M σ δ H S Qd q Q k =>
  sim_c2 (accL K G) hi hg hu ht hi1 hg1 hu1 hv ht1 he am M σ δ H S (fun acc δ2 => Qd (.fr (.lst acc)) δ2) q Q fun p acc δ' H' S' S2 pM p0 pd ha e o h =>
    k (.ref p) (.fr (.lst acc)) δ' H' S' e o ⟨p, rfl, pM, p0, ha, S2⟩ h
theorem sim_sortSc2 (w : World) (hi : ∀ E, SimI K G E ti wi) (hg : SimG K G us g wg) (hu : ∀ u ∈ us, u ∈ vs) (ht : ∀ E, SimT K G E tt wt)
    (hi1 : ∀ E, SimI K G E ti1 wi1) (hg1 : SimG K G us1 g1 wg1) (hu1 : ∀ u ∈ us1, u ∈ vs1) (hv : ∀ u ∈ vs1, u ∈ vs) (ht1 : ∀ E, SimT K G E tt1 wt1) (he : ∀ E, SimE K G E te we) : SimE K G E (tCB (rSortedSet w) (tCons (tSc2 w ti g tt ti1 g1 tt1 te vs vs1) tNil)) (wSortSc2 wi wg wt wi1 wg1 wt1 we vs vs1) := fun am M σ δ H S Qd q Q k => by
    show tC2 (accS w K G).o0 (accS w K G).put ti g tt ti1 g1 tt1 te vs vs1 σ H (fun x H1 => rSortedSet w [x] H1 Q)
    refine sim_c2 (accS w K G) hi hg hu ht hi1 hg1 hu1 hv ht1 he am M σ δ H S (fun acc δ2 => acc.length < 64 ∧ ∀ ns : List Int, ns.Pairwise (· < ·) → (∀ k, k ∈ ns ↔ k ∈ acc) → Qd (.fr (.lst (ns.map D.int))) δ2) q _ fun p acc δ' H' S' S2 pM p0 pd ⟨nd, F, n, hp, hF, hn⟩ e o ⟨h64, h⟩ => ?_
    refine ⟨p, F, n, rfl, hp, by rw [hn]; exact h64, fun ns p' h1 h2 h3 hp' => ?_⟩
    have sm := same_new (o := .lst (ns.map V.int)) hp'
    exact k (.ref p') (.fr (.lst (ns.map D.int))) δ' _ (S'.grow sm) (e.trans o (Ext.of (δ := δ') sm)) o ((rn_lst hp' (RepAll.of_ints ns)).rv S' sm) (h ns h1 fun j => by rw [h2, hF]; simp)
end
section
variable {X : Cx} {G : Gx} {elt tg iter tg1 iter1 : Expr} {ifs ifs1 : List Expr} {scope : Scope} {own : List (Str × Nat)} {vs1 us us1 : List Nat} {pos spos py p : Pos} {ti ti1 : TI} {wi wi1 : WI} {g g1 : TG} {wg wg1 : WG} {tt tt1 : TT} {wt wt1 : WT} {te : TE} {we : WE}
theorem de_lc2 (hc : X.calm = true) (hN : X.N.Nodup) (hi : DI X G tg iter ti wi) (ok : BlkOk X.N X.env.scope scope own) (hv : ∀ i ∈ vs1, i ∈ own.map (·.2))
    (hg : ∀ (s : Shared) (H : Hp) (C : Addr) (cl : List (Str × Addr)) (fp : List Addr), DG (X.blk s H scope (compEnvC scope cl C X.env) fp) G tg us g wg) (ht : ∀ (s : Shared) (H : Hp) (C : Addr) (cl : List (Str × Addr)) (fp : List Addr), DTs (X.blk s H scope (compEnvC scope cl C X.env) fp) G ifs tt wt)
    (hi1 : ∀ (s : Shared) (H : Hp) (C : Addr) (cl : List (Str × Addr)) (fp : List Addr), DI (X.blk s H scope (compEnvC scope cl C X.env) fp) G tg1 iter1 ti1 wi1)
    (hg1 : ∀ (s : Shared) (H : Hp) (C : Addr) (cl : List (Str × Addr)) (fp : List Addr), DG (X.blk s H scope (compEnvC scope cl C X.env) fp) G tg1 us1 g1 wg1) (ht1 : ∀ (s : Shared) (H : Hp) (C : Addr) (cl : List (Str × Addr)) (fp : List Addr), DTs (X.blk s H scope (compEnvC scope cl C X.env) fp) G ifs1 tt1 wt1)
    (he : ∀ (s : Shared) (H : Hp) (C : Addr) (cl : List (Str × Addr)) (fp : List Addr), DE (X.blk s H scope (compEnvC scope cl C X.env) fp) G elt te we) (hu : ∀ u ∈ us, u ∈ own.map (·.2)) (hu1 : ∀ u ∈ us1, u ∈ vs1) (hs : ∀ x, foldedSetIterable iter X.env x = pure x := by intro _; rfl) (hs1 : ∀ env x, foldedSetIterable iter1 env x = pure x := by intro _ _; rfl) :
    DE X G (.ListComp elt [⟨tg, iter, ifs, 0⟩, ⟨tg1, iter1, ifs1, 0⟩] scope pos) (tLc2 ti g tt ti1 g1 tt1 te (own.map (·.2)) vs1) (wLc2 wi wg wt wi1 wg1 wt1 we (own.map (·.2)) vs1) :=
  ⟨pe_lc2 hc hN hi.pi ok hv (fun s H C cl fp => (hg s H C cl fp).pg) (fun s H C cl fp => (ht s H C cl fp).pt) (fun s H C cl fp => (hi1 s H C cl fp).pi) (fun s H C cl fp => (hg1 s H C cl fp).pg) (fun s H C cl fp => (ht1 s H C cl fp).pt) (fun s H C cl fp => (he s H C cl fp).pe) hs hs1,
    fun E => sim_lc2 hi.sim (hg X.s_0 (fun _ => none) 0 [] []).sim hu (ht X.s_0 (fun _ => none) 0 [] []).sim (hi1 X.s_0 (fun _ => none) 0 [] []).sim (hg1 X.s_0 (fun _ => none) 0 [] []).sim hu1 hv (ht1 X.s_0 (fun _ => none) 0 [] []).sim (he X.s_0 (fun _ => none) 0 [] []).sim⟩
theorem de_sortSc2 (hc : X.calm = true) (hN : X.N.Nodup) (hi : DI X G tg iter ti wi) (ok : BlkOk X.N X.env.scope scope own) (hv : ∀ i ∈ vs1, i ∈ own.map (·.2))
    (hg : ∀ (s : Shared) (H : Hp) (C : Addr) (cl : List (Str × Addr)) (fp : List Addr), DG (X.blk s H scope (compEnvC scope cl C X.env) fp) G tg us g wg) (ht : ∀ (s : Shared) (H : Hp) (C : Addr) (cl : List (Str × Addr)) (fp : List Addr), DTs (X.blk s H scope (compEnvC scope cl C X.env) fp) G ifs tt wt)
    (hi1 : ∀ (s : Shared) (H : Hp) (C : Addr) (cl : List (Str × Addr)) (fp : List Addr), DI (X.blk s H scope (compEnvC scope cl C X.env) fp) G tg1 iter1 ti1 wi1)
    (hg1 : ∀ (s : Shared) (H : Hp) (C : Addr) (cl : List (Str × Addr)) (fp : List Addr), DG (X.blk s H scope (compEnvC scope cl C X.env) fp) G tg1 us1 g1 wg1) (ht1 : ∀ (s : Shared) (H : Hp) (C : Addr) (cl : List (Str × Addr)) (fp : List Addr), DTs (X.blk s H scope (compEnvC scope cl C X.env) fp) G ifs1 tt1 wt1)
    (he : ∀ (s : Shared) (H : Hp) (C : Addr) (cl : List (Str × Addr)) (fp : List Addr), DE (X.blk s H scope (compEnvC scope cl C X.env) fp) G elt te we) (hu : ∀ u ∈ us, u ∈ own.map (·.2)) (hu1 : ∀ u ∈ us1, u ∈ vs1) (hgl : Gl X "sorted") (hm : X.mg "sorted" = none)
    (hs : ∀ x, foldedSetIterable iter X.env x = pure x := by intro _; rfl) (hs1 : ∀ env x, foldedSetIterable iter1 env x = pure x := by intro _ _; rfl)
    (he1 : starEach [sc2 elt tg iter tg1 iter1 ifs ifs1 scope spos] X.env = (false, eval (sc2 elt tg iter tg1 iter1 ifs ifs1 scope spos) X.env) :: starEach [] X.env := by rfl) :
    DE X G (.Call (.Name "sorted" p) [.SetComp elt [⟨tg, iter, ifs, 0⟩, ⟨tg1, iter1, ifs1, 0⟩] scope spos] [] pos) (tCB (rSortedSet X.w) (tCons (tSc2 X.w ti g tt ti1 g1 tt1 te (own.map (·.2)) vs1) tNil)) (wSortSc2 wi wg wt wi1 wg1 wt1 we (own.map (·.2)) vs1) :=
  ⟨pe_callB (cr_sortedSet hc) hgl hm rfl (pa_cons (pe_sc2 hc hN hi.pi ok hv (fun s H C cl fp => (hg s H C cl fp).pg) (fun s H C cl fp => (ht s H C cl fp).pt) (fun s H C cl fp => (hi1 s H C cl fp).pi) (fun s H C cl fp => (hg1 s H C cl fp).pg) (fun s H C cl fp => (ht1 s H C cl fp).pt) (fun s H C cl fp => (he s H C cl fp).pe) hs hs1) pa_nil he1) (by decide) (by decide) he1 (by rfl),
    fun E => sim_sortSc2 X.w hi.sim (hg X.s_0 (fun _ => none) 0 [] []).sim hu (ht X.s_0 (fun _ => none) 0 [] []).sim (hi1 X.s_0 (fun _ => none) 0 [] []).sim (hg1 X.s_0 (fun _ => none) 0 [] []).sim hu1 hv (ht1 X.s_0 (fun _ => none) 0 [] []).sim (he X.s_0 (fun _ => none) 0 [] []).sim⟩
end
end L3
namespace L3
open PySem PySem.Spec PyProof.Rows L2
def keyD : Key → D
  | .inl i => .int i
  | .inr s => .str s
@[simp] theorem keyD_0 (i : Int) : keyD (.inl i) = .int i := rfl
@[simp] theorem keyD_1 (i : Str) : keyD (.inr i) = .str i := rfl
def isK : D → (Key → Prop) → Prop
  | .int i, Q => Q (.inl i)
  | .str s, Q => Q (.inr s)
  | _, _ => False
@[simp] theorem isK_0 (i : Int) (Q : Key → Prop) : isK (.int i) Q = Q (.inl i) := rfl
@[simp] theorem isK_1 (i : Str) (Q : Key → Prop) : isK (.str i) Q = Q (.inr i) := rfl
def isDct : D → (List Key → List D → Prop) → Prop
  | .dct ks ds, Q => Q ks ds
  | _, _ => False
@[simp] theorem isDct_0 (ks : List Key) (ds : List D) (Q : List Key → List D → Prop) : isDct (.dct ks ds) Q = Q ks ds := rfl
instance instKeyMem (k : Key) (ks : List Key) : Decidable (k ∈ ks) := decidable_of_iff (∃ x, x ∈ ks ∧ x = k) ⟨fun ⟨_, h, e⟩ => e ▸ h, fun h => ⟨k, h, rfl⟩⟩
section
variable {α : Type}
def dAt : List Key → List α → Key → Option α
  | k' :: ks, d :: ds, k => if k' = k then some d else dAt ks ds k
  | _, _, _ => none
def dKs (ks : List Key) (k : Key) : List Key := if k ∈ ks then ks else ks ++ [k]
def dVs (ks : List Key) (ds : List α) (k : Key) (d : α) : List α := if k ∈ ks then ks.zipWith (fun k' d' => if k' = k then d else d') ds else ds ++ [d]
theorem dAt_map (f : Key → α) (k : Key) : ∀ ks : List Key, dAt ks (ks.map f) k = if k ∈ ks then some (f k) else none
  | [] => rfl
  | k' :: ks => by
    rw [List.map_cons, dAt, dAt_map f k ks]
    by_cases e : k' = k
    · subst e; simp
    · have e' : ¬ k = k' := fun z => e z.symm
      rw [if_neg e]; simp [e']
theorem zipW_map (f : Key → α) (k : Key) (d : α) : ∀ ks : List Key, ks.zipWith (fun k' d' => if k' = k then d else d') (ks.map f) = ks.map fun k' => if k' = k then d else f k'
  | [] => rfl
  | k' :: ks => by rw [List.map_cons, List.zipWith_cons_cons, zipW_map f k d ks, List.map_cons]
theorem dVs_map (f : Key → α) (k : Key) (d : α) (ks : List Key) : dVs ks (ks.map f) k d = (dKs ks k).map fun k' => if k' = k then d else f k' := by
  unfold dVs dKs
  by_cases m : k ∈ ks
  · rw [if_pos m, if_pos m, zipW_map]
  · rw [if_neg m, if_neg m, List.map_append]
    congr 1
    · exact List.map_congr_left fun x hx => by rw [if_neg fun z : x = k => m (z ▸ hx)]
    · simp
theorem dAt_mem {k : Key} : ∀ {ks : List Key} {ds : List α}, ks.length = ds.length → (dAt ks ds k).isSome = decide (k ∈ ks)
  | [], _, _ => by simp [dAt]
  | _ :: _, [], h => by simp at h
  | k' :: ks, d :: ds, h => by
    rw [dAt]
    by_cases e : k' = k
    · subst e; simp
    · have e' : ¬ k = k' := fun z => e z.symm
      rw [if_neg e, dAt_mem (ks := ks) (ds := ds) (by simpa using h)]; simp [e']
theorem val_zip (k : Key) : ∀ (ks : List Key) (xs : List V), valV (ks.zip xs) k = dAt ks xs k
  | [], _ => rfl
  | _ :: _, [] => rfl
  | k' :: ks, x :: xs => by
    rw [List.zip_cons_cons, dAt]
    by_cases e : k' = k
    · rw [valV_pos (p := (k', x)) e, if_pos e]
    · rw [valV_neg (p := (k', x)) e, if_neg e, val_zip k ks xs]
theorem map_zip (k : Key) (y : V) : ∀ (ks : List Key) (xs : List V), (ks.zip xs).map (fun kv => if kv.1 = k then (kv.1, y) else kv) = ks.zip (ks.zipWith (fun k' d' => if k' = k then y else d') xs)
  | [], _ => rfl
  | _ :: _, [] => rfl
  | k' :: ks, x :: xs => by
    rw [List.zip_cons_cons, List.map_cons, List.zipWith_cons_cons, List.zip_cons_cons, map_zip k y ks xs]
    by_cases e : k' = k <;> simp [e]
theorem put_zip {ks : List Key} {xs : List V} (h : ks.length = xs.length) (k : Key) (y : V) : putK (ks.zip xs) k y = (dKs ks k).zip (dVs ks xs k y) := by
  unfold putK
  rw [valV_any, val_zip, dAt_mem h]
  unfold dKs dVs
  by_cases m : k ∈ ks
  · rw [if_pos (by simpa using m), if_pos m, if_pos m, map_zip]
  · rw [if_neg (by simpa using m), if_neg m, if_neg m]
    rw [List.zip_append h]; rfl
theorem dKs_len {ks : List Key} {xs : List α} (h : ks.length = xs.length) (k : Key) (y : α) : (dKs ks k).length = (dVs ks xs k y).length := by
  unfold dKs dVs
  by_cases m : k ∈ ks
  · rw [if_pos m, if_pos m, List.length_zipWith]; omega
  · rw [if_neg m, if_neg m, List.length_append, List.length_append, h]; rfl
theorem dKs_le (ks : List Key) (k : Key) : (dKs ks k).length ≤ ks.length + 1 := by
  unfold dKs
  split <;> simp
end
section
variable {K : PySem.W.Frag} {G : Gx} {H : Hp}
theorem RepAll.at {k : Key} : ∀ {ks : List Key} {xs : List V} {ds : List D} {d : D}, RepAll K G H xs ds → dAt ks ds k = some d → ∃ v, dAt ks xs k = some v ∧ Rep K G H v d
  | [], _, _, _, _, e => by simp [dAt] at e
  | _ :: _, _, [], _, _, e => by simp [dAt] at e
  | k' :: ks, _, d' :: ds, d, ⟨x, xs, h1, h2, h3⟩, e => by
    subst h1
    rw [dAt] at e ⊢
    by_cases z : k' = k
    · rw [if_pos z] at e ⊢; cases e; exact ⟨x, rfl, h2⟩
    · rw [if_neg z] at e ⊢; exact RepAll.at h3 e
theorem RepAll.zipW {k : Key} {y : V} {d : D} (r : Rep K G H y d) : ∀ {ks : List Key} {xs : List V} {ds : List D}, RepAll K G H xs ds → RepAll K G H (ks.zipWith (fun k' d' => if k' = k then y else d') xs) (ks.zipWith (fun k' d' => if k' = k then d else d') ds)
  | [], _, _, _ => by rw [List.zipWith_nil_left, List.zipWith_nil_left]; exact rfl
  | _ :: _, _, [], h => by cases h; rw [List.zipWith_nil_right, List.zipWith_nil_right]; exact rfl
  | k' :: ks, _, d' :: ds, ⟨x, xs, h1, h2, h3⟩ => by
    subst h1
    rw [List.zipWith_cons_cons, List.zipWith_cons_cons]
    refine ⟨_, _, rfl, ?_, RepAll.zipW r h3⟩
    by_cases z : k' = k
    · rw [if_pos z, if_pos z]; exact r
    · rw [if_neg z, if_neg z]; exact h2
theorem RepAll.dput {k : Key} {y : V} {d : D} {ks : List Key} {xs : List V} {ds : List D} (h : RepAll K G H xs ds) (r : Rep K G H y d) : RepAll K G H (dVs ks xs k y) (dVs ks ds k d) := by
  unfold dVs
  by_cases m : k ∈ ks
  · rw [if_pos m, if_pos m]; exact h.zipW r
  · rw [if_neg m, if_neg m]; exact h.append (.one r)
theorem RepAll.keys : ∀ (ks : List Key), RepAll K G H (ks.map kV) (ks.map keyD)
  | [] => rfl
  | .inl i :: ks => ⟨_, _, rfl, rfl, RepAll.keys ks⟩
  | .inr i :: ks => ⟨_, _, rfl, rfl, RepAll.keys ks⟩
theorem isK_of {M : List Addr} {v : V} {d : D} {Q : Key → Prop} (b : RB K G M H v d) (h : isK d Q) : ∃ k, v = kV k ∧ d = keyD k ∧ Q k := by
  cases d <;> first | exact h.elim | skip
  · exact ⟨.inl _, b.int, rfl, h⟩
  · exact ⟨.inr _, b.str, rfl, h⟩
end
def fDGet : F2 := fun d e Q => isDct d fun ks ds => isK e fun k => ∃ x, dAt ks ds k = some x ∧ Q (.sh x)
def fDIn : F2 := fun e d Q => isDct d fun ks ds => isK e fun k => Q (.sh (.bl (decide (k ∈ ks))))
def fDNi : F2 := fun e d Q => isDct d fun ks ds => isK e fun k => Q (.sh (.bl (!decide (k ∈ ks))))
@[simp] theorem fDGet_0 (ks : List Key) (ds : List D) (e : D) (Q : RD → Prop) : fDGet (.dct ks ds) e Q = isK e fun k => ∃ x, dAt ks ds k = some x ∧ Q (.sh x) := rfl
@[simp] theorem fDIn_0 (ks : List Key) (ds : List D) (e : D) (Q : RD → Prop) : fDIn e (.dct ks ds) Q = isK e fun k => Q (.sh (.bl (decide (k ∈ ks)))) := rfl
@[simp] theorem fDNi_0 (ks : List Key) (ds : List D) (e : D) (Q : RD → Prop) : fDNi e (.dct ks ds) Q = isK e fun k => Q (.sh (.bl (!decide (k ∈ ks)))) := rfl
def rDGet : R2 := fun x y H Q => ∃ a v, x = .ref a ∧ DGet H a y (some v) ∧ Q v H
def rDIn : R2 := fun y x H Q => ∃ a o, x = .ref a ∧ DGet H a y o ∧ Q (.bl o.isSome) H
def rDNi : R2 := fun y x H Q => ∃ a o, x = .ref a ∧ DGet H a y o ∧ Q (.bl (!o.isSome)) H
section
variable {X : Cx} {G : Gx} {K : PySem.W.Frag} {E : Ent} {a b e i : Expr} {ta tb te ti : TE} {wa wb we wi : WE} {pos : Pos}
theorem ops_dget : OpS K G rDGet fDGet := fun M H x y d e al bx by' Qd h Q k => by
  cases d <;> first | exact h.elim | skip
  obtain ⟨p, xs, rfl, hp, hl, r⟩ := bx.dct
  obtain ⟨key, rfl, rfl, z, hz, h⟩ := isK_of by' (show isK e _ from h)
  obtain ⟨v, hv, rv⟩ := r.at hz
  exact ⟨p, v, rfl, .inl ⟨_, key, hp, rfl, by rw [val_zip, hv]⟩, k v (.sh z) H (Same.refl _) rv h⟩
theorem ops_din : OpS K G rDIn fDIn := fun M H y x e d al by' bx Qd h Q k => by
  cases d <;> first | exact h.elim | skip
  obtain ⟨p, xs, rfl, hp, hl, r⟩ := bx.dct
  rw [fDIn_0] at h
  obtain ⟨key, rfl, rfl, h2⟩ := isK_of by' h
  refine ⟨p, _, rfl, .inl ⟨_, key, hp, rfl, rfl⟩, k _ _ H (Same.refl _) rn_bl ?_⟩
  rw [val_zip, dAt_mem hl]; exact h2
theorem ops_dni : OpS K G rDNi fDNi := fun M H y x e d al by' bx Qd h Q k => by
  cases d <;> first | exact h.elim | skip
  obtain ⟨p, xs, rfl, hp, hl, r⟩ := bx.dct
  rw [fDNi_0] at h
  obtain ⟨key, rfl, rfl, h2⟩ := isK_of by' h
  refine ⟨p, _, rfl, .inl ⟨_, key, hp, rfl, rfl⟩, k _ _ H (Same.refl _) rn_bl ?_⟩
  rw [val_zip, dAt_mem hl]; exact h2
theorem de_dget (hu : X.A.units + 64 < cLine) (ha : DE X G a ta wa) (hb : DE X G b tb wb) (hs : NoSl b) : DE X G (.Subscript a b pos) (tOp rDGet ta tb) (wOp fDGet wa wb) := ⟨pe_dget (by omega) ha.pe hb.pe hs, fun E => sim_op ops_dget (ha.sim E) (hb.sim E)⟩
theorem de_din (hu : X.A.units + 64 < cLine) (ha : DE X G a ta wa) (hb : DE X G b tb wb) (hm : behindInMarks .In b = false := by rfl) : DE X G (.Compare a [.In] [b] pos) (tOp rDIn ta tb) (wOp fDIn wa wb) := ⟨pe_cmp (pc_din (by omega) ha.pe hb.pe) hm, fun E => sim_op ops_din (ha.sim E) (hb.sim E)⟩
theorem dt_din (hu : X.A.units + 64 < cLine) (ha : DE X G a ta wa) (hb : DE X G b tb wb) (hm : behindInMarks .In b = false := by rfl) : DT X G (.Compare a [.In] [b] pos) (tTest (tOp rDIn ta tb)) (wTest (wOp fDIn wa wb)) := ⟨pt_cmp (pc_din (by omega) ha.pe hb.pe) hm, fun E => sim_test (sim_op ops_din (ha.sim E) (hb.sim E))⟩
theorem de_dni (hu : X.A.units + 64 < cLine) (ha : DE X G a ta wa) (hb : DE X G b tb wb) (hm : behindInMarks .NotIn b = false := by rfl) : DE X G (.Compare a [.NotIn] [b] pos) (tOp rDNi ta tb) (wOp fDNi wa wb) := ⟨pe_cmp (pc_dnotin (by omega) ha.pe hb.pe) hm, fun E => sim_op ops_dni (ha.sim E) (hb.sim E)⟩
theorem dt_dni (hu : X.A.units + 64 < cLine) (ha : DE X G a ta wa) (hb : DE X G b tb wb) (hm : behindInMarks .NotIn b = false := by rfl) : DT X G (.Compare a [.NotIn] [b] pos) (tTest (tOp rDNi ta tb)) (wTest (wOp fDNi wa wb)) := ⟨pt_cmp (pc_dnotin (by omega) ha.pe hb.pe) hm, fun E => sim_test (sim_op ops_dni (ha.sim E) (hb.sim E))⟩
@[simp] def ownDc (δ : St3) (i : Nat) (ks : List Key) (ds : List D) : Prop := δ.sl[i]? = some (some (SV.ow (.dct ks ds)))
@[simp] def wDPut (i : Nat) (wv wk : WE) : WS := fun De δ => wv δ fun r δ1 => ¬ r.bor ∧ (∃ ks0 ds0, ownDc δ1 i ks0 ds0) ∧ wk δ1 fun s δ2 => ∃ ks ds, ownDc δ2 i ks ds ∧ isK s.d fun k => ks.length < 16777216 ∧ De.nx ⟨δ2.sl.set i (some (.ow (.dct (dKs ks k) (dVs ks ds k r.d)))), δ2.n⟩
theorem sim_dput {i : Nat} (h : ∀ E, SimE K G E te we) (h' : ∀ E, SimE K G E ti wi) : SimS K G (sDPut (tVar i) ti te) (wDPut i we wi) := fun E am M σ δ H S D3 q De R => by
  refine h E am M σ δ H S _ q _ fun x r δ1 H1 S1 e1 o1 rv ⟨nb, ⟨ks0, ds0, h0⟩, q⟩ => ?_
  obtain ⟨a1, _⟩ := S1.ow i _ h0
  refine ⟨_, a1, ?_⟩
  refine h' E am M σ δ1 H1 S1 _ q _ fun z s δ2 H2 S2 e2 o2 sv ⟨ks, ds, h1, q⟩ => ?_
  obtain ⟨b1, b2, b3, b4, xs, b5, hl, b6⟩ := S2.ow i _ h1
  obtain ⟨key, rfl, es, sz, q⟩ := isK_of (sv.k.rb S2) q
  have rr := (rv.k.later (δ2 := δ2) S1 e2 (fun b => (nb b).elim)).rep nb
  refine ⟨am i, _, rfl, .inl ⟨_, key, b5, rfl, by rw [List.length_zip, ← hl, Nat.min_self, line16]; exact sz, rfl⟩, R.nx am M _ _ _ (S2.mut (d' := .dct (dKs ks key) (dVs ks ds key r.d)) h1 ⟨dVs ks xs key x, by rw [upd_same, put_zip hl], dKs_len hl key x, ?_⟩ rfl) q⟩
  rw [mask_upd b2]
  exact b6.dput rr
theorem ds_dput (k : Nat) {x : Str} {px pos2 : Pos} (hu : X.A.units + 64 < cLine) (he : DE X G e te we) (hx : PE X (.Name x px) (tVar k)) (hi : DE X G i ti wi) (hs : swapsWith e (some (.Subscript (.Name x px) i pos2)) pos.line X.env = pure false := by rfl) :
    DS X G (.Assign [.Subscript (.Name x px) i pos2] e pos) (sDPut (tVar k) ti te) (wDPut k we wi) := ⟨ps_dput (by omega) hx hi.pe he.pe hs, sim_dput he.sim hi.sim⟩
@[simp] def wDNew : WE := fun δ Q => Q (.fr (.dct [] [])) δ
theorem sim_dnew : SimE K G E tDNewK wDNew := fun am M σ δ H S Qd q Q k p hp => by
  have sm := same_new (o := .dK []) hp
  exact k _ (.fr (.dct [] [])) δ _ (S.grow sm) (Ext.of (δ := δ) sm) (fun _ z => z) (RN.rv (r := .fr (.dct [] [])) S sm ⟨p, rfl, hp, [], upd_same, rfl, rfl⟩) q
theorem de_dnew : DE X G (.Dict [] [] pos) tDNewK wDNew := ⟨pe_dnewK, fun _ => sim_dnew⟩
@[simp] def wPrs : List (WE × WE) → St3 → (List Key → List D → St3 → Prop) → Prop
  | [], δ, Q => Q [] [] δ
  | (wk, wv) :: r, δ, Q => wk δ fun s δ1 => isK s.d fun k => wv δ1 fun v δ2 => ¬ v.bor ∧ wPrs r δ2 fun ks ds δ3 => Q (k :: ks) (v.d :: ds) δ3
def dMerge {α : Type} : List Key → List α → List Key → List α → List Key × List α
  | ks, ds, k :: more, d :: ms => dMerge (dKs ks k) (dVs ks ds k d) more ms
  | ks, ds, _, _ => (ks, ds)
@[simp] theorem dMerge_nil {α : Type} (ks : List Key) (ds : List α) : dMerge ks ds [] [] = (ks, ds) := by simp [dMerge]
@[simp] theorem dMerge_cons {α : Type} (ks : List Key) (ds : List α) (k : Key) (d : α) (more : List Key) (ms : List α) : dMerge ks ds (k :: more) (d :: ms) = dMerge (dKs ks k) (dVs ks ds k d) more ms := by simp [dMerge]
@[simp] def wDisp (ps : List (WE × WE)) : WE := fun δ Q => wPrs ps δ fun ks ds δ1 => ks.length ≤ 15 ∧ Q (.fr (.dct (dMerge [] [] ks ds).1 (dMerge [] [] ks ds).2)) δ1
structure DP (X : Cx) (G : Gx) (pos : Pos) (keys : List (Option Expr)) (values : List Expr) (ts : List (TE × TE)) (ws : List (WE × WE)) : Prop where
  pp : PPs X pos keys values ts
  sim : ∀ (E : Ent) (am : Nat → Addr) (M : List Addr) (σ : L2.St) (δ : St3) (H : Hp), SR X.K G E am M σ δ H → ∀ Qd : List Key → List D → St3 → Prop, wPrs ws δ Qd → ∀ Q : List (V × V) → Hp → Prop,
    (∀ (ks : List Key) (xs : List V) (ds : List D) (δ' : St3) (H' : Hp), SR X.K G E am M σ δ' H' → Ext G am δ H H' → (∀ i, isOwn δ' i → isOwn δ i) → ks.length = xs.length → RepAll X.K G (mask M H') xs ds → Qd ks ds δ' → Q ((ks.zip xs).map fun kv => (kV kv.1, kv.2)) H') → tPairs ts σ H Q
theorem dp_nil : DP X G pos [] [] [] [] := ⟨pps_nil, fun E am M σ δ H S Qd q Q k => k [] [] [] δ H S .refl (fun _ z => z) rfl rfl q⟩
theorem dp_cons {keys : List (Option Expr)} {values : List Expr} {ts : List (TE × TE)} {ws : List (WE × WE)} (ha : DE X G a ta wa) (hb : DE X G b tb wb) (hr : DP X G pos keys values ts ws) : DP X G pos (some a :: keys) (b :: values) ((ta, tb) :: ts) ((wa, wb) :: ws) :=
  ⟨pps_cons ha.pe hb.pe hr.pp, fun E am M σ δ H S Qd q Q k => by
    refine ha.sim E am M σ δ H S _ q _ fun x r δ1 H1 S1 e1 o1 rv q => ?_
    obtain ⟨key, rfl, _, q⟩ := isK_of (rv.k.rb S1) q
    refine hb.sim E am M σ δ1 H1 S1 _ q _ fun y s δ2 H2 S2 e2 o2 sv ⟨nb, q⟩ => ?_
    refine hr.sim E am M σ δ2 H2 S2 _ q _ fun ks xs ds δ3 H3 S3 e3 o3 hl r3 q => ?_
    exact k (key :: ks) (y :: xs) (s.d :: ds) δ3 H3 S3 ((e1.trans o1 e2).trans (fun i z => o1 i (o2 i z)) e3) (fun i z => o1 i (o2 i (o3 i z))) (by simp [hl]) ⟨y, xs, rfl, Rep.mono (S2.mask e3) _ (sv.k.rep nb), r3⟩ q⟩
theorem merge_zip : ∀ (more : List Key) (ms : List V) (ks : List Key) (xs : List V), ks.length = xs.length → more.length = ms.length → mergeK (ks.zip xs) (more.zip ms) = (dMerge ks xs more ms).1.zip (dMerge ks xs more ms).2
  | [], [], ks, xs, _, _ => by rw [dMerge_nil]; rfl
  | [], _ :: _, _, _, _, h => by simp at h
  | _ :: _, [], _, _, _, h => by simp at h
  | k :: more, m :: ms, ks, xs, h, h' => by
    rw [dMerge_cons, ← merge_zip more ms _ _ (dKs_len h k m) (by simpa using h'), List.zip_cons_cons, ← put_zip h]; rfl
theorem merge_keys {α β : Type} : ∀ (more : List Key) (ms : List α) (ns : List β) (ks : List Key) (xs : List α) (ys : List β), more.length = ms.length → more.length = ns.length → (dMerge ks xs more ms).1 = (dMerge ks ys more ns).1
  | [], [], [], ks, xs, ys, _, _ => by rw [dMerge_nil, dMerge_nil]
  | k :: more, m :: ms, n :: ns, ks, xs, ys, h, h' => by
    rw [dMerge_cons, dMerge_cons]
    exact merge_keys more ms ns _ _ _ (by simpa using h) (by simpa using h')
  | [], _ :: _, _, _, _, _, h, _ => by simp at h
  | [], _, _ :: _, _, _, _, _, h => by simp at h
  | _ :: _, [], _, _, _, _, h, _ => by simp at h
  | _ :: _, _, [], _, _, _, _, h => by simp at h
theorem merge_len {α : Type} : ∀ (more : List Key) (ms : List α) (ks : List Key) (xs : List α), ks.length = xs.length → more.length = ms.length → (dMerge ks xs more ms).1.length = (dMerge ks xs more ms).2.length
  | [], [], ks, xs, h, _ => by rw [dMerge_nil]; exact h
  | k :: more, m :: ms, ks, xs, h, h' => by
    rw [dMerge_cons]
    exact merge_len more ms _ _ (dKs_len h k m) (by simpa using h')
  | [], _ :: _, _, _, _, h => by simp at h
  | _ :: _, [], _, _, _, h => by simp at h
theorem RepAll.merge {H : Hp} : ∀ (more : List Key) (ms : List V) (ns : List D) (ks : List Key) (xs : List V) (ys : List D), RepAll K G H ms ns → RepAll K G H xs ys → RepAll K G H (dMerge ks xs more ms).2 (dMerge ks ys more ns).2
  | [], _, _, _, _, _, _, h => by simpa [dMerge] using h
  | _ :: _, _, [], _, _, _, r, h => by cases r; simpa [dMerge] using h
  | k :: more, _, n :: ns, ks, xs, ys, ⟨m, ms, e, r1, r2⟩, h => by
    subst e
    rw [dMerge_cons, dMerge_cons]
    exact RepAll.merge more ms ns _ _ _ r2 (h.dput r1)
theorem sim_disp {keys : List (Option Expr)} {values : List Expr} {ts : List (TE × TE)} {ws : List (WE × WE)} (hp : DP X G pos keys values ts ws) : SimE X.K G E (tDisp ts) (wDisp ws) := fun am M σ δ H S Qd q Q k p hpn => by
  have sm := same_new (o := .dK []) hpn
  have pM : p ∉ M := fun z => S.al p z hpn
  have pDk : p ∉ G.dk := fun z => pM (S.ads p (S.dks p z))
  have pH0 : E.H0 p = none := by
    cases z : E.H0 p with
    | none => rfl
    | some o => exact absurd (S.base p o z pDk) (by rw [hpn]; simp)
  have pOwn : ∀ i : Nat, isOwn δ i → am i ≠ p := fun i ⟨d, hi⟩ z => pM (z ▸ (S.ow i d hi).2.1)
  have T := S.more (p := p) hpn sm (by rw [upd_same]; simp)
  refine hp.sim E am (p :: M) σ δ _ T _ q _ fun ks xs ds δ' H' S' e o hl r ⟨h15, q⟩ => ?_
  have h1 : H' p = some (.dK []) := e p _ upd_same pDk fun i hi => pOwn i hi
  refine ⟨h1, ks.zip xs, rfl, by rw [List.length_zip, ← hl, Nat.min_self]; exact h15, ?_⟩
  have qM : ∀ a, isOdA am δ' H' a → a ∈ M := fun a ha => by
    have eA : Ext G am δ H H' := fun b u hb kb ho => e b u (sm b u hb) kb ho
    exact (S.od.isA (S.isOdA eA o ha)).1
  have S2 := S'.put (o := .dK (mergeK [] (ks.zip xs))) List.mem_cons_self pDk pH0 (fun i z => pOwn i (o i z)) (fun a ha z => pM (by rw [← z]; exact qM a ha)) (NoCode.of h1 fun _ => HO.noConfusion)
  have S3 := S2.less (M' := M) (fun a z => List.mem_cons_of_mem _ z) S.ads (fun j d h => by
    obtain ⟨d', h'⟩ := o j ⟨d, h⟩
    exact (S.ow j d' h').2.1) fun a ha => ?_
  rotate_left
  · obtain ⟨i, ks', ss', xs', z1, z2, z3, z4⟩ := ha
    obtain ⟨ys, oo⟩ := S.od.at' i ks' ss' (o (.od i ks' ss') z1)
    have aM := (oo.a (am i) List.mem_cons_self).1
    rw [upd_ne fun z => pM (by rw [← z]; exact aM)] at z2
    exact qM a ⟨i, ks', ss', xs', z1, z2, z3, z4⟩
  refine k (.ref p) (.fr (.dct (dMerge [] [] ks ds).1 (dMerge [] [] ks ds).2)) δ' _ S3 (fun b u hb kb ho => ?_) o ⟨p, rfl, pM, pH0, ⟨(dMerge [] [] ks xs).2, ?_, ?_, ?_⟩, S2⟩ q
  · have ne : b ≠ p := fun z => by subst z; rw [hpn] at hb; cases hb
    rw [upd_ne ne]
    exact e b u (sm b u hb) kb ho
  · rw [upd_same]
    have := merge_zip ks xs [] [] rfl hl
    rw [List.zip_nil_left] at this
    rw [this, merge_keys ks xs ds [] [] [] hl (by rw [hl, r.length])]
  · rw [← merge_keys ks xs ds [] [] [] hl (by rw [hl, r.length])]
    exact merge_len ks xs [] [] rfl hl
  · rw [mask_upd List.mem_cons_self]
    exact RepAll.merge ks xs ds [] [] [] r rfl
theorem de_disp {keys : List (Option Expr)} {values : List Expr} {ts : List (TE × TE)} {ws : List (WE × WE)} (hp : DP X G pos keys values ts ws) (hall : keys.all (·.isSome) = true := by rfl) (hl : keys.length = values.length := by rfl) (h0 : keys ≠ [] := by exact List.cons_ne_nil _ _)
    (h15 : keys.length ≤ 15 := by decide) : DE X G (.Dict keys values pos) (tDisp ts) (wDisp ws) := ⟨pe_disp hp.pp hall hl h0 h15, fun E => sim_disp hp⟩
end
def fListD : FC
  | [.dct ks _], Q => Q (.fr (.lst (ks.map keyD)))
  | _, _ => False
@[simp] theorem fListD_0 (ks : List Key) (ds : List D) (Q : RD → Prop) : fListD [.dct ks ds] Q = Q (.fr (.lst (ks.map keyD))) := rfl
def fLenD : FC
  | [.dct ks _], Q => Q (.sh (.int ks.length))
  | _, _ => False
@[simp] theorem fLenD_0 (ks : List Key) (ds : List D) (Q : RD → Prop) : fLenD [.dct ks ds] Q = Q (.sh (.int ks.length)) := rfl
def rListD : List V → Hp → VK → Prop := fun xs H Q => ∃ (a : Addr) (kvs : List (Key × V)), xs = [.ref a] ∧ Rd H a (.dK kvs) ∧ ∀ p, H p = none → Q (.ref p) (upd H p (.lst (kvs.map fun kv => kV kv.1)))
def rLenD : List V → Hp → VK → Prop := fun xs H Q => ∃ a kvs, xs = [V.ref a] ∧ Rd H a (.dK kvs) ∧ Q (.int kvs.length) H
section
variable {X : Cx} {G : Gx} {K : PySem.W.Frag}
theorem call_listDK (hc : X.calm = true) : CallR X (.type "list") rListD := call_listD hc
theorem call_lenDK : CallR X (.builtin "len") rLenD := by
  intro pins s σ H xs us Q I r h
  obtain ⟨a, kvs, rfl, ha, q⟩ := h
  obtain ⟨u, rfl, ru⟩ := vals1 r
  cases ru
  exact d_len I ha fun t s' I' => ⟨.int kvs.length, H, I', ⟨t, rfl⟩, q⟩
theorem calls_listD : CallS K G rListD fListD := fun M H vs ds al b Qd h Q k => by
  match ds, h with
  | [.dct ks es], h =>
    obtain ⟨v, rfl, b1⟩ := b.one
    obtain ⟨p, xs, rfl, hp, hl, r⟩ := b1.dct
    refine ⟨p, _, rfl, hp, fun l hq => ?_⟩
    have e : (ks.zip xs).map (fun kv => kV kv.1) = ks.map kV := by
      have : (ks.zip xs).map (fun kv => kV kv.1) = ((ks.zip xs).map (·.1)).map kV := by rw [List.map_map]; rfl
      rw [this, List.map_fst_zip (by omega)]
    rw [e]
    exact k _ _ _ (same_new hq) (rn_lst hq (RepAll.keys ks)) h
theorem calls_lenD : CallS K G rLenD fLenD := fun M H vs ds al b Qd h Q k => by
  match ds, h with
  | [.dct ks es], h =>
    obtain ⟨v, rfl, b1⟩ := b.one
    obtain ⟨p, xs, rfl, hp, hl, r⟩ := b1.dct
    refine ⟨p, _, rfl, hp, ?_⟩
    rw [List.length_zip, ← hl, Nat.min_self]
    exact k _ _ H (Same.refl _) rn_int h
end
end L3
namespace L3
open PySem PySem.Spec PyProof.Rows L2
section
variable {α : Type} {ad : α → RD → (α → Prop) → Prop} {g g1 : WG} {t t1 : WT} {wi1 : WI} {w : WE} {vs vs1 : List Nat} {Q : α → St3 → Prop}
theorem c2In_of (I : Nat → α → St3 → Prop) : ∀ (ds : List D) (k : Nat) (acc : α) (δ : St3), I k acc δ →
    (∀ (i : Nat) (d : D) (acc : α) (δ : St3), ds[i]? = some d → I (k + i) acc δ → ∀ N : α → St3 → Prop, (∀ acc δ, I (k + i + 1) acc δ → N acc δ) → g d δ fun δ1 => t δ1 fun b δ2 =>
      (b = true → w δ2 fun q δ3 => ad acc q fun acc' => N acc' ⟨wipe3 δ3.sl vs, δ3.n⟩) ∧ (b = false → N acc ⟨wipe3 δ2.sl vs, δ2.n⟩)) →
    (∀ acc δ, I (k + ds.length) acc δ → Q acc δ) → c2In ad g t w vs Q ds acc δ
  | [], k, acc, δ, h0, _, hn => hn acc δ h0
  | d :: ds, k, acc, δ, h0, hs, hn => hs 0 d acc δ rfl h0 _ fun acc1 δ1 h1 => c2In_of I ds (k + 1) acc1 δ1 h1 (fun i d' acc' δ' hd hi N hN => hs (i + 1) d' acc' δ' hd (by rw [show k + (i + 1) = k + 1 + i by omega]; exact hi) N fun acc2 δ2 h2 => hN acc2 δ2 (by rw [show k + 1 + i + 1 = k + (i + 1) + 1 by omega]; exact h2))
      fun acc2 δ2 h2 => hn acc2 δ2 (by rw [show k + (d :: ds).length = k + 1 + ds.length by simp only [List.length_cons]; omega]; exact h2)
theorem c2In_inv {ds : List D} {acc : α} {δ : St3} (I : Nat → α → St3 → Prop) (h0 : I 0 acc δ)
    (hs : ∀ (i : Nat) (d : D) (acc : α) (δ : St3), ds[i]? = some d → I i acc δ → ∀ N : α → St3 → Prop, (∀ acc δ, I (i + 1) acc δ → N acc δ) → g d δ fun δ1 => t δ1 fun b δ2 =>
      (b = true → w δ2 fun q δ3 => ad acc q fun acc' => N acc' ⟨wipe3 δ3.sl vs, δ3.n⟩) ∧ (b = false → N acc ⟨wipe3 δ2.sl vs, δ2.n⟩))
    (hn : ∀ acc δ, I ds.length acc δ → Q acc δ) : c2In ad g t w vs Q ds acc δ :=
  c2In_of I ds 0 acc δ h0 (fun i d acc δ hd hi N hN => hs i d acc δ hd (by rwa [Nat.zero_add] at hi) N fun acc δ h => hN acc δ (by rwa [Nat.zero_add])) fun acc δ h => hn acc δ (by rwa [Nat.zero_add] at h)
theorem c2Out_of (I : Nat → α → St3 → Prop) : ∀ (ds : List D) (k : Nat) (acc : α) (δ : St3), I k acc δ →
    (∀ (i : Nat) (d : D) (acc : α) (δ : St3), ds[i]? = some d → I (k + i) acc δ → ∀ N : α → St3 → Prop, (∀ acc δ, I (k + i + 1) acc δ → N acc δ) → g d δ fun δ1 => t δ1 fun b δ2 =>
      (b = true → wi1 δ2 fun es δ3 => c2In ad g1 t1 w vs1 (fun acc' δ4 => N acc' ⟨wipe3 δ4.sl vs, δ4.n⟩) es acc ⟨wipe3 δ3.sl vs1, δ3.n⟩) ∧ (b = false → N acc ⟨wipe3 δ2.sl vs, δ2.n⟩)) →
    (∀ acc δ, I (k + ds.length) acc δ → Q acc δ) → c2Out ad g t wi1 g1 t1 w vs vs1 Q ds acc δ
  | [], k, acc, δ, h0, _, hn => hn acc δ h0
  | d :: ds, k, acc, δ, h0, hs, hn => hs 0 d acc δ rfl h0 _ fun acc1 δ1 h1 => c2Out_of I ds (k + 1) acc1 δ1 h1 (fun i d' acc' δ' hd hi N hN => hs (i + 1) d' acc' δ' hd (by rw [show k + (i + 1) = k + 1 + i by omega]; exact hi) N fun acc2 δ2 h2 => hN acc2 δ2 (by rw [show k + 1 + i + 1 = k + (i + 1) + 1 by omega]; exact h2))
      fun acc2 δ2 h2 => hn acc2 δ2 (by rw [show k + (d :: ds).length = k + 1 + ds.length by simp only [List.length_cons]; omega]; exact h2)
theorem c2Out_inv {ds : List D} {acc : α} {δ : St3} (I : Nat → α → St3 → Prop) (h0 : I 0 acc δ)
    (hs : ∀ (i : Nat) (d : D) (acc : α) (δ : St3), ds[i]? = some d → I i acc δ → ∀ N : α → St3 → Prop, (∀ acc δ, I (i + 1) acc δ → N acc δ) → g d δ fun δ1 => t δ1 fun b δ2 =>
      (b = true → wi1 δ2 fun es δ3 => c2In ad g1 t1 w vs1 (fun acc' δ4 => N acc' ⟨wipe3 δ4.sl vs, δ4.n⟩) es acc ⟨wipe3 δ3.sl vs1, δ3.n⟩) ∧ (b = false → N acc ⟨wipe3 δ2.sl vs, δ2.n⟩))
    (hn : ∀ acc δ, I ds.length acc δ → Q acc δ) : c2Out ad g t wi1 g1 t1 w vs vs1 Q ds acc δ :=
  c2Out_of I ds 0 acc δ h0 (fun i d acc δ hd hi N hN => hs i d acc δ hd (by rwa [Nat.zero_add] at hi) N fun acc δ h => hN acc δ (by rwa [Nat.zero_add])) fun acc δ h => hn acc δ (by rwa [Nat.zero_add] at h)
end
@[simp] theorem adS_int (acc : List Int) (c : Int) (N : List Int → Prop) : adS acc (.sh (.int c)) N = (acc.length + 1 < 4096 ∧ N (if c ∈ acc then acc else acc ++ [c])) := rfl
@[simp] theorem adL_sh (acc : List D) (d : D) (N : List D → Prop) : adL acc (.sh d) N = (acc.length < 16777216 ∧ N (acc ++ [d])) := by simp [adL]
theorem putN {acc : List Int} {c : Int} (h : acc.Nodup) : (if c ∈ acc then acc else acc ++ [c]).Nodup := by
  split
  · exact h
  · rename_i m
    exact List.nodup_append.mpr ⟨h, by simp, fun x hx y hy z => by simp at hy; subst hy; subst z; exact m hx⟩
theorem putM {acc : List Int} {c j : Int} : (j ∈ if c ∈ acc then acc else acc ++ [c]) ↔ j ∈ acc ∨ j = c := by
  split
  · rename_i m
    constructor
    · exact .inl
    · rintro (h | rfl)
      · exact h
      · exact m
  · simp
theorem keyD_inl (ns : List Int) : (ns.map (Sum.inl : Int → Key)).map keyD = ns.map D.int := by rw [List.map_map]; rfl
theorem dKs_inl (ns : List Int) (c : Int) : dKs (ns.map (Sum.inl : Int → Key)) (.inl c) = (if c ∈ ns then ns else ns ++ [c]).map Sum.inl := by
  unfold dKs
  by_cases m : c ∈ ns
  · rw [if_pos m, if_pos (List.mem_map.mpr ⟨c, m, rfl⟩)]
  · rw [if_neg m, if_neg fun z => m (by obtain ⟨x, hx, e⟩ := List.mem_map.mp z; cases e; exact hx), List.map_append]; rfl
theorem mem_inl (ns : List Int) (c : Int) : (Sum.inl c : Key) ∈ ns.map (Sum.inl : Int → Key) ↔ c ∈ ns :=
  ⟨fun z => by obtain ⟨x, hx, e⟩ := List.mem_map.mp z; cases e; exact hx, fun m => List.mem_map.mpr ⟨c, m, rfl⟩⟩
@[simp] theorem flat_ints (ns : List Int) : (ns.map D.int).all D.flat = true := by simp [D.flat]
@[simp] theorem inD_ints (i : Int) (ns : List Int) : inD (.int i) (ns.map D.int) = decide (i ∈ ns) := by
  unfold inD inV
  rw [List.map_map]
  induction ns with
  | nil => simp
  | cons j ns ih =>
    rw [List.map_cons, List.any_cons, ih]
    have : eqV ((D.v ∘ D.int) j) (D.int i).v = decide (j = i) := by
      show eqV (.int j) (.int i) = _
      simp only [eqV]; by_cases e : j = i <;> simp [e]
    rw [this]
    by_cases e : j = i
    · subst e; simp
    · have e' : ¬ i = j := fun z => e z.symm
      simp [e, e']
theorem ShAll.mapB {α : Type} {g : α → D} {h l : Nat} : ∀ {as : List α}, (∀ a ∈ as, ∃ p, Sh (g a) p h l) → ∃ ps, ShAll (as.map g) ps h ((l + 2) * as.length)
  | [], _ => ⟨[], ShAll.nil.mono (Nat.zero_le _) (by simp)⟩
  | a :: as, hh => by
    obtain ⟨ps, q⟩ := ShAll.mapB (as := as) fun b hb => hh b (List.mem_cons_of_mem _ hb)
    obtain ⟨p, sh⟩ := hh a List.mem_cons_self
    refine ⟨_, (ShAll.cons sh q (Nat.le_refl _)).mono (Nat.le_refl _) ?_⟩
    rw [List.length_cons, Nat.mul_add]; omega
end L3
namespace L3
open PySem PySem.Spec PyProof.Rows L2
section
variable {X : Cx} {G : Gx} {K : PySem.W.Frag} {E : Ent} {a b e : Expr} {ta tb te : TE} {wa wb we : WE} {p p2 pos pos2 : Pos}
theorem sim_rg2 {put : List V → HO} {fr : List D → RD} (hput : ∀ (M : List Addr) (H : Hp) (l : Addr) (xs : List V) (ds : List D), (∀ a ∈ M, H a ≠ none) → H l = none → RepAll K G (mask M H) xs ds → RN K G M H (upd H l (put xs)) (.ref l) (fr ds)) (ha : ∀ E, SimE K G E ta wa) (hb : ∀ E, SimE K G E tb wb) :
    SimE K G E (fun σ H Q => tRg2 ta tb σ H fun a b H1 => RgOk a b ∧ ∀ q, H1 q = none → Q (.ref q) (upd H1 q (put (rgV a b)))) (fun δ Q => wa δ fun r δ1 => wb δ1 fun s δ2 => (r.bor → δ2.sl = δ1.sl) ∧ isI r.d fun i => isI s.d fun j => RgOk i j ∧ Q (fr (rng i (j - i).toNat)) δ2) := fun am M σ δ H S Qd q Q k => by
  refine ha E am M σ δ H S _ q _ fun v r δ1 H1 S1 e1 o1 rv q => ?_
  refine hb E am M σ δ1 H1 S1 _ q _ fun u s δ2 H2 S2 e2 o2 sv ⟨st, q⟩ => ?_
  obtain ⟨i, _, rfl, q⟩ := isI_of S2 (rv.k.later S1 e2 st) q
  obtain ⟨j, _, rfl, rg, q⟩ := isI_of S2 sv.k q
  refine ⟨i, j, rfl, rfl, rg, fun l hl => ?_⟩
  exact k _ _ δ2 _ (S2.grow (same_new hl)) ((e1.trans o1 e2).trans (fun i z => o1 i (o2 i z)) (Ext.of (δ := δ2) (same_new hl))) (fun i z => o1 i (o2 i z)) ((hput M H2 l _ _ S2.al hl (rep_rg i j)).rv S2 (same_new hl)) q
theorem de_lrg2 (ha : DE X G a ta wa) (hb : DE X G b tb wb) (hm : X.mg "list" = none) (hm2 : X.mg "range" = none) (hc : X.calm = true := by rfl) (g1 : Gl X "list" := by rfl) (g2 : Gl X "range" := by rfl) (na : starEach [a, b] X.env = (false, eval a X.env) :: starEach [b] X.env := by rfl) (nb : starEach [b] X.env = (false, eval b X.env) :: starEach [] X.env := by rfl)
    (hp : (backTo pos (starEach [b] X.env)).any (·.1) = false := by rfl) (nr : starEach [.Call (.Name "range" p) [a, b] [] pos] X.env = (false, eval (.Call (.Name "range" p) [a, b] [] pos) X.env) :: starEach [] X.env := by rfl) :
    DE X G (.Call (.Name "list" p2) [.Call (.Name "range" p) [a, b] [] pos] [] pos2) (tLstRg (tRg2 ta tb)) (wLRg2 wa wb) :=
  ⟨pe_listRg hc g1 hm (prg_2 g2 hm2 ha.pe hb.pe na nb hp) nr, fun E => sim_rg2 (put := .lst) (fr := fun ds => .fr (.lst ds)) (fun M H l xs ds _ hl r => rn_lst hl r) ha.sim hb.sim⟩
theorem de_trg2 (ha : DE X G a ta wa) (hb : DE X G b tb wb) (hm : X.mg "tuple" = none) (hm2 : X.mg "range" = none) (hc : X.calm = true := by rfl) (g1 : Gl X "tuple" := by rfl) (g2 : Gl X "range" := by rfl) (na : starEach [a, b] X.env = (false, eval a X.env) :: starEach [b] X.env := by rfl) (nb : starEach [b] X.env = (false, eval b X.env) :: starEach [] X.env := by rfl)
    (hp : (backTo pos (starEach [b] X.env)).any (·.1) = false := by rfl) (nr : starEach [.Call (.Name "range" p) [a, b] [] pos] X.env = (false, eval (.Call (.Name "range" p) [a, b] [] pos) X.env) :: starEach [] X.env := by rfl) :
    DE X G (.Call (.Name "tuple" p2) [.Call (.Name "range" p) [a, b] [] pos] [] pos2) (tTupRg (tRg2 ta tb)) (wTRg2 wa wb) :=
  ⟨pe_tupRg hc g1 hm (prg_2 g2 hm2 ha.pe hb.pe na nb hp) nr, fun E => sim_rg2 (put := .tup) (fr := fun ds => .sh (.tup ds)) (fun M H l xs ds al hl r => rn_tup al hl r) ha.sim hb.sim⟩
@[simp] def wAugI (i : Nat) (f : Int → Int → Int) (w : WE) : WS := fun De δ => ∃ d, δ.sl[i]? = some (some (.sh d)) ∧ isI d fun x => w δ fun r δ1 => isI r.d fun y => De.nx ⟨δ1.sl.set i (some (.sh (.int (f x y)))), δ1.n⟩
theorem sim_augI {i : Nat} {f : Int → Int → Int} (h : ∀ E, SimE K G E te we) : SimS K G (tAug i te (ipI f)) (wAugI i f we) := fun E am M σ δ H S D3 ⟨d, hd, q⟩ De R => by
  obtain ⟨v, hv, rv⟩ := S.sh i d hd
  cases d <;> first | exact q.elim | skip
  have ev : v = .int _ := rv
  subst ev
  refine ⟨_, hv, ?_⟩
  refine h E am M σ δ H S _ q _ fun u r δ1 H1 S1 e1 o1 sv q => ?_
  obtain ⟨j, _, rfl, q⟩ := isI_of S1 sv.k q
  exact ⟨_, _, rfl, rfl, R.nx am M _ _ H1 (S1.set_sh (d := .int _) rfl) q⟩
theorem ds_augA (i : Nat) {x : Str} {px : Pos} (hN : X.N.Nodup) (he : DE X G e te we) (hi : X.N[i]? = some x := by rfl) (hx : Loc X.env.scope x := by first | exact Or.inl rfl | exact Or.inr rfl) (hf : X.fn x = true ∨ X.env.scope.names.lookup x = some .local := by first | exact .inl rfl | exact .inr rfl) :
    DS X G (.AugAssign (.Name x px) .Add e pos) (tAug i te (ipI fun i j => i + j)) (wAugI i (fun i j => i + j) we) := ⟨ps_aug hN hi hx he.pe ip_add hf, sim_augI he.sim⟩
theorem ds_augS (i : Nat) {x : Str} {px : Pos} (hN : X.N.Nodup) (he : DE X G e te we) (hi : X.N[i]? = some x := by rfl) (hx : Loc X.env.scope x := by first | exact Or.inl rfl | exact Or.inr rfl) (hf : X.fn x = true ∨ X.env.scope.names.lookup x = some .local := by first | exact .inl rfl | exact .inr rfl) :
    DS X G (.AugAssign (.Name x px) .Sub e pos) (tAug i te (ipI fun i j => i - j)) (wAugI i (fun i j => i - j) we) := ⟨ps_aug hN hi hx he.pe ip_sub hf, sim_augI he.sim⟩
@[simp] def wRevL (w : WE) : WE := fun δ Q => w δ fun r δ1 => ∃ ds, r.d = .lst ds ∧ Q (.fr (.lst ds.reverse)) δ1
theorem de_revL {k : Nat} {p1 p2 p3 : Pos} (K : PySem.W.Frag) (he : DE X G e te we) (hK : X.K = K := by rfl) : DE X G (.Subscript e (.Slice none none (some (.UnaryOp .USub (.Constant (.int 1) k p1) p2)) p3) pos) (tRevL K te) (wRevL we) := by
  subst hK
  refine ⟨pe_revL he.pe, fun E am M σ δ H S Qd q Q k => he.sim E am M σ δ H S _ q _ fun v r δ1 H1 S1 e1 o1 rv ⟨ds, er, q⟩ => ?_⟩
  have rb := rv.k.rb S1
  rw [er] at rb
  obtain ⟨p, xs, rfl, hp, r⟩ := rb.lst
  refine ⟨p, xs, rfl, SqL.of hp, fun l hl => ?_⟩
  exact k _ _ δ1 _ (S1.grow (same_new hl)) (e1.trans o1 (Ext.of (δ := δ1) (same_new hl))) o1 ((rn_lst hl r.reverse).rv S1 (same_new hl)) q
end
end L3
namespace L3
open PySem PySem.Spec PyProof.Rows L2
def rBop (C : Addr) (sp : Sp) (Ex : XK) : R2 := fun x y H Q => (∃ a dx fs, x = .ref a ∧ H a = some (.ins C dx fs)) ∧ (∃ b dx fs, y = .ref b ∧ H b = some (.ins C dx fs)) ∧ sp [x, y] H (fun v H3 => (∃ p, v = .ref p) ∧ Q v H3) Ex
section
variable {X : Cx} {CX : CXT} {k : Nat} {f C : Addr} {fd : FuncData} {ps : List Str} {sp : Sp} {ds : List Value} {Ex : XK} {op : Operator} {mn : Str}
theorem op_bop (hsf : PySem.W.selfFirst X.K C = true) (hs : PySem.W.findIn X.K (.ref C) (PySem.dunder op.info.2) = some (some (.ref f))) (hf : PySem.W.isFn X.K (.ref f) = true) (F : FnG X.prog X.w X.K X.mg X.base CX k f fd ps sp) (hr : Room k X.A) (hg : X.A.guards = some [])
    (hb : KB X.K fd ps 2 [] [0, 1] []) (hx : Passes CX X Ex) : OpR X (binaryOp op) (rBop C sp Ex) := by
  intro pins s σ H x y v u Q I rx ry ⟨⟨a, dx, fs, ex, ha⟩, ⟨b, dx', fs', ey, hb'⟩, h⟩
  subst ex ey
  obtain rfl : v = Value.ref a := rx
  obtain rfl : u = Value.ref b := ry
  obtain ⟨ox, od, J, _⟩ := ins_at I ha
  obtain ⟨ox', od', J', _⟩ := ins_at I hb'
  have X' := I.kIn
  obtain ⟨cd, hcd, hm⟩ := PySem.W.any_some hsf
  obtain ⟨rest, hm⟩ : ∃ rest, cd.mro = .ref C :: rest := by
    cases q : cd.mro with
    | nil => rw [q] at hm; cases hm
    | cons a r => rw [q] at hm; exact ⟨r, by rw [List.head?_cons] at hm; cases (beq_iff_eq.mp hm); rfl⟩
  have bt := hb s [.ref a, .ref b] [] X' rfl rfl
  have run : wpAny (model X.prog X.w) X.A (call (.ref f) [.ref a, .ref b]) (EP X pins σ fun v H3 => (∃ p, v = .ref p) ∧ Q v H3) X.xe s :=
    wp_of_code (α := Unit) (F.call (vs := [.ref a, .ref b]) hr hg (hx.at_ _) I (fun _ => bt) (.cons (show RelV (V.ref a) (Value.ref a) from rfl) (.cons (show RelV (V.ref b) (Value.ref b) from rfl) .nil)) h)
  unfold binaryOp
  refine wpAny_holding (wpAny_bind ?_)
  unfold binaryOp1
  refine wpAny_bind (J.type.here (wpAny_bind (J'.type.here (wpAny_bind ((PySem.W.fills_K X' hcd hm hs).here ?_)))))
  simp only [beq_self_eq_true, if_true]
  refine wpAny_bind (wpAny_pure ?_)
  simp only [Bool.and_false, Bool.false_eq_true, if_false, Bool.false_and]
  refine wpAny_bind (wpAny_pure ?_)
  simp only [Bool.false_eq_true, if_false]
  refine wpAny_bind (m := tryMethod (.ref a) _ (.ref b)) ?_
  unfold tryMethod
  refine wpAny_bind (PySem.W.special_fn X' J hs (beq_iff_eq.mp hf) (wpAny_mono run (fun r s' hv => ?_) fun _ _ e => e))
  obtain ⟨v, H', I', rv, ⟨p, ev⟩, q⟩ := hv
  subst ev
  obtain rfl : r = Value.ref p := rv
  exact wpAny_pure (wpAny_pure (wpAny_pure ⟨.ref p, H', I', rfl, q⟩))
end
@[simp] def wBop (t : Nat) (C : Con) (wa wb : WE) : WE := fun δ Q => wa δ fun r δ1 => wb δ1 fun s δ2 => ¬ r.bor ∧ ¬ s.bor ∧ (∃ fs, r.d = .ins t fs) ∧ (∃ fs, s.d = .ins t fs) ∧ C [r.d, s.d] δ2.n fun d n' => (∃ t' fs, d = .ins t' fs) ∧ Q (.sh d) ⟨δ2.sl, n'⟩
section
variable {X : Cx} {K : PySem.W.Frag} {E : Ent} {Gf : Addr → Addr → Gx} {a c : Addr} {C : Con} {ta tb : TE} {wa wb : WE} {t : Nat} {Ex : XK}
theorem sim_bop (ha : SimE K (Gf a c) E ta wa) (hb : SimE K (Gf a c) E tb wb) : SimE K (Gf a c) E (tOp (rBop ((Gf a c).cls t) (lift K Gf C) Ex) ta tb) (wBop t C wa wb) := fun am M σ δ H S Qd q Q k => by
  refine ha am M σ δ H S _ q _ fun x r δ1 H1 S1 e1 o1 rv q => ?_
  refine hb am M σ δ1 H1 S1 _ q _ fun y s δ2 H2 S2 e2 o2 sv ⟨n1, n2, ⟨fs, ef⟩, ⟨fs', ef'⟩, hc⟩ => ?_
  have r1 := (rv.k.later (δ2 := δ2) S1 e2 (fun b => (n1 b).elim)).rep n1
  have r2 := sv.k.rep n2
  have i1 := r1
  have i2 := r2
  rw [ef] at i1
  rw [ef'] at i2
  obtain ⟨p, dx, xs, ep, hp, _⟩ := i1
  obtain ⟨p', dx', xs', ep', hp', _⟩ := i2
  refine ⟨⟨p, dx, _, ep, mask_le _ _ hp⟩, ⟨p', dx', _, ep', mask_le _ _ hp'⟩, ?_⟩
  refine lift_use (Qd := fun r δ' => (∃ t' fs, r.d = .ins t' fs) ∧ Qd r δ') (vs := [x, y]) (ds := [r.d, s.d]) S2 (RepAll.cons r1 (RepAll.cons r2 (show RepAll _ _ _ [] [] from rfl))) hc fun v r δ' H' S' e' o' rv ⟨⟨t', fs, er⟩, hq⟩ => ⟨?_, ?_⟩
  · have rb := rv.k.rb S'
    rw [er] at rb
    obtain ⟨p, _, _, e, _⟩ := rb.ins
    exact ⟨p, e⟩
  · exact k v r δ' H' S' ((e1.trans o1 e2).trans (fun i z => o1 i (o2 i z)) e') (fun i z => o1 i (o2 i (o' i z))) rv hq
theorem de_bop {op : Operator} {x y : Expr} {pos : Pos} {k : Nat} {f : Addr} {fd : FuncData} {ps : List Str} (K : PySem.W.Frag) (t : Nat) (hsf : PySem.W.selfFirst K ((Gf a c).cls t) = true) (hs : PySem.W.findIn K (.ref ((Gf a c).cls t)) (PySem.dunder op.info.2) = some (some (.ref f))) (hf : PySem.W.isFn K (.ref f) = true)
    (F : FnG X.prog X.w K X.mg X.base CX0 k f fd ps (lift K Gf C)) (hr : Room k X.A) (hg : X.A.guards = some []) (hb : KB K fd ps 2 [] [0, 1] []) (hx : DE X (Gf a c) x ta wa) (hy : DE X (Gf a c) y tb wb) (hK : X.K = K := by rfl) :
    DE X (Gf a c) (.BinOp x op y pos) (tOp (rBop ((Gf a c).cls t) (lift K Gf C) E0) ta tb) (wBop t C wa wb) := by
  subst hK
  exact ⟨pe_op (op_bop hsf hs hf F hr hg hb pass0) hx.pe hy.pe, fun E => sim_bop (hx.sim E) (hy.sim E)⟩
end
end L3
namespace L3
open PySem PySem.Spec PyProof.Rows L2
section
variable {X : Cx} {CX : CXT} {k n m : Nat} {f C g q : Addr} {fd : FuncData} {ps ks : List Str} {sp : Sp} {dvs : List V} {ds : List Value} {E : XK} {x mn : Str} {p pos apos : Pos} {e o fe : Expr} {es : List Expr} {kws : List Keyword} {ta : TE} {t tk : TA} {perm : List Nat} {mc : Value} {pa : Addr}
def tMakeE (C : Addr) (sp : Sp) (n m : Nat) (perm : List Nat) (dvs : List V) (E : XK) (ta : TE) (t tk : TA) : TE := fun σ H Q => ta σ H fun x H1 => x = .ref C ∧ tMakeP C sp n m perm dvs E t tk σ H1 Q
theorem pg_makeE (he : PE X fe ta) (M : Mk X.K C f) (F : FnG X.prog X.w X.K X.mg X.base CX k f fd ps sp) (hr : Room (k + 1) X.A) (hg : X.A.guards = some []) (hb : KBm X.K fd ps n ks perm ds) (hd : Vals dvs ds) (hx : Passes CX X E)
    (ok : ArgsOk X es kws pos ks) (hn : es = [] → t = tNil) (ha : PA X es t) (hkw : PK X kws tk)
    (ht : eval (.Call fe es kws pos) X.env = (do callWith pos (← eval fe X.env) [] (backTo pos (starEach es X.env)) (backToKw pos (keywordEach kws X.env)))) : PE X (.Call fe es kws pos) (tMakeE C sp n ks.length perm dvs E ta t tk) := by
  refine ⟨fun pins s σ H Q I h => ?_⟩
  rw [ht]
  refine wpAny_bind (thn (he.run pins s σ H _ I h) fun u s1 ⟨x, H1, I1, rx, ex, q⟩ => ?_)
  subst ex
  obtain rfl : u = Value.ref C := rx
  exact callw (first := []) ok hn M.kp ha hkw I1 q fun us ws vs zs s2 H2 I2 r rz ⟨l1, l2, q⟩ => make_run M F hr hg hb hd (hx.at_ _) I2 r rz l1 l2 q
/-- e.m(..), e the class at C, m a classmethod -/
def tCMethP (C : Addr) (sp : Sp) (n m : Nat) (perm : List Nat) (dvs : List V) (E : XK) (ta : TE) (t tk : TA) : TE := fun σ H Q => ta σ H fun x H1 => x = .ref C ∧
  t σ H1 fun vs H2 => tk σ H2 fun zs H3 => vs.length = n ∧ zs.length = m ∧ sp (.ref C :: pick perm (vs ++ zs ++ dvs)) H3 Q E
theorem pg_cmeth {pl : Sem Bool} (he : PE X o ta) (rd : ClX.CRead X.K C mc) (c : ClX.CMet X.K C mc mn pa f) (F : FnG X.prog X.w X.K X.mg X.base CX k f fd ps sp) (hr : Room k X.A) (hg : X.A.guards = some []) (hb : KBm X.K fd ps n ks perm ds) (hd : Vals dvs ds) (hx : Passes CX X E)
    (ok : ArgsOk X es kws pos ks) (hn : es = [] → t = tNil) (ha : PA X es t) (hkw : PK X kws tk)
    (ht : eval (.Call (.Attribute o mn apos) es kws pos) X.env = (do
      let ov ← eval o X.env
      standAt apos.atName
      let (f, first) ← holding [ov] (getMethod ov mn pl)
      callWith pos f first (backTo pos (starEach es X.env)) (backToKw pos (keywordEach kws X.env)))) :
    PE X (.Call (.Attribute o mn apos) es kws pos) (tCMethP C sp n ks.length perm dvs E ta t tk) := by
  refine ⟨fun pins s σ H Q I h => PySem.W.methodCall_KW (pl := pl) (thn (he.run pins s σ H _ I h) fun u s1 ⟨x, H1, I1, rx, ex, q⟩ => ?_) ht⟩
  subst ex
  obtain rfl : u = Value.ref C := rx
  refine ClX.getmethcm_ok I1 rd c fun s2 I2 => ?_
  refine PySem.W.callWith_of (P := PySem.W.MethP X.K s1.heap.objs.size f (.ref C)) ok.pl (PySem.W.keeps_M c.fi) (args_run ok hn ha hkw I2 q fun us ws vs zs s3 H3 I3 r rz ⟨l1, l2, q2⟩ => ⟨⟨ClX.pin_at I3, I3.kIn⟩, ?_⟩)
  have z := FnG.callM (va := .ref C) (a := .ref C) F hr hg (hx.at_ _) I3 hb hd rfl r rz l1 l2 q2
  have z2 : wpAny (model X.prog X.w) X.A (call (.ref s1.heap.objs.size) us (ks.zip ws)) (EP X ((s1.heap.objs.size, PySem.W.methodObj (.ref f) (.ref C)) :: pins) σ Q) X.xe s3 :=
    wpAny_call (PySem.W.method_call (ClX.pin_at I3) z)
  exact thn z2 fun _ _ y => ClX.unpinE y
/-- C.m is a static method -/
structure CSta (K : PySem.W.Frag) (C : Addr) (mc : Value) (m : Str) (p g : Addr) : Prop where
  at_ : PySem.W.findCls K (.ref C) mc m = some (.get (.builtin "staticmethod.__get__") (.ref p) .none (.ref C))
  rc : ∃ rest, PySem.W.recIn K p "staticmethod" = some (.ref g :: rest)
  kp : PySem.W.keepIn K (.ref g) = true
theorem getsta_ok {pl : Sem Bool} {pins : List (Addr × Obj)} {σ : L2.St} {H : Hp} {s : Shared} {A : Around} {Er : Value → Shared → Prop} {Q : Value × List Value → Shared → Prop} (I : Inv X pins σ H s) (r : ClX.CRead X.K C mc) (c : CSta X.K C mc mn pa f)
    (h : ∀ s', Inv X pins σ H s' → Q (.ref f, []) s') : wpAny (model X.prog X.w) A (getMethod (.ref C) mn pl) Q Er s := by
  obtain ⟨rest, hp⟩ := c.rc
  refine PySem.W.method_cls I.kIn r.ga (PySem.W.cls_bind I.kIn r.rd c.at_ ?_)
  refine wpAny_call (PySem.W.sm_get (s := { s with toks := s.toks + 1 }) I.kIn hp (PySem.W.handed_on (handed_of (show RelV (V.ref f) (Value.ref f) from rfl)) ?_))
  exact h _ (I.tok _)
/-- e.m(..), e the class at C, m a static method -/
def tSMethP (C : Addr) (sp : Sp) (n m : Nat) (perm : List Nat) (dvs : List V) (E : XK) (ta : TE) (t tk : TA) : TE := fun σ H Q => ta σ H fun x H1 => x = .ref C ∧
  t σ H1 fun vs H2 => tk σ H2 fun zs H3 => vs.length = n ∧ zs.length = m ∧ sp (pick perm (vs ++ zs ++ dvs)) H3 Q E
theorem callS_run {pins : List (Addr × Obj)} {σ : L2.St} {H : Hp} {s : Shared} {Q : VK} {us ws : List Value} {vs zs : List V} (F : FnG X.prog X.w X.K X.mg X.base CX k f fd ps sp) (hr : Room k X.A) (hg : X.A.guards = some []) (hx : Passes CX X E)
    (I : Inv X pins σ H s) (hb : KB X.K fd ps n ks perm ds) (hd : Vals dvs ds) (r : Vals vs us) (rz : Vals zs ws) (l1 : vs.length = n) (l2 : zs.length = ks.length) (h : sp (pick perm (vs ++ zs ++ dvs)) H Q E) :
    wpAny (model X.prog X.w) X.A (call (.ref f) us (ks.zip ws)) (EP X pins σ Q) X.xe s :=
  wp_of_code (α := Unit) (F.call hr hg (hx.at_ _) I (fun _ => hb s us ws I.kIn (by rw [← r.length, l1]) (by rw [← rz.length, l2])) (pick_vals ((r.append rz).append hd)) h)
theorem pg_smeth {pl : Sem Bool} (he : PE X o ta) (rd : ClX.CRead X.K C mc) (c : CSta X.K C mc mn pa f) (F : FnG X.prog X.w X.K X.mg X.base CX k f fd ps sp) (hr : Room k X.A) (hg : X.A.guards = some []) (hb : KB X.K fd ps n ks perm ds) (hd : Vals dvs ds) (hx : Passes CX X E)
    (ok : ArgsOk X es kws pos ks) (hn : es = [] → t = tNil) (ha : PA X es t) (hkw : PK X kws tk)
    (ht : eval (.Call (.Attribute o mn apos) es kws pos) X.env = (do
      let ov ← eval o X.env
      standAt apos.atName
      let (f, first) ← holding [ov] (getMethod ov mn pl)
      callWith pos f first (backTo pos (starEach es X.env)) (backToKw pos (keywordEach kws X.env)))) :
    PE X (.Call (.Attribute o mn apos) es kws pos) (tSMethP C sp n ks.length perm dvs E ta t tk) := by
  refine ⟨fun pins s σ H Q I h => PySem.W.methodCall_KW (pl := pl) (thn (he.run pins s σ H _ I h) fun u s1 ⟨x, H1, I1, rx, ex, q⟩ => ?_) ht⟩
  subst ex
  obtain rfl : u = Value.ref C := rx
  refine getsta_ok I1 rd c fun s2 I2 => ?_
  exact callw (first := []) ok hn c.kp ha hkw I2 q fun us ws vs zs s3 H3 I3 r rz ⟨l1, l2, q2⟩ => callS_run F hr hg hx I3 hb hd r rz l1 l2 q2
end
@[simp] def wCls (t : Nat) : WE := fun δ Q => Q (.sh (.cls t)) δ
@[simp] def wMakeE (t : Nat) (C : Con) (n m : Nat) (perm : List Nat) (dd : List D) (wo : WE) (w wk : WA) : WE := fun δ Q => wo δ fun r δ0 => r.d = .cls t ∧ wCallP C n m perm dd w wk δ0 Q
@[simp] def wCMeth (t : Nat) (C : Con) (n m : Nat) (perm : List Nat) (dd : List D) (wo : WE) (w wk : WA) : WE := fun δ Q => wo δ fun r δ0 => r.d = .cls t ∧ w δ0 fun rs δ1 => wk δ1 fun qs δ2 => keeps rs ∧ keeps qs ∧ rs.length = n ∧ qs.length = m ∧
  C (.cls t :: pick perm (rs.map RD.d ++ qs.map RD.d ++ dd)) δ2.n fun d n' => Q (.sh d) ⟨δ2.sl, n'⟩
@[simp] def wSMeth (t : Nat) (C : Con) (n m : Nat) (perm : List Nat) (dd : List D) (wo : WE) (w wk : WA) : WE := fun δ Q => wo δ fun r δ0 => r.d = .cls t ∧ w δ0 fun rs δ1 => wk δ1 fun qs δ2 => keeps rs ∧ keeps qs ∧ rs.length = n ∧ qs.length = m ∧
  C (pick perm (rs.map RD.d ++ qs.map RD.d ++ dd)) δ2.n fun d n' => Q (.sh d) ⟨δ2.sl, n'⟩
section
variable {X : Cx} {K : PySem.W.Frag} {E : Ent} {Gf : Addr → Addr → Gx} {a c : Addr} {C : Con} {dd : List D} {dvs : List V} {to : TE} {wo : WE} {ts tk : TA} {wa wk : WA} {n m t : Nat} {perm : List Nat} {Ex : XK}
theorem RB.cls {G : Gx} {M : List Addr} {H : Hp} {v : V} (h : RB K G M H v (.cls t)) : v = .ref (G.cls t) := h.full
theorem sim_makeE (ho : SimE K (Gf a c) E to wo) (h : SimA K (Gf a c) E ts wa) (h' : SimA K (Gf a c) E tk wk) (hd : Dfl K (Gf a c) dvs dd) : SimE K (Gf a c) E (tMakeE ((Gf a c).cls t) (liftI K Gf t C) n m perm dvs Ex to ts tk) (wMakeE t C n m perm dd wo wa wk) := fun am M σ δ H S Qd q Q k =>
  ho am M σ δ H S _ q _ fun x r δ0 H0 S0 e0 o0 r0 ⟨er, q⟩ => by
    have rb := r0.k.rb S0
    rw [er] at rb
    exact ⟨rb.cls, sim_make h h' hd am M σ δ0 H0 S0 _ q _ fun v r δ' H' S' e o rv hq => k v r δ' H' S' (e0.trans o0 e) (fun i z => o0 i (o i z)) rv hq⟩
theorem sim_cmeth (ho : SimE K (Gf a c) E to wo) (h : SimA K (Gf a c) E ts wa) (h' : SimA K (Gf a c) E tk wk) (hd : Dfl K (Gf a c) dvs dd) : SimE K (Gf a c) E (tCMethP ((Gf a c).cls t) (lift K Gf C) n m perm dvs Ex to ts tk) (wCMeth t C n m perm dd wo wa wk) := fun am M σ δ H S Qd q Q k =>
  ho am M σ δ H S _ q _ fun x r δ0 H0 S0 e0 o0 r0 ⟨er, q⟩ => by
    have rb := r0.k.rb S0
    rw [er] at rb
    refine ⟨rb.cls, h am M σ δ0 H0 S0 _ q _ fun vs rs δ1 H1 S1 e1 o1 r1 q => h' am M σ δ1 H1 S1 _ q _ fun zs qs δ2 H2 S2 e2 o2 r2 ⟨k1, k2, l1, l2, hc⟩ => ?_⟩
    refine ⟨by rw [r1.length]; exact l1, by rw [r2.length]; exact l2, ?_⟩
    have rep := pick_rep (perm := perm) ((((r1.later (δ2 := δ2) S1 e2 k1).rep k1).append (r2.rep k2)).append (hd _))
    exact lift_use (ds := .cls t :: _) S2 (RepAll.cons (show Rep K (Gf a c) _ _ (.cls t) from rfl) rep) hc fun v r δ' H' S' e' o' rv hq =>
      k v r δ' H' S' (((e0.trans o0 e1).trans (fun i z => o0 i (o1 i z)) e2).trans (fun i z => o0 i (o1 i (o2 i z))) e') (fun i z => o0 i (o1 i (o2 i (o' i z)))) rv hq
theorem sim_smeth (ho : SimE K (Gf a c) E to wo) (h : SimA K (Gf a c) E ts wa) (h' : SimA K (Gf a c) E tk wk) (hd : Dfl K (Gf a c) dvs dd) : SimE K (Gf a c) E (tSMethP ((Gf a c).cls t) (lift K Gf C) n m perm dvs Ex to ts tk) (wSMeth t C n m perm dd wo wa wk) := fun am M σ δ H S Qd q Q k =>
  ho am M σ δ H S _ q _ fun x r δ0 H0 S0 e0 o0 r0 ⟨er, q⟩ => by
    have rb := r0.k.rb S0
    rw [er] at rb
    refine ⟨rb.cls, h am M σ δ0 H0 S0 _ q _ fun vs rs δ1 H1 S1 e1 o1 r1 q => h' am M σ δ1 H1 S1 _ q _ fun zs qs δ2 H2 S2 e2 o2 r2 ⟨k1, k2, l1, l2, hc⟩ => ?_⟩
    refine ⟨by rw [r1.length]; exact l1, by rw [r2.length]; exact l2, ?_⟩
    have rep := pick_rep (perm := perm) ((((r1.later (δ2 := δ2) S1 e2 k1).rep k1).append (r2.rep k2)).append (hd _))
    exact lift_use S2 rep hc fun v r δ' H' S' e' o' rv hq =>
      k v r δ' H' S' (((e0.trans o0 e1).trans (fun i z => o0 i (o1 i z)) e2).trans (fun i z => o0 i (o1 i (o2 i z))) e') (fun i z => o0 i (o1 i (o2 i (o' i z)))) rv hq
variable {k : Nat} {f : Addr} {fd : FuncData} {ps ks : List Str} {ds : List Value} {x mn : Str} {p pos apos : Pos} {o fe : Expr} {es : List Expr} {kws : List Keyword} {mc : Value} {pa : Addr}
theorem de_cls (t : Nat) {Gg : Gx} (hm : X.mg x = some (.ref (Gg.cls t))) (gl : Gl X x := by rfl) (hd : (x == ("__debug__" : Str)) = false := by decide) : DE X Gg (.Name x p) (tC (.ref (Gg.cls t))) (wCls t) := ⟨pe_glob gl hm rfl hd, fun E => sim_c fun H => rfl⟩
theorem de_makeE (K : PySem.W.Frag) (t : Nat) (M : Mk K ((Gf a c).cls t) f) (F : FnG X.prog X.w K X.mg X.base CX0 k f fd ps (liftI K Gf t C)) (hr : Room (k + 1) X.A) (hg : X.A.guards = some []) (hb : KBm K fd ps n ks perm ds) (hv : Vals dvs ds) (hd : Dfl K (Gf a c) dvs dd)
    (he : DE X (Gf a c) fe to wo) (ha : DA X (Gf a c) es ts wa) (hkw : DK X (Gf a c) kws tk wk) (ok : ArgsOk X es kws pos ks := by exact ⟨by first | exact .inl rfl | exact .inr ⟨_, _, rfl, rfl⟩, rfl, rfl, rfl⟩) (hn : es = [] → ts = tNil := by first | exact fun _ => rfl | (intro h; cases h))
    (ht : eval (.Call fe es kws pos) X.env = (do callWith pos (← eval fe X.env) [] (backTo pos (starEach es X.env)) (backToKw pos (keywordEach kws X.env))) := by rfl) (hl : ks.length = m := by rfl) (hK : X.K = K := by rfl) :
    DE X (Gf a c) (.Call fe es kws pos) (tMakeE ((Gf a c).cls t) (liftI K Gf t C) n m perm dvs E0 to ts tk) (wMakeE t C n m perm dd wo wa wk) := by
  subst hK hl
  exact ⟨pg_makeE he.pe M F hr hg hb hv pass0 ok hn ha.pa hkw.pk ht, fun E => sim_makeE (he.sim E) (ha.sim E) (hkw.sim E) hd⟩
theorem de_cmeth {pl : Sem Bool} (K : PySem.W.Frag) (t : Nat) (rd : ClX.CRead K ((Gf a c).cls t) mc) (cm : ClX.CMet K ((Gf a c).cls t) mc mn pa f) (F : FnG X.prog X.w K X.mg X.base CX0 k f fd ps (lift K Gf C)) (hr : Room k X.A) (hg : X.A.guards = some []) (hb : KBm K fd ps n ks perm ds) (hv : Vals dvs ds) (hd : Dfl K (Gf a c) dvs dd)
    (he : DE X (Gf a c) o to wo) (ha : DA X (Gf a c) es ts wa) (hkw : DK X (Gf a c) kws tk wk) (ok : ArgsOk X es kws pos ks := by exact ⟨by first | exact .inl rfl | exact .inr ⟨_, _, rfl, rfl⟩, rfl, rfl, rfl⟩) (hn : es = [] → ts = tNil := by first | exact fun _ => rfl | (intro h; cases h))
    (ht : eval (.Call (.Attribute o mn apos) es kws pos) X.env = (do
      let ov ← eval o X.env
      standAt apos.atName
      let (f, first) ← holding [ov] (getMethod ov mn pl)
      callWith pos f first (backTo pos (starEach es X.env)) (backToKw pos (keywordEach kws X.env))) := by rfl) (hl : ks.length = m := by rfl) (hK : X.K = K := by rfl) :
    DE X (Gf a c) (.Call (.Attribute o mn apos) es kws pos) (tCMethP ((Gf a c).cls t) (lift K Gf C) n m perm dvs E0 to ts tk) (wCMeth t C n m perm dd wo wa wk) := by
  subst hK hl
  exact ⟨pg_cmeth he.pe rd cm F hr hg hb hv pass0 ok hn ha.pa hkw.pk ht, fun E => sim_cmeth (he.sim E) (ha.sim E) (hkw.sim E) hd⟩
theorem de_smeth {pl : Sem Bool} (K : PySem.W.Frag) (t : Nat) (rd : ClX.CRead K ((Gf a c).cls t) mc) (cm : CSta K ((Gf a c).cls t) mc mn pa f) (F : FnG X.prog X.w K X.mg X.base CX0 k f fd ps (lift K Gf C)) (hr : Room k X.A) (hg : X.A.guards = some []) (hb : KB K fd ps n ks perm ds) (hv : Vals dvs ds) (hd : Dfl K (Gf a c) dvs dd)
    (he : DE X (Gf a c) o to wo) (ha : DA X (Gf a c) es ts wa) (hkw : DK X (Gf a c) kws tk wk) (ok : ArgsOk X es kws pos ks := by exact ⟨by first | exact .inl rfl | exact .inr ⟨_, _, rfl, rfl⟩, rfl, rfl, rfl⟩) (hn : es = [] → ts = tNil := by first | exact fun _ => rfl | (intro h; cases h))
    (ht : eval (.Call (.Attribute o mn apos) es kws pos) X.env = (do
      let ov ← eval o X.env
      standAt apos.atName
      let (f, first) ← holding [ov] (getMethod ov mn pl)
      callWith pos f first (backTo pos (starEach es X.env)) (backToKw pos (keywordEach kws X.env))) := by rfl) (hl : ks.length = m := by rfl) (hK : X.K = K := by rfl) :
    DE X (Gf a c) (.Call (.Attribute o mn apos) es kws pos) (tSMethP ((Gf a c).cls t) (lift K Gf C) n m perm dvs E0 to ts tk) (wSMeth t C n m perm dd wo wa wk) := by
  subst hK hl
  exact ⟨pg_smeth he.pe rd cm F hr hg hb hv pass0 ok hn ha.pa hkw.pk ht, fun E => sim_smeth (he.sim E) (ha.sim E) (hkw.sim E) hd⟩
end
end L3
namespace L3
open PySem PySem.Spec PyProof.Rows L2
/-- classes whose instances may be called with one value -/
def Tab1 (X : Cx) (CX : CXT) (T : Addr → Sp → Prop) : Prop := ∀ C sp, T C sp → ∃ (k : Nat) (f : Addr) (fd : FuncData) (ps : List Str), CallI X.K C f ∧ FnG X.prog X.w X.K X.mg X.base CX k f fd ps sp ∧ Room k X.A ∧ KBm X.K fd ps 1 [] [0] []
section
variable {X : Cx} {CX : CXT} {T : Addr → Sp → Prop} {E : XK} {fn : Str} {p pos apos : Pos} {e o fe : Expr} {ta te : TE}
theorem getfld_ok {pl : Sem Bool} {pins : List (Addr × Obj)} {σ : L2.St} {H : Hp} {s : Shared} {A : Around} {Er : Value → Shared → Prop} {Q : Value × List Value → Shared → Prop} {a C dx : Addr} {fs : List (Str × V)} {v : V} (I : Inv X pins σ H s) (hi : H a = some (.ins C dx fs)) (c : Cls X.K C) (n : NoAttr X.K C fn) (l : fs.lookup fn = some v)
    (h : ∀ u s', Inv X pins σ H s' → RelV v u → Q (u, []) s') : wpAny (model X.prog X.w) A (getMethod (.ref a) fn pl) Q Er s := by
  obtain ⟨mA, O, r, _, _, _⟩ := ins_get I.hok hi
  obtain ⟨od, J, hl⟩ := O.look
  exact PySem.W.method_usual (r := none) I.kIn J (PySem.W.plainGet_of (c.get fn)).1 (PySem.W.plainGet_of (c.get fn)).2 n rfl (getattr_ok I hi c n l fun u s' I' ru => h u s' I' ru)
/-- o.f(e), f a field that holds an instance -/
def tFInst1 (K : PySem.W.Frag) (T : Addr → Sp → Prop) (fn : Str) (E : XK) (ta te : TE) : TE := fun σ H Q => ta σ H fun x H1 => ∃ a D dx fs b, x = .ref a ∧ H1 a = some (.ins D dx fs) ∧ Cls K D ∧ NoAttr K D fn ∧ fs.lookup fn = some (.ref b) ∧
  te σ H1 fun z H2 => ∃ y, [z] = [y] ∧ ([] : List V) = [] ∧ ∃ C sp dx fs, T C sp ∧ H2 b = some (.ins C dx fs) ∧ sp [.ref b, y] H2 Q E
theorem pg_finst1 {pl : Sem Bool} (he : PE X o ta) (hT : Tab1 X CX T) (hg : X.A.guards = some []) (hx : Passes CX X E) (ha : PE X e te) (ok : ArgsOk X [e] [] pos []) (hs : starEach [e] X.env = (false, eval e X.env) :: starEach [] X.env)
    (ht : eval (.Call (.Attribute o fn apos) [e] [] pos) X.env = (do
      let ov ← eval o X.env
      standAt apos.atName
      let (f, first) ← holding [ov] (getMethod ov fn pl)
      callWith pos f first (backTo pos (starEach [e] X.env)) (backToKw pos (keywordEach [] X.env)))) : PE X (.Call (.Attribute o fn apos) [e] [] pos) (tFInst1 X.K T fn E ta te) := by
  refine ⟨fun pins s σ H Q I h => PySem.W.methodCall_KW (pl := pl) (thn (he.run pins s σ H _ I h) fun u s1 ⟨x, H1, I1, rx, a, D, dx, fs, b, ex, hi, c, n, l, q⟩ => ?_) ht⟩
  subst ex
  obtain rfl : u = Value.ref a := rx
  refine getfld_ok I1 hi c n l fun u s2 I2 ru => ?_
  obtain rfl : u = Value.ref b := ru
  refine calli (t := tCons te tNil) (tk := tNil) (B := fun vs zs H2 => ∃ y, vs = [y] ∧ zs = [] ∧ ∃ C sp dx fs, T C sp ∧ H2 b = some (.ins C dx fs) ∧ sp [.ref b, y] H2 Q E) ok (fun z => by cases z) (pa_cons ha pa_nil hs) pk_nil I2 ?_ fun us ws vs zs s3 H3 I3 r rz ⟨y, ey, ez, C, sp, dx, fs, tc, hb, q2⟩ => ?_
  · exact q
  · obtain ⟨k, f, fd, ps, ci, F, hr, kb⟩ := hT C sp tc
    subst ey ez
    exact ⟨⟨C, dx, fs, hb⟩, run_inst (perm := [0]) (dvs := []) ci F hr hg hx I3 hb kb .nil r rz rfl rfl q2⟩
end
/-- the table over data -/
def TabD (Gf : Addr → Addr → Gx) (a c : Addr) (K : PySem.W.Frag) (L : List (Nat × Con)) : Addr → Sp → Prop := fun A sp => ∃ t C, L.lookup t = some C ∧ A = (Gf a c).cls t ∧ sp = lift K Gf C
@[simp] def wFInst1 (tab : List (Nat × Nat)) (L : List (Nat × Con)) (wo we : WE) : WE := fun δ Q => wo δ fun r δ0 => ¬ r.bor ∧ fFld tab r.d fun f => ∃ t fs C, f.d = .ins t fs ∧ L.lookup t = some C ∧ we δ0 fun s δ1 => ¬ s.bor ∧ C [.ins t fs, s.d] δ1.n fun d n' => Q (.sh d) ⟨δ1.sl, n'⟩
section
variable {X : Cx} {K : PySem.W.Frag} {E : Ent} {Gf : Addr → Addr → Gx} {a c : Addr} {L : List (Nat × Con)} {ta te : TE} {wo we : WE} {fn : Str} {tab : List (Nat × Nat)} {Ex : XK}
theorem sim_finst1 (ok : FldOk K (Gf a c) fn tab) (ho : SimE K (Gf a c) E ta wo) (he : SimE K (Gf a c) E te we) : SimE K (Gf a c) E (tFInst1 K (TabD Gf a c K L) fn Ex ta te) (wFInst1 tab L wo we) := fun am M σ δ H S Qd q Q k =>
  ho am M σ δ H S _ q _ fun x r δ0 H0 S0 e0 o0 r0 ⟨nb, q⟩ => by
    have rr := r0.k.rep nb
    generalize r.d = d at q rr
    cases d <;> first | exact q.elim | skip
    obtain ⟨i, y, h1, h2, t, fs, C, ey, hL, q⟩ := q
    obtain ⟨p, dx, xs, rfl, hp, hl, rx⟩ := id rr
    obtain ⟨v, hv, rv⟩ := rx.get h2
    rw [show y = .ins t fs from ey] at rv
    obtain ⟨b, dx2, xs2, rfl, hb, hl2, rx2⟩ := id rv
    refine ⟨p, _, dx, _, b, rfl, mask_le _ _ hp, (ok.cl _ _ h1).1, (ok.cl _ _ h1).2, by rw [lookup_zip xs (ok.ix _ _ h1).1]; exact hv, ?_⟩
    refine he am M σ δ0 H0 S0 _ q _ fun z s δ1 H1 S1 e1 o1 sv ⟨ns, hc⟩ => ?_
    have rv' : Rep K (Gf a c) (mask M H1) (.ref b) (.ins t fs) := Rep.mono (S0.mask e1) _ rv
    obtain ⟨b', dx3, xs3, eb, hb3, _⟩ := id rv'
    cases eb
    refine ⟨z, rfl, rfl, _, _, dx3, _, ⟨t, C, hL, rfl, rfl⟩, mask_le _ _ hb3, ?_⟩
    exact lift_use (vs := [.ref b, z]) (ds := [.ins t fs, s.d]) S1 (RepAll.cons rv' (RepAll.cons (sv.k.rep ns) (show RepAll _ _ _ [] [] from rfl))) hc fun v r δ' H' S' e' o' rv hq =>
      k v r δ' H' S' ((e0.trans o0 e1).trans (fun i z => o0 i (o1 i z)) e') (fun i z => o0 i (o1 i (o' i z))) rv hq
/-- a row of the table -/
theorem tab1_nil : Tab1 X CX0 (TabD Gf a c X.K []) := fun C sp ⟨t, C', h, _⟩ => by simp at h
theorem tab1_cons {t k : Nat} {C : Con} {f : Addr} {fd : FuncData} {ps : List Str} (ci : CallI X.K ((Gf a c).cls t) f) (F : FnG X.prog X.w X.K X.mg X.base CX0 k f fd ps (lift X.K Gf C)) (hr : Room k X.A) (hb : KBm X.K fd ps 1 [] [0] []) (r : Tab1 X CX0 (TabD Gf a c X.K L)) : Tab1 X CX0 (TabD Gf a c X.K ((t, C) :: L)) := fun A sp ⟨u, C', h, e1, e2⟩ => by
  rw [List.lookup_cons] at h
  by_cases e : (u == t) = true
  · rw [e] at h
    cases h
    have e : u = t := beq_iff_eq.mp e
    subst e e1 e2
    exact ⟨k, f, fd, ps, ci, F, hr, hb⟩
  · rw [Bool.eq_false_iff.mpr e] at h
    exact r A sp ⟨u, C', h, e1, e2⟩
theorem de_finst1 {o e : Expr} {pos apos : Pos} {pl : Sem Bool} (ok : FldOk X.K (Gf a c) fn tab) (hT : Tab1 X CX0 (TabD Gf a c X.K L)) (hg : X.A.guards = some []) (ho : DE X (Gf a c) o ta wo) (he : DE X (Gf a c) e te we)
    (oka : ArgsOk X [e] [] pos [] := by exact ⟨.inr ⟨_, _, rfl, rfl⟩, rfl, rfl, rfl⟩) (hs : starEach [e] X.env = (false, eval e X.env) :: starEach [] X.env := by rfl)
    (ht : eval (.Call (.Attribute o fn apos) [e] [] pos) X.env = (do
      let ov ← eval o X.env
      standAt apos.atName
      let (f, first) ← holding [ov] (getMethod ov fn pl)
      callWith pos f first (backTo pos (starEach [e] X.env)) (backToKw pos (keywordEach [] X.env))) := by rfl) :
    DE X (Gf a c) (.Call (.Attribute o fn apos) [e] [] pos) (tFInst1 X.K (TabD Gf a c X.K L) fn E0 ta te) (wFInst1 tab L wo we) := ⟨pg_finst1 ho.pe hT hg pass0 he.pe oka hs ht, fun E => sim_finst1 ok (ho.sim E) (he.sim E)⟩
end
end L3
namespace L3
open PySem PySem.Spec PyProof.Rows L2
section
variable {K : PySem.W.Frag} {x qual : Str} {params : Arguments} {body : List Stmt} {scope : Scope} {kws : List (Str × V)} {f : Addr} {fd : FuncData} {ps : List Str}
theorem FunD.kbK (F : FunD K x qual params body scope [] kws f fd) (n : Nat) (ks : List Str) (perm : List Nat) (ms : List (Str × V)) (hk : kws ≠ []) (hms : ∀ q ∈ ms, q ∈ kws)
    (h : ∀ (D : Addr) (doc pm : Value) (an : Option Addr) (cdv ct : Value) (us mv ws : List Value), us.length = n → mv.length = ms.length → ws.length = ks.length →
      KwChain D ((ms.map (·.1)).zip mv) (bindArgs (PySem.W.fnOf x qual params body scope .none (.ref D) doc pm an cdv ct) ⟨us, ks.zip ws⟩) (ps.zip (pick perm (us ++ ws ++ mv)))) : ∃ mv : List Value, Vals (ms.map (·.2)) mv ∧ KB K fd ps n ks perm mv := by
  obtain ⟨oc, od, dV, kV, doc, pm, an, cdv, ct, osl, rfl, lk, hcd, hD, hK⟩ := F.ex
  rcases hD with ⟨_, rfl⟩ | ⟨e, _⟩
  · rcases hK with e | ⟨D, rfl, hq⟩
    · exact absurd e hk
    · obtain ⟨mv, hl, rk, hks⟩ := kwd_vals (ms := ms) fun q hm => hq q (hms q hm)
      exact ⟨mv, rk, fun s us ws X l1 l2 => BindsTo.of_looks fun M => KwChain.looks X hks (h D doc pm an cdv ct us mv ws l1 hl l2)⟩
  · exact absurd rfl e
end
end L3
namespace L3
open PySem L2
@[simp] def gLst3 (n : Nat) (t : WGs) : WG := fun d δ Q => ∃ ds, d = .lst ds ∧ ds.length = n ∧ t ds δ Q
section
variable {X : Cx} {G : Gx} {K : PySem.W.Frag}
theorem sim_gLst {n : Nat} {t : TGs} {ws : WGs} {us : List Nat} (h : SimGs K G us t ws) : SimG K G us (gLst K n t) (gLst3 n ws) := fun E am M σ δ H S x d r Qd ⟨ds, e, hl, q⟩ Q k => by
  subst e
  obtain ⟨a, xs, rfl, ht, rs⟩ := r
  exact ⟨a, xs, rfl, SqL.of (mask_le _ _ ht), by rw [rs.length]; exact hl, h E am M σ δ H S xs ds rs _ q _ k⟩
theorem dg_lstK (K : PySem.W.Frag) {es : List Expr} {k : Nat} {pos : Pos} {t : TGs} {ws : WGs} {us : List Nat} {n : Nat} (hc : X.calm = true) (h : DGs X G es us t ws) (hn : (assignEach es X.env).length = n := by rfl) (hst : (assignEach es X.env).findIdx? (·.1) = none := by rfl) (hK : X.K = K := by rfl) :
    DG X G (.Tuple es k pos) us (gLst K n t) (gLst3 n ws) := by
  subst hK
  exact ⟨pg_lst hc h.pg hn hst, sim_gLst h.sim⟩
end
end L3
namespace L3
open PySem PySem.Spec PyProof.Rows L2
theorem tuple_mulE (l : Addr) (items : Array Value) (n : Nat) (dd : Option Addr) (sl : Array (Option Value)) (x : Int) (u : Tok) (c0 : (decide (x < -(2 ^ 63)) || decide (x ≥ 2 ^ 63)) = false) (c1 : (items.isEmpty || x == 1) = true) :
    Meets (Builtin.«tuple.__mul__» ⟨[.ref l, .int x u], []⟩) (fun _ R s => s.heap.get? l = some { cls := .type "tuple", dict := dd, data := .seq items n, slots := sl } ∧ R (.ok (.ret (.ref l))) s) :=
  .of_wp fun prog w A R s h => by
    obtain ⟨hp, g, d, tk, os⟩ := s
    obtain ⟨hl, h⟩ := h
    have f1 := AutoSeq1.idx_int
    wp_walk using wpAny_loadPart' hl
    repeat (first
      | (refine wpAny_ite_false (decide_eq_false (by rw [c0]; exact Bool.false_ne_true)) ?_; wp_walk using wpAny_loadPart' hl)
      | (refine wpAny_ite_true (by rw [c1]) ?_; wp_walk using wpAny_loadPart' hl)
      | (refine wpAny_ite_true (by simp) ?_; wp_walk using wpAny_loadPart' hl))
    exact ⟨_, rfl, h⟩
theorem tuple_mulZ (l : Addr) (items : Array Value) (n : Nat) (dd : Option Addr) (sl : Array (Option Value)) (x : Int) (u : Tok) (c0 : (decide (x < -(2 ^ 63)) || decide (x ≥ 2 ^ 63)) = false) (c1 : (items.isEmpty || x == 1) = false) (c2 : (decide (x ≤ 0) || items.isEmpty) = true) :
    Meets (Builtin.«tuple.__mul__» ⟨[.ref l, .int x u], []⟩) (fun _ R s => s.heap.get? l = some { cls := .type "tuple", dict := dd, data := .seq items n, slots := sl } ∧
      R (.ok (.ret (Value.ref s.heap.objs.size))) { s with heap := s.heap.push { cls := Value.type "tuple", data := Data.seq #[] }, toks := s.toks }) :=
  .of_wp fun prog w A R s h => by
    obtain ⟨hp, g, d, tk, os⟩ := s
    obtain ⟨hl, h⟩ := h
    have f1 := AutoSeq1.idx_int
    wp_walk using wpAny_loadPart' hl
    repeat (first
      | (refine wpAny_ite_false (decide_eq_false (by rw [c0]; exact Bool.false_ne_true)) ?_; wp_walk using wpAny_loadPart' hl)
      | (refine wpAny_ite_false (decide_eq_false (by rw [c1]; exact Bool.false_ne_true)) ?_; wp_walk using wpAny_loadPart' hl)
      | (refine wpAny_ite_true (by rw [c2]) ?_; wp_walk using wpAny_loadPart' hl))
    exact ⟨_, rfl, h⟩
def rRepB (K : PySem.W.Frag) : R2 := fun x y H Q => ∃ l k xs, x = .ref l ∧ y = .int k ∧ SqT K H l xs ∧ -(2 ^ 62) ≤ k ∧ k ≤ 1000 ∧ xs.length ≤ 1000 ∧ (xs = [] ∨ k = 1 → Q (.ref l) H) ∧ (xs ≠ [] → k ≠ 1 → ∀ p, H p = none → Q (.ref p) (upd H p (.tup (List.replicate k.toNat xs).flatten)))
section
variable {X : Cx} {G : Gx} {K : PySem.W.Frag} {a b : Expr} {ta tb : TE} {wa wb : WE} {pos : Pos}
theorem op_repB : OpR X (binaryOp .Mult) (rRepB X.K) := by
  intro pins s σ H x y v u Q I rx ry h
  obtain ⟨l, k, xs, rfl, rfl, hT, h1, h2, hz, q1, q2⟩ := h
  by_cases e : xs = [] ∨ k = 1
  · cases rx
    obtain ⟨t, rfl⟩ := ry
    obtain ⟨its, r, ⟨⟨cls, dd, data, sl⟩, ho, hc, n, hd⟩, hs⟩ := I.tuple hT
    simp only at hc hd
    subst hc hd
    have c0 : (decide (k < -(2 ^ 63)) || decide (k ≥ 2 ^ 63)) = false := by
      rw [decide_eq_false (by omega), decide_eq_false (by omega)] <;> rfl
    have c1 : (its.toArray.isEmpty || k == 1) = true := by
      rcases e with e | e
      · subst e
        have : its = [] := List.eq_nil_of_length_eq_zero r.length.symm
        subst this
        rfl
      · subst e
        rw [Bool.or_eq_true]; exact .inr rfl
    refine wpAny_binaryOp_repeat_ref (T := "tuple") (U := "int") (by decide) ⟨_, ho, rfl⟩ (fun s' => typeIs_int s' k t) noFill_tuple_mul F.fills_int_mul F.slot_int_rmul repeat_tuple F.slot_int_index.lookup ?_
    refine call_meets F.slot_int_rmul (typeIs_int s k t) F.entry_int_rmul (F.args_int_rmul_2 _ _) (int_rmul_tuple k t l its.toArray n dd sl) ⟨ho, rfl, ⟨_, ho, rfl⟩, ?_⟩
    exact call_meets F.slot_tuple_mul ⟨_, ho, rfl⟩ F.entry_tuple_mul (F.args_tuple_mul_2 _ _) (tuple_mulE l its.toArray n dd sl k t c0 c1) ⟨ho, .ref l, H, I, rfl, q1 e⟩
  · have ne : xs ≠ [] := fun z => e (.inl z)
    have k1 : k ≠ 1 := fun z => e (.inr z)
    by_cases k2 : 2 ≤ k
    · exact op_repT pins s σ H _ _ v u Q I rx ry ⟨l, k, xs, rfl, rfl, hT, ne, k2, h2, hz, q2 ne k1⟩
    · cases rx
      obtain ⟨t, rfl⟩ := ry
      obtain ⟨its, r, ⟨⟨cls, dd, data, sl⟩, ho, hc, n, hd⟩, hs⟩ := I.tuple hT
      simp only at hc hd
      subst hc hd
      have hi : its.toArray.isEmpty = false := by
        cases its with
        | nil => exact absurd (List.eq_nil_of_length_eq_zero r.length) ne
        | cons a b => rfl
      have c0 : (decide (k < -(2 ^ 63)) || decide (k ≥ 2 ^ 63)) = false := by
        rw [decide_eq_false (by omega), decide_eq_false (by omega)] <;> rfl
      have c1 : (its.toArray.isEmpty || k == 1) = false := by
        rw [hi, Bool.false_or]
        exact beq_eq_false_iff_ne.mpr k1
      have c2 : (decide (k ≤ 0) || its.toArray.isEmpty) = true := by
        rw [decide_eq_true (by omega)] <;> rfl
      refine wpAny_binaryOp_repeat_ref (T := "tuple") (U := "int") (by decide) ⟨_, ho, rfl⟩ (fun s' => typeIs_int s' k t) noFill_tuple_mul F.fills_int_mul F.slot_int_rmul repeat_tuple F.slot_int_index.lookup
        (call_meets F.slot_int_rmul (typeIs_int s k t) F.entry_int_rmul (F.args_int_rmul_2 _ _) (int_rmul_tuple k t l its.toArray n dd sl)
          ⟨ho, rfl, ⟨_, ho, rfl⟩, call_meets F.slot_tuple_mul ⟨_, ho, rfl⟩ F.entry_tuple_mul (F.args_tuple_mul_2 _ _) (tuple_mulZ l its.toArray n dd sl k t c0 c1 c2) ⟨ho, ?_⟩⟩)
      have e0 : (List.replicate k.toNat xs).flatten = [] := by rw [show k.toNat = 0 by omega]; rfl
      have q2 := q2 ne k1
      rw [e0] at q2
      refine ⟨.ref s.heap.objs.size, _, I.laid (t' := s.toks) (o := .tup []) (fun b ob q => Heap.get?_push_of_some _ q) (Nat.le_refl _) ?_, rfl, q2 _ (I.hok.fresh (Nat.le_refl _))⟩
      exact ⟨Nat.zero_le _, [], .nil, IsTup.new _ _⟩
def fMulB : F2
  | .tup ds, .int j, Q => -(2 ^ 62) ≤ j ∧ j ≤ 1000 ∧ ds.length ≤ 1000 ∧ Q (.sh (.tup (List.replicate j.toNat ds).flatten))
  | d, e, Q => fMul d e Q
@[simp] theorem fMulB_0 (i j : Int) (Q : RD → Prop) : fMulB (.int i) (.int j) Q = (CMulW i j ∧ Q (.sh (.int (i * j)))) := rfl
@[simp] theorem fMulB_1 (ds : List D) (j : Int) (Q : RD → Prop) : fMulB (.lst ds) (.int j) Q = (j < 2 ^ 62 ∧ -(2 ^ 62) ≤ j ∧ ds.length * j.toNat ≤ 16777216 ∧ Q (.fr (.lst (List.replicate j.toNat ds).flatten))) := rfl
@[simp] theorem fMulB_2 (ds : List D) (j : Int) (Q : RD → Prop) : fMulB (.tup ds) (.int j) Q = (-(2 ^ 62) ≤ j ∧ j ≤ 1000 ∧ ds.length ≤ 1000 ∧ Q (.sh (.tup (List.replicate j.toNat ds).flatten))) := rfl
theorem flat_nil {α : Type} (k : Nat) : (List.replicate k ([] : List α)).flatten = [] := by
  induction k with
  | zero => rfl
  | succ k ih => rw [List.replicate_succ, List.flatten_cons, ih]; rfl
theorem ops_mulB : OpS K G (fun x y H Q => rMulA x y H Q ∨ rRepB K x y H Q) fMulB := fun M H x y d e al bx by' Qd h Q k => by
  by_cases z : ∃ ds j, d = .tup ds ∧ e = .int j
  · obtain ⟨ds, j, rfl, rfl⟩ := z
    obtain ⟨h1, h2, h3, q⟩ := h
    have bb := bx
    obtain ⟨p, xs, rfl, hp, r⟩ := bx.tup
    refine .inr ⟨p, j, xs, rfl, by'.int, hp, h1, h2, by rw [r.length]; exact h3, fun e => ?_, fun _ _ p' hp' => ?_⟩
    · have ef : (List.replicate j.toNat ds).flatten = ds := by
        rcases e with e | e
        · subst e
          have : ds = [] := List.eq_nil_of_length_eq_zero r.length.symm
          rw [this, flat_nil]
        · subst e; simp
      rw [ef] at q
      exact k _ _ H (Same.refl _) (rn_sh bb.shT) q
    · exact k _ _ _ (same_new hp') (rn_tup al hp' (r.rep _)) q
  · refine .inl (ops_mul M H x y d e al bx by' Qd ?_ Q k)
    cases d <;> cases e <;> first | exact h | exact (z ⟨_, _, rfl, rfl⟩).elim
theorem de_mulB (K : PySem.W.Frag) (ha : DE X G a ta wa) (hb : DE X G b tb wb) (hK : X.K = K := by rfl) : DE X G (.BinOp a .Mult b pos) (tOp (fun x y H Q => rMulA x y H Q ∨ rRepB K x y H Q) ta tb) (wOp fMulB wa wb) := by
  subst hK
  exact de_op (op_mulA.or op_repB) ops_mulB ha hb
def fSplit : F2
  | .str a, .str b, Q => (b.length == 0) = false ∧ a.length ≤ 16000000 ∧ Q (.fr (.lst ((Txt.split a b).map D.str)))
  | _, _, _ => False
@[simp] theorem fSplit_0 (a b : Str) (Q : RD → Prop) : fSplit (.str a) (.str b) Q = ((b.length == 0) = false ∧ a.length ≤ 16000000 ∧ Q (.fr (.lst ((Txt.split a b).map D.str)))) := rfl
theorem ops_split : OpS K G (fun x y H Q => ∃ a b, x = .str a ∧ [y] = [.str b] ∧ (b.length == 0) = false ∧ a.length + 2 ≤ sizeLine ∧ rNewStrs (Txt.split a b) H Q) fSplit := fun M H x y d e al bx by' Qd h Q k => by
  cases d <;> first | exact h.elim | skip
  cases e <;> first | exact h.elim | skip
  obtain ⟨h1, h2, q⟩ := h
  refine ⟨_, _, bx.str, by rw [by'.str], h1, by rw [sizeLine_eq]; omega, fun p hp => ?_⟩
  exact k _ _ _ (same_new hp) (rn_lst hp (RepAll.of_strs _)) q
theorem de_split {e o : Expr} {te ti : TE} {we wi : WE} {apos pos : Pos} (ho : DE X G o te we) (he : DE X G e ti wi) (hs : starEach [e] X.env = [(false, eval e X.env)] := by rfl) (hbase : attributeBase o "split" X.env (eval o X.env) = eval o X.env := by rfl) (hline : (apos.endLine == pos.line) = true := by rfl) :
    DE X G (.Call (.Attribute o "split" apos) [e] [] pos) (tM1 (fun x xs H Q => ∃ a b, x = .str a ∧ xs = [.str b] ∧ (b.length == 0) = false ∧ a.length + 2 ≤ sizeLine ∧ rNewStrs (Txt.split a b) H Q) te ti) (wM1 fSplit we wi) :=
  ⟨pe_split ho.pe he.pe hs hbase hline, fun E => sim_m1 ops_split (ho.sim E) (he.sim E)⟩
end
end L3
namespace L3
open PySem PySem.Spec PyProof.Rows L2
def rSumB (K : PySem.W.Frag) : List V → Hp → VK → Prop := fun vs H Q => ∃ (a : Addr) (ns : List Int), vs = [V.ref a] ∧ (SqL K H a (ns.map V.int) ∨ SqT K H a (ns.map V.int)) ∧ Q (.int ns.sum) H
def fSumB : FC := fun ds Q => ∃ ns : List Int, (ds = [.lst (ns.map D.int)] ∨ ds = [.tup (ns.map D.int)]) ∧ Q (.sh (.int ns.sum))
section
variable {X : Cx} {G : Gx} {K : PySem.W.Frag}
theorem cr_sumB (hc : X.calm = true) : CallR X (.builtin "sum") (rSumB X.K) := by
  intro pins s σ H vs us Q I r h
  obtain ⟨a, ns, rfl, hs, q⟩ := h
  rcases hs with hs | hs
  · exact cr_sum hc pins s σ H _ us Q I r ⟨a, ns, rfl, hs, q⟩
  · obtain ⟨its, rv, ⟨o, ho, hcl, n, hd⟩, _⟩ := I.tuple hs
    rw [Vals.ref1 r]
    have hi := rv.ints
    have ht : s.heap.IsTuple a its.toArray := ⟨o, ho, hcl, n, hd⟩
    obtain ⟨xs, hx⟩ := hi.allInts.items
    have hn : numsOf its.toArray.toList = ns := by rw [show its.toArray.toList = its from rfl, hi.numsOf]
    rw [hx] at ht hn
    rw [nums_intItems] at hn
    refine PySem.W.ktm_sumG (I.ok.hd hc) ht fun h' tk t' hk => ⟨.int _, H, I.kept hk, ⟨_, rfl⟩, ?_⟩
    rw [preSum_eq, List.take_of_length_le (by simp), hn]
    exact q
theorem calls_sumB : CallS K G (rSumB K) fSumB := fun M H vs ds al b Qd h Q k => by
  obtain ⟨ns, e, h⟩ := h
  rcases e with rfl | rfl
  · obtain ⟨p, rfl, hp⟩ := lst1 b
    exact ⟨p, ns, rfl, .inl hp, k _ _ H (Same.refl _) rn_int h⟩
  · obtain ⟨v, rfl, b1⟩ := b.one
    obtain ⟨p, xs, rfl, hp, r⟩ := b1.tup
    rw [r.ints] at hp
    exact ⟨p, ns, rfl, .inr hp, k _ _ H (Same.refl _) rn_int h⟩
theorem call_sumB (K : PySem.W.Frag) (hc : X.calm = true) (hK : X.K = K := by rfl) : CallR X (.builtin "sum") (rSumB K) := by subst hK; exact cr_sumB hc
end
end L3
namespace L3
open PySem L2
section
variable {X : Cx} {G : Gx} {e : Expr} {te : TE} {we : WE} {pos apos : Pos}
theorem de_popK (K : PySem.W.Frag) (i : Nat) {x : Str} {p : Pos} (hx : PE X (.Name x p) (tVar i)) (hbase : attributeBase (.Name x p) "pop" X.env (eval (.Name x p) X.env) = eval (.Name x p) X.env := by rfl) (hline : (apos.endLine == pos.line) = true := by rfl) (hK : X.K = K := by rfl) :
    DE X G (.Call (.Attribute (.Name x p) "pop" apos) [] [] pos) (tBM0 K "list" rPop (tVar i)) (wPop i) := by subst hK; exact de_pop i hx hbase hline
theorem de_popAtK (K : PySem.W.Frag) (i : Nat) {x : Str} {p : Pos} (he : DE X G e te we) (hx : PE X (.Name x p) (tVar i)) (hbase : attributeBase (.Name x p) "pop" X.env (eval (.Name x p) X.env) = eval (.Name x p) X.env := by rfl)
    (hfew : ((backTo pos (starEach [e] X.env)).all (fun x => !x.1) && (backToKw pos (keywordEach [] X.env)).all (fun x => x.1.isSome) && decide (([e] : List Expr).length + ([] : List Keyword).length + (if ([] : List Keyword).isEmpty then 0 else 1) < 30)) = true := by rfl)
    (hline : (apos.endLine == pos.line) = true := by rfl) (hst : starEach [e] X.env = (false, eval e X.env) :: starEach [] X.env := by rfl) (hK : X.K = K := by rfl) :
    DE X G (.Call (.Attribute (.Name x p) "pop" apos) [e] [] pos) (tBM K "list" rPopAt (tVar i) (tCons te tNil)) (wPopAt i we) := by subst hK; exact de_popAt i he hx hbase hfew hline hst
end
section
open PySem.Spec PyProof.Rows
variable {X : Cx} {K : PySem.W.Frag} {E : Ent} {Gf : Addr → Addr → Gx} {a c : Addr} {C : Con} {dd : List D} {dvs : List V} {to : TE} {wo : WE} {ts tk : TA} {wa wk : WA} {n m : Nat} {perm : List Nat}
variable {k : Nat} {f : Addr} {fd : FuncData} {ps ks : List Str} {ds : List Value} {x mn : Str} {p pos apos : Pos} {o : Expr} {es : List Expr} {kws : List Keyword}
theorem de_makeC (K : PySem.W.Frag) (t : Nat) (Ca : Addr) (hC : (Gf a c).cls t = Ca) (M : Mk K Ca f) (F : FnG X.prog X.w K X.mg X.base CX0 k f fd ps (liftI K Gf t C)) (hr : Room (k + 1) X.A) (hg : X.A.guards = some []) (hm : X.mg x = some (.ref Ca)) (hb : KBm K fd ps n ks perm ds) (hv : Vals dvs ds) (hd : Dfl K (Gf a c) dvs dd)
    (ha : DA X (Gf a c) es ts wa) (hkw : DK X (Gf a c) kws tk wk) (gl : Gl X x := by rfl) (ok : ArgsOk X es kws pos ks := by exact ⟨by first | exact .inl rfl | exact .inr ⟨_, _, rfl, rfl⟩, rfl, rfl, rfl⟩) (hn : es = [] → ts = tNil := by first | exact fun _ => rfl | (intro h; cases h)) (hdb : (x == ("__debug__" : Str)) = false := by decide) (hl : ks.length = m := by rfl) (hK : X.K = K := by rfl) :
    DE X (Gf a c) (.Call (.Name x p) es kws pos) (tMakeP Ca (liftI K Gf t C) n m perm dvs E0 ts tk) (wCallP C n m perm dd wa wk) := by
  subst hC
  exact de_make K t M F hr hg hm hb hv hd ha hkw gl ok hn hdb hl hK
end
end L3
namespace L3
open PySem PySem.Spec PyProof.Rows L2
section
variable {P : Program} {w : World} {A : Around} {E : Value → Shared → Prop} {s : Shared}
/-- the set that is made ahead of its items -/
abbrev soon (w : World) : Obj := { cls := .type "set", dict := none, data := .set #[] 0 (.fresh 0 0 (!w.params.followText "set-order")) }
/-- what set.__init__ leaves -/
def SetMade (w : World) (s : Shared) (ns : List Int) (s2 : Shared) : Prop := ∃ (h' : Heap) (tk c : Nat), s2 = { s with heap := h', toks := tk } ∧ SetR w h' s.heap.objs.size (fun j => decide (j ∈ ns)) c ∧ c ≤ ns.length ∧ ∀ b o, s.heap.get? b = some o → h'.get? b = some o
set_option maxHeartbeats 3200000 in
/-- the items of a list go into the set -/
theorem fill_list {l : Addr} {items : Array Value} (ns : List Int) (hh : A.handled = none) (hl : s.heap.IsList l items) (hit : IntsAre items.toList ns) (hb : ns.length + 1 < scanBound) :
    codeAny (model P w) A (.call (.builtin "set.__init__") ⟨[.ref s.heap.objs.size, .ref l], []⟩) (wants (fun r s2 => r = .none ∧ SetMade w s ns s2) E) { s with heap := s.heap.push (soon w) } := by
  have hsz : items.size = ns.length := by
    have q := IntsAre.length hit
    rw [Array.length_toList] at q
    exact q
  have hS : (s.heap.push (soon w)).get? s.heap.objs.size = some (soon w) := Heap.get?_push_size _ rfl
  have hT : Shared.TypeIs { s with heap := s.heap.push (soon w) } (.ref s.heap.objs.size) "set" := ⟨_, hS, rfl⟩
  refine codeAny_call_builtin F.called_set.init.plain F.entry_set_init (check_set_init_1 hT ?_)
  obtain ⟨⟨oc, od, odt, osl⟩, hol, hcl, nl, hdl⟩ := hl
  simp only at hcl hdl
  subst hcl hdl
  have hol' : (s.heap.push (soon w)).get? l = some { cls := .type "list", dict := od, data := .seq items nl, slots := osl } := Heap.get?_push_of_some _ hol
  have c1 := F.sub_list_set
  have c2 := F.sub_list_frozenset
  have c3 : (Value.type "list" == Value.type "dict") = false := by decide
  have hl1 : (s.heap.push (soon w)).IsList l items := ⟨_, hol', rfl, nl, rfl⟩
  unfold Builtin.«set.__init__» noKeywords Builtin.Frozenset.updateFrom
  generalize hPI : pyIter = PI
  wp_walk
  subst hPI
  refine wpAny_pyIter_list hl1 (wpAny_bind (wpAny_runValue ?_))
  have hlS : l < s.heap.objs.size := Heap.lt_size hol
  have hh3 : A.in1.in1.handled = none := by simp [hh]
  have z1 : l ≠ (s.heap.push (soon w)).objs.size := by rw [Heap.size_push]; exact Nat.ne_of_lt (Nat.lt_succ_of_lt hlS)
  have z2 : s.heap.objs.size ∉ [(s.heap.push (soon w)).objs.size, l] := by
    rw [Heap.size_push]; simp only [List.mem_cons, List.mem_singleton, List.not_mem_nil, or_false, not_or]
    exact ⟨Nat.ne_of_lt (Nat.lt_succ_self _), Nat.ne_of_gt hlS⟩
  have hval : ∀ (i : Nat) (v : Value), items[i]? = some v → ∃ k t, ns[i]? = some k ∧ v = .int k t := fun i v hv => by
    have hi : i < ns.length := by rw [← hsz]; exact (Array.getElem?_eq_some_iff.mp hv).1
    obtain ⟨t, e⟩ := IntsAre.int_at hit i v (by rw [Array.getElem?_toList]; exact hv)
    exact ⟨ns[i], t, List.getElem?_eq_getElem hi, by rw [e, List.getD_eq_getElem?_getD, List.getElem?_eq_getElem hi] <;> rfl⟩
  refine set_update_ints ((Walks.list hh3 _ l z1 items).toS) s.heap.objs.size z2 ns hsz hb hval (items.size - 0) 0 _ (by omega) (Nat.zero_le _) ⟨⟨_, Heap.get?_push_size _ rfl, rfl, rfl⟩, (hl1.push _)⟩
    ?hS0 ?hR
  case hS0 => exact ⟨0, Nat.le_refl 0, setR_new_at (Heap.get?_push_of_some _ hS)⟩
  intro s' c' hm hc' hS'
  obtain ⟨h', g2, d', tk', os'⟩ := s'
  obtain rfl : g2 = s.gens := hm.gens
  obtain rfl : d' = s.drawn := hm.drawn
  obtain rfl : os' = s.os := hm.os
  show wpAny _ _ _ _ _ _
  refine wpAny_pure ?_
  show wpAny _ _ (ret Value.none) _ _ _
  rw [hsz] at hc'
  refine wpAny_pure ⟨rfl, h', tk', c', rfl, hS', hc', fun b o e => hm.heap b o ?_ (Heap.get?_push_of_some _ (Heap.get?_push_of_some _ e))⟩
  have hb0 : b < s.heap.objs.size := Heap.lt_size e
  rw [Heap.size_push]
  simp only [List.mem_cons, List.mem_singleton, List.not_mem_nil, or_false, not_or]
  exact ⟨Nat.ne_of_lt hb0, Nat.ne_of_lt (Nat.lt_succ_of_lt hb0)⟩
set_option maxHeartbeats 3200000 in
theorem set_of_list {l : Addr} {items : Array Value} (ns : List Int) {Q : Value → Shared → Prop} (hh : A.handled = none) (hl : s.heap.IsList l items) (hit : IntsAre items.toList ns) (hb : ns.length + 1 < scanBound)
    (h : ∀ s2, SetMade w s ns s2 → Q (.ref s.heap.objs.size) s2) : wpAny (model P w) A (call (.type "set") [.ref l]) Q E s := by
  obtain ⟨c, tl, hmro⟩ := F.called_set.mro
  have h0 := F.called_set.made
  have h3 := F.called_set.sub
  refine wpAny_call (codeAny_of_tree ?_)
  show wpAny _ _ (callAny (.type "set") _) _ _ _
  refine wpAny_pure ⟨Code.quiet_builtin _ (by decide +kernel), codeAny_builtin F.entry_type_call ?_⟩
  rw [Around.under_plain (weight_type_call_type "set" [.ref l] []) rfl]
  have h1 := F.called_set.notType
  have h2 := F.called_set.canCreate
  have h4 := F.typeCall_set_1 (.ref l)
  repeat (any_goals (first | assumption | wp_step))
  refine codeAny_mono (code_set_led1 (.ref l) (E := E) (Q₁ := fun obj s1 => obj = .ref s.heap.objs.size ∧ s1 = { s with heap := s.heap.push (soon w) }) ⟨rfl, rfl⟩) fun r s1 hr => ?_
  cases r with
  | error e => exact hr
  | ok fl =>
    cases fl with
    | ret obj =>
      obtain ⟨rfl, rfl⟩ := hr
      have hT : Shared.TypeIs { s with heap := s.heap.push (soon w) } (.ref s.heap.objs.size) "set" := ⟨_, Heap.get?_push_size _ rfl, rfl⟩
      have h5 := F.called_set.init.lookup
      have h6 := F.called_set.init.bind (.ref s.heap.objs.size)
      repeat (any_goals (first | assumption | wp_step))
      refine codeAny_mono (fill_list (w := w) (E := E) ns (A := A.in1) (by simp [hh]) hl hit hb) fun r2 s2 hr2 => ?_
      cases r2 with
      | error e => exact hr2
      | ok fl2 =>
        cases fl2 with
        | ret r =>
          obtain ⟨rfl, m⟩ := hr2
          repeat (any_goals (first | assumption | wp_step))
          exact h _ m
        | _ => exact hr2.elim
    | _ => exact hr.elim
end
section
variable {X : Cx}
/-- set(xs) -/
def rSetI (K : PySem.W.Frag) (w : World) : List V → Hp → VK → Prop := fun vs H Q => ∃ (a : Addr) (ns : List Int), vs = [V.ref a] ∧ SqL K H a (ns.map V.int) ∧ ns.length < 1000 ∧
  ∀ (p : Addr) (c : Nat), H p = none → c ≤ ns.length → Q (.ref p) (upd H p (SetO w p (fun j => decide (j ∈ ns)) c))
theorem cr_setI (hc : X.calm = true) : CallR X (.type "set") (rSetI X.K X.w) := by
  intro pins s σ H vs us Q I r h
  obtain ⟨a, ns, rfl, ha, hn, q⟩ := h
  rw [Vals.ref1 r]
  obtain ⟨its, rv, pl, hz⟩ := I.list ha
  have hi := ints_of_vals rv
  refine set_of_list ns (I.ok.hd hc) pl.isList (by simpa using hi) (by rw [show scanBound = 4096 from rfl]; omega) fun s2 ⟨h', tk, c, e, R, hc', k⟩ => ?_
  subst e
  exact ⟨.ref _, _, I.laid (t' := tk) k (Nat.le_refl _) (setO_new R), rfl, q _ _ (I.hok.fresh (Nat.le_refl _)) hc'⟩
end
end L3
namespace L3
open PySem PySem.Spec PyProof.Rows L2
section
variable {X : Cx} {G : Gx} {K : PySem.W.Frag} {E : Ent} {te ti to : TE} {we wi wo : WE} {e e1 o : Expr} {pos apos p p1 pos1 : Pos} {i : Nat}
@[simp] def wSortSet (we : WE) : WE := fun δ Q => we δ fun r δ1 => ∃ ns : List Int, r.d = .lst (ns.map D.int) ∧ ns.length < 64 ∧ ∀ ms : List Int, ms.Pairwise (· < ·) → (∀ k, k ∈ ms ↔ k ∈ ns) → Q (.fr (.lst (ms.map D.int))) δ1
theorem sim_sortSet (w : World) (h : SimE K G E te we) : SimE K G E (tCB (rSortedSet w) (tCons (tCB (rSetI K w) (tCons te tNil)) tNil)) (wSortSet we) := fun am M σ δ H S Qd q Q k =>
  h am M σ δ H S _ q _ fun v r δ1 H1 S1 e1 o1 rv ⟨ns, er, h64, q⟩ => by
    have rb := rv.k.rb S1
    rw [er] at rb
    obtain ⟨p, xs, rfl, hp, rx⟩ := rb.lst
    rw [rx.ints] at hp
    refine ⟨p, ns, rfl, SqL.of hp, by omega, fun p1 c hp1 hc => ?_⟩
    refine ⟨p1, _, c, rfl, upd_same, by omega, fun ms p2 h1 h2 h3 hp2 => ?_⟩
    have s1 := same_new (o := SetO w p1 (fun j => decide (j ∈ ns)) c) hp1
    have s2 := same_new (o := .lst (ms.map V.int)) hp2
    exact k (.ref p2) (.fr (.lst (ms.map D.int))) δ1 _ ((S1.grow s1).grow s2) (e1.trans o1 (Ext.of (δ := δ1) (s1.trans s2))) o1 ((rn_lst hp2 (RepAll.of_ints ms)).rv (S1.grow s1) s2) (q ms h1 fun k => by rw [h2]; simp)
theorem de_sortSet (hc : X.calm = true) (he : DE X G e te we) (hg : Gl X "sorted") (hm : X.mg "sorted" = none) (hg1 : Gl X "set") (hm1 : X.mg "set" = none) (hst : starEach [e] X.env = (false, eval e X.env) :: starEach [] X.env := by rfl) (hpl : (backTo pos1 (starEach [] X.env)).any (·.1) = false := by rfl)
    (he1 : starEach [.Call (.Name "set" p1) [e] [] pos1] X.env = (false, eval (.Call (.Name "set" p1) [e] [] pos1) X.env) :: starEach [] X.env := by rfl) (hpl1 : (backTo pos (starEach [] X.env)).any (·.1) = false := by rfl) :
    DE X G (.Call (.Name "sorted" p) [.Call (.Name "set" p1) [e] [] pos1] [] pos) (tCB (rSortedSet X.w) (tCons (tCB (rSetI X.K X.w) (tCons te tNil)) tNil)) (wSortSet we) :=
  ⟨pe_callB (cr_sortedSet hc) hg hm rfl (pa_cons (pe_callTy (cr_setI hc) hg1 hm1 (by rfl) (pa_cons he.pe pa_nil hst) (by decide) (by decide) hst hpl) pa_nil he1) (by decide) (by decide) he1 hpl1, fun E => sim_sortSet X.w (he.sim E)⟩
def fIdxL : F2
  | .lst ds, .int i, Q => ∃ ns : List Int, ds = ns.map D.int ∧ i ∈ ns ∧ Q (.sh (.int (ns.idxOf i : Nat)))
  | _, _, _ => False
@[simp] theorem fIdxL_0 (ds : List D) (i : Int) (Q : RD → Prop) : fIdxL (.lst ds) (.int i) Q = ∃ ns : List Int, ds = ns.map D.int ∧ i ∈ ns ∧ Q (.sh (.int (ns.idxOf i : Nat))) := rfl
def isL (d : D) (Q : List D → Prop) : Prop := match d with
  | .lst ds => Q ds
  | _ => False
@[simp] theorem isL_0 (ds : List D) (Q : List D → Prop) : isL (.lst ds) Q = Q ds := rfl
@[simp] def wL1 (f : F2) (a b : WE) : WE := fun δ Q => a δ fun x δ1 => isL x.d fun _ => b δ1 fun y δ2 => (x.bor → δ2.sl = δ1.sl) ∧ f x.d y.d fun q => Q q δ2
theorem sim_l1 {r : V → List V → Hp → VK → Prop} {f : F2} (hs : OpS K G (fun x y H Q => r x [y] H Q) f) (ha : SimE K G E to wo) (hb : SimE K G E te we) : SimE K G E (tBM K "list" r to (tCons te tNil)) (wL1 f wo we) := fun am M σ δ H S Qd h Q k => by
  refine ha am M σ δ H S _ h _ fun x rx δ1 H1 S1 e1 o1 v1 h => ?_
  have b0 := v1.k.rb S1
  cases er : rx.d <;> rw [er] at h <;> first | exact h.elim | skip
  rw [er] at b0
  obtain ⟨p, xs, rfl, hp, rx⟩ := b0.lst
  refine ⟨.inl ⟨rfl, xs, SqL.of hp⟩, ?_⟩
  refine hb am M σ δ1 H1 S1 _ h _ fun y ry δ2 H2 S2 e2 o2 v2 h => ?_
  obtain ⟨st, h⟩ := h
  have bx := (v1.k.later S1 e2 st).rb S2
  rw [er] at bx
  refine hs M H2 (.ref p) y _ _ S2.al bx (v2.k.rb S2) _ h _ fun v q H3 sm rn hq => ?_
  exact k v q δ2 H3 (S2.grow sm) ((e1.trans o1 e2).trans (fun i z => o1 i (o2 i z)) (Ext.of (δ := δ2) sm)) (fun i z => o1 i (o2 i z)) (rn.rv S2 sm) hq
theorem before_idx : ∀ (ns : List Int) (i : Int) (m : Nat), m < ns.idxOf i → ∀ z, ns[m]? = some z → (z == i) = false
  | [], _, _, h, _, e => by simp at e
  | a :: ns, i, m, h, z, e => by
    rw [List.idxOf_cons] at h
    cases q : (a == i) with
    | true => rw [q] at h; simp at h
    | false =>
      rw [q] at h
      cases m with
      | zero => rw [List.getElem?_cons_zero] at e; cases e; exact q
      | succ m =>
        rw [List.getElem?_cons_succ] at e
        exact before_idx ns i m (by simpa using h) z e
theorem ops_idxL : OpS K G (fun x y H Q => rIndex K x [y] H Q) fIdxL := fun M H x y d e al bx by' Qd h Q k => by
  cases d <;> first | exact h.elim | skip
  cases e <;> first | exact h.elim | skip
  obtain ⟨ns, rfl, hi, q⟩ := h
  rename_i i
  obtain ⟨p, xs, rfl, hp, rx⟩ := bx.lst
  rw [rx.ints] at hp
  have hlt : ns.idxOf i < ns.length := List.idxOf_lt_length_of_mem hi
  refine ⟨p, _, .int i, ns.idxOf i, .int ns[ns.idxOf i], rfl, by rw [by'.int], SqL.of hp, rfl, by rw [List.all_map]; exact List.all_eq_true.mpr fun _ _ => rfl, ?_, ?_, fun m z' hm hz => ?_, k _ _ H (Same.refl _) rn_int q⟩
  · rw [List.getElem?_map, List.getElem?_eq_getElem hlt]; rfl
  · show (ns[ns.idxOf i] == i) = true
    rw [List.getElem_idxOf]; exact beq_self_eq_true i
  · rw [List.getElem?_map, List.getElem?_eq_getElem (show m < ns.length by omega)] at hz
    obtain rfl := Option.some.inj hz
    show (ns[m] == i) = false
    exact before_idx ns i m hm _ (List.getElem?_eq_getElem (by omega))
theorem de_idxL (K : PySem.W.Frag) (ho : DE X G o to wo) (he : DE X G e te we) (hbase : attributeBase o "index" X.env (eval o X.env) = eval o X.env := by rfl)
    (hfew : ((backTo pos (starEach [e] X.env)).all (fun x => !x.1) && (backToKw pos (keywordEach [] X.env)).all (fun x => x.1.isSome) && decide (([e] : List Expr).length + ([] : List Keyword).length + (if ([] : List Keyword).isEmpty then 0 else 1) < 30)) = true := by rfl)
    (hline : (apos.endLine == pos.line) = true := by rfl) (hst : starEach [e] X.env = (false, eval e X.env) :: starEach [] X.env := by rfl) (hK : X.K = K := by rfl) :
    DE X G (.Call (.Attribute o "index" apos) [e] [] pos) (tBM K "list" (rIndex K) to (tCons te tNil)) (wL1 fIdxL wo we) := by
  subst hK
  exact ⟨pe_bm PySem.F.plainAttrs_list PySem.F.slot_list_index PySem.F.type_list_index mt_index ho.pe (pa_cons he.pe pa_nil hst) hbase hfew hline hst rfl, fun E => sim_l1 ops_idxL (ho.sim E) (he.sim E)⟩
def rInsert : V → List V → Hp → VK → Prop := fun x vs H Q => ∃ (l : Addr) (xs : List V) (i : Int) (y : V), x = .ref l ∧ vs = [.int i, y] ∧ H l = some (.lst xs) ∧ xs.length < sizeLine ∧ 0 ≤ i ∧ i < 2 ^ 63 ∧
    Q .non (upd H l (.lst (xs.take i.toNat ++ [y] ++ xs.drop i.toNat)))
@[simp] def wInsert (i : Nat) (wi we : WE) : WS := fun De δ => (∃ ds0, ownL δ i ds0) ∧ wi δ fun r0 δ0 => isI r0.d fun j => we δ0 fun r δ1 => ¬ r.bor ∧ ∃ ds, ownL δ1 i ds ∧ ds.length < 16777216 ∧ 0 ≤ j ∧ j < 2 ^ 62 ∧ De.nx ⟨δ1.sl.set i (some (.ow (.lst (ds.take j.toNat ++ [r.d] ++ ds.drop j.toNat)))), δ1.n⟩
theorem RepAll.take' {H : Hp} {xs : List V} {ds : List D} (n : Nat) (r : RepAll K G H xs ds) : RepAll K G H (xs.take n) (ds.take n) := by
  induction ds generalizing xs n with
  | nil => cases (show xs = [] from r); simp; exact rfl
  | cons d ds ih =>
    obtain ⟨x, xs', rfl, h1, h2⟩ := r
    cases n with
    | zero => exact rfl
    | succ n => exact ⟨x, _, rfl, h1, ih n h2⟩
theorem RepAll.drop' {H : Hp} {xs : List V} {ds : List D} (n : Nat) (r : RepAll K G H xs ds) : RepAll K G H (xs.drop n) (ds.drop n) := by
  induction ds generalizing xs n with
  | nil => cases (show xs = [] from r); simp; exact rfl
  | cons d ds ih =>
    obtain ⟨x, xs', rfl, h1, h2⟩ := r
    cases n with
    | zero => exact ⟨x, xs', rfl, h1, h2⟩
    | succ n => exact ih n h2
theorem sim_insert (h0 : ∀ E, SimE K G E ti wi) (h : ∀ E, SimE K G E te we) : SimS K G (tDrop (tBM K "list" rInsert (tVar i) (tCons ti (tCons te tNil)))) (wInsert i wi we) := fun E am M σ δ H S D3 ⟨⟨ds0, hd⟩, q⟩ De R => by
  obtain ⟨a1, a2, a3, a4, xs0, a5, a6⟩ := S.ow i _ hd
  refine ⟨_, a1, .inl ⟨rfl, xs0, SqL.of a5⟩, ?_⟩
  refine h0 E am M σ δ H S _ q _ fun v0 r0 δ0 H0 S0 e0 o0 rv0 q => ?_
  have rb0 := rv0.k.rb S0
  cases er : r0.d <;> rw [er] at q <;> first | exact q.elim | skip
  rename_i j
  rw [er] at rb0
  have ej := rb0.int
  subst ej
  refine h E am M σ δ0 H0 S0 _ q _ fun v r δ1 H1 S1 e1 o1 rv ⟨nb, ds, h1, sz, j0, j1, q⟩ => ?_
  obtain ⟨b1, b2, b3, b4, xs, b5, b6⟩ := S1.ow i _ h1
  refine ⟨am i, xs, j, v, rfl, rfl, b5, by rw [b6.length, line16]; exact sz, j0, by omega, R.nx am M _ _ _ (S1.mut (d' := .lst (ds.take j.toNat ++ [r.d] ++ ds.drop j.toNat)) h1 ⟨_, upd_same, ?_⟩ rfl) q⟩
  rw [mask_upd b2]
  exact ((b6.take' _).append (RepAll.one (rv.k.rep nb))).append (b6.drop' _)
theorem ds_insert (i : Nat) {x : Str} {pos2 : Pos} (h1 : DE X G e1 ti wi) (he : DE X G e te we) (hx : PE X (.Name x p) (tVar i)) (hbase : attributeBase (.Name x p) "insert" X.env (eval (.Name x p) X.env) = eval (.Name x p) X.env := by rfl)
    (hfew : ((backTo pos (starEach [e1, e] X.env)).all (fun x => !x.1) && (backToKw pos (keywordEach [] X.env)).all (fun x => x.1.isSome) && decide (([e1, e] : List Expr).length + ([] : List Keyword).length + (if ([] : List Keyword).isEmpty then 0 else 1) < 30)) = true := by rfl)
    (hline : (apos.endLine == pos.line) = true := by rfl) (hst : starEach [e1, e] X.env = (false, eval e1 X.env) :: starEach [e] X.env := by rfl) (hst1 : starEach [e] X.env = (false, eval e X.env) :: starEach [] X.env := by rfl) (hpl : (backTo pos (starEach [e] X.env)).any (·.1) = false := by rfl)
    (hs : swapsWith (.Call (.Attribute (.Name x p) "insert" apos) [e1, e] [] pos) none pos2.line X.env = pure false := by rfl) :
    DS X G (.Expr (.Call (.Attribute (.Name x p) "insert" apos) [e1, e] [] pos) pos2) (tDrop (tBM X.K "list" rInsert (tVar i) (tCons ti (tCons te tNil)))) (wInsert i wi we) :=
  ⟨ps_expr (pe_bm PySem.F.plainAttrs_list PySem.F.slot_list_insert PySem.F.type_list_insert mt_insert hx (pa_cons h1.pe (pa_cons he.pe pa_nil hst1) hst) hbase hfew hline hst hpl) hs, sim_insert h1.sim he.sim⟩
theorem de_gInt (n : Int) {x : Str} (hm : ∃ t, X.mg x = some (.int n t)) (gl : Gl X x := by rfl) (hd : (x == ("__debug__" : Str)) = false := by decide) : DE X G (.Name x p) (tC (.int n)) (wC (.int n)) := by
  obtain ⟨t, hm⟩ := hm
  exact ⟨pe_glob gl hm ⟨t, rfl⟩ hd, fun E => sim_c fun H => rfl⟩
theorem de_gStr (z : Str) {x : Str} (hm : ∃ t, X.mg x = some (.str z t)) (gl : Gl X x := by rfl) (hd : (x == ("__debug__" : Str)) = false := by decide) : DE X G (.Name x p) (tC (.str z)) (wC (.str z)) := by
  obtain ⟨t, hm⟩ := hm
  exact ⟨pe_glob gl hm ⟨t, rfl⟩ hd, fun E => sim_c fun H => rfl⟩
end
end L3
namespace L3
open PySem PySem.Spec PyProof.Rows L2
/-- a def whose last parameter is a star: n ahead of it -/
structure FnS (P : Program) (w : World) (K : PySem.W.Frag) (mg : Str → Option Value) (base : Heap) (CX : CXT) (k : Nat) (f : Addr) (n : Nat) (sp : Sp) : Prop where
  go : ∀ (A : Around) (outer : List Env) (s : Shared) (H : Hp) (us rest : List Value) (vs rs : List V) (Q : VK) (E : XK), (Room k A ∧ A.guards = some []) → Env0 P w K mg base A outer s H →
    Vals vs us → Vals rs rest → vs.length = n → rs.length ≤ sizeLine → (∀ p, H p = none → sp (vs ++ [V.ref p]) (upd H p (.tup rs)) Q E) → codeAny (model P w) A (.call (.ref f) ⟨us ++ rest, []⟩) (CR CX outer P w H s Q E) s
section
variable {P : Program} {w : World} {K : PySem.W.Frag} {mg : Str → Option Value} {base : Heap} {CX : CXT} {k n : Nat} {f : Addr} {fd : FuncData} {ps N : List Str} {pv : Str} {sp : Sp} {x qual : Str} {params : Arguments} {body : List Stmt} {scope : Scope} {Gf : Addr → Addr → Gx} {C : Con} {ws : WS}
/-- how a star parameter binds -/
abbrev StarB (fd : FuncData) (ps : List Str) (pv : Str) : Prop := ∀ us rest : List Value, us.length = ps.length → bindArgs fd ⟨us ++ rest, []⟩ = (newTuple rest >>= fun t => pure (ps.zip us ++ [(pv, t)]))
theorem FnS.of (F : FunB K x qual params body scope f fd) (S : FnScope N (ps ++ [pv]) scope) (hCX : StX.CXUp CX) (hb : StarB fd ps pv)
    (hbody : ∀ (cdv : Value) (A : Around) (outer : List Env) (s : Shared) (H : Hp) (vs : List V) (Q : VK) (E : XK), Room k (A.deeper (envOfC qual scope s.heap.objs.size f cdv)) → A.guards = some [] → sp vs H Q E →
      ∃ t, PSs (cxOf CX P w K mg base N qual scope f cdv A outer s H E) body t ∧ t { nx := fun _ H' => Q .non H', rt := Q } (start N vs) H) : FnS P w K mg base CX (k + 1) f ps.length sp := by
  obtain ⟨oc, od, dV, kV, doc, pm, an, cdv, ct, osl, rfl, lk, hcd⟩ := F
  refine ⟨fun A outer s H us rest vs rs Q E ⟨hr, hg⟩ e0 r1 r2 hl hz hq => ?_⟩
  have free : H s.heap.objs.size = none := e0.hok.fresh (Nat.le_refl _)
  have lus : us.length = ps.length := by rw [← r1.length]; exact hl
  refine StX.run_bnd lk hcd S hr e0 (G := fun xs H2 => ∃ p, H p = none ∧ xs = vs ++ [V.ref p] ∧ H2 = upd H p (.tup rs)) (fun A' Ex Q' h => ?_) fun s2 H2 xs ⟨p, hp, ex, eH⟩ hr' => ?_
  · rw [hb us rest lus]
    refine wpAny_bind (wpAny_newTuple (wpAny_pure ?_) (by rw [← r2.length]; exact hz))
    have ok : ObjOk P w (upd H s.heap.objs.size (.tup rs)) (s.heap.push ({ cls := .type "tuple", data := .seq rest.toArray } : Obj)) s.heap.objs.size (.tup rs) := ⟨hz, rest, r2, ⟨_, Heap.get?_push_size _ rfl, rfl, _, rfl⟩⟩
    have un := StX.un_laid (fs := frs outer) (s := s) (o := ({ cls := .type "tuple", data := .seq rest.toArray } : Obj)) (u := .tup rs) free
    have := h _ _ (vs ++ [V.ref s.heap.objs.size]) (us ++ [Value.ref s.heap.objs.size]) (StX.env0_laid e0 ok) un rfl (fun e s' => hCX outer s H _ _ E e s' un (fun b o q => Heap.get?_push_of_some _ q) rfl) (r1.append (.cons rfl .nil))
      (by rw [List.length_append, List.length_append, hl] <;> rfl) ⟨_, free, rfl, rfl⟩
    rwa [List.zip_append lus.symm] at this
  · subst ex eH
    exact hbody cdv A outer s2 _ _ Q E hr' hg (hq p hp)
theorem FnS.mono {j : Nat} (F : FnS P w K mg base CX j f n sp) (h : j ≤ k) : FnS P w K mg base CX k f n sp := ⟨fun A outer s H us rest vs rs Q E ⟨hr, hg⟩ => F.go A outer s H us rest vs rs Q E ⟨hr.mono h, hg⟩⟩
theorem FnS.data (F : FunB K x qual params body scope f fd) (S : FnScope N (ps ++ [pv]) scope) (hb : StarB fd ps pv)
    (hd : ∀ (cdv : Value) (A : Around) (outer : List Env) (s : Shared) (H : Hp) (E : XK) (a c : Addr), Room k (A.deeper (envOfC qual scope s.heap.objs.size f cdv)) → A.guards = some [] →
      ∃ t, DSs (cxOf CX0 P w K mg base N qual scope f cdv A outer s H E).nox (Gf a c) body t ws)
    (hw : ∀ ds n Q, C ds n Q → ws ⟨fun δ => Q .non δ.n, Q, fun _ => False, fun _ => False⟩ ⟨start3 N ds, n⟩) (hE : ∀ a c E, (Gf a c).okE E := by exact fun _ _ _ => trivial) : FnS P w K mg base CX0 (k + 1) f ps.length (lift K Gf C) := by
  refine FnS.of F S StX.cxUp_none hb fun cdv A outer s H vs Q E hr hg ⟨a, c, ads, ds, n, Qd, hk, ha, hnc, di, r, hc, q⟩ => ?_
  obtain ⟨t, ht⟩ := hd cdv A outer s H E a c hr hg
  refine ⟨t, ht.ps.nox, ht.sim ⟨H, ads, [], none⟩ (fun _ => 0) ads _ _ H (start_sr hk ha hnc di r (hE a c _)) _ (hw ds n Qd hc) _ ⟨fun am M σ δ H' S' z => ?_, fun _ _ _ _ _ _ z => z, fun _ _ _ _ _ _ z => z, fun v d n' H' rv hbase di' z => q v d n' H' hbase di' rv z⟩⟩
  exact q .non .non _ H' S'.base S'.di rfl z
end
section
variable {X : Cx} {CX : CXT} {k n : Nat} {f C : Addr} {ks : List Str} {sp : Sp} {E : XK} {x mn : Str} {p pos apos : Pos} {e o : Expr} {es : List Expr} {ta : TE} {t : TA}
theorem FnS.call {pins : List (Addr × Obj)} {σ : L2.St} {H : Hp} {s : Shared} {Q : VK} {us : List Value} {vs : List V} (F : FnS X.prog X.w X.K X.mg X.base CX k f n sp) (hr : Room k X.A) (hg : X.A.guards = some []) (hx : Passes CX X E)
    (I : Inv X pins σ H s) (r : Vals vs us) (l : n ≤ vs.length) (hz : vs.length ≤ sizeLine) (h : ∀ p, H p = none → sp (vs.take n ++ [V.ref p]) (upd H p (.tup (vs.drop n))) Q E) :
    codeAny (model X.prog X.w) X.A (.call (.ref f) ⟨us, []⟩) (fun q s' => match q with | .ok (.ret u) => EP X pins σ Q u s' | .ok _ => False | .error e => X.xe e s') s := by
  have := F.go X.A X.stack s H (us.take n) (us.drop n) (vs.take n) (vs.drop n) Q E ⟨hr, hg⟩ I.env0 (r.take n) (r.drop n) (by rw [List.length_take]; omega) (by rw [List.length_drop]; omega) h
  rw [List.take_append_drop] at this
  refine codeAny_mono this fun q s' hq => ?_
  cases q with
  | error e => exact hx pins σ H s e s' I hq
  | ok fl => cases fl with
    | ret u => exact I.after hq
    | next => cases hq
    | brk => cases hq
    | cont => cases hq
def tMethS (C : Addr) (mn : Str) (sp : Sp) (n : Nat) (E : XK) (ta : TE) (t : TA) : TE := fun σ H Q => ta σ H fun x H1 => ∃ a dx fs, x = .ref a ∧ H1 a = some (.ins C dx fs) ∧ fs.lookup mn = none ∧
  t σ H1 fun vs H2 => n ≤ vs.length ∧ vs.length < sizeLine ∧ ∀ p, H2 p = none → sp (x :: (vs.take n ++ [V.ref p])) (upd H2 p (.tup (vs.drop n))) Q E
theorem pg_methS {pl : Sem Bool} (he : PE X o ta) (c : Cls X.K C) (hm : Meth X.K C mn f) (F : FnS X.prog X.w X.K X.mg X.base CX k f (n + 1) sp) (hr : Room k X.A) (hg : X.A.guards = some []) (hx : Passes CX X E)
    (ok : ArgsOk X es [] pos []) (hn : es = [] → t = tNil) (ha : PA X es t)
    (ht : eval (.Call (.Attribute o mn apos) es [] pos) X.env = (do
      let ov ← eval o X.env
      standAt apos.atName
      let (f, first) ← holding [ov] (getMethod ov mn pl)
      callWith pos f first (backTo pos (starEach es X.env)) (backToKw pos (keywordEach [] X.env)))) :
    PE X (.Call (.Attribute o mn apos) es [] pos) (tMethS C mn sp n E ta t) := by
  refine ⟨fun pins s σ H Q I h => PySem.W.methodCall_KW (pl := pl) (thn (he.run pins s σ H _ I h) fun u s1 ⟨x, H1, I1, rx, a, dx, fs, ex, ea, l, q⟩ => ?_) ht⟩
  subst ex
  obtain rfl : u = Value.ref a := rx
  refine getmeth_ok I1 ea c hm l (callw (first := [.ref a]) (tk := tNil) (B := fun vs zs H2 => n ≤ vs.length ∧ vs.length < sizeLine ∧ ∀ p, H2 p = none → sp (.ref a :: (vs.take n ++ [V.ref p])) (upd H2 p (.tup (vs.drop n))) Q E) ok hn hm.kp ha pk_nil I1 q fun us ws vs zs s2 H2 I2 r rz ⟨l1, l2, q2⟩ => ?_)
  exact wp_of_code (α := Unit) (F.call (vs := .ref a :: vs) (us := .ref a :: us) hr hg hx I2 (.cons rfl r) (by rw [List.length_cons]; omega) (by rw [List.length_cons]; omega) q2)
def tCallS (sp : Sp) (n : Nat) (E : XK) (t : TA) : TE := fun σ H Q => t σ H fun vs H1 => n ≤ vs.length ∧ vs.length < sizeLine ∧ ∀ p, H1 p = none → sp (vs.take n ++ [V.ref p]) (upd H1 p (.tup (vs.drop n))) Q E
theorem pg_callS (F : FnS X.prog X.w X.K X.mg X.base CX k f n sp) (hr : Room k X.A) (hg : X.A.guards = some []) (gl : Gl X x) (hm : X.mg x = some (.ref f)) (hk : PySem.W.keepIn X.K (.ref f) = true) (hx : Passes CX X E)
    (ok : ArgsOk X es [] pos []) (hn : es = [] → t = tNil) (ha : PA X es t) (hdb : (x == ("__debug__" : Str)) = false := by decide) : PE X (.Call (.Name x p) es [] pos) (tCallS sp n E t) :=
  ⟨fun pins s σ H Q I h => wpAny_Call_Name_kw (ld_glob I gl hm (callw (first := []) (tk := tNil) (B := fun vs zs H2 => n ≤ vs.length ∧ vs.length < sizeLine ∧ ∀ p, H2 p = none → sp (vs.take n ++ [V.ref p]) (upd H2 p (.tup (vs.drop n))) Q E) ok hn hk ha pk_nil I h fun us ws vs zs s2 H2 I2 r rz ⟨l1, l2, q2⟩ =>
    wp_of_code (α := Unit) (F.call hr hg hx I2 r l1 (Nat.le_of_lt l2) q2)) hdb)⟩
end
@[simp] def wMethS (t : Nat) (C : Con) (n : Nat) (wo : WE) (w : WA) : WE := fun δ Q => wo δ fun r δ0 => ¬ r.bor ∧ (∃ fs, r.d = .ins t fs) ∧ w δ0 fun rs δ1 => keeps rs ∧ n ≤ rs.length ∧ rs.length < 16777216 ∧
  C (r.d :: ((rs.map RD.d).take n ++ [.tup ((rs.map RD.d).drop n)])) δ1.n fun d n' => Q (.sh d) ⟨δ1.sl, n'⟩
@[simp] def wCallS (C : Con) (n : Nat) (w : WA) : WE := fun δ Q => w δ fun rs δ1 => keeps rs ∧ n ≤ rs.length ∧ rs.length < 16777216 ∧
  C ((rs.map RD.d).take n ++ [.tup ((rs.map RD.d).drop n)]) δ1.n fun d n' => Q (.sh d) ⟨δ1.sl, n'⟩
section
variable {X : Cx} {G : Gx} {K : PySem.W.Frag} {E : Ent} {Gf : Addr → Addr → Gx} {a c : Addr} {C : Con} {to : TE} {wo : WE} {ts : TA} {wa : WA} {n t : Nat}
theorem star_rep {G : Gx} {M : List Addr} {H : Hp} {vs : List V} {ds : List D} {p : Addr} (al : ∀ x ∈ M, H x ≠ none) (hp : H p = none) (r : RepAll K G (mask M H) vs ds) : RepAll K G (mask M (upd H p (.tup (vs.drop n)))) (vs.take n ++ [V.ref p]) (ds.take n ++ [.tup (ds.drop n)]) := by
  have sm := same_new (o := .tup (vs.drop n)) hp
  have pM : p ∉ M := fun z => al p z hp
  have r' := r.mono (mask_mono (M := M) sm)
  exact (r'.take' n).append (RepAll.one (d := .tup (ds.drop n)) ⟨p, _, rfl, SqT.of (by rw [mask_out pM, upd_same]), r'.drop' n⟩)
theorem sim_methS {Ex : XK} {mn : Str} (hmn : mn ∉ (Gf a c).fld t) (ho : SimE K (Gf a c) E to wo) (h : SimA K (Gf a c) E ts wa) :
    SimE K (Gf a c) E (tMethS ((Gf a c).cls t) mn (lift K Gf C) n Ex to ts) (wMethS t C n wo wa) := fun am M σ δ H S Qd q Q k =>
  ho am M σ δ H S _ q _ fun x r δ0 H0 S0 e0 o0 r0 ⟨nb, ⟨fs, ef⟩, q⟩ => by
    have rr := r0.k.rep nb
    have ri := rr
    rw [ef] at ri
    obtain ⟨p, dx, xs, rfl, hp, hl, rx⟩ := ri
    refine ⟨p, dx, _, rfl, mask_le _ _ hp, zip_none xs hmn, ?_⟩
    refine h am M σ δ0 H0 S0 _ q _ fun vs rs δ1 H1 S1 e1 o1 r1 ⟨k1, l1, l2, hc⟩ => ?_
    refine ⟨by rw [r1.length]; exact l1, by rw [r1.length, line16]; exact l2, fun p1 hp1 => ?_⟩
    have sm := same_new (o := .tup (vs.drop n)) hp1
    have rep := star_rep (n := n) S1.al hp1 (r1.rep k1)
    have r0' : Rep K (Gf a c) (mask M (upd H1 p1 (.tup (vs.drop n)))) (.ref p) r.d := Rep.mono (mask_mono sm) _ (Rep.mono (S0.mask e1) _ rr)
    exact lift_use (S1.grow sm) (RepAll.cons r0' rep) hc fun v r δ' H' S' e' o' rv hq =>
      k v r δ' H' S' (((e0.trans o0 e1).trans (fun i z => o0 i (o1 i z)) (Ext.of (δ := δ1) sm)).trans (fun i z => o0 i (o1 i z)) e') (fun i z => o0 i (o1 i (o' i z))) rv hq
theorem sim_callS {Ex : XK} (h : SimA K (Gf a c) E ts wa) : SimE K (Gf a c) E (tCallS (lift K Gf C) n Ex ts) (wCallS C n wa) := fun am M σ δ H S Qd q Q k =>
  h am M σ δ H S _ q _ fun vs rs δ1 H1 S1 e1 o1 r1 ⟨k1, l1, l2, hc⟩ => by
    refine ⟨by rw [r1.length]; exact l1, by rw [r1.length, line16]; exact l2, fun p1 hp1 => ?_⟩
    have sm := same_new (o := .tup (vs.drop n)) hp1
    exact lift_use (S1.grow sm) (star_rep (n := n) S1.al hp1 (r1.rep k1)) hc fun v r δ' H' S' e' o' rv hq =>
      k v r δ' H' S' ((e1.trans o1 (Ext.of (δ := δ1) sm)).trans o1 e') (fun i z => o1 i (o' i z)) rv hq
variable {k : Nat} {f : Addr} {x mn : Str} {p pos apos : Pos} {o : Expr} {es : List Expr}
theorem de_methS {pl : Sem Bool} (K : PySem.W.Frag) (t : Nat) (c' : Cls K ((Gf a c).cls t)) (hm : Meth K ((Gf a c).cls t) mn f) (F : FnS X.prog X.w K X.mg X.base CX0 k f (n + 1) (lift K Gf C)) (hr : Room k X.A) (hg : X.A.guards = some [])
    (hmn : mn ∉ (Gf a c).fld t) (he : DE X (Gf a c) o to wo) (ha : DA X (Gf a c) es ts wa) (ok : ArgsOk X es [] pos [] := by exact ⟨by first | exact .inl rfl | exact .inr ⟨_, _, rfl, rfl⟩, rfl, rfl, rfl⟩) (hn : es = [] → ts = tNil := by first | exact fun _ => rfl | (intro h; cases h))
    (ht : eval (.Call (.Attribute o mn apos) es [] pos) X.env = (do
      let ov ← eval o X.env
      standAt apos.atName
      let (f, first) ← holding [ov] (getMethod ov mn pl)
      callWith pos f first (backTo pos (starEach es X.env)) (backToKw pos (keywordEach [] X.env))) := by rfl) (hK : X.K = K := by rfl) :
    DE X (Gf a c) (.Call (.Attribute o mn apos) es [] pos) (tMethS ((Gf a c).cls t) mn (lift K Gf C) n E0 to ts) (wMethS t C n wo wa) := by
  subst hK
  exact ⟨pg_methS he.pe c' hm F hr hg pass0 ok hn ha.pa ht, fun E => sim_methS hmn (he.sim E) (ha.sim E)⟩
theorem de_callS (K : PySem.W.Frag) (F : FnS X.prog X.w K X.mg X.base CX0 k f n (lift K Gf C)) (hr : Room k X.A) (hg : X.A.guards = some []) (hm : X.mg x = some (.ref f)) (hk : PySem.W.keepIn K (.ref f) = true)
    (ha : DA X (Gf a c) es ts wa) (gl : Gl X x := by rfl) (ok : ArgsOk X es [] pos [] := by exact ⟨by first | exact .inl rfl | exact .inr ⟨_, _, rfl, rfl⟩, rfl, rfl, rfl⟩) (hn : es = [] → ts = tNil := by first | exact fun _ => rfl | (intro h; cases h)) (hdb : (x == ("__debug__" : Str)) = false := by decide) (hK : X.K = K := by rfl) :
    DE X (Gf a c) (.Call (.Name x p) es [] pos) (tCallS (lift K Gf C) n E0 ts) (wCallS C n wa) := by
  subst hK
  exact ⟨pg_callS F hr hg gl hm hk pass0 ok hn ha.pa hdb, fun E => sim_callS (ha.sim E)⟩
end
end L3
namespace L3
open PySem PySem.Spec PyProof.Rows L2
section
variable {X : Cx} {G : Gx} {K : PySem.W.Frag} {e1 e2 e3 : Expr} {t1 t2 t3 : TE} {w1 w2 w3 : WE} {x y' z : Str} {px py' pz pt pt2 pos : Pos}
theorem sim_parC3 {ta tb tc : TE} {wa wb wc : WE} {i j m : Nat} {oi oj om : Bool} (ha : ∀ E, SimE K G E ta wa) (hb : ∀ E, SimE K G E tb wb) (hc : ∀ E, SimE K G E tc wc) : SimS K G (tAsg (tTup (tCons ta (tCons tb (tCons tc tNil)))) (gTup K 3 (gCons (gName i) (gCons (gName j) (gCons (gName m) gNil))))) (wPar3 i oi j oj m om wa wb wc) := fun E am M σ δ H S D3 q De R => by
  refine ha E am M σ δ H S _ q _ fun x rx δ1 H1 S1 e1 o1 v1 q => ?_
  by_cases k1 : okp oi rx
  · obtain ⟨M1, i1, T1, p1, n1⟩ := v1.pv S1 k1
    obtain ⟨l1, G1, b1⟩ := p1.ghost T1
    refine hb (E.add l1) am M1 σ δ1 H1 G1 _ q _ fun y ry δ2 H2 S2 e2 o2 v2 q => ?_
    by_cases k2 : okp oj ry
    · obtain ⟨M2, i2, T2, p2, n2⟩ := v2.pv S2 k2
      obtain ⟨l2, G2, b2⟩ := p2.ghost T2
      refine hc ((E.add l1).add l2) am M2 σ δ2 H2 G2 _ q _ fun z rz δ3 H3 S3 e3 o3 v3 ⟨_, _, k3, q⟩ => ?_
      obtain ⟨M3, i3, T3, p3, n3⟩ := v3.pv S3 k3
      have q2 := (b2 M3 δ3 H3 T3 e3 o3 i3).of_add
      have q1 := b1 M3 δ3 H3 (T3.drop G1.ok) (e2.trans o2 e3) (fun i z => o2 i (o3 i z)) fun a z => i3 a (i2 a z)
      obtain ⟨am1, U1, f1⟩ := PV.put (i := i) ((T3.drop G1.ok).drop S.ok) q1 (okp_ni k1)
      have r2 := f1 y oj ry.d (fun z1 z2 e => by
        subst z1 z2
        obtain ⟨p, e', hp⟩ := p1.ref
        exact n2 rfl p (by rw [e, e']) hp) q2
      have r3 := f1 z om rz.d (fun z1 z2 e => by
        subst z1 z2
        obtain ⟨p, e', hp⟩ := p1.ref
        exact n3 rfl p (by rw [e, e']) (i2 p hp)) p3.of_add.of_add
      obtain ⟨am2, U2, f2⟩ := PV.put (i := j) U1 r2 (okp_ni k2)
      have s3 := f2 z om rz.d (fun z1 z2 e => by
        subst z1 z2
        obtain ⟨p, e', hp⟩ := p2.ref
        exact n3 rfl p (by rw [e, e']) hp) r3
      obtain ⟨am3, U3, _⟩ := PV.put (i := m) U2 s3 (okp_ni k3)
      exact ⟨(by decide : 3 ≤ sizeLine), fun p hp => ⟨p, [x, y, z], rfl, .inl (.inl upd_same), rfl, x, [y, z], rfl, y, [z], rfl, z, [], rfl, rfl, R.nx _ _ _ _ _ (U3.grow (same_new hp)) q⟩⟩
    · refine hc _ am M1 σ δ2 H2 S2 _ q _ fun z rz δ3 H3 S3 e3 o3 v3 ⟨_, k, _⟩ => (k2 k).elim
  · refine hb E am M σ δ1 H1 S1 _ q _ fun y ry δ2 H2 S2 e2 o2 v2 q => ?_
    refine hc _ am M σ δ2 H2 S2 _ q _ fun z rz δ3 H3 S3 e3 o3 v3 ⟨k, _⟩ => (k1 k).elim
theorem ds_parC3 (K : PySem.W.Frag) (i' : Nat) (oi : Bool) (j : Nat) (oj : Bool) (l : Nat) (ol : Bool) {kt k2} (hc : X.calm = true) (hN : X.N.Nodup) (h1 : DE X G e1 t1 w1) (h2 : DE X G e2 t2 w2) (h3 : DE X G e3 t3 w3)
    (hi : X.N[i']? = some x := by rfl) (hj : X.N[j]? = some y' := by rfl) (hl : X.N[l]? = some z := by rfl)
    (hx : Loc X.env.scope x := by first | exact Or.inl rfl | exact Or.inr rfl) (hy : Loc X.env.scope y' := by first | exact Or.inl rfl | exact Or.inr rfl) (hz : Loc X.env.scope z := by first | exact Or.inl rfl | exact Or.inr rfl)
    (hfx : X.fn x = true ∨ X.env.scope.names.lookup x = some .local := by first | exact .inl rfl | exact .inr rfl) (hfy : X.fn y' = true ∨ X.env.scope.names.lookup y' = some .local := by first | exact .inl rfl | exact .inr rfl) (hfz : X.fn z = true ∨ X.env.scope.names.lookup z = some .local := by first | exact .inl rfl | exact .inr rfl)
    (hst : starEach [e1, e2, e3] X.env = (false, eval e1 X.env) :: starEach [e2, e3] X.env := by rfl) (hst2 : starEach [e2, e3] X.env = (false, eval e2 X.env) :: starEach [e3] X.env := by rfl) (hst3 : starEach [e3] X.env = (false, eval e3 X.env) :: starEach [] X.env := by rfl)
    (hw : swappedStores [.Tuple [.Name x px, .Name y' py', .Name z pz] kt pt] (.Tuple [e1, e2, e3] k2 pt2) X.env = pure none := by rfl)
    (hs : swapsWithSole [.Tuple [.Name x px, .Name y' py', .Name z pz] kt pt] (.Tuple [e1, e2, e3] k2 pt2) pos.line X.env = pure false := by rfl)
    (h4 : (assignEach [.Tuple [.Name x px, .Name y' py', .Name z pz] kt pt] X.env).map (·.2) = [assign (.Tuple [.Name x px, .Name y' py', .Name z pz] kt pt) X.env] := by rfl)
    (hs1 : (assignEach [.Name x px, .Name y' py', .Name z pz] X.env).map (·.2) = assign (.Name x px) X.env :: (assignEach [.Name y' py', .Name z pz] X.env).map (·.2) := by rfl) (hs2 : (assignEach [.Name y' py', .Name z pz] X.env).map (·.2) = assign (.Name y' py') X.env :: (assignEach [.Name z pz] X.env).map (·.2) := by rfl)
    (hs3 : (assignEach [.Name z pz] X.env).map (·.2) = assign (.Name z pz) X.env :: (assignEach [] X.env).map (·.2) := by rfl)
    (hn : (assignEach [.Name x px, .Name y' py', .Name z pz] X.env).length = 3 := by rfl) (hst' : (assignEach [.Name x px, .Name y' py', .Name z pz] X.env).findIdx? (·.1) = none := by rfl) (hK : X.K = K := by rfl) :
    DS X G (.Assign [.Tuple [.Name x px, .Name y' py', .Name z pz] kt pt] (.Tuple [e1, e2, e3] k2 pt2) pos) (tAsg (tTup (tCons t1 (tCons t2 (tCons t3 tNil)))) (gTup K 3 (gCons (gName i') (gCons (gName j) (gCons (gName l) gNil))))) (wPar3 i' oi j oj l ol w1 w2 w3) := by
  subst hK
  exact ⟨ps_asg (pe_tup (pa_cons h1.pe (pa_cons h2.pe (pa_cons h3.pe pa_nil hst3) hst2) hst)) (pg_tup hc (pgs_cons (pg_name hN hi hx hfx) (pgs_cons (pg_name hN hj hy hfy) (pgs_cons (pg_name hN hl hz hfz) pgs_nil hs3) hs2) hs1) hn hst') hs hw h4, sim_parC3 h1.sim h2.sim h3.sim⟩
end
end L3
namespace L3
open PySem PySem.Spec PyProof.Rows L2
@[simp] def wCallF (C : Con) (dd : List D) (w : WA) : WE := fun δ Q => w δ fun rs δ1 => C (rs.map RD.d ++ dd) δ1.n fun d n' => d.flat = true ∧ Q (.sh d) ⟨δ1.sl, n'⟩
section
variable {X : Cx} {G : Gx} {K : PySem.W.Frag} {E : Ent} {Gf : Addr → Addr → Gx} {a c : Addr} {C : Con} {dd : List D} {dvs : List V} {ta tk : TA} {wa wk : WA}
theorem RKs.out {G : Gx} {am : Nat → Addr} {M : List Addr} {σ : L2.St} {δ : St3} {H : Hp} (S : SR K G E am M σ δ H) : ∀ {vs : List V} {rs : List RD}, RKs K G am M δ H vs rs → RepAll K G (mask G.dk H) vs (rs.map RD.d)
  | _, _, .nil => rfl
  | _, _, .cons (r := r) h t => by
    refine ⟨_, _, rfl, ?_, t.out S⟩
    have sub : ∀ x ∈ G.dk, x ∈ M := fun x hx => S.ads x (S.dks x hx)
    cases r with
    | sh d => exact Rep.mono (mask_sub sub) d h
    | fr d => exact Rep.mono (mask_sub sub) d h
    | bo d =>
      obtain ⟨p, rfl, z, o⟩ := BoAt.own S h
      exact o.rep (mask_sub sub) fun u e => by rw [mask_out fun q => z (S.dks _ q)]; exact e
theorem flat_rep {G : Gx} {H H' : Hp} {v : V} {d : D} (f : d.flat = true) (h : Rep K G H v d) : Rep K G H' v d := by
  cases d <;> first | exact h | cases f
theorem sim_callF {Ex : XK} (h : SimA K (Gf a c) E ta wa) (hd : Dfl K (Gf a c) dvs dd) : SimE K (Gf a c) E (tCall (lift K Gf C) dvs Ex ta) (wCallF C dd wa) := fun am M σ δ H S Qd q Q k =>
  h am M σ δ H S _ q _ fun vs rs δ1 H1 S1 e1 o1 r1 hc => by
    refine ⟨a, c, (Gf a c).dk, _, δ1.n, _, fun x hx => hx, fun x hx => S1.al x (S1.ads x (S1.dks x hx)), fun x hx => S1.mc x (S1.ads x (S1.dks x hx)), S1.di, (r1.out S1).append (hd _), hc, fun v d n' H' hb di rv ⟨f, q⟩ => ?_⟩
    exact k v (.sh d) ⟨δ1.sl, n'⟩ H' (S1.after hb di) (e1.trans o1 fun b o h hk _ => hb b o h hk) o1 (flat_rep f rv) q
variable {k : Nat} {f : Addr} {fd : FuncData} {ps ks : List Str} {ds : List Value} {x : Str} {p pos : Pos} {e : Expr} {es : List Expr} {kws : List Keyword}
theorem de_callXF (K : PySem.W.Frag) (F : FnG X.prog X.w K X.mg X.base CX0 k f fd ps (lift K Gf C)) (hr : Room k X.A) (hg : X.A.guards = some []) (hm : X.mg x = some (.ref f)) (hk : PySem.W.keepIn K (.ref f) = true) (hb : Binds K fd ps ds) (hv : Vals dvs ds) (hd : Dfl K (Gf a c) dvs dd)
    (ha : DA X (Gf a c) (e :: es) ta wa) (gl : Gl X x := by rfl) (hdb : (x == ("__debug__" : Str)) = false := by decide) (he : starEach (e :: es) X.env = (false, eval e X.env) :: starEach es X.env := by rfl) (hpl : (backTo pos (starEach es X.env)).any (·.1) = false := by rfl) (hK : X.K = K := by rfl) :
    DE X (Gf a c) (.Call (.Name x p) (e :: es) [] pos) (tCall (lift K Gf C) dvs E0 ta) (wCallF C dd wa) := by
  subst hK
  exact ⟨pg_call F hr hg gl hm hk hb hv pass0 ha.pa hdb he hpl, fun E => sim_callF (ha.sim E) hd⟩
end
end L3
namespace L3
open PySem PySem.Spec PyProof.Rows L2
section
variable {X : Cx}
/-- tuple(xs) of a list: its object is known -/
def rTupP (K : PySem.W.Frag) : List V → Hp → VK → Prop := fun vs H Q => ∃ (p : Addr) (ys : List V), vs = [V.ref p] ∧ SqL K H p ys ∧ ∀ (l : Addr) (o : Obj), H l = none → o.cls = .type "tuple" → o.dict = none → Q (.ref l) (upd H l (.frz o (.tup ys)))
theorem call_tupP (K : PySem.W.Frag) (hK : X.K = K := by rfl) : CallR X (.type "tuple") (rTupP K) := by
  subst hK
  intro pins s σ H vs us Q I r h
  obtain ⟨p, ys, rfl, hq, q⟩ := h
  rw [Vals.ref1 r]
  obtain ⟨its, r', pl, hz⟩ := I.list hq
  have hlen := r'.length
  refine PySem.call_tuple_list pl.isList (fun h' kp => ?_) (by simp only [List.size_toArray] <;> omega)
  have I1 : Inv X pins σ H { s with heap := h' } := I.kept (t' := s.toks) kp
  have gt' := Heap.get?_push_size h' (o := ({ cls := .type "tuple", data := .seq its.toArray } : Obj)) rfl
  have ok : ObjOk X.prog X.w (upd H h'.objs.size (.frz ({ cls := .type "tuple", data := .seq its.toArray } : Obj) (.tup ys))) (h'.push ({ cls := .type "tuple", data := .seq its.toArray } : Obj)) h'.objs.size (.frz ({ cls := .type "tuple", data := .seq its.toArray } : Obj) (.tup ys)) :=
    ⟨gt', hz, its, r', IsTup.new _ _⟩
  exact ⟨.ref h'.objs.size, _, I1.laid (t' := s.toks) (fun b o e => Heap.get?_push_of_some _ e) (Nat.le_refl _) ok, rfl, q _ _ (I1.hok.fresh (Nat.le_refl _)) rfl rfl⟩
/-- t.index(x) of a tuple with a known object -/
def tBMP (r : V → List V → Hp → VK → Prop) (to : TE) (t : TA) : TE := fun σ H Q => to σ H fun x H1 => (∃ a o xs, x = .ref a ∧ H1 a = some (.frz o (.tup xs)) ∧ o.cls = .type "tuple" ∧ o.dict = none) ∧ t σ H1 fun xs H2 => r x xs H2 Q
variable {o e : Expr} {es : List Expr} {to : TE} {t : TA} {name : Str} {apos cpos : Pos} {id : String} {r : V → List V → Hp → VK → Prop}
theorem pe_bmP (slot : Slot "tuple" name id) (hty : typeOf (.builtin id) = pure (.type "method_descriptor")) (hm : MtR X id r) (ho : PE X o to) (ha : PA X (e :: es) t)
    (hbase : attributeBase o name X.env (eval o X.env) = eval o X.env := by rfl)
    (hfew : ((backTo cpos (starEach (e :: es) X.env)).all (fun x => !x.1) && (backToKw cpos (keywordEach [] X.env)).all (fun x => x.1.isSome)
      && decide ((e :: es).length + ([] : List Keyword).length + (if ([] : List Keyword).isEmpty then 0 else 1) < 30)) = true := by rfl)
    (hline : (apos.endLine == cpos.line) = true := by rfl) (hs : starEach (e :: es) X.env = (false, eval e X.env) :: starEach es X.env := by rfl) (hplain : (backTo cpos (starEach es X.env)).any (·.1) = false := by rfl) :
    PE X (.Call (.Attribute o name apos) (e :: es) [] cpos) (tBMP r to t) := by
  refine ⟨fun pins s σ H Q I h => ?_⟩
  refine wpAny_Call_method_late hbase hfew hline rfl (thn (ho.run pins s σ H _ I h) fun v s1 ⟨x, H1, I1, r1, ⟨a, ob, xs, ex, ha1, hc, hd⟩, q1⟩ => ?_)
  subst ex
  obtain rfl : v = Value.ref a := r1
  have g := (I1.hok a _ ha1).1
  refine ⟨"tuple", id, PySem.F.plainAttrs_tuple, slot, hty, ⟨ob, g, hc⟩, fun b e => by cases e; exact ⟨ob, g, hd⟩, ?_⟩
  have hA := ha.run cpos pins s1 σ H1 _ I1 q1
  rw [hs] at hA ⊢
  refine Calls.callWith_builtin (by show (false || (backTo cpos (starEach es X.env)).any (·.1)) = false; rw [hplain] <;> rfl) (Calls.evalArgs_plain ?_)
  exact thn hA fun us s2 ⟨vs, H2, I2, r2, q2⟩ => hm pins s2 σ H2 (.ref a) vs (.ref a) us Q I2 rfl r2 q2
end
section
variable {X : Cx} {G : Gx} {K : PySem.W.Frag} {E : Ent} {te to : TE} {we wo : WE} {e o : Expr} {pos apos : Pos}
def fTupP : FC
  | [.lst ds], Q => Q (.sh (.ptup ds))
  | _, _ => False
@[simp] theorem fTupP_0 (ds : List D) (Q : RD → Prop) : fTupP [.lst ds] Q = Q (.sh (.ptup ds)) := rfl
theorem calls_tupP : CallS K G (rTupP K) fTupP := fun M H vs ds al b Qd h Q k => by
  match ds, h with
  | [.lst xs], h =>
    obtain ⟨v, rfl, b1⟩ := b.one
    obtain ⟨p, ys, rfl, hy, r⟩ := b1.lst
    refine ⟨p, ys, rfl, SqL.of hy, fun l o hl hc hd => k _ _ _ (same_new hl) ?_ h⟩
    exact ⟨l, ys, o, rfl, by rw [mask_out fun z => al l z hl, upd_same], hc, hd, r.mono (mask_mono (same_new hl))⟩
def wkD : D → D
  | .ptup ds => .tup ds
  | .ktup ks => .tup (ks.map keyD)
  | d => d
@[simp] theorem wkD_p (ds : List D) : wkD (.ptup ds) = .tup ds := rfl
@[simp] theorem wkD_k (ks : List Key) : wkD (.ktup ks) = .tup (ks.map keyD) := rfl
def wkR : RD → RD
  | .sh d => .sh (wkD d)
  | r => r
@[simp] theorem wkR_s (d : D) : wkR (.sh d) = .sh (wkD d) := rfl
@[simp] def wWk (w : WE) : WE := fun δ Q => w δ fun r δ1 => Q (wkR r) δ1
theorem wk_rep {H : Hp} {v : V} : ∀ {d : D}, Rep K G H v d → Rep K G H v (wkD d) := fun {d} h => by
  cases d <;> first | exact h | skip
  · obtain ⟨a, xs, o, h1, h2, _, _, h3⟩ := h
    exact ⟨a, xs, h1, .inl (.inr ⟨o, h2⟩), h3⟩
  · obtain ⟨a, h1, h2⟩ := h
    exact ⟨a, _, h1, .inl (.inl h2), RepAll.keys _⟩
theorem sim_wk (h : SimE K G E te we) : SimE K G E te (wWk we) := fun am M σ δ H S Qd q Q k =>
  h am M σ δ H S _ q _ fun v r δ1 H1 S1 e1 o1 rv q => by
    refine k v (wkR r) δ1 H1 S1 e1 o1 ?_ q
    cases r with
    | sh d => exact wk_rep rv
    | fr d => exact rv
    | bo d => exact rv
theorem de_wk (h : DE X G e te we) : DE X G e te (wWk we) := ⟨h.pe, fun E => sim_wk (h.sim E)⟩
@[simp] def wIdxP (a b : WE) : WE := fun δ Q => a δ fun x δ1 => ¬ x.bor ∧ ∃ xs : List Str, x.d = .ptup (xs.map D.str) ∧ b δ1 fun y δ2 => ∃ z, y.d = .str z ∧ z ∈ xs ∧ Q (.sh (.int (xs.idxOf z : Nat))) δ2
theorem before_idxS : ∀ (ns : List Str) (i : Str) (m : Nat), m < ns.idxOf i → ns[m]? ≠ some i
  | [], _, _, h => by simp
  | a :: ns, i, m, h => by
    rw [List.idxOf_cons] at h
    cases q : (a == i) with
    | true => rw [q] at h; simp at h
    | false =>
      rw [q] at h
      cases m with
      | zero =>
        rw [List.getElem?_cons_zero]
        intro e
        rw [Option.some.inj e] at q
        simp at q
      | succ m =>
        rw [List.getElem?_cons_succ]
        exact before_idxS ns i m (by simpa using h)
abbrev rIdxP (K : PySem.W.Frag) : V → List V → Hp → VK → Prop := fun x xs H Q => ∃ p, ∃ ys : List Str, ∃ z j, x = .ref p ∧ xs = [.str z] ∧ SqT K H p (ys.map V.str) ∧ ys[j]? = some z ∧ (∀ m, m < j → ys[m]? ≠ some z) ∧ Q (.int (j : Nat)) H
theorem sim_idxP (ha : SimE K G E to wo) (hb : SimE K G E te we) : SimE K G E (tBMP (rIdxP K) to (tCons te tNil)) (wIdxP wo we) := fun am M σ δ H S Qd h Q k => by
  refine ha am M σ δ H S _ h _ fun x rx δ1 H1 S1 e1 o1 v1 ⟨nb, xs, er, h⟩ => ?_
  have b0 := v1.k.rep nb
  rw [er] at b0
  obtain ⟨a, ys, ob, rfl, ha1, hc, hd, ry⟩ := b0
  rw [ry.strs] at ha1
  refine ⟨⟨a, ob, _, rfl, mask_le _ _ ha1, hc, hd⟩, ?_⟩
  refine hb am M σ δ1 H1 S1 _ h _ fun y ry δ2 H2 S2 e2 o2 v2 ⟨z, ez, hz, q⟩ => ?_
  have by' := v2.k.rb S2
  rw [ez] at by'
  have ha2 := S1.mask e2 _ _ ha1
  have hlt : xs.idxOf z < xs.length := List.idxOf_lt_length_of_mem hz
  refine ⟨a, xs, z, xs.idxOf z, rfl, by rw [by'.str], .inl (.inr ⟨ob, mask_le _ _ ha2⟩), ?_, before_idxS xs z, ?_⟩
  · rw [List.getElem?_eq_getElem hlt, List.getElem_idxOf]
  · exact k _ (.sh (.int (xs.idxOf z : Nat))) δ2 H2 S2 (e1.trans o1 e2) (fun i z => o1 i (o2 i z)) rfl q
theorem de_idxP (K : PySem.W.Frag) (ho : DE X G o to wo) (he : DE X G e te we) (hbase : attributeBase o "index" X.env (eval o X.env) = eval o X.env := by rfl)
    (hfew : ((backTo pos (starEach [e] X.env)).all (fun x => !x.1) && (backToKw pos (keywordEach [] X.env)).all (fun x => x.1.isSome) && decide (([e] : List Expr).length + ([] : List Keyword).length + (if ([] : List Keyword).isEmpty then 0 else 1) < 30)) = true := by rfl)
    (hline : (apos.endLine == pos.line) = true := by rfl) (hst : starEach [e] X.env = (false, eval e X.env) :: starEach [] X.env := by rfl) (hK : X.K = K := by rfl) :
    DE X G (.Call (.Attribute o "index" apos) [e] [] pos) (tBMP (rIdxP K) to (tCons te tNil)) (wIdxP wo we) := by
  subst hK
  exact ⟨pe_bmP PySem.F.slot_tuple_index PySem.F.type_tuple_index mt_tup_index ho.pe (pa_cons he.pe pa_nil hst) hbase hfew hline hst rfl, fun E => sim_idxP (ho.sim E) (he.sim E)⟩
end
end L3
namespace L3
open PySem PySem.Spec PyProof.Rows L2
def kIdx : List Key → Key → Option Nat
  | [], _ => none
  | k' :: ks, k => if k' = k then some 0 else (kIdx ks k).map (· + 1)
theorem kIdx_at {α : Type} {k : Key} : ∀ {ks : List Key} {xs : List α} {j : Nat} {x : α}, kIdx ks k = some j → xs[j]? = some x → dAt ks xs k = some x
  | [], _, _, _, h, _ => by cases h
  | k' :: ks, [], j, x, h, e => by simp at e
  | k' :: ks, y :: xs, j, x, h, e => by
    unfold kIdx at h
    unfold dAt
    by_cases z : k' = k
    · rw [if_pos z] at h ⊢
      cases h
      simpa using e
    · rw [if_neg z] at h ⊢
      obtain ⟨i, hi, rfl⟩ := Option.map_eq_some_iff.mp h
      exact kIdx_at hi (by simpa using e)
/-- no dict of one's own of the other kind -/
def noOdL : List (Option SV) → Prop
  | [] => True
  | some (.od _ _) :: _ => False
  | _ :: r => noOdL r
@[simp] theorem noOdL_nil : noOdL [] = True := rfl
@[simp] theorem noOdL_none (r : List (Option SV)) : noOdL (none :: r) = noOdL r := rfl
@[simp] theorem noOdL_sh (d : D) (r : List (Option SV)) : noOdL (some (.sh d) :: r) = noOdL r := rfl
@[simp] theorem noOdL_ow (d : D) (r : List (Option SV)) : noOdL (some (.ow d) :: r) = noOdL r := rfl
@[simp] theorem noOdL_map (o : Option D) (r : List (Option SV)) : noOdL (o.map SV.sh :: r) = noOdL r := by cases o <;> rfl
@[simp] theorem noOdL_mapo (o : Option D) (r : List (Option SV)) : noOdL (o.map SV.ow :: r) = noOdL r := by cases o <;> rfl
theorem noOdL_at : ∀ {l : List (Option SV)}, noOdL l → ∀ (i : Nat) (ks : List Key) (ss : List SubV), l[i]? ≠ some (some (SV.od ks ss))
  | [], _, _, _, _ => by simp
  | o :: r, h, 0, ks, ss => by
    rw [List.getElem?_cons_zero]
    intro e
    cases o with
    | none => cases e
    | some s =>
      cases s with
      | od _ _ => exact h
      | sh _ => cases e
      | ow _ => cases e
  | o :: r, h, i + 1, ks, ss => by
    rw [List.getElem?_cons_succ]
    refine noOdL_at (l := r) ?_ i ks ss
    cases o with
    | none => exact h
    | some s =>
      cases s with
      | od _ _ => exact h.elim
      | sh _ => exact h
      | ow _ => exact h
section
variable {K : PySem.W.Frag} {G : Gx} {H H' H1 H2 : Hp} {v : V} {d : D} {M M' : List Addr} {E : Ent} {am : Nat → Addr} {σ : L2.St} {δ δ' : St3}
theorem set_none_get {l : List (Option SV)} {i j : Nat} {x : SV} (h : l[j]? = some (some x)) (n : j ≠ i) : (l.set i none)[j]? = some (some x) := by rw [List.getElem?_set_ne (Ne.symm n)]; exact h
/-- a slot takes such a dict -/
theorem SR.set_od {i : Nat} {p : Addr} {ks : List Key} {ss : List SubV} {xs : List V} (S : SR K G E am M σ δ H) (hp : H p = some (.dK (ks.zip xs))) (hl : ks.length = xs.length) (r : SubAll K G M H xs ss) (nd : (p :: subAds xs ss).Nodup)
    (ha : ∀ a ∈ p :: subAds xs ss, a ∈ M ∧ a ∉ E.ads ∧ E.H0 a = none ∧ ∀ j : Nat, isOwn δ j → am j ≠ a) (no : noOdL (δ.sl.set i none)) :
    SR K G E (fun j => if j = i then p else am j) M (σ.set i (some (.ref p))) ⟨δ.sl.set i (some (.od ks ss)), δ.n⟩ H where
  len := by simp [S.len]
  sh := fun j e h => by
    rcases get_set h with ⟨q, z⟩ | ⟨q, z⟩
    · injection z with z; cases z
    · rw [List.getElem?_set_ne (Ne.symm q)]; exact S.sh j e z
  ow := fun j e h => by
    rcases get_set h with ⟨q, z⟩ | ⟨q, z⟩
    · injection z with z; cases z
    · rw [List.getElem?_set_ne (Ne.symm q), if_neg q]; exact S.ow j e z
  inj := fun a b ⟨x, hA⟩ ⟨y, hB⟩ e => by
    rcases get_set hA with ⟨q1, z⟩ | ⟨q1, hA⟩
    · injection z with z; cases z
    · rcases get_set hB with ⟨q2, z⟩ | ⟨q2, hB⟩
      · injection z with z; cases z
      · rw [if_neg q1, if_neg q2] at e
        exact S.inj a b ⟨x, hA⟩ ⟨y, hB⟩ e
  ads := S.ads
  dks := S.dks
  al := S.al
  base := S.base
  di := S.di
  gh := S.gh
  slf := fun x hx d' h k => by
    rcases get_set h with ⟨_, z⟩ | ⟨q, z⟩
    · injection z with z; cases z
    · rw [if_neg q]; exact S.slf x hx d' z k
  od := by
    refine ⟨fun j ks' ss' h => ?_, fun j j' ks1 ss1 ks2 ss2 h1 h2 => ?_⟩
    · rcases get_set h with ⟨q, z⟩ | ⟨q, z⟩
      · subst q
        injection z with z; injection z with z1 z2
        subst z1 z2
        refine ⟨xs, by rw [if_pos rfl]; exact set_get S.len h, by rw [if_pos rfl]; exact hp, hl, r, by rw [if_pos rfl]; exact nd, fun a hA => ?_⟩
        rw [if_pos rfl] at hA
        obtain ⟨q1, q2, q3, q4⟩ := ha a hA
        refine ⟨q1, q2, q3, fun m ⟨e, hm⟩ => ?_⟩
        rcases get_set hm with ⟨_, z⟩ | ⟨q, z⟩
        · injection z with z; cases z
        · show (if m = j then p else am m) ≠ a
          rw [if_neg q]; exact q4 m ⟨e, z⟩
      · exact absurd (set_none_get z q) (noOdL_at no j ks' ss')
    · rcases get_set h1 with ⟨q, _⟩ | ⟨q, z⟩
      · rcases get_set h2 with ⟨q', _⟩ | ⟨q', z'⟩
        · rw [q, q']
        · exact absurd (set_none_get z' q') (noOdL_at no j' ks2 ss2)
      · exact absurd (set_none_get z q) (noOdL_at no j ks1 ss1)
  mc := S.mc
  ok := S.ok
theorem SubAll.to1 {p : Addr} {o : HO} (hp : p ∈ M) : ∀ {ss : List SubV} {xs : List V}, p ∉ subAds xs ss → SubAll K G M H xs ss → SubAll K G M (upd H p o) xs ss
  | ss, xs, n, h => h.to (by rw [mask_upd hp]; exact Same.refl _) fun a ha u hu => by rw [upd_ne fun z : a = p => n (by rw [← z]; exact ha)]; exact hu
theorem SubAll.set {p : Addr} {ys : List V} {es : List D} (hp : p ∈ M) (r : RepAll K G (mask M H) ys es) : ∀ {ss : List SubV} {xs : List V} {j : Nat} {ds : List D}, SubAll K G M H xs ss → (subAds xs ss).Nodup → xs[j]? = some (.ref p) → ss[j]? = some (.ol ds) →
    SubAll K G M (upd H p (.lst ys)) xs (ss.set j (.ol es)) ∧ subAds xs (ss.set j (.ol es)) = subAds xs ss
  | [], _, _, _, _, _, _, e => by simp at e
  | s :: ss, _, 0, ds, ⟨x, rr, q, h1, h2⟩, nd, e1, e2 => by
    subst q
    simp at e1 e2
    subst e1 e2
    have nd' : (p :: subAds rr ss).Nodup := nd
    refine ⟨⟨_, _, rfl, ⟨p, ys, rfl, upd_same, by rw [mask_upd hp]; exact r⟩, h2.to1 hp (List.nodup_cons.mp nd').1⟩, rfl⟩
  | s :: ss, _, j + 1, ds, ⟨x, rr, q, h1, h2⟩, nd, e1, e2 => by
    subst q
    have nd' : (subAd x s ++ subAds rr ss).Nodup := nd
    rw [List.nodup_append] at nd'
    obtain ⟨a, b⟩ := SubAll.set hp r (j := j) h2 nd'.2.1 (by simpa using e1) (by simpa using e2)
    have pin : p ∈ subAds rr ss := by
      obtain ⟨y, z1, _, z2⟩ := h2.get (j := j) (s := .ol ds) (by simpa using e2)
      rw [show rr[j]? = some (.ref p) by simpa using e1] at z1
      cases z1
      exact z2 p (by simp [subAd])
    have pn : p ∉ subAd x s := fun z => nd'.2.2 p z p pin rfl
    refine ⟨⟨_, _, rfl, ?_, a⟩, ?_⟩
    · cases s with
      | sh d => show Rep K G (mask M (upd H p _)) x d; rw [mask_upd hp]; exact h1
      | ol fs =>
        obtain ⟨c, zs, rfl, z1, z2⟩ := h1
        refine ⟨c, zs, rfl, ?_, by rw [mask_upd hp]; exact z2⟩
        rw [upd_ne fun z => pn (by simp [subAd, z])]; exact z1
    · show subAd x s ++ subAds rr (ss.set j _) = _
      rw [b]; rfl
/-- one of its lists changes -/
theorem SR.odMut {i j : Nat} {p : Addr} {ks : List Key} {ss : List SubV} {xs ys : List V} {ds es : List D} (S : SR K G E am M σ δ H) (h : δ.sl[i]? = some (some (.od ks ss))) (hx : H (am i) = some (.dK (ks.zip xs))) (hl : ks.length = xs.length)
    (e1 : xs[j]? = some (.ref p)) (e2 : ss[j]? = some (.ol ds)) (r : RepAll K G (L3.mask M H) ys es) : SR K G E am M σ ⟨δ.sl.set i (some (.od ks (ss.set j (.ol es)))), δ.n⟩ (upd H p (.lst ys)) := by
  obtain ⟨xs', o⟩ := S.od.at' i ks ss h
  have ee := o.h
  rw [hx] at ee
  simp only [Option.some.injEq, HO.dK.injEq] at ee
  have ee := zip_inj hl o.l ee
  subst ee
  obtain ⟨y, z1, z3, z2⟩ := o.r.get e2
  rw [e1] at z1
  cases z1
  have pin : p ∈ am i :: subAds xs ss := List.mem_cons_of_mem _ (z2 p (by simp [subAd]))
  obtain ⟨pM, pA, p0, pO⟩ := o.a p pin
  have pd : p ∉ G.dk := fun z => pA (S.dks _ z)
  have ndc := List.nodup_cons.mp o.nd
  have pi : am i ≠ p := fun z => ndc.1 (z ▸ z2 p (by simp [subAd]))
  obtain ⟨s1, s2⟩ := SubAll.set pM r o.r ndc.2 e1 e2
  have own : ∀ k : Nat, isOwn ⟨δ.sl.set i (some (.od ks (ss.set j (.ol es)))), δ.n⟩ k → isOwn δ k := fun k ⟨x, hk⟩ => by
    rcases get_set hk with ⟨q, z⟩ | ⟨q, z⟩
    · injection z with z; cases z
    · exact ⟨_, z⟩
  refine ⟨by simp [S.len], fun m e hm => ?_, fun m e hm => ?_, fun a b ha hb e => S.inj a b (own a ha) (own b hb) e, S.ads, S.dks, fun a ha => ?_, fun b u hb k => ?_, ?_, fun g hg => by rw [mask_upd pM]; exact S.gh g hg, fun x hx e hm k => ?_, ?_, fun a ha => ?_, S.ok⟩
  · rcases get_set hm with ⟨q, z⟩ | ⟨q, z⟩
    · injection z with z; cases z
    · rw [mask_upd pM]; exact S.sh m e z
  · rcases get_set hm with ⟨q, z⟩ | ⟨q, z⟩
    · injection z with z; cases z
    · obtain ⟨a, b, c, f, g⟩ := S.ow m e z
      refine ⟨a, b, c, f, g.to (by rw [mask_upd pM]; exact Same.refl _) fun u hu => ?_⟩
      rw [upd_ne (pO m ⟨_, z⟩)]; exact hu
  · by_cases q : a = p
    · subst q; rw [upd_same]; simp
    · rw [upd_ne q]; exact S.al a ha
  · have ne : b ≠ p := fun z => by subst z; rw [p0] at hb; cases hb
    rw [upd_ne ne]; exact S.base b u hb k
  · refine G.frame _ _ _ (fun a u ha e => ?_) S.di
    have ne : a ≠ p := fun z => by
      rcases ha with ha | ha
      · exact pd (by rw [← z]; exact ha)
      · obtain ⟨b, ys, eb, hb, _⟩ := z3
        cases eb
        rw [z] at e ha
        exact NoCode.of hb (fun _ => HO.noConfusion) _ e ha
    rw [upd_ne ne]; exact e
  · rcases get_set hm with ⟨_, z⟩ | ⟨_, z⟩
    · injection z with z; cases z
    · exact S.slf x hx e z k
  · refine ⟨fun m ks' ss' hm => ?_, fun a b k1 s1' k2 s2' h1 h2 => ?_⟩
    · rcases get_set hm with ⟨q, z⟩ | ⟨q, z⟩
      · subst q
        injection z with z; injection z with z1 z2
        subst z1 z2
        refine ⟨xs, ?_, by rw [upd_ne pi]; exact hx, hl, s1, by rw [s2]; exact o.nd, fun a ha => ?_⟩
        · exact o.s
        · rw [s2] at ha
          obtain ⟨q1, q2, q3, q4⟩ := o.a a ha
          exact ⟨q1, q2, q3, fun m hm => q4 m (own m hm)⟩
      · exact absurd (S.od.one m i ks' ss' ks ss z h) q
    · rcases get_set h1 with ⟨q, _⟩ | ⟨q, z⟩
      · rcases get_set h2 with ⟨q', _⟩ | ⟨q', z'⟩
        · rw [q, q']
        · exact absurd (S.od.one b i _ _ _ _ z' h) q'
      · exact absurd (S.od.one a i _ _ _ _ z h) q
  · by_cases q : a = p
    · subst q; exact NoCode.of upd_same fun _ => HO.noConfusion
    · exact (S.mc a ha).same (S.al a ha) fun u e => by rw [upd_ne q]; exact e
end
@[simp] def odAt (δ : St3) (i : Nat) (ks : List Key) (ss : List SubV) : Prop := δ.sl[i]? = some (some (SV.od ks ss))
@[simp] def wOdApp (i : Nat) (wk we : WE) : WS := fun De δ => (∃ ks ss, odAt δ i ks ss) ∧ wk δ fun s δ1 => isK s.d fun k => (∃ ks ss j ds, odAt δ1 i ks ss ∧ kIdx ks k = some j ∧ ss[j]? = some (.ol ds)) ∧ we δ1 fun r δ2 => ¬ r.bor ∧
  ∃ ks ss j ds, odAt δ2 i ks ss ∧ kIdx ks k = some j ∧ ss[j]? = some (.ol ds) ∧ ds.length < 16777216 ∧ De.nx ⟨δ2.sl.set i (some (.od ks (ss.set j (.ol (ds ++ [r.d]))))), δ2.n⟩
def odRD : SubV → RD
  | .sh d => .sh d
  | .ol es => .bo (.lst es)
@[simp] theorem odRD_0 (d : D) : odRD (.sh d) = .sh d := rfl
@[simp] theorem odRD_1 (es : List D) : odRD (.ol es) = .bo (.lst es) := rfl
/-- what stands at a key of such a dict -/
@[simp] def wOdGet (i : Nat) (wk : WE) : WE := fun δ Q => (∃ ks ss, odAt δ i ks ss) ∧ wk δ fun s δ1 => isK s.d fun k => ∃ ks ss j x, odAt δ1 i ks ss ∧ kIdx ks k = some j ∧ ss[j]? = some x ∧ Q (odRD x) δ1
section
variable {X : Cx} {G : Gx} {K : PySem.W.Frag} {E : Ent} {te ti : TE} {we wi : WE} {e i' : Expr} {pos : Pos}
theorem sim_odApp {i : Nat} (hk : ∀ E, SimE K G E ti wi) (he : ∀ E, SimE K G E te we) : SimS K G (tDrop (tBM K "list" rAppend (tDGet (tVar i) ti) (tCons te tNil))) (wOdApp i wi we) := fun E am M σ δ H S D3 ⟨⟨ks0, ss0, h0⟩, q⟩ De R => by
  obtain ⟨xs0, o0⟩ := S.od.at' i ks0 ss0 h0
  refine ⟨.ref (am i), o0.s, ?_⟩
  refine hk E am M σ δ H S _ q _ fun y s δ1 H1 S1 e1 o1 sv q => ?_
  obtain ⟨key, rfl, _, ⟨ks, ss, j, ds, h1, kj, sj⟩, q⟩ := isK_of (sv.k.rb S1) q
  have h1 : δ1.sl[i]? = some (some (SV.od ks ss)) := h1
  obtain ⟨xs, o⟩ := S1.od.at' i ks ss h1
  obtain ⟨x, xj, ⟨p, ys, rfl, hp, ry⟩, pin⟩ := o.r.get sj
  refine ⟨am i, .ref p, rfl, .inl ⟨_, key, .inl o.h, rfl, by rw [val_zip, kIdx_at kj xj]⟩, .inl ⟨rfl, ys, SqL.of hp⟩, ?_⟩
  refine he E am M σ δ1 H1 S1 _ q _ fun v r δ2 H2 S2 e2 o2 rv ⟨nb, ks', ss', j', ds', h2, kj', sj', sz, q⟩ => ?_
  have h2 : δ2.sl[i]? = some (some (SV.od ks' ss')) := h2
  have h2' : δ1.sl[i]? = some (some (SV.od ks' ss')) := o2 (.od i ks' ss') h2
  rw [h1] at h2'
  simp only [Option.some.injEq, SV.od.injEq] at h2'
  obtain ⟨rfl, rfl⟩ := h2'
  rw [kj] at kj'
  cases kj'
  rw [sj] at sj'
  cases sj'
  obtain ⟨a1, a2, a3, a4⟩ := o.a (am i) List.mem_cons_self
  obtain ⟨b1, b2, b3, b4⟩ := o.a p (List.mem_cons_of_mem _ (pin p (by simp [subAd])))
  have hx2 := e2 _ _ o.h (fun z => a2 (S1.dks _ z)) fun m hm => a4 m hm
  have hp2 := e2 _ _ hp (fun z => b2 (S1.dks _ z)) fun m hm => b4 m hm
  have ry2 := ry.mono (S1.mask e2)
  refine ⟨p, ys, v, rfl, rfl, hp2, by rw [ry2.length, line16]; exact sz, R.nx am M σ _ _ (S2.odMut h2 hx2 o.l xj sj (ry2.append (.one (rv.k.rep nb)))) q⟩
theorem sim_odGet {i : Nat} (hk : ∀ E, SimE K G E ti wi) : SimE K G E (tDGet (tVar i) ti) (wOdGet i wi) := fun am M σ δ H S Qd ⟨⟨ks0, ss0, h0⟩, q⟩ Q k => by
  obtain ⟨xs0, o0⟩ := S.od.at' i ks0 ss0 h0
  refine ⟨.ref (am i), o0.s, ?_⟩
  refine hk E am M σ δ H S _ q _ fun y s δ1 H1 S1 e1 o1 sv q => ?_
  obtain ⟨key, rfl, _, ks, ss, j, sub, h1, kj, sj, q⟩ := isK_of (sv.k.rb S1) q
  have h1 : δ1.sl[i]? = some (some (SV.od ks ss)) := h1
  obtain ⟨xs, o⟩ := S1.od.at' i ks ss h1
  obtain ⟨x, xj, at', pin⟩ := o.r.get sj
  refine ⟨am i, x, rfl, .inl ⟨_, key, .inl o.h, rfl, by rw [val_zip, kIdx_at kj xj]⟩, k x (odRD sub) δ1 H1 S1 e1 o1 ?_ q⟩
  cases sub with
  | sh d => exact at'
  | ol es => exact .inr ⟨i, j, ks, ss, xs, es, h1, o.h, o.l, xj, sj, rfl⟩
theorem ds_odApp (i : Nat) {x : Str} {px gpos apos cpos : Pos} (hu : X.A.units + 64 < cLine) (hx : PE X (.Name x px) (tVar i)) (hk : DE X G i' ti wi) (he : DE X G e te we) (hs : NoSl i' := by first | rfl | trivial)
    (hsw : swapsWith (.Call (.Attribute (.Subscript (.Name x px) i' gpos) "append" apos) [e] [] cpos) none pos.line X.env = pure false := by rfl)
    (hbase : attributeBase (.Subscript (.Name x px) i' gpos) "append" X.env (eval (.Subscript (.Name x px) i' gpos) X.env) = eval (.Subscript (.Name x px) i' gpos) X.env := by rfl)
    (hfew : ((backTo cpos (starEach [e] X.env)).all (fun x => !x.1) && (backToKw cpos (keywordEach [] X.env)).all (fun x => x.1.isSome) && decide (([e] : List Expr).length + ([] : List Keyword).length + (if ([] : List Keyword).isEmpty then 0 else 1) < 30)) = true := by rfl)
    (hline : (apos.endLine == cpos.line) = true := by rfl) (hst : starEach [e] X.env = (false, eval e X.env) :: starEach [] X.env := by rfl) :
    DS X G (.Expr (.Call (.Attribute (.Subscript (.Name x px) i' gpos) "append" apos) [e] [] cpos) pos) (tDrop (tBM X.K "list" rAppend (tDGet (tVar i) ti) (tCons te tNil))) (wOdApp i wi we) :=
  ⟨ps_expr (pe_bm PySem.F.plainAttrs_list PySem.F.slot_list_append PySem.F.type_list_append mt_append (pe_dget (by omega) hx hk.pe hs) (pa_cons he.pe pa_nil hst) hbase hfew hline hst rfl) hsw, sim_odApp hk.sim he.sim⟩
theorem de_odGet (i : Nat) {x : Str} {px : Pos} (hu : X.A.units + 64 < cLine) (hx : PE X (.Name x px) (tVar i)) (hk : DE X G i' ti wi) (hs : NoSl i' := by first | rfl | trivial) : DE X G (.Subscript (.Name x px) i' pos) (tDGet (tVar i) ti) (wOdGet i wi) :=
  ⟨pe_dget (by omega) hx hk.pe hs, fun E => sim_odGet hk.sim⟩
end
structure OdNew (K : PySem.W.Frag) (G : Gx) (E : Ent) (am : Nat → Addr) (M M' : List Addr) (δ : St3) (H : Hp) (p : Addr) (ks : List Key) (ss : List SubV) (xs : List V) : Prop where
  h : H p = some (.dK (ks.zip xs))
  l : ks.length = xs.length
  r : SubAll K G M' H xs ss
  nd : (p :: subAds xs ss).Nodup
  a : ∀ a ∈ p :: subAds xs ss, a ∈ M' ∧ a ∉ M ∧ a ∉ E.ads ∧ E.H0 a = none ∧ ∀ j : Nat, isOwn δ j → am j ≠ a
abbrev WOd := St3 → (List Key → List SubV → St3 → Prop) → Prop
def SimOd (K : PySem.W.Frag) (G : Gx) (E : Ent) (te : TE) (w : WOd) : Prop := ∀ (am : Nat → Addr) (M : List Addr) (σ : L2.St) (δ : St3) (H : Hp), SR K G E am M σ δ H → ∀ Qd : List Key → List SubV → St3 → Prop, w δ Qd → ∀ Q : VK,
  (∀ (p : Addr) (ks : List Key) (ss : List SubV) (xs : List V) (M' : List Addr) (δ' : St3) (H' : Hp), (∀ a ∈ M, a ∈ M') → SR K G E am M' σ δ' H' → Ext G am δ H H' → (∀ i, isOwn δ' i → isOwn δ i) → OdNew K G E am M M' δ' H' p ks ss xs → Qd ks ss δ' → Q (.ref p) H') → te σ H Q
structure DOd (X : Cx) (G : Gx) (e : Expr) (te : TE) (w : WOd) : Prop where
  pe : PE X e te
  sim : ∀ E, SimOd X.K G E te w
@[simp] def wSetOd (i : Nat) (w : WOd) : WS := fun De δ => w δ fun ks ss δ1 => noOdL (δ1.sl.set i none) ∧ De.nx ⟨δ1.sl.set i (some (.od ks ss)), δ1.n⟩
@[simp] def wParOd (i : Nat) (oi : Bool) (j : Nat) (a : WE) (w : WOd) : WS := fun De δ => a δ fun x δ1 => w δ1 fun ks ss δ2 => okp oi x ∧ noOdL (δ2.sl.set j none) ∧ De.nx ⟨(δ2.sl.set i (some (svOf oi x))).set j (some (.od ks ss)), δ2.n⟩
section
variable {X : Cx} {G : Gx} {K : PySem.W.Frag} {E : Ent} {te ta tb : TE} {w : WOd} {wa : WE} {e e1 e2 : Expr} {pos : Pos}
theorem sim_setOd {i : Nat} (h : ∀ E, SimOd K G E te w) : SimS K G (tAsg te (gName i)) (wSetOd i w) := fun E am M σ δ H S D3 q De R =>
  h E am M σ δ H S _ q _ fun p ks ss xs M' δ1 H1 hM S1 e1 o1 N ⟨no, q⟩ =>
    R.nx _ M' _ _ H1 (S1.set_od (i := i) N.h N.l N.r N.nd (fun a ha => let ⟨q1, _, q2, q3, q4⟩ := N.a a ha; ⟨q1, q2, q3, q4⟩) no) q
theorem sim_parOd {i j : Nat} {oi : Bool} (hij : i ≠ j) (ha : ∀ E, SimE K G E ta wa) (hb : ∀ E, SimOd K G E tb w) : SimS K G (tPar i j (tCons ta (tCons tb tNil))) (wParOd i oi j wa w) := fun E am M σ δ H S D3 q De R => by
  refine ha E am M σ δ H S _ q _ fun x rx δ1 H1 S1 e1 o1 v1 q => ?_
  by_cases k1 : okp oi rx
  · obtain ⟨M1, i1, T1, p1, n1⟩ := v1.pv S1 k1
    obtain ⟨l1, G1, b1⟩ := p1.ghost T1
    refine hb (E.add l1) am M1 σ δ1 H1 G1 _ q _ fun p ks ss xs M2 δ2 H2 i2 S2 e2 o2 N ⟨_, no, q⟩ => ?_
    have q1 := b1 M2 δ2 H2 S2 e2 o2 i2
    have U := (S2.drop S.ok).set_od (i := j) N.h N.l N.r N.nd (fun a ha => let ⟨q1, _, q2, q3, q4⟩ := N.a a ha; ⟨q1, q2, q3, q4⟩) no
    have q2 : PV K G E (fun m => if m = j then p else am m) M2 ⟨δ2.sl.set j (some (.od ks ss)), δ2.n⟩ H2 x oi rx.d := by
      cases oi with
      | false => exact q1
      | true =>
        obtain ⟨px, rfl, c1, c2, c3, c4, c5, c6⟩ := q1
        obtain ⟨px', ex, hpx⟩ := p1.ref
        cases ex
        refine ⟨px, rfl, c1, c2, c3, fun m d hm => ?_, c5, fun a ⟨m, ks', ss', xs', z1, z2, z3, z4⟩ => ?_⟩
        · rcases get_set hm with ⟨_, z⟩ | ⟨z, z'⟩
          · injection z with z; cases z
          · show (if m = j then p else am m) ≠ px
            rw [if_neg z]; exact c4 m d z'
        · rcases get_set z1 with ⟨z, z'⟩ | ⟨z, z'⟩
          · subst z
            injection z' with z'; injection z' with w1 w2
            subst w1 w2
            simp only [if_true] at z2 z4
            rw [N.h] at z2
            simp only [Option.some.injEq, HO.dK.injEq] at z2
            have ee := zip_inj N.l z3 z2
            subst ee
            exact fun z => (N.a a z4).2.1 (by rw [← z]; exact hpx)
          · exact absurd (set_none_get z' z) (noOdL_at no m ks' ss')
    obtain ⟨am2, U2, _⟩ := PV.put (i := i) U q2 (okp_ni k1)
    refine ⟨x, .ref p, rfl, R.nx am2 M2 _ ⟨(δ2.sl.set i (some (svOf oi rx))).set j (some (.od ks ss)), δ2.n⟩ H2 ?_ q⟩
    have s1 : (σ.set i (some x)).set j (some (.ref p)) = (σ.set j (some (.ref p))).set i (some x) := List.set_comm _ _ hij
    have s2 : (δ2.sl.set i (some (svOf oi rx))).set j (some (SV.od ks ss)) = (δ2.sl.set j (some (SV.od ks ss))).set i (some (svOf oi rx)) := List.set_comm _ _ hij
    rw [s1, s2]
    exact U2
  · refine hb E am M σ δ1 H1 S1 _ q _ fun p ks ss xs M2 δ2 H2 i2 S2 e2 o2 N ⟨k, _⟩ => (k1 k).elim
theorem ds_setOd (i : Nat) {x : Str} {py : Pos} (hN : X.N.Nodup) (he : DOd X G e te w) (hi : X.N[i]? = some x := by rfl) (hx : Loc X.env.scope x := by first | exact Or.inl rfl | exact Or.inr rfl) (hs : swapsWith e (some (.Name x py)) pos.line X.env = pure false := by rfl)
    (hf : X.fn x = true ∨ X.env.scope.names.lookup x = some .local := by first | exact .inl rfl | exact .inr rfl) : DS X G (.Assign [.Name x py] e pos) (tAsg te (gName i)) (wSetOd i w) := ⟨ps_set hN hi hx he.pe hs hf, sim_setOd he.sim⟩
theorem ds_parOd (i : Nat) (oi : Bool) (j : Nat) {x y : Str} {px py pt pt2 : Pos} {kt k2} (hc : X.calm = true) (hN : X.N.Nodup) (h1 : DE X G e1 ta wa) (h2 : DOd X G e2 tb w) (hij : i ≠ j := by decide) (hi : X.N[i]? = some x := by rfl) (hj : X.N[j]? = some y := by rfl)
    (hx : X.env.scope.names.lookup x = some .local := by rfl) (hy : X.env.scope.names.lookup y = some .local := by rfl) (hst : starEach [e1, e2] X.env = (false, eval e1 X.env) :: starEach [e2] X.env := by rfl) (hst2 : starEach [e2] X.env = (false, eval e2 X.env) :: starEach [] X.env := by rfl)
    (hw : swappedStores [.Tuple [.Name x px, .Name y py] kt pt] (.Tuple [e1, e2] k2 pt2) X.env = pure (some [x, y]) := by rfl)
    (hs : swapsWithSole [.Tuple [.Name x px, .Name y py] kt pt] (.Tuple [e1, e2] k2 pt2) pos.line X.env = pure false := by rfl) :
    DS X G (.Assign [.Tuple [.Name x px, .Name y py] kt pt] (.Tuple [e1, e2] k2 pt2) pos) (tPar i j (tCons ta (tCons tb tNil))) (wParOd i oi j wa w) :=
  ⟨ps_par hc hN hi hj hij hx hy (pa_cons h1.pe (pa_cons h2.pe pa_nil hst2) hst) hw hs, sim_parOd hij h1.sim h2.sim⟩
end
@[simp] def wPrsO : List (WE × Option WE) → St3 → (List Key → List SubV → St3 → Prop) → Prop
  | [], δ, Q => Q [] [] δ
  | (wk, none) :: r, δ, Q => wk δ fun s δ1 => isK s.d fun k => wPrsO r δ1 fun ks ss δ2 => Q (k :: ks) (.ol [] :: ss) δ2
  | (wk, some wv) :: r, δ, Q => wk δ fun s δ1 => isK s.d fun k => wv δ1 fun v δ2 => ¬ v.bor ∧ wPrsO r δ2 fun ks ss δ3 => Q (k :: ks) (.sh v.d :: ss) δ3
@[simp] def wOdDisp (ps : List (WE × Option WE)) : WOd := fun δ Q => wPrsO ps δ fun ks ss δ1 => ks.length ≤ 15 ∧ ks.Nodup ∧ Q ks ss δ1
structure DOP (X : Cx) (G : Gx) (pos : Pos) (keys : List (Option Expr)) (values : List Expr) (ts : List (TE × TE)) (ws : List (WE × Option WE)) : Prop where
  pp : PPs X pos keys values ts
  sim : ∀ (E : Ent) (am : Nat → Addr) (M : List Addr) (σ : L2.St) (δ : St3) (H : Hp), SR X.K G E am M σ δ H → ∀ Qd : List Key → List SubV → St3 → Prop, wPrsO ws δ Qd → ∀ Q : List (V × V) → Hp → Prop,
    (∀ (ks : List Key) (xs : List V) (ss : List SubV) (M' : List Addr) (δ' : St3) (H' : Hp), (∀ a ∈ M, a ∈ M') → SR X.K G E am M' σ δ' H' → Ext G am δ H H' → (∀ i, isOwn δ' i → isOwn δ i) → ks.length = xs.length → SubAll X.K G M' H' xs ss → (subAds xs ss).Nodup →
      (∀ a ∈ subAds xs ss, a ∈ M' ∧ a ∉ M ∧ a ∉ E.ads ∧ E.H0 a = none ∧ ∀ j : Nat, isOwn δ' j → am j ≠ a) → Qd ks ss δ' → Q ((ks.zip xs).map fun kv => (kV kv.1, kv.2)) H') → tPairs ts σ H Q
theorem fresh_h0 {K : PySem.W.Frag} {G : Gx} {E : Ent} {am : Nat → Addr} {M : List Addr} {σ : L2.St} {δ : St3} {H : Hp} (S : SR K G E am M σ δ H) {p : Addr} (hp : H p = none) : p ∉ M ∧ p ∉ E.ads ∧ p ∉ G.dk ∧ E.H0 p = none ∧ ∀ j : Nat, isOwn δ j → am j ≠ p := by
  have pM : p ∉ M := fun z => S.al p z hp
  have pd : p ∉ G.dk := fun z => pM (S.ads p (S.dks p z))
  refine ⟨pM, fun z => pM (S.ads p z), pd, ?_, fun j ⟨d, h⟩ z => pM (z ▸ (S.ow j d h).2.1)⟩
  cases z : E.H0 p with
  | none => rfl
  | some o => exact absurd (S.base p o z pd) (by rw [hp]; simp)
section
variable {X : Cx} {G : Gx} {E : Ent} {keys : List (Option Expr)} {values : List Expr} {ts : List (TE × TE)} {ws : List (WE × Option WE)} {a b : Expr} {ta tb : TE} {wa wb : WE} {pos lpos : Pos}
theorem dop_nil : DOP X G pos [] [] [] [] := ⟨pps_nil, fun E am M σ δ H S Qd q Q k => k [] [] [] M δ H (fun _ z => z) S .refl (fun _ z => z) rfl rfl .nil (fun a z => by cases z) q⟩
theorem dop_sh (ha : DE X G a ta wa) (hb : DE X G b tb wb) (hr : DOP X G pos keys values ts ws) : DOP X G pos (some a :: keys) (b :: values) ((ta, tb) :: ts) ((wa, some wb) :: ws) :=
  ⟨pps_cons ha.pe hb.pe hr.pp, fun E am M σ δ H S Qd q Q k => by
    refine ha.sim E am M σ δ H S _ q _ fun x r δ1 H1 S1 e1 o1 rv q => ?_
    obtain ⟨key, rfl, _, q⟩ := isK_of (rv.k.rb S1) q
    refine hb.sim E am M σ δ1 H1 S1 _ q _ fun y s δ2 H2 S2 e2 o2 sv ⟨nb, q⟩ => ?_
    -- the value is kept by a ghost
    have ry := sv.k.rep nb
    have S2' : SR X.K G (E.add [(y, s.d)]) am M σ δ2 H2 := S2.addgh _ fun p hp => by
      have : p = (y, s.d) := by simpa using hp
      subst this; exact ry
    refine hr.sim (E.add [(y, s.d)]) am M σ δ2 H2 S2' _ q _ fun ks xs ss M' δ3 H3 hM S3 e3 o3 hl r3 nd hA q => ?_
    refine k (key :: ks) (y :: xs) (.sh s.d :: ss) M' δ3 H3 hM (S3.drop S2.ok) ((e1.trans o1 e2).trans (fun i z => o1 i (o2 i z)) e3) (fun i z => o1 i (o2 i (o3 i z))) (by simp [hl]) ⟨y, xs, rfl, S3.gh (y, s.d) (by simp [Ent.add]), r3⟩ ?_ ?_ q
    · have : subAds (y :: xs) (.sh s.d :: ss) = subAds xs ss := by
        show subAd y (.sh s.d) ++ _ = _
        have : subAd y (.sh s.d) = [] := by cases y <;> rfl
        rw [this]; rfl
      rw [this]; exact nd
    · have : subAds (y :: xs) (.sh s.d :: ss) = subAds xs ss := by
        show subAd y (.sh s.d) ++ _ = _
        have : subAd y (.sh s.d) = [] := by cases y <;> rfl
        rw [this]; rfl
      rw [this]; exact hA⟩
theorem dop_ol (ha : DE X G a ta wa) (hr : DOP X G pos keys values ts ws) : DOP X G pos (some a :: keys) (.List [] lpos :: values) ((ta, tLst tNil) :: ts) ((wa, none) :: ws) :=
  ⟨pps_cons ha.pe (pe_lst pa_nil) hr.pp, fun E am M σ δ H S Qd q Q k => by
    refine ha.sim E am M σ δ H S _ q _ fun x r δ1 H1 S1 e1 o1 rv q => ?_
    obtain ⟨key, rfl, _, q⟩ := isK_of (rv.k.rb S1) q
    refine ⟨Nat.zero_le _, fun p hp => ?_⟩
    have sm := same_new (o := .lst []) hp
    obtain ⟨pM, pA, pd, p0, pO⟩ := fresh_h0 S1 hp
    have T := S1.more (p := p) hp sm (by rw [upd_same]; simp)
    refine hr.sim E am (p :: M) σ δ1 _ T _ q _ fun ks xs ss M' δ3 H3 hM S3 e3 o3 hl r3 nd hA q => ?_
    have h3 : H3 p = some (.lst []) := e3 p _ upd_same pd fun i hi => pO i hi
    have pn : p ∉ subAds xs ss := fun z => (hA p z).2.1 List.mem_cons_self
    refine k (key :: ks) (.ref p :: xs) (.ol [] :: ss) M' δ3 H3 (fun a z => hM a (List.mem_cons_of_mem _ z)) S3 ((e1.trans o1 (Ext.of (δ := δ1) sm)).trans o1 e3) (fun i z => o1 i (o3 i z)) (by simp [hl]) ⟨.ref p, xs, rfl, ⟨p, [], rfl, h3, rfl⟩, r3⟩ (List.nodup_cons.mpr ⟨pn, nd⟩) (fun a ha => ?_) q
    rcases List.mem_cons.mp (show a ∈ p :: subAds xs ss from ha) with z | z
    · subst z
      exact ⟨hM a List.mem_cons_self, pM, pA, p0, fun j hj => pO j (o3 j hj)⟩
    · obtain ⟨q1, q2, q3⟩ := hA a z
      exact ⟨q1, fun w => q2 (List.mem_cons_of_mem _ w), q3⟩⟩
theorem merge_nodup {α : Type} : ∀ (more : List Key) (ms : List α) (ks : List Key) (xs : List α), more.length = ms.length → (ks ++ more).Nodup → ks.length = xs.length → (dMerge ks xs more ms).1 = ks ++ more ∧ (dMerge ks xs more ms).2 = xs ++ ms
  | [], [], ks, xs, _, _, _ => by rw [dMerge_nil]; simp
  | [], _ :: _, _, _, h, _, _ => by simp at h
  | _ :: _, [], _, _, h, _, _ => by simp at h
  | k :: more, m :: ms, ks, xs, h, nd, hl => by
    have kn : k ∉ ks := fun z => by
      rw [List.nodup_append] at nd
      exact nd.2.2 k z k List.mem_cons_self rfl
    have e1 : dKs ks k = ks ++ [k] := by unfold dKs; rw [if_neg kn]
    have e2 : dVs ks xs k m = xs ++ [m] := by unfold dVs; rw [if_neg kn]
    rw [dMerge_cons, e1, e2]
    have := merge_nodup more ms (ks ++ [k]) (xs ++ [m]) (by simpa using h) (by simpa using nd) (by simp [hl])
    simpa using this
theorem merge_new {ks : List Key} {xs : List V} (hl : ks.length = xs.length) (nd : ks.Nodup) : mergeK [] (ks.zip xs) = ks.zip xs := by
  have e := merge_zip ks xs [] [] rfl hl
  rw [List.zip_nil_left] at e
  obtain ⟨a, b⟩ := merge_nodup ks xs [] [] hl (by simpa using nd) rfl
  rw [e, a, b]; simp
theorem sim_odDisp (hp : DOP X G pos keys values ts ws) : SimOd X.K G E (tDisp ts) (wOdDisp ws) := fun am M σ δ H S Qd q Q k p hpn => by
  have sm := same_new (o := .dK []) hpn
  obtain ⟨pM, pA, pd, p0, pO⟩ := fresh_h0 S hpn
  have T := S.more (p := p) hpn sm (by rw [upd_same]; simp)
  refine hp.sim E am (p :: M) σ δ _ T _ q _ fun ks xs ss M' δ' H' hM S' e o hl r nd hA ⟨h15, kn, q⟩ => ?_
  have h1 : H' p = some (.dK []) := e p _ upd_same pd fun i hi => pO i hi
  refine ⟨h1, ks.zip xs, rfl, by rw [List.length_zip, ← hl, Nat.min_self]; exact h15, ?_⟩
  rw [merge_new hl kn]
  have eA : Ext G am δ H H' := fun b u hb kb ho => e b u (sm b u hb) kb ho
  have pn : p ∉ subAds xs ss := fun z => (hA p z).2.1 List.mem_cons_self
  have S2 := S'.put (o := .dK (ks.zip xs)) (hM p List.mem_cons_self) pd p0 (fun i z => pO i (o i z)) (fun a ha z => pM (by rw [← z]; exact (S.od.isA (S.isOdA eA o ha)).1)) (NoCode.of h1 fun _ => HO.noConfusion)
  refine k p ks ss xs M' δ' _ (fun a z => hM a (List.mem_cons_of_mem _ z)) S2 (fun b u hb kb ho => ?_) o ⟨upd_same, hl, r.to1 (hM p List.mem_cons_self) pn, List.nodup_cons.mpr ⟨pn, nd⟩, fun a ha => ?_⟩ q
  · have ne : b ≠ p := fun z => by subst z; rw [hpn] at hb; cases hb
    rw [upd_ne ne]; exact eA b u hb kb ho
  · rcases List.mem_cons.mp ha with z | z
    · subst z
      exact ⟨hM a List.mem_cons_self, pM, pA, p0, fun j hj => pO j (o j hj)⟩
    · obtain ⟨q1, q2, q3⟩ := hA a z
      exact ⟨q1, fun w => q2 (List.mem_cons_of_mem _ w), q3⟩
theorem de_odDisp (hp : DOP X G pos keys values ts ws) (hall : keys.all (·.isSome) = true := by rfl) (hl : keys.length = values.length := by rfl) (h0 : keys ≠ [] := by exact List.cons_ne_nil _ _)
    (h15 : keys.length ≤ 15 := by decide) : DOd X G (.Dict keys values pos) (tDisp ts) (wOdDisp ws) := ⟨pe_disp hp.pp hall hl h0 h15, fun E => sim_odDisp hp⟩
end
abbrev tDictP (K : PySem.W.Frag) (t : TA) : TE := tCB (fun xs H Q => ∃ a ps kvs, xs = [V.ref a] ∧ SqL K H a (ps.map V.ref) ∧ Paired (fun p (kv : Key × V) => SqT K H p [kV kv.1, kv.2]) ps kvs ∧ ∀ p, H p = none → Q (.ref p) (upd H p (.dK (mergeK [] kvs)))) t
abbrev tOdRng (K : PySem.W.Frag) (m : Nat) (ta : TA) : TE := tDictP K (tCons (tLc (iRng2 ta) (gName m) tYes (tTup (tCons (tVar m) (tCons (tLst tNil) tNil))) [m]) tNil)
def rngK (lo : Int) (n : Nat) : List Key := (List.range n).map fun k : Nat => (Sum.inl (lo + (k : Int)) : Key)
@[simp] def wOdRng (m : Nat) (wa : WA) : WOd := fun δ Q => wa δ fun rs δ1 => ∃ i j : Int, rs.map RD.d = [.int i, .int j] ∧ (-(2 ^ 62) ≤ i ∧ i < 2 ^ 62 ∧ -(2 ^ 62) ≤ j ∧ j < 2 ^ 62) ∧ (j - i).toNat < 16777216 ∧ m < δ1.sl.length ∧ Q (rngK i (j - i).toNat) (List.replicate (j - i).toNat (.ol [])) δ1
theorem yes_if {σ : L2.St} {H : Hp} {A B : Hp → Prop} (h : A H) : tYes σ H fun b H3 => if b = true then A H3 else B H3 := by
  show (if true = true then A H else B H)
  rw [if_pos rfl]; exact h
theorem paired_of {α β : Type} {F : α → β → Prop} : ∀ {l : List α} {m : List β}, l.length = m.length → (∀ (i : Nat) (a : α) (b : β), l[i]? = some a → m[i]? = some b → F a b) → Paired F l m
  | [], [], _, _ => .nil
  | [], _ :: _, h, _ => by simp at h
  | _ :: _, [], h, _ => by simp at h
  | a :: l, b :: m, h, f => .cons (f 0 a b rfl rfl) (paired_of (by simpa using h) fun i x y h1 h2 => f (i + 1) x y (by simpa using h1) (by simpa using h2))
theorem rngK_nodup (lo : Int) (n : Nat) : (rngK lo n).Nodup := by
  unfold rngK
  show List.Pairwise (· ≠ ·) _
  rw [List.pairwise_map]
  refine List.Pairwise.imp (fun {a b} hne h => ?_) (List.nodup_range (n := n))
  have : lo + (a : Int) = lo + (b : Int) := Sum.inl.inj h
  omega
theorem subAds_rep : ∀ (es : List Addr), subAds (es.map V.ref) (List.replicate es.length (.ol [])) = es
  | [] => rfl
  | a :: es => by
    show [a] ++ subAds (es.map V.ref) (List.replicate es.length (.ol [])) = _
    rw [subAds_rep es]; rfl
theorem subAll_rep {K : PySem.W.Frag} {G : Gx} {M : List Addr} {H : Hp} : ∀ (es : List Addr), (∀ a ∈ es, H a = some (.lst [])) → SubAll K G M H (es.map V.ref) (List.replicate es.length (.ol []))
  | [], _ => rfl
  | a :: es, h => ⟨.ref a, _, rfl, ⟨a, [], rfl, h a List.mem_cons_self, rfl⟩, subAll_rep es fun b z => h b (List.mem_cons_of_mem _ z)⟩
section
variable {K : PySem.W.Frag} {G : Gx} {E : Ent} {ta : TA} {wa : WA}
theorem sim_odRng {m : Nat} (ha : SimA K G E ta wa) : SimOd K G E (tOdRng K m ta) (wOdRng m wa) := fun am M σ δ H S Qd q Q k => by
  refine ha am M σ δ H S _ q _ fun vs rs δ1 H1 S1 e1 o1 rv ⟨lo, hi, hj, hb, hn, hm, q⟩ => ?_
  have := rv.rbs S1
  rw [hj] at this
  obtain ⟨v, u, rfl, b, c⟩ := this.two
  rw [b.int, c.int]
  refine ⟨lo, hi, rfl, hb, fun D hD => ?_⟩
  generalize hnn : (hi - lo).toNat = n at *
  obtain ⟨DM, DA, Dd, D0, DO⟩ := fresh_h0 S1 hD
  have ml : m < σ.length := by rw [S1.len]; exact hm
  have smD := same_new (o := .lst []) hD
  have T0 := S1.more (p := D) hD smD (by rw [upd_same]; simp)
  refine ⟨fun i mm H => mm = n - i ∧ i ≤ n ∧ ∃ (tt es Mi : List Addr), tt.length = i ∧ es.length = i ∧ (∀ a ∈ M, a ∈ Mi) ∧ D ∈ Mi ∧ SR K G E am Mi σ δ1 H ∧ Ext G am δ1 H1 H ∧ H D = some (.lst (tt.map V.ref)) ∧
      (∀ (j : Nat) (t e : Addr), tt[j]? = some t → es[j]? = some e → t ≠ D ∧ t ∉ es ∧ H t = some (.tup [V.int (lo + j), .ref e])) ∧ (∀ a ∈ es, a ∈ Mi ∧ a ≠ D ∧ H1 a = none ∧ H a = some (.lst [])) ∧ es.Nodup, ⟨_, rfl, Nat.zero_le _, [], [], D :: M, rfl, rfl, fun a z => List.mem_cons_of_mem _ z, List.mem_cons_self, T0, Ext.of smD, upd_same, fun j t e h => by simp at h, fun a h => (by cases h), .nil⟩, ?_⟩
  rintro i mm H ⟨rfl, hle, tt, es, Mi, lt, le, sub, DMi, Si, ex, hDl, hT, hE, nd⟩
  by_cases hlt : i < n
  · refine .inr ⟨hlt, fun H' => ∃ (tt es Mi : List Addr), tt.length = i + 1 ∧ es.length = i + 1 ∧ (∀ a ∈ M, a ∈ Mi) ∧ D ∈ Mi ∧ SR K G E am Mi σ δ1 H' ∧ Ext G am δ1 H1 H' ∧ H' D = some (.lst (tt.map V.ref)) ∧
      (∀ (j : Nat) (t e : Addr), tt[j]? = some t → es[j]? = some e → t ≠ D ∧ t ∉ es ∧ H' t = some (.tup [V.int (lo + j), .ref e])) ∧ (∀ a ∈ es, a ∈ Mi ∧ a ≠ D ∧ H1 a = none ∧ H' a = some (.lst [])) ∧ es.Nodup, fun H' z => ⟨_, by omega, rfl, hlt, z⟩, fun x H' ⟨e1, e2⟩ => ?_⟩
    rw [e1, e2]
    refine ⟨(wipe_set (by simp)).trans wipe_wipe, ?_⟩
    refine yes_if ?_
    refine ⟨.int (lo + i), by rw [List.getElem?_set_self (by rw [wipe_length]; exact ml)], Nat.zero_le _, fun e he => ?_⟩
    refine ⟨sz1000 (by show 2 ≤ 1000; omega), fun t ht => ?_⟩
    have sm1 := same_new (o := .lst []) he
    have sm2 := same_new (o := .tup [V.int (lo + i), .ref e]) ht
    have et : e ≠ t := ne_of_none (H := upd H e (.lst [])) upd_same ht
    have De : D ≠ e := ne_of_none hDl he
    have Dt : D ≠ t := ne_of_none (H := upd H e (.lst [])) (by rw [upd_ne De]; exact hDl) ht
    obtain ⟨eM, eA, ed, e0, eO⟩ := fresh_h0 Si he
    have S2 := (Si.more (p := e) he sm1 (by rw [upd_same]; simp)).grow sm2
    have hD4 : upd (upd H e (.lst [])) t (.tup [V.int (lo + i), .ref e]) D = some (.lst (tt.map V.ref)) := by rw [upd_ne Dt, upd_ne De]; exact hDl
    have exn : Ext G am δ1 H1 (upd (upd H e (.lst [])) t (.tup [V.int (lo + i), .ref e])) := ex.trans (fun _ z => z) (Ext.of (δ := δ1) (sm1.trans sm2))
    refine ⟨_, hD4, by rw [List.length_map, lt, line16]; omega, tt ++ [t], es ++ [e], e :: Mi, by simp [lt], by simp [le], fun a z => List.mem_cons_of_mem _ (sub a z), List.mem_cons_of_mem _ DMi, ?_, fun b u hb kb ho => ?_, ?_, fun j t' e' h1 h2 => ?_, fun a ha => ?_, ?_⟩
    · exact S2.put (List.mem_cons_of_mem _ DMi) Dd D0 (fun i z => DO i z) (fun a ha z => DM (by rw [← z]; exact (S1.od.isA (S1.isOdA exn (fun _ z => z) ha)).1)) (NoCode.of (show upd (upd H e (.lst [])) t (.tup [V.int (lo + i), .ref e]) D = some (.lst (tt.map V.ref)) by rw [upd_ne Dt, upd_ne De]; exact hDl) fun _ => HO.noConfusion)
    · have ne : b ≠ D := fun z => by subst z; rw [hD] at hb; cases hb
      rw [upd_ne ne]; exact exn b u hb kb ho
    · rw [upd_same, List.map_append]; rfl
    · by_cases jl : j < i
      · rw [List.getElem?_append_left (by omega)] at h1 h2
        obtain ⟨q1, q2, q3⟩ := hT j t' e' h1 h2
        have n1 : t' ≠ e := ne_of_none q3 he
        have n2 : t' ≠ t := ne_of_none (H := upd H e (.lst [])) (by rw [upd_ne n1]; exact q3) ht
        refine ⟨q1, fun z => ?_, ?_⟩
        · rcases List.mem_append.mp z with z | z
          · exact q2 z
          · exact n1 (List.mem_singleton.mp z)
        · rw [upd_ne q1, upd_ne n2, upd_ne n1]; exact q3
      · have jl' := (List.getElem?_eq_some_iff.mp h1).1
        have ej : j = i := by simp [lt] at jl'; omega
        subst ej
        rw [List.getElem?_append_right (by omega), lt, Nat.sub_self] at h1
        rw [List.getElem?_append_right (by omega), le, Nat.sub_self] at h2
        cases h1
        cases h2
        refine ⟨Dt.symm, fun z => ?_, ?_⟩
        · rcases List.mem_append.mp z with z | z
          · obtain ⟨_, _, _, q4⟩ := hE _ z
            exact ne_of_none (H := upd H e (.lst [])) (sm1 _ _ q4) ht rfl
          · exact et (List.mem_singleton.mp z).symm
        · rw [upd_ne Dt.symm, upd_same]
    · rcases List.mem_append.mp ha with z | z
      · obtain ⟨q1, q2, q3, q4⟩ := hE a z
        have n1 : a ≠ e := ne_of_none q4 he
        have n2 : a ≠ t := ne_of_none (H := upd H e (.lst [])) (by rw [upd_ne n1]; exact q4) ht
        exact ⟨List.mem_cons_of_mem _ q1, q2, q3, by rw [upd_ne q2, upd_ne n2, upd_ne n1]; exact q4⟩
      · have z := List.mem_singleton.mp z
        subst z
        refine ⟨List.mem_cons_self, De.symm, ?_, by rw [upd_ne De.symm, upd_ne et, upd_same]⟩
        cases w : H1 a with
        | none => rfl
        | some o =>
          by_cases kb : a ∈ G.dk
          · exact (ed kb).elim
          · have := ex a o w kb fun i hi z => eO i hi z
            rw [he] at this; cases this
    · rw [List.nodup_append]
      refine ⟨nd, by simp, fun a ha b hb => ?_⟩
      rw [List.mem_singleton.mp hb]
      exact ne_of_none (hE a ha).2.2.2 he
  · have ei : i = n := by omega
    subst ei
    refine .inl ⟨Nat.le_refl _, D, tt, (rngK lo i).zip (es.map V.ref), rfl, SqL.of hDl, paired_of ?_ (fun j t kv h1 h2 => ?_), fun p hp => ?_⟩
    · rw [List.length_zip, List.length_map, lt, le]; simp [rngK]
    · obtain ⟨k1, k2⟩ := kv
      rw [List.getElem?_zip_eq_some] at h2
      obtain ⟨h2, h3⟩ := h2
      rw [List.getElem?_map] at h3
      obtain ⟨e, he, rfl⟩ := Option.map_eq_some_iff.mp h3
      have jl := (List.getElem?_eq_some_iff.mp h1).1
      rw [rngK, List.getElem?_map, List.getElem?_range (by omega)] at h2
      cases h2
      exact SqT.of (hT j t e h1 he).2.2
    · have kl : (rngK lo i).length = (es.map V.ref).length := by simp [rngK, le]
      rw [merge_new kl (rngK_nodup lo i)]
      have smp := same_new (o := .dK ((rngK lo i).zip (es.map V.ref))) hp
      obtain ⟨pM, pA, pd, p0, pO⟩ := fresh_h0 Si hp
      have pn : p ∉ es := fun z => pM (hE p z).1
      have hp1 : ∀ a ∈ es, upd H p (.dK ((rngK lo i).zip (es.map V.ref))) a = some (.lst []) := fun a z => by rw [upd_ne fun w : a = p => pn (by rw [← w]; exact z)]; exact (hE a z).2.2.2
      have er : List.replicate i (SubV.ol []) = List.replicate es.length (.ol []) := by rw [le]
      refine k p (rngK lo i) (List.replicate i (.ol [])) (es.map V.ref) (p :: Mi) δ1 _ (fun a z => List.mem_cons_of_mem _ (sub a z)) (Si.more (p := p) hp smp (by rw [upd_same]; simp)) (e1.trans o1 (ex.trans (fun _ z => z) (Ext.of (δ := δ1) smp))) o1 ⟨upd_same, kl, ?_, ?_, fun a ha => ?_⟩ q
      · rw [er]; exact subAll_rep es hp1
      · rw [er, subAds_rep]; exact List.nodup_cons.mpr ⟨pn, nd⟩
      · rw [er, subAds_rep] at ha
        rcases List.mem_cons.mp ha with z | z
        · subst z
          exact ⟨List.mem_cons_self, fun z => pM (sub _ z), pA, p0, pO⟩
        · obtain ⟨q1, q2, q3, q4⟩ := hE a z
          obtain ⟨c1, c2, c3, c4, c5⟩ := fresh_h0 S1 q3
          exact ⟨List.mem_cons_of_mem _ q1, c1, c2, c4, c5⟩
end
end L3
namespace L3
open PySem PySem.Spec PyProof.Rows L2
@[simp] def wStar (we : WE) (w : WA) : WA := fun δ Q => we δ fun r δ1 => ∃ ds, asS r.d = some ds ∧ w δ1 fun rs δ2 => Q (ds.map RD.sh ++ rs) δ2
theorem keeps_app : ∀ {a b : List RD}, keeps (a ++ b) ↔ keeps a ∧ keeps b
  | [], b => by simp
  | r :: a, b => by
    simp only [List.cons_append, keeps]
    rw [keeps_app (a := a)]
    exact ⟨fun ⟨x, y, z⟩ => ⟨⟨x, y⟩, z⟩, fun ⟨⟨x, y⟩, z⟩ => ⟨x, y, z⟩⟩
@[simp] theorem keeps_sh : ∀ (ds : List D), keeps (ds.map RD.sh) = True
  | [] => rfl
  | d :: ds => by simp [keeps, keeps_sh ds]
@[simp] theorem keeps_shapp (ds : List D) (b : List RD) : keeps (ds.map RD.sh ++ b) = keeps b := propext (by rw [keeps_app, keeps_sh]; simp)
section
variable {X : Cx} {G : Gx} {K : PySem.W.Frag} {E : Ent} {am : Nat → Addr} {M : List Addr} {σ : L2.St} {δ : St3} {H : Hp}
theorem RKs.sh : ∀ {ds : List D} {xs : List V}, RepAll K G (mask M H) xs ds → RKs K G am M δ H xs (ds.map RD.sh)
  | [], _, h => by cases h; exact .nil
  | d :: ds, _, ⟨x, xs, e, r, t⟩ => by subst e; exact .cons r (RKs.sh t)
theorem RKs.app : ∀ {xs ys : List V} {a b : List RD}, RKs K G am M δ H xs a → RKs K G am M δ H ys b → RKs K G am M δ H (xs ++ ys) (a ++ b)
  | _, _, _, _, .nil, h => h
  | _, _, _, _, .cons h t, h' => .cons h (t.app h')
theorem rb_seq {v : V} {d : D} {ds : List D} (h : RB K G M H v d) (e : asS d = some ds) : ∃ p xs, v = .ref p ∧ (SqT K H p xs ∨ SqL K H p xs) ∧ RepAll K G (mask M H) xs ds := by
  cases d <;> first | cases e | skip
  · obtain ⟨p, xs, q, r, t⟩ := h.lst
    exact ⟨p, xs, q, .inr (SqL.of r), t⟩
  · obtain ⟨p, xs, q, r, t⟩ := h.tup
    exact ⟨p, xs, q, .inl r, t⟩
theorem sim_star {te : TE} {we : WE} {ta : TA} {wa : WA} (h : SimE K G E te we) (ht : SimA K G E ta wa) : SimA K G E (StX.tStar K te ta) (wStar we wa) := fun am M σ δ H S Qd q Q k => by
  refine h am M σ δ H S _ q _ fun v r δ1 H1 S1 e1 o1 rv ⟨ds, ed, q⟩ => ?_
  obtain ⟨p, xs, rfl, hs, rx⟩ := rb_seq (rv.k.rb S1) ed
  refine ⟨p, xs, rfl, hs, ?_⟩
  refine ht am M σ δ1 H1 S1 _ q _ fun ys rs δ2 H2 S2 e2 o2 v2 q => ?_
  exact k _ _ δ2 H2 S2 (e1.trans o1 e2) (fun i z => o1 i (o2 i z)) ((RKs.sh (rx.mono (S1.mask e2))).app v2) q
end
section
variable {X : Cx} {G : Gx} {e : Expr} {es : List Expr} {te : TE} {we : WE} {ta : TA} {wa : WA} {p : Pos}
theorem da_star (K : PySem.W.Frag) (h : DE X G e te we) (ht : DA X G es ta wa) (hs : starEach (.Starred e p :: es) X.env = (true, eval e X.env) :: starEach es X.env := by rfl) (hK : X.K = K := by rfl) : DA X G (.Starred e p :: es) (StX.tStar K te ta) (wStar we wa) := by
  subst hK
  exact ⟨StX.pa_star h.pe ht.pa hs, fun E => sim_star (h.sim E) (ht.sim E)⟩
end
def fInD (neg : Bool) : F2
  | d, .lst es, Q => ∃ p ps, d.py = some p ∧ D.pys es = some ps ∧ SeqAt.shaped p = true ∧ SeqAt.shaped (.list ps) = true ∧ Q (.sh (.bl (if neg then !ps.any (fun z => PyData.eqv z p) else ps.any fun z => PyData.eqv z p)))
  | _, _, _ => False
@[simp] theorem fInD_0 (neg : Bool) (d : D) (es : List D) (Q : RD → Prop) : fInD neg d (.lst es) Q = ∃ p ps, d.py = some p ∧ D.pys es = some ps ∧ SeqAt.shaped p = true ∧ SeqAt.shaped (.list ps) = true ∧ Q (.sh (.bl (if neg then !ps.any (fun z => PyData.eqv z p) else ps.any fun z => PyData.eqv z p))) := by
  cases d <;> rfl
theorem ops_inD {K : PySem.W.Frag} {G : Gx} : OpS K G (rInD K) (fInD false) := fun M H x y d e al bx by' Qd h Q k => by
  cases e <;> first | (cases d <;> exact h.elim) | skip
  rw [fInD_0] at h
  obtain ⟨p, ps, e1, e2, s1, s2, h⟩ := h
  exact ⟨p, ps, bx.dp e1, by'.dp (by simp [D.py, e2]), s1, s2, k _ _ H (Same.refl _) rn_bl h⟩
theorem ops_niD {K : PySem.W.Frag} {G : Gx} : OpS K G (rNotInD K) (fInD true) := fun M H x y d e al bx by' Qd h Q k => by
  cases e <;> first | (cases d <;> exact h.elim) | skip
  rw [fInD_0] at h
  obtain ⟨p, ps, e1, e2, s1, s2, h⟩ := h
  exact ⟨p, ps, bx.dp e1, by'.dp (by simp [D.py, e2]), s1, s2, k _ _ H (Same.refl _) rn_bl h⟩
theorem op_inDK {X : Cx} (K : PySem.W.Frag) (hu : X.A.units + 65 < cLine) (hK : X.K = K := by rfl) : OpR X (compareOp .In) (rInD K) := by subst hK; exact op_inD hu
theorem op_niDK {X : Cx} (K : PySem.W.Frag) (hu : X.A.units + 65 < cLine) (hK : X.K = K := by rfl) : OpR X (compareOp .NotIn) (rNotInD K) := by subst hK; exact op_notInD hu
theorem units65 {k : Nat} {A : Around} (hr : Room k A) : A.units + 65 < cLine := by have := hr.un; omega
theorem pys_any {h : Nat} {d : D} {p : PyData} (hd : Pl h d) (e1 : d.py = some p) : ∀ {es : List D} {ps : List PyData} {k : Nat}, (∀ e ∈ es, Pl k e) → D.pys es = some ps → (ps.any (fun z => PyData.eqv z p) = true ↔ d ∈ es)
  | [], ps, k, he, e2 => by
    have : ps = [] := by simpa [D.pys] using e2.symm
    subst this; simp
  | e :: es, ps, k, he, e2 => by
    simp only [D.pys] at e2
    obtain ⟨q, q1, q2⟩ := Option.bind_eq_some_iff.mp e2
    obtain ⟨qs', q3, rfl⟩ := Option.map_eq_some_iff.mp q2
    have ih := pys_any hd e1 (es := es) (fun e' h' => he e' (List.mem_cons_of_mem _ h')) q3
    rw [List.any_cons, Bool.or_eq_true, ih, (he e List.mem_cons_self).eqv h d q p hd q1 e1, List.mem_cons]
    exact ⟨fun z => z.imp (fun z => z.symm) id, fun z => z.imp (fun z => z.symm) id⟩
theorem inD_pl {neg : Bool} {d : D} {es : List D} (hd : Pl 31 d) (he : ∀ e ∈ es, Pl 31 e) {Q : RD → Prop} (q1 : d ∈ es → Q (.sh (.bl (!neg)))) (q2 : d ∉ es → Q (.sh (.bl neg))) : fInD neg d (.lst es) Q := by
  rw [fInD_0]
  obtain ⟨p, e1, c1, d1⟩ := hd.py
  obtain ⟨q, e2, c2, d2⟩ := (Pl.lst (h := 31) (ds := es) he).py
  obtain ⟨ps, e3, rfl⟩ : ∃ ps, D.pys es = some ps ∧ q = .list ps := by
    simp only [D.py] at e2
    obtain ⟨ps, a, b⟩ := Option.map_eq_some_iff.mp e2
    exact ⟨ps, a, b.symm⟩
  have iff := pys_any hd e1 he e3
  refine ⟨p, ps, e1, e3, ?_, ?_, ?_⟩
  · unfold SeqAt.shaped; rw [c1, decide_eq_true (by omega)]; rfl
  · unfold SeqAt.shaped; rw [c2, decide_eq_true (by omega)]; rfl
  · by_cases z : d ∈ es
    · rw [iff.mpr z]
      have := q1 z
      cases neg <;> exact this
    · have f : ps.any (fun z => PyData.eqv z p) = false := by
        cases y : ps.any (fun z => PyData.eqv z p) with
        | false => rfl
        | true => exact (z (iff.mp y)).elim
      rw [f]
      have := q2 z
      cases neg <;> exact this
def rSetIT (K : PySem.W.Frag) (w : World) : List V → Hp → VK → Prop := fun vs H Q => ∃ (a : Addr) (ns : List Int), vs = [V.ref a] ∧ SqT K H a (ns.map V.int) ∧ ns.length < 1000 ∧
  ∀ (p : Addr) (c : Nat), H p = none → c ≤ ns.length → Q (.ref p) (upd H p (SetO w p (fun j => decide (j ∈ ns)) c))
theorem cr_setIT {X : Cx} (hc : X.calm = true) : CallR X (.type "set") (rSetIT X.K X.w) := by
  intro pins s σ H vs us Q I r h
  obtain ⟨a, ns, rfl, ha, hn, q⟩ := h
  rw [Vals.ref1 r]
  obtain ⟨its, rv, pl⟩ := I.tuple ha
  have hi := ints_of_vals rv
  refine call_set_tupI ns (I.ok.hd hc) pl.1 (by simpa using hi) (by rw [show scanBound = 4096 from rfl]; omega) fun h' tk c R hc' k => ?_
  exact ⟨.ref _, _, I.laid (t' := tk) k (Nat.le_refl _) (setO_new R), rfl, q _ _ (I.hok.fresh (Nat.le_refl _)) hc'⟩
section
variable {X : Cx} {G : Gx} {K : PySem.W.Frag} {E : Ent} {te : TE} {we : WE} {e : Expr} {pos p p1 pos1 : Pos}
@[simp] def wSortSetT (we : WE) : WE := fun δ Q => we δ fun r δ1 => ∃ ns : List Int, r.d = .tup (ns.map D.int) ∧ ns.length < 64 ∧ ∀ ms : List Int, ms.Pairwise (· < ·) → (∀ k, k ∈ ms ↔ k ∈ ns) → Q (.fr (.lst (ms.map D.int))) δ1
theorem sim_sortSetT (w : World) (h : SimE K G E te we) : SimE K G E (tCB (rSortedSet w) (tCons (tCB (rSetIT K w) (tCons te tNil)) tNil)) (wSortSetT we) := fun am M σ δ H S Qd q Q k =>
  h am M σ δ H S _ q _ fun v r δ1 H1 S1 e1 o1 rv ⟨ns, er, h64, q⟩ => by
    have rb := rv.k.rb S1
    rw [er] at rb
    obtain ⟨p, xs, rfl, hp, rx⟩ := rb.tup
    rw [rx.ints] at hp
    refine ⟨p, ns, rfl, hp, by omega, fun p1 c hp1 hc => ?_⟩
    refine ⟨p1, _, c, rfl, upd_same, by omega, fun ms p2 h1 h2 h3 hp2 => ?_⟩
    have s1 := same_new (o := SetO w p1 (fun j => decide (j ∈ ns)) c) hp1
    have s2 := same_new (o := .lst (ms.map V.int)) hp2
    exact k (.ref p2) (.fr (.lst (ms.map D.int))) δ1 _ ((S1.grow s1).grow s2) (e1.trans o1 (Ext.of (δ := δ1) (s1.trans s2))) o1 ((rn_lst hp2 (RepAll.of_ints ms)).rv (S1.grow s1) s2) (q ms h1 fun k => by rw [h2]; simp)
theorem de_sortSetT (hc : X.calm = true) (he : DE X G e te we) (hg : Gl X "sorted") (hm : X.mg "sorted" = none) (hg1 : Gl X "set") (hm1 : X.mg "set" = none) (hst : starEach [e] X.env = (false, eval e X.env) :: starEach [] X.env := by rfl) (hpl : (backTo pos1 (starEach [] X.env)).any (·.1) = false := by rfl)
    (he1 : starEach [.Call (.Name "set" p1) [e] [] pos1] X.env = (false, eval (.Call (.Name "set" p1) [e] [] pos1) X.env) :: starEach [] X.env := by rfl) (hpl1 : (backTo pos (starEach [] X.env)).any (·.1) = false := by rfl) :
    DE X G (.Call (.Name "sorted" p) [.Call (.Name "set" p1) [e] [] pos1] [] pos) (tCB (rSortedSet X.w) (tCons (tCB (rSetIT X.K X.w) (tCons te tNil)) tNil)) (wSortSetT we) :=
  ⟨pe_callB (cr_sortedSet hc) hg hm rfl (pa_cons (pe_callTy (cr_setIT hc) hg1 hm1 (by rfl) (pa_cons he.pe pa_nil hst) (by decide) (by decide) hst hpl) pa_nil he1) (by decide) (by decide) he1 hpl1, fun E => sim_sortSetT X.w (he.sim E)⟩
end
theorem de_odRng {X : Cx} {G : Gx} {elt tg a b : Expr} {ifs : List Expr} {scope : Scope} {p1 p2 pos1 : Pos} {ta : TA} {wa : WA} {we : WE} {m : Nat} {p pos : Pos} (K : PySem.W.Frag) (hl : DE X G (.ListComp elt [⟨tg, .Call (.Name "range" p1) [a, b] [] p2, ifs, 0⟩] scope pos1) (tLc (iRng2 ta) (gName m) tYes (tTup (tCons (tVar m) (tCons (tLst tNil) tNil))) [m]) we) (ha : DA X G [a, b] ta wa) (hc : X.calm = true) (hm : X.mg "dict" = none) (hg : Gl X "dict" := by rfl)
    (hst : starEach [.ListComp elt [⟨tg, .Call (.Name "range" p1) [a, b] [] p2, ifs, 0⟩] scope pos1] X.env = (false, eval (.ListComp elt [⟨tg, .Call (.Name "range" p1) [a, b] [] p2, ifs, 0⟩] scope pos1) X.env) :: starEach [] X.env := by rfl) (hpl : (backTo pos (starEach [] X.env)).any (·.1) = false := by rfl) (hK : X.K = K := by rfl) : DOd X G (.Call (.Name "dict" p) [.ListComp elt [⟨tg, .Call (.Name "range" p1) [a, b] [] p2, ifs, 0⟩] scope pos1] [] pos) (tOdRng K m ta) (wOdRng m wa) := by
  subst hK
  exact ⟨pe_callTy (call_dictP hc) hg hm (by rfl) (pa_cons hl.pe pa_nil hst) (by decide) (by decide) hst hpl, fun E => sim_odRng (ha.sim E)⟩
def wDcGo (g : WG) (t : WT) (wk wv : WE) (vs : List Nat) (Q : List Key → List D → St3 → Prop) : List D → List Key → List D → St3 → Prop
  | [], ks, es, δ => Q ks es δ
  | x :: r, ks, es, δ => g x δ fun δ1 => t δ1 fun b δ2 => (b = true → wk δ2 fun s δ3 => isK s.d fun k => wv δ3 fun q δ4 => ¬ q.bor ∧ ks.length < 16777216 ∧ wDcGo g t wk wv vs Q r (dKs ks k) (dVs ks es k q.d) ⟨wipe3 δ4.sl vs, δ4.n⟩) ∧ (b = false → wDcGo g t wk wv vs Q r ks es ⟨wipe3 δ2.sl vs, δ2.n⟩)
@[simp] def wDc (wi : WI) (g : WG) (t : WT) (wk wv : WE) (vs : List Nat) : WE := fun δ Q => wi δ fun ds δ1 => noOwn δ1.sl vs ∧ wDcGo g t wk wv vs (fun ks es δ2 => Q (.fr (.dct ks es)) ⟨unwipe δ1.sl δ2.sl vs, δ2.n⟩) ds [] [] ⟨wipe3 δ1.sl vs, δ1.n⟩
theorem wDc_of {g : WG} {t : WT} {wk wv : WE} {vs : List Nat} {Q : List Key → List D → St3 → Prop} (I : Nat → List Key → List D → St3 → Prop) : ∀ (ds : List D) (k : Nat) (ks : List Key) (es : List D) (δ : St3), I k ks es δ →
    (∀ (i : Nat) (d : D) (ks : List Key) (es : List D) (δ : St3), ds[i]? = some d → I (k + i) ks es δ → ∀ N : List Key → List D → St3 → Prop, (∀ ks es δ, I (k + i + 1) ks es δ → N ks es δ) → g d δ fun δ1 => t δ1 fun b δ2 =>
      (b = true → wk δ2 fun s δ3 => isK s.d fun k => wv δ3 fun q δ4 => ¬ q.bor ∧ ks.length < 16777216 ∧ N (dKs ks k) (dVs ks es k q.d) ⟨wipe3 δ4.sl vs, δ4.n⟩) ∧ (b = false → N ks es ⟨wipe3 δ2.sl vs, δ2.n⟩)) →
    (∀ ks es δ, I (k + ds.length) ks es δ → Q ks es δ) → wDcGo g t wk wv vs Q ds ks es δ
  | [], k, ks, es, δ, h0, _, hn => hn ks es δ h0
  | d :: ds, k, ks, es, δ, h0, hs, hn => hs 0 d ks es δ rfl h0 _ fun ks1 es1 δ1 h1 => wDc_of I ds (k + 1) ks1 es1 δ1 h1 (fun i d' ks' es' δ' hd hi N hN => hs (i + 1) d' ks' es' δ' hd (by rw [show k + (i + 1) = k + 1 + i by omega]; exact hi) N fun ks2 es2 δ2 h2 => hN ks2 es2 δ2 (by rw [show k + 1 + i + 1 = k + (i + 1) + 1 by omega]; exact h2))
      fun ks2 es2 δ2 h2 => hn ks2 es2 δ2 (by rw [show k + (d :: ds).length = k + 1 + ds.length by simp only [List.length_cons]; omega]; exact h2)
theorem wDc_inv {g : WG} {t : WT} {wk wv : WE} {vs : List Nat} {Q : List Key → List D → St3 → Prop} {ds : List D} {ks : List Key} {es : List D} {δ : St3} (I : Nat → List Key → List D → St3 → Prop) (h0 : I 0 ks es δ)
    (hs : ∀ (i : Nat) (d : D) (ks : List Key) (es : List D) (δ : St3), ds[i]? = some d → I i ks es δ → ∀ N : List Key → List D → St3 → Prop, (∀ ks es δ, I (i + 1) ks es δ → N ks es δ) → g d δ fun δ1 => t δ1 fun b δ2 =>
      (b = true → wk δ2 fun s δ3 => isK s.d fun k => wv δ3 fun q δ4 => ¬ q.bor ∧ ks.length < 16777216 ∧ N (dKs ks k) (dVs ks es k q.d) ⟨wipe3 δ4.sl vs, δ4.n⟩) ∧ (b = false → N ks es ⟨wipe3 δ2.sl vs, δ2.n⟩))
    (hn : ∀ ks es δ, I ds.length ks es δ → Q ks es δ) : wDcGo g t wk wv vs Q ds ks es δ :=
  wDc_of I ds 0 ks es δ h0 (fun i d ks es δ hd hi N hN => hs i d ks es δ hd (by rwa [Nat.zero_add] at hi) N fun ks es δ h => hN ks es δ (by rwa [Nat.zero_add])) fun ks es δ h => hn ks es δ (by rwa [Nat.zero_add] at h)
section
variable {X : Cx} {G : Gx} {K : PySem.W.Frag} {E : Ent}
set_option maxHeartbeats 1000000 in
theorem sim_dc {ti : TI} {wi : WI} {g : TG} {wg : WG} {us vs : List Nat} {tt : TT} {wt : WT} {tk tv : TE} {wk wv : WE} (hi : ∀ E, SimI K G E ti wi) (hg : SimG K G us g wg) (hu : ∀ u ∈ us, u ∈ vs) (ht : ∀ E, SimT K G E tt wt) (hk : ∀ E, SimE K G E tk wk) (he : ∀ E, SimE K G E tv wv) : SimE K G E (tDc ti g tt tk tv vs) (wDc wi wg wt wk wv vs) := fun am M σ δ H S Qd q Q k => by
  have kE := S.ok
  refine hi E am M σ δ H S _ q _ fun J items gh δ1 H1 S1 e1 o1 ok ⟨no, q⟩ => fun p hp => ?_
  have sm := same_new (o := .dK []) hp
  have T0 := S1.more (p := p) hp sm (by rw [upd_same]; simp)
  have T1 := T0.wiped vs
  obtain ⟨pM, pA, pDk, p0, pOwn⟩ := fresh_h0 S1 hp
  refine ⟨fun i m H => m = items.length - i ∧ i ≤ items.length ∧ ∃ (δ : St3) (ks : List Key) (ds : List D) (xs : List V), SR K G (E.add gh) am (p :: M) (wipe σ vs) δ H ∧ H p = some (.dK (ks.zip xs)) ∧ ks.length = xs.length ∧ RepAll K G (mask (p :: M) H) xs ds ∧
      Ext G am δ1 H1 H ∧ (∀ i, isOwn δ i → isOwn δ1 i) ∧ wDcGo wg wt wk wv vs (fun ks es δ2 => Qd (.fr (.dct ks es)) ⟨unwipe δ1.sl δ2.sl vs, δ2.n⟩) (items.drop i) ks ds δ,
    ⟨_, rfl, Nat.zero_le _, _, [], [], [], T1, upd_same, rfl, rfl, Ext.of sm, fun i z => wipe3_own z, q⟩, ?_⟩
  rintro i m H ⟨rfl, hle, δ, ks, ds, xs, S, hx, hl, rx, ex, ox, q⟩
  obtain ⟨j1, j2⟩ := ok _ _ _ _ _ _ S fun p hp => List.mem_append_left _ hp
  by_cases hlt : i < items.length
  · have hd : items[i]? = some items[i] := List.getElem?_eq_getElem hlt
    obtain ⟨g1, g2⟩ := j2 i _ hd
    rw [List.drop_eq_getElem_cons hlt] at q
    refine .inr ⟨g1, fun H' => ∃ (δ : St3) (ks : List Key) (ds : List D) (xs : List V), SR K G (E.add gh) am (p :: M) (wipe σ vs) δ H' ∧ H' p = some (.dK (ks.zip xs)) ∧ ks.length = xs.length ∧ RepAll K G (mask (p :: M) H') xs ds ∧
      Ext G am δ1 H1 H' ∧ (∀ i, isOwn δ i → isOwn δ1 i) ∧ wDcGo wg wt wk wv vs (fun ks es δ2 => Qd (.fr (.dct ks es)) ⟨unwipe δ1.sl δ2.sl vs, δ2.n⟩) (items.drop (i + 1)) ks ds δ, fun H' z => ⟨_, by omega, rfl, hlt, z⟩, fun x H' hy => ?_⟩
    obtain ⟨sm2, rx2⟩ := g2 x H' hy
    have S' := S.grow sm2
    refine hg _ am (p :: M) _ δ H' S' x _ rx2 _ q _ fun σ2 δ2 S2 w2 o2 q => ?_
    have hw : wipe σ2 vs = wipe σ vs := (w2 vs hu).trans wipe_wipe
    refine ⟨hw, ?_⟩
    refine ht _ am (p :: M) σ2 δ2 H' S2 _ q _ fun b δ3 H3 S3 e3 o3 q => ?_
    have own2 : ∀ i, isOwn δ2 i → isOwn δ1 i := fun i z => ox i (o2 i z)
    have own3 : ∀ i, isOwn δ3 i → isOwn δ1 i := fun i z => own2 i (o3 i z)
    have ext3 : Ext G am δ1 H1 H3 := (ex.trans ox (Ext.of (δ := δ) sm2)).trans own2 e3
    have hx3 : H3 p = some (.dK (ks.zip xs)) := e3 p _ (sm2 _ _ hx) pDk fun i hi => pOwn i (own2 i hi)
    have rx3 : RepAll K G (mask (p :: M) H3) xs ds := (rx.mono (mask_mono sm2)).mono (S2.mask e3)
    cases b with
    | false =>
      rw [if_neg Bool.false_ne_true]
      have T := S3.wiped vs
      rw [hw] at T
      exact ⟨_, ks, ds, xs, T, hx3, hl, rx3, ext3, fun i z => own3 i (wipe3_own z), q.2 rfl⟩
    | true =>
      rw [if_pos rfl]
      refine hk _ am (p :: M) σ2 δ3 H3 S3 _ (q.1 rfl) _ fun y ry δ4 H4 S4 e4 o4 v4 q => ?_
      obtain ⟨key, rfl, _, q⟩ := isK_of (v4.k.rb S4) q
      have own4 : ∀ i, isOwn δ4 i → isOwn δ1 i := fun i z => own3 i (o4 i z)
      refine he _ am (p :: M) σ2 δ4 H4 S4 _ q _ fun z rz δ5 H5 S5 e5 o5 v5 ⟨nb, sz, q⟩ => ?_
      have own5 : ∀ i, isOwn δ5 i → isOwn δ1 i := fun i z => own4 i (o5 i z)
      have ext5 : Ext G am δ1 H1 H5 := (ext3.trans own3 e4).trans own4 e5
      have hx5 : H5 p = some (.dK (ks.zip xs)) := e5 p _ (e4 p _ hx3 pDk fun i hi => pOwn i (own3 i hi)) pDk fun i hi => pOwn i (own4 i hi)
      have rx5 : RepAll K G (mask (p :: M) H5) xs ds := (rx3.mono (S3.mask e4)).mono (S4.mask e5)
      refine ⟨_, key, rfl, hx5, by rw [List.length_zip, ← hl, Nat.min_self, line16]; exact sz, ?_⟩
      have T := (S5.put (o := .dK (putK (ks.zip xs) key z)) List.mem_cons_self pDk p0 (fun i z => pOwn i (own5 i z)) (fun a ha z => pM (by rw [← z]; exact (S1.od.isA (S1.isOdA ext5 own5 ha)).1)) (NoCode.of hx5 fun _ => HO.noConfusion)).wiped vs
      rw [hw] at T
      refine ⟨_, dKs ks key, dVs ks ds key rz.d, dVs ks xs key z, T, by rw [upd_same, put_zip hl], dKs_len hl key z, ?_, fun b o hb kb ho => ?_, fun i z => own5 i (wipe3_own z), q⟩
      · rw [mask_upd List.mem_cons_self]
        exact rx5.dput (v5.k.rep nb)
      · have ne : b ≠ p := fun z => by subst z; rw [hp] at hb; cases hb
        rw [upd_ne ne]
        exact ext5 b o hb kb ho
  · have e : i = items.length := by omega
    subst e
    rw [List.drop_length] at q
    refine .inl ⟨j1 _ rfl, ?_⟩
    have smk : Same (mask (p :: M) H1) (mask (p :: M) H) := mask_same fun b o hb h => ex b o h (fun z => hb (List.mem_cons_of_mem _ (S1.ads b (S1.dks b z)))) fun i ⟨d, hi⟩ z => hb (z ▸ List.mem_cons_of_mem _ (S1.ow i d hi).2.1)
    have B : SR K G (E.add gh) am (p :: M) σ ⟨unwipe δ1.sl δ.sl vs, δ.n⟩ H := S1.back S (fun a z => List.mem_cons_of_mem _ z) no smk fun i d hi v hv => by
      obtain ⟨v', a, b⟩ := S1.sh i d hi
      rw [hv] at a
      cases a
      exact b.mono (mask_new hp (Same.refl _))
    have own : ∀ i, isOwn ⟨unwipe δ1.sl δ.sl vs, δ.n⟩ i → isOwn δ1 i := fun i z => ox i (unwipe_own no z)
    have B2 : SR K G (E.add gh) am M σ ⟨unwipe δ1.sl δ.sl vs, δ.n⟩ H := B.less (fun a z => List.mem_cons_of_mem _ z) S1.ads (fun j d h => by
      obtain ⟨d', h'⟩ := own j ⟨d, h⟩
      exact (S1.ow j d' h').2.1) fun a ha => (S1.od.isA (S1.isOdA ex own ha)).1
    exact k (.ref p) (.fr (.dct ks ds)) _ H (B2.drop kE) (e1.trans o1 ex) (fun i z => o1 i (own i z)) ⟨p, rfl, pM, p0, ⟨xs, hx, hl, rx⟩, B.drop kE⟩ q
variable {elt vx tg iter : Expr} {ifs : List Expr} {scope : Scope} {own : List (Str × Nat)} {pos : Pos} {ti : TI} {wi : WI} {g : TG} {wg : WG} {us : List Nat} {tt : TT} {wt : WT} {tk te : TE} {wk we : WE}
theorem de_dc (hc : X.calm = true) (hN : X.N.Nodup) (hi : DI X G tg iter ti wi) (ok : BlkOk X.N X.env.scope scope own)
    (hg : ∀ (s : Shared) (H : Hp) (C : Addr) (cl : List (Str × Addr)) (fp : List Addr), DG (X.blk s H scope (compEnvC scope cl C X.env) fp) G tg us g wg) (ht : ∀ (s : Shared) (H : Hp) (C : Addr) (cl : List (Str × Addr)) (fp : List Addr), DTs (X.blk s H scope (compEnvC scope cl C X.env) fp) G ifs tt wt)
    (hk : ∀ (s : Shared) (H : Hp) (C : Addr) (cl : List (Str × Addr)) (fp : List Addr), DE (X.blk s H scope (compEnvC scope cl C X.env) fp) G elt tk wk)
    (he : ∀ (s : Shared) (H : Hp) (C : Addr) (cl : List (Str × Addr)) (fp : List Addr), DE (X.blk s H scope (compEnvC scope cl C X.env) fp) G vx te we) (hu : ∀ u ∈ us, u ∈ own.map (·.2)) (hs : ∀ x, foldedSetIterable iter X.env x = pure x := by intro _; rfl) :
    DE X G (.DictComp elt vx [⟨tg, iter, ifs, 0⟩] scope pos) (tDc ti g tt tk te (own.map (·.2))) (wDc wi wg wt wk we (own.map (·.2))) :=
  ⟨pe_dc hc hN hi.pi ok (fun s H C cl fp => (hg s H C cl fp).pg) (fun s H C cl fp => (ht s H C cl fp).pt) (fun s H C cl fp => (hk s H C cl fp).pe) (fun s H C cl fp => (he s H C cl fp).pe) hs,
    fun E => sim_dc hi.sim (hg X.s_0 (fun _ => none) 0 [] []).sim hu (ht X.s_0 (fun _ => none) 0 [] []).sim (hk X.s_0 (fun _ => none) 0 [] []).sim (he X.s_0 (fun _ => none) 0 [] []).sim⟩
end
end L3
namespace L3
open PySem PySem.Spec PyProof.Rows L2
section
variable {P : Program} {w : World} {K : Type} [DecidableEq K] {knd : KeyKind P w K}
theorem pairs_find {k : K} : ∀ {es : List DictEntry} {kvs : List (K × Value)}, Pairs knd es kvs → (es.findIdx? fun e => knd.is k e.key) = (kvs.findIdx? fun kv => decide (kv.1 = k)) := by
  intro es kvs p
  induction p with
  | nil => rfl
  | @cons e kv es kvs h1 h2 h3 ih =>
    rw [List.findIdx?_cons, List.findIdx?_cons, ih]
    have : knd.is k e.key = decide (kv.1 = k) := by
      by_cases q : kv.1 = k
      · rw [decide_eq_true q, ← q]; exact h1
      · rw [decide_eq_false q]
        cases z : knd.is k e.key with
        | false => rfl
        | true => exact (q (knd.inj _ _ _ h1 z)).elim
    rw [this]
theorem pairs_put {k : K} {v : Value} : ∀ {es : List DictEntry} {kvs : List (K × Value)}, Pairs knd es kvs → (kvs.map (·.1)).Nodup → ∀ i, (kvs.findIdx? fun kv => decide (kv.1 = k)) = some i →
    Pairs knd (es.modify i fun e => { hash := e.hash, key := e.key, val := v }) (kvs.map fun kv => if kv.1 = k then (kv.1, v) else kv) := by
  intro es kvs p
  induction p with
  | nil => intro _ i h; simp at h
  | @cons e kv es kvs h1 h2 h3 ih =>
    intro nd i h
    rw [List.map_cons, List.nodup_cons] at nd
    rw [List.findIdx?_cons] at h
    by_cases q : kv.1 = k
    · rw [decide_eq_true q, if_pos rfl] at h
      cases h
      rw [List.map_cons, if_pos q]
      refine .cons (by exact h1) rfl ?_
      have : (kvs.map fun kv => if kv.1 = k then (kv.1, v) else kv) = kvs := by
        conv => rhs; rw [← List.map_id kvs]
        refine List.map_congr_left fun x hx => ?_
        rw [if_neg fun z => nd.1 (by rw [q, ← z]; exact List.mem_map.mpr ⟨x, hx, rfl⟩)]; rfl
      rw [this]; exact h3
    · rw [decide_eq_false q, if_neg (by simp)] at h
      obtain ⟨j, hj, rfl⟩ := Option.map_eq_some_iff.mp h
      rw [List.map_cons, if_neg q]
      exact .cons h1 h2 (ih nd.2 j hj)
theorem pairs_app {k : K} {key v : Value} {hsh : Int} (hk : knd.is k key = true) : ∀ {es : List DictEntry} {kvs : List (K × Value)}, Pairs knd es kvs → Pairs knd (es ++ [{ hash := hsh, key := key, val := v }]) (kvs ++ [(k, v)]) := by
  intro es kvs p
  induction p with
  | nil => exact .cons hk rfl .nil
  | cons h1 h2 _ ih => exact .cons h1 h2 ih
end
section
variable {P : Program} {w : World} {K : Type} [DecidableEq K] {knd : KeyKind P w K} {A : Around} {E : Value → Shared → Prop} {s : Shared}
theorem wpAny_dictPut_pairs {d : Addr} {kvs : List (K × Value)} {k : K} {key v : Value} {Q : Unit → Shared → Prop} (hk : knd.is k key = true) (hd : Heap.DictOf knd s.heap d kvs) (hl : kvs.length ≤ sizeLine)
    (h : ∀ h' : Heap, Heap.DictOf knd h' d (stored kvs k v) → Heap.SameBut d s.heap h' → Q () { s with heap := h' }) : wpAny (model P w) A (dictPut d (knd.hash k) key v) Q E s := by
  obtain ⟨o, es, ep, ho, ex, hdt, hkeys, hp, nd⟩ := hd
  have hlen : es.size = kvs.length := by rw [← Array.length_toList]; exact hp.length
  unfold dictPut
  refine wpAny_bind (wpAny_dictFind_of hk ho hdt hkeys ?_)
  have e1 : Array.findIdx? (fun e => knd.is k e.key) es = kvs.findIdx? fun kv => decide (kv.1 = k) := by
    rw [← pairs_find hp]
    cases es with
    | mk l => simp
  rw [e1]
  obtain ⟨c, dd, dt, sl⟩ := o
  obtain ⟨x1, x2, x3⟩ := ex
  simp only at x1 x2 x3 hdt
  subst x1 x2 x3 hdt
  cases hf : kvs.findIdx? fun kv => decide (kv.1 = k) with
  | some i =>
    refine wpAny_updateDict (ep := ep) ho rfl (h _ ⟨_, _, ep, Heap.get?_update_self _ ho rfl, ⟨rfl, rfl, rfl⟩, rfl, ?_, ?_, ?_⟩ (Heap.SameBut.update _ _ _)) (by simp)
    · intro e he
      have he := Array.mem_toList_iff.mpr he
      rw [Array.toList_modify] at he
      obtain ⟨j, hj, rfl⟩ := List.getElem_of_mem he
      rw [List.getElem_modify]
      rw [List.length_modify] at hj
      have := hkeys es.toList[j] (by rw [← Array.mem_toList_iff]; exact List.getElem_mem hj)
      split <;> exact this
    · rw [Array.toList_modify]
      have : stored kvs k v = kvs.map fun kv => if kv.1 = k then (kv.1, v) else kv := by
        unfold stored
        rw [if_pos]
        rw [List.any_eq_true]
        obtain ⟨hi, q, _⟩ := List.findIdx?_eq_some_iff_getElem.mp hf
        exact ⟨_, List.getElem_mem hi, q⟩
      rw [this]
      exact pairs_put hp nd i hf
    · have : (stored kvs k v).map (·.1) = kvs.map (·.1) := by
        unfold stored
        rw [if_pos]
        · rw [List.map_map]
          refine List.map_congr_left fun x _ => ?_
          show (if x.1 = k then (x.1, v) else x).1 = x.1
          split <;> rfl
        · rw [List.any_eq_true]
          obtain ⟨hi, q, _⟩ := List.findIdx?_eq_some_iff_getElem.mp hf
          exact ⟨_, List.getElem_mem hi, q⟩
      rw [this]; exact nd
  | none =>
    have hno : ∀ kv ∈ kvs, ¬ kv.1 = k := fun kv hkv z => by
      have := List.findIdx?_eq_none_iff.mp hf kv hkv
      rw [decide_eq_true z] at this
      cases this
    have hst : stored kvs k v = kvs ++ [(k, v)] := by
      unfold stored
      rw [if_neg]
      rw [List.any_eq_true]
      rintro ⟨kv, h1, h2⟩
      exact hno kv h1 (of_decide_eq_true h2)
    refine wpAny_updateDictKeys (ep := ep) ho rfl (h _ ⟨_, _, ep + 1, Heap.get?_update_self _ ho rfl, ⟨rfl, rfl, rfl⟩, rfl, ?_, ?_, ?_⟩ (Heap.SameBut.update _ _ _)) (by rw [hlen]; exact hl) (by simp)
    · intro e he
      rcases Array.mem_push.mp he with z | z
      · exact hkeys e z
      · subst z; exact ⟨k, hk, rfl⟩
    · rw [Array.toList_push, hst]
      exact pairs_app hk hp
    · rw [hst, List.map_append, List.nodup_append]
      refine ⟨nd, by simp, fun a ha b hb => ?_⟩
      obtain ⟨kv, hkv, rfl⟩ := List.mem_map.mp ha
      have hb : b = k := by simpa using hb
      rw [hb]; exact hno kv hkv
end
section
variable {P : Program} {w : World} {K : Type} [DecidableEq K] {knd : KeyKind P w K} {A : Around} {E : Value → Shared → Prop} {s : Shared}
theorem merged_snoc (kvs more : List (K × Value)) (k : K) (v : Value) : merged kvs (more ++ [(k, v)]) = stored (merged kvs more) k v := by
  unfold merged; rw [List.foldl_append]; rfl
theorem stored_len (kvs : List (K × Value)) (k : K) (v : Value) : (stored kvs k v).length ≤ kvs.length + 1 := by
  unfold stored; split <;> simp
theorem merged_len (kvs : List (K × Value)) : ∀ more : List (K × Value), (merged kvs more).length ≤ kvs.length + more.length := by
  intro more
  unfold merged
  induction more generalizing kvs with
  | nil => simp
  | cons x more ih =>
    rw [List.foldl_cons]
    have a := ih (stored kvs x.1 x.2)
    have b := stored_len kvs x.1 x.2
    simp only [List.length_cons]
    omega
theorem pairs_get : ∀ {es : List DictEntry} {kvs : List (K × Value)} {i : Nat} {e : DictEntry}, Pairs knd es kvs → es[i]? = some e → ∃ kv, kvs[i]? = some kv ∧ knd.is kv.1 e.key = true ∧ e.val = kv.2 := by
  intro es kvs i e p
  induction p generalizing i with
  | nil => intro h; simp at h
  | cons h1 h2 _ ih =>
    intro h
    cases i with
    | zero =>
      rw [List.getElem?_cons_zero] at h
      cases h
      exact ⟨_, rfl, h1, h2⟩
    | succ i =>
      rw [List.getElem?_cons_succ] at h
      obtain ⟨kv, a, b⟩ := ih h
      exact ⟨kv, by rw [List.getElem?_cons_succ]; exact a, b⟩
theorem wpAny_mergeMapping {d a : Addr} {kvs more : List (K × Value)} {Q : Unit → Shared → Prop} (da : d ≠ a) (ns : (a == sysModules) = false) (hd : Heap.DictOf knd s.heap d kvs) (ha : Heap.DictOf knd s.heap a more) (hl : kvs.length + more.length ≤ sizeLine)
    (h : ∀ h' : Heap, Heap.DictOf knd h' d (merged kvs more) → Heap.SameBut d s.heap h' → Q () { s with heap := h' }) : wpAny (model P w) A (mergeMapping d (.ref a) false) Q E s := by
  obtain ⟨o, es, ep, ho, ex, hdt, hkeys, hp, nd⟩ := id ha
  obtain ⟨o2, es2, ep2, ho2, ex2, hdt2, hkeys2, hp2, nd2⟩ := id hd
  have hlen : es.size = more.length := by rw [← Array.length_toList]; exact hp.length
  unfold mergeMapping
  refine wpAny_bind (wpAny_isInstance (T := "dict") (b := true) ⟨o, ho, ex.1⟩ F.sub_dict_dict ?_)
  show wpAny _ _ (specialOf (.ref a) (Str.ofString "__iter__") >>= _) _ _ _
  refine wpAny_bind (wpAny_specialOf ⟨o, ho, ex.1⟩ F.slot_dict_iter.lookup ?_)
  refine wpAny_bind (wpAny_pure ?_)
  have e1 : (some (Value.builtin "dict.__iter__") == some (Value.builtin "dict.__iter__")) = true := by decide
  rw [e1]
  simp only [ns, Bool.false_eq_true, if_false]
  refine wpAny_bind (wpAny_dictEntries ho2 hdt2 ?_)
  have go : wpAny (model P w) A (do
            let __do_lift ← dictEntries a
            let epoch ← dictEpoch a
            forIn (List.range __do_lift.size) PUnit.unit fun i __s => do
                let __do_lift ← dictEntries a
                match __do_lift[i]? with
                  | some e => do
                    holding [e.key, e.val] (dictPut d e.hash e.key e.val)
                    let __do_lift ← dictEpoch a
                    if (__do_lift != epoch) = true then do
                        unsupported "dict.changed-during-merge"
                        pure (ForInStep.yield PUnit.unit)
                      else pure (ForInStep.yield PUnit.unit)
                  | x => do
                    unsupported "dict.changed-during-merge"
                    pure (ForInStep.yield PUnit.unit)
            pure ()) Q E s := by
    refine wpAny_bind (wpAny_dictEntries ho hdt ?_)
    refine wpAny_bind (wpAny_dictEpoch ho hdt ?_)
    refine wpAny_bind (wpAny_forIn_list _ (fun rest _ s' => ∃ (n : Nat) (h' : Heap), rest = (List.range es.size).drop n ∧ n ≤ es.size ∧ s' = { s with heap := h' } ∧ Heap.DictOf knd h' d (merged kvs (more.take n)) ∧ Heap.SameBut d s.heap h') _ ?_ ?_ _ _ ?_)
    · rintro i rest b s' ⟨n, h', er, hn, rfl, hd', sb⟩
      have hn' : n < es.size := by
        rcases Nat.lt_or_ge n es.size with z | z
        · exact z
        · rw [List.drop_of_length_le (by simpa using z)] at er; cases er
      rw [List.drop_eq_getElem_cons (by simpa using hn')] at er
      injection er with er1 er2
      rw [List.getElem_range] at er1
      subst er1
      have ho' : h'.get? a = some o := by rw [sb.2 a da.symm]; exact ho
      refine wpAny_bind (wpAny_dictEntries (s := { s with heap := h' }) ho' hdt ?_)
      have hi : es[i]? = some es[i] := Array.getElem?_eq_getElem hn'
      rw [hi]
      have hi2 : es.toList[i]? = some es[i] := by rw [Array.getElem?_toList]; exact hi
      obtain ⟨kv, k1, k2, k3⟩ := pairs_get hp hi2
      have kh : es[i].hash = knd.hash kv.1 := by
        obtain ⟨k', q1, q2⟩ := hkeys es[i] (Array.getElem_mem hn')
        rw [q2, knd.inj _ _ _ q1 k2]
      have ml := merged_len kvs (more.take i)
      have lt : (more.take i).length ≤ more.length := by rw [List.length_take]; omega
      refine wpAny_bind (wpAny_holding ?_)
      rw [kh]
      refine wpAny_dictPut_pairs (s := { s with heap := h' }) k2 hd' (by omega) fun h2 hd2 sb2 => ?_
      have ho2' : h2.get? a = some o := by rw [sb2.2 a da.symm]; exact ho'
      refine wpAny_bind (wpAny_dictEpoch (s := { s with heap := h2 }) ho2' hdt ?_)
      have e2 : (ep != ep) = false := by simp
      rw [e2]
      simp only [Bool.false_eq_true, if_false]
      refine wpAny_pure ⟨i + 1, h2, er2, hn', rfl, ?_, ?_⟩
      · rw [List.take_add_one, k1]
        show Heap.DictOf knd h2 d (merged kvs (more.take i ++ [(kv.1, kv.2)]))
        rw [merged_snoc, ← k3]
        exact hd2
      · exact ⟨sb2.1.trans sb.1, fun b hb => (sb2.2 b hb).trans (sb.2 b hb)⟩
    · rintro b s' ⟨n, h', er, hn, rfl, hd', sb⟩
      have : es.size ≤ n := by
        rcases Nat.lt_or_ge n es.size with z | z
        · rw [List.drop_eq_getElem_cons (by simpa using z)] at er; cases er
        · exact z
      rw [List.take_of_length_le (by omega)] at hd'
      exact wpAny_pure (h h' hd' sb)
    · exact ⟨0, s.heap, by simp, Nat.zero_le _, rfl, by simpa [merged] using hd, rfl, fun _ _ => rfl⟩
  split
  · refine wpAny_bind (wpAny_dictEntries ho hdt ?_)
    refine wpAny_bind (wpAny_forIn_array' _ (fun rest _ s' => s' = s ∧ ∀ e ∈ rest, e ∈ es) _ ?_ ?_ _ _ ⟨rfl, fun e he => by simpa using he⟩)
    · rintro e rest b s' ⟨rfl, he⟩
      obtain ⟨k', q1, q2⟩ := hkeys e (he e List.mem_cons_self)
      have cv := knd.byValue _ _ q1
      have nx : ∀ e' ∈ rest, e' ∈ es := fun e' h' => he e' (List.mem_cons_of_mem _ h')
      cases hk : e.key with
      | ref _ => rw [hk] at cv; cases cv
      | _ => exact wpAny_pure ⟨rfl, nx⟩
    · rintro b s' ⟨rfl, _⟩
      exact go
  · exact go
end
section
open L2
theorem merged_nil {K : Type} [DecidableEq K] : ∀ {more : List (K × Value)}, (more.map (·.1)).Nodup → ∀ acc : List (K × Value), (∀ x ∈ more, ∀ y ∈ acc, y.1 ≠ x.1) → merged acc more = acc ++ more
  | [], _, acc, _ => by simp [merged]
  | x :: more, nd, acc, h => by
    rw [List.map_cons, List.nodup_cons] at nd
    have e : stored acc x.1 x.2 = acc ++ [x] := by
      unfold stored
      rw [if_neg]
      rw [List.any_eq_true]
      rintro ⟨y, h1, h2⟩
      exact h x List.mem_cons_self y h1 (of_decide_eq_true h2)
    have := merged_nil (more := more) nd.2 (acc ++ [x]) fun z hz y hy => by
      rcases List.mem_append.mp hy with q | q
      · exact h z (List.mem_cons_of_mem _ hz) y q
      · rw [List.mem_singleton.mp q]
        exact fun w => nd.1 (by rw [w]; exact List.mem_map.mpr ⟨z, hz, rfl⟩)
    unfold merged at this ⊢
    rw [List.foldl_cons, e, this]
    simp
theorem wpAny_forIn_two {M : Model} {A : Around} {E : Value → Shared → Prop} {s : Shared} {α β : Type} {f : α → β → Sem (ForInStep β)} {a b : α} {b0 : β} {Q : β → Shared → Prop}
    (h : wpAny M A (f a b0) (fun r s => match r with | .done c => Q c s | .yield c => wpAny M A (f b c) (fun r s => match r with | .done c => Q c s | .yield c => Q c s) E s) E s) : wpAny M A (forIn [a, b] b0 f) Q E s := by
  rw [List.forIn_cons]
  refine wpAny_bind (wpAny_mono h (fun r s1 h1 => ?_) fun _ _ z => z)
  cases r with
  | done c => exact wpAny_pure h1
  | yield c =>
    show wpAny _ _ (forIn [b] c f) _ _ _
    rw [List.forIn_cons]
    refine wpAny_bind (wpAny_mono h1 (fun r s2 h2 => ?_) fun _ _ z => z)
    cases r with
    | done c => exact wpAny_pure h2
    | yield c => exact wpAny_pure h2
variable {X : Cx} {kx de ve : Expr} {pos : Pos} {td tk tv : TE}
def tDst (td tk tv : TE) : TE := fun σ H Q => ∀ p, H p = none → td σ (upd H p (.dK [])) fun x H1 => ∃ a kvs, x = V.ref a ∧ Rd H1 a (.dK kvs) ∧ a ≠ p ∧ H1 p = some (.dK []) ∧ kvs.length + 1 < sizeLine ∧
  ∀ q, upd H1 p (.dK kvs) q = none → tPairs [(tk, tv)] σ (upd (upd H1 p (.dK kvs)) q (.dK [])) fun ps H2 => H2 p = some (.dK kvs) ∧ H2 q = some (.dK []) ∧ ∃ k z, ps = [(kV k, z)] ∧ Q (.ref p) (upd (upd H2 q (.dK [(k, z)])) p (.dK (putK kvs k z)))
theorem pe_dst (hd : PE X de td) (hp : PPs X pos [some kx] [ve] [(tk, tv)]) : PE X (.Dict [none, some kx] [de, ve] pos) (tDst td tk tv) := by
  refine ⟨fun pins s σ H Q I h => ?_⟩
  rw [arm_eval_Dict]
  refine wpAny_bind (wpAny_standAt ?_)
  show wpAny _ _ (dictDisplay [(none, do let x ← eval de X.env; standAt pos; pure x), (some (eval kx X.env), do let x ← eval ve X.env; standAt pos; pure x)]) _ _ _
  unfold dictDisplay
  show wpAny _ _ (forIn _ _ _ >>= _) _ _ _
  refine wpAny_bind (wpAny_forIn_two ?_)
  refine wpAny_bind (wpAny_pure ?_)
  refine wpAny_bind (wpAny_alloc ?_)
  generalize hp0 : s.heap.objs.size = p
  have hpn : H p = none := HOk.fresh I.hok (Nat.le_of_eq hp0)
  have I1 : L2.Inv X pins σ (upd H p (.dK [])) { s with heap := s.heap.push { cls := Value.type "dict", data := Data.dict #[] } } := by
    subst hp0
    exact I.laid (t' := s.toks) (fun b u hb => Heap.get?_push_of_some _ hb) (Nat.le_refl _) (dk_empty s.heap I.big)
  refine wpAny_bind (wpAny_holding ?_)
  refine wpAny_bind (wpAny_mono (hd.run pins _ σ _ _ I1 (h p hpn)) (fun m s1 ⟨x, H1, I2, rx, a, kvs, ex, ha, ap, hpd, hl, h⟩ => ?_) fun _ _ z => z)
  refine wpAny_bind (wpAny_standAt (wpAny_pure ?_))
  subst ex
  have rx : m = .ref a := rx
  subst rx
  obtain ⟨l1, l2, vs, kv, da⟩ := dk_rd I2.hok ha
  obtain ⟨l3, l4, vs0, kv0, dp⟩ := I2.hok p _ hpd
  have e0 : vs0 = [] := by cases kv0; rfl
  subst e0
  refine wpAny_bind (wpAny_onRaise (wpAny_tryCatch (wpAny_onRaise (wpAny_holding (wpAny_mergeMapping ap.symm l2 dp da ?_ fun h' dh sb => ?_)))))
  · have := kv.length
    show 0 + vs.length ≤ sizeLine
    omega
  have em : merged [] vs = vs := by
    obtain ⟨o1, es1, ep1, _, _, _, _, _, nd1⟩ := da
    rw [merged_nil nd1 [] fun _ _ _ hy => by cases hy]; rfl
  rw [em] at dh
  have I3 : L2.Inv X pins σ (upd H1 p (.dK kvs)) { s1 with heap := h' } :=
    I2.write (x := p) (e := p) (t' := s1.toks) (by rw [hpd]; trivial) (.inl rfl) (fun b u hb hu => (sb.2 b hb).trans hu) (by obtain ⟨o1, _, _, h1, _⟩ := dh; exact ⟨o1, h1⟩) ⟨l1, l4, vs, kv, dh⟩
  refine wpAny_pure ?_
  show wpAny _ _ (pure (ForInStep.yield (some p, [(eval kx X.env, do let x ← eval ve X.env; standAt pos; pure x)]))) _ _ _
  refine wpAny_pure ?_
  generalize hq0 : h'.objs.size = q
  have hqn : upd H1 p (.dK kvs) q = none := HOk.fresh I3.hok (Nat.le_of_eq hq0)
  have I4 : L2.Inv X pins σ (upd (upd H1 p (.dK kvs)) q (.dK [])) { s1 with heap := h'.push { cls := Value.type "dict", data := Data.dict #[] } } := by
    subst hq0
    exact I3.laid (t' := s1.toks) (fun b u hb => Heap.get?_push_of_some _ hb) (Nat.le_refl _) (dk_empty h' I3.big)
  refine wpAny_bind (wpAny_bind (wpAny_holding (wpAny_subDict (knd := mixKind X.prog X.w) (by show 1 ≤ 15; omega) (wpAny_mono (hp.run pins _ σ _ _ I4 (h q hqn)) (fun us s2 ⟨ps, H2, I5, vv, hp2, hq2, k, z, eps, hQ⟩ => ?_) fun _ _ z => z))))
  subst eps
  obtain ⟨uk, uz, eus, r1, r2⟩ : ∃ uk uz, us = [(uk, uz)] ∧ L2.RelV (kV k) uk ∧ L2.RelV z uz := by
    cases vv with
    | cons a b => cases b; exact ⟨_, _, rfl, a.1, a.2⟩
  subst eus
  have kis : (mixKind X.prog X.w).is k uk = true := by
    cases k with
    | inl i => obtain ⟨t, rfl⟩ := r1; simp [mixKind, keyIs, Value.isInt]
    | inr i => obtain ⟨t, rfl⟩ := r1; simp [mixKind, keyIs, Value.isStrOf]
  obtain ⟨m1, m2, us0, kv1, dq⟩ := I5.hok q _ hq2
  have e1 : us0 = [] := by cases kv1; rfl
  subst e1
  obtain ⟨n1, n2, vs2, kv2, dp2⟩ := I5.hok p _ hp2
  have pq : p ≠ q := fun w => by
    rw [w, upd_same] at hqn; cases hqn
  refine ⟨[(k, uz)], ⟨kis, rfl, trivial⟩, by rw [hq0]; exact dq, fun h2 dh2 sb2 => ?_⟩
  rw [hq0] at dh2 sb2
  have dq2 : Heap.DictOf (mixKind X.prog X.w) h2 q [(k, uz)] := dh2
  have I6 : L2.Inv X pins σ (upd H2 q (.dK [(k, z)])) { s2 with heap := h2, toks := s2.toks + 1 } :=
    I5.write (x := q) (e := q) (t' := s2.toks + 1) (by rw [hq2]; trivial) (.inl rfl) (fun b u hb hu => (sb2.2 b hb).trans hu) (by obtain ⟨o1, _, _, h1, _⟩ := dq2; exact ⟨o1, h1⟩) ⟨by show 1 ≤ sizeLine; decide, m2, [(k, uz)], .cons ⟨rfl, r2⟩ .nil, dq2⟩
  have dp3 : Heap.DictOf (mixKind X.prog X.w) h2 p vs2 := by
    obtain ⟨o1, es1, ep1, q1, q2, q3, q4, q5, q6⟩ := dp2
    exact ⟨o1, es1, ep1, (sb2.2 p pq).trans q1, q2, q3, q4, q5, q6⟩
  rw [hq0]
  refine wpAny_bind (wpAny_onRaise (wpAny_holding (wpAny_mergeMapping pq m2 dp3 dq2 ?_ fun h3 dh3 sb3 => ?_)))
  · have := kv2.length
    show vs2.length + 1 ≤ sizeLine
    omega
  refine wpAny_pure ?_
  refine wpAny_pure ?_
  have hp3 : upd H2 q (.dK [(k, z)]) p = some (.dK kvs) := by rw [upd_ne pq]; exact hp2
  have kvp := kv2.put k r2
  have I7 : L2.Inv X pins σ (upd (upd H2 q (.dK [(k, z)])) p (.dK (putK kvs k z))) { s2 with heap := h3, toks := s2.toks + 1 } :=
    I6.write (x := p) (e := p) (t' := s2.toks + 1) (by rw [hp3]; trivial) (.inl rfl) (fun b u hb hu => (sb3.2 b hb).trans hu) (by obtain ⟨o1, _, _, h1, _⟩ := dh3; exact ⟨o1, h1⟩) ⟨by
      have a := kvp.length
      have b := stored_len vs2 k uz
      have c := kv2.length
      omega, n2, _, kvp, dh3⟩
  exact ⟨.ref p, _, I7, rfl, hQ⟩
end
section
variable {X : Cx} {G : Gx} {kx de ve : Expr} {pos : Pos} {td tk tv : TE} {wd wk wv : WE}
@[simp] def wDst (wd wk wv : WE) : WE := fun δ Q => wd δ fun s δ1 => isDct s.d fun ks ds => ks.length + 2 < 16777216 ∧ wk δ1 fun s δ2 => isK s.d fun k => wv δ2 fun v δ3 => ¬ v.bor ∧ Q (.fr (.dct (dKs ks k) (dVs ks ds k v.d))) δ3
theorem isDct_of {d : D} {Q : List Key → List D → Prop} (h : isDct d Q) : ∃ ks ds, d = .dct ks ds ∧ Q ks ds := by
  cases d <;> first | exact ⟨_, _, rfl, h⟩ | exact h.elim
theorem sim_dst {E : Ent} (hd : SimE X.K G E td wd) (hp : DP X G pos [some kx] [ve] [(tk, tv)] [(wk, wv)]) : SimE X.K G E (tDst td tk tv) (wDst wd wk wv) := fun am M σ δ H S Qd w Q k p hpn => by
  have sm := same_new (o := .dK []) hpn
  obtain ⟨pM, pA, pd, p0, pO⟩ := fresh_h0 S hpn
  have T := S.more (p := p) hpn sm (by rw [upd_same]; simp)
  refine hd am (p :: M) σ δ _ T _ w _ fun x r δ1 H1 S1 e1 o1 rv q => ?_
  obtain ⟨ks, ds, rd, hl, q⟩ := isDct_of q
  have h1 : H1 p = some (.dK []) := e1 p _ upd_same pd fun i hi => pO i hi
  obtain ⟨a, xs, rfl, ha, hxs, rep, ap⟩ : ∃ a xs, x = .ref a ∧ Rd H1 a (.dK (ks.zip xs)) ∧ ks.length = xs.length ∧ RepAll X.K G (mask (p :: M) H1) xs ds ∧ a ≠ p := by
    have ke := rv.k
    cases r with
    | bo d =>
      have rd : d = .dct ks ds := rd
      subst rd
      rcases ke with ⟨i, g1, rfl⟩ | ⟨i, j, ks', ss, xs, es, g1, g2, g3, g4, g5, g6⟩
      · obtain ⟨ys, g2, g3, g4⟩ := (S1.ow i _ g1).2.2.2.2
        exact ⟨_, ys, rfl, .inl g2, g3, g4, pO i (o1 i ⟨_, g1⟩)⟩
      · cases g6
    | sh d =>
      have rd : d = .dct ks ds := rd
      subst rd
      obtain ⟨a, ys, rfl, g2, g3, g4⟩ := ke
      have am : a ∉ p :: M := rd_out g2
      exact ⟨a, ys, rfl, rd_same mask_le g2, g3, g4, fun z => am (z ▸ List.mem_cons_self)⟩
    | fr d =>
      have rd : d = .dct ks ds := rd
      subst rd
      obtain ⟨a, ys, rfl, g2, g3, g4⟩ := ke
      have am : a ∉ p :: M := rd_out g2
      exact ⟨a, ys, rfl, rd_same mask_le g2, g3, g4, fun z => am (z ▸ List.mem_cons_self)⟩
  refine ⟨a, ks.zip xs, rfl, ha, ap, h1, ?_, fun q' hq' => ?_⟩
  · rw [List.length_zip, ← hxs, Nat.min_self]
    show ks.length + 1 < 16777216
    omega
  have e1' : Ext G am δ H H1 := fun b u hb kb ho => e1 b u (sm b u hb) kb ho
  have dM : ∀ a, isOdA am δ1 H1 a → a ∈ M := fun a z => (S.od.isA (S.isOdA e1' o1 z)).1
  have S2 := S1.put (o := .dK (ks.zip xs)) List.mem_cons_self pd p0 (fun i z => pO i (o1 i z)) (fun a z y => pM (y ▸ dM a z)) (NoCode.of h1 fun _ => HO.noConfusion)
  have sm2 := same_new (o := .dK []) hq'
  obtain ⟨qM, qA, qd, q0, qO⟩ := fresh_h0 S2 hq'
  have S3 := S2.more (p := q') hq' sm2 (by rw [upd_same]; simp)
  refine hp.sim E am (q' :: p :: M) σ δ1 _ S3 (fun ks' ds' δ' => match ks', ds' with | [k'], [d'] => Qd (.fr (.dct (dKs ks k') (dVs ks ds k' d'))) δ' | _, _ => False) q _ fun ks' xs' ds' δ2 H2 S4 e2 o2 hl2 r2 q => ?_
  obtain ⟨key, d, z, rfl, rfl, rfl, rz, q⟩ : ∃ key d z, ks' = [key] ∧ ds' = [d] ∧ xs' = [z] ∧ Rep X.K G (mask (q' :: p :: M) H2) z d ∧ Qd (.fr (.dct (dKs ks key) (dVs ks ds key d))) δ2 := by
    match ks', ds', q with
    | [k'], [d'], q =>
      obtain ⟨z, zs, rfl, rz, rn⟩ := r2
      have rn : zs = [] := rn
      subst rn
      exact ⟨_, _, _, rfl, rfl, rfl, rz, q⟩
  have pq : p ≠ q' := fun z => by rw [← z, upd_same] at hq'; cases hq'
  have g1 : H2 p = some (.dK (ks.zip xs)) := by
    have : upd (upd H1 p (.dK (ks.zip xs))) q' (.dK []) p = some (.dK (ks.zip xs)) := by rw [upd_ne pq]; exact upd_same
    exact e2 p _ this pd fun i hi => pO i (o1 i hi)
  have g2 : H2 q' = some (.dK []) := e2 q' _ upd_same qd fun i hi => qO i hi
  refine ⟨g1, g2, key, z, rfl, ?_⟩
  have eF : Ext G am δ H (upd H2 q' (.dK [(key, z)])) := fun b u hb kb ho => by
    have b1 : b ≠ p := fun z => by rw [z, hpn] at hb; cases hb
    have c1 : upd H1 p (.dK (ks.zip xs)) b = some u := by rw [upd_ne b1]; exact e1' b u hb kb ho
    have b2 : b ≠ q' := fun z => by rw [z, hq'] at c1; cases c1
    rw [upd_ne b2]
    exact e2 b u (sm2 b u c1) kb fun i hi => ho i (o1 i hi)
  have oF : ∀ i, isOwn δ2 i → isOwn δ i := fun i z => o1 i (o2 i z)
  have dM2 : ∀ a, isOdA am δ2 H2 a → a ∈ p :: M := fun a w => by
    have eA : Ext G am δ1 (upd H1 p (.dK (ks.zip xs))) H2 := fun b u hb kb ho => e2 b u (sm2 b u hb) kb ho
    exact (S2.od.isA (S2.isOdA eA o2 w)).1
  have S5 := S4.put (o := .dK [(key, z)]) List.mem_cons_self qd q0 (fun i w => qO i (o2 i w)) (fun a w y => qM (y ▸ dM2 a w)) (NoCode.of g2 fun _ => HO.noConfusion)
  have S6 := S5.put (o := .dK (putK (ks.zip xs) key z)) (List.mem_cons_of_mem _ List.mem_cons_self) pd p0 (fun i w => pO i (oF i w)) (fun a w y => pM (y ▸ (S.od.isA (S.isOdA eF oF w)).1)) (NoCode.of (show upd H2 q' (.dK [(key, z)]) p = some (.dK (ks.zip xs)) by rw [upd_ne pq]; exact g1) fun _ => HO.noConfusion)
  have eG : Ext G am δ H (upd (upd H2 q' (.dK [(key, z)])) p (.dK (putK (ks.zip xs) key z))) := fun b u hb kb ho => by
    have b1 : b ≠ p := fun z => by rw [z, hpn] at hb; cases hb
    rw [upd_ne b1]
    exact eF b u hb kb ho
  have aM : ∀ a, isOdA am δ2 (upd (upd H2 q' (.dK [(key, z)])) p (.dK (putK (ks.zip xs) key z))) a → a ∈ M := fun a w => (S.od.isA (S.isOdA eG oF w)).1
  have S7 := S6.less (M' := p :: M) (fun a w => List.mem_cons_of_mem _ w) (fun a w => List.mem_cons_of_mem _ (S.ads a w)) (fun j d h => by
    obtain ⟨d', h'⟩ := oF (Kx.ow j) ⟨d, h⟩
    exact List.mem_cons_of_mem _ (S.ow j d' h').2.1) fun a w => List.mem_cons_of_mem _ (aM a w)
  have S8 := S7.less (M' := M) (fun a w => List.mem_cons_of_mem _ w) S.ads (fun j d h => by
    obtain ⟨d', h'⟩ := oF (Kx.ow j) ⟨d, h⟩
    exact (S.ow j d' h').2.1) aM
  have mm : Same (mask (q' :: p :: M) H2) (mask (p :: M) (upd (upd H2 q' (.dK [(key, z)])) p (.dK (putK (ks.zip xs) key z)))) := by
    rw [mask_upd List.mem_cons_self, ← mask_upd (H := H2) (p := q') (o := .dK [(key, z)]) (M := q' :: p :: M) List.mem_cons_self]
    exact mask_sub fun a w => List.mem_cons_of_mem _ w
  have r1 : RepAll X.K G (mask (q' :: p :: M) H2) xs ds := by
    refine RepAll.mono (S3.mask e2) _ (RepAll.mono (mask_new hq' sm2) _ ?_)
    rw [mask_upd List.mem_cons_self]
    exact rep
  exact k (.ref p) (.fr (.dct (dKs ks key) (dVs ks ds key d))) δ2 _ S8 eG oF ⟨p, rfl, pM, p0, ⟨dVs ks xs key z, by rw [upd_same, put_zip hxs], dKs_len hxs _ _, (r1.dput rz).mono mm⟩, S7⟩ q
theorem de_dst (hd : DE X G de td wd) (hp : DP X G pos [some kx] [ve] [(tk, tv)] [(wk, wv)]) : DE X G (.Dict [none, some kx] [de, ve] pos) (tDst td tk tv) (wDst wd wk wv) := ⟨pe_dst hd.pe hp.pp, fun _ => sim_dst (hd.sim _) hp⟩
end
end L3
namespace L3
open PySem PySem.Spec PyProof.Rows L2
section
variable {κ : Type} [DecidableEq κ] {α : Type}
def tAt : List κ → List α → κ → Option α
  | k' :: ks, d :: ds, k => if k' = k then some d else tAt ks ds k
  | _, _, _ => none
def tKs (ks : List κ) (k : κ) : List κ := if k ∈ ks then ks else ks ++ [k]
def tVs (ks : List κ) (ds : List α) (k : κ) (d : α) : List α := if k ∈ ks then ks.zipWith (fun k' d' => if k' = k then d else d') ds else ds ++ [d]
theorem tAt_map (f : κ → α) (k : κ) : ∀ ks : List κ, tAt ks (ks.map f) k = if k ∈ ks then some (f k) else none
  | [] => rfl
  | k' :: ks => by
    rw [List.map_cons, tAt, tAt_map f k ks]
    by_cases e : k' = k
    · subst e; simp
    · have e' : ¬ k = k' := fun z => e z.symm
      rw [if_neg e]; simp [e']
theorem tzipW_map (f : κ → α) (k : κ) (d : α) : ∀ ks : List κ, ks.zipWith (fun k' d' => if k' = k then d else d') (ks.map f) = ks.map fun k' => if k' = k then d else f k'
  | [] => rfl
  | k' :: ks => by rw [List.map_cons, List.zipWith_cons_cons, tzipW_map f k d ks, List.map_cons]
theorem tVs_map (f : κ → α) (k : κ) (d : α) (ks : List κ) : tVs ks (ks.map f) k d = (tKs ks k).map fun k' => if k' = k then d else f k' := by
  unfold tVs tKs
  by_cases m : k ∈ ks
  · rw [if_pos m, if_pos m, tzipW_map]
  · rw [if_neg m, if_neg m, List.map_append]
    congr 1
    · exact List.map_congr_left fun x hx => by rw [if_neg fun z : x = k => m (z ▸ hx)]
    · simp
theorem tAt_mem {k : κ} : ∀ {ks : List κ} {ds : List α}, ks.length = ds.length → (tAt ks ds k).isSome = decide (k ∈ ks)
  | [], _, _ => by simp [tAt]
  | _ :: _, [], h => by simp at h
  | k' :: ks, d :: ds, h => by
    rw [tAt]
    by_cases e : k' = k
    · subst e; simp
    · have e' : ¬ k = k' := fun z => e z.symm
      rw [if_neg e, tAt_mem (ks := ks) (ds := ds) (by simpa using h)]; simp [e']
theorem tval_zip (k : κ) : ∀ (ks : List κ) (xs : List V), valV (ks.zip xs) k = tAt ks xs k
  | [], _ => rfl
  | _ :: _, [] => rfl
  | k' :: ks, x :: xs => by
    rw [List.zip_cons_cons, tAt]
    by_cases e : k' = k
    · rw [valV_pos (p := (k', x)) e, if_pos e]
    · rw [valV_neg (p := (k', x)) e, if_neg e, tval_zip k ks xs]
theorem tmap_zip (k : κ) (y : V) : ∀ (ks : List κ) (xs : List V), (ks.zip xs).map (fun kv => if kv.1 = k then (kv.1, y) else kv) = ks.zip (ks.zipWith (fun k' d' => if k' = k then y else d') xs)
  | [], _ => rfl
  | _ :: _, [] => by simp
  | k' :: ks, x :: xs => by
    rw [List.zip_cons_cons, List.map_cons, List.zipWith_cons_cons, List.zip_cons_cons, tmap_zip k y ks xs]
    by_cases e : k' = k
    · rw [if_pos e, if_pos e]
    · rw [if_neg e, if_neg e]
theorem tput_zip {ks : List κ} {xs : List V} (h : ks.length = xs.length) (k : κ) (y : V) : putK (ks.zip xs) k y = (tKs ks k).zip (tVs ks xs k y) := by
  have e : ((ks.zip xs).any fun kv => decide (kv.1 = k)) = decide (k ∈ ks) := by
    rw [valV_any, tval_zip, tAt_mem h]
  unfold putK tKs tVs
  rw [e]
  by_cases m : k ∈ ks
  · rw [if_pos (by simpa using m), if_pos m, if_pos m, tmap_zip]
  · rw [if_neg (by simpa using m), if_neg m, if_neg m, List.zip_append h]; rfl
theorem tKs_len {ks : List κ} {xs : List α} (h : ks.length = xs.length) (k : κ) (y : α) : (tKs ks k).length = (tVs ks xs k y).length := by
  unfold tKs tVs
  by_cases m : k ∈ ks
  · rw [if_pos m, if_pos m, List.length_zipWith]; omega
  · rw [if_neg m, if_neg m, List.length_append, List.length_append, h]; rfl
theorem tKs_le (ks : List κ) (k : κ) : (tKs ks k).length ≤ ks.length + 1 := by
  unfold tKs
  split <;> simp
variable {K : PySem.W.Frag} {G : Gx} {H : Hp}
theorem RepAll.tat {k : κ} : ∀ {ks : List κ} {xs : List V} {ds : List D} {d : D}, RepAll K G H xs ds → tAt ks ds k = some d → ∃ v, tAt ks xs k = some v ∧ Rep K G H v d
  | [], _, _, _, _, e => by simp [tAt] at e
  | _ :: _, _, [], _, _, e => by simp [tAt] at e
  | k' :: ks, _, d' :: ds, d, ⟨x, xs, h1, h2, h3⟩, e => by
    subst h1
    rw [tAt] at e ⊢
    by_cases z : k' = k
    · rw [if_pos z] at e ⊢; cases e; exact ⟨x, rfl, h2⟩
    · rw [if_neg z] at e ⊢; exact RepAll.tat h3 e
theorem RepAll.tzipW {k : κ} {y : V} {d : D} (r : Rep K G H y d) : ∀ {ks : List κ} {xs : List V} {ds : List D}, RepAll K G H xs ds → RepAll K G H (ks.zipWith (fun k' d' => if k' = k then y else d') xs) (ks.zipWith (fun k' d' => if k' = k then d else d') ds)
  | [], _, _, _ => by rw [List.zipWith_nil_left, List.zipWith_nil_left]; exact rfl
  | _ :: _, _, [], h => by cases h; rw [List.zipWith_nil_right, List.zipWith_nil_right]; exact rfl
  | k' :: ks, _, d' :: ds, ⟨x, xs, h1, h2, h3⟩ => by
    subst h1
    rw [List.zipWith_cons_cons, List.zipWith_cons_cons]
    refine ⟨_, _, rfl, ?_, RepAll.tzipW r h3⟩
    by_cases z : k' = k
    · rw [if_pos z, if_pos z]; exact r
    · rw [if_neg z, if_neg z]; exact h2
theorem RepAll.tput {k : κ} {y : V} {d : D} {ks : List κ} {xs : List V} {ds : List D} (h : RepAll K G H xs ds) (r : Rep K G H y d) : RepAll K G H (tVs ks xs k y) (tVs ks ds k d) := by
  unfold tVs
  by_cases m : k ∈ ks
  · rw [if_pos m, if_pos m]; exact h.tzipW r
  · rw [if_neg m, if_neg m]; exact h.append (.one r)
end
def isKT : D → (List Key → Prop) → Prop
  | .ktup k, Q => Q k
  | _, _ => False
@[simp] theorem isKT_0 (k : List Key) (Q : List Key → Prop) : isKT (.ktup k) Q = Q k := rfl
def isDtt : D → (List (List Key) → List D → Prop) → Prop
  | .dtt ks ds, Q => Q ks ds
  | _, _ => False
@[simp] theorem isDtt_0 (ks : List (List Key)) (ds : List D) (Q : List (List Key) → List D → Prop) : isDtt (.dtt ks ds) Q = Q ks ds := rfl
section
variable {K : PySem.W.Frag} {G : Gx} {M : List Addr} {H : Hp} {v : V} {d : D}
theorem isKT_of {Q : List Key → Prop} (b : RB K G M H v d) (h : isKT d Q) : ∃ k a, v = .ref a ∧ H a = some (.tup (k.map kV)) ∧ d = .ktup k ∧ Q k := by
  cases d <;> first | exact h.elim | skip
  obtain ⟨a, e1, e2⟩ := b.full
  exact ⟨_, a, e1, e2, rfl, h⟩
theorem RB.dtt {ks : List (List Key)} {ds : List D} (h : RB K G M H v (.dtt ks ds)) : ∃ p xs, v = .ref p ∧ H p = some (.dT (ks.zip xs)) ∧ ks.length = xs.length ∧ RepAll K G (mask M H) xs ds := by
  rcases h with ⟨p, xs, rfl, h2, h3, h4⟩ | ⟨p, rfl, xs, h2, h3, h4⟩
  · exact ⟨p, xs, rfl, mask_le _ _ h2, h3, h4⟩
  · exact ⟨p, xs, rfl, h2, h3, h4⟩
end
instance instMemT (k : List Key) (ks : List (List Key)) : Decidable (k ∈ ks) := @List.instDecidableMemOfLawfulBEq (List Key) instBEqOfDecidableEq inferInstance k ks
def fTGet : F2 := fun d e Q => isDtt d fun ks ds => isKT e fun k => ∃ x, tAt ks ds k = some x ∧ Q (.sh x)
def fTIn : F2 := fun e d Q => isDtt d fun ks ds => isKT e fun k => Q (.sh (.bl (decide (k ∈ ks))))
def fTNi : F2 := fun e d Q => isDtt d fun ks ds => isKT e fun k => Q (.sh (.bl (!decide (k ∈ ks))))
@[simp] theorem fTGet_0 (ks : List (List Key)) (ds : List D) (k : List Key) (Q : RD → Prop) : fTGet (.dtt ks ds) (.ktup k) Q = ∃ x, tAt ks ds k = some x ∧ Q (.sh x) := rfl
@[simp] theorem fTIn_0 (ks : List (List Key)) (ds : List D) (k : List Key) (Q : RD → Prop) : fTIn (.ktup k) (.dtt ks ds) Q = Q (.sh (.bl (decide (k ∈ ks)))) := rfl
@[simp] theorem fTNi_0 (ks : List (List Key)) (ds : List D) (k : List Key) (Q : RD → Prop) : fTNi (.ktup k) (.dtt ks ds) Q = Q (.sh (.bl (!decide (k ∈ ks)))) := rfl
section
variable {X : Cx} {G : Gx} {K : PySem.W.Frag} {E : Ent} {a b e i : Expr} {ta tb te ti : TE} {wa wb we wi : WE} {pos : Pos}
theorem ops_tget : OpS K G rDGet fTGet := fun M H x y d e al bx by' Qd h Q k => by
  cases d <;> first | exact h.elim | skip
  obtain ⟨p, xs, rfl, hp, hl, r⟩ := bx.dtt
  obtain ⟨key, b, rfl, hb, rfl, z, hz, h⟩ := isKT_of by' (show isKT e _ from h)
  obtain ⟨v, hv, rv⟩ := r.tat hz
  exact ⟨p, v, rfl, .inr ⟨_, key, b, .inl hp, rfl, hb, by rw [tval_zip, hv]⟩, k v (.sh z) H (Same.refl _) rv h⟩
theorem ops_tin : OpS K G rDIn fTIn := fun M H y x e d al by' bx Qd h Q k => by
  cases d <;> first | exact h.elim | skip
  obtain ⟨p, xs, rfl, hp, hl, r⟩ := bx.dtt
  obtain ⟨key, b, rfl, hb, rfl, h2⟩ := isKT_of by' (show isKT e _ from h)
  refine ⟨p, _, rfl, .inr ⟨_, key, b, .inl hp, rfl, hb, rfl⟩, k _ _ H (Same.refl _) rn_bl ?_⟩
  rw [tval_zip, tAt_mem hl]; exact h2
theorem ops_tni : OpS K G rDNi fTNi := fun M H y x e d al by' bx Qd h Q k => by
  cases d <;> first | exact h.elim | skip
  obtain ⟨p, xs, rfl, hp, hl, r⟩ := bx.dtt
  obtain ⟨key, b, rfl, hb, rfl, h2⟩ := isKT_of by' (show isKT e _ from h)
  refine ⟨p, _, rfl, .inr ⟨_, key, b, .inl hp, rfl, hb, rfl⟩, k _ _ H (Same.refl _) rn_bl ?_⟩
  rw [tval_zip, tAt_mem hl]; exact h2
theorem de_tget (hu : X.A.units + 64 < cLine) (ha : DE X G a ta wa) (hb : DE X G b tb wb) (hs : NoSl b) : DE X G (.Subscript a b pos) (tOp rDGet ta tb) (wOp fTGet wa wb) := ⟨pe_dget (by omega) ha.pe hb.pe hs, fun E => sim_op ops_tget (ha.sim E) (hb.sim E)⟩
theorem de_tin (hu : X.A.units + 64 < cLine) (ha : DE X G a ta wa) (hb : DE X G b tb wb) (hm : behindInMarks .In b = false := by rfl) : DE X G (.Compare a [.In] [b] pos) (tOp rDIn ta tb) (wOp fTIn wa wb) := ⟨pe_cmp (pc_din (by omega) ha.pe hb.pe) hm, fun E => sim_op ops_tin (ha.sim E) (hb.sim E)⟩
theorem dt_tin (hu : X.A.units + 64 < cLine) (ha : DE X G a ta wa) (hb : DE X G b tb wb) (hm : behindInMarks .In b = false := by rfl) : DT X G (.Compare a [.In] [b] pos) (tTest (tOp rDIn ta tb)) (wTest (wOp fTIn wa wb)) := ⟨pt_cmp (pc_din (by omega) ha.pe hb.pe) hm, fun E => sim_test (sim_op ops_tin (ha.sim E) (hb.sim E))⟩
theorem de_tni (hu : X.A.units + 64 < cLine) (ha : DE X G a ta wa) (hb : DE X G b tb wb) (hm : behindInMarks .NotIn b = false := by rfl) : DE X G (.Compare a [.NotIn] [b] pos) (tOp rDNi ta tb) (wOp fTNi wa wb) := ⟨pe_cmp (pc_dnotin (by omega) ha.pe hb.pe) hm, fun E => sim_op ops_tni (ha.sim E) (hb.sim E)⟩
theorem dt_tni (hu : X.A.units + 64 < cLine) (ha : DE X G a ta wa) (hb : DE X G b tb wb) (hm : behindInMarks .NotIn b = false := by rfl) : DT X G (.Compare a [.NotIn] [b] pos) (tTest (tOp rDNi ta tb)) (wTest (wOp fTNi wa wb)) := ⟨pt_cmp (pc_dnotin (by omega) ha.pe hb.pe) hm, fun E => sim_test (sim_op ops_tni (ha.sim E) (hb.sim E))⟩
@[simp] def ownDt (δ : St3) (i : Nat) (ks : List (List Key)) (ds : List D) : Prop := δ.sl[i]? = some (some (SV.ow (.dtt ks ds)))
@[simp] def wTPut (i : Nat) (wv wk : WE) : WS := fun De δ => wv δ fun r δ1 => ¬ r.bor ∧ (∃ ks0 ds0, ownDt δ1 i ks0 ds0) ∧ wk δ1 fun s δ2 => ∃ ks ds, ownDt δ2 i ks ds ∧ isKT s.d fun k => ks.length < 16777216 ∧ De.nx ⟨δ2.sl.set i (some (.ow (.dtt (tKs ks k) (tVs ks ds k r.d)))), δ2.n⟩
theorem sim_tput {i : Nat} (h : ∀ E, SimE K G E te we) (h' : ∀ E, SimE K G E ti wi) : SimS K G (sDPut (tVar i) ti te) (wTPut i we wi) := fun E am M σ δ H S D3 q De R => by
  refine h E am M σ δ H S _ q _ fun x r δ1 H1 S1 e1 o1 rv ⟨nb, ⟨ks0, ds0, h0⟩, q⟩ => ?_
  obtain ⟨a1, _⟩ := S1.ow i _ h0
  refine ⟨_, a1, ?_⟩
  refine h' E am M σ δ1 H1 S1 _ q _ fun z s δ2 H2 S2 e2 o2 sv ⟨ks, ds, h1, q⟩ => ?_
  obtain ⟨b1, b2, b3, b4, xs, b5, hl, b6⟩ := S2.ow i _ h1
  obtain ⟨key, b, rfl, hb, es, sz, q⟩ := isKT_of (sv.k.rb S2) q
  have rr := (rv.k.later (δ2 := δ2) S1 e2 (fun b => (nb b).elim)).rep nb
  refine ⟨am i, _, rfl, .inr ⟨_, key, b, b5, rfl, hb, by rw [List.length_zip, ← hl, Nat.min_self, line16]; exact sz, rfl⟩, R.nx am M _ _ _ (S2.mut (d' := .dtt (tKs ks key) (tVs ks ds key r.d)) h1 ⟨tVs ks xs key x, by rw [upd_same, tput_zip hl], tKs_len hl key x, ?_⟩ rfl) q⟩
  rw [mask_upd b2]
  exact b6.tput rr
theorem ds_tput (k : Nat) {x : Str} {px pos2 : Pos} (hu : X.A.units + 64 < cLine) (he : DE X G e te we) (hx : PE X (.Name x px) (tVar k)) (hi : DE X G i ti wi) (hs : swapsWith e (some (.Subscript (.Name x px) i pos2)) pos.line X.env = pure false := by rfl) :
    DS X G (.Assign [.Subscript (.Name x px) i pos2] e pos) (sDPut (tVar k) ti te) (wTPut k we wi) := ⟨ps_dput (by omega) hx hi.pe he.pe hs, sim_tput he.sim hi.sim⟩
end
section
variable {X : Cx} {G : Gx} {E : Ent} {a b : Expr} {pos : Pos} {tk tv : TE} {wk wv : WE}
def tDisT (tk tv : TE) : TE := fun σ H Q => ∀ p, H p = none → tk σ (upd H p (.dT [])) fun x H1 => tv σ H1 fun y H2 => H2 p = some (.dT []) ∧ ∃ k c, x = .ref c ∧ H2 c = some (.tup (k.map kV)) ∧ Q (.ref p) (upd H2 p (.dT [(k, y)]))
theorem pe_disT (hu : X.A.units + 64 < cLine) (hk : PE X a tk) (hv : PE X b tv) : PE X (.Dict [some a] [b] pos) (tDisT tk tv) := by
  refine ⟨fun pins s σ H Q I q => ?_⟩
  have hn := I.hok.fresh (Nat.le_refl s.heap.objs.size)
  have I1 := I.laid (a := s.heap.objs.size) (o := .dT []) (h' := s.heap.push { cls := .type "dict", data := .dict #[] }) (t' := s.toks) (fun _ _ q => Heap.get?_push_of_some _ q) (Nat.le_refl _) (dt_empty s.heap I.big)
  refine wpAny_Dict_any (by rfl) (by rfl) (List.cons_ne_nil _ _) (by show 1 ≤ 15; decide) (thn ((pps_cons hk hv pps_nil).run pins _ σ _ (fun ps H2 => match ps with
    | [(x, y)] => H2 s.heap.objs.size = some (.dT []) ∧ ∃ k c, x = .ref c ∧ H2 c = some (.tup (k.map kV)) ∧ Q (.ref s.heap.objs.size) (upd H2 s.heap.objs.size (.dT [(k, y)]))
    | _ => False) I1 (q _ hn)) fun ws s2 ⟨ps, H2, I2, rel, q2⟩ => ?_)
  match ps, rel, q2 with
  | [(x, y)], rel, ⟨h1, k, c, ex, hc, q2⟩ =>
    cases rel with
    | @cons _ b2 _ _ r1 r2 =>
      cases r2
      obtain ⟨u, z⟩ := b2
      subst ex
      cases (show u = Value.ref c from r1.1)
      obtain ⟨z0, hd, xs, rel, dd⟩ := dt_of I2.hok h1
      cases rel
      unfold storeAll
      rw [List.forIn_cons]
      refine wpAny_bind (wpAny_bind (wpAny_dictSet_heap (hsz := Nat.zero_le _) ((show X.A.units < cLine by omega)) (key_of I2.hok hc) dd fun h' dd' hs => wpAny_pure ?_))
      refine wpAny_pure ?_
      obtain ⟨qo, es, ep, hq, h2, h3, h4, _, h5⟩ := dd'
      have I3 : Inv X pins σ (upd H2 s.heap.objs.size (.dT [(k, y)])) { s2 with heap := h', toks := s2.toks + (k.length + 1) } := by
        refine d_write I2 (by rw [h1]; exact True.intro) hs ⟨qo, hq⟩ ⟨by show 1 ≤ sizeLine; decide, hd, _, (KT.put (kvs := []) (xs := []) .nil k hc r1.2).keeps fun c' ys ec => ?_, qo, es, ep, hq, h2, h3, h4, h5⟩
        rw [upd_ne (ne_of ec h1 (fun z => nomatch z))]
        exact ec
      exact ⟨.ref s.heap.objs.size, _, I3, rfl, q2⟩
@[simp] def wDisT (wk wv : WE) : WE := fun δ Q => wk δ fun s δ1 => ¬ s.bor ∧ isKT s.d fun k => wv δ1 fun v δ2 => ¬ v.bor ∧ Q (.fr (.dtt [k] [v.d])) δ2
theorem sim_disT (hk : SimE X.K G E tk wk) (hv : SimE X.K G E tv wv) : SimE X.K G E (tDisT tk tv) (wDisT wk wv) := fun am M σ δ H S Qd w Q k p hpn => by
  have sm := same_new (o := .dT []) hpn
  obtain ⟨pM, pA, pd, p0, pO⟩ := fresh_h0 S hpn
  have T := S.more (p := p) hpn sm (by rw [upd_same]; simp)
  refine hk am (p :: M) σ δ _ T _ w _ fun x r δ1 H1 S1 e1 o1 rv ⟨nk, q⟩ => ?_
  have rx := rv.k.rep nk
  obtain ⟨key, c, rfl, hc, er, q⟩ := isKT_of (.inl rx) q
  rw [er] at rx
  refine hv am (p :: M) σ δ1 H1 S1 _ q _ fun y s δ2 H2 S2 e2 o2 sv ⟨nb, q⟩ => ?_
  have h1 : H1 p = some (.dT []) := e1 p _ upd_same pd fun i hi => pO i hi
  have h2 : H2 p = some (.dT []) := e2 p _ h1 pd fun i hi => pO i (o1 i hi)
  obtain ⟨c', ec, hc2⟩ := rx.mono (S1.mask e2)
  cases ec
  refine ⟨h2, key, c, rfl, mask_le _ _ hc2, ?_⟩
  have oF : ∀ i, isOwn δ2 i → isOwn δ i := fun i z => o1 i (o2 i z)
  have eF : Ext G am δ H H2 := fun b u hb kb ho => e2 b u (e1 b u (sm b u hb) kb ho) kb fun i hi => ho i (o1 i hi)
  have S3 := S2.put (o := .dT [(key, y)]) List.mem_cons_self pd p0 (fun i z => pO i (oF i z)) (fun a ha z => pM (z ▸ (S.od.isA (S.isOdA eF oF ha)).1)) (NoCode.of h2 fun _ => HO.noConfusion)
  have eG : Ext G am δ H (upd H2 p (.dT [(key, y)])) := fun b u hb kb ho => by
    have b1 : b ≠ p := fun z => by rw [z, hpn] at hb; cases hb
    rw [upd_ne b1]
    exact eF b u hb kb ho
  have aM : ∀ a, isOdA am δ2 (upd H2 p (.dT [(key, y)])) a → a ∈ M := fun a w => (S.od.isA (S.isOdA eG oF w)).1
  have S4 := S3.less (M' := M) (fun a w => List.mem_cons_of_mem _ w) S.ads (fun j d h => by
    obtain ⟨d', h'⟩ := oF (Kx.ow j) ⟨d, h⟩
    exact (S.ow j d' h').2.1) aM
  refine k (.ref p) (.fr (.dtt [key] [s.d])) δ2 _ S4 eG oF ⟨p, rfl, pM, p0, ⟨[y], by rw [upd_same]; rfl, rfl, ?_⟩, S3⟩ q
  rw [mask_upd List.mem_cons_self]
  exact .one (sv.k.rep nb)
theorem de_disT (hu : X.A.units + 64 < cLine) (ha : DE X G a tk wk) (hb : DE X G b tv wv) : DE X G (.Dict [some a] [b] pos) (tDisT tk tv) (wDisT wk wv) := ⟨pe_disT hu ha.pe hb.pe, fun _ => sim_disT (ha.sim _) (hb.sim _)⟩
end
section
variable {X : Cx} {G : Gx} {E : Ent} {o e : Expr} {apos pos : Pos} {td te : TE} {wd we : WE}
@[simp] def wTGet1 (wd we : WE) : WE := fun δ Q => wd δ fun s δ1 => ¬ s.bor ∧ isDtt s.d fun ks ds => we δ1 fun r δ2 => isKT r.d fun k => Q (.sh ((tAt ks ds k).getD .non)) δ2
/-- the same of one's own dict: the value is told -/
@[simp] def wTGetO (i : Nat) (we : WE) : WE := fun δ Q => (∃ ks0 ds0, ownDt δ i ks0 ds0) ∧ we δ fun r δ2 => ∃ ks ds, ownDt δ2 i ks ds ∧ isKT r.d fun k => Q (.sh ((tAt ks ds k).getD .non)) δ2
theorem sim_tgetO {i : Nat} (he : SimE X.K G E te we) : SimE X.K G E (tDGet1 (tVar i) te) (wTGetO i we) := fun am M σ δ H S Qd w Q k => by
  obtain ⟨⟨ks0, ds0, h0⟩, w⟩ := w
  obtain ⟨a1, _, _, _, xs0, a5, _⟩ := S.ow i _ h0
  refine ⟨_, a1, am i, rfl, .inr ⟨_, .inl a5⟩, ?_⟩
  refine he am M σ δ H S _ w _ fun z s δ2 H2 S2 e2 o2 sv ⟨ks, ds, h1, q⟩ => ?_
  obtain ⟨b1, b2, b3, b4, xs, b5, hl, b6⟩ := S2.ow i _ h1
  obtain ⟨key, b, rfl, hb, es, q⟩ := isKT_of (sv.k.rb S2) q
  refine ⟨_, .inr ⟨_, key, b, .inl b5, rfl, hb, rfl⟩, ?_⟩
  rw [tval_zip]
  refine k _ (.sh ((tAt ks ds key).getD .non)) δ2 H2 S2 e2 o2 ?_ q
  cases t : tAt ks ds key with
  | some d =>
    obtain ⟨v, hv, rv⟩ := b6.tat t
    rw [hv]; exact rv
  | none =>
    have : tAt ks xs key = none := by
      have z1 := tAt_mem (k := key) hl
      have z2 := tAt_mem (k := key) (ks := ks) (ds := ds) (by rw [hl, b6.length])
      rw [t] at z2
      rw [← z2] at z1
      simpa using z1
    rw [this]; exact rfl
theorem de_tgetO (i : Nat) {x : Str} {px : Pos} (hu : X.A.units + 64 < cLine) (hx : PE X (.Name x px) (tVar i)) (he : DE X G e te we) (m : M1 X (.Name x px) "get" apos e pos) : DE X G (.Call (.Attribute (.Name x px) "get" apos) [e] [] pos) (tDGet1 (tVar i) te) (wTGetO i we) :=
  ⟨pe_dget1 (by omega) hx he.pe m, fun _ => sim_tgetO (he.sim _)⟩
end
section
variable {X : Cx} {G : Gx} {E : Ent} {K : PySem.W.Frag} {es : List Expr} {tA : TA} {wA : WA} {pos : Pos}
def toK : D → Option Key
  | .int i => some (.inl i)
  | .str s => some (.inr s)
  | _ => none
@[simp] theorem toK_int (i : Int) : toK (.int i) = some (.inl i) := rfl
@[simp] theorem toK_str (s : Str) : toK (.str s) = some (.inr s) := rfl
theorem toK_eq {d : D} {k : Key} (h : toK d = some k) : d = keyD k := by
  cases d <;> first | (cases h; rfl) | cases h
theorem toKs_eq : ∀ {ds : List D} {ks : List Key}, ds.map toK = ks.map some → ds = ks.map keyD
  | [], [], _ => rfl
  | [], _ :: _, h => by simp at h
  | _ :: _, [], h => by simp at h
  | d :: ds, k :: ks, h => by
    rw [List.map_cons, List.map_cons, List.cons.injEq] at h
    rw [List.map_cons, toK_eq h.1, ← toKs_eq h.2]
theorem RepAll.kv {H : Hp} : ∀ {ks : List Key} {xs : List V}, RepAll K G H xs (ks.map keyD) → xs = ks.map kV
  | [], _, h => h
  | .inl i :: ks, _, ⟨x, xs, e, r, h⟩ => by
    rw [e, RepAll.kv h, show x = V.int i from r]; rfl
  | .inr s :: ks, _, ⟨x, xs, e, r, h⟩ => by
    rw [e, RepAll.kv h, show x = V.str s from r]; rfl
def fTupK : FC
  | [.lst ds], Q => ∃ ks : List Key, ds = ks.map keyD ∧ Q (.sh (.ktup ks))
  | _, _ => False
@[simp] theorem fTupK_0 (ds : List D) (Q : RD → Prop) : fTupK [.lst ds] Q = ∃ ks : List Key, ds = ks.map keyD ∧ Q (.sh (.ktup ks)) := rfl
theorem calls_tupK : CallS K G (rTupleC K) fTupK := fun M H vs ds al b Qd h Q k => by
  match ds, h with
  | [.lst xs], ⟨ks, e, h⟩ =>
    obtain ⟨v, rfl, b1⟩ := b.one
    subst e
    obtain ⟨p, ys, rfl, hy, r⟩ := b1.lst
    have ey := r.kv
    subst ey
    refine ⟨p, _, rfl, .inl ⟨SqL.of hy, fun l hl => k _ _ _ (same_new hl) ?_ h⟩⟩
    exact ⟨l, rfl, by rw [mask_out fun z => al l z hl, upd_same]⟩
@[simp] def wTupK (wA : WA) : WE := fun δ Q => wA δ fun rs δ1 => keeps rs ∧ rs.length ≤ 1000 ∧ ∃ ks : List Key, rs.map RD.d = ks.map keyD ∧ Q (.sh (.ktup ks)) δ1
theorem sim_tupK (h : SimA K G E tA wA) : SimE K G E (tTup tA) (wTupK wA) := fun am M σ δ H S Qd q Q k => by
  refine h am M σ δ H S _ q _ fun vs rs δ1 H1 S1 e1 o1 r1 ⟨hk, hl, ks, ek, hq⟩ => ⟨sz1000 (by rw [r1.length]; exact hl), fun p hp => ?_⟩
  have sm := same_new (o := .tup vs) hp
  have rr := r1.rep hk
  rw [ek] at rr
  have ev := rr.kv
  refine k _ (.sh (.ktup ks)) δ1 _ (S1.grow sm) (e1.trans o1 (Ext.of (δ := δ1) sm)) o1 ⟨p, rfl, ?_⟩ hq
  rw [mask_out fun z => S1.al p z hp, upd_same, ev]
theorem de_tupK {x1} (h : DA X G es tA wA) : DE X G (.Tuple es x1 pos) (tTup tA) (wTupK wA) := ⟨pe_tup h.pa, fun E => sim_tupK (h.sim E)⟩
theorem rgV_keys (n : Int) : rgV 0 n = ((List.range n.toNat).map fun k : Nat => (Sum.inl (k : Int) : Key)).map kV := by
  unfold rgV
  rw [Int.sub_zero, List.map_map]
  exact List.map_congr_left fun k _ => by simp [kV]
@[simp] def wTRgK1 (w : WE) : WE := fun δ Q => w δ fun r δ1 => isI r.d fun n => n ≤ 16777216 ∧ -(2 ^ 62) ≤ n ∧ Q (.sh (.ktup ((List.range n.toNat).map fun k : Nat => (Sum.inl (k : Int) : Key)))) δ1
theorem de_trgK1 {a : Expr} {ta : TE} {wa : WE} {p p2 pos2 : Pos} (ha : DE X G a ta wa) (hm : X.mg "tuple" = none) (hm2 : X.mg "range" = none) (hc : X.calm = true := by rfl) (g1 : Gl X "tuple" := by rfl) (g2 : Gl X "range" := by rfl) (na : starEach [a] X.env = (false, eval a X.env) :: starEach [] X.env := by rfl)
    (nr : starEach [.Call (.Name "range" p) [a] [] pos] X.env = (false, eval (.Call (.Name "range" p) [a] [] pos) X.env) :: starEach [] X.env := by rfl) :
    DE X G (.Call (.Name "tuple" p2) [.Call (.Name "range" p) [a] [] pos] [] pos2) (tTupRg (tRg1 ta)) (wTRgK1 wa) := ⟨pe_tupRg hc g1 hm (prg_1 g2 hm2 ha.pe na) nr, fun E am M σ δ H S Qd q Q k => ha.sim E am M σ δ H S _ q _ fun v r δ1 H1 S1 e1 o1 rv q => by
  obtain ⟨n, _, rfl, h1, h2, q⟩ := isI_of S1 rv.k q
  refine ⟨n, rfl, ⟨by omega, by omega, by omega, by omega, by omega⟩, fun l hl => ?_⟩
  have sm := same_new (o := .tup (rgV 0 n)) hl
  refine k _ (.sh (.ktup ((List.range n.toNat).map fun k : Nat => (Sum.inl (k : Int) : Key)))) δ1 _ (S1.grow sm) (e1.trans o1 (Ext.of (δ := δ1) sm)) o1 ⟨l, rfl, ?_⟩ q
  rw [mask_out fun z => S1.al l z hl, upd_same, rgV_keys]⟩
end
end L3
namespace L3
open PySem PySem.Spec PyProof.Rows L2
section
variable {X : Cx} {G : Gx} {E : Ent} {es : List Expr} {t : TA} {w : WA} {pos : Pos}
def tTupP (t : TA) : TE := fun σ H Q => t σ H fun xs H1 => xs.length ≤ sizeLine ∧ ∀ (p : Addr) (o : Obj), H1 p = none → o.cls = .type "tuple" → o.dict = none → Q (.ref p) (upd H1 p (.frz o (.tup xs)))
theorem pe_tupP {x1} (h : PA X es t) : PE X (.Tuple es x1 pos) (tTupP t) := by
  refine ⟨fun pins s σ H Q I hq => ?_⟩
  refine wpAny_Tuple_spliced (thn (h.run pos pins s σ H _ I hq) fun us s1 ⟨xs, H1, I1, r, z, q⟩ => ⟨by rw [← r.length]; exact z, ?_⟩)
  have hf : H1 s1.heap.objs.size = none := I1.hok.fresh (Nat.le_refl _)
  refine ⟨.ref s1.heap.objs.size, upd H1 s1.heap.objs.size (.frz ({ cls := .type "tuple", data := .seq us.toArray } : Obj) (.tup xs)), I1.laid (t' := s1.toks) (fun b u e => Heap.get?_push_of_some _ e) (Nat.le_refl _) ?_, rfl, q _ _ hf rfl rfl⟩
  exact ⟨Heap.get?_push_size _ rfl, z, us, r, ⟨_, Heap.get?_push_size _ rfl, rfl, _, rfl⟩⟩
@[simp] def wTupP (w : WA) : WE := fun δ Q => w δ fun rs δ1 => keeps rs ∧ rs.length ≤ 1000 ∧ Q (.sh (.ptup (rs.map RD.d))) δ1
theorem sim_tupP (h : SimA X.K G E t w) : SimE X.K G E (tTupP t) (wTupP w) := fun am M σ δ H S Qd q Q k => by
  refine h am M σ δ H S _ q _ fun vs rs δ1 H1 S1 e1 o1 r1 ⟨hk, hl, hq⟩ => ⟨sz1000 (by rw [r1.length]; exact hl), fun p o hp hc hd => ?_⟩
  have sm := same_new (o := .frz o (.tup vs)) hp
  refine k _ (.sh (.ptup (rs.map RD.d))) δ1 _ (S1.grow sm) (e1.trans o1 (Ext.of (δ := δ1) sm)) o1 ⟨p, vs, o, rfl, ?_, hc, hd, (r1.rep hk).mono (mask_mono sm)⟩ hq
  rw [mask_out fun z => S1.al p z hp, upd_same]
theorem de_tupP {x1} (h : DA X G es t w) : DE X G (.Tuple es x1 pos) (tTupP t) (wTupP w) := ⟨pe_tupP h.pa, fun E => sim_tupP (h.sim E)⟩
end
end L3
namespace L3
open PySem PySem.Spec PyProof.Rows L2
def fDictD : FC
  | [.dct ks ds], Q => Q (.fr (.dct ks ds))
  | _, _ => False
@[simp] theorem fDictD_0 (ks : List Key) (ds : List D) (Q : RD → Prop) : fDictD [.dct ks ds] Q = Q (.fr (.dct ks ds)) := rfl
def rDictD : List V → Hp → VK → Prop := fun xs H Q => ∃ (a : Addr) (kvs : List (Key × V)), xs = [.ref a] ∧ Rd H a (.dK kvs) ∧ ∀ p, H p = none → Q (.ref p) (upd H p (.dK kvs))
/-- a list of pairs becomes a dict; no key twice -/
def fDictP : FC
  | [.lst ds], Q => ∃ (ks : List Key) (es : List D), ks.length = es.length ∧ ks.Nodup ∧ ds = (ks.zip es).map (fun p => .tup [keyD p.1, p.2]) ∧ Q (.fr (.dct ks es))
  | _, _ => False
@[simp] theorem fDictP_0 (ds : List D) (Q : RD → Prop) : fDictP [.lst ds] Q = ∃ (ks : List Key) (es : List D), ks.length = es.length ∧ ks.Nodup ∧ ds = (ks.zip es).map (fun p => .tup [keyD p.1, p.2]) ∧ Q (.fr (.dct ks es)) := rfl
def rDictP (K : PySem.W.Frag) : List V → Hp → VK → Prop := fun xs H Q => ∃ (a : Addr) (ps : List Addr) (kvs : List (Key × V)), xs = [.ref a] ∧ SqL K H a (ps.map V.ref) ∧ Paired (fun p (kv : Key × V) => SqT K H p [kV kv.1, kv.2]) ps kvs ∧ ∀ p, H p = none → Q (.ref p) (upd H p (.dK (mergeK [] kvs)))
section
variable {X : Cx} {G : Gx} {K : PySem.W.Frag}
theorem call_dictDK : CallR X (.type "dict") rDictD := call_dictD
theorem rn_dct {M : List Addr} {H : Hp} {p : Addr} {ks : List Key} {xs : List V} {ds : List D} (hp : H p = none) (hl : ks.length = xs.length) (r : RepAll K G (mask M H) xs ds) : RN K G M H (upd H p (.dK (ks.zip xs))) (.ref p) (.fr (.dct ks ds)) :=
  ⟨p, rfl, hp, xs, upd_same, hl, r.mono (mask_new hp (same_new hp))⟩
theorem calls_dictD : CallS K G rDictD fDictD := fun M H vs ds al b Qd h Q k => by
  match ds, h with
  | [.dct ks es], h =>
    obtain ⟨v, rfl, b1⟩ := b.one
    obtain ⟨p, xs, rfl, hp, hl, r⟩ := b1.dct
    exact ⟨p, _, rfl, hp, fun q hq => k _ _ _ (same_new hq) (rn_dct hq hl r) h⟩
theorem call_dictPK (K : PySem.W.Frag) (hc : X.calm = true) (hK : X.K = K := by rfl) : CallR X (.type "dict") (rDictP K) := by subst hK; exact call_dictP hc
theorem RepAll.keyD1 {H : Hp} {v : V} {k : Key} (h : Rep K G H v (keyD k)) : v = kV k := by
  cases k with
  | inl i => exact h
  | inr s => exact h
theorem pairs_of {H : Hp} : ∀ {ks : List Key} {es : List D} {vs : List V}, ks.length = es.length → RepAll K G H vs ((ks.zip es).map fun p => .tup [keyD p.1, p.2]) →
    ∃ (ps : List Addr) (xs : List V), vs = ps.map V.ref ∧ ks.length = xs.length ∧ RepAll K G H xs es ∧ Paired (fun p (kv : Key × V) => SqT K H p [kV kv.1, kv.2]) ps (ks.zip xs)
  | [], [], vs, _, r => by
    have r : vs = [] := r
    subst r
    exact ⟨[], [], rfl, rfl, rfl, .nil⟩
  | [], _ :: _, _, h, _ => by simp at h
  | _ :: _, [], _, h, _ => by simp at h
  | k :: ks, e :: es, vs, h, r => by
    obtain ⟨x, rest, rfl, ⟨a, ys, rfl, ha, y, ys1, rfl, hy, z, ys2, rfl, hz, h2⟩, hr⟩ := r
    have h2 : ys2 = [] := h2
    subst h2
    obtain ⟨ps, xs, rfl, hl, r2, pr⟩ := pairs_of (ks := ks) (es := es) (by simpa using h) hr
    rw [RepAll.keyD1 hy] at ha
    exact ⟨a :: ps, z :: xs, rfl, by simp [hl], ⟨z, xs, rfl, hz, r2⟩, .cons ha pr⟩
theorem paired_map {α β : Type} {F F' : α → β → Prop} (f : ∀ a b, F a b → F' a b) : ∀ {l : List α} {m : List β}, Paired F l m → Paired F' l m
  | _, _, .nil => .nil
  | _, _, .cons h t => .cons (f _ _ h) (paired_map f t)
theorem sqT_le {H H' : Hp} {a : Addr} {xs : List V} (e : ∀ b o, H b = some o → H' b = some o) (h : SqT K H a xs) : SqT K H' a xs := by
  rcases h with (h | ⟨o, h⟩) | h
  · exact .inl (.inl (e _ _ h))
  · exact .inl (.inr ⟨o, e _ _ h⟩)
  · exact .inr h
theorem calls_dictP : CallS K G (rDictP K) fDictP := fun M H vs ds al b Qd h Q k => by
  match ds, h with
  | [.lst ds], ⟨ks, es, hl, nd, e, h⟩ =>
    obtain ⟨v, rfl, b1⟩ := b.one
    obtain ⟨a, xs, rfl, ha, r⟩ := b1.lst
    subst e
    obtain ⟨ps, zs, rfl, hz, rz, pr⟩ := pairs_of hl r
    refine ⟨a, ps, _, rfl, SqL.of ha, paired_map (fun p kv q => sqT_le (fun b o e => mask_le _ _ e) q) pr, fun q hq => ?_⟩
    rw [merge_new hz nd]
    exact k _ _ _ (same_new hq) (rn_dct hq hz rz) h
def rSetJ (K : PySem.W.Frag) (w : World) : List V → Hp → VK → Prop := fun vs H Q => ∃ (a : Addr) (ns : List Int), vs = [V.ref a] ∧ SqL K H a (ns.map V.int) ∧ ns.length < 1000 ∧
  ∀ (p : Addr) (ms : List Int), H p = none → ms.Nodup → (∀ k, k ∈ ms ↔ k ∈ ns) → Q (.ref p) (upd H p (SetO w p (fun j => decide (j ∈ ns)) ms.length))
def rLenS (w : World) : List V → Hp → VK → Prop := fun vs H Q => ∃ (a : Addr) (S : Int → Bool) (n : Nat), vs = [V.ref a] ∧ H a = some (SetO w a S n) ∧ n < 4096 ∧ Q (.int n) H
theorem cr_setJ (hc : X.calm = true) : CallR X (.type "set") (rSetJ X.K X.w) := by
  intro pins s σ H vs us Q I r h
  obtain ⟨a, ns, rfl, ha, hn, q⟩ := h
  rw [Vals.ref1 r]
  obtain ⟨its, rv, pl, hz⟩ := I.list ha
  have hi := ints_of_vals rv
  refine set_of_list ns (I.ok.hd hc) pl.isList (by simpa using hi) (by rw [show scanBound = 4096 from rfl]; omega) fun s2 ⟨h', tk, c, e, R, hc', k⟩ => ?_
  subst e
  obtain ⟨o, es, ep, t, z1, z2, z3, z4, z5, z6, z7, z8, z9, z10⟩ := id R
  have hm : ∀ k, k ∈ List.map keyOf es.toList ↔ k ∈ ns := fun k => by rw [← z6 k]; exact ⟨of_decide_eq_true, decide_eq_true⟩
  have hl : c = (List.map keyOf es.toList).length := by rw [List.length_map, Array.length_toList, z9]
  subst hl
  exact ⟨.ref _, _, I.laid (t' := tk) k (Nat.le_refl _) (setO_new R), rfl, q _ _ (I.hok.fresh (Nat.le_refl _)) z5 hm⟩
theorem cr_lenS : CallR X (.builtin "len") (rLenS X.w) := by
  intro pins s σ H vs us Q I r h
  obtain ⟨a, S, n, rfl, ha, hn, q⟩ := h
  rw [Vals.ref1 r]
  obtain ⟨o, es, ep, t, z1, z2, z3, z4, z5, z6, z7, z8, z9, z10⟩ := setO_get I ha
  refine call_len_set z1 z2 z3 z8 (by omega) ?_
  exact ⟨.int n, H, I.tok _, by rw [z9]; exact ⟨_, rfl⟩, q⟩
@[simp] def wLenSet (we : WE) : WE := fun δ Q => we δ fun r δ1 => ∃ ns : List Int, r.d = .lst (ns.map D.int) ∧ ns.length < 1000 ∧ ∀ ms : List Int, ms.Nodup → (∀ k, k ∈ ms ↔ k ∈ ns) → ms.length ≤ ns.length → Q (.sh (.int ms.length)) δ1
end
section
variable {X : Cx} {G : Gx} {K : PySem.W.Frag} {E : Ent} {te : TE} {we : WE} {e : Expr} {p p1 pos pos1 : Pos}
theorem len_sub {ms ns : List Int} (nd : ms.Nodup) (h : ∀ k, k ∈ ms ↔ k ∈ ns) : ms.length ≤ ns.length := List.Nodup.length_le_of_subset nd fun k hk => (h k).mp hk
theorem sim_lenSet (w : World) (h : SimE K G E te we) : SimE K G E (tCB (rLenS w) (tCons (tCB (rSetJ K w) (tCons te tNil)) tNil)) (wLenSet we) := fun am M σ δ H S Qd q Q k =>
  h am M σ δ H S _ q _ fun v r δ1 H1 S1 e1 o1 rv ⟨ns, er, hn, q⟩ => by
    have rb := rv.k.rb S1
    rw [er] at rb
    obtain ⟨p, xs, rfl, hp, rx⟩ := rb.lst
    rw [rx.ints] at hp
    refine ⟨p, ns, rfl, SqL.of hp, hn, fun p1 ms hp1 nd me => ?_⟩
    have hl := len_sub nd me
    have s1 := same_new (o := SetO w p1 (fun j => decide (j ∈ ns)) ms.length) hp1
    refine ⟨p1, _, ms.length, rfl, upd_same, by omega, ?_⟩
    exact k _ (.sh (.int ms.length)) δ1 _ (S1.grow s1) (e1.trans o1 (Ext.of (δ := δ1) s1)) o1 (RN.rv (r := .sh (.int ms.length)) S1 s1 rfl) (q ms nd me hl)
theorem de_lenSet (hc : X.calm = true) (he : DE X G e te we) (hg : Gl X "len") (hm : X.mg "len" = none) (hg1 : Gl X "set") (hm1 : X.mg "set" = none) (hst : starEach [e] X.env = (false, eval e X.env) :: starEach [] X.env := by rfl) (hpl : (backTo pos1 (starEach [] X.env)).any (·.1) = false := by rfl)
    (he1 : starEach [.Call (.Name "set" p1) [e] [] pos1] X.env = (false, eval (.Call (.Name "set" p1) [e] [] pos1) X.env) :: starEach [] X.env := by rfl) (hpl1 : (backTo pos (starEach [] X.env)).any (·.1) = false := by rfl) :
    DE X G (.Call (.Name "len" p) [.Call (.Name "set" p1) [e] [] pos1] [] pos) (tCB (rLenS X.w) (tCons (tCB (rSetJ X.K X.w) (tCons te tNil)) tNil)) (wLenSet we) :=
  ⟨pe_callB cr_lenS hg hm rfl (pa_cons (pe_callTy (cr_setJ hc) hg1 hm1 (by rfl) (pa_cons he.pe pa_nil hst) (by decide) (by decide) hst hpl) pa_nil he1) (by decide) (by decide) he1 hpl1, fun E => sim_lenSet X.w (he.sim E)⟩
end
end L3
namespace L3
open PySem PySem.Spec PyProof.Rows L2
section
variable {X : Cx} {G : Gx} {E : Ent} {o e : Expr} {apos pos : Pos} {td te : TE} {wd we : WE}
@[simp] def wDGetN (wd we : WE) : WE := fun δ Q => wd δ fun s δ1 => ¬ s.bor ∧ isDct s.d fun ks ds => we δ1 fun r δ2 => isK r.d fun k => Q (.sh ((dAt ks ds k).getD .non)) δ2
theorem sim_dgetN (hd : SimE X.K G E td wd) (he : SimE X.K G E te we) : SimE X.K G E (tDGet1 td te) (wDGetN wd we) := fun am M σ δ H S Qd w Q k => by
  refine hd am M σ δ H S _ w _ fun x s δ1 H1 S1 e1 o1 sv ⟨nb, w⟩ => ?_
  have rx := sv.k.rep nb
  generalize hsd : s.d = dd at w rx
  cases dd <;> first | exact w.elim | skip
  rename_i ks ds
  have w : we δ1 fun r δ2 => isK r.d fun k => Qd (.sh ((dAt ks ds k).getD .non)) δ2 := w
  obtain ⟨p, xs, rfl, hp, hl, rr⟩ := id rx
  refine ⟨p, rfl, .inl ⟨_, rd_same mask_le hp⟩, ?_⟩
  refine he am M σ δ1 H1 S1 _ w _ fun z r δ2 H2 S2 e2 o2 rv q => ?_
  obtain ⟨key, rfl, er, q⟩ := isK_of (rv.k.rb S2) q
  obtain ⟨p', xs', e', hp', hl', rr'⟩ := Rep.mono (S1.mask e2) (.dct ks ds) rx
  cases e'
  refine ⟨_, .inl ⟨_, key, rd_same mask_le hp', rfl, rfl⟩, ?_⟩
  rw [val_zip]
  refine k _ (.sh ((dAt ks ds key).getD .non)) δ2 H2 S2 (e1.trans o1 e2) (fun i z => o1 i (o2 i z)) ?_ q
  cases t : dAt ks ds key with
  | some d =>
    obtain ⟨v, hv, rv⟩ := rr'.at t
    rw [hv]; exact rv
  | none =>
    have : dAt ks xs' key = none := by
      have z1 := dAt_mem (k := key) hl'
      have z2 := dAt_mem (k := key) (ks := ks) (ds := ds) (by rw [hl', rr'.length])
      rw [t] at z2
      rw [← z2] at z1
      simpa using z1
    rw [this]; exact rfl
theorem de_dgetN (hu : X.A.units + 64 < cLine) (hx : DE X G o td wd) (he : DE X G e te we) (m : M1 X o "get" apos e pos) : DE X G (.Call (.Attribute o "get" apos) [e] [] pos) (tDGet1 td te) (wDGetN wd we) :=
  ⟨pe_dget1 (by omega) hx.pe he.pe m, fun _ => sim_dgetN (hx.sim _) (he.sim _)⟩
end
end L3
namespace L3
open PySem PySem.Spec PyProof.Rows L2
def fListV : FC
  | [.dct _ ds], Q => Q (.fr (.lst ds))
  | _, _ => False
@[simp] theorem fListV_0 (ks : List Key) (ds : List D) (Q : RD → Prop) : fListV [.dct ks ds] Q = Q (.fr (.lst ds)) := rfl
def rListV : List V → Hp → VK → Prop := fun xs H Q => ∃ (a : Addr) (kvs : List (Key × V)), xs = [.ref a] ∧ Rd H a (.dK kvs) ∧ ∀ p, H p = none → Q (.ref p) (upd H p (.lst (kvs.map (·.2))))
section
variable {X : Cx} {G : Gx} {K : PySem.W.Frag} {E : Ent} {te : TE} {we : WE} {e : Expr} {p apos cpos pos : Pos}
theorem kv_vals {κ : Type} {kvs : List (κ × V)} {vs : List (κ × Value)} (r : KV kvs vs) : Vals (kvs.map (·.2)) (vs.map (·.2)) := by
  unfold KV at r
  induction r with
  | nil => exact .nil
  | cons h t ih => exact .cons h.2 ih
theorem pe_listVals (hc : X.calm = true) (he : PE X e te) (hg : Gl X "list") (hm : X.mg "list" = none) (hv : bootBuiltins "list" = some (.type "list")) (hbase : attributeBase e "values" X.env (eval e X.env) = eval e X.env := by rfl) (hline : (apos.endLine == cpos.line) = true := by rfl)
    (hs : starEach [.Call (.Attribute e "values" apos) [] [] cpos] X.env = (false, eval (.Call (.Attribute e "values" apos) [] [] cpos) X.env) :: starEach [] X.env := by rfl) :
    PE X (.Call (.Name "list" p) [.Call (.Attribute e "values" apos) [] [] cpos] [] pos) (tCB rListV (tCons te tNil)) := by
  refine ⟨fun pins s σ H Q I hq => ?_⟩
  have hq : te σ H fun x H1 => rListV [x] H1 Q := hq
  refine wpAny_Call_Name_kw (ld_blt I hg hm hv ?_)
  refine PyProof.Rows.callWith_type1 ?_ hs rfl
  rw [hs]
  show wpAny _ _ (spliced ((false, eval (.Call (.Attribute e "values" apos) [] [] cpos) X.env) :: backTo pos (starEach [] X.env))) _ _ s
  refine Calls.spliced_cons ?_
  refine wpAny_Call_method (T := "dict") (id := "dict.values") hbase rfl hline F.plainAttrs_dict F.slot_dict_values F.type_dict_values (thn (he.run pins s σ H _ I hq) fun u s1 ⟨x, H1, I1, rx, d, kvs, ex, hd, q⟩ => ?_)
  injection ex with ex _
  subst ex
  obtain rfl : u = Value.ref d := rx
  obtain ⟨hz, hs0, vs, kv, hdo⟩ := dk_rd I1.hok hd
  obtain ⟨ep, hat⟩ := hdo.dictAt
  have lk : kvs.length = vs.length := Paired.length kv
  have I2 : Inv X pins σ H1 { s1 with heap := s1.heap.push { cls := .type "dict_values", data := .fields #[.ref d] } } := I1.kept (t' := s1.toks) fun b ob q => Heap.get?_push_of_some _ q
  refine ⟨hdo.typeIs, hdo.mapOf.noDict, ?_⟩
  show wpAny _ _ (callWith cpos (.builtin "dict.values") [.ref d] [] []) _ X.xe s1
  refine method_meetsIn F.slot_dict_values F.entry_dict_values rfl (PySem.evalArgs_none ⟨rfl, hdo.typeIs, F.args_dict_values_1 _, _, meets_dict_values (mixKind X.prog X.w) d hs0, ⟨vs, hdo⟩, ?_⟩)
  refine Calls.spliced_nil ?_
  refine PySem.W.kdl_call (PySem.W.kdl_values (knd := mixKind X.prog X.w) (kvs := vs) (ep := ep)) (I1.ok.hd hc) ⟨⟨_, Heap.get?_push_size _ rfl, rfl, rfl⟩, hat.push _⟩ (by omega) fun h' tk acc c' hk hD hacc => ?_
  have hve : acc.toList = vs.map (·.2) := PySem.W.kdl_vals_eq acc.toList (by rw [Array.length_toList]; exact hacc.1) fun j v e => hacc.2 j v (by rw [← Array.getElem?_toList]; exact e)
  have hvv := kv_vals kv
  rw [← hve] at hvv
  refine ⟨.ref _, upd H1 _ (.lst (kvs.map (·.2))), I2.laid (t' := tk) hk (Nat.le_refl _)
    (show ObjOk X.prog X.w _ _ _ (.lst (kvs.map (·.2))) from ⟨by rw [List.length_map]; exact hz, acc.toList, c', hvv, by rw [Array.toArray_toList]; exact hD⟩), rfl, q _ (I2.hok.fresh (Nat.le_refl _))⟩
theorem calls_listV : CallS K G rListV fListV := fun M H vs ds al b Qd h Q k => by
  match ds, h with
  | [.dct ks es], h =>
    obtain ⟨v, rfl, b1⟩ := b.one
    obtain ⟨p, xs, rfl, hp, hl, r⟩ := b1.dct
    refine ⟨p, _, rfl, hp, fun l hq => ?_⟩
    have e : (ks.zip xs).map (·.2) = xs := List.map_snd_zip (by omega)
    rw [e]
    exact k _ _ _ (same_new hq) (rn_lst hq r) h
theorem de_listVals (hc : X.calm = true) (he : DE X G e te we) (hm : X.mg "list" = none) (hg : Gl X "list" := by rfl) (hv : bootBuiltins "list" = some (.type "list") := by rfl) (hbase : attributeBase e "values" X.env (eval e X.env) = eval e X.env := by rfl) (hline : (apos.endLine == cpos.line) = true := by rfl)
    (hs : starEach [.Call (.Attribute e "values" apos) [] [] cpos] X.env = (false, eval (.Call (.Attribute e "values" apos) [] [] cpos) X.env) :: starEach [] X.env := by rfl) :
    DE X G (.Call (.Name "list" p) [.Call (.Attribute e "values" apos) [] [] cpos] [] pos) (tCB rListV (tCons te tNil)) (wCB fListV (wCons we wNil)) :=
  ⟨pe_listVals hc he.pe hg hm hv hbase hline hs, fun E => sim_cb calls_listV (sim_cons (he.sim E) sim_nil)⟩
end
end L3
namespace L3
open PySem L2
/-- these pairs, locked or not -/
def DKU (u : List (Key × V)) (o : HO) : Prop := o = .dK u ∨ ∃ od, o = .frz od (.dK u)
section
variable {K : PySem.W.Frag} {G : Gx} {H H' : Hp} {v : V} {M : List Addr} {E : Ent} {am : Nat → Addr} {σ : L2.St} {δ : St3} {d : Addr} {u : List (Key × V)} {o w : HO}
theorem swap_ne {a : Addr} {x : HO} (ho : H d = some o) (h1 : DKU u o) (h : H a = some x) (hx : ¬ DKU u x) : upd H d w a = some x := by
  have : a ≠ d := fun e => by
    subst e
    rw [ho] at h
    cases h
    exact hx h1
  rw [upd_ne this]; exact h
theorem rd_swap {a : Addr} {kvs : List (Key × V)} (ho : H d = some o) (h1 : DKU u o) (h2 : DKU u w) (h : Rd H a (.dK kvs)) : Rd (upd H d w) a (.dK kvs) := by
  by_cases e : a = d
  · subst e
    have ek : kvs = u := by
      rcases h with h | ⟨_, h⟩ <;> rw [ho] at h <;> cases h <;> rcases h1 with h1 | ⟨_, h1⟩ <;> cases h1 <;> rfl
    subst ek
    rcases h2 with h2 | ⟨z, h2⟩
    · exact .inl (by rw [upd_same, h2])
    · exact .inr ⟨z, by rw [upd_same, h2]⟩
  · rcases h with h | ⟨z, h⟩
    · exact .inl (by rw [upd_ne e]; exact h)
    · exact .inr ⟨z, by rw [upd_ne e]; exact h⟩
theorem dku_lst {xs : List V} : ¬ DKU u (.lst xs) := by rintro (z | ⟨_, z⟩) <;> cases z
theorem dku_tup {xs : List V} : ¬ DKU u (.tup xs) := by rintro (z | ⟨_, z⟩) <;> cases z
theorem dku_ftup {x : Obj} {xs : List V} : ¬ DKU u (.frz x (.tup xs)) := by
  rintro (z | ⟨_, z⟩)
  · cases z
  · injection z with _ z; cases z
theorem dku_ins {C : Addr} {dx : Addr} {fs : List (Str × V)} : ¬ DKU u (.ins C dx fs) := by rintro (z | ⟨_, z⟩) <;> cases z
theorem dku_xd {fs : List (Str × V)} : ¬ DKU u (.xd fs) := by rintro (z | ⟨_, z⟩) <;> cases z
theorem dku_ext {φ : Heap → Prop} : ¬ DKU u (.ext φ) := by rintro (z | ⟨_, z⟩) <;> cases z
theorem dku_dT {kvs : List (List Key × V)} : ¬ DKU u (.dT kvs) := by rintro (z | ⟨_, z⟩) <;> cases z
mutual
theorem Rep.swap (ho : H d = some o) (h1 : DKU u o) (h2 : DKU u w) : ∀ (D0 : D) {v}, Rep K G H v D0 → Rep K G (upd H d w) v D0
  | .non, _, h => h
  | .bl _, _, h => h
  | .int _, _, h => h
  | .str _, _, h => h
  | .lst ds, _, ⟨a, xs, e, q, r⟩ => ⟨a, xs, e, swap_ne ho h1 q dku_lst, RepAll.swap ho h1 h2 ds r⟩
  | .tup ds, _, ⟨a, xs, e, q, r⟩ => ⟨a, xs, e, by
      rcases q with (q | ⟨z, q⟩) | q
      · exact .inl (.inl (swap_ne ho h1 q dku_tup))
      · exact .inl (.inr ⟨z, swap_ne ho h1 q dku_ftup⟩)
      · exact .inr q, RepAll.swap ho h1 h2 ds r⟩
  | .dct ks ds, _, ⟨a, xs, e, q, l, r⟩ => ⟨a, xs, e, rd_swap ho h1 h2 q, l, RepAll.swap ho h1 h2 ds r⟩
  | .ins t ds, _, ⟨a, dx, xs, e, q, l, r⟩ => ⟨a, dx, xs, e, swap_ne ho h1 q dku_ins, l, RepAll.swap ho h1 h2 ds r⟩
  | .deck, _, h => h
  | .cls _, _, h => h
  | .raw _ _, _, ⟨a1, a2, ⟨φ, e⟩, a4⟩ => ⟨a1, swap_ne ho h1 a2 (by rw [e]; exact dku_ext), ⟨φ, e⟩, fun F q => swap_ne ho h1 (a4 F q) dku_ext⟩
  | .ptup ds, _, ⟨a, xs, o', e, q, c1, c2, r⟩ => ⟨a, xs, o', e, swap_ne ho h1 q dku_ftup, c1, c2, RepAll.swap ho h1 h2 ds r⟩
  | .ktup _, _, ⟨a, e, q⟩ => ⟨a, e, swap_ne ho h1 q dku_tup⟩
  | .exc _ _ _ ds, _, ⟨xs, e, q, l, r⟩ => ⟨xs, e, q.imp id fun ⟨da, q1, q2⟩ => ⟨da, q1, swap_ne ho h1 q2 dku_xd⟩, l, RepAll.swap ho h1 h2 ds r⟩
  | .dtt ks ds, _, ⟨a, xs, e, q, l, r⟩ => ⟨a, xs, e, swap_ne ho h1 q dku_dT, l, RepAll.swap ho h1 h2 ds r⟩
theorem RepAll.swap (ho : H d = some o) (h1 : DKU u o) (h2 : DKU u w) : ∀ (ds : List D) {vs}, RepAll K G H vs ds → RepAll K G (upd H d w) vs ds
  | [], _, h => h
  | d0 :: ds, _, ⟨x, xs, e, r, t⟩ => ⟨x, xs, e, Rep.swap ho h1 h2 d0 r, RepAll.swap ho h1 h2 ds t⟩
end
theorem mask_updN (hd : d ∉ M) : mask M (upd H d w) = upd (mask M H) d w := by
  funext a
  by_cases e : a = d
  · subst e
    rw [mask_out hd, upd_same, upd_same]
  · rw [upd_ne e]
    by_cases q : a ∈ M
    · rw [mask_in q, mask_in q]
    · rw [mask_out q, mask_out q, upd_ne e]
theorem Rep.swapM {D0 : D} (hd : d ∉ M) (ho : H d = some o) (h1 : DKU u o) (h2 : DKU u w) (h : Rep K G (mask M H) v D0) : Rep K G (mask M (upd H d w)) v D0 := by
  rw [mask_updN hd]
  exact Rep.swap (by rw [mask_out hd]; exact ho) h1 h2 D0 h
theorem RepAll.swapM {ds : List D} {vs : List V} (hd : d ∉ M) (ho : H d = some o) (h1 : DKU u o) (h2 : DKU u w) (h : RepAll K G (mask M H) vs ds) : RepAll K G (mask M (upd H d w)) vs ds := by
  rw [mask_updN hd]
  exact RepAll.swap (by rw [mask_out hd]; exact ho) h1 h2 ds h
theorem OwnAt.swapM {D0 : D} {p : Addr} (hd : d ∉ M) (hp : p ∈ M) (ho : H d = some o) (h1 : DKU u o) (h2 : DKU u w) (h : OwnAt K G M H p D0) : OwnAt K G M (upd H d w) p D0 := by
  have ne : p ≠ d := fun e => hd (e ▸ hp)
  cases D0 with
  | lst ds => obtain ⟨xs, q, r⟩ := h; exact ⟨xs, by rw [upd_ne ne]; exact q, r.swapM hd ho h1 h2⟩
  | dct ks ds => obtain ⟨xs, q, l, r⟩ := h; exact ⟨xs, by rw [upd_ne ne]; exact q, l, r.swapM hd ho h1 h2⟩
  | ins t ds => obtain ⟨dx, xs, q, l, r⟩ := h; exact ⟨dx, xs, by rw [upd_ne ne]; exact q, l, r.swapM hd ho h1 h2⟩
  | dtt ks ds => obtain ⟨xs, q, l, r⟩ := h; exact ⟨xs, by rw [upd_ne ne]; exact q, l, r.swapM hd ho h1 h2⟩
  | _ => exact h.elim
theorem SubAll.swapM (hd : d ∉ M) (ho : H d = some o) (h1 : DKU u o) (h2 : DKU u w) : ∀ {ss : List SubV} {xs : List V}, SubAll K G M H xs ss → SubAll K G M (upd H d w) xs ss
  | [], _, h => h
  | s :: ss, _, ⟨x, r, e, a, t⟩ => by
    subst e
    refine ⟨x, r, rfl, ?_, t.swapM hd ho h1 h2⟩
    cases s with
    | sh D0 => exact Rep.swapM hd ho h1 h2 a
    | ol ds =>
      obtain ⟨b, ys, e, q, rr⟩ := a
      exact ⟨b, ys, e, swap_ne ho h1 q dku_lst, rr.swapM hd ho h1 h2⟩
/-- a shared dict is locked, or unlocked -/
theorem SR.swap {H0' : Hp} (S : SR K G E am M σ δ H) (hd : d ∉ M) (ho : H d = some o) (h1 : DKU u o) (h2 : DKU u w) (b1 : ∀ b, b ≠ d → H0' b = E.H0 b) (b2 : ∀ o', H0' d = some o' → o' = w) (kE : G.okE ⟨H0', E.ads, E.gh, E.slf⟩) :
    SR K G ⟨H0', E.ads, E.gh, E.slf⟩ am M σ δ (upd H d w) where
  len := S.len
  sh := fun i D0 h => let ⟨v, a, b⟩ := S.sh i D0 h; ⟨v, a, b.swapM hd ho h1 h2⟩
  ow := fun i D0 h => let ⟨a, b, c, f, g⟩ := S.ow i D0 h; ⟨a, b, c, (b1 _ fun e => hd (e ▸ b)).trans f, g.swapM hd b ho h1 h2⟩
  inj := S.inj
  ads := S.ads
  dks := S.dks
  al := fun a h => by
    have ne : a ≠ d := fun e => hd (e ▸ h)
    rw [upd_ne ne]; exact S.al a h
  base := fun b o' h k => by
    have h : H0' b = some o' := h
    by_cases e : b = d
    · subst e
      rw [upd_same, b2 o' h]
    · rw [upd_ne e]
      exact S.base b o' (by rw [← b1 b e]; exact h) k
  di := G.frame _ _ _ (fun a o' ha q => by
    have ne : a ≠ d := fun e => by
      rcases ha with ha | ha
      · exact hd (e ▸ S.ads a (S.dks a ha))
      · rw [e] at q ha
        refine NoCode.of ho (fun φ z => ?_) _ q ha
        rcases h1 with h1 | ⟨od, h1⟩ <;> rw [h1] at z <;> cases z
    rw [upd_ne ne]; exact q) S.di
  gh := fun p hp => (S.gh p hp).swapM hd ho h1 h2
  slf := S.slf
  od := by
    refine ⟨fun i ks ss z => ?_, S.od.one⟩
    obtain ⟨xs, q⟩ := S.od.at' i ks ss z
    have ne : ∀ a ∈ am i :: subAds xs ss, a ≠ d := fun a ha e => hd (e ▸ (q.a a ha).1)
    exact ⟨xs, q.s, by rw [upd_ne (ne _ List.mem_cons_self)]; exact q.h, q.l, q.r.swapM hd ho h1 h2, q.nd, fun a ha => let ⟨x, y, z, t⟩ := q.a a ha; ⟨x, y, (b1 a (ne a ha)).trans z, t⟩⟩
  mc := fun a ha => by
    have ne : a ≠ d := fun e => hd (e ▸ ha)
    exact (S.mc a ha).same (S.al a ha) fun u e => by rw [upd_ne ne]; exact e
  ok := kE
end
@[simp] def wForD (i : Nat) (g : WG) (b : WS) : WS := fun De δ => ∃ ks ds, δ.sl[i]? = some (some (SV.sh (.dct ks ds))) ∧ wLoop g b De (ks.map keyD) δ
def tForD (i : Nat) (g : TG) (t : TS) : TS := fun D σ H => tLock (tFor (iKeys (tVar i)) g t) D σ H ∨ tFor (iKeys (tVar i)) g t D σ H
section
variable {X : Cx} {G : Gx} {K : PySem.W.Frag} {E : Ent} {am : Nat → Addr} {M : List Addr} {σ : L2.St} {δ : St3} {H : Hp} {g : TG} {wg : WG} {us : List Nat} {t : TS} {w : WS} {i : Nat}
theorem ps_or {st : Stmt} {t u : TS} (h : PS X st t) (h' : PS X st u) : PS X st (fun D σ H => t D σ H ∨ u D σ H) := ⟨fun pins s σ H D I q => q.elim (h.run pins s σ H D I) (h'.run pins s σ H D I)⟩
theorem forD_core (hg : SimG K G us g wg) (hb : SimS K G t w) {a : Addr} {od : Obj} {ks : List Key} {xs : List V} (S : SR K G E am M σ δ H) (hv : σ[i]? = some (some (.ref a))) (ha : E.H0 a = some (.frz od (.dK (ks.zip xs)))) (hk : a ∉ G.dk) (hl : ks.length = xs.length)
    {D3 : Ends3} {De : L2.Ends} (q : wLoop wg w D3 (ks.map keyD) δ) (R : EndsR K G E D3 De) : tFor (iKeys (tVar i)) g t De σ H := by
  have fz : ∀ {am : Nat → Addr} {M : List Addr} {σ : L2.St} {δ : St3} {H : Hp}, SR K G E am M σ δ H → H a = some (.frz od (.dK (ks.zip xs))) := fun S => S.base a _ ha hk
  have zl : (ks.zip xs).length = ks.length := by rw [List.length_zip, ← hl, Nat.min_self]
  refine ⟨.ref a, hv, a, od, rfl, .inl ⟨_, fz S, ?_⟩⟩
  refine ⟨fun j m σ H => m = ks.length - j ∧ j ≤ ks.length ∧ ∃ am M δ, SR K G E am M σ δ H ∧ wLoop wg w D3 ((ks.map keyD).drop j) δ, ⟨_, rfl, Nat.zero_le _, am, M, δ, S, q⟩, ?_⟩
  rintro j m σ H ⟨rfl, hle, am, M, δ, S, q⟩
  by_cases hlt : j < ks.length
  · refine .inr ⟨⟨fz S, by omega⟩, fun σ' H' => ∃ am M δ, SR K G E am M σ' δ H' ∧ wLoop wg w D3 ((ks.map keyD).drop (j + 1)) δ, fun σ' H' ⟨am, M, δ, S, q⟩ => ⟨_, by omega, rfl, hlt, am, M, δ, S, q⟩, ?_⟩
    rintro x H' ⟨rfl, k, v, hz, rfl⟩
    have hk2 : ks[j]? = some k := by
      have := congrArg (Option.map Prod.fst) hz
      rw [← List.getElem?_map, List.map_fst_zip (by omega)] at this
      exact this
    have hd : (ks.map keyD)[j]? = some (keyD k) := by rw [List.getElem?_map, hk2]; rfl
    have hlt' : j < (ks.map keyD).length := by simpa using hlt
    have he : (ks.map keyD)[j] = keyD k := by
      rw [List.getElem?_eq_getElem hlt'] at hd
      exact Option.some.inj hd
    rw [List.drop_eq_getElem_cons hlt', he] at q
    refine hg _ am M σ δ H' S (kV k) (keyD k) (by cases k <;> rfl) _ q _ fun σ2 δ2 S2 _ _ q => ?_
    exact hb _ am M σ2 δ2 H' S2 _ q _ ⟨fun am M σ δ H S q => ⟨am, M, δ, S, q⟩, fun am M σ δ H S q => R.nx am M σ δ H S q, fun am M σ δ H S q => ⟨am, M, δ, S, q⟩, R.rt⟩
  · have e : j = ks.length := by omega
    rw [e, List.drop_eq_nil_of_le (by simp)] at q
    exact .inl ⟨⟨fz S, by omega⟩, R.nx am M σ δ H S q⟩
theorem sim_forD (hg : SimG K G us g wg) (hb : SimS K G t w) (kA : ∀ E, G.okE E) : SimS K G (tForD i g t) (wForD i wg w) := fun E am M σ δ H S D3 ⟨ks, ds, hi, q⟩ De R => by
  obtain ⟨v, hv, a, xs, rfl, hr, hl, rr⟩ := S.sh i _ hi
  have aM : a ∉ M := rd_out hr
  have aA : a ∉ E.ads := fun z => aM (S.ads a z)
  have aK : a ∉ G.dk := fun z => aA (S.dks a z)
  have gh : Rep K G (mask M H) (.ref a) (.dct ks ds) := ⟨a, xs, rfl, hr, hl, rr⟩
  have upA : ∀ {od : Obj}, upd E.H0 a (.frz od (.dK (ks.zip xs))) a = some (.frz od (.dK (ks.zip xs))) := upd_same
  have main : ∀ (o : HO) (od : Obj) (De' : L2.Ends), H a = some o → DKU (ks.zip xs) o → EndsR K G ⟨upd E.H0 a (.frz od (.dK (ks.zip xs))), E.ads, (.ref a, .dct ks ds) :: E.gh, E.slf⟩ D3 De' → tFor (iKeys (tVar i)) g t De' σ (upd H a (.frz od (.dK (ks.zip xs)))) := fun o od De' ho h1 R' => by
    have S1 := S.swap (H0' := upd E.H0 a (.frz od (.dK (ks.zip xs)))) (w := .frz od (.dK (ks.zip xs))) aM ho h1 (.inr ⟨od, rfl⟩) (fun b hb => upd_ne hb) (fun o' h => by rw [upd_same] at h; exact (Option.some.inj h).symm) (kA _)
    have S2 : SR K G ⟨upd E.H0 a (.frz od (.dK (ks.zip xs))), E.ads, (.ref a, .dct ks ds) :: E.gh, E.slf⟩ am M σ δ (upd H a (.frz od (.dK (ks.zip xs)))) :=
      S1.addgh [(.ref a, .dct ks ds)] fun p hp => by
        have : p = (V.ref a, D.dct ks ds) := by simpa using hp
        subst this
        exact gh.swapM aM ho h1 (.inr ⟨od, rfl⟩)
    exact forD_core hg hb S2 hv upA aK hl q R'
  have back : ∀ (o : HO) (od : Obj), H a = some o → DKU (ks.zip xs) o → ∀ (am : Nat → Addr) (M' : List Addr) (σ : L2.St) (δ : St3) (H' : Hp), SR K G ⟨upd E.H0 a (.frz od (.dK (ks.zip xs))), E.ads, (.ref a, .dct ks ds) :: E.gh, E.slf⟩ am M' σ δ H' →
      H' a = some (.frz od (.dK (ks.zip xs))) ∧ SR K G E am M' σ δ (upd H' a o) := fun o od ho h1 am M' σ δ H' S' => by
    have ha : H' a = some (.frz od (.dK (ks.zip xs))) := S'.base a _ upA aK
    have aM' : a ∉ M' := by
      obtain ⟨a', _, e, hr, _⟩ := S'.gh (.ref a, .dct ks ds) List.mem_cons_self
      cases e
      exact rd_out hr
    refine ⟨ha, ?_⟩
    exact (S'.ungh (l' := E.gh) (fun p hp => List.mem_cons_of_mem _ hp) (kA _)).swap (H0' := E.H0) (w := o) aM' ha (.inr ⟨od, rfl⟩) h1 (fun b hb => (upd_ne hb).symm) (fun o' h => Option.some.inj ((S.base a o' h aK).symm.trans ho)) S.ok
  have backR : ∀ (o : HO) (od : Obj), H a = some o → DKU (ks.zip xs) o → ∀ (v : V) (d : D) (n : Nat) (H' : Hp), Rep K G (mask E.ads H') v d → (∀ b o', upd E.H0 a (.frz od (.dK (ks.zip xs))) b = some o' → b ∉ G.dk → H' b = some o') → G.DI n H' → D3.rt d n →
      H' a = some (.frz od (.dK (ks.zip xs))) ∧ De.rt v (upd H' a o) := fun o od ho h1 v d n H' rv hb di q => by
    have ha : H' a = some (.frz od (.dK (ks.zip xs))) := hb a _ upA aK
    refine ⟨ha, R.rt v d n _ (rv.swapM aA ha (.inr ⟨od, rfl⟩) h1) (fun b u hu hk => ?_) (G.frame _ _ _ (fun b u hb' hu => by
      have ne : b ≠ a := fun e => by
        rcases hb' with hb' | hb'
        · exact aK (by rw [← e]; exact hb')
        · rw [e] at hu hb'
          exact NoCode.of ha (fun _ => HO.noConfusion) _ hu hb'
      rw [upd_ne ne]; exact hu) di) q⟩
    by_cases e : b = a
    · subst e
      rw [upd_same]
      exact ho.symm.trans (S.base b u hu hk)
    · rw [upd_ne e]
      exact hb b u (by rw [upd_ne e]; exact hu) hk
  rcases rd_same mask_le hr with ho | ⟨od, ho⟩
  · refine .inl ⟨a, _, ho, trivial, fun od => main _ od _ ho (.inl rfl) ⟨?_, ?_, ?_, ?_⟩⟩
    · exact fun am M σ δ H S p => let ⟨x, y⟩ := back _ od ho (.inl rfl) am M σ δ H S; ⟨x, R.nx _ _ _ _ _ y p⟩
    · exact fun am M σ δ H S p => let ⟨x, y⟩ := back _ od ho (.inl rfl) am M σ δ H S; ⟨x, R.bk _ _ _ _ _ y p⟩
    · exact fun am M σ δ H S p => let ⟨x, y⟩ := back _ od ho (.inl rfl) am M σ δ H S; ⟨x, R.ct _ _ _ _ _ y p⟩
    · exact fun v d n H' rv hb di p => backR _ od ho (.inl rfl) v d n H' rv hb di p
  · have eu : ∀ {H' : Hp} {o : HO}, H' a = some o → upd H' a o = H' := fun {H' o} h => by
      funext b
      by_cases e : b = a
      · subst e; rw [upd_same, h]
      · rw [upd_ne e]
    have m := main _ od De ho (.inr ⟨od, rfl⟩) ⟨
      fun am M σ δ H S p => by
        obtain ⟨x, y⟩ := back _ od ho (.inr ⟨od, rfl⟩) am M σ δ H S
        rw [eu x] at y; exact R.nx _ _ _ _ _ y p,
      fun am M σ δ H S p => by
        obtain ⟨x, y⟩ := back _ od ho (.inr ⟨od, rfl⟩) am M σ δ H S
        rw [eu x] at y; exact R.bk _ _ _ _ _ y p,
      fun am M σ δ H S p => by
        obtain ⟨x, y⟩ := back _ od ho (.inr ⟨od, rfl⟩) am M σ δ H S
        rw [eu x] at y; exact R.ct _ _ _ _ _ y p,
      fun v d n H' rv hb di p => by
        obtain ⟨x, y⟩ := backR _ od ho (.inr ⟨od, rfl⟩) v d n H' rv hb di p
        rw [eu x] at y; exact y⟩
    rw [eu ho] at m
    exact .inr m
theorem ds_forD (i : Nat) {x : Str} {px pos : Pos} {tg : Expr} {a : List Stmt} (hp : PassesOwn (model X.prog X.w) X.A X.env X.xe) (hc : X.calm = true) (hx : PE X (.Name x px) (tVar i)) (hg : DG X G tg us g wg) (hb : DSs X G a t w) (kA : ∀ E, G.okE E := by exact fun _ => trivial) (hs : ∀ y, foldedSetIterable (.Name x px) X.env y = pure y := by intro _; rfl) :
    DS X G (.For tg (.Name x px) a [] pos) (tForD i g t) (wForD i wg w) := ⟨ps_or (ps_lock (ps_for hp hc (pi_keys hx) hg.pg hb.ps hs)) (ps_for hp hc (pi_keys hx) hg.pg hb.ps hs), sim_forD hg.sim hb.sim kA⟩
end
end L3
namespace L3
open PySem PySem.Spec PyProof.Rows L2
def fIsB (neg : Bool) : F2
  | .bl a, .bl b, Q => Q (.sh (.bl (if neg then !decide (a = b) else decide (a = b))))
  | _, _, _ => False
@[simp] theorem fIsB_f (a b : Bool) (Q : RD → Prop) : fIsB false (.bl a) (.bl b) Q = Q (.sh (.bl (decide (a = b)))) := rfl
@[simp] theorem fIsB_t (a b : Bool) (Q : RD → Prop) : fIsB true (.bl a) (.bl b) Q = Q (.sh (.bl (!decide (a = b)))) := rfl
def rIsB (neg : Bool) : R2 := fun x y H Q => ∃ a b : Bool, x = .bl a ∧ y = .bl b ∧ Q (.bl (if neg then !decide (a = b) else decide (a = b))) H
section
variable {X : Cx} {G : Gx} {K : PySem.W.Frag}
theorem op_isB : OpR X (compareOp .Is) (rIsB false) := by
  intro pins s σ H x y v u Q I rx ry h
  obtain ⟨a, b, rfl, rfl, q⟩ := h
  cases rx
  cases ry
  show wpAny _ _ ((isSame (Value.bool a) (Value.bool b)) >>= fun z => pure (Value.bool z)) _ _ s
  refine wpAny_bind (wpAny_isSame_plain (by cases a <;> cases b <;> rfl) (wpAny_pure (fin_bl I q ?_)))
  cases a <;> cases b <;> rfl
theorem op_notB : OpR X (compareOp .IsNot) (rIsB true) := by
  intro pins s σ H x y v u Q I rx ry h
  obtain ⟨a, b, rfl, rfl, q⟩ := h
  cases rx
  cases ry
  show wpAny _ _ ((isSame (Value.bool a) (Value.bool b)) >>= fun z => pure (Value.bool (!z))) _ _ s
  refine wpAny_bind (wpAny_isSame_plain (by cases a <;> cases b <;> rfl) (wpAny_pure (fin_bl I q ?_)))
  cases a <;> cases b <;> rfl
theorem ops_isB (neg : Bool) : OpS K G (rIsB neg) (fIsB neg) := fun M H x y d e al bx by' Qd h Q k => by
  cases d <;> first | exact h.elim | skip
  cases e <;> first | exact h.elim | skip
  rename_i a b
  exact ⟨a, b, bx.bl, by'.bl, k _ _ H (Same.refl _) rn_bl h⟩
end
section
variable {X : Cx} {G : Gx} {te : TE} {we : WE} {e : Expr} {p p1 pos pos1 : Pos}
theorem de_sortSetTK (K : PySem.W.Frag) (w : World) (hc : X.calm = true) (he : DE X G e te we) (hm : X.mg "sorted" = none) (hm1 : X.mg "set" = none) (hg : Gl X "sorted" := by rfl) (hg1 : Gl X "set" := by rfl) (hst : starEach [e] X.env = (false, eval e X.env) :: starEach [] X.env := by rfl) (hpl : (backTo pos1 (starEach [] X.env)).any (·.1) = false := by rfl)
    (he1 : starEach [.Call (.Name "set" p1) [e] [] pos1] X.env = (false, eval (.Call (.Name "set" p1) [e] [] pos1) X.env) :: starEach [] X.env := by rfl) (hpl1 : (backTo pos (starEach [] X.env)).any (·.1) = false := by rfl) (hK : X.K = K := by rfl) (hw : X.w = w := by rfl) :
    DE X G (.Call (.Name "sorted" p) [.Call (.Name "set" p1) [e] [] pos1] [] pos) (tCB (rSortedSet w) (tCons (tCB (rSetIT K w) (tCons te tNil)) tNil)) (wSortSetT we) := by
  subst hK hw
  exact de_sortSetT hc he hg hm hg1 hm1 hst hpl he1 hpl1
end
end L3
namespace L3
open PySem PySem.Spec PyProof.Rows L2
section
variable {prog : Program} {w : World} {A : Around} {E : Value → Shared → Prop} {s : Shared}
theorem places_rev (n : Nat) : Builtin.Slice.slicePlaces ((n : Int) - 1) (-1) (-1) = n := by
  unfold Builtin.Slice.slicePlaces
  rw [if_neg (by decide)]
  have e : ∀ z : Int, z / (- (-1 : Int)) = z := fun z => by simp
  rw [e]
  by_cases h : ((n : Int) - 1) > -1
  · rw [if_pos h]; omega
  · rw [if_neg h]; omega
theorem sliceApplied_rev {sl : Addr} {t : Tok} {n : Nat} {Q : Int × Int × Nat → Shared → Prop} (hs : s.heap.IsSliceOf sl .none .none (.int (-1) t))
    (h : Q ((n : Int) - 1, -1, n) s) : wpAny (model prog w) A (Builtin.Slice.sliceApplied (.ref sl) (pure (n : Int))) Q E s := by
  obtain ⟨os, hos, hcs, hds⟩ := id hs
  unfold Builtin.Slice.sliceApplied Builtin.Slice.sliceFields
  refine wpAny_bind (wpAny_bind (wpAny_field hos hds (x := .none) rfl (wpAny_bind (wpAny_field hos hds (x := .none) rfl (wpAny_bind (wpAny_field hos hds (x := .int (-1) t) rfl (wpAny_pure ?_)))))))
  refine wpAny_bind (slicePart_int ?_)
  show wpAny _ _ (if ((-1 : Int) == 0) = true then _ else _) _ _ s
  rw [if_neg (by decide)]
  refine wpAny_bind (slicePart_none (wpAny_bind (slicePart_none (wpAny_bind (wpAny_pure ?_)))))
  show wpAny _ _ (pure ((n : Int) - 1, (-1 : Int), Builtin.Slice.slicePlaces ((n : Int) - 1) (-1) (-1))) _ _ s
  rw [places_rev]
  exact wpAny_pure h
theorem pick_rev (xs : Array Value) : ((List.range xs.size).filterMap fun (m : Nat) => xs[(((xs.size : Nat) : Int) - 1 + (m : Int) * (-1)).toNat]?).toArray = xs.toList.reverse.toArray := by
  congr 1
  have e : (List.range xs.size).filterMap (fun (m : Nat) => xs[(((xs.size : Nat) : Int) - 1 + (m : Int) * (-1)).toNat]?) = (List.range xs.size).filterMap fun m => xs.toList.reverse[m]? := by
    have fc : ∀ {l : List Nat} {f g : Nat → Option Value}, (∀ m ∈ l, f m = g m) → l.filterMap f = l.filterMap g := fun {l f g} h => by
      induction l with
      | nil => rfl
      | cons a l ih => rw [List.filterMap_cons, List.filterMap_cons, h a (by simp), ih fun m hm => h m (by simp [hm])]
    refine fc fun m hm => ?_
    have hm := List.mem_range.mp hm
    rw [List.getElem?_reverse (by simpa using hm)]
    have : (((xs.size : Nat) : Int) - 1 + (m : Int) * (-1)).toNat = xs.toList.length - 1 - m := by simp; omega
    rw [this]
    simp
  rw [e]
  have : ∀ (l : List Value), (List.range l.length).filterMap (fun m => l[m]?) = l := fun l => by
    induction l with
    | nil => rfl
    | cons a l ih =>
      rw [List.length_cons, List.range_succ_eq_map, List.filterMap_cons]
      simp only [List.getElem?_cons_zero]
      rw [List.filterMap_map]
      simpa [Function.comp_def] using ih
  simpa using this xs.toList.reverse
theorem getItem_tuple_rev {t sl : Addr} {items : Array Value} {tk : Tok} {Q : Value → Shared → Prop} (ht : IsTup s.heap t items) (hs : s.heap.IsSliceOf sl .none .none (.int (-1) tk))
    (h : Q (.ref s.heap.objs.size) { s with heap := s.heap.push { cls := .type "tuple", data := .seq items.toList.reverse.toArray } })
    (hsz : items.size ≤ sizeLine) : wpAny (model prog w) A (getItem (.ref t) (.ref sl)) Q E s := by
  have htake : sizeOk (.seq items.toList.reverse.toArray) := by
    show items.toList.reverse.toArray.size ≤ sizeLine
    rw [List.size_toArray, List.length_reverse, Array.length_toList]
    exact hsz
  obtain ⟨os, hos, hcs, hds⟩ := id hs
  have hTs : s.TypeIs (.ref sl) "slice" := ⟨os, hos, hcs⟩
  unfold getItem
  try with_reducible refine wpAny_holding ?_
  first | refine wpAny_bind (wpAny_pure ?_) | skip
  refine wpAny_bind (wpAny_sequenceKey ht.typeIs (by decide) ?_)
  refine wpAny_bind (wpAny_callSpecial?_slot (name := Str.ofString "__getitem__") ht.typeIs PyProof.Rows.slot_tuple_getitem
    (wpAny_call_entry PyProof.Rows.slot_tuple_getitem ht.typeIs entry_tuple_getitem ?_ (args_tuple_getitem _ _)))
  show wpAny _ _ (Builtin.Tuple.tupleItemsOf (.ref t) >>= _) _ _ s
  refine wpAny_bind (tupleItemsOf_ ht ?_)
  refine wpAny_bind (wpAny_typeOf hTs ?_)
  rw [if_pos (by decide)]
  refine wpAny_bind (sliceApplied_rev hs ?_)
  have hno : ¬ ((((items.size : Nat) : Int) - 1 == 0 && (-1 : Int) == 1 && items.size == items.size) = true) := by
    intro q
    rw [Bool.and_eq_true, Bool.and_eq_true] at q
    exact absurd q.1.2 (by decide)
  show wpAny _ _ (if (((items.size : Nat) : Int) - 1 == 0 && (-1 : Int) == 1 && items.size == items.size) = true then _ else _) _ _ s
  rw [if_neg hno, pick_rev]
  first
    | exact wpAny_bind (m := Builtin.Tuple.tupleExact _) (wpAny_newObj_type (wpAny_pure ⟨_, rfl, wpAny_pure h⟩) htake)
    | exact wpAny_bind (m := Builtin.Tuple.tupleExact _) (wpAny_newObj_type (wpAny_bind (wpAny_pure (wpAny_pure ⟨_, rfl, wpAny_pure h⟩))) htake)
    | exact wpAny_bind (wpAny_bind (m := Builtin.Tuple.tupleExact _) (wpAny_newObj_type (wpAny_pure (wpAny_pure ⟨_, rfl, wpAny_pure h⟩)) htake))
    | exact wpAny_bind (wpAny_bind (m := Builtin.Tuple.tupleExact _) (wpAny_newObj_type (wpAny_pure ⟨_, rfl, wpAny_pure h⟩) htake))
end
section
variable {X : Cx}
def tRevT (K : PySem.W.Frag) (te : TE) : TE := fun σ H Q => te σ H fun x H1 => ∃ a xs, x = .ref a ∧ SqT K H1 a xs ∧ ∀ p, H1 p = none → Q (.ref p) (upd H1 p (.tup xs.reverse))
theorem pe_revT {e : Expr} {te : TE} {k : Nat} {p1 p2 p3 pos : Pos} (he : PE X e te) : PE X (.Subscript e (.Slice none none (some (.UnaryOp .USub (.Constant (.int 1) k p1) p2)) p3) pos) (tRevT X.K te) := by
  refine ⟨fun pins s σ H Q I h => ?_⟩
  refine Subscript_ (thn (he.run pins s σ H _ I h) fun v s1 ⟨x, H1, I1, r1, q1⟩ => ?_)
  obtain ⟨a, xs, ex, hx, q⟩ := q1
  subst ex
  cases r1
  have hst : PO X (some (.UnaryOp .USub (.Constant (.int 1) k p1) p2)) (tPart (tUn (rU fun i => .int (-i)) (tC (.int 1)))) := po_some (pe_un un_neg pe_int)
  refine wpAny_Slice (thn (po_none.run pins s1 σ H1 (fun o H2 => o = none ∧ H2 = H1) I1 ⟨rfl, rfl⟩) fun vl s2 ⟨l, H2, I2, pl, el, e2⟩ => ?_)
  subst el e2
  refine thn (po_none.run pins s2 σ H2 (fun o H3 => o = none ∧ H3 = H2) I2 ⟨rfl, rfl⟩) fun vu s3 ⟨u, H3, I3, pu, eu, e3⟩ => ?_
  subst eu e3
  refine thn (hst.run pins s3 σ H3 (fun o H4 => o = some (-1) ∧ H4 = H3) I3 ⟨1, rfl, -1, rfl, rfl, rfl⟩) fun vs s4 ⟨o, H4, I4, ps, eo, e4⟩ => ?_
  subst eo e4
  cases pl
  cases pu
  cases ps with
  | int i t =>
    have I5 : Inv X pins σ H4 { s4 with heap := s4.heap.push { cls := .type "slice", data := .fields #[.none, .none, .int (-1) t] } } := I4.kept (t' := s4.toks) fun b ob q => Heap.get?_push_of_some _ q
    obtain ⟨its, r, ht, hz⟩ := I5.tuple hx
    have hlen := r.length
    show wpAny (model X.prog X.w) X.A (subscriptTail e (.Slice none none (some (.UnaryOp .USub (.Constant (.int 1) k p1) p2)) p3) (.ref a) (.ref s4.heap.objs.size)) (EP X pins σ Q) X.xe { s4 with heap := s4.heap.push { cls := .type "slice", data := .fields #[.none, .none, .int (-1) t] } }
    refine tail_any (ops := [.ref a, .ref s4.heap.objs.size]) ht.typeIs (PyProof.Rows.slot_tuple_getitem.lookup) ?_ (by with_unfolding_all rfl)
    refine getItem_tuple_rev ht (Heap.IsSliceOf.new _ .none .none (.int (-1) t)) ?_ (by rw [List.size_toArray]; omega)
    refine ⟨.ref _, _, I5.laid (t' := s4.toks) (o := .tup xs.reverse) (fun b ob q => Heap.get?_push_of_some _ q) (Nat.le_refl _) ?_, rfl, q _ (I5.hok.fresh (Nat.le_refl _))⟩
    exact ⟨by rw [List.length_reverse]; exact hz, _, r.reverse, ⟨_, Heap.get?_push_size _ rfl, rfl, 0, rfl⟩⟩
end
section
variable {X : Cx} {G : Gx} {K : PySem.W.Frag} {E : Ent} {e e1 e2 : Expr} {te t1 t2 : TE} {we w1 w2 : WE} {pos : Pos}
@[simp] def wRevT (w : WE) : WE := fun δ Q => w δ fun r δ1 => ∃ ds, r.d = .tup ds ∧ Q (.sh (.tup ds.reverse)) δ1
theorem de_revT {k : Nat} {p1 p2 p3 : Pos} (K : PySem.W.Frag) (he : DE X G e te we) (hK : X.K = K := by rfl) : DE X G (.Subscript e (.Slice none none (some (.UnaryOp .USub (.Constant (.int 1) k p1) p2)) p3) pos) (tRevT K te) (wRevT we) := by
  subst hK
  refine ⟨pe_revT he.pe, fun E am M σ δ H S Qd q Q k => he.sim E am M σ δ H S _ q _ fun v r δ1 H1 S1 e1 o1 rv ⟨ds, er, q⟩ => ?_⟩
  have rb := rv.k.rb S1
  rw [er] at rb
  obtain ⟨p, xs, rfl, hp, r⟩ := rb.tup
  refine ⟨p, xs, rfl, hp, fun l hl => ?_⟩
  exact k _ _ δ1 _ (S1.grow (same_new hl)) (e1.trans o1 (Ext.of (δ := δ1) (same_new hl))) o1 ((rn_tup S1.al hl r.reverse).rv S1 (same_new hl)) q
@[simp] def wSet2 (k a b : Nat) (w1 w2 : WE) : WS := fun De δ => w1 δ fun r δ1 => ¬ r.bor ∧ w2 δ1 fun s δ2 => ¬ s.bor ∧ ∃ ds u v, ownL δ2 k ds ∧ δ2.sl[a]? = some (some (.sh (.int u))) ∧ δ2.sl[b]? = some (some (.sh (.int v))) ∧
  ∃ i j, ixN ds.length u = some i ∧ ixN ds.length v = some j ∧ De.nx ⟨δ2.sl.set k (some (.ow (.lst ((ds.set i r.d).set j s.d)))), δ2.n⟩
theorem sim_set2 {k a b : Nat} (h1 : ∀ E, SimE K G E t1 w1) (h2 : ∀ E, SimE K G E t2 w2) : SimS K G (tAsg (tTup (tCons t1 (tCons t2 tNil))) (gTup K 2 (gCons (gSub (tVar k) (tVar a) rSetL) (gCons (gSub (tVar k) (tVar b) rSetL) gNil)))) (wSet2 k a b w1 w2) := fun E am M σ δ H S D3 q De R => by
  refine h1 E am M σ δ H S _ q _ fun x rx δ1 H1 S1 e1 o1 v1 ⟨nb1, q⟩ => ?_
  refine h2 E am M σ δ1 H1 S1 _ q _ fun y ry δ2 H2 S2 e2 o2 v2 ⟨nb2, ds, u, v, ho, ha, hb, i, j, hi, hj, q⟩ => ?_
  have r1 := (v1.k.later (δ2 := δ2) S1 e2 (fun b => (nb1 b).elim)).rep nb1
  have r2 := v2.k.rep nb2
  refine ⟨(by decide : 2 ≤ sizeLine), fun p hp => ⟨p, [x, y], rfl, .inl (.inl upd_same), rfl, ?_⟩⟩
  have sm := same_new (H := H2) (o := .tup [x, y]) hp
  have S3 := S2.grow sm
  obtain ⟨b1, b2, b3, b4, xs, b5, b6⟩ := S3.ow k _ ho
  obtain ⟨ua, ea, ra⟩ := S3.sh a _ ha
  obtain ⟨ub, eb, rb⟩ := S3.sh b _ hb
  have S4 := S3.mut (d' := .lst (ds.set i rx.d)) ho ⟨xs.set i x, upd_same, by rw [mask_upd b2]; exact b6.set i (r1.mono (mask_mono sm))⟩ rfl
  have kl : k < δ2.sl.length := (List.getElem?_eq_some_iff.mp ho).1
  have ho4 : (δ2.sl.set k (some (SV.ow (.lst (ds.set i rx.d)))))[k]? = some (some (SV.ow (.lst (ds.set i rx.d)))) := by rw [List.getElem?_set_self kl]
  obtain ⟨c1, c2, c3, c4, ys, c5, c6⟩ := S4.ow k _ ho4
  have S5 := S4.mut (d' := .lst ((ds.set i rx.d).set j ry.d)) ho4 ⟨ys.set j y, upd_same, by rw [mask_upd c2]; exact c6.set j (by rw [mask_upd b2]; exact r2.mono (mask_mono sm))⟩ rfl
  have el : ys.length = ds.length := by rw [c6.length, List.length_set]
  refine ⟨x, [y], rfl, ⟨_, b1, _, ea, am k, xs, u, i, rfl, ra, b5, by rw [b6.length]; exact hi, ?_⟩⟩
  refine ⟨y, [], rfl, ⟨_, c1, _, eb, am k, ys, v, j, rfl, rb, c5, by rw [el]; exact hj, rfl, ?_⟩⟩
  refine R.nx am M _ _ _ S5 ?_
  show D3.nx ⟨(δ2.sl.set k _).set k _, δ2.n⟩
  rw [List.set_set]
  exact q
theorem ds_set2 (K : PySem.W.Frag) (k a b : Nat) {x ia ib : Str} {px px' pa pb q1 q2 pt pt2 : Pos} {kt k2} (hc : X.calm = true) (h1 : DE X G e1 t1 w1) (h2 : DE X G e2 t2 w2) (hx : PE X (.Name x px) (tVar k)) (hx' : PE X (.Name x px') (tVar k)) (ha : PE X (.Name ia pa) (tVar a)) (hb : PE X (.Name ib pb) (tVar b))
    (hst : starEach [e1, e2] X.env = (false, eval e1 X.env) :: starEach [e2] X.env := by rfl) (hst2 : starEach [e2] X.env = (false, eval e2 X.env) :: starEach [] X.env := by rfl)
    (hsa : ∀ v, assign (.Subscript (.Name x px) (.Name ia pa) q1) X.env v = (do
      let ov ← holding [v] (eval (.Name x px) X.env)
      let iv ← holding [v, ov] (eval (.Name ia pa) X.env)
      standAt q1
      holding [v, ov, iv] (setItem ov iv v)
      release [v, ov, iv] []) := by intro _; rfl)
    (hsb : ∀ v, assign (.Subscript (.Name x px') (.Name ib pb) q2) X.env v = (do
      let ov ← holding [v] (eval (.Name x px') X.env)
      let iv ← holding [v, ov] (eval (.Name ib pb) X.env)
      standAt q2
      holding [v, ov, iv] (setItem ov iv v)
      release [v, ov, iv] []) := by intro _; rfl)
    (hw : swappedStores [.Tuple [.Subscript (.Name x px) (.Name ia pa) q1, .Subscript (.Name x px') (.Name ib pb) q2] kt pt] (.Tuple [e1, e2] k2 pt2) X.env = pure none := by rfl)
    (hs : swapsWithSole [.Tuple [.Subscript (.Name x px) (.Name ia pa) q1, .Subscript (.Name x px') (.Name ib pb) q2] kt pt] (.Tuple [e1, e2] k2 pt2) pos.line X.env = pure false := by rfl)
    (h3 : (assignEach [.Tuple [.Subscript (.Name x px) (.Name ia pa) q1, .Subscript (.Name x px') (.Name ib pb) q2] kt pt] X.env).map (·.2) = [assign (.Tuple [.Subscript (.Name x px) (.Name ia pa) q1, .Subscript (.Name x px') (.Name ib pb) q2] kt pt) X.env] := by rfl)
    (hs1 : (assignEach [.Subscript (.Name x px) (.Name ia pa) q1, .Subscript (.Name x px') (.Name ib pb) q2] X.env).map (·.2) = assign (.Subscript (.Name x px) (.Name ia pa) q1) X.env :: (assignEach [.Subscript (.Name x px') (.Name ib pb) q2] X.env).map (·.2) := by rfl)
    (hs2 : (assignEach [.Subscript (.Name x px') (.Name ib pb) q2] X.env).map (·.2) = assign (.Subscript (.Name x px') (.Name ib pb) q2) X.env :: (assignEach [] X.env).map (·.2) := by rfl)
    (hn : (assignEach [.Subscript (.Name x px) (.Name ia pa) q1, .Subscript (.Name x px') (.Name ib pb) q2] X.env).length = 2 := by rfl) (hst' : (assignEach [.Subscript (.Name x px) (.Name ia pa) q1, .Subscript (.Name x px') (.Name ib pb) q2] X.env).findIdx? (·.1) = none := by rfl) (hK : X.K = K := by rfl) :
    DS X G (.Assign [.Tuple [.Subscript (.Name x px) (.Name ia pa) q1, .Subscript (.Name x px') (.Name ib pb) q2] kt pt] (.Tuple [e1, e2] k2 pt2) pos) (tAsg (tTup (tCons t1 (tCons t2 tNil))) (gTup K 2 (gCons (gSub (tVar k) (tVar a) rSetL) (gCons (gSub (tVar k) (tVar b) rSetL) gNil)))) (wSet2 k a b w1 w2) := by
  subst hK
  exact ⟨ps_asg (pe_tup (pa_cons h1.pe (pa_cons h2.pe pa_nil hst2) hst)) (pg_tup hc (pgs_cons (pg_sub hx ha set_list hsa) (pgs_cons (pg_sub hx' hb set_list hsb) pgs_nil hs2) hs1) hn hst') hs hw h3, sim_set2 h1.sim h2.sim⟩
end
def fEqE (neg : Bool) : F2
  | .tup a, .tup [], Q => Q (.sh (.bl (if neg then !a.isEmpty else a.isEmpty)))
  | .lst a, .lst [], Q => Q (.sh (.bl (if neg then !a.isEmpty else a.isEmpty)))
  | _, _, _ => False
@[simp] theorem fEqE_tf (a : List D) (Q : RD → Prop) : fEqE false (.tup a) (.tup []) Q = Q (.sh (.bl a.isEmpty)) := rfl
@[simp] theorem fEqE_tt (a : List D) (Q : RD → Prop) : fEqE true (.tup a) (.tup []) Q = Q (.sh (.bl (!a.isEmpty))) := rfl
@[simp] theorem fEqE_lf (a : List D) (Q : RD → Prop) : fEqE false (.lst a) (.lst []) Q = Q (.sh (.bl a.isEmpty)) := rfl
@[simp] theorem fEqE_lt (a : List D) (Q : RD → Prop) : fEqE true (.lst a) (.lst []) Q = Q (.sh (.bl (!a.isEmpty))) := rfl
def rEqE (K : PySem.W.Frag) (neg : Bool) : R2 := fun x y H Q => ∃ a b xs, x = .ref a ∧ y = .ref b ∧ ((SqT K H a xs ∧ SqT K H b []) ∨ (H a = some (.lst xs) ∧ H b = some (.lst []))) ∧ Q (.bl (if neg then !xs.isEmpty else xs.isEmpty)) H
theorem is0 {xs : List V} {its : List Value} (r : Vals xs its) : ((List.range (min its.toArray.size ([] : List Value).toArray.size)).all (fun _ => true) && its.toArray.size == ([] : List Value).toArray.size) = xs.isEmpty := by
  have := r.length
  cases xs with
  | nil =>
    cases r
    rfl
  | cons x xs =>
    cases r
    simp
section
variable {X : Cx}
theorem op_eqE (hu : X.A.units + 64 < cLine) : OpR X (compareOp .Eq) (rEqE X.K false) := by
  intro pins s σ H x y v u Q I rx ry h
  obtain ⟨a, b, xs, rfl, rfl, h, q⟩ := h
  cases rx
  cases ry
  rcases h with ⟨h1, h2⟩ | ⟨h1, h2⟩
  · obtain ⟨its, r1, p1, _⟩ := I.tuple h1
    obtain ⟨it2, r2, p2, _⟩ := I.tuple h2
    cases r2
    refine SeqAt.eq_tupleAt (e := fun _ => true) p1 p2 (by omega) (fun j _ z => by simp at z) ⟨.bl _, H, I, rfl, ?_⟩
    have e := is0 r1
    simp only [if_true, Bool.false_eq_true, if_false] at q
    rw [← e] at q
    exact q
  · obtain ⟨its, r1, ⟨o, n, ho, hc, _, hd⟩, _⟩ := I.list (SqL.of h1)
    obtain ⟨it2, r2, ⟨o2, n2, ho2, hc2, _, hd2⟩, _⟩ := I.list (SqL.of h2)
    cases r2
    cases r1 with
    | nil => exact SeqAt.eq_listAt (e := fun _ => true) ⟨o, ho, hc, n, hd⟩ ⟨o2, ho2, hc2, n2, hd2⟩ rfl (by omega) (fun j _ z => by simp at z) ⟨.bl _, H, I, rfl, q⟩
    | cons r rr => exact SeqAt.eq_list_lengthsAt ⟨o, ho, hc, n, hd⟩ ⟨o2, ho2, hc2, n2, hd2⟩ (by simp) (by omega) ⟨.bl _, H, I, rfl, q⟩
theorem op_neE (hu : X.A.units + 64 < cLine) : OpR X (compareOp .NotEq) (rEqE X.K true) := by
  intro pins s σ H x y v u Q I rx ry h
  obtain ⟨a, b, xs, rfl, rfl, h, q⟩ := h
  cases rx
  cases ry
  rcases h with ⟨h1, h2⟩ | ⟨h1, h2⟩
  · obtain ⟨its, r1, p1, _⟩ := I.tuple h1
    obtain ⟨it2, r2, p2, _⟩ := I.tuple h2
    cases r2
    refine SeqAt.RcNeAt.tuples (e := fun _ => true) p1 p2 (by omega) (fun j _ z => by simp at z) X.prog X.w _ _ ⟨.bl _, H, I, rfl, ?_⟩
    have e := is0 r1
    simp only [if_true, Bool.false_eq_true, if_false] at q
    rw [← e] at q
    exact q
  · obtain ⟨its, r1, ⟨o, n, ho, hc, _, hd⟩, _⟩ := I.list (SqL.of h1)
    obtain ⟨it2, r2, ⟨o2, n2, ho2, hc2, _, hd2⟩, _⟩ := I.list (SqL.of h2)
    cases r2
    cases r1 with
    | nil => exact SeqAt.RcNeAt.lists (e := fun _ => true) ⟨o, ho, hc, n, hd⟩ ⟨o2, ho2, hc2, n2, hd2⟩ rfl (by omega) (fun j _ z => by simp at z) X.prog X.w _ _ ⟨.bl _, H, I, rfl, q⟩
    | cons r rr => exact SeqAt.RcNeAt.lists_lengths ⟨o, ho, hc, n, hd⟩ ⟨o2, ho2, hc2, n2, hd2⟩ (by simp) (by omega) X.prog X.w _ _ ⟨.bl _, H, I, rfl, q⟩
theorem op_eqEK (K : PySem.W.Frag) (hu : X.A.units + 64 < cLine) (hK : X.K = K := by rfl) : OpR X (compareOp .Eq) (rEqE K false) := by subst hK; exact op_eqE hu
theorem op_neEK (K : PySem.W.Frag) (hu : X.A.units + 64 < cLine) (hK : X.K = K := by rfl) : OpR X (compareOp .NotEq) (rEqE K true) := by subst hK; exact op_neE hu
theorem isE {vs : List V} {ds : List D} (h : vs.length = ds.length) : vs.isEmpty = ds.isEmpty := by
  cases vs <;> cases ds <;> first | rfl | simp at h
theorem ops_eqE {K : PySem.W.Frag} {G : Gx} (neg : Bool) : OpS K G (rEqE K neg) (fEqE neg) := fun M H x y d e al bx by' Qd h Q k => by
  cases d <;> first | exact h.elim | skip
  · cases e <;> first | exact h.elim | skip
    rename_i ds es
    cases es with
    | cons _ _ => exact h.elim
    | nil =>
      obtain ⟨a, xs, rfl, ha, ra⟩ := bx.lst
      obtain ⟨b, ys, rfl, hb, rb⟩ := by'.lst
      cases rb
      refine ⟨a, b, xs, rfl, rfl, .inr ⟨ha, hb⟩, ?_⟩
      rw [isE ra.length]
      exact k _ _ H (Same.refl _) rn_bl h
  · cases e <;> first | exact h.elim | skip
    rename_i ds es
    cases es with
    | cons _ _ => exact h.elim
    | nil =>
      obtain ⟨a, xs, rfl, ha, ra⟩ := bx.tup
      obtain ⟨b, ys, rfl, hb, rb⟩ := by'.tup
      cases rb
      refine ⟨a, b, xs, rfl, rfl, .inl ⟨ha, hb⟩, ?_⟩
      rw [isE ra.length]
      exact k _ _ H (Same.refl _) rn_bl h
end
end L3
namespace L3
open PySem PySem.Spec PyProof.Rows L2
mutual
/-- v is the data, with dicts -/
inductive Dq (K : PySem.W.Frag) (H : Hp) : V → PyData → Prop
  | non : Dq K H .non .none
  | bl (b : Bool) : Dq K H (.bl b) (.bool b)
  | int (i : Int) : Dq K H (.int i) (.int i)
  | str (x : Str) : Dq K H (.str x) (.str x)
  | lst {a : Addr} {xs : List V} {ds : List PyData} : H a = some (.lst xs) → DqAll K H xs ds → Dq K H (.ref a) (.list ds)
  | tup {a : Addr} {xs : List V} {ds : List PyData} : SqT K H a xs → DqAll K H xs ds → Dq K H (.ref a) (.tuple ds)
  | dct {a : Addr} {ks : List Key} {xs : List V} {kvs : List (PyData × PyData)} : Rd H a (.dK (ks.zip xs)) → DqKv K H ks xs kvs → Dq K H (.ref a) (.dict kvs)
inductive DqAll (K : PySem.W.Frag) (H : Hp) : List V → List PyData → Prop
  | nil : DqAll K H [] []
  | cons {v : V} {vs : List V} {d : PyData} {ds : List PyData} : Dq K H v d → DqAll K H vs ds → DqAll K H (v :: vs) (d :: ds)
inductive DqKv (K : PySem.W.Frag) (H : Hp) : List Key → List V → List (PyData × PyData) → Prop
  | nil : DqKv K H [] [] []
  | cons {k : Key} {ks : List Key} {v : V} {vs : List V} {d : PyData} {kvs : List (PyData × PyData)} : Dq K H v d → DqKv K H ks vs kvs → DqKv K H (k :: ks) (v :: vs) ((keyP k, d) :: kvs)
end
/-- what a value's repr wants: read, and told at any depth -/
def Sq (P : Program) (w : World) (h : Heap) (u : Value) (d : PyData) : Prop :=
  (∃ as, Reads h u d as) ∧ (d.shown.length ≤ sizeLine → ∃ bs, ReadAtMost h d.depth bs ∧ ReprK P w bs h d.depth u d.shown)
def SqAll (P : Program) (w : World) (h : Heap) (us : List Value) (ds : List PyData) : Prop :=
  (∃ as, ReadsAll h us ds as) ∧ ((∀ t ∈ PyData.shownAll ds, t.length ≤ sizeLine) → ∃ bs, ReadAtMost h (PyData.depthAll ds) bs ∧ ReprAllK P w bs h (PyData.depthAll ds) us (PyData.shownAll ds))
def SqKv (P : Program) (w : World) (h : Heap) (es : List DictEntry) (kvs : List (PyData × PyData)) : Prop :=
  (∃ as, ReadsAll h (es.map (·.key)) (kvs.map (·.1)) as) ∧ (∃ as, ReadsAll h (es.map (·.val)) (kvs.map (·.2)) as) ∧
  ((∀ t ∈ PyData.shownKv kvs, t.length ≤ sizeLine) → ∃ bs, ReadAtMost h (PyData.depthKv kvs) bs ∧ ReprEntriesK P w bs h (PyData.depthKv kvs) es (PyData.shownKv kvs))
section
variable {P : Program} {w : World} {h : Heap}
theorem rm_up {n m : Nat} {bs : List Addr} (r : ReadAtMost h n bs) (k : n ≤ m) : ReadAtMost h m bs := r.mono k
theorem re_more {as as' : List Addr} {n m : Nat} (hs : ∀ b ∈ as, b ∈ as') (hn : n ≤ m) : ∀ {es : List DictEntry} {ps : List Str}, ReprEntriesK P w as h n es ps → ReprEntriesK P w as' h m es ps
  | _, _, .nil => .nil
  | _, _, .cons a b c => .cons ((a.more hs).level_le hn) ((b.more hs).level_le hn) (re_more hs hn c)
theorem SqAll.nil : SqAll P w h [] [] := ⟨⟨_, .nil⟩, fun _ => ⟨[], fun _ z => (nomatch z), by simp only [PyData.shownAll]; exact .nil⟩⟩
theorem SqAll.cons {u : Value} {us : List Value} {d : PyData} {ds : List PyData} (a : Sq P w h u d) (b : SqAll P w h us ds) : SqAll P w h (u :: us) (d :: ds) := by
  obtain ⟨⟨as, r⟩, ha⟩ := a
  obtain ⟨⟨bs, rs⟩, hb⟩ := b
  refine ⟨⟨_, .cons r rs⟩, fun z => ?_⟩
  simp only [PyData.shownAll] at z ⊢
  obtain ⟨b1, m1, k1⟩ := ha (z _ (by simp))
  obtain ⟨b2, m2, k2⟩ := hb fun t ht => z t (by simp [ht])
  simp only [PyData.depthAll]
  have l1 : d.depth ≤ max d.depth (PyData.depthAll ds) := Nat.le_max_left _ _
  have l2 : PyData.depthAll ds ≤ max d.depth (PyData.depthAll ds) := Nat.le_max_right _ _
  exact ⟨b1 ++ b2, (m1.mono l1).append (m2.mono l2), .cons ((k1.more fun b z => List.mem_append_left _ z).level_le l1) (k2.more_le (fun b z => List.mem_append_right _ z) l2)⟩
theorem Sq.list {a : Addr} {o : Obj} {us : List Value} {n : Nat} {ds : List PyData} (h1 : h.get? a = some o) (h2 : o.cls = .type "list") (h3 : o.data = .seq us.toArray n) (q : SqAll P w h us ds) : Sq P w h (.ref a) (.list ds) := by
  obtain ⟨⟨as, r⟩, hk⟩ := q
  have rd : Reads h (.ref a) (.list ds) _ := .list h1 h2 h3 (by simpa using r)
  refine ⟨⟨_, rd⟩, fun z => ?_⟩
  simp only [PyData.shown] at z
  obtain ⟨bs, m, k⟩ := hk fun t ht => Nat.le_trans (listText_mem_le ht) z
  have na : a ∉ bs := not_mem_of_deeper rd (by simp only [PyData.depth]; omega) m
  refine ⟨a :: bs, ReadAtMost.cons rd (by simp only [PyData.depth]; omega) m, ?_⟩
  simp only [PyData.depth, PyData.shown]
  cases us with
  | nil =>
    cases r
    simp only [PyData.shownAll, listText_nil]
    exact ReprK.listEmpty h1 h2 h3
  | cons x l => exact ReprK.list h1 h2 h3 na (by simpa using k.length_eq) fun i y e => k.item i y (by simpa using e)
theorem Sq.tuple {a : Addr} {o : Obj} {us : List Value} {n : Nat} {ds : List PyData} (h1 : h.get? a = some o) (h2 : o.cls = .type "tuple") (h3 : o.data = .seq us.toArray n) (q : SqAll P w h us ds) : Sq P w h (.ref a) (.tuple ds) := by
  obtain ⟨⟨as, r⟩, hk⟩ := q
  have rd : Reads h (.ref a) (.tuple ds) _ := .tuple h1 h2 h3 (by simpa using r)
  refine ⟨⟨_, rd⟩, fun z => ?_⟩
  simp only [PyData.shown] at z
  obtain ⟨bs, m, k⟩ := hk fun t ht => Nat.le_trans (tupleText_mem_le ht) z
  have na : a ∉ bs := not_mem_of_deeper rd (by simp only [PyData.depth]; omega) m
  refine ⟨a :: bs, ReadAtMost.cons rd (by simp only [PyData.depth]; omega) m, ?_⟩
  simp only [PyData.depth, PyData.shown]
  exact ReprK.tuple h1 h2 h3 na (by simpa using k)
theorem Sq.dict {a : Addr} {o : Obj} {es : Array DictEntry} {n : Nat} {kvs : List (PyData × PyData)} (hs : (a == sysModules) = false) (h1 : h.get? a = some o) (h2 : o.cls = .type "dict") (h3 : o.data = .dict es n) (q : SqKv P w h es.toList kvs) : Sq P w h (.ref a) (.dict kvs) := by
  obtain ⟨⟨as, r1⟩, ⟨bs, r2⟩, hk⟩ := q
  have rd : Reads h (.ref a) (.dict kvs) _ := .dict h1 h2 h3 r1 r2
  refine ⟨⟨_, rd⟩, fun z => ?_⟩
  simp only [PyData.shown] at z
  obtain ⟨bs, m, k⟩ := hk fun t ht => Nat.le_trans (dictText_mem_le ht) z
  have na : a ∉ bs := not_mem_of_deeper rd (by simp only [PyData.depth]; omega) m
  refine ⟨a :: bs, ReadAtMost.cons rd (by simp only [PyData.depth]; omega) m, ?_⟩
  simp only [PyData.depth, PyData.shown]
  exact ReprK.dict h1 h2 h3 hs na k
theorem SqKv.cons {e : DictEntry} {es : List DictEntry} {k d : PyData} {kvs : List (PyData × PyData)} (a : Sq P w h e.key k) (b : Sq P w h e.val d) (c : SqKv P w h es kvs) : SqKv P w h (e :: es) ((k, d) :: kvs) := by
  obtain ⟨⟨as, ra⟩, ha⟩ := a
  obtain ⟨⟨bs, rb⟩, hb⟩ := b
  obtain ⟨⟨cs, rc⟩, ⟨ds, rd⟩, hc⟩ := c
  refine ⟨⟨_, .cons ra rc⟩, ⟨_, .cons rb rd⟩, fun z => ?_⟩
  simp only [PyData.shownKv] at z ⊢
  have z0 := z _ List.mem_cons_self
  rw [strLen_append, strLen_append] at z0
  obtain ⟨b1, m1, k1⟩ := ha (by omega)
  obtain ⟨b2, m2, k2⟩ := hb (by omega)
  obtain ⟨b3, m3, k3⟩ := hc fun t ht => z t (by simp [ht])
  simp only [PyData.depthKv]
  have l1 : k.depth ≤ max (max k.depth d.depth) (PyData.depthKv kvs) := by omega
  have l2 : d.depth ≤ max (max k.depth d.depth) (PyData.depthKv kvs) := by omega
  have l3 : PyData.depthKv kvs ≤ max (max k.depth d.depth) (PyData.depthKv kvs) := by omega
  refine ⟨b1 ++ (b2 ++ b3), (m1.mono l1).append ((m2.mono l2).append (m3.mono l3)), .cons ((k1.more fun b z => ?_).level_le l1) ((k2.more fun b z => ?_).level_le l2) (re_more (fun b z => ?_) l3 k3)⟩
  · exact List.mem_append_left _ z
  · exact List.mem_append_right _ (List.mem_append_left _ z)
  · exact List.mem_append_right _ (List.mem_append_right _ z)
theorem Sq.key {k : Key} {u : Value} (r : keyIs k u = true) (hs : (keyP k).showable = true) : Sq P w h u (keyP k) := by
  rcases keyIs_shape r with ⟨i, t, rfl, rfl⟩ | ⟨x, t, rfl, rfl⟩
  · exact ⟨⟨_, .int i t⟩, fun _ => ⟨[], fun _ z => (nomatch z), by simp only [keyP, PyData.shown]; exact .of_is (ReprIs.int t (by simpa [keyP, PyData.showable] using hs)) _ _ _⟩⟩
  · exact ⟨⟨_, .str x t⟩, fun z => ⟨[], fun _ z => (nomatch z), by simp only [keyP, PyData.shown] at z ⊢; exact .of_is (ReprIs.str x t z) _ _ _⟩⟩
end
section
variable {X : Cx} {pins : List (Addr × Obj)} {σ : L2.St} {H : Hp} {s : Shared}
mutual
theorem Dq.sq (I : Inv X pins σ H s) : ∀ (d : PyData) (v : V) (u : Value), Dq X.K H v d → RelV v u → d.showable = true → Sq X.prog X.w s.heap u d
  | .none, _, _, a, r, _ => by
    cases a
    cases r
    exact ⟨⟨_, .none⟩, fun _ => ⟨[], fun _ z => (nomatch z), by simp only [PyData.shown]; exact .of_is ReprIs.none _ _ _⟩⟩
  | .bool b, _, _, a, r, _ => by
    cases a
    cases r
    exact ⟨⟨_, .bool b⟩, fun _ => ⟨[], fun _ z => (nomatch z), by simp only [PyData.shown]; exact .of_is (ReprIs.bool b) _ _ _⟩⟩
  | .int i, _, _, a, r, hs => by
    cases a
    obtain ⟨t, rfl⟩ := r
    exact ⟨⟨_, .int i t⟩, fun _ => ⟨[], fun _ z => (nomatch z), by simp only [PyData.shown]; exact .of_is (ReprIs.int t (by simpa [PyData.showable] using hs)) _ _ _⟩⟩
  | .str x, _, _, a, r, _ => by
    cases a
    obtain ⟨t, rfl⟩ := r
    exact ⟨⟨_, .str x t⟩, fun z => ⟨[], fun _ z => (nomatch z), by simp only [PyData.shown] at z ⊢; exact .of_is (ReprIs.str x t z) _ _ _⟩⟩
  | .list ds, _, _, a, r, hs => by
    cases a with
    | lst e q =>
      cases r
      obtain ⟨its, rv, ⟨o, n, ho, hc, _, hd⟩, _⟩ := I.list (SqL.of e)
      exact Sq.list ho hc hd (DqAll.sq I ds _ _ q rv (by simpa [PyData.showable] using hs))
  | .tuple ds, _, _, a, r, hs => by
    cases a with
    | tup e q =>
      cases r
      obtain ⟨its, rv, ⟨o, ho, hc, n, hd⟩, _⟩ := I.tuple e
      exact Sq.tuple ho hc hd (DqAll.sq I ds _ _ q rv (by simpa [PyData.showable] using hs))
  | .dict kvs, _, _, a, r, hs => by
    cases a with
    | dct e q =>
      cases r
      obtain ⟨_, hy, vs, kv, o, es, ep, ho, hx, hd, _, hp, _⟩ := dk_rd I.hok e
      exact Sq.dict hy ho hx.1 hd (DqKv.sq I kvs _ _ _ vs q kv hp (by simpa [PyData.showable] using hs))
theorem DqAll.sq (I : Inv X pins σ H s) : ∀ (ds : List PyData) (vs : List V) (us : List Value), DqAll X.K H vs ds → Vals vs us → PyData.showableAll ds = true → SqAll X.prog X.w s.heap us ds
  | [], _, _, a, r, _ => by
    cases a
    cases r
    exact .nil
  | d :: ds, _, _, a, r, hs => by
    have hs : d.showable = true ∧ PyData.showableAll ds = true := by simpa [PyData.showableAll] using hs
    cases a with
    | cons a1 a2 =>
      cases r with
      | cons r1 r2 => exact .cons (Dq.sq I d _ _ a1 r1 hs.1) (DqAll.sq I ds _ _ a2 r2 hs.2)
theorem DqKv.sq (I : Inv X pins σ H s) : ∀ (kvs : List (PyData × PyData)) (ks : List Key) (xs : List V) (es : List DictEntry) (vs : List (Key × Value)), DqKv X.K H ks xs kvs → KV (ks.zip xs) vs → Pairs (mixKind X.prog X.w) es vs → PyData.showableKv kvs = true → SqKv X.prog X.w s.heap es kvs
  | [], _, _, _, _, a, r, p, _ => by
    cases a
    cases r
    cases p
    exact ⟨⟨_, .nil⟩, ⟨_, .nil⟩, fun _ => ⟨[], fun _ z => (nomatch z), by simp only [PyData.shownKv]; exact .nil⟩⟩
  | (k, d) :: kvs, _, _, _, _, a, r, p, hs => by
    have hs : (k.showable = true ∧ d.showable = true) ∧ PyData.showableKv kvs = true := by simpa [PyData.showableKv] using hs
    cases a with
    | cons a1 a2 =>
      cases r with
      | cons r1 r2 =>
        obtain ⟨q1, q2⟩ := r1
        cases p with
        | cons p1 p2 p3 =>
          have q1 := q1
          simp only at q1 q2
          subst q1
          refine .cons (.key p1 hs.1.1) (Dq.sq I d _ _ a1 (by rw [p2]; exact q2) hs.1.2) (DqKv.sq I kvs _ _ _ _ a2 r2 p3 hs.2)
end
def rReprD (K : PySem.W.Frag) : List V → Hp → VK → Prop := fun xs H Q => ∃ v p, xs = [v] ∧ Dq K H v p ∧ p.showable = true ∧ p.depth ≤ 30 ∧ p.shown.length ≤ sizeLine ∧ Q (.str p.shown) H
theorem call_reprD (hg : X.A.guards = some []) (hu : X.A.units + 64 < cLine) : CallR X (.builtin "repr") (rReprD X.K) := by
  intro pins s σ H xs us Q I r h
  obtain ⟨v, p, rfl, hd, h1, h3, h4, q⟩ := h
  obtain ⟨u, rfl, ru⟩ := vals1 r
  have fin : ∀ h' u' tk, (∀ b o, s.heap.get? b = some o → h'.get? b = some o) → EP X pins σ Q (.str p.shown u') { s with heap := h', toks := tk } := fun h' u' tk hk => ⟨.str _, H, I.kept hk, ⟨_, rfl⟩, q⟩
  cases hd with
  | non => cases ru; exact PySem.P.repr_of_none ⟨.str _, H, I.tok _, ⟨_, rfl⟩, q⟩
  | bl b =>
    cases ru
    refine PySem.P.repr_of_bool ⟨.str _, H, I.tok _, ⟨_, rfl⟩, ?_⟩
    cases b <;> exact q
  | int i => obtain ⟨t, rfl⟩ := ru; exact PySem.P.repr_of_int (of_decide_eq_true h1) ⟨.str _, H, I.tok _, ⟨_, rfl⟩, q⟩
  | str x => obtain ⟨t, rfl⟩ := ru; exact PySem.P.repr_of_str ⟨.str _, H, I.tok _, ⟨_, rfl⟩, q⟩ h4
  | @lst a xs ds e k =>
    cases ru
    obtain ⟨its, rv, ⟨o, n, ho, hc, _, hdt⟩, _⟩ := I.list (SqL.of e)
    obtain ⟨⟨as, rs⟩, hk⟩ := DqAll.sq I ds _ _ k rv (by simpa [PyData.showable] using h1)
    have rd : Reads s.heap (.ref a) (.list ds) _ := .list ho hc hdt (by simpa using rs)
    simp only [PyData.shown] at h4 fin
    obtain ⟨bs, m, k⟩ := hk fun t ht => Nat.le_trans (listText_mem_le ht) h4
    have na : a ∉ bs := not_mem_of_deeper rd (by simp only [PyData.depth]; omega) m
    simp only [PyData.depth] at h3
    refine call_repr_slot (by omega) ⟨o, ho, hc⟩ F.slot_list_repr.toG ?_
    cases its with
    | nil =>
      cases rs
      simp only [PyData.shownAll, listText_nil] at fin
      exact call_list_repr_empty ⟨o, ho, hc⟩ ho hdt ⟨_, _, rfl, fin s.heap _ _ fun _ _ e => e⟩
    | cons x l =>
      exact call_list_reprK ho hc hdt na (by simpa using k.length_eq) (fun i y e => k.item i y (by simpa using e)) (show X.A.in1.guards = some [] from hg) (fun b _ => Clear.nil b) (by show X.A.units + 1 + (PyData.depthAll ds + 1) < cLine; omega) (fun _ _ e => e)
        (fun h' u tk hk => ⟨_, _, rfl, fin h' u tk hk⟩) h4
  | @tup a xs ds e k =>
    cases ru
    obtain ⟨its, rv, ⟨o, ho, hc, n, hdt⟩, _⟩ := I.tuple e
    obtain ⟨⟨as, rs⟩, hk⟩ := DqAll.sq I ds _ _ k rv (by simpa [PyData.showable] using h1)
    have rd : Reads s.heap (.ref a) (.tuple ds) _ := .tuple ho hc hdt (by simpa using rs)
    simp only [PyData.shown] at h4 fin
    obtain ⟨bs, m, k⟩ := hk fun t ht => Nat.le_trans (tupleText_mem_le ht) h4
    have na : a ∉ bs := not_mem_of_deeper rd (by simp only [PyData.depth]; omega) m
    simp only [PyData.depth] at h3
    refine call_repr_slot (by omega) ⟨o, ho, hc⟩ F.slot_tuple_repr ?_
    exact call_tuple_reprK ho hc hdt na (by simpa using k) (show X.A.in1.guards = some [] from hg) (fun b _ => Clear.nil b) (by show X.A.units + 1 + (PyData.depthAll ds + 1) < cLine; omega) (fun _ _ e => e)
      (fun h' u tk hk => ⟨_, _, rfl, fin h' u tk hk⟩) h4
  | @dct a ks xs kvs e k =>
    cases ru
    obtain ⟨_, hy, vs, kv, o, es, ep, ho, hx, hdt, _, hp, _⟩ := dk_rd I.hok e
    obtain ⟨⟨as, r1⟩, ⟨bs, r2⟩, hk⟩ := DqKv.sq I kvs _ _ _ vs k kv hp (by simpa [PyData.showable] using h1)
    have rd : Reads s.heap (.ref a) (.dict kvs) _ := .dict ho hx.1 hdt r1 r2
    simp only [PyData.shown] at h4 fin
    obtain ⟨bs, m, k⟩ := hk fun t ht => Nat.le_trans (dictText_mem_le ht) h4
    have na : a ∉ bs := not_mem_of_deeper rd (by simp only [PyData.depth]; omega) m
    simp only [PyData.depth] at h3
    refine call_repr_slot (by omega) ⟨o, ho, hx.1⟩ F.slot_dict_repr ?_
    exact call_dict_reprK ho hx.1 hdt hy na k (show X.A.in1.guards = some [] from hg) (fun b _ => Clear.nil b) (by show X.A.units + 1 + (PyData.depthKv kvs + 1) < cLine; omega) (fun _ _ e => e)
      (fun h' u tk hk => ⟨_, _, rfl, fin h' u tk hk⟩) h4
theorem call_reprDK (K : PySem.W.Frag) (hg : X.A.guards = some []) (hu : X.A.units + 64 < cLine) (hK : X.K = K := by rfl) : CallR X (.builtin "repr") (rReprD K) := by subst hK; exact call_reprD hg hu
end
mutual
def D.pyd : D → Option PyData
  | .non => some .none
  | .bl b => some (.bool b)
  | .int i => some (.int i)
  | .str x => some (.str x)
  | .lst ds => (D.pyds ds).map .list
  | .tup ds => (D.pyds ds).map .tuple
  | .dct ks ds => (D.pydk ks ds).map .dict
  | _ => none
def D.pyds : List D → Option (List PyData)
  | [] => some []
  | d :: ds => (D.pyd d).bind fun p => (D.pyds ds).map fun ps => p :: ps
def D.pydk : List Key → List D → Option (List (PyData × PyData))
  | [], [] => some []
  | k :: ks, d :: ds => (D.pyd d).bind fun p => (D.pydk ks ds).map fun ps => (keyP k, p) :: ps
  | _, _ => none
end
section
variable {K : PySem.W.Frag} {G : Gx} {H : Hp}
mutual
theorem Rep.dq : ∀ (d : D) {v : V} {p : PyData}, d.pyd = some p → Rep K G H v d → Dq K H v p
  | .non, v, p, e, r => by
    have e : p = .none := (Option.some.inj (by simpa [D.pyd] using e)).symm
    have r : v = .non := r
    subst e r
    exact .non
  | .bl b, v, p, e, r => by
    have e : p = .bool b := (Option.some.inj (by simpa [D.pyd] using e)).symm
    have r : v = .bl b := r
    subst e r
    exact .bl b
  | .int i, v, p, e, r => by
    have e : p = .int i := (Option.some.inj (by simpa [D.pyd] using e)).symm
    have r : v = .int i := r
    subst e r
    exact .int i
  | .str x, v, p, e, r => by
    have e : p = .str x := (Option.some.inj (by simpa [D.pyd] using e)).symm
    have r : v = .str x := r
    subst e r
    exact .str x
  | .lst ds, v, p, e, ⟨a, xs, h1, h2, h3⟩ => by
    unfold D.pyd at e
    obtain ⟨ps, e1, e2⟩ := Option.map_eq_some_iff.mp e
    subst e2 h1
    exact .lst h2 (RepAll.dq ds e1 h3)
  | .tup ds, v, p, e, ⟨a, xs, h1, h2, h3⟩ => by
    unfold D.pyd at e
    obtain ⟨ps, e1, e2⟩ := Option.map_eq_some_iff.mp e
    subst e2 h1
    exact .tup h2 (RepAll.dq ds e1 h3)
  | .dct ks ds, v, p, e, ⟨a, xs, h1, h2, h3, h4⟩ => by
    unfold D.pyd at e
    obtain ⟨ps, e1, e2⟩ := Option.map_eq_some_iff.mp e
    subst e2 h1
    exact .dct h2 (RepAll.dqk ds e1 h4)
  | .ins _ _, _, _, e, _ => by simp [D.pyd] at e
  | .deck, _, _, e, _ => by simp [D.pyd] at e
  | .cls _, _, _, e, _ => by simp [D.pyd] at e
  | .exc _ _ _ _, _, _, e, _ => by simp [D.pyd] at e
  | .raw _ _, _, _, e, _ => by simp [D.pyd] at e
  | .ptup _, _, _, e, _ => by simp [D.pyd] at e
  | .ktup _, _, _, e, _ => by simp [D.pyd] at e
  | .dtt _ _, _, _, e, _ => by simp [D.pyd] at e
theorem RepAll.dq : ∀ (ds : List D) {vs : List V} {ps : List PyData}, D.pyds ds = some ps → RepAll K G H vs ds → DqAll K H vs ps
  | [], vs, ps, e, r => by
    have e : ps = [] := (Option.some.inj (by simpa [D.pyds] using e)).symm
    have r : vs = [] := r
    subst e r
    exact .nil
  | d :: ds, vs, ps, e, ⟨x, xs, h1, h2, h3⟩ => by
    unfold D.pyds at e
    obtain ⟨p, e1, e2⟩ := Option.bind_eq_some_iff.mp e
    obtain ⟨qs, e3, e4⟩ := Option.map_eq_some_iff.mp e2
    subst e4 h1
    exact .cons (Rep.dq d e1 h2) (RepAll.dq ds e3 h3)
theorem RepAll.dqk : ∀ (ds : List D) {ks : List Key} {vs : List V} {ps : List (PyData × PyData)}, D.pydk ks ds = some ps → RepAll K G H vs ds → DqKv K H ks vs ps
  | [], [], vs, ps, e, r => by
    have e : ps = [] := (Option.some.inj (by simpa [D.pydk] using e)).symm
    have r : vs = [] := r
    subst e r
    exact .nil
  | [], _ :: _, vs, ps, e, r => by simp [D.pydk] at e
  | d :: ds, [], vs, ps, e, r => by simp [D.pydk] at e
  | d :: ds, k :: ks, vs, ps, e, ⟨x, xs, h1, h2, h3⟩ => by
    unfold D.pydk at e
    obtain ⟨p, e1, e2⟩ := Option.bind_eq_some_iff.mp e
    obtain ⟨qs, e3, e4⟩ := Option.map_eq_some_iff.mp e2
    subst e4 h1
    exact .cons (Rep.dq d e1 h2) (RepAll.dqk ds e3 h3)
end
def fReprD : FC
  | [d], Q => ∃ p, d.pyd = some p ∧ p.showable = true ∧ p.depth ≤ 30 ∧ p.shown.length ≤ 16777216 ∧ Q (.sh (.str p.shown))
  | _, _ => False
theorem calls_reprD : CallS K G (rReprD K) fReprD := fun M H vs ds al b Qd h Q k => by
  match ds, h with
  | [d], ⟨p, e, h1, h3, h4, h⟩ =>
    obtain ⟨v, rfl, b1⟩ := b.one
    exact ⟨v, p, rfl, Rep.dq d e b1.full, h1, h3, by rw [line16]; exact h4, k _ _ H (Same.refl _) rn_str h⟩
end
end L3
namespace L3
open PySem PySem.Spec PyProof.Rows L2 LamX NdefX
/-- the tables that may grow -/
def Jtab (T : List NTab) : Jx where
  dk := T.map (·.1)
  J := TabsN T
  fr := fun H H' e t p hp => by
    obtain ⟨ps, h1, h2, h3⟩ := t p hp
    refine ⟨ps, e _ _ (.inl (List.mem_map.mpr ⟨p, hp, rfl⟩)) h1, h2, fun pos cv hc => ?_⟩
    obtain ⟨c, e1, e2⟩ := h3 pos cv hc
    exact ⟨c, e1, e _ _ (.inr ⟨_, rfl⟩) e2⟩
  al := fun H t a ha => by
    obtain ⟨p, hp, rfl⟩ := List.mem_map.mp ha
    obtain ⟨ps, h, _⟩ := t p hp
    exact ⟨ps, h⟩
theorem law_callGT {P : Program} {w : World} {K : PySem.W.Frag} {mg mb : Str → Option Value} {k : Nat} {fa a : Addr} {cs : List (Addr × Addr)} {fd : FuncData} {x : Str} {sp : Sp} {s₁ : Shared} {vs : List Value} {ns : List Int}
    (kx : K.In s₁.heap) (g1 : s₁.heap.Ns mainGlobals mg) (g2 : s₁.heap.Ns builtinsNs mb) (g3 : ∀ x : Str, x ≠ "__name__" → mb x = bootBuiltins x) (nl : s₁.heap.NoLimit) (ng : s₁.gens = #[])
    (hT : ∀ p ∈ cs, s₁.heap.get? p.2 = some { cls := .none, data := .fields #[] }) (nT : ∀ p ∈ cs, K.lookup p.2 = none) (C : ∀ p ∈ cs, PySem.W.CodeHd s₁.heap p.1 p.2)
    (hbm : ∃ (bm : Addr) (ob : Obj), mg "__builtins__" = some (.ref bm) ∧ bm ≠ builtinsNs ∧ s₁.heap.get? bm = some ob ∧ ob.cls = .type "module" ∧ ob.dict = some builtinsNs ∧ ob.data = .plain)
    (ha : s₁.heap.get? a = some { cls := .type "list", data := .seq vs.toArray }) (hi : IntsAre vs ns) (hl : ns.length ≤ sizeLine) (hr : Room k callerA)
    (F : ∀ base : Heap, K.In base → base.Ns mainGlobals mg → (∀ p ∈ cs, TabB base mg p.1 p.2) → FnG P w K mg base CX0 k fa fd [x] sp) (bt : ∀ (s : Shared) (u : Value), BindsTo s fd ⟨[u], []⟩ [(x, u)])
    (hsp : ∀ H : Hp, (∀ p ∈ cs, H p.2 = some (.tbl #[])) → SqL K H a (ns.map V.int) → sp [.ref a] H (fun v _ => v = .bl true) fun _ _ _ => False) :
    codeAny (model P w) callerA (.call (.ref fa) ⟨[.ref a], []⟩) (fun r s' => r = .ok (.ret (.bool true)) ∧ OldK s₁.heap s'.heap ∧ s'.os = s₁.os ∧ AllBare s'.gens) s₁ := by
  have rv := vals_ints hi
  have tabs : ∀ b ∈ cs.map (·.2), s₁.heap.get? b = some { cls := .none, data := .fields #[] } := fun b hb => by
    obtain ⟨p, hp, rfl⟩ := List.mem_map.mp hb
    exact hT p hp
  have aT : a ∉ cs.map (·.2) := fun z => by
    have q := tabs a z
    rw [ha] at q
    exact nomatch congrArg Obj.data (Option.some.inj q)
  have tK : ∀ b ∈ cs.map (·.2), K.lookup b = none := fun b hb => by
    obtain ⟨p, hp, rfl⟩ := List.mem_map.mp hb
    exact nT p hp
  obtain ⟨H, hS, hTb, sc, hK⟩ : ∃ H : Hp, SqL K H a (ns.map V.int) ∧ (∀ p ∈ cs, H p.2 = some (.tbl #[])) ∧
      (∀ b u, H b = some u → (b = a ∧ u = .frz { cls := .type "list", data := .seq vs.toArray } (.lst (ns.map V.int))) ∨ (b ∈ cs.map (·.2) ∧ u = .tbl #[])) ∧ (∀ b, H b ≠ none → K.lookup b = none) := by
    cases q : K.lookup a with
    | none =>
      refine ⟨fun b => if b = a then some (.frz { cls := .type "list", data := .seq vs.toArray } (.lst (ns.map V.int))) else if b ∈ cs.map (·.2) then some (.tbl #[]) else none, .inl (.inr ⟨_, if_pos rfl⟩), fun p hp => ?_, fun b u e => ?_, fun b e => ?_⟩
      · have m : p.2 ∈ cs.map (·.2) := List.mem_map.mpr ⟨p, hp, rfl⟩
        exact (if_neg (show ¬ p.2 = a from fun z => aT (by rw [← z]; exact m))).trans (if_pos m)
      · by_cases z : b = a
        · exact .inl ⟨z, (Option.some.inj ((if_pos z).symm.trans e)).symm⟩
        · have e := (if_neg z).symm.trans e
          by_cases m : b ∈ cs.map (·.2)
          · exact .inr ⟨m, (Option.some.inj ((if_pos m).symm.trans e)).symm⟩
          · exact nomatch (if_neg m).symm.trans e
      · by_cases z : b = a
        · rw [z]; exact q
        · by_cases m : b ∈ cs.map (·.2)
          · exact tK b m
          · exact (e ((if_neg z).trans (if_neg m))).elim
    | some o =>
      have e := kx a o q
      rw [ha] at e
      cases e
      refine ⟨fun b => if b ∈ cs.map (·.2) then some (.tbl #[]) else none, .inr ⟨_, vs.toArray, _, q, rfl, rfl, rfl, by rw [List.size_toArray, hi.length]; exact hl, rv⟩, fun p hp => if_pos (List.mem_map.mpr ⟨p, hp, rfl⟩), fun b u e => ?_, fun b e => ?_⟩
      · by_cases m : b ∈ cs.map (·.2)
        · exact .inr ⟨m, (Option.some.inj ((if_pos m).symm.trans e)).symm⟩
        · exact nomatch (if_neg m).symm.trans e
      · by_cases m : b ∈ cs.map (·.2)
        · exact tK b m
        · exact (e (if_neg m)).elim
  have hok : HOk P w H s₁.heap := fun b u e => by
    rcases sc b u e with ⟨rfl, rfl⟩ | ⟨m, rfl⟩
    · exact ⟨ha, by rw [List.length_map]; exact hl, vs, _, rv, ha⟩
    · exact tabs b m
  -- what is neither the script nor a table is not hidden
  have open_ : ∀ {b : Addr} {o : Obj}, s₁.heap.get? b = some o → (∀ xs n, o.data ≠ .seq xs n) → o.data ≠ .fields #[] → H b = none := fun {b o} e h1 h2 => by
    cases q : H b with
    | none => rfl
    | some u =>
      rcases sc b u q with ⟨rfl, _⟩ | ⟨m, _⟩
      · rw [ha] at e
        cases e
        exact (h1 _ _ rfl).elim
      · rw [tabs b m] at e
        cases e
        exact (h2 rfl).elim
  have toNs : ∀ {b : Addr} {m : Str → Option Value}, s₁.heap.Ns b m → (hidT s₁.heap H).Ns b m := by
    rintro b m ⟨o, es, ep, e, d, r⟩
    exact ⟨o, es, ep, hidT_get e (open_ e (fun _ _ z => nomatch d.symm.trans z) fun z => nomatch d.symm.trans z), d, r⟩
  have kb : K.In (hidT s₁.heap H) := fun b o e => hidT_get (kx b o e) (by
    cases q : H b with
    | none => rfl
    | some u =>
      rw [hK b (by rw [q]; simp)] at e
      cases e)
  have TB : ∀ p ∈ cs, TabB (hidT s₁.heap H) mg p.1 p.2 := fun p hp => by
    refine ⟨?_, ?_, fun z => ?_⟩
    · obtain ⟨o, us, file, tf, flags, tg, inF, text, tt, e1, r1, r2, r3, r4⟩ := C p hp
      refine ⟨o, us, file, tf, flags, tg, inF, text, tt, hidT_get e1 (open_ e1 (fun _ _ z => nomatch r2.symm.trans z) fun z => ?_), r1, r2, r3, r4⟩
      have : us = #[] := by
        have := r2.symm.trans z
        cases this
        rfl
      rw [this] at r3
      simp at r3
    · obtain ⟨bm, ob, b1, b2, b3, b4, b5, b6⟩ := hbm
      have n1 : bm ≠ mainGlobals := fun q => by
        obtain ⟨o, es, ep, e, d, _⟩ := g1
        rw [q, e] at b3
        cases b3
        exact nomatch d.symm.trans b6
      have n2 : bm ≠ p.2 := fun q => by
        rw [q, hT p hp] at b3
        cases b3
        cases b6
      exact ⟨bm, ob, b1, b2, n1, n2, hidT_get b3 (open_ b3 (fun _ _ z => nomatch b6.symm.trans z) fun z => nomatch b6.symm.trans z), b4, b5, b6⟩
    · obtain ⟨o, es, ep, e, d, _⟩ := g1
      rw [z, hT p hp] at e
      cases e
      cases d
  obtain ⟨mc, n1, n2⟩ := nl
  have e0 : Env0 P w K mg (hidT s₁.heap H) callerA [] s₁ H :=
    { frames := rfl, mod := ⟨kb, toNs g1, ⟨mb, toNs g2, g3⟩, ⟨mc, toNs n1, n2⟩⟩, bs := fun b o e => of_hidT e, bsz := Nat.le_of_eq (hidT_size _ _), funs := trivial, frf := fun b hb => (by cases hb), hok := hok, bare := .of_eq ng }
  have run := (F _ kb (toNs g1) TB).go callerA [] s₁ H ⟨[.ref a], []⟩ [.ref a] [.ref a] _ _ ⟨hr, rfl⟩ e0 (bt s₁ (.ref a)) (.cons rfl .nil) (hsp H hTb hS)
  refine codeAny_mono run fun r s' h => ?_
  match r, h with
  | .error _, h => exact False.elim h
  | .ok .next, h => exact False.elim h
  | .ok .brk, h => exact False.elim h
  | .ok .cont, h => exact False.elim h
  | .ok (.ret u), ⟨v, H', os, bare, un, hok', r', q⟩ =>
    have q : v = .bl true := q
    subst q
    have r' : u = Value.bool true := r'
    subst r'
    have keep : ∀ b o, b ∉ cs.map (·.2) → s₁.heap.get? b = some o → s'.heap.get? b = some o := fun b o nb e => by
      cases z : H b with
      | none => exact un.keep b o e z (fun m => nomatch m) (fun m => nomatch m)
      | some y =>
        rcases sc b y z with ⟨rfl, rfl⟩ | ⟨m, _⟩
        · rw [ha] at e
          cases e
          exact (hok' _ _ (un.frzs _ _ _ z)).1
        · exact (nb m).elim
    have grown : ∀ p ∈ cs, ∃ more : Array Value, s'.heap.get? p.2 = some { cls := .none, data := .fields more } := fun p hp => by
      obtain ⟨more, z⟩ := un.tbls p.2 #[] (hTb p hp)
      exact ⟨_, hok' p.2 _ z⟩
    refine ⟨rfl, ⟨fun b o e => ?_, fun b o e => ?_⟩, os, bare⟩
    · by_cases hb : b ∈ cs.map (·.2)
      · obtain ⟨p, hp, ep⟩ := List.mem_map.mp hb
        obtain ⟨more, hm⟩ := grown p hp
        rw [← ep] at e ⊢
        have e' := e
        rw [hT p hp] at e'
        cases e'
        exact .inr (.inl ⟨((C p hp).tab (hT p hp)).isCodeTable, rfl, #[], more, rfl, by rw [Array.empty_append]; exact hm⟩)
      · exact .inl (keep b o hb e)
    · by_cases hb : b ∈ cs.map (·.2)
      · obtain ⟨p, hp, ep⟩ := List.mem_map.mp hb
        obtain ⟨more, hm⟩ := grown p hp
        exact ⟨_, by rw [← ep]; exact hm⟩
      · exact ⟨o, keep b o hb e⟩
/-- the goal that k_head leaves, with tables -/
theorem walk_ofGT {l : PySem.W.OpenLaw} {n k : Nat} {q : Program} {loose : List Str} {XP : (Str → Option Value) → Heap → Prop} {YP : World → Heap → Prop} {d : DefRec} {K : Params → PySem.W.Frag} {x : Str}
    (hn : l.most = some n) (hn2 : n ≤ sizeLine) (hdf : d.params.defaults = []) (hr : Room k callerA) (hY : ∀ (w : World) (h : Heap), YP w h → (K w.params).In h)
    (F : ∀ (w : World) (mg : Str → Option Value) (fa : Addr) (h : Heap), YP w h → (K w.params).In h → h.Ns mainGlobals mg → mg d.name = some (.ref fa) →
      ∃ (fd : FuncData) (cs : List (Addr × Addr)) (sp : Sp), (∀ p ∈ cs, h.get? p.2 = some { cls := .none, data := .fields #[] }) ∧ (∀ p ∈ cs, (K w.params).lookup p.2 = none) ∧ (∀ p ∈ cs, PySem.W.CodeHd h p.1 p.2) ∧
        (∀ (s : Shared) (u : Value), BindsTo s fd ⟨[u], []⟩ [(x, u)]) ∧
        (∀ (H : Hp) (a : Addr) (ns : List Int), ns.length ≤ n → (∀ p ∈ cs, H p.2 = some (.tbl #[])) → SqL (K w.params) H a (ns.map V.int) → sp [.ref a] H (fun v _ => v = .bl true) fun _ _ _ => False) ∧
        ∀ base : Heap, (K w.params).In base → base.Ns mainGlobals mg → (∀ p ∈ cs, TabB base mg p.1 p.2) → FnG l.prog w (K w.params) mg base CX0 k fa fd [x] sp) :
    PySem.W.WalkO q loose XP YP l.row.toRowW d [] (fun f vs => PySem.call f vs) :=
  Att.attach_call hn hdf fun w s₀ s₁ mg mb fa o pm cd doc a vs ns G Y ho hd hcd hmg hobj hints hlen hg => by
    have KX := hY w _ Y
    obtain ⟨fd, cs, sp, hT, nT, C, b1, hsp, b2⟩ := F w mg fa _ Y KX G.T.g hmg
    exact law_callGT KX G.T.g G.T.b G.T.builtins G.T.nolimit hg hT nT C G.T.bmain hobj hints (Nat.le_trans hlen hn2) hr b2 b1 fun H hH hS => hsp H a ns hlen hH hS
/-- the law with its tables: they are empty at the start -/
def spLawT (K : PySem.W.Frag) (X : Jx) : Sp := fun vs H Q E => X.J H ∧ spLaw K vs H Q E
theorem tabsN_nil {T : List NTab} {H : Hp} (h : ∀ p ∈ T, H p.1 = some (.tbl #[])) : (Jtab T).J H := fun p hp => TabN.nil (h p hp)
end L3
namespace L3
open PySem PySem.Spec PyProof.Rows L2 LamX NdefX
section
variable {X : Cx} {pins : List (Addr × Obj)} {σ : L2.St} {H : Hp} {s : Shared}
/-- a table that grew by one code object still tells what it should -/
theorem tabsN_grow {T : List NTab} {nm : Nat → Nat → Str} {P c' : Addr} {ps : Array Value} {pos : Pos} {q : Str} (hT : TabsN T H) (hP : H P = some (.tbl ps)) (nC : H c' = none) (hu : ∀ p ∈ T, p.1 = P → p.2 = nm) (hn : nm pos.line pos.col = q) :
    TabsN T (upd (upd H P (.tbl (ps ++ #[rawInt pos.line, rawInt pos.col, .ref c']))) c' (CodeO c' q)) := fun p hp => by
  have up : ∀ b o, H b = some o → b ≠ P → upd (upd H P (.tbl (ps ++ #[rawInt pos.line, rawInt pos.col, .ref c']))) c' (CodeO c' q) b = some o := fun b o e n => by
    rw [upd_ne (ne_of_none e nC), upd_ne n]; exact e
  have code : ∀ b r, H b = some (CodeO b r) → upd (upd H P (.tbl (ps ++ #[rawInt pos.line, rawInt pos.col, .ref c']))) c' (CodeO c' q) b = some (CodeO b r) := fun b r e => up b _ e fun z => by
    rw [z, hP] at e
    exact codeO_ne _ (Option.some.inj e).symm
  obtain ⟨qs, a1, a2, a3⟩ := hT p hp
  by_cases hb : p.1 = P
  · rw [hb, hP] at a1
    cases a1
    rw [hb, hu p hp hb]
    rw [hu p hp hb] at a3
    refine ⟨_, by rw [upd_ne (ne_of_none hP nC), upd_same], by simpa using PySem.TriplesOk_snoc _ _ _ _ a2, fun p' cv hcv => ?_⟩
    rcases among_app2 (pos := pos) (p' := p') (c := .ref c') (cv := cv) _ a2 (by simpa using hcv) with z | ⟨z, z1, z2⟩
    · obtain ⟨c0, e1, e2⟩ := a3 p' cv z
      exact ⟨c0, e1, code _ _ e2⟩
    · exact ⟨c', z, by rw [← z1, ← z2, hn]; exact upd_same⟩
  · exact ⟨qs, up _ _ a1 hb, a2, fun p' cv hcv => by
      obtain ⟨c0, e1, e2⟩ := a3 p' cv hcv
      exact ⟨c0, e1, code _ _ e2⟩⟩
theorem ndef_makeP {T : List NTab} {nm : Nat → Nat → Str} {c P : Addr} {name : Str} {params : Arguments} {body : List Stmt} {scope : Scope} {pos : Pos} {E : Value → Shared → Prop} {Q : Value → Shared → Prop} (I : Inv X pins σ H s) (TB : TabB X.base X.mg c P) (hcode : X.env.code = .ref c)
    (hm : (P, nm) ∈ T) (hn : nm pos.line pos.col = X.env.qual ++ name) (hu : ∀ p ∈ T, p.1 = P → p.2 = nm) (hT : TabsN T H) (hfree : ∀ y ∈ scope.names, y.2 = .free → ∃ c, X.env.cells.lookup y.1 = some c)
    (h : ∀ (f c' : Addr) (H1 : Hp) (s' : Shared), Inv X pins σ H1 s' → (∀ b o, H b = some o → b ≠ P → H1 b = some o) → TabsN T H1 → H f = none → H1 f = some (FnO f ⟨name, X.env.qual ++ name, params, body, scope, cloFrom X.env.cells scope.names [], c'⟩) → H1 c' = some (CodeO c' (X.env.qual ++ name)) → Q (.ref f) s') :
    wpAny (model X.prog X.w) X.A (makeFunction name (X.env.qual ++ name) params (.stmts body) scope X.env [] [] [] pos pos.line) Q E s := by
  obtain ⟨ps, hP, ht, ha⟩ := (show TabN H P nm from hT _ hm)
  have bP : s.heap.BuiltinsAt X.mg P := TB.bm.keeps I.bk
  have hP' : s.heap.get? P = some { cls := .none, data := .fields ps } := I.hok P _ hP
  cases hc : codeAmong pos ps.toList with
  | none =>
    refine PySem.W.makeFunction_K (mg := X.mg) (c := c) (P := P) (ps := ps) (closure_ok hfree) I.ok.glob (I.mod.glob.keeps I.bk) hcode (TB.code.keeps I.bk) hP' ht hc TB.gP bP fun c' ctv doc h' tk hx hge hlt hrec htb => ?_
    obtain ⟨c2, oc, vs, t, e2, hoc, hd, hv⟩ := hrec
    cases e2
    have nC : H c' = none := I.hok.fresh hge
    have I1 := inv_table (t' := tk) (more := #[rawInt pos.line, rawInt pos.col, .ref c']) (h' := h') I hP (fun b o hb e => hx b o hb e) htb hge ⟨oc, vs, t, hoc, hd, hv⟩
    have nF := I1.hok.fresh (Nat.le_refl _)
    have I2 := inv_fn (F := ⟨name, X.env.qual ++ name, params, body, scope, cloFrom X.env.cells scope.names [], c'⟩) (t' := tk) (doc := doc) (pm := (X.mg "__name__").getD .none) (ctv := ctv) I1 rfl
    refine h h'.objs.size c' _ _ I2 (fun b o e n => ?_) ((tabsN_grow hT hP nC hu hn).ext fun b o e => ?_) (I.hok.fresh (Nat.le_trans hge (Nat.le_of_lt hlt))) upd_same ?_
    · have e1 : upd (upd H P (.tbl (ps ++ #[rawInt pos.line, rawInt pos.col, .ref c']))) c' (CodeO c' (X.env.qual ++ name)) b = some o := by rw [upd_ne (ne_of_none e nC), upd_ne n]; exact e
      exact (upd_ne (ne_of_none e1 nF)).trans e1
    · exact (upd_ne (ne_of_none e nF)).trans e
    · exact (upd_ne (Nat.ne_of_lt hlt)).trans upd_same
  | some cv =>
    obtain ⟨c', e, hco⟩ := ha pos cv hc
    subst e
    rw [hn] at hco
    refine PySem.W.makeFunction_hit (mg := X.mg) (c := c) (P := P) (ps := ps) (closure_ok hfree) I.ok.glob (I.mod.glob.keeps I.bk) hcode (TB.code.keeps I.bk) hP' ht hc bP fun ctv doc h' tk hx hsz => ?_
    have I1 : Inv X pins σ H { s with heap := h', toks := tk } := I.kept hx
    have nF : H h'.objs.size = none := I1.hok.fresh (Nat.le_refl _)
    have I2 := inv_fn (F := ⟨name, X.env.qual ++ name, params, body, scope, cloFrom X.env.cells scope.names [], c'⟩) (t' := tk) (doc := doc) (pm := (X.mg "__name__").getD .none) (ctv := ctv) I1 rfl
    refine h h'.objs.size c' _ _ I2 (fun b o e _ => ?_) (hT.ext fun b o e => ?_) nF upd_same ?_
    · exact (upd_ne (ne_of_none e nF)).trans e
    · exact (upd_ne (ne_of_none e nF)).trans e
    · exact (upd_ne (ne_of_none hco nF)).trans hco
end
/-- «def name(..): ..»: the slot i holds the new function; but for the table P all that is tracked stays -/
def tNdefP (T : List NTab) (P : Addr) (i : Nat) (mk : Addr → NF) : TS := fun D σ H => TabsN T H ∧ ∀ (f c' : Addr) (H1 : Hp), (∀ b o, H b = some o → b ≠ P → H1 b = some o) → TabsN T H1 → H f = none → H1 f = some (FnO f (mk c')) → H1 c' = some (CodeO c' (mk c').qual) → D.nx (σ.set i (some (.ref f))) H1
section
variable {X : Cx}
theorem ps_ndefP {T : List NTab} {nm : Nat → Nat → Str} {c P : Addr} {name : Str} {params : Arguments} {body : List Stmt} {scope : Scope} {pos : Pos} {i : Nat} (TB : TabB X.base X.mg c P) (hcode : X.env.code = .ref c) (hm : (P, nm) ∈ T) (hn : nm pos.line pos.col = X.env.qual ++ name) (hu : ∀ p ∈ T, p.1 = P → p.2 = nm)
    (hfree : ∀ y ∈ scope.names, y.2 = .free → X.env.scope.names.lookup y.1 = some .cell ∨ X.env.scope.names.lookup y.1 = some .free) (hd0 : params.defaults = []) (hk0 : params.kw_defaults = []) (ha : annTrees params none X.env = [])
    (hN : X.N.Nodup) (hi : X.N[i]? = some name) (hx : Loc X.env.scope name) (hf : X.fn name = true ∨ X.env.scope.names.lookup name = some .local) :
    PS X (.FunctionDef name params body [] none [] scope none name pos) (tNdefP T P i fun c' => ⟨name, X.env.qual ++ name, params, body, scope, cloFrom X.env.cells scope.names [], c'⟩) := by
  refine ⟨fun pins s σ H D I h => ?_⟩
  obtain ⟨hT, h⟩ := h
  have hq : qualnameIn X.env name name = X.env.qual ++ name := by
    have hk : X.env.kindOf name = some .local ∨ X.env.kindOf name = some .cell := hx
    unfold qualnameIn
    rcases hk with k | k <;> rw [k] <;> first | rfl | exact if_neg (by decide)
  refine PySem.W.nestDef_K hd0 hk0 ha ?_
  rw [hq]
  have hfr : ∀ y ∈ scope.names, y.2 = .free → ∃ c, X.env.cells.lookup y.1 = some c := fun y hy e => (hfree y hy e).elim (fun z => I.ok.has _ (.inl z)) fun z => I.ok.has _ (.inr z)
  refine ndef_makeP I TB hcode hm hn hu hT hfr fun f c' H1 s' I1 eN T1 f0 f1 c1 => ?_
  exact store_ok I1 hN hi hx (v := .ref f) rfl (fun s'' J => ⟨_, H1, J, h f c' H1 eN T1 f0 f1 c1⟩) hf
end
end L3
namespace L3
open PySem PySem.Spec PyProof.Rows L2
abbrev exB : List Value := [.type "Exception", .type "BaseException", .type "object"]
/-- what the written part says of such a class and its __init__ (ps: the parameters) -/
structure SupE (P : Program) (K : PySem.W.Frag) (C fI : Addr) (params : Arguments) (body : List Stmt) (scope : Scope) (ps : List Str) : Prop where
  ini : PySem.W.findIn K (.ref C) "__init__" = some (some (.ref fI))
  typ : PySem.W.typeIn K (.ref fI) = some (.type "function")
  made : PySem.W.excInitIn K C exB "Exception.__new__" = true
  over : PySem.W.excOver K C exB = true
  hd : PySem.W.hasDictIn K C = true
  sa : PySem.W.findIn K (.ref C) "__setattr__" = some (some (.builtin "object.__setattr__"))
  exC : PySem.W.subIn K (.ref C) (.type "BaseException") = some true
  exE : PySem.W.subIn K (.ref C) (.type "Exception") = some true
  tyC : PySem.W.typeIn K (.ref C) = some (.type "type")
  kC : PySem.W.keepIn K (.ref C) = true
  sup : PySem.W.ks_superIn K C C "__init__" = some (some (.builtin "Exception.__init__"))
  own : PySem.W.mroIn K C (.ref C) = some true
  th : PySem.W.nsIn K cStatics "thirdparty.any" = some none
  fn : ∃ (oc : Value) (od : Option Addr) (nm qual : Str) (dV kV doc pm : Value) (an : Option Addr) (cda : Addr) (ct : Value) (cc : Addr) (osl : Array (Option Value)) (c1 : Value) (d1 : Option Addr) (vs : Array Value) (s1 : Array (Option Value)) (file : Str) (tf : Tok) (c2 : Value) (d2 : Option Addr) (s2 : Array (Option Value)),
    K.lookup fI = some ⟨oc, od, .func (PySem.W.ksFn nm qual params body scope dV kV doc pm an (.ref cda) ct cc), osl⟩ ∧ PySem.W.codeIn K (.ref cda) qual = true ∧
    K.lookup cda = some ⟨c1, d1, .fields vs, s1⟩ ∧ vs[2]? = some (.str file tf) ∧ ((P.main.file : Str) == file) = true ∧ K.lookup cc = some ⟨c2, d2, .cell (some (.ref C)), s2⟩ ∧
    ∀ (s : Shared) (us : List Value), us.length = ps.length → BindsTo s (PySem.W.ksFn nm qual params body scope dV kV doc pm an (.ref cda) ct cc) ⟨us, []⟩ (ps.zip us)
  top : (P.main.scope.names.lookup ("super" : Str)).isSome = false
/-- the scope of such an __init__ -/
structure SupS (scope : Scope) (params : Arguments) (ps : List Str) : Prop where
  par : ∃ ar : Arg, (params.posonlyargs ++ params.args).head? = some ar ∧ ar.arg = "self"
  hk : scope.kind = .function
  hco : scope.isCoroutine = false
  hgen : scope.isGenerator = false
  hs : scope.names.lookup ("super" : Str) = some .globalImplicit
  hc : scope.names.lookup ("__class__" : Str) = some .free
  nocell : ∀ x ∈ scope.names, x.2 ≠ .cell
  loc : ∀ x ∈ ps, scope.names.lookup x = some .local
abbrev supRow (p0 p1 p2 p3 p4 p5 : Pos) (txt : Str) (j : Nat) : Stmt := .Expr (.Call (.Attribute (.Call (.Name "super" p0) [] [] p1) "__init__" p2) [.Constant (.str txt) j p3] [] p4) p5
/-- how the call of super().__init__ is read -/
abbrev SupV (scope : Scope) (p0 p1 p2 p3 p4 p5 : Pos) (txt : Str) (j : Nat) : Prop := ∀ (qual : Str) (L fI : Addr) (cdv : Value) (cc : Addr), ∃ pl : Sem Bool,
  eval (.Call (.Attribute (.Call (.Name "super" p0) [] [] p1) "__init__" p2) [.Constant (.str txt) j p3] [] p4) (PySem.W.ksEnv qual scope L fI cdv cc) = (do
      let ov ← attributeBase (.Call (.Name "super" p0) [] [] p1) "__init__" (PySem.W.ksEnv qual scope L fI cdv cc) (eval (.Call (.Name "super" p0) [] [] p1) (PySem.W.ksEnv qual scope L fI cdv cc))
      standAt p2.atName
      let (f, first) ← holding [ov] (getMethod ov "__init__" pl)
      callWith p4 f first (backTo p4 (starEach [.Constant (.str txt) j p3] (PySem.W.ksEnv qual scope L fI cdv cc))) []) ∧
  swapsWith (.Call (.Attribute (.Call (.Name "super" p0) [] [] p1) "__init__" p2) [.Constant (.str txt) j p3] [] p4) none p5.line (PySem.W.ksEnv qual scope L fI cdv cc) = pure false
abbrev fldRow (p0 p1 p2 p3 : Pos) (f y : Str) : Stmt := .Assign [.Attribute (.Name "self" p0) f p1] (.Name y p2) p3
section
open PySem.W PySem.Calls
variable {P : Program} {w : World} {K : Frag} {mg : Str → Option Value} {base : Heap} {A : Around} {C fI e t : Addr} {params : Arguments} {body : List Stmt} {scope : Scope} {ps : List Str} {p0 p1 p2 p3 p4 p5 : Pos} {txt : Str} {j : Nat} {rest : List Stmt} {hp : Heap} {g : Array GenState} {d : Drawn} {tk : Nat} {os : OsState} {us : List Value} {R : Result → Shared → Prop}
theorem news_rot {g0 h : Heap} {L : Addr} {a b c x : Addr × Obj} (N : News g0 L h [a, b, c, x]) : News g0 L h (x :: [a, b, c]) := fun p hp => N p (by
  rcases List.mem_cons.mp hp with z | z
  · rw [z]; simp
  · simp only [List.mem_cons, List.not_mem_nil, or_false] at z ⊢
    rcases z with z | z | z <;> simp [z])
set_option maxHeartbeats 4000000 in
/-- its first row -/
theorem sup_first (T : SupE P K C fI params (supRow p0 p1 p2 p3 p4 p5 txt j :: rest) scope ps) (S : SupS scope params ps) (M : Mod K mg base) (hz : mg "super" = none) (kb : ∀ b o, base.get? b = some o → hp.get? b = some o)
    (he : hp.get? e = some (excObj C t none .none)) (hb : base.get? e = none) (hA : A.depth < recursionLimit) (hl : (.ref e :: us : List Value).length = ps.length) (hev : SupV scope p0 p1 p2 p3 p4 p5 txt j) (hsl : scope.names.lookup ("self" : Str) = some .local) (hself : (ps.zip (Value.ref e :: us)).reverse.lookup ("self" : Str) = some (.ref e))
    (h : ∀ (env : Env) (g0 : Heap) (L : Addr) (h4 : Heap) (t4 : Nat) (t' : Addr) (news : List (Addr × Obj)), env.scope = scope → env.locals = L → (∀ b o, b ≠ e → hp.get? b = some o → g0.get? b = some o) → K.In g0 → hp.objs.size = g0.objs.size →
      Fr g0 L h4 (fun x => (ps.zip (.ref e :: us)).reverse.lookup x) → News g0 L h4 ((e, excObj C t' none .none) :: news) → (∀ p ∈ news, e < p.1) →
      _root_.PySem.wpAt (model P w) (A.deeper env) (.func (supRow p0 p1 p2 p3 p4 p5 txt j :: rest) env) (execs rest env) (fun f s' => R (.ok (.ret (match f with | .ret v => v | _ => .none))) s') (fun e s' => wpAny (model P w) (A.deeper env) (leaving env e) (fun _ s'' => R (.error e) s'') (fun e' s'' => R (.error e') s'') s') ⟨h4, g, d, t4, os⟩) :
    codeAny (model P w) A (.call (.ref fI) ⟨.ref e :: us, []⟩) R ⟨hp, g, d, tk, os⟩ := by
  obtain ⟨oc, od, nm, qual, dV, kV, doc, pm, an, cda, ct, cc, osl, c1, d1, vs, s1, file, tf, c2, d2, s2, hf, hcd, hcode, hvs, hfile, hcell, hbind⟩ := T.fn
  have X : K.In hp := fun b o q => kb b o (M.kin b o q)
  have X' : K.In (hideAll hp [e]) := fun b o q => hideAll_get _ (X b o q) fun z => by
    have z : b = e := by simpa using z
    rw [z] at q
    have := M.kin e o q
    rw [hb] at this; cases this
  obtain ⟨ar, har, hname⟩ := S.par
  refine ks_codeAny_call_defAt (fd := ksFn nm qual params (supRow p0 p1 p2 p3 p4 p5 txt j :: rest) scope dV kV doc pm an (.ref cda) ct cc) (binds := ps.zip (.ref e :: us)) hA (X _ _ hf) rfl (M.nolimit.keeps kb) (codeRec_of X hcd) rfl (hbind _ _ hl) S.nocell (fun x hx => S.loc x.1 (List.of_mem_zip hx).1) (fun h₁ hns hk => ?_) S.hco S.hgen S.hk
  have size0 : (hideAll hp [e]).objs.size = hp.objs.size := hideAll_size _ _
  have eL : e < hp.objs.size := Heap.lt_size he
  have F0 : Fr (hideAll hp [e]) hp.objs.size h₁ (fun x => (ps.zip (.ref e :: us)).reverse.lookup x) := ⟨hns, fun b o q => hk b o (of_hideAll _ q), Nat.le_of_eq size0⟩
  have N0 : News (hideAll hp [e]) hp.objs.size h₁ [(e, excObj C t none .none)] := fun p hp' => by
    have : p = (e, excObj C t none .none) := by simpa using hp'
    subst this
    exact ⟨hk _ _ he, Nat.ne_of_lt eL, hideAll_none _ (by simp)⟩
  have G0 : ∀ b o, base.get? b = some o → (hideAll hp [e]).get? b = some o := fun b o q => hideAll_get _ (kb b o q) fun z => by
    have z : b = e := by simpa using z
    rw [z, hb] at q; cases q
  obtain ⟨mb, hmb, hboot⟩ := M.blt
  obtain ⟨cdD, hcl⟩ : ∃ cd, clsIn K C = some cd := by
    have := T.own
    unfold mroIn at this
    cases q : clsIn K C with
    | none => rw [q] at this; cases this
    | some cd => exact ⟨cd, rfl⟩
  obtain ⟨oD, hD1, hD2⟩ : ∃ oD, h₁.get? C = some oD ∧ oD.data = .cls cdD := by
    unfold clsIn at hcl
    split at hcl
    · rename_i c dd cd' sl ho
      cases hcl
      exact ⟨_, hk _ _ (X _ _ ho), rfl⟩
    · cases hcl
  have X1 : K.In h₁ := fun b o q => hk b o (X b o q)
  obtain ⟨pl, hpl, hsw⟩ := hev qual hp.objs.size fI (.ref cda) cc
  have hint : interactive (ksEnv qual scope hp.objs.size fI (.ref cda) cc) = false := by
    unfold interactive
    show (scope.kind == .module && _) = false
    rw [S.hk]; rfl
  refine ks_wpAt_execs_cons (ks_wpAt_Expr_any (ks_wpAt_MethodCall ?_ hpl) hint hsw)
  refine ks_wpAt_super_base (env := ksEnv qual scope hp.objs.size fI (.ref cda) cc) S.hs S.hc (by decide) rfl (X1 _ _ hf) rfl har rfl (X1 _ _ hcode) rfl hvs hfile T.top ?_
  refine ks_loadName_global S.hk S.hs (loadGlobal_builtin (env := ksEnv qual scope hp.objs.size fI (.ref cda) cc) (M.glob.keeps fun b o q => F0.keep b o (G0 b o q)) hz (hmb.keeps fun b o q => F0.keep b o (G0 b o q)) ((hboot _ (by decide +kernel)).trans PyProof.Rows.Boot.super) ⟨rfl, ?_⟩)
  refine wpAny_loadName_free S.hk S.hc rfl ⟨_, X1 _ _ hcell, rfl⟩ ?_
  rw [hname]
  refine wpAny_loadName_local S.hk hsl F0.ns hself ?_
  refine ks_wpAny_isType_cls hD1 hD2 ⟨rfl, ?_⟩
  refine ks_wpAny_call_super hD1 hD2 (N0 _ List.mem_cons_self).1 rfl (fun c q => nomatch q) (looks_mroIn X1 T.own) (fun h2 q2 k2 => ?_)
  obtain ⟨F1, N1, l1⟩ := ks_newsPush (s := ⟨h₁, g, d, tk, os⟩) F0 N0 rfl q2 k2
  refine kxs_method (s := ⟨h2, g, d, _, os⟩) kxs_Exception F1 X' N1 List.mem_cons_self (InstAt.of_exc0 N1 (List.mem_cons_of_mem _ List.mem_cons_self)) T.th T.sup T.exE (by decide) (fun q h3 F2 N2 l2 => ?_)
  refine kxs_callWith1 (i := "Exception.__init__") (x := e) N2 List.mem_cons_self (Calls.spliced_cons (Calls.Constant_str (k := j) (pos := p3) (Calls.spliced_nil ⟨kxs_at N2 List.mem_cons_self, ?_⟩))) (by rfl) (by rfl)
  have eh1 : e < h₁.objs.size := Heap.lt_size (N0 _ List.mem_cons_self).1
  have eq' : e < q := l2 _ (List.mem_cons_of_mem _ List.mem_cons_self)
  refine kxs_call (s := ⟨h3, g, d, _, os⟩) F2 X' N2 PySem.F.excBase_Exception T.made List.mem_cons_self (.tail (Nat.ne_of_gt eq') (.tail (Nat.ne_of_gt eh1) (.head fun _ z => nomatch z))) (by show 1 ≤ sizeLine; decide) (fun t' h4 F3 N3 l3 => ?_)
  have et : e < t' := l3 (e, excObj C t none .none) (List.mem_cons_of_mem _ (List.mem_cons_of_mem _ List.mem_cons_self))
  exact h _ _ _ h4 _ t' _ rfl rfl (fun b o hbe q => hideAll_get _ q fun z => hbe (by simpa using z)) X' size0.symm F3 (news_rot N3) (fun p hp' => by
      simp only [List.mem_cons, List.not_mem_nil, or_false] at hp'
      rcases hp' with z | z | z <;> rw [z]
      · exact et
      · exact eq'
      · exact eh1)
end
section
open PySem.W PySem.Calls
variable {X : Cx} {C fI : Addr} {params : Arguments} {scope : Scope} {p0 p1 p2 p3 p4 p5 q0 q1 q2 q3 p pos : Pos} {txt x f y : Str} {j k : Nat} {e : Expr} {ta : TA}
set_option maxHeartbeats 4000000 in
/-- such an error made: C(e) -/
theorem pmk_sup1 (T : SupE X.prog X.K C fI params [supRow p0 p1 p2 p3 p4 p5 txt j, fldRow q0 q1 q2 q3 f y] scope ["self", y]) (S : SupS scope params ["self", y]) (hev : SupV scope p0 p1 p2 p3 p4 p5 txt j)
    (hs2 : ∀ env : Env, swapsWith (.Name y q2) (some (.Attribute (.Name "self" q0) f q1)) q3.line env = pure false) (ht : takerIn X.K C f = some none) (hy : ("self" : Str) ≠ y) (hdy : (y == ("__debug__" : Str)) = false) (hz : X.mg "super" = none) (hr : Room (k + 1) X.A)
    (hg : Gl X x) (hm : X.mg x = some (.ref C)) (ha : PA X [e] ta) (hdb : (x == ("__debug__" : Str)) = false := by decide) (he : starEach [e] X.env = (false, eval e X.env) :: starEach [] X.env := by rfl) (hpl : (backTo pos (starEach [] X.env)).any (·.1) = false := by rfl) :
    PMk X (.Call (.Name x p) [e] [] pos) (fun σ H Q => ta σ H fun vs H1 => ∃ v, vs = [v] ∧ ∀ d, H1 d = none → Q (.ref C) (some d) (upd H1 d (.xd [(f, v)]))) := by
  intro pins s σ H Q I h
  refine wpAny_Call_Name_kw (ld_glob I hg hm ?_ hdb)
  refine PySem.W.callWith_K (h₀ := X.base) I.ok.mod.kin T.kC (thn (ha.run pos pins s σ H _ I h) fun us s1 ⟨vs, H1, I1, r1, v, ev, hq⟩ => ⟨I1.kIn, ?_⟩) he hpl
  show wpAny _ _ (call (.ref C) us) _ _ _
  subst ev
  cases r1 with
  | @cons _ u _ ur ra rb =>
  cases rb
  obtain ⟨hp, g, dr, tk, os⟩ := s1
  obtain ⟨nm, N', qn, bs, bm, hdct, sn, sub, ab, col, dd, k0, k1, k2, k3, k5, hC, hT⟩ := excInit_of I1.kIn T.made
  have kk : ∀ b o, hp.get? b = some o → ((hp.push (kdv_tup [u])).push (PySem.HandSPX.excO C hp.objs.size)).get? b = some o := fun b o e => Heap.get?_push_of_some _ (Heap.get?_push_of_some _ e)
  have hget : ((hp.push (kdv_tup [u])).push (PySem.HandSPX.excO C hp.objs.size)).get? (hp.objs.size + 1) = some (PySem.HandSPX.excO C hp.objs.size) := by heap_get
  have Ib : ∀ b o, X.base.get? b = some o → hp.get? b = some o := fun b o q => (I1.bs b o q).1
  have hb : X.base.get? (hp.objs.size + 1) = none := by
    cases q : X.base.get? (hp.objs.size + 1) with
    | none => rfl
    | some o => exact absurd (Heap.lt_size (Ib _ _ q)) (Nat.not_lt.mpr (Nat.le_succ _))
  refine wpAny_call (PySem.HandSPX.call_own PySem.F.excBase_Exception hT hC (looks_findIn I1.kIn T.ini) (fun self => bind_fn I1.kIn self T.typ) (by show 1 ≤ sizeLine; decide) ?_)
  refine sup_first T S I1.ok.mod hz (fun b o q => kk b o (Ib b o q)) hget hb (hr.make C [u] []).depth rfl hev (S.loc _ List.mem_cons_self) ?_ (fun env g0 L h4 t4 t' news e1 e2 kg X0 sz F4 N4 lt => ?_)
  · show ([(y, u), ("self", .ref (hp.objs.size + 1))] : List (Str × Value)).lookup ("self" : Str) = _
    have hne : (("self" : Str) == y) = false := by simpa using hy
    rw [List.lookup_cons, hne]
    rfl
  have hk : env.scope.kind = .function := by rw [e1]; exact S.hk
  have k1' : env.kindOf y = some .local := by show env.scope.names.lookup y = _; rw [e1]; exact S.loc _ (List.mem_cons_of_mem _ List.mem_cons_self)
  have k2' : env.kindOf "self" = some .local := by show env.scope.names.lookup ("self" : Str) = _; rw [e1]; exact S.loc _ List.mem_cons_self
  have X4 : X.K.In h4 := X0.keeps F4.keep
  have hx : h4.get? (hp.objs.size + 1) = some (excObj C t' none .none) := (N4 _ List.mem_cons_self).1
  obtain ⟨cd, hc, hd'⟩ := any_some T.hd
  refine ks_wpAt_execs_cons (ks_wpAt_Assign_Attr (wpAt_of_wpAny (wpAny_Name (wpAny_loadName_local (v := u) hk k1' (by rw [e2]; exact F4.ns) ?_ ?_) hdy)) (hs2 env))
  · show ([(y, u), ("self", .ref (hp.objs.size + 1))] : List (Str × Value)).lookup y = _
    rw [List.lookup_cons, show (y == y) = true by simp]
  refine wpAny_Name (wpAny_loadName_local hk k2' (by rw [e2]; exact F4.ns) (v := .ref (hp.objs.size + 1)) ?_ ?_)
  · show ([(y, u), ("self", .ref (hp.objs.size + 1))] : List (Str × Value)).lookup ("self" : Str) = _
    have hne : (("self" : Str) == y) = false := by simpa using hy
    rw [List.lookup_cons, hne]
    rfl
  refine set_plain (od := none) X4 ⟨hx, rfl, rfl, trivial⟩ T.sa (osa_openX (od := none) PySem.F.store_Exception X4 ⟨hx, rfl, rfl, trivial⟩ T.over ht fun b => ?_)
  refine wpAny_bind (wpAny_pure (wpAny_bind (instanceDict_exc hx (looks_clsIn X4 hc) hd' ?_)))
  show wpAny _ _ (Builtin.ObjectAttr.storeInDict h4.objs.size (.str f _) f u) _ _ _
  refine PySem.HandSPX.store_in_new ?_ (fun h5 tk' hn hs => ?_)
  · exact ⟨_, #[], _, (Heap.get?_update_ne _ _ _ _ (Nat.ne_of_gt (Heap.lt_size hx))).trans (Heap.get?_push_at rfl rfl), rfl, fun e he => absurd he (by simp), fun _ => rfl⟩
  · obtain ⟨hs, hs'⟩ := id hs
    have xd : hp.objs.size + 1 ≠ h4.objs.size := Nat.ne_of_lt (Heap.lt_size hx)
    have hx5 : h5.get? (hp.objs.size + 1) = some (excObj C t' (some h4.objs.size) .none) := (hs' _ xd).trans (Heap.get?_update_self _ (Heap.get?_push_of_some _ hx) rfl)
    have keep : ∀ b o, hp.get? b = some o → h5.get? b = some o := fun b o q => by
      have b1 : b ≠ hp.objs.size + 1 := Nat.ne_of_lt (Nat.lt_succ_of_lt (Heap.lt_size q))
      have q4 := F4.keep b o (kg b o b1 (kk b o q))
      exact (hs' b (Nat.ne_of_lt (Heap.lt_size q4))).trans ((Heap.get?_update_ne _ _ _ _ b1).trans (Heap.get?_push_of_some _ q4))
    have hlt : hp.objs.size ≤ h4.objs.size := Nat.le_of_lt (Nat.lt_of_succ_lt (Heap.lt_size hx))
    have nd : H1 h4.objs.size = none := I1.hok.fresh hlt
    have ne' : H1 (hp.objs.size + 1) = none := I1.hok.fresh (Nat.le_succ _)
    have rel : ∀ g', RelO (([(f, v)] : List (Str × V)).lookup g') (if g' = f then some u else none) := relO_put (fs := []) ra fun g' => True.intro
    have gk : ∀ b o, b ≠ hp.objs.size + 1 → h5.get? b = some o → (hideAll h5 [hp.objs.size + 1]).get? b = some o := fun b o nb q => hideAll_get _ q fun z => nb (by simpa using z)
    have hnG : (hideAll h5 [hp.objs.size + 1]).Ns1 h4.objs.size (fun g' => if g' = f then some u else none) := hn.at fun o q => gk _ _ (Ne.symm xd) q
    have J := I1.laid (a := h4.objs.size) (o := .xd [(f, v)]) (h' := hideAll h5 [hp.objs.size + 1]) (t' := tk') (fun b o q => gk b o (Nat.ne_of_lt (Nat.lt_succ_of_lt (Heap.lt_size q))) (keep b o q)) hlt ⟨_, hnG, rel⟩
    refine wpAt_of_wpAny (wpAny_execs_nil ⟨rfl, ?_⟩)
    exact ⟨_, _, _, _, _, .ref C, some h4.objs.size, rfl, J, fun b o q => of_hideAll _ q, hideAll_none _ (by simp), hx5, ⟨rfl, rfl⟩, rfl, rfl, by rw [upd_ne xd]; exact ne', rfl, I1.bare, raises_own T.exC T.tyC, hq _ nd⟩
end
end L3
namespace L3
open PySem PySem.Spec PyProof.Rows L2
section
variable {K : PySem.W.Frag} {G G' : Gx} {H H' : Hp}
mutual
theorem Rep.cng (h1 : G'.cls = G.cls) (h2 : G'.fld = G.fld) (h3 : G'.deck = G.deck) : ∀ (d : D) {v : V}, Rep K G H v d → Rep K G' H v d
  | .non, _, h => h
  | .bl _, _, h => h
  | .int _, _, h => h
  | .str _, _, h => h
  | .lst ds, _, ⟨a, xs, q1, q2, q3⟩ => ⟨a, xs, q1, q2, RepAll.cng h1 h2 h3 ds q3⟩
  | .tup ds, _, ⟨a, xs, q1, q2, q3⟩ => ⟨a, xs, q1, q2, RepAll.cng h1 h2 h3 ds q3⟩
  | .dct ks ds, _, ⟨a, xs, q1, q2, q3, q4⟩ => ⟨a, xs, q1, q2, q3, RepAll.cng h1 h2 h3 ds q4⟩
  | .ins t ds, _, ⟨a, dx, xs, q1, q2, q3, q4⟩ => ⟨a, dx, xs, q1, by rw [h1, h2]; exact q2, by rw [h2]; exact q3, RepAll.cng h1 h2 h3 ds q4⟩
  | .deck, _, h => by have h : _ = V.ref G.deck := h; show _ = V.ref G'.deck; rw [h3]; exact h
  | .cls t, _, h => by have h : _ = V.ref (G.cls t) := h; show _ = V.ref (G'.cls t); rw [h1]; exact h
  | .raw _ _, _, h => h
  | .ptup ds, _, ⟨a, xs, o, q1, q2, q3, q4, q5⟩ => ⟨a, xs, o, q1, q2, q3, q4, RepAll.cng h1 h2 h3 ds q5⟩
  | .ktup _, _, h => h
  | .dtt ks ds, _, ⟨a, xs, q1, q2, q3, q4⟩ => ⟨a, xs, q1, q2, q3, RepAll.cng h1 h2 h3 ds q4⟩
  | .exc _ _ _ ds, _, ⟨xs, q1, q2, q3, q4⟩ => ⟨xs, q1, by rw [h2]; exact q2, by rw [h2]; exact q3, RepAll.cng h1 h2 h3 ds q4⟩
theorem RepAll.cng (h1 : G'.cls = G.cls) (h2 : G'.fld = G.fld) (h3 : G'.deck = G.deck) : ∀ (ds : List D) {vs : List V}, RepAll K G H vs ds → RepAll K G' H vs ds
  | [], _, h => h
  | d :: ds, _, ⟨x, xs, q1, q2, q3⟩ => ⟨x, xs, q1, Rep.cng h1 h2 h3 d q2, RepAll.cng h1 h2 h3 ds q3⟩
end
theorem OwnAt.cng {M : List Addr} {p : Addr} (h1 : G'.cls = G.cls) (h2 : G'.fld = G.fld) (h3 : G'.deck = G.deck) : ∀ {d : D}, OwnAt K G M H p d → OwnAt K G' M H p d
  | .lst _, ⟨xs, h, r⟩ => ⟨xs, h, r.cng h1 h2 h3⟩
  | .dct _ _, ⟨xs, h, l, r⟩ => ⟨xs, h, l, r.cng h1 h2 h3⟩
  | .ins _ _, ⟨dx, xs, h, l, r⟩ => ⟨dx, xs, by rw [h1, h2]; exact h, by rw [h2]; exact l, r.cng h1 h2 h3⟩
  | .dtt _ _, ⟨xs, h, l, r⟩ => ⟨xs, h, l, r.cng h1 h2 h3⟩
theorem SubAll.cng {M : List Addr} (h1 : G'.cls = G.cls) (h2 : G'.fld = G.fld) (h3 : G'.deck = G.deck) : ∀ {ss : List SubV} {xs : List V}, SubAll K G M H xs ss → SubAll K G' M H xs ss
  | [], _, h => h
  | s :: ss, _, ⟨x, r, q, a, b⟩ => by
    refine ⟨x, r, q, ?_, b.cng h1 h2 h3⟩
    cases s with
    | sh d => exact Rep.cng h1 h2 h3 d a
    | ol ds =>
      obtain ⟨c, ys, e, q, rr⟩ := a
      exact ⟨c, ys, e, q, rr.cng h1 h2 h3⟩
theorem SR.cng {E : Ent} {am : Nat → Addr} {M : List Addr} {σ : L2.St} {δ : St3} (h1 : G'.cls = G.cls) (h2 : G'.fld = G.fld) (h3 : G'.deck = G.deck) (h4 : G'.dk = G.dk) (h5 : G'.DI = G.DI) (ok : G'.okE E) (S : SR K G E am M σ δ H) : SR K G' E am M σ δ H where
  len := S.len
  sh := fun i d h => let ⟨v, a, b⟩ := S.sh i d h; ⟨v, a, b.cng h1 h2 h3⟩
  ow := fun i d h => let ⟨a, b, c, f, g⟩ := S.ow i d h; ⟨a, b, c, f, g.cng h1 h2 h3⟩
  inj := S.inj
  ads := S.ads
  dks := by rw [h4]; exact S.dks
  al := S.al
  base := by rw [h4]; exact S.base
  di := by rw [h5]; exact S.di
  gh := fun p h => (S.gh p h).cng h1 h2 h3
  slf := S.slf
  od := ⟨fun i ks ss z => let ⟨xs, o⟩ := S.od.at' i ks ss z; ⟨xs, o.s, o.h, o.l, o.r.cng h1 h2 h3, o.nd, o.a⟩, S.od.one⟩
  mc := S.mc
  ok := ok
end
/-- one entry is looked at -/
@[reducible] def Gx.wok (G : Gx) (E0 : Ent) : Gx :=
  { cls := G.cls, fld := G.fld, deck := G.deck, dk := G.dk, DI := G.DI, frame := G.frame, dal := G.dal, dnc := G.dnc, okE := fun E => G.okE E ∧ ∃ l, E = ⟨E0.H0, E0.ads, l ++ E0.gh, E0.slf⟩
    okA := fun E l ⟨h, l', e⟩ => ⟨G.okA E l h, l ++ l', by rw [e]; simp⟩ }
@[reducible] def wokF (Gf : Addr → Addr → Gx) (E0 : Ent) (a c : Addr) : Gx := (Gf a c).wok E0
section
variable {K : PySem.W.Frag} {G : Gx} {H : Hp} {E0 E : Ent} {am : Nat → Addr} {M : List Addr} {σ : L2.St} {δ : St3}
theorem Rep.w {v : V} {d : D} (h : Rep K G H v d) : Rep K (G.wok E0) H v d := Rep.cng (G := G) (G' := G.wok E0) rfl rfl rfl d h
theorem Rep.u {v : V} {d : D} (h : Rep K (G.wok E0) H v d) : Rep K G H v d := Rep.cng (G := G.wok E0) (G' := G) rfl rfl rfl d h
theorem RepAll.w {v : List V} {d : List D} (h : RepAll K G H v d) : RepAll K (G.wok E0) H v d := RepAll.cng (G := G) (G' := G.wok E0) rfl rfl rfl d h
theorem RepAll.u {v : List V} {d : List D} (h : RepAll K (G.wok E0) H v d) : RepAll K G H v d := RepAll.cng (G := G.wok E0) (G' := G) rfl rfl rfl d h
theorem SR.wok (S : SR K G E am M σ δ H) : SR K (G.wok E) E am M σ δ H := SR.cng (G := G) (G' := G.wok E) rfl rfl rfl rfl rfl ⟨S.ok, [], rfl⟩ S
/-- back: with the ghosts that stood -/
theorem SR.unwok (S : SR K (G.wok E0) E am M σ δ H) (ok : G.okE E0) : SR K G E0 am M σ δ H := by
  obtain ⟨h, l, rfl⟩ := S.ok
  have S' : SR K G ⟨E0.H0, E0.ads, l ++ E0.gh, E0.slf⟩ am M σ δ H := SR.cng (G := G.wok E0) (G' := G) rfl rfl rfl rfl rfl h S
  exact S'.ungh (fun p hp => List.mem_append_right _ hp) ok
variable {Gf : Addr → Addr → Gx} {C : Con} {vs : List V} {Q : VK} {Ex : XK} {t : Nat}
theorem lift_wok (h : lift K (wokF Gf E0) C vs H Q Ex) : lift K Gf C vs H Q Ex := by
  obtain ⟨a, c, ads, ds, n, Qd, h1, h2, h3, h4, h5, h6, h7⟩ := h
  exact ⟨a, c, ads, ds, n, Qd, h1, h2, h3, h4, RepAll.u (E0 := E0) h5, h6, fun v d n' H' b di r q => h7 v d n' H' b di r.w q⟩
theorem liftI_wok (h : liftI K (wokF Gf E0) t C vs H Q Ex) : liftI K Gf t C vs H Q Ex := by
  obtain ⟨a, c, ads, ds, n, Qd, x, dx, us, h1, h2, h3, h4, h5, h6, h7, h8, h9, h10⟩ := h
  exact ⟨a, c, ads, ds, n, Qd, x, dx, us, h1, h2, h3, h4, h5, h6, h7, RepAll.u (E0 := E0) h8, h9, fun d n' H' b di r q => h10 d n' H' b di r.w q⟩
end
section
variable {P : Program} {w : World} {K : PySem.W.Frag} {mg : Str → Option Value} {base : Heap} {CX : CXT} {k : Nat} {f : Addr} {fd : FuncData} {ps : List Str} {sp sp' : Sp} {Gf : Addr → Addr → Gx} {C : Con} {t : Nat}
theorem FnG.imp (F : FnG P w K mg base CX k f fd ps sp) (h : ∀ vs H Q E, sp' vs H Q E → sp vs H Q E) : FnG P w K mg base CX k f fd ps sp' :=
  ⟨fun vs H Q E z => F.len vs H Q E (h _ _ _ _ z), fun A outer s H args us vs Q E hr e0 bt r z => F.go A outer s H args us vs Q E hr e0 bt r (h _ _ _ _ z)⟩
theorem FnG.wok (F : FnG P w K mg base CX k f fd ps (lift K Gf C)) (E0 : Ent) : FnG P w K mg base CX k f fd ps (lift K (wokF Gf E0) C) := F.imp fun _ _ _ _ z => lift_wok z
theorem FnG.wokI (F : FnG P w K mg base CX k f fd ps (liftI K Gf t C)) (E0 : Ent) : FnG P w K mg base CX k f fd ps (liftI K (wokF Gf E0) t C) := F.imp fun _ _ _ _ z => liftI_wok z
end
/-- an error: its class, what it keeps -/
structure XD where
  t : Nat
  fs : List D
abbrev WXd := XD → St3 → Prop
def RepX (K : PySem.W.Frag) (G : Gx) (H : Hp) (cls : Value) (dd : Option Addr) (x : XD) : Prop := cls = .ref (G.cls x.t) ∧
  ((x.fs = [] ∧ dd = none) ∨ ∃ (da : Addr) (xs : List V), dd = some da ∧ H da = some (.xd ((G.fld x.t).zip xs)) ∧ xs.length ≤ (G.fld x.t).length ∧ RepAll K G H xs x.fs)
theorem RepX.mono {K : PySem.W.Frag} {G : Gx} {H H' : Hp} {cls : Value} {dd : Option Addr} {x : XD} (h : RepX K G H cls dd x) (e : Same H H') : RepX K G H' cls dd x := by
  obtain ⟨h1, h | ⟨da, xs, h2, h3, h4, h5⟩⟩ := h
  · exact ⟨h1, .inl h⟩
  · exact ⟨h1, .inr ⟨da, xs, h2, e _ _ h3, h4, h5.mono e⟩⟩
theorem RepX.cng {K : PySem.W.Frag} {G G' : Gx} {H : Hp} {cls : Value} {dd : Option Addr} {x : XD} (h1 : G'.cls = G.cls) (h2 : G'.fld = G.fld) (h3 : G'.deck = G.deck) (h : RepX K G H cls dd x) : RepX K G' H cls dd x := by
  obtain ⟨q1, h | ⟨da, xs, q2, q3, q4, q5⟩⟩ := h
  · exact ⟨by rw [h1]; exact q1, .inl h⟩
  · exact ⟨by rw [h1]; exact q1, .inr ⟨da, xs, q2, by rw [h2]; exact q3, by rw [h2]; exact q4, q5.cng h1 h2 h3⟩⟩
/-- what is wished of errors, by data, is what is wished of them -/
def XR (K : PySem.W.Frag) (G : Gx) (Wd : WXd) (W : WX) : Prop := ∀ (E : Ent) (am : Nat → Addr) (M : List Addr) (σ : L2.St) (δ : St3) (H : Hp), SR K G E am M σ δ H → ∀ (cls : Value) (dd : Option Addr) (x : XD), RepX K G (mask M H) cls dd x → Wd x δ → W cls dd σ H
@[simp] def wRaise1 (t : Nat) (Wd : WXd) (wa : WA) : WS := fun _ δ => wa δ fun rs δ1 => ∃ r, rs = [r] ∧ ¬ r.bor ∧ Wd ⟨t, [r.d]⟩ δ1
abbrev tMkX (C : Addr) (f : Str) (ta : TA) : L2.St → Hp → XK → Prop := fun σ H Q => ta σ H fun vs H1 => ∃ v, vs = [v] ∧ ∀ d, H1 d = none → Q (.ref C) (some d) (upd H1 d (.xd [(f, v)]))
section
variable {X : Cx} {G : Gx} {W : WX} {Wd : WXd} {e : Expr} {es : List Expr} {pos : Pos} {ta : TA} {wa : WA} {t : Nat} {f : Str}
theorem ds_raise1 (t : Nat) {x : Str} {p pos' : Pos} (hc : X.calm = true) (tk : Takes X W) (xr : XR X.K G Wd W) (hf : G.fld t = [f]) (pmk : PA X es ta → PMk X (.Call (.Name x p) es [] pos') (tMkX (G.cls t) f ta)) (ha : DA X G es ta wa) :
    DS X G (.Raise (some (.Call (.Name x p) es [] pos')) none pos) (fun _ σ H => tMkX (G.cls t) f ta σ H fun cls d H' => W cls d σ H') (wRaise1 t Wd wa) := by
  refine ⟨ps_raise hc tk (pmk ha.pa), fun E am M σ δ H S D3 q De R => ?_⟩
  refine ha.sim E am M σ δ H S _ q _ fun vs rs δ1 H1 S1 e1 o1 r1 ⟨r, hr, nb, hw⟩ => ?_
  subst hr
  cases r1 with
  | @cons v _ _ _ rv rn =>
  cases rn
  refine ⟨v, rfl, fun d hd => ?_⟩
  have sm : Same H1 (upd H1 d (.xd [(f, v)])) := same_new hd
  have dM : d ∉ M := fun z => S1.al d z hd
  refine xr E am M σ δ1 _ (S1.grow sm) _ _ _ ⟨rfl, .inr ⟨d, [v], rfl, ?_, by rw [hf]; exact Nat.le_refl _, RepAll.one ((rv.rep nb).mono (mask_mono sm))⟩⟩ hw
  rw [mask_out dM, upd_same, hf]
  rfl
end
end L3
namespace L3
open PySem PySem.Spec PyProof.Rows L2
def tCallXP (sp : Sp) (n m : Nat) (perm : List Nat) (dvs : List V) (E : L2.St → XK) (t tk : TA) : TE := fun σ H Q => t σ H fun vs H1 => tk σ H1 fun zs H2 => vs.length = n ∧ zs.length = m ∧ sp (pick perm (vs ++ zs ++ dvs)) H2 Q (E σ)
def tMakeXP (C : Addr) (sp : Sp) (n m : Nat) (perm : List Nat) (dvs : List V) (E : L2.St → XK) (t tk : TA) : TE := fun σ H Q => t σ H fun vs H1 => tk σ H1 fun zs H2 => vs.length = n ∧ zs.length = m ∧
  ∀ x dx, H2 x = none → H2 dx = none → dx ≠ x → sp (.ref x :: pick perm (vs ++ zs ++ dvs)) (upd (upd H2 dx (.own x)) x (.ins C dx [])) (fun v H3 => v = .non ∧ Q (.ref x) H3) (E σ)
def tMethXP (C : Addr) (mn : Str) (sp : Sp) (n m : Nat) (perm : List Nat) (dvs : List V) (E : L2.St → XK) (ta : TE) (t tk : TA) : TE := fun σ H Q => ta σ H fun x H1 => ∃ a dx fs, x = .ref a ∧ H1 a = some (.ins C dx fs) ∧ fs.lookup mn = none ∧
  t σ H1 fun vs H2 => tk σ H2 fun zs H3 => vs.length = n ∧ zs.length = m ∧ sp (x :: pick perm (vs ++ zs ++ dvs)) H3 Q (E σ)
section
variable {X : Cx} {CX : CXT} {k n m : Nat} {f C : Addr} {fd : FuncData} {ps ks : List Str} {sp : Sp} {dvs : List V} {ds : List Value} {E : L2.St → XK} {x mn : Str} {p pos apos : Pos} {o : Expr} {es : List Expr} {kws : List Keyword} {ta : TE} {t tk : TA} {perm : List Nat}
theorem pg_callX (F : FnG X.prog X.w X.K X.mg X.base CX k f fd ps sp) (hr : Room k X.A) (hg : X.A.guards = some []) (gl : Gl X x) (hm : X.mg x = some (.ref f)) (hk : PySem.W.keepIn X.K (.ref f) = true) (hb : KB X.K fd ps n ks perm ds) (hd : Vals dvs ds) (hx : ∀ σ, PassesAt CX X σ (E σ))
    (ok : ArgsOk X es kws pos ks) (hn : es = [] → t = tNil) (ha : PA X es t) (hkw : PK X kws tk) (hdb : (x == ("__debug__" : Str)) = false) : PE X (.Call (.Name x p) es kws pos) (tCallXP sp n ks.length perm dvs E t tk) :=
  ⟨fun pins s σ H Q I h => wpAny_Call_Name_kw (ld_glob I gl hm (callw (first := []) ok hn hk ha hkw I h fun us ws vs zs s2 H2 I2 r rz ⟨l1, l2, q⟩ =>
    wp_of_code (α := Unit) (F.call hr hg (hx σ) I2 (fun _ => hb s2 us ws I2.kIn (by rw [← r.length]; exact l1) (by rw [← rz.length]; exact l2)) (pick_vals ((r.append rz).append hd)) q)) hdb)⟩
theorem pg_makeX (M : Mk X.K C f) (F : FnG X.prog X.w X.K X.mg X.base CX k f fd ps sp) (hr : Room (k + 1) X.A) (hg : X.A.guards = some []) (gl : Gl X x) (hm : X.mg x = some (.ref C)) (hb : KBm X.K fd ps n ks perm ds) (hd : Vals dvs ds) (hx : ∀ σ, PassesAt CX X σ (E σ))
    (ok : ArgsOk X es kws pos ks) (hn : es = [] → t = tNil) (ha : PA X es t) (hkw : PK X kws tk) (hdb : (x == ("__debug__" : Str)) = false) : PE X (.Call (.Name x p) es kws pos) (tMakeXP C sp n ks.length perm dvs E t tk) :=
  ⟨fun pins s σ H Q I h => wpAny_Call_Name_kw (ld_glob I gl hm (callw ok hn M.kp ha hkw I h fun us ws vs zs s2 H2 I2 r rz ⟨l1, l2, q⟩ => make_run M F hr hg hb hd (hx σ) I2 r rz l1 l2 q) hdb)⟩
theorem pg_methX {pl : Sem Bool} (he : PE X o ta) (c : Cls X.K C) (hm : Meth X.K C mn f) (F : FnG X.prog X.w X.K X.mg X.base CX k f fd ps sp) (hr : Room k X.A) (hg : X.A.guards = some []) (hb : KBm X.K fd ps n ks perm ds) (hd : Vals dvs ds) (hx : ∀ σ, PassesAt CX X σ (E σ))
    (ok : ArgsOk X es kws pos ks) (hn : es = [] → t = tNil) (ha : PA X es t) (hkw : PK X kws tk)
    (ht : eval (.Call (.Attribute o mn apos) es kws pos) X.env = (do
      let ov ← eval o X.env
      standAt apos.atName
      let (f, first) ← holding [ov] (getMethod ov mn pl)
      callWith pos f first (backTo pos (starEach es X.env)) (backToKw pos (keywordEach kws X.env)))) :
    PE X (.Call (.Attribute o mn apos) es kws pos) (tMethXP C mn sp n ks.length perm dvs E ta t tk) := by
  refine ⟨fun pins s σ H Q I h => PySem.W.methodCall_KW (pl := pl) (thn (he.run pins s σ H _ I h) fun u s1 ⟨x, H1, I1, rx, a, dx, fs, ex, ea, l, q⟩ => ?_) ht⟩
  subst ex
  obtain rfl : u = Value.ref a := rx
  refine getmeth_ok I1 ea c hm l (callw (first := [.ref a]) ok hn hm.kp ha hkw I1 q fun us ws vs zs s2 H2 I2 r rz ⟨l1, l2, q2⟩ => ?_)
  exact wp_of_code (α := Unit) (FnG.callM (va := .ref a) F hr hg (hx σ) I2 hb hd rfl r rz l1 l2 q2)
end
abbrev ConX := List D → Nat → (D → Nat → Prop) → (XD → Nat → Prop) → Prop
def liftX (K : PySem.W.Frag) (Gf : Addr → Addr → Gx) (C : ConX) : Sp := fun vs H Q Ex => ∃ (a c : Addr) (ads : List Addr) (ds : List D) (n : Nat) (Qd : D → Nat → Prop) (Xd : XD → Nat → Prop),
  (∀ x ∈ (Gf a c).dk, x ∈ ads) ∧ (∀ x ∈ ads, H x ≠ none) ∧ (∀ x ∈ ads, NoCode H x) ∧ (Gf a c).DI n H ∧ RepAll K (Gf a c) (mask ads H) vs ds ∧ C ds n Qd Xd ∧
  (∀ (v : V) (d : D) (n' : Nat) (H' : Hp), (∀ b o, H b = some o → b ∉ (Gf a c).dk → H' b = some o) → (Gf a c).DI n' H' → Rep K (Gf a c) (mask ads H') v d → Qd d n' → Q v H') ∧
  ∀ (cls : Value) (dd : Option Addr) (x : XD) (n' : Nat) (H' : Hp), (∀ b o, H b = some o → b ∉ (Gf a c).dk → H' b = some o) → (Gf a c).DI n' H' → RepX K (Gf a c) (mask ads H') cls dd x → Xd x n' → Ex cls dd H'
def liftIX (K : PySem.W.Frag) (Gf : Addr → Addr → Gx) (t : Nat) (C : ConX) : Sp := fun vs H Q Ex => ∃ (a c : Addr) (ads : List Addr) (ds : List D) (n : Nat) (Qd : D → Nat → Prop) (Xd : XD → Nat → Prop) (x dx : Addr) (us : List V), vs = .ref x :: us ∧
  (∀ y ∈ (Gf a c).dk, y ∈ ads) ∧ (∀ y ∈ ads, H y ≠ none) ∧ (∀ y ∈ ads, NoCode H y) ∧ x ∉ ads ∧ H x = some (.ins ((Gf a c).cls t) dx []) ∧ (Gf a c).DI n H ∧ RepAll K (Gf a c) (mask (x :: ads) H) us ds ∧ C ds n Qd Xd ∧
  (∀ (d : D) (n' : Nat) (H' : Hp), (∀ b o, H b = some o → b ∉ (Gf a c).dk → b ≠ x → H' b = some o) → (Gf a c).DI n' H' → Rep K (Gf a c) (mask ads H') (.ref x) d → Qd d n' → Q .non H') ∧
  ∀ (cls : Value) (dd : Option Addr) (y : XD) (n' : Nat) (H' : Hp), (∀ b o, H b = some o → b ∉ (Gf a c).dk → b ≠ x → H' b = some o) → (Gf a c).DI n' H' → RepX K (Gf a c) (mask ads H') cls dd y → Xd y n' → Ex cls dd H'
section
variable {P : Program} {w : World} {K : PySem.W.Frag} {mg : Str → Option Value} {base : Heap} {k : Nat} {f : Addr} {fd : FuncData} {ps N : List Str} {x qual : Str} {params : Arguments} {body : List Stmt} {scope : Scope} {Gf : Addr → Addr → Gx} {C : ConX} {ws : WXd → WS} {t : Nat}
/-- THE RULE: a def that may raise, by its body's reading over data -/
theorem FnG.dataX (F : FunB K x qual params body scope f fd) (S : FnScope N ps scope) (len : ∀ ds n Q Xd, C ds n Q Xd → ds.length = ps.length)
    (hb : ∀ (cdv : Value) (A : Around) (outer : List Env) (s : Shared) (H : Hp) (E : XK) (a c : Addr) (E0 : Ent) (Wd : WXd) (W : WX), Room k (A.deeper (envOfC qual scope s.heap.objs.size f cdv)) → A.guards = some [] →
      Takes (cxOf (L2.CX P w) P w K mg base N qual scope f cdv A outer s H E) W → PassesOwn (model P w) (A.deeper (envOfC qual scope s.heap.objs.size f cdv)) (envOfC qual scope s.heap.objs.size f cdv) (cxOf (L2.CX P w) P w K mg base N qual scope f cdv A outer s H E).xe →
      XR K (wokF Gf E0 a c) Wd W → ∃ t, DSs (cxOf (L2.CX P w) P w K mg base N qual scope f cdv A outer s H E) (wokF Gf E0 a c) body t (ws Wd))
    (hw : ∀ ds n Q Xd, C ds n Q Xd → ws (fun x δ => Xd x δ.n) ⟨fun δ => Q .non δ.n, Q, fun _ => False, fun _ => False⟩ ⟨start3 N ds, n⟩) (hE : ∀ a c E, (Gf a c).okE E := by exact fun _ _ _ => trivial) : FnG P w K mg base (L2.CX P w) (k + 1) f fd ps (liftX K Gf C) := by
  refine FnG.of F S (fun vs H Q E ⟨a, c, ads, ds, n, Qd, Xd, _, _, _, _, r, hc, _⟩ => by rw [r.length]; exact len ds n Qd Xd hc) fun cdv A outer s H vs Q E hr hg ⟨a, c, ads, ds, n, Qd, Xd, hk, ha, hnc, di, r, hc, q, qx⟩ => ?_
  obtain ⟨t, ht⟩ := hb cdv A outer s H E a c ⟨H, ads, [], none⟩ (fun x δ => Xd x δ.n) (fun cls d _ H' => E cls d H') hr hg (takes_of rfl rfl rfl rfl) (passes_of rfl) fun E' am M σ δ H' S' cls dd x rx hx => by
    obtain ⟨_, l, rfl⟩ := S'.ok
    exact qx cls dd x δ.n H' S'.base S'.di ((RepX.cng (G := (Gf a c).wok ⟨H, ads, [], none⟩) (G' := Gf a c) rfl rfl rfl rx).mono (mask_sub S'.ads)) hx
  have S0 := (start_sr (am := fun _ => 0) (N := N) hk ha hnc di r (hE a c _)).wok
  refine ⟨t, ht.ps, ht.sim ⟨H, ads, [], none⟩ (fun _ => 0) ads _ _ H S0 _ (hw ds n Qd Xd hc) _ ⟨fun am M σ δ H' S' z => ?_, fun _ _ _ _ _ _ z => z, fun _ _ _ _ _ _ z => z, fun v d n' H' rv hbase di' z => q v d n' H' hbase di' rv.u z⟩⟩
  exact q .non .non _ H' S'.base S'.di rfl z
/-- an __init__ that may raise -/
theorem FnG.initX (t : Nat) (F : FunB K x qual params body scope f fd) (S : FnScope N ps scope) (len : ∀ ds n Q Xd, C ds n Q Xd → ds.length + 1 = ps.length)
    (hb : ∀ (cdv : Value) (A : Around) (outer : List Env) (s : Shared) (H : Hp) (E : XK) (a c : Addr) (E0 : Ent) (Wd : WXd) (W : WX), Room k (A.deeper (envOfC qual scope s.heap.objs.size f cdv)) → A.guards = some [] →
      Takes (cxOf (L2.CX P w) P w K mg base N qual scope f cdv A outer s H E) W → PassesOwn (model P w) (A.deeper (envOfC qual scope s.heap.objs.size f cdv)) (envOfC qual scope s.heap.objs.size f cdv) (cxOf (L2.CX P w) P w K mg base N qual scope f cdv A outer s H E).xe →
      XR K (wokF Gf E0 a c) Wd W → ∃ t, DSs (cxOf (L2.CX P w) P w K mg base N qual scope f cdv A outer s H E) (wokF Gf E0 a c) body t (ws Wd))
    (hw : ∀ ds n Q Xd, C ds n Q Xd → ws (fun x δ => Xd x δ.n) ⟨fun δ => ∃ fs, δ.sl[0]? = some (some (.ow (.ins t fs))) ∧ Q (.ins t fs) δ.n, fun _ _ => False, fun _ => False, fun _ => False⟩ ⟨startI N t ds, n⟩) (hE : ∀ a c E, (Gf a c).okE E := by exact fun _ _ _ => trivial) : FnG P w K mg base (L2.CX P w) (k + 1) f fd ps (liftIX K Gf t C) := by
  refine FnG.of F S (fun vs H Q E ⟨a, c, ads, ds, n, Qd, Xd, x, dx, us, e, _, _, _, _, _, _, r, hc, _⟩ => by rw [e, List.length_cons, r.length]; exact len ds n Qd Xd hc) fun cdv A outer s H vs Q E hr hg ⟨a, c, ads, ds, n, Qd, Xd, x, dx, us, e, hk, ha, hnc, hx, hi, di, r, hc, q, qx⟩ => ?_
  subst e
  have bs : ∀ {H' : Hp}, (∀ b o, (if b = x then none else H b) = some o → b ∉ (Gf a c).dk → H' b = some o) → ∀ b o, H b = some o → b ∉ (Gf a c).dk → b ≠ x → H' b = some o := fun z b o h hd ne => z b o (by rw [if_neg ne]; exact h) hd
  obtain ⟨tt, ht⟩ := hb cdv A outer s H E a c ⟨fun b => if b = x then none else H b, ads, [], some x⟩ (fun x δ => Xd x δ.n) (fun cls d _ H' => E cls d H') hr hg (takes_of rfl rfl rfl rfl) (passes_of rfl) fun E' am M σ δ H' S' cls dd y rx hy => by
    obtain ⟨_, l, rfl⟩ := S'.ok
    exact qx cls dd y δ.n H' (bs S'.base) S'.di ((RepX.cng (G := (Gf a c).wok ⟨fun b => if b = x then none else H b, ads, [], some x⟩) (G' := Gf a c) rfl rfl rfl rx).mono (mask_sub S'.ads)) hy
  have S0 := (init_sr (N := N) (t := t) hk ha hnc hx hi di r (hE a c _)).wok
  refine ⟨tt, ht.ps, ht.sim ⟨fun b => if b = x then none else H b, ads, [], some x⟩ _ _ _ _ H S0 _ (hw ds n Qd Xd hc) _ ⟨fun am M σ δ H' S' ⟨fs, h0, z⟩ => ?_, fun _ _ _ _ _ _ z => z, fun _ _ _ _ _ _ z => z, fun v d n' H' rv hbase di' z => z.elim⟩⟩
  obtain ⟨_, _, a3, _, own⟩ := S'.ow 0 _ h0
  have e0 : am 0 = x := S'.slf x rfl _ h0 rfl
  rw [e0] at own a3
  exact q (.ins t fs) δ.n H' (bs S'.base) S'.di (own.rep (mask_sub S'.ads) fun o e => by rw [mask_out a3]; exact e).u z
end
@[simp] def wCallX (C : ConX) (Wd : WXd) (n m : Nat) (perm : List Nat) (dd : List D) (w wk : WA) : WE := fun δ Q => w δ fun rs δ1 => wk δ1 fun qs δ2 => keeps rs ∧ keeps qs ∧ rs.length = n ∧ qs.length = m ∧
  C (pick perm (rs.map RD.d ++ qs.map RD.d ++ dd)) δ2.n (fun d n' => Q (.sh d) ⟨δ2.sl, n'⟩) fun x n' => Wd x ⟨δ2.sl, n'⟩
@[simp] def wMethX (t : Nat) (C : ConX) (Wd : WXd) (n m : Nat) (perm : List Nat) (dd : List D) (wo : WE) (w wk : WA) : WE := fun δ Q => wo δ fun r δ0 => ¬ r.bor ∧ (∃ fs, r.d = .ins t fs) ∧ w δ0 fun rs δ1 => wk δ1 fun qs δ2 => keeps rs ∧ keeps qs ∧ rs.length = n ∧ qs.length = m ∧
  C (r.d :: pick perm (rs.map RD.d ++ qs.map RD.d ++ dd)) δ2.n (fun d n' => Q (.sh d) ⟨δ2.sl, n'⟩) fun x n' => Wd x ⟨δ2.sl, n'⟩
section
variable {X : Cx} {G : Gx} {K : PySem.W.Frag} {E : Ent} {Gf : Addr → Addr → Gx} {a c : Addr} {C : ConX} {dd : List D} {dvs : List V} {to : TE} {wo : WE} {ts tk : TA} {wa wk : WA} {n m t : Nat} {perm : List Nat} {Wd : WXd} {W : WX}
theorem liftX_use {am : Nat → Addr} {M : List Addr} {σ : L2.St} {δ : St3} {H : Hp} {vs : List V} {ds : List D} {Qd : RD → St3 → Prop} {Q : VK} (xr : XR K (Gf a c) Wd W) (S : SR K (Gf a c) E am M σ δ H) (r : RepAll K (Gf a c) (mask M H) vs ds)
    (hc : C ds δ.n (fun d n' => Qd (.sh d) ⟨δ.sl, n'⟩) fun x n' => Wd x ⟨δ.sl, n'⟩)
    (k : ∀ (v : V) (r : RD) (δ' : St3) (H' : Hp), SR K (Gf a c) E am M σ δ' H' → Ext (Gf a c) am δ H H' → (∀ i, isOwn δ' i → isOwn δ i) → RV K (Gf a c) E am M σ δ' H' v r → Qd r δ' → Q v H') : liftX K Gf C vs H Q (fun cls d H' => W cls d σ H') := by
  refine ⟨a, c, M, ds, δ.n, _, _, fun x hx => S.ads x (S.dks x hx), S.al, S.mc, S.di, r, hc, fun v d n' H' hb di rv q => ?_, fun cls d x n' H' hb di rx q => ?_⟩
  · exact k v (.sh d) ⟨δ.sl, n'⟩ H' (S.after hb di) (fun b o h hk _ => hb b o h hk) (fun i z => z) rv q
  · exact xr E am M σ ⟨δ.sl, n'⟩ H' (S.after hb di) cls d x rx q
theorem sim_callX (xr : XR K (Gf a c) Wd W) (h : SimA K (Gf a c) E ts wa) (h' : SimA K (Gf a c) E tk wk) (hd : Dfl K (Gf a c) dvs dd) : SimE K (Gf a c) E (tCallXP (liftX K Gf C) n m perm dvs (L2.WE W) ts tk) (wCallX C Wd n m perm dd wa wk) := fun am M σ δ H S Qd q Q k =>
  h am M σ δ H S _ q _ fun vs rs δ1 H1 S1 e1 o1 r1 q => h' am M σ δ1 H1 S1 _ q _ fun zs qs δ2 H2 S2 e2 o2 r2 ⟨k1, k2, l1, l2, hc⟩ =>
    ⟨by rw [r1.length]; exact l1, by rw [r2.length]; exact l2, liftX_use xr S2 (pick_rep ((((r1.later (δ2 := δ2) S1 e2 k1).rep k1).append (r2.rep k2)).append (hd _))) hc fun v r δ' H' S' e' o' rv hq =>
      k v r δ' H' S' ((e1.trans o1 e2).trans (fun i z => o1 i (o2 i z)) e') (fun i z => o1 i (o2 i (o' i z))) rv hq⟩
theorem sim_makeX (xr : XR K (Gf a c) Wd W) (h : SimA K (Gf a c) E ts wa) (h' : SimA K (Gf a c) E tk wk) (hd : Dfl K (Gf a c) dvs dd) : SimE K (Gf a c) E (tMakeXP ((Gf a c).cls t) (liftIX K Gf t C) n m perm dvs (L2.WE W) ts tk) (wCallX C Wd n m perm dd wa wk) := fun am M σ δ H S Qd q Q k =>
  h am M σ δ H S _ q _ fun vs rs δ1 H1 S1 e1 o1 r1 q => h' am M σ δ1 H1 S1 _ q _ fun zs qs δ2 H2 S2 e2 o2 r2 ⟨k1, k2, l1, l2, hc⟩ => by
    refine ⟨by rw [r1.length]; exact l1, by rw [r2.length]; exact l2, fun x dx hx hdx ne => ?_⟩
    have hx' : (upd H2 dx (.own x)) x = none := by rw [upd_ne ne.symm]; exact hx
    have sm : Same H2 (upd (upd H2 dx (.own x)) x (.ins ((Gf a c).cls t) dx [])) := (same_new hdx).trans (same_new hx')
    have S3 := S2.grow sm
    have xM : x ∉ M := fun z => S2.al x z hx
    have rep := pick_rep (perm := perm) ((((r1.later (δ2 := δ2) S1 e2 k1).rep k1).append (r2.rep k2)).append (hd _))
    have hb' : ∀ {H' : Hp}, (∀ b o, (upd (upd H2 dx (.own x)) x (.ins ((Gf a c).cls t) dx [])) b = some o → b ∉ (Gf a c).dk → b ≠ x → H' b = some o) → ∀ b o, H2 b = some o → b ∉ (Gf a c).dk → H' b = some o := fun hb b o h hk => hb b o (sm b o h) hk fun z => by subst z; rw [hx] at h; cases h
    refine ⟨a, c, M, _, δ2.n, _, _, x, dx, _, rfl, fun y hy => S3.ads y (S3.dks y hy), S3.al, S3.mc, xM, upd_same, S3.di, rep.mono (mask_new hx sm), hc, fun d n' H' hb di rv hq => ⟨rfl, ?_⟩, fun cls d y n' H' hb di rx hq => ?_⟩
    · exact k (.ref x) (.sh d) ⟨δ2.sl, n'⟩ H' (S2.after (hb' hb) di) ((e1.trans o1 e2).trans (fun i z => o1 i (o2 i z)) fun b o h hk _ => hb' hb b o h hk) (fun i z => o1 i (o2 i z)) rv hq
    · exact xr E am M σ ⟨δ2.sl, n'⟩ H' (S2.after (hb' hb) di) cls d y rx hq
theorem sim_methX {mn : Str} (hmn : mn ∉ (Gf a c).fld t) (xr : XR K (Gf a c) Wd W) (ho : SimE K (Gf a c) E to wo) (h : SimA K (Gf a c) E ts wa) (h' : SimA K (Gf a c) E tk wk) (hd : Dfl K (Gf a c) dvs dd) :
    SimE K (Gf a c) E (tMethXP ((Gf a c).cls t) mn (liftX K Gf C) n m perm dvs (L2.WE W) to ts tk) (wMethX t C Wd n m perm dd wo wa wk) := fun am M σ δ H S Qd q Q k =>
  ho am M σ δ H S _ q _ fun x r δ0 H0 S0 e0 o0 r0 ⟨nb, ⟨fs, ef⟩, q⟩ => by
    have rr := r0.k.rep nb
    have ri := rr
    rw [ef] at ri
    obtain ⟨p, dx, xs, rfl, hp, hl, rx⟩ := ri
    refine ⟨p, dx, _, rfl, mask_le _ _ hp, zip_none xs hmn, ?_⟩
    refine h am M σ δ0 H0 S0 _ q _ fun vs rs δ1 H1 S1 e1 o1 r1 q => h' am M σ δ1 H1 S1 _ q _ fun zs qs δ2 H2 S2 e2 o2 r2 ⟨k1, k2, l1, l2, hc⟩ => ?_
    refine ⟨by rw [r1.length]; exact l1, by rw [r2.length]; exact l2, ?_⟩
    have rep := pick_rep (perm := perm) ((((r1.later (δ2 := δ2) S1 e2 k1).rep k1).append (r2.rep k2)).append (hd _))
    have r0' : Rep K (Gf a c) (mask M H2) (.ref p) r.d := Rep.mono ((S0.mask e1).trans (S1.mask e2)) _ rr
    exact liftX_use xr S2 (RepAll.cons r0' rep) hc fun v r δ' H' S' e' o' rv hq =>
      k v r δ' H' S' (((e0.trans o0 e1).trans (fun i z => o0 i (o1 i z)) e2).trans (fun i z => o0 i (o1 i (o2 i z))) e') (fun i z => o0 i (o1 i (o2 i (o' i z)))) rv hq
end
end L3
namespace L3
open PySem PySem.Spec PyProof.Rows L2
section
variable {K : PySem.W.Frag} {H : Hp} {E0 : Ent} {Gf : Addr → Addr → Gx} {C : ConX} {vs : List V} {Q : VK} {Ex : XK} {t : Nat}
theorem RepX.w {G : Gx} {cls : Value} {dd : Option Addr} {x : XD} (h : RepX K G H cls dd x) : RepX K (G.wok E0) H cls dd x := RepX.cng (G := G) (G' := G.wok E0) rfl rfl rfl h
theorem RepX.u {G : Gx} {cls : Value} {dd : Option Addr} {x : XD} (h : RepX K (G.wok E0) H cls dd x) : RepX K G H cls dd x := RepX.cng (G := G.wok E0) (G' := G) rfl rfl rfl h
theorem liftX_wok (h : liftX K (wokF Gf E0) C vs H Q Ex) : liftX K Gf C vs H Q Ex := by
  obtain ⟨a, c, ads, ds, n, Qd, Xd, h1, h2, h3, h4, h5, h6, h7, h8⟩ := h
  exact ⟨a, c, ads, ds, n, Qd, Xd, h1, h2, h3, h4, RepAll.u (E0 := E0) h5, h6, fun v d n' H' b di r q => h7 v d n' H' b di r.w q, fun cls d x n' H' b di r q => h8 cls d x n' H' b di r.w q⟩
theorem liftIX_wok (h : liftIX K (wokF Gf E0) t C vs H Q Ex) : liftIX K Gf t C vs H Q Ex := by
  obtain ⟨a, c, ads, ds, n, Qd, Xd, x, dx, us, h1, h2, h3, h4, h5, h6, h7, h8, h9, h10, h11⟩ := h
  exact ⟨a, c, ads, ds, n, Qd, Xd, x, dx, us, h1, h2, h3, h4, h5, h6, h7, RepAll.u (E0 := E0) h8, h9, fun d n' H' b di r q => h10 d n' H' b di r.w q, fun cls d y n' H' b di r q => h11 cls d y n' H' b di r.w q⟩
variable {P : Program} {w : World} {mg : Str → Option Value} {base : Heap} {CX : CXT} {k : Nat} {f : Addr} {fd : FuncData} {ps : List Str}
theorem FnG.wokX (F : FnG P w K mg base CX k f fd ps (liftX K Gf C)) (E0 : Ent) : FnG P w K mg base CX k f fd ps (liftX K (wokF Gf E0) C) := F.imp fun _ _ _ _ z => liftX_wok z
theorem FnG.wokIX (F : FnG P w K mg base CX k f fd ps (liftIX K Gf t C)) (E0 : Ent) : FnG P w K mg base CX k f fd ps (liftIX K (wokF Gf E0) t C) := F.imp fun _ _ _ _ z => liftIX_wok z
end
section
variable {X : Cx} {Gf : Addr → Addr → Gx} {a c : Addr} {C : ConX} {dd : List D} {dvs : List V} {to : TE} {wo : WE} {ts tk : TA} {wa wk : WA} {n m k : Nat} {perm : List Nat} {Wd : WXd} {W : WX} {f : Addr} {fd : FuncData} {ps ks : List Str} {ds : List Value} {x mn : Str} {p pos apos : Pos} {o : Expr} {es : List Expr} {kws : List Keyword}
theorem de_xcall (K : PySem.W.Frag) (tW : Takes X W) (xr : XR K (Gf a c) Wd W) (F : FnG X.prog X.w K X.mg X.base (L2.CX X.prog X.w) k f fd ps (liftX K Gf C)) (hr : Room k X.A) (hg : X.A.guards = some []) (hm : X.mg x = some (.ref f)) (hk : PySem.W.keepIn K (.ref f) = true) (hb : KB K fd ps n ks perm ds) (hv : Vals dvs ds) (hd : Dfl K (Gf a c) dvs dd)
    (ha : DA X (Gf a c) es ts wa) (hkw : DK X (Gf a c) kws tk wk) (gl : Gl X x := by rfl) (ok : ArgsOk X es kws pos ks := by exact ⟨by first | exact .inl rfl | exact .inr ⟨_, _, rfl, rfl⟩, rfl, rfl, rfl⟩) (hn : es = [] → ts = tNil := by first | exact fun _ => rfl | (intro h; cases h)) (hdb : (x == ("__debug__" : Str)) = false := by decide) (hl : ks.length = m := by rfl) (hK : X.K = K := by rfl) :
    DE X (Gf a c) (.Call (.Name x p) es kws pos) (tCallXP (liftX K Gf C) n m perm dvs (L2.WE W) ts tk) (wCallX C Wd n m perm dd wa wk) := by
  subst hK hl
  exact ⟨pg_callX F hr hg gl hm hk hb hv (passAt tW) ok hn ha.pa hkw.pk hdb, fun E => sim_callX xr (ha.sim E) (hkw.sim E) hd⟩
theorem de_xmake (K : PySem.W.Frag) (t : Nat) (tW : Takes X W) (xr : XR K (Gf a c) Wd W) (M : Mk K ((Gf a c).cls t) f) (F : FnG X.prog X.w K X.mg X.base (L2.CX X.prog X.w) k f fd ps (liftIX K Gf t C)) (hr : Room (k + 1) X.A) (hg : X.A.guards = some []) (hm : X.mg x = some (.ref ((Gf a c).cls t))) (hb : KBm K fd ps n ks perm ds) (hv : Vals dvs ds) (hd : Dfl K (Gf a c) dvs dd)
    (ha : DA X (Gf a c) es ts wa) (hkw : DK X (Gf a c) kws tk wk) (gl : Gl X x := by rfl) (ok : ArgsOk X es kws pos ks := by exact ⟨by first | exact .inl rfl | exact .inr ⟨_, _, rfl, rfl⟩, rfl, rfl, rfl⟩) (hn : es = [] → ts = tNil := by first | exact fun _ => rfl | (intro h; cases h)) (hdb : (x == ("__debug__" : Str)) = false := by decide) (hl : ks.length = m := by rfl) (hK : X.K = K := by rfl) :
    DE X (Gf a c) (.Call (.Name x p) es kws pos) (tMakeXP ((Gf a c).cls t) (liftIX K Gf t C) n m perm dvs (L2.WE W) ts tk) (wCallX C Wd n m perm dd wa wk) := by
  subst hK hl
  exact ⟨pg_makeX M F hr hg gl hm hb hv (passAt tW) ok hn ha.pa hkw.pk hdb, fun E => sim_makeX xr (ha.sim E) (hkw.sim E) hd⟩
theorem de_xmeth {pl : Sem Bool} (K : PySem.W.Frag) (t : Nat) (tW : Takes X W) (xr : XR K (Gf a c) Wd W) (c' : Cls K ((Gf a c).cls t)) (hm : Meth K ((Gf a c).cls t) mn f) (F : FnG X.prog X.w K X.mg X.base (L2.CX X.prog X.w) k f fd ps (liftX K Gf C)) (hr : Room k X.A) (hg : X.A.guards = some []) (hb : KBm K fd ps n ks perm ds) (hv : Vals dvs ds) (hd : Dfl K (Gf a c) dvs dd)
    (hmn : mn ∉ (Gf a c).fld t) (he : DE X (Gf a c) o to wo) (ha : DA X (Gf a c) es ts wa) (hkw : DK X (Gf a c) kws tk wk) (ok : ArgsOk X es kws pos ks := by exact ⟨by first | exact .inl rfl | exact .inr ⟨_, _, rfl, rfl⟩, rfl, rfl, rfl⟩) (hn : es = [] → ts = tNil := by first | exact fun _ => rfl | (intro h; cases h))
    (ht : eval (.Call (.Attribute o mn apos) es kws pos) X.env = (do
      let ov ← eval o X.env
      standAt apos.atName
      let (f, first) ← holding [ov] (getMethod ov mn pl)
      callWith pos f first (backTo pos (starEach es X.env)) (backToKw pos (keywordEach kws X.env))) := by rfl) (hl : ks.length = m := by rfl) (hK : X.K = K := by rfl) :
    DE X (Gf a c) (.Call (.Attribute o mn apos) es kws pos) (tMethXP ((Gf a c).cls t) mn (liftX K Gf C) n m perm dvs (L2.WE W) to ts tk) (wMethX t C Wd n m perm dd wo wa wk) := by
  subst hK hl
  exact ⟨pg_methX he.pe c' hm F hr hg hb hv (passAt tW) ok hn ha.pa hkw.pk ht, fun E => sim_methX hmn xr (he.sim E) (ha.sim E) (hkw.sim E) hd⟩
end
section
variable {G : Gx} {K : PySem.W.Frag} {E E0 : Ent} {Gf : Addr → Addr → Gx} {a c : Addr} {C : ConX} {dd : List D} {dvs : List V} {to : TE} {wo : WE} {ts tk : TA} {wa wk : WA} {n m t : Nat} {perm : List Nat} {Wd : WXd} {W : WX}
theorem sim_callXW (xr : XR K (wokF Gf E0 a c) Wd W) (h : SimA K (wokF Gf E0 a c) E ts wa) (h' : SimA K (wokF Gf E0 a c) E tk wk) (hd : Dfl K (wokF Gf E0 a c) dvs dd) : SimE K (wokF Gf E0 a c) E (tCallXP (liftX K Gf C) n m perm dvs (L2.WE W) ts tk) (wCallX C Wd n m perm dd wa wk) := fun am M σ δ H S Qd q Q k =>
  h am M σ δ H S _ q _ fun vs rs δ1 H1 S1 e1 o1 r1 q => h' am M σ δ1 H1 S1 _ q _ fun zs qs δ2 H2 S2 e2 o2 r2 ⟨k1, k2, l1, l2, hc⟩ =>
    ⟨by rw [r1.length]; exact l1, by rw [r2.length]; exact l2, liftX_wok (Gf := Gf) (E0 := E0) (liftX_use (Gf := wokF Gf E0) xr S2 (pick_rep ((((r1.later (δ2 := δ2) S1 e2 k1).rep k1).append (r2.rep k2)).append (hd _))) hc fun v r δ' H' S' e' o' rv hq =>
      k v r δ' H' S' ((e1.trans o1 e2).trans (fun i z => o1 i (o2 i z)) e') (fun i z => o1 i (o2 i (o' i z))) rv hq)⟩
theorem sim_makeXW (xr : XR K (wokF Gf E0 a c) Wd W) (h : SimA K (wokF Gf E0 a c) E ts wa) (h' : SimA K (wokF Gf E0 a c) E tk wk) (hd : Dfl K (wokF Gf E0 a c) dvs dd) : SimE K (wokF Gf E0 a c) E (tMakeXP ((Gf a c).cls t) (liftIX K Gf t C) n m perm dvs (L2.WE W) ts tk) (wCallX C Wd n m perm dd wa wk) := fun am M σ δ H S Qd q Q k =>
  h am M σ δ H S _ q _ fun vs rs δ1 H1 S1 e1 o1 r1 q => h' am M σ δ1 H1 S1 _ q _ fun zs qs δ2 H2 S2 e2 o2 r2 ⟨k1, k2, l1, l2, hc⟩ => by
    refine ⟨by rw [r1.length]; exact l1, by rw [r2.length]; exact l2, fun x dx hx hdx ne => ?_⟩
    have hx' : (upd H2 dx (.own x)) x = none := by rw [upd_ne ne.symm]; exact hx
    have sm : Same H2 (upd (upd H2 dx (.own x)) x (.ins ((Gf a c).cls t) dx [])) := (same_new hdx).trans (same_new hx')
    have S3 := S2.grow sm
    have xM : x ∉ M := fun z => S2.al x z hx
    have rep := pick_rep (perm := perm) ((((r1.later (δ2 := δ2) S1 e2 k1).rep k1).append (r2.rep k2)).append (hd _))
    have hb' : ∀ {H' : Hp}, (∀ b o, (upd (upd H2 dx (.own x)) x (.ins ((Gf a c).cls t) dx [])) b = some o → b ∉ (Gf a c).dk → b ≠ x → H' b = some o) → ∀ b o, H2 b = some o → b ∉ (Gf a c).dk → H' b = some o := fun hb b o h hk => hb b o (sm b o h) hk fun z => by subst z; rw [hx] at h; cases h
    refine liftIX_wok (Gf := Gf) (E0 := E0) ⟨a, c, M, _, δ2.n, _, _, x, dx, _, rfl, fun y hy => S3.ads y (S3.dks y hy), S3.al, S3.mc, xM, upd_same, S3.di, rep.mono (mask_new hx sm), hc, fun d n' H' hb di rv hq => ⟨rfl, ?_⟩, fun cls d y n' H' hb di rx hq => ?_⟩
    · exact k (.ref x) (.sh d) ⟨δ2.sl, n'⟩ H' (S2.after (hb' hb) di) ((e1.trans o1 e2).trans (fun i z => o1 i (o2 i z)) fun b o h hk _ => hb' hb b o h hk) (fun i z => o1 i (o2 i z)) rv hq
    · exact xr E am M σ ⟨δ2.sl, n'⟩ H' (S2.after (hb' hb) di) cls d y rx hq
theorem sim_methXW {mn : Str} (hmn : mn ∉ (Gf a c).fld t) (xr : XR K (wokF Gf E0 a c) Wd W) (ho : SimE K (wokF Gf E0 a c) E to wo) (h : SimA K (wokF Gf E0 a c) E ts wa) (h' : SimA K (wokF Gf E0 a c) E tk wk) (hd : Dfl K (wokF Gf E0 a c) dvs dd) :
    SimE K (wokF Gf E0 a c) E (tMethXP ((Gf a c).cls t) mn (liftX K Gf C) n m perm dvs (L2.WE W) to ts tk) (wMethX t C Wd n m perm dd wo wa wk) := fun am M σ δ H S Qd q Q k =>
  ho am M σ δ H S _ q _ fun x r δ0 H0 S0 e0 o0 r0 ⟨nb, ⟨fs, ef⟩, q⟩ => by
    have rr := r0.k.rep nb
    have ri := rr
    rw [ef] at ri
    obtain ⟨p, dx, xs, rfl, hp, hl, rx⟩ := ri
    refine ⟨p, dx, _, rfl, mask_le _ _ hp, zip_none xs hmn, ?_⟩
    refine h am M σ δ0 H0 S0 _ q _ fun vs rs δ1 H1 S1 e1 o1 r1 q => h' am M σ δ1 H1 S1 _ q _ fun zs qs δ2 H2 S2 e2 o2 r2 ⟨k1, k2, l1, l2, hc⟩ => ?_
    refine ⟨by rw [r1.length]; exact l1, by rw [r2.length]; exact l2, ?_⟩
    have rep := pick_rep (perm := perm) ((((r1.later (δ2 := δ2) S1 e2 k1).rep k1).append (r2.rep k2)).append (hd _))
    have r0' : Rep K (wokF Gf E0 a c) (mask M H2) (.ref p) r.d := Rep.mono ((S0.mask e1).trans (S1.mask e2)) _ rr
    exact liftX_wok (Gf := Gf) (E0 := E0) (liftX_use (Gf := wokF Gf E0) xr S2 (RepAll.cons r0' rep) hc fun v r δ' H' S' e' o' rv hq =>
      k v r δ' H' S' (((e0.trans o0 e1).trans (fun i z => o0 i (o1 i z)) e2).trans (fun i z => o0 i (o1 i (o2 i z))) e') (fun i z => o0 i (o1 i (o2 i (o' i z)))) rv hq)
end
section
variable {X : Cx} {E0 : Ent} {Gf : Addr → Addr → Gx} {a c : Addr} {C : ConX} {dd : List D} {dvs : List V} {to : TE} {wo : WE} {ts tk : TA} {wa wk : WA} {n m k : Nat} {perm : List Nat} {Wd : WXd} {W : WX} {f : Addr} {fd : FuncData} {ps ks : List Str} {ds : List Value} {x mn : Str} {p pos apos : Pos} {o : Expr} {es : List Expr} {kws : List Keyword}
theorem de_xcallW (K : PySem.W.Frag) (tW : Takes X W) (xr : XR K (wokF Gf E0 a c) Wd W) (F : FnG X.prog X.w K X.mg X.base (L2.CX X.prog X.w) k f fd ps (liftX K Gf C)) (hr : Room k X.A) (hg : X.A.guards = some []) (hm : X.mg x = some (.ref f)) (hk : PySem.W.keepIn K (.ref f) = true) (hb : KB K fd ps n ks perm ds) (hv : Vals dvs ds) (hd : Dfl K (wokF Gf E0 a c) dvs dd)
    (ha : DA X (wokF Gf E0 a c) es ts wa) (hkw : DK X (wokF Gf E0 a c) kws tk wk) (gl : Gl X x := by rfl) (ok : ArgsOk X es kws pos ks := by exact ⟨by first | exact .inl rfl | exact .inr ⟨_, _, rfl, rfl⟩, rfl, rfl, rfl⟩) (hn : es = [] → ts = tNil := by first | exact fun _ => rfl | (intro h; cases h)) (hdb : (x == ("__debug__" : Str)) = false := by decide) (hl : ks.length = m := by rfl) (hK : X.K = K := by rfl) :
    DE X (wokF Gf E0 a c) (.Call (.Name x p) es kws pos) (tCallXP (liftX K Gf C) n m perm dvs (L2.WE W) ts tk) (wCallX C Wd n m perm dd wa wk) := by
  subst hK hl
  exact ⟨pg_callX F hr hg gl hm hk hb hv (passAt tW) ok hn ha.pa hkw.pk hdb, fun E => sim_callXW xr (ha.sim E) (hkw.sim E) hd⟩
theorem de_xmakeW (K : PySem.W.Frag) (t : Nat) (tW : Takes X W) (xr : XR K (wokF Gf E0 a c) Wd W) (M : Mk K ((Gf a c).cls t) f) (F : FnG X.prog X.w K X.mg X.base (L2.CX X.prog X.w) k f fd ps (liftIX K Gf t C)) (hr : Room (k + 1) X.A) (hg : X.A.guards = some []) (hm : X.mg x = some (.ref ((Gf a c).cls t))) (hb : KBm K fd ps n ks perm ds) (hv : Vals dvs ds) (hd : Dfl K (wokF Gf E0 a c) dvs dd)
    (ha : DA X (wokF Gf E0 a c) es ts wa) (hkw : DK X (wokF Gf E0 a c) kws tk wk) (gl : Gl X x := by rfl) (ok : ArgsOk X es kws pos ks := by exact ⟨by first | exact .inl rfl | exact .inr ⟨_, _, rfl, rfl⟩, rfl, rfl, rfl⟩) (hn : es = [] → ts = tNil := by first | exact fun _ => rfl | (intro h; cases h)) (hdb : (x == ("__debug__" : Str)) = false := by decide) (hl : ks.length = m := by rfl) (hK : X.K = K := by rfl) :
    DE X (wokF Gf E0 a c) (.Call (.Name x p) es kws pos) (tMakeXP ((Gf a c).cls t) (liftIX K Gf t C) n m perm dvs (L2.WE W) ts tk) (wCallX C Wd n m perm dd wa wk) := by
  subst hK hl
  exact ⟨pg_makeX M F hr hg gl hm hb hv (passAt tW) ok hn ha.pa hkw.pk hdb, fun E => sim_makeXW xr (ha.sim E) (hkw.sim E) hd⟩
theorem de_xmethW {pl : Sem Bool} (K : PySem.W.Frag) (t : Nat) (tW : Takes X W) (xr : XR K (wokF Gf E0 a c) Wd W) (c' : Cls K ((Gf a c).cls t)) (hm : Meth K ((Gf a c).cls t) mn f) (F : FnG X.prog X.w K X.mg X.base (L2.CX X.prog X.w) k f fd ps (liftX K Gf C)) (hr : Room k X.A) (hg : X.A.guards = some []) (hb : KBm K fd ps n ks perm ds) (hv : Vals dvs ds) (hd : Dfl K (wokF Gf E0 a c) dvs dd)
    (hmn : mn ∉ (Gf a c).fld t) (he : DE X (wokF Gf E0 a c) o to wo) (ha : DA X (wokF Gf E0 a c) es ts wa) (hkw : DK X (wokF Gf E0 a c) kws tk wk) (ok : ArgsOk X es kws pos ks := by exact ⟨by first | exact .inl rfl | exact .inr ⟨_, _, rfl, rfl⟩, rfl, rfl, rfl⟩) (hn : es = [] → ts = tNil := by first | exact fun _ => rfl | (intro h; cases h))
    (ht : eval (.Call (.Attribute o mn apos) es kws pos) X.env = (do
      let ov ← eval o X.env
      standAt apos.atName
      let (f, first) ← holding [ov] (getMethod ov mn pl)
      callWith pos f first (backTo pos (starEach es X.env)) (backToKw pos (keywordEach kws X.env))) := by rfl) (hl : ks.length = m := by rfl) (hK : X.K = K := by rfl) :
    DE X (wokF Gf E0 a c) (.Call (.Attribute o mn apos) es kws pos) (tMethXP ((Gf a c).cls t) mn (liftX K Gf C) n m perm dvs (L2.WE W) to ts tk) (wMethX t C Wd n m perm dd wo wa wk) := by
  subst hK hl
  exact ⟨pg_methX he.pe c' hm F hr hg hb hv (passAt tW) ok hn ha.pa hkw.pk ht, fun E => sim_methXW hmn xr (he.sim E) (ha.sim E) (hkw.sim E) hd⟩
end
/-- the ends behind a clause: its name goes -/
@[simp] def endsAs (i : Nat) (De : Ends3) : Ends3 := ⟨fun δ => De.nx ⟨δ.sl.set i none, δ.n⟩, De.rt, fun δ => De.bk ⟨δ.sl.set i none, δ.n⟩, fun δ => De.ct ⟨δ.sl.set i none, δ.n⟩⟩
/-- i: the slot of n; ts: what classes the body raises; hm: whether the clause takes them -/
@[simp] def wTryAs (i : Nat) (ts : List Nat) (hm : Nat → Bool) (Wd : WXd) (wb : WXd → WS) (wh : Addr → Option Addr → (Nat → Prop) → WS) : WS := fun De δ => wb (fun x δ' => x.t ∈ ts ∧
  (hm x.t = true → ∀ (a : Addr) (d : Option Addr) (ok : Nat → Prop), ok x.t → wh a d ok (endsAs i De) ⟨δ'.sl.set i (some (.sh (.exc a d x.t x.fs))), δ'.n⟩) ∧ (hm x.t = false → Wd x δ')) De δ
theorem RepX.exc {K : PySem.W.Frag} {G : Gx} {H : Hp} {cls : Value} {dd : Option Addr} {x : XD} {a : Addr} (h : RepX K G H cls dd x) : Rep K G H (.ref a) (.exc a dd x.t x.fs) := by
  obtain ⟨_, ⟨h1, h2⟩ | ⟨da, xs, h1, h2, h3, h4⟩⟩ := h
  · rw [h1, h2]
    exact ⟨[], rfl, .inl ⟨rfl, rfl⟩, Nat.zero_le _, rfl⟩
  · exact ⟨xs, rfl, .inr ⟨da, h1, h2⟩, h3, h4⟩
section
variable {X : Cx} {G : Gx} {x n : Str} {C : Value} {body suite : List Stmt} {b₀ : Stmt} {np pos pos' : Pos} {tb : WX → TS} {th : Addr → Value → Option Addr → TS} {Wout : WX} {Wd : WXd} {wb : WXd → WS} {wh : Addr → Option Addr → (Nat → Prop) → WS} {ts : List Nat} {hm : Nat → Bool}
/-- some wish that takes all errors -/
theorem takes_any {W : WX} (hs : X.stack = X.env :: X.outer) (hf : X.env.frame = some X.env.locals) (pn : List (Addr × Obj)) :
    Takes (X.tr pn fun e s₁ => wpAny (model X.prog X.w) X.A (noteFrame e X.env) (fun _ s₂ => wpAny (model X.prog X.w) X.A (setFlight e none) (fun _ _ => True) (fun _ _ => True) s₂) (fun _ _ => True) s₁) W := fun u s' xx => by
  obtain ⟨a, B, sI, pins', σ', H', cls, d, rfl, J', nb, up, sky, na, os, ag, w⟩ := xx
  have hfr : X.A.frames = some (X.env :: X.outer) := by rw [← hs]; exact J'.ok.frames
  have sky' : Sky B (X.env :: X.outer) a (Zc cls d) X.env.locals s'.heap := by rw [← hs]; exact sky
  exact Sky.land Zc.steady hfr hf sky' fun _ _ _ => trivial
theorem sim_tr {E : Ent} {Wd' : WXd} {W : WX} (hs : X.stack = X.env :: X.outer) (hf : X.env.frame = some X.env.locals)
    (hb : ∀ (E : Ent) (Wd' : WXd) (W : WX) (pn : List (Addr × Obj)) (xe : Value → Shared → Prop), Takes (X.tr pn xe) W → PassesOwn (model X.prog X.w) X.A X.env xe → XR X.K (G.wok E) Wd' W → DSs (X.tr pn xe) (G.wok E) body (tb W) (wb Wd'))
    (z : XR X.K (G.wok E) Wd' W) : SimS X.K (G.wok E) (tb W) (wb Wd') := (hb E Wd' W [] _ (takes_any hs hf []) PassesOwn.looking z).sim
theorem EndsR.wok {E : Ent} {D3 : Ends3} {De : L2.Ends} {K : PySem.W.Frag} (R : EndsR K G E D3 De) (ok : G.okE E) : EndsR K (G.wok E) E D3 De :=
  ⟨fun am M σ δ H S z => R.nx am M σ δ H (S.unwok ok) z, fun am M σ δ H S z => R.bk am M σ δ H (S.unwok ok) z, fun am M σ δ H S z => R.ct am M σ δ H (S.unwok ok) z, fun v d n H r b di z => R.rt v d n H r.u b di z⟩
theorem ds_tryAs {Gf : Addr → Addr → Gx} {a c : Addr} (i : Nat) (ts : List Nat) (hm : Nat → Bool) (hN : X.N.Nodup) (hc : Names X x C) (tk : Takes X Wout) (xr : XR X.K (Gf a c) Wd Wout) (he : ∀ t ∈ ts, PySem.W.exmOne X.K (.ref ((Gf a c).cls t)) C = some (hm t))
    (hb : ∀ (E : Ent) (Wd' : WXd) (W : WX) (pn : List (Addr × Obj)) (xe : Value → Shared → Prop), Takes (X.tr pn xe) W → PassesOwn (model X.prog X.w) X.A X.env xe → XR X.K (wokF Gf E a c) Wd' W → DSs (X.tr pn xe) (wokF Gf E a c) body (tb W) (wb Wd'))
    (hd : ∀ (p : Addr) (oe : Obj) (cls : Value) (d : Option Addr) (pn : List (Addr × Obj)), Zc cls d oe → (∃ vs, oe.data = .fields vs) → DSs (X.suite p ((p, oe) :: pn)) (Gf a c) (b₀ :: suite) (th p cls d) (wh p d fun t => cls = .ref ((Gf a c).cls t)))
    (hs : X.stack = X.env :: X.outer := by rfl) (hf : X.env.frame = some X.env.locals := by rfl) (hi : X.N[i]? = some n := by rfl) (hln : X.env.kindOf n = some .local := by rfl) :
    DS X (Gf a c) (.Try body [.ExceptHandler (some (.Name x np)) (some n) (b₀ :: suite) pos'] [] [] pos) (fun D σ H => tb (wAs X.K C i th Wout D) D σ H) (wTryAs i ts hm Wd wb wh) := by
  refine ⟨ps_try_as hs hf hN hi hln hc tk (fun W pn xe t p => (hb ⟨fun _ => none, [], [], none⟩ (fun _ _ => False) W pn xe t p fun _ _ _ _ _ _ _ _ _ _ _ z => z.elim).ps) (fun p oe cls d pn hz hv => (hd p oe cls d pn hz hv).ps), fun E am M σ δ H S D3 q De R => ?_⟩
  have kE := S.ok
  refine sim_tr (G := Gf a c) (E := E) hs hf hb (fun E' am' M' σ' δ' H' S' cls dd y ry ⟨hy, h1, h2⟩ => ?_) E am M σ δ H S.wok D3 q De (R.wok kE)
  have S1 := S'.unwok kE
  have ry' := ry.u
  refine ⟨hm y.t, by rw [ry'.1]; exact he _ hy, fun e p np => ?_, fun e => xr E am' M' σ' δ' H' S1 cls dd y ry' (h2 e)⟩
  refine (hd p { cls := cls, dict := dd, data := .fields #[] } cls dd [] ⟨rfl, rfl⟩ ⟨_, rfl⟩).sim E am' M' _ _ H' (S1.set_sh (i := i) (ry'.exc (a := p))) (endsAs i D3) (h1 e p dd _ ry'.1) _ ⟨?_, ?_, ?_, R.rt⟩
  · exact fun am M σ δ H S z => R.nx am M _ _ H S.set_none z
  · exact fun am M σ δ H S z => R.bk am M _ _ H S.set_none z
  · exact fun am M σ δ H S z => R.ct am M _ _ H S.set_none z
end
/-- e.f: t its class, j the place -/
@[simp] def wXf (a : Addr) (d : Option Addr) (ok : Nat → Prop) (t j : Nat) (we : WE) : WE := fun δ Q => we δ fun r δ1 => ¬ r.bor ∧ ok t ∧ ∃ fs x, r.d = .exc a d t fs ∧ fs[j]? = some x ∧ Q (.sh x) δ1
theorem zip_first {n : Str} {y : V} : ∀ {fl : List Str} {xs : List V} {j : Nat}, fl[j]? = some n → (∀ i, i < j → fl[i]? ≠ some n) → xs[j]? = some y → (fl.zip xs).lookup n = some y
  | [], _, _, h, _, _ => by simp at h
  | _ :: _, [], _, _, _, h => by simp at h
  | g :: fl, x :: xs, 0, h1, _, h3 => by
    simp only [List.getElem?_cons_zero, Option.some.injEq] at h1 h3
    subst h1 h3
    rw [List.zip_cons_cons, List.lookup_cons, show (g == g) = true by simp]
  | g :: fl, x :: xs, j + 1, h1, h2, h3 => by
    have hn : (n == g) = false := by
      have := h2 0 (Nat.succ_pos _)
      simp only [List.getElem?_cons_zero, ne_eq, Option.some.injEq] at this
      simpa using fun z => this z.symm
    rw [List.zip_cons_cons, List.lookup_cons, hn]
    exact zip_first (j := j) (by simpa using h1) (fun i hi => by simpa using h2 (i + 1) (by omega)) (by simpa using h3)
section
variable {X : Cx} {G : Gx} {a : Addr} {oe : Obj} {cls : Value} {d : Option Addr} {pn : List (Addr × Obj)} {e : Expr} {te : TE} {we : WE} {pos : Pos} {n : Str}
theorem de_xf (K : PySem.W.Frag) (t j : Nat) (T : XfC K (G.cls t)) (hno : PySem.W.findIn K (.ref (G.cls t)) n = some none) (hz : Zc cls d oe) (hf : ∃ vs, oe.data = .fields vs) (he : DE (X.suite a ((a, oe) :: pn)) G e te we)
    (hj : (G.fld t)[j]? = some n := by rfl) (hj0 : ∀ i, i < j → (G.fld t)[i]? ≠ some n := by first | exact fun _ h => absurd h (Nat.not_lt_zero _) | decide) (hb : attributeBase e n X.env (eval e X.env) = eval e X.env := by rfl) (hK : X.K = K := by rfl) :
    DE (X.suite a ((a, oe) :: pn)) G (.Attribute e n pos) (tXf a cls d (G.cls t) n te) (wXf a d (fun t => cls = .ref (G.cls t)) t j we) := by
  subst hK
  refine ⟨pe_xf T hno hz hf he.pe hb, fun E am M σ δ H S Qd q Q k => ?_⟩
  refine he.sim E am M σ δ H S _ q _ fun v r δ1 H1 S1 e1 o1 rv ⟨nb, ok, fs, x, er, hx, hq⟩ => ?_
  have rr := rv.k.rep nb
  rw [er] at rr
  obtain ⟨xs, rfl, hd', hl, rx⟩ := rr
  obtain ⟨y, hy, ry⟩ := rx.get hx
  rcases hd' with ⟨rfl, rfl⟩ | ⟨da, rfl, hda⟩
  · simp at hx
  · exact ⟨rfl, ok, da, _, y, rfl, mask_le _ _ hda, zip_first hj hj0 hy, k y (.sh x) δ1 H1 S1 e1 o1 ry hq⟩
end
/-- what isinstance asks of an error's class -/
structure XisC (K : PySem.W.Frag) (C : Addr) : Prop where
  hd : PySem.W.hasDictIn K C = true
  ga : PySem.W.findIn K (.ref C) "__getattribute__" = some (some (.builtin "BaseException.__getattribute__"))
  gt : PySem.W.findIn K (.ref C) "__getattr__" = some none
  sb : PySem.W.subIn K (.ref C) (.type "BaseException") = some true
  ac : PySem.W.findIn K (.ref C) "__class__" = some (some (.builtin "object.__class__"))
  sp : PySem.W.specialIn K (.builtin "object.__class__") "__get__" = some (some (.builtin "getset_descriptor.__get__"))
  tk : PySem.W.takesIn K (.builtin "object.__class__") = some true
  mo : PySem.W.mroIn K C (.type "object") = some true
def rXis (K : PySem.W.Frag) (C : Addr) (a : Addr) (cls : Value) (d : Option Addr) (u : Addr) (b : Bool) : List V → Hp → VK → Prop := fun xs H Q => xs = [.ref a, .ref u] ∧ cls = .ref C ∧ (d = none ∨ ∃ dd fs, d = some dd ∧ H dd = some (.xd fs)) ∧ Q (.bl b) H
theorem call_xis {X : Cx} {a C u : Addr} {oe : Obj} {cls : Value} {d : Option Addr} {pn : List (Addr × Obj)} {b : Bool} (T : XisC X.K C) (e : PySem.W.kitOne X.K (.ref C) (.ref u) = some b) (hz : Zc cls d oe) (hf : ∃ vs, oe.data = .fields vs) :
    CallR (X.suite a ((a, oe) :: pn)) (.builtin "isinstance") (rXis X.K C a cls d u b) := by
  intro pins s σ H xs us Q I r ⟨ex, ec, hd, q⟩
  subst ex ec
  cases r with
  | cons rx rr =>
    cases rr with
    | cons rt rr =>
      cases rr
      cases rx
      cases rt
      obtain ⟨hget, _⟩ := I.pin (a, oe) (List.mem_append.mpr (.inl List.mem_cons_self))
      obtain ⟨vs, hv⟩ := hf
      obtain ⟨od, J⟩ : ∃ od, PySem.W.InstAt s.heap a oe C od := by
        have nc : PySem.W.notCls oe = true := by unfold PySem.W.notCls; rw [hv] <;> rfl
        rcases hd with hd | ⟨dd, fs, hd, ha⟩
        · exact ⟨none, hget, hz.1, nc, by rw [hz.2, hd]; trivial⟩
        · have hx : ObjOk X.prog X.w H s.heap dd (.xd fs) := I.hok dd _ ha
          obtain ⟨mA, hns, hr⟩ := hx
          obtain ⟨od, ho, hl⟩ := lookIn_ns hns
          exact ⟨some od, hget, hz.1, nc, by rw [hz.2, hd]; exact ho⟩
      exact PySem.W.kia_one (PySem.W.kitx_exc (let ⟨_, hc, _⟩ := PySem.W.any_some T.hd; by rw [hc]; rfl) T.ga T.gt T.sb T.ac T.sp T.tk T.mo) I.kIn J e (fun z => nomatch z) fun tk => ⟨.bl b, H, I.kept (t' := tk) fun _ _ z => z, rfl, q⟩
@[simp] def fXis (a : Addr) (d : Option Addr) (ok : Nat → Prop) (t u : Nat) (b : Bool) : FC := fun ds Q => ok t ∧ (∃ fs, ds = [.exc a d t fs, .cls u]) ∧ Q (.sh (.bl b))
theorem calls_xis {K : PySem.W.Frag} {G : Gx} {a : Addr} {cls : Value} {d : Option Addr} (t u : Nat) (b : Bool) : CallS K G (rXis K (G.cls t) a cls d (G.cls u) b) (fXis a d (fun t => cls = .ref (G.cls t)) t u b) := fun M H vs ds al bs Qd ⟨ok, ⟨fs, ed⟩, h⟩ Q k => by
  subst ed
  cases bs with
  | @cons v _ _ _ b1 bs =>
  cases bs with
  | @cons v2 _ _ _ b2 bs =>
  cases bs
  obtain ⟨xs, rfl, hd', hl, rx⟩ := b1.full
  have e2 : v2 = .ref (G.cls u) := b2.full
  subst e2
  exact ⟨rfl, ok, hd'.elim (fun z => .inl z.1) fun ⟨da, z1, z2⟩ => .inr ⟨da, _, z1, z2⟩, k _ _ H (Same.refl _) rn_bl h⟩
end L3
namespace L3
open PySem PySem.Spec PyProof.Rows L2
theorem takes_no {X : Cx} : Takes X (fun _ _ _ _ => False) := fun u s' xx => by
  obtain ⟨a, B, sI, pins', σ', H', cls, d, _, _, _, _, _, _, _, _, w⟩ := xx
  exact w.elim
theorem xr_no {K : PySem.W.Frag} {G : Gx} : XR K G (fun _ _ => False) (fun _ _ _ _ => False) := fun _ _ _ _ _ _ _ _ _ _ _ h => h.elim
theorem FldOk.wok {K : PySem.W.Frag} {G : Gx} {f : Str} {tab : List (Nat × Nat)} (h : FldOk K G f tab) {E0 : Ent} : FldOk K (G.wok E0) f tab := ⟨h.ix, h.cl⟩
theorem kit_self {K : PySem.W.Frag} {C : Addr} : PySem.W.kitOne K (.ref C) (.ref C) = some true := by
  unfold PySem.W.kitOne
  rw [if_pos (by simp)]
theorem kit_of {K : PySem.W.Frag} {E C : Addr} {b : Bool} (hd : PySem.W.hasDictIn K C = true) (ht : PySem.W.typeIn K (.ref C) = some (.type "type")) (h : PySem.W.subIn K (.ref E) (.ref C) = some b) (hb : b = true) : PySem.W.kitOne K (.ref E) (.ref C) = some b := by
  obtain ⟨cd, hc, _⟩ := PySem.W.any_some hd
  unfold PySem.W.kitOne
  split
  · rw [hb]
  · have e2 : ((PySem.W.clsIn K C).isSome && PySem.W.typeIn K (.ref C) == some (.type "type")) = true := by rw [hc, ht] <;> rfl
    show (if ((PySem.W.clsIn K C).isSome && PySem.W.typeIn K (.ref C) == some (.type "type")) = true then PySem.W.subIn K (.ref E) (.ref C) else none) = some b
    rw [if_pos e2]
    exact h
theorem kit_sub {K : PySem.W.Frag} {E C : Addr} {b : Bool} (h : PySem.W.kitCls K (.ref E) (.ref C) = some b) (hb : b = true) : PySem.W.kitOne K (.ref E) (.ref C) = some b := by
  unfold PySem.W.kitOne
  split
  · rw [hb]
  · exact h
end L3
namespace Pg
open PySem PySem.Spec PyProof.Rows L2 L3
abbrev C_l_draw : Con := CdrawA
abbrev C_l_pick : Con := CpickA
/-! tables of next states: k rows of r entries -/
def tabF (k r : Nat) (f : Nat → Nat → Nat) : D := .tup ((List.range k).map fun s => .tup ((List.range r).map fun d => .int (f s d : Nat)))
def rowF (k : Nat) (b : Nat → Int) : D := .tup ((List.range k).map fun s => .int (b s))
structure Tb (k r : Nat) (f : Nat → Nat → Nat) : Prop where
  k1 : 1 ≤ k
  k2 : k ≤ 40
  r1 : 2 ≤ r
  r2 : r ≤ 10
  lt : ∀ s d, s < k → d < r → f s d < k
/-- the states that are reached -/
inductive Rch (r : Nat) (f : Nat → Nat → Nat) : Nat → Prop
  | zero : Rch r f 0
  | step {s d : Nat} : Rch r f s → d < r → Rch r f (f s d)
open Classical in
noncomputable def rl (k r : Nat) (f : Nat → Nat → Nat) : List Int := ((List.range k).filter fun s => decide (Rch r f s)).map fun s : Nat => (s : Int)
/-- reading: from a state and what is left to the last state -/
inductive Rd (r : Nat) (f : Nat → Nat → Nat) : Nat → Int → Nat → Prop
  | done {s : Nat} : Rd r f s 0 s
  | more {s t : Nat} {n : Int} : 0 < n → Rd r f (f s (n % r).toNat) (n / r) t → Rd r f s n t
def it (g : Nat → Nat) : Nat → Nat → Nat
  | 0, x => x
  | m + 1, x => g (it g m x)
/-- the least of y and the m next -/
def lu (g : Nat → Nat) (y : Nat) : Nat → Nat
  | 0 => y
  | m + 1 => min (lu g y m) (it g (m + 1) y)
def rnd (k : Nat) (g : Nat → Nat) (s : Nat) : Nat := lu g (it g k s) k
def C_l_leads : Con := fun ds n Q => ∃ (k r : Nat), ds = [.deck, .int (r : Nat), .int (k : Nat)] ∧ 1 ≤ k ∧ k ≤ 40 ∧ 2 ≤ r ∧ r ≤ 10 ∧ n + 400 ≤ mostDraws ∧ ∀ (f : Nat → Nat → Nat) (n' : Nat), Tb k r f → n' ≤ n + 400 → Q (tabF k r f) n'
def C_l_round : Con := fun ds n Q => ∃ (k r : Nat) (f : Nat → Nat → Nat) (s : Nat), Tb k r f ∧ s < k ∧ ds = [tabF k r f, .int (s : Nat)] ∧ Q (.int (rnd k (f · 0) s : Nat)) n
def C_l_reached : Con := fun ds n Q => ∃ (k r : Nat) (f : Nat → Nat → Nat), Tb k r f ∧ ds = [tabF k r f] ∧ Q (.lst ((rl k r f).map D.int)) n
def C_reached_states : Con := fun ds n Q => ∃ (k r : Nat) (f : Nat → Nat → Nat), Tb k r f ∧ ds = [tabF k r f] ∧ Q (.lst ((rl k r f).map D.int)) n
/-- the greatest box of a reached state -/
def Top (k r : Nat) (f : Nat → Nat → Nat) (b : Nat → Int) (m : Int) : Prop := (∃ s, s < k ∧ Rch r f s ∧ b s = m) ∧ ∀ s, s < k → Rch r f s → b s ≤ m
/-- the least reached state whose box changes with a zero -/
def Good (k r : Nat) (f : Nat → Nat → Nat) (b : Nat → Int) : Prop := ∀ s, s < k → Rch r f s → b s = b (f s 0)
def Lb (k r : Nat) (f : Nat → Nat → Nat) (b : Nat → Int) (s : Nat) : Prop := s < k ∧ Rch r f s ∧ b s ≠ b (f s 0) ∧ ∀ t, t < s → Rch r f t → b t = b (f t 0)
def C_Machine_uinitu : ConX := fun ds n Q Xd => ∃ (k r : Nat) (f : Nat → Nat → Nat) (b : Nat → Int), Tb k r f ∧ ds = [.int (r : Nat), tabF k r f, rowF k b] ∧ (Good k r f b → ∀ m : Int, Top k r f b m → Q (.ins 2 [.int (r : Nat), tabF k r f, rowF k b, .int (1 + m)]) n) ∧
  ∀ s : Nat, Lb k r f b s → Xd ⟨1, [.int (s : Nat)]⟩ n
def C_l_boxes : Con := fun ds n Q => ∃ (k r : Nat) (f : Nat → Nat → Nat), ds = [.deck, tabF k r f] ∧ Tb k r f ∧ n + 50 ≤ mostDraws ∧ ∀ (b : Nat → Int) (n' : Nat), n' ≤ n + 50 → Q (rowF k b) n'
def C_l_due : Con := fun ds n Q => ∃ (k r : Nat) (f : Nat → Nat → Nat) (b : Nat → Int), Tb k r f ∧ ds = [tabF k r f, rowF k b] ∧ (Good k r f b → Q .non n) ∧ ∀ s : Nat, Lb k r f b s → Q (.int (s : Nat)) n
def C_l_heard : Con := fun ds n Q => ∃ (k r : Nat) (f : Nat → Nat → Nat) (b : Nat → Int), Tb k r f ∧ ds = [.int (r : Nat), tabF k r f, rowF k b] ∧ (Good k r f b → Q .non n) ∧ ∀ s : Nat, Lb k r f b s → Q (.lst [.int (s : Nat)]) n
end Pg
namespace Pg
open PySem PySem.Spec PyProof.Rows L2 L3
abbrev N_reached_states : List Str := ["steps", "found", "fresh", "behind", "state", "after"]
abbrev N_Machine_uinitu : List Str := ["self", "base", "steps", "boxes", "found", "state"]
abbrev N_l_deck : List Str := ["_law_script", "_law_cells", "_law_blend", "_law_cell"]
abbrev N_l_draw : List Str := ["_law_deck_here", "_law_many", "_law_turn", "_law_cell", "_law_held"]
abbrev N_l_leads : List Str := ["_law_deck_here", "_law_radix", "_law_many", "_law_found", "_law_at", "_law_digit"]
abbrev N_l_round : List Str := ["_law_leads_here", "_law_at", "_law_spot", "_law_go", "_law_least"]
abbrev N_l_reached : List Str := ["_law_leads_here", "_law_seen", "_law_waiting", "_law_at", "_law_spot"]
abbrev N_l_boxes : List Str := ["_law_deck_here", "_law_leads_here", "_law_row", "_law_drawn", "_law_found", "_law_at", "_law_go"]
abbrev N_l_due : List Str := ["_law_leads_here", "_law_lots", "_law_at"]
abbrev N_l_heard : List Str := ["_law_radix", "_law_leads_here", "_law_lots", "_law_found", "e"]
abbrev N_law : List Str := ["_law_script", "_law_deck_here", "_law_go", "_law_radix", "_law_leads_here", "_law_lots", "_law_due_here"]
abbrev tab_base : List (Nat × Nat) := [(2, 0)]
abbrev tab_boxes : List (Nat × Nat) := [(2, 2)]
abbrev tab_many : List (Nat × Nat) := [(2, 3)]
abbrev tab_steps : List (Nat × Nat) := [(2, 1)]
def w_l_draw : WS :=
  (wSeq (wAsg 4 (wOp fMulA (wCB fInt (wCons (wOp fAdd (wOp fAdd (wOp fMod (wCB fInt (wCons (wVar 3) wNil)) (wC (.int 2147483629))) (wOp fMulA (wOp fMulA (wC (.int 60149)) (wVar 2)) (wVar 2))) (wC (.int 37))) wNil)) (wC (.int 40692))))
    (wSeq (wAsg 4 (wOp fMod (wCB fInt (wCons (wVar 4) wNil)) (wC (.int 2147483647))))
    (wSeq (wAsg 4 (wOp fMod (wCB fInt (wCons (wOp fAdd (wOp fAdd (wOp fMulA (wVar 4) (wVar 4)) (wOp fMulA (wC (.int 69621)) (wVar 2))) (wC (.int 223))) wNil)) (wC (.int 2147483587))))
    (wRet (wOp fMod (wOp fFdiv (wOp fMod (wCB fInt (wCons (wOp fMulA (wVar 4) (wC (.int 39373))) wNil)) (wC (.int 2147483563))) (wC (.int 64))) (wVar 1))))))
def w_reached_states : WS :=
  (wSeq (wAsgG (gTup3 2 (gCons3 (gN 1) (gCons3 (gN 2) gNil3))) (wTup (wCons (wLst (wCons (wC (.int 0)) wNil)) (wCons (wLst (wCons (wC (.int 0)) wNil)) wNil))))
    (wSeq (wWhile (wTest (wOp fGt (wCB fLen (wCons (wVar 2) wNil)) (wC (.int 0)))) (wSeq (wAsg 3 (wSortSc2 (wItems asS (wVar 2)) (gN 4) wYes (wItems asS (wOp fIx (wVar 0) (wVar 4))) (gN 5) wYes (wVar 5) [4, 5] [5]))
    (wSeq (wAsg 2 (wLc (wItems asS (wVar 3)) (gN 5) (wTest (wOp (fIn true) (wVar 5) (wVar 1))) (wVar 5) [5]))
    (wAsg 1 (wOp fAdd (wVar 1) (wVar 2))))))
    (wRet (wCB fSorted (wCons (wVar 1) wNil)))))
def w_Machine_uinitu (Wd : WXd) : WS :=
  (wSeq (wAsg 4 (wCall C_reached_states [] (wCons (wVar 2) wNil)))
    (wSeq (wFor (wItems asS (wVar 4)) (gN 5) (wIfS (wTest (wOp (fEq true) (wOp fIx (wVar 3) (wVar 5)) (wOp fIx (wVar 3) (wOp fIx (wOp fIx (wVar 2) (wVar 5)) (wC (.int 0)))))) (wRaise1 1 Wd (wCons (wVar 5) wNil)) wNext))
    (wSeq (wSetF 0 tab_base (wVar 1))
    (wSeq (wSetF 0 tab_steps (wVar 2))
    (wSeq (wSetF 0 tab_boxes (wVar 3))
    (wSetF 0 tab_many (wOp fAdd (wC (.int 1)) (wCB fMax (wCons (wLc (wItems asS (wVar 4)) (gN 5) wYes (wOp fIx (wVar 3) (wVar 5)) [5]) wNil)))))))))
def w_l_leads : WS :=
  (wSeq (wAsgO 3 (wLst wNil))
    (wSeq (wFor (wRng1 (wCons (wVar 2) wNil)) (gN 4) (wAppend 3 (wCB fTuple (wCons (wLc (wRng1 (wCons (wVar 1) wNil)) (gN 5) wYes (wCall C_l_draw [] (wCons (wVar 0) (wCons (wVar 2) wNil))) [5]) wNil))))
    (wRet (wCB fTuple (wCons (wVar 3) wNil)))))
def w_l_round : WS :=
  (wSeq (wAsg 2 (wVar 1))
    (wSeq (wFor (wRng1 (wCons (wCB fLen (wCons (wVar 0) wNil)) wNil)) (gN 3) (wAsg 2 (wOp fIx (wOp fIx (wVar 0) (wVar 2)) (wC (.int 0)))))
    (wSeq (wAsg 4 (wVar 2))
    (wSeq (wFor (wRng1 (wCons (wCB fLen (wCons (wVar 0) wNil)) wNil)) (gN 3) (wSeq (wAsg 2 (wOp fIx (wOp fIx (wVar 0) (wVar 2)) (wC (.int 0))))
    (wAsg 4 (wCB fMin2 (wCons (wVar 4) (wCons (wVar 2) wNil))))))
    (wRet (wVar 4))))))
def w_l_reached : WS :=
  (wSeq (wPar2 1 true 2 true (wDisp [((wC (.int 0)), (wC (.bl true)))]) (wLst (wCons (wC (.int 0)) wNil)))
    (wSeq (wWhile (wTest (wOp (fEq true) (wVar 2) (wLst wNil))) (wSeq (wAsg 3 (wPop 2))
    (wFor (wItems asS (wOp fIx (wVar 0) (wVar 3))) (gN 4) (wIfS (wTest (wOp fDNi (wVar 4) (wVar 1))) (wSeq (wDPut 1 (wC (.bl true)) (wVar 4))
    (wAppend 2 (wVar 4))) wNext))))
    (wRet (wCB fSorted (wCons (wCB fListD (wCons (wVar 1) wNil)) wNil)))))
def w_l_boxes : WS :=
  (wSeq (wIfS (wTest (wOp (fEq false) (wCall C_l_draw [] (wCons (wVar 0) (wCons (wC (.int 4)) wNil))) (wC (.int 0)))) (wRet (wCB fTuple (wCons (wLc (wItems asS (wVar 1)) (gN 2) wYes (wCall C_l_draw [] (wCons (wVar 0) (wCons (wC (.int 3)) wNil))) [2]) wNil))) wNext)
    (wSeq (wPar2 3 false 4 true (wLc (wItems asS (wVar 1)) (gN 2) wYes (wCall C_l_draw [] (wCons (wVar 0) (wCons (wC (.int 3)) wNil))) [2]) (wLst wNil))
    (wSeq (wFor (wRng1 (wCons (wCB fLen (wCons (wVar 1) wNil)) wNil)) (gN 5) (wAppend 4 (wOp fIx (wVar 3) (wCall C_l_round [] (wCons (wVar 1) (wCons (wVar 5) wNil))))))
    (wSeq (wFor (wRng1 (wCons (wCall C_l_draw [] (wCons (wVar 0) (wCons (wC (.int 3)) wNil))) wNil)) (gN 6) (wSeq (wAsg 5 (wCall C_l_draw [] (wCons (wVar 0) (wCons (wCB fLen (wCons (wVar 1) wNil)) wNil))))
    (wSetIx 4 (wCall C_l_draw [] (wCons (wVar 0) (wCons (wC (.int 4)) wNil))) (wVar 5))))
    (wRet (wCB fTuple (wCons (wVar 4) wNil)))))))
def w_l_due : WS :=
  (wSeq (wFor (wItems asS (wCall C_l_reached [] (wCons (wVar 0) wNil))) (gN 2) (wIfS (wTest (wOp (fEq true) (wOp fIx (wVar 1) (wVar 2)) (wOp fIx (wVar 1) (wOp fIx (wOp fIx (wVar 0) (wVar 2)) (wC (.int 0)))))) (wRet (wVar 2)) wNext))
    (wRet (wC .non)))
def w_l_heard : WS :=
  (wSeq (wAsg 3 (wC .non))
    (wSeq (wTryAs 4 [1] (fun t => decide (t ∈ ([1] : List Nat))) (fun _ _ => False) (fun Wd => (wDrop (wCallX C_Machine_uinitu Wd 3 0 [0, 1, 2] [] (wCons (wVar 0) (wCons (wVar 1) (wCons (wVar 2) wNil))) wNil))) (fun a d ok => (wAsg 3 (wLst (wCons (wAndV (wCB (fXis a d ok 1 1 true) (wCons (wVar 4) (wCons (wCls 1) wNil))) (wXf a d ok 1 0 (wVar 4))) wNil)))))
    (wRet (wVar 3))))
def w_law : WS :=
  (wSeq (wFor (wRng1 (wCons (wC (.int 8)) wNil)) (gN 2) (wSeq (wAsg 3 (wOp fAdd (wC (.int 2)) (wCall C_l_draw [] (wCons (wVar 1) (wCons (wC (.int 5)) wNil)))))
    (wSeq (wAsg 4 (wCall C_l_leads [] (wCons (wVar 1) (wCons (wVar 3) (wCons (wOp fAdd (wC (.int 1)) (wCall C_l_draw [] (wCons (wVar 1) (wCons (wC (.int 6)) wNil)))) wNil)))))
    (wSeq (wAsg 5 (wCall C_l_boxes [] (wCons (wVar 1) (wCons (wVar 4) wNil))))
    (wSeq (wAsg 6 (wCall C_l_due [] (wCons (wVar 4) (wCons (wVar 5) wNil))))
    (wIfS (wTest (wOp (fEq true) (wCB fRepr (wCons (wCall C_l_heard [] (wCons (wVar 3) (wCons (wVar 4) (wCons (wVar 5) wNil)))) wNil)) (wCB fRepr (wCons (wIf (wTest (wOp (fIs false) (wVar 6) (wC .non))) (wC .non) (wLst (wCons (wVar 6) wNil))) wNil)))) (wRet (wC (.bl false))) wNext))))))
    (wSeq (wAsg 5 (wCB fTuple (wCons (wLst (wCons (wC (.int 0)) (wCons (wOp fAdd (wC (.int 1)) (wCall C_l_draw [] (wCons (wVar 1) (wCons (wC (.int 3)) wNil)))) wNil))) wNil)))
    (wSeq (wIfS (wTest (wOp (fEq true) (wCB fRepr (wCons (wCall C_l_heard [] (wCons (wC (.int 2)) (wCons (wTup (wCons (wTup (wCons (wC (.int 0)) (wCons (wC (.int 0)) wNil))) (wCons (wTup (wCons (wC (.int 0)) (wCons (wC (.int 1)) wNil))) wNil))) (wCons (wVar 5) wNil)))) wNil)) (wC (.str "None")))) (wRet (wC (.bl false))) wNext)
    (wRet (wOp (fEq false) (wCB fRepr (wCons (wCall C_l_heard [] (wCons (wC (.int 2)) (wCons (wTup (wCons (wTup (wCons (wC (.int 0)) (wCons (wC (.int 1)) wNil))) (wCons (wTup (wCons (wC (.int 0)) (wCons (wC (.int 1)) wNil))) wNil))) (wCons (wVar 5) wNil)))) wNil)) (wC (.str "[1]")))))))
end Pg
namespace Pg
open PySem PySem.Spec PyProof.Rows L2 L3
theorem pf_l_draw : ∀ (m turn cell : Int) (n : Nat) (Qd : D → Nat → Prop), 1 ≤ m → m.natAbs.log2 < 9000 → 0 ≤ turn → turn ≤ 2 ^ 40 → (∀ r : Int, 0 ≤ r → r < m → Qd (.int r) n) →
    w_l_draw ⟨fun δ => Qd .non δ.n, Qd, fun _ => False, fun _ => False⟩ ⟨some (.sh .deck) :: some (.sh (.int m)) :: some (.sh (.int turn)) :: some (.sh (.int cell)) :: List.replicate (N_l_draw.length - 4) none, n⟩ := by
  intro m turn cell n Qd m1 m2 t0 t1 q
  have ht : Sz 41 turn := .pos t0 (by omega)
  have h1 : Sz 31 (cell.fmod 2147483629) := Sz.emod (.n (by decide)) (by decide)
  have ha : Sz 20 60149 := .n (by decide)
  have h2 : CMulW 60149 turn := ha.cmul ht (by omega)
  have h3 : CMulW (60149 * turn) turn := (ha.mul ht).cmul ht (by omega)
  have h4 := (h1.add ((ha.mul ht).mul ht)).add (.n (by decide) : Sz 20 37)
  have h5 : CMulW (cell.fmod 2147483629 + 60149 * turn * turn + 37) 40692 := h4.cmul (l := 31) (.n (by decide)) (by decide)
  have h6 : ∀ i : Int, Sz 31 (i.fmod 2147483647) := fun i => Sz.emod (.n (by decide)) (by decide)
  have h7 : ∀ i : Int, Sz 31 (i.fmod 2147483587) := fun i => Sz.emod (.n (by decide)) (by decide)
  have h8 : CMulW 69621 turn := Sz.cmul (k := 31) (.n (by decide)) ht (by decide)
  simp [w_l_draw, h2, h3, h5]
  refine ⟨(h6 _).cmul (h6 _) (by decide), h8, (h7 _).cmul (l := 31) (.n (by decide)) (by decide), ⟨by decide, by decide⟩, by omega, ?_⟩
  exact q _ (Int.fmod_nonneg_of_pos _ (by omega)) (Int.fmod_lt_of_pos _ (by omega))
theorem tab_at {k r : Nat} {f : Nat → Nat → Nat} {s : Nat} (h : s < k) : L2.atI ((List.range k).map fun s => D.tup ((List.range r).map fun d => .int (f s d : Nat))) (s : Int) = some (.tup ((List.range r).map fun d => .int (f s d : Nat))) := L2.atI_nat (by simp [h])
theorem row_at {r : Nat} {g : Nat → Nat} {d : Nat} (h : d < r) : L2.atI ((List.range r).map fun d => D.int (g d : Nat)) (d : Int) = some (.int (g d : Nat)) := L2.atI_nat (by simp [h])
theorem box_at {k : Nat} {b : Nat → Int} {s : Nat} (h : s < k) : L2.atI ((List.range k).map fun s => D.int (b s)) (s : Int) = some (.int (b s)) := L2.atI_nat (by simp [h])
theorem Rch.lt {k r : Nat} {f : Nat → Nat → Nat} (T : Tb k r f) {s : Nat} (h : Rch r f s) : s < k := by
  induction h with
  | zero => exact T.k1
  | step _ hd ih => exact T.lt _ _ ih hd
theorem Rd.ex {r : Nat} (h : 2 ≤ r) (f : Nat → Nat → Nat) : ∀ (m : Nat) (s : Nat) (n : Int), 0 ≤ n → n.toNat ≤ m → ∃ t, Rd r f s n t
  | 0, s, n, h0, h1 => ⟨s, by rw [show n = 0 by omega]; exact .done⟩
  | m + 1, s, n, h0, h1 => by
    by_cases z : n = 0
    · exact ⟨s, by rw [z]; exact .done⟩
    · have q : n / r < n := Int.ediv_lt_self_of_pos_of_ne_one (by omega) (by omega)
      have q0 : 0 ≤ n / r := Int.ediv_nonneg h0 (by omega)
      obtain ⟨t, ht⟩ := Rd.ex h f m (f s (n % r).toNat) (n / r) q0 (by omega)
      exact ⟨t, .more (by omega) ht⟩
theorem Rd.lt {k r : Nat} {f : Nat → Nat → Nat} (T : Tb k r f) {s t : Nat} {n : Int} (h : Rd r f s n t) : s < k → t < k := by
  induction h with
  | done => exact id
  | more h0 _ ih =>
    intro hs
    have r0 := T.r1
    refine ih (T.lt _ _ hs ?_)
    have := Int.emod_lt_of_pos (b := (r : Int)) ‹Int› (by omega)
    have := Int.emod_nonneg ‹Int› (b := (r : Int)) (by omega)
    omega
theorem srt_uniq : ∀ a b : List Int, a.Pairwise (· < ·) → b.Pairwise (· < ·) → (∀ x, x ∈ a ↔ x ∈ b) → a = b
  | [], [], _, _, _ => rfl
  | [], y :: b, _, _, h => by simpa using (h y).mpr (by simp)
  | x :: a, [], _, _, h => by simpa using (h x).mp (by simp)
  | x :: a, y :: b, ha, hb, h => by
    obtain ⟨a1, a2⟩ := List.pairwise_cons.mp ha
    obtain ⟨b1, b2⟩ := List.pairwise_cons.mp hb
    have e : x = y := by
      rcases List.mem_cons.mp ((h x).mp (by simp)) with e | e
      · exact e
      · rcases List.mem_cons.mp ((h y).mpr (by simp)) with e' | e'
        · exact e'.symm
        · have := a1 _ e'; have := b1 _ e; omega
    subst e
    rw [srt_uniq a b a2 b2 fun z => ?_]
    constructor
    · intro hz
      rcases List.mem_cons.mp ((h z).mp (List.mem_cons_of_mem _ hz)) with e | e
      · have := a1 _ hz; omega
      · exact e
    · intro hz
      rcases List.mem_cons.mp ((h z).mpr (List.mem_cons_of_mem _ hz)) with e | e
      · have := b1 _ hz; omega
      · exact e
theorem rl_srt {k r : Nat} {f : Nat → Nat → Nat} : (rl k r f).Pairwise (· < ·) := by
  unfold rl
  refine List.Pairwise.map _ (fun a b h => by simpa using h) (List.Pairwise.filter _ ?_)
  first | exact List.pairwise_lt_range | exact List.pairwise_lt_range _
theorem rl_mem {k r : Nat} {f : Nat → Nat → Nat} (T : Tb k r f) {i : Int} : i ∈ rl k r f ↔ ∃ s : Nat, i = s ∧ Rch r f s := by
  unfold rl
  simp only [List.mem_map, List.mem_filter, List.mem_range, decide_eq_true_eq]
  constructor
  · rintro ⟨s, ⟨_, h⟩, rfl⟩; exact ⟨s, rfl, h⟩
  · rintro ⟨s, rfl, h⟩; exact ⟨s, ⟨h.lt T, h⟩, rfl⟩
theorem rl_of {k r : Nat} {f : Nat → Nat → Nat} (T : Tb k r f) {ns : List Int} (h : ns.Pairwise (· ≤ ·)) (nd : ns.Nodup) (m : ∀ i, i ∈ ns ↔ ∃ s : Nat, i = s ∧ Rch r f s) : ns = rl k r f :=
  srt_uniq _ _ (L2.lt_of_le_nodup ns h nd) rl_srt fun x => by rw [m, rl_mem T]
/-! rounds -/
theorem it_add (g : Nat → Nat) (x : Nat) (a : Nat) : ∀ b, it g (a + b) x = it g b (it g a x)
  | 0 => rfl
  | b + 1 => by show g (it g (a + b) x) = g (it g b (it g a x)); rw [it_add g x a b]
theorem it_lt {k : Nat} {g : Nat → Nat} (h : ∀ s, s < k → g s < k) {s : Nat} (hs : s < k) : ∀ m, it g m s < k
  | 0 => hs
  | m + 1 => h _ (it_lt h hs m)
theorem lu_le (g : Nat → Nat) (y : Nat) : ∀ m j, j ≤ m → lu g y m ≤ it g j y
  | 0, j, h => by rw [show j = 0 by omega]; exact Nat.le_refl _
  | m + 1, j, h => by
    show min (lu g y m) (it g (m + 1) y) ≤ _
    by_cases e : j = m + 1
    · subst e; exact Nat.min_le_right _ _
    · exact Nat.le_trans (Nat.min_le_left _ _) (lu_le g y m j (by omega))
theorem lu_mem (g : Nat → Nat) (y : Nat) : ∀ m, ∃ j, j ≤ m ∧ lu g y m = it g j y
  | 0 => ⟨0, by omega, rfl⟩
  | m + 1 => by
    obtain ⟨j, h, e⟩ := lu_mem g y m
    by_cases q : lu g y m ≤ it g (m + 1) y
    · exact ⟨j, by omega, by show min _ _ = _; rw [Nat.min_eq_left q, e]⟩
    · exact ⟨m + 1, by omega, by show min _ _ = _; rw [Nat.min_eq_right (by omega)]⟩
/-- more values than places: two are alike -/
theorem pigeon : ∀ (k : Nat) (x : Nat → Nat), (∀ i, i ≤ k → x i < k) → ∃ i j, i < j ∧ j ≤ k ∧ x i = x j := by
  intro k x h
  refine Classical.byContradiction fun z => ?_
  have inj : ∀ i j, i ≤ k → j ≤ k → x i = x j → i = j := fun i j hi hj e => by
    refine Classical.byContradiction fun ne => z ?_
    rcases Nat.lt_or_gt_of_ne ne with l | l
    · exact ⟨i, j, l, hj, e⟩
    · exact ⟨j, i, l, hi, e.symm⟩
  have nd : ((List.range (k + 1)).map x).Nodup := by
    refine List.pairwise_map.mpr (List.Pairwise.imp_of_mem ?_ (List.nodup_range (n := k + 1)))
    intro a b ha hb ne e
    exact ne (inj a b (by have := List.mem_range.mp ha; omega) (by have := List.mem_range.mp hb; omega) e)
  have sub : ∀ y ∈ (List.range (k + 1)).map x, y ∈ List.range k := fun y hy => by
    obtain ⟨i, hi, rfl⟩ := List.mem_map.mp hy
    exact List.mem_range.mpr (h i (by have := List.mem_range.mp hi; omega))
  have := nd.length_le_of_subset sub
  simp at this
  omega
theorem rnd_next {k : Nat} {g : Nat → Nat} (h : ∀ s, s < k → g s < k) {s : Nat} (hs : s < k) : rnd k g s = rnd k g (g s) := by
  obtain ⟨i, j, ij, jk, e⟩ := pigeon k (fun m => it g m s) fun i _ => it_lt h hs i
  have e : it g i s = it g j s := e
  have per : ∀ m, i ≤ m → it g (m + (j - i)) s = it g m s := fun m hm => by
    obtain ⟨d, rfl⟩ := Nat.exists_eq_add_of_le hm
    rw [show i + d + (j - i) = j + d by omega, it_add, it_add, e]
  have sh : ∀ m, it g m (g s) = it g (m + 1) s := fun m => by rw [Nat.add_comm, it_add]; rfl
  have a : ∀ m, it g m (it g k s) = it g (k + m) s := fun m => (it_add g s k m).symm
  have b : ∀ m, it g m (it g k (g s)) = it g (k + 1 + m) s := fun m => by rw [sh, ← it_add]
  unfold rnd
  refine Nat.le_antisymm ?_ ?_
  · obtain ⟨m, hm, em⟩ := lu_mem g (it g k (g s)) k
    rw [em, b]
    by_cases q : m = k
    · rw [q]
      have t := lu_le g (it g k s) k (k + 1 - (j - i)) (by omega)
      rw [a] at t
      have p := per (k + (k + 1 - (j - i))) (by omega)
      rw [show k + (k + 1 - (j - i)) + (j - i) = k + 1 + k by omega] at p
      rw [p]; exact t
    · have := lu_le g (it g k s) k (m + 1) (by omega)
      rw [a] at this
      rwa [show k + 1 + m = k + (m + 1) by omega]
  · obtain ⟨m, hm, em⟩ := lu_mem g (it g k s) k
    rw [em, a]
    by_cases q : m = 0
    · subst q
      have := lu_le g (it g k (g s)) k (j - i - 1) (by omega)
      rw [b, show k + 1 + (j - i - 1) = k + (j - i) by omega, per k (by omega)] at this
      exact this
    · have := lu_le g (it g k (g s)) k (m - 1) (by omega)
      rw [b] at this
      rwa [show k + 1 + (m - 1) = k + m by omega] at this
theorem len_l_round : ∀ ds n Q, C_l_round ds n Q → ds.length = 2 := fun ds n Q ⟨_, _, _, _, _, _, e, _⟩ => by rw [e]; rfl
theorem pf_l_round : ∀ ds n Q, C_l_round ds n Q → w_l_round ⟨fun δ => Q .non δ.n, Q, fun _ => False, fun _ => False⟩ ⟨start3 N_l_round ds, n⟩ := by
  rintro ds n Q ⟨k, r, f, s, T, hs, rfl, q⟩
  obtain ⟨k1, k2, r1, r2, lt⟩ := id T
  have g0 : ∀ s, s < k → f s 0 < k := fun s h => lt s 0 h (by omega)
  have ix : ∀ s, s < k → L2.atI ((List.range r).map fun d => D.int (f s d : Nat)) 0 = some (.int (f s 0 : Nat)) := fun s _ => row_at (g := f s) (d := 0) (by omega)
  simp [w_l_round, tabF]
  refine ⟨by omega, wLoop_inv (fun i δ => ∃ o : Option SV, δ = ⟨[some (.sh (tabF k r f)), some (.sh (.int (s : Nat))), some (.sh (.int (it (fun x => f x 0) i s : Nat))), o, none], n⟩) ⟨none, rfl⟩ ?_ ?_⟩
  · rintro i d δ hd ⟨o, rfl⟩ N hN
    obtain ⟨hi, rfl⟩ := rng_get hd
    have l := it_lt g0 hs i
    simp [tabF, tab_at l, ix _ l]
    exact hN _ ⟨_, rfl⟩
  · rintro δ ⟨o, rfl⟩
    have l0 := it_lt g0 hs k
    simp [tabF, rng_len]
    refine ⟨by omega, wLoop_inv (fun i δ => ∃ o : Option SV, δ = ⟨[some (.sh (tabF k r f)), some (.sh (.int (s : Nat))), some (.sh (.int (it (fun x => f x 0) i (it (fun x => f x 0) k s) : Nat))), o, some (.sh (.int (lu (fun x => f x 0) (it (fun x => f x 0) k s) i : Nat)))], n⟩) ⟨o, rfl⟩ ?_ ?_⟩
    · rintro i d δ hd ⟨o, rfl⟩ N hN
      obtain ⟨hi, rfl⟩ := rng_get hd
      have l := it_lt g0 l0 i
      simp [tabF, tab_at l, ix _ l]
      have e0 : it (fun x => f x 0) (i + 1) (it (fun x => f x 0) k s) = f (it (fun x => f x 0) i (it (fun x => f x 0) k s)) 0 := rfl
      split
      · exact hN _ ⟨_, by rw [show lu (fun x => f x 0) (it (fun x => f x 0) k s) (i + 1) = f (it (fun x => f x 0) i (it (fun x => f x 0) k s)) 0 by show min _ _ = _; omega]; rfl⟩
      · exact hN _ ⟨_, by rw [show lu (fun x => f x 0) (it (fun x => f x 0) k s) (i + 1) = lu (fun x => f x 0) (it (fun x => f x 0) k s) i by show min _ _ = _; omega]; rfl⟩
    · rintro δ ⟨o, rfl⟩
      simp [rng_len]
      exact q
theorem len_l_leads : ∀ ds n Q, C_l_leads ds n Q → ds.length = 3 := fun ds n Q ⟨_, _, e, _⟩ => by rw [e]; rfl
def rowsF (rows : List (List Nat)) (s d : Nat) : Nat := ((rows[s]?).getD [])[d]?.getD 0
theorem rowsF_tab {k r : Nat} {rows : List (List Nat)} (hk : rows.length = k) (hr : ∀ w ∈ rows, w.length = r) : D.tup (rows.map fun w => D.tup (w.map fun x => D.int (x : Nat))) = tabF k r (rowsF rows) := by
  unfold tabF
  congr 1
  refine List.ext_getElem (by simp [hk]) fun s h1 h2 => ?_
  have hs : s < rows.length := by simpa using h1
  have hl := hr _ (List.getElem_mem hs)
  simp only [List.getElem_map, List.getElem_range]
  congr 1
  refine List.ext_getElem (by simp [hl]) fun d h3 h4 => ?_
  have hd : d < rows[s].length := by simpa using h3
  simp [rowsF, hs, hd]
theorem pf_l_leads : ∀ ds n Q, C_l_leads ds n Q → w_l_leads ⟨fun δ => Q .non δ.n, Q, fun _ => False, fun _ => False⟩ ⟨start3 N_l_leads ds, n⟩ := by
  rintro ds n Q ⟨k, r, rfl, k1, k2, r1, r2, hn, q⟩
  simp [w_l_leads]
  refine ⟨by omega, wLoop_inv (fun i δ => ∃ (o : Option SV) (n' : Nat) (rows : List (List Nat)), n' ≤ n + i * r ∧ rows.length = i ∧ (∀ w ∈ rows, w.length = r ∧ ∀ x ∈ w, x < k) ∧
    δ = ⟨[some (.sh .deck), some (.sh (.int (r : Nat))), some (.sh (.int (k : Nat))), some (.ow (.lst (rows.map fun w => D.tup (w.map fun x => D.int (x : Nat))))), o, none], n'⟩) ⟨none, n, [], by omega, rfl, by simp, rfl⟩ ?_ ?_⟩
  · rintro i d δ hd ⟨o, n', rows, hn', hl, hw, rfl⟩ N hN
    obtain ⟨hi, rfl⟩ := rng_get hd
    have hb : i * r + r ≤ 400 := by
      have : (i + 1) * r ≤ 40 * 10 := Nat.mul_le_mul (by omega) r2
      rw [Nat.add_mul] at this; omega
    simp
    refine ⟨by omega, wLc_inv (fun j acc δ => ∃ (n2 : Nat) (w : List Nat), n2 ≤ n' + j ∧ w.length = j ∧ (∀ x ∈ w, x < k) ∧ acc = w.map (fun x => D.int (x : Nat)) ∧
      δ = ⟨[some (.sh .deck), some (.sh (.int (r : Nat))), some (.sh (.int (k : Nat))), some (.ow (.lst (rows.map fun w => D.tup (w.map fun x => D.int (x : Nat))))), some (.sh (.int (0 + (i : Nat)))), none], n2⟩) ⟨n', [], by omega, rfl, by simp, rfl, by simp⟩ ?_ ?_⟩
    · rintro j d acc δ hd ⟨n2, w, h1, h2, h3, rfl, rfl⟩ N2 hN2
      obtain ⟨hj, rfl⟩ := rng_get hd
      simp
      refine draw_le (by omega) ((sz_len (k := 10) (by omega)).mono (by decide)) (by omega) fun x x0 x1 => ?_
      refine ⟨by omega, hN2 _ _ ⟨n2 + 1, w ++ [x.toNat], by omega, by simp [h2], fun y hy => ?_, ?_, by simp⟩⟩
      · rcases List.mem_append.mp hy with h | h
        · exact h3 y h
        · simp at h; omega
      · simp; omega
    · rintro acc δ ⟨n2, w, h1, h2, h3, rfl, rfl⟩
      rw [rng_len] at h1 h2
      simp
      refine ⟨by omega, hN _ ⟨some (.sh (.int (i : Nat))), n2, rows ++ [w], ?_, by simp [hl], fun y hy => ?_, by simp⟩⟩
      · rw [Nat.add_mul]; omega
      · rcases List.mem_append.mp hy with h | h
        · exact hw y h
        · simp at h; subst h; exact ⟨h2, h3⟩
  · rintro δ ⟨o, n', rows, hn', hl, hw, rfl⟩
    rw [rng_len] at hl hn'
    simp
    rw [rowsF_tab hl fun w hw' => (hw w hw').1]
    have : k * r ≤ 40 * 10 := Nat.mul_le_mul k2 r2
    refine q _ _ ⟨k1, k2, r1, r2, fun s d hs hd => ?_⟩ (by omega)
    have hs' : s < rows.length := by omega
    obtain ⟨a, b⟩ := hw _ (List.getElem_mem hs')
    have hd' : d < rows[s].length := by omega
    have : rowsF rows s d = rows[s][d] := by simp [rowsF, hs', hd']
    rw [this]
    exact b _ (List.getElem_mem hd')
theorem lenNd {k : Nat} {acc : List Int} (nd : acc.Nodup) (h : ∀ j ∈ acc, ∃ s : Nat, j = s ∧ s < k) : acc.length ≤ k := by
  have := nd.length_le_of_subset (l₂ := (List.range k).map fun s : Nat => (s : Int)) fun j hj => by
    obtain ⟨s, e, hs⟩ := h j hj
    exact List.mem_map.mpr ⟨s, List.mem_range.mpr hs, e.symm⟩
  simpa using this
theorem Rch.sub {k r : Nat} {f : Nat → Nat → Nat} {fd : List Int} (h0 : (0 : Int) ∈ fd) (cl : ∀ s : Nat, (s : Int) ∈ fd → ∀ d, d < r → (f s d : Int) ∈ fd) {s : Nat} (h : Rch r f s) : (s : Int) ∈ fd := by
  induction h with
  | zero => exact h0
  | step _ hd ih => exact cl _ ih _ hd
theorem len_reached_states : ∀ ds n Q, C_reached_states ds n Q → ds.length = 1 := fun ds n Q ⟨_, _, _, _, e, _⟩ => by rw [e]; rfl
theorem pf_reached_states : ∀ ds n Q, C_reached_states ds n Q → w_reached_states ⟨fun δ => Q .non δ.n, Q, fun _ => False, fun _ => False⟩ ⟨start3 N_reached_states ds, n⟩ := by
  rintro ds n Q ⟨k, r, f, T, rfl, q⟩
  obtain ⟨k1, k2, r1, r2, lt⟩ := id T
  simp [w_reached_states]
  refine ⟨fun m δ => ∃ (o : Option SV) (fd fr : List Int), fd.Nodup ∧ (∀ j ∈ fd, ∃ s : Nat, j = s ∧ Rch r f s) ∧ (∀ j ∈ fr, j ∈ fd) ∧ fr.length ≤ 40 ∧ (0 : Int) ∈ fd ∧ (∀ s : Nat, (s : Int) ∈ fd → (s : Int) ∉ fr → ∀ d, d < r → (f s d : Int) ∈ fd) ∧
    δ = ⟨[some (.sh (tabF k r f)), some (.sh (.lst (fd.map D.int))), some (.sh (.lst (fr.map D.int))), o, none, none], n⟩ ∧ m = 2 * (k - fd.length) + fr.length.min 1, ⟨_, none, [0], [0], by simp, fun j hj => ⟨0, by simpa using hj, .zero⟩, by simp, by simp, by simp, by simp, by simp, rfl⟩, ?_⟩
  rintro m δ ⟨o, fd, fr, nd, hR, sub, fl, h0, cl, rfl, rfl⟩
  simp
  refine ⟨fun hp => ?_, fun hp => ?_⟩
  · have frk : ∀ i (h : i < fr.length), ∃ s : Nat, fr[i] = (s : Int) ∧ Rch r f s ∧ s < k := fun i h => by
      obtain ⟨s, e, hs⟩ := hR _ (sub _ (List.getElem_mem h))
      exact ⟨s, e, hs, hs.lt T⟩
    refine c2Out_inv (fun i (acc : List Int) δ => acc.Nodup ∧ (∀ j, j ∈ acc ↔ ∃ s : Nat, (s : Int) ∈ fr.take i ∧ ∃ d, d < r ∧ j = (f s d : Nat)) ∧
      δ = ⟨[some (.sh (tabF k r f)), some (.sh (.lst (fd.map D.int))), some (.sh (.lst (fr.map D.int))), o, none, none], n⟩) ⟨List.nodup_nil, by simp, rfl⟩ ?_ ?_
    · rintro i d acc δ hd ⟨nda, ha, rfl⟩ N hN
      have hi : i < fr.length := by
        have := (List.getElem?_eq_some_iff.mp hd).1
        simpa using this
      obtain ⟨s, es, Rs, hs⟩ := frk i hi
      have ed : d = .int (s : Nat) := by
        rw [List.getElem?_map, List.getElem?_eq_getElem hi, es] at hd
        simpa using hd.symm
      subst ed
      simp [tabF, tab_at hs]
      refine c2In_inv (fun e (acc : List Int) δ => acc.Nodup ∧ (∀ j, j ∈ acc ↔ (∃ s : Nat, (s : Int) ∈ fr.take i ∧ ∃ d, d < r ∧ j = (f s d : Nat)) ∨ ∃ d, d < e ∧ j = (f s d : Nat)) ∧
        δ = ⟨[some (.sh (tabF k r f)), some (.sh (.lst (fd.map D.int))), some (.sh (.lst (fr.map D.int))), o, some (.sh (.int (s : Nat))), none], n⟩) ⟨nda, by simpa using ha, rfl⟩ ?_ ?_
      · rintro e d acc δ hd ⟨nda, ha, rfl⟩ N hN
        have he : e < r := by
          have := (List.getElem?_eq_some_iff.mp hd).1
          simpa using this
        have ed : d = .int (f s e : Nat) := by
          rw [List.getElem?_map, List.getElem?_range he] at hd
          simpa using hd.symm
        subst ed
        simp
        have hl : acc.length ≤ k := lenNd nda fun j hj => by
          rcases (ha j).mp hj with ⟨s', h1, d, h2, h3⟩ | ⟨d, h2, h3⟩
          · obtain ⟨s2, e2, R2⟩ := hR _ (sub _ (List.mem_of_mem_take h1))
            have : s' = s2 := by omega
            subst this
            exact ⟨_, h3, lt _ _ (R2.lt T) h2⟩
          · exact ⟨_, h3, lt _ _ hs (by omega)⟩
        refine ⟨by omega, hN _ _ ⟨putN nda, fun j => ?_, rfl⟩⟩
        rw [putM, ha]
        constructor
        · rintro ((h | ⟨d, h1, h2⟩) | h)
          · exact .inl h
          · exact .inr ⟨d, by omega, h2⟩
          · exact .inr ⟨e, by omega, h⟩
        · rintro (h | ⟨d, h1, h2⟩)
          · exact .inl (.inl h)
          · by_cases z : d = e
            · subst z; exact .inr h2
            · exact .inl (.inr ⟨d, by omega, h2⟩)
      · rintro acc δ ⟨nda, ha, rfl⟩
        simp at ha ⊢
        refine hN _ _ ⟨nda, fun j => ?_, rfl⟩
        rw [ha, List.take_succ, List.getElem?_eq_getElem hi, es]
        simp only [List.mem_append, Option.toList_some, List.mem_singleton]
        constructor
        · rintro (⟨s', h1, h2⟩ | h)
          · exact ⟨s', .inl h1, h2⟩
          · exact ⟨s, .inr rfl, h⟩
        · rintro ⟨s', h1 | h1, h2⟩
          · exact .inl ⟨s', h1, h2⟩
          · have : s' = s := by omega
            subst this
            exact .inr h2
    · rintro acc δ ⟨nda, ha, rfl⟩
      simp at ha ⊢
      have hl : acc.length ≤ k := lenNd nda fun j hj => by
        obtain ⟨s', h1, d, h2, h3⟩ := (ha j).mp hj
        obtain ⟨s2, e2, R2⟩ := hR _ (sub _ h1)
        have : s' = s2 := by omega
        subst this
        exact ⟨_, h3, lt _ _ (R2.lt T) h2⟩
      refine ⟨by omega, fun ns st hm => ?_⟩
      have nns : ns.Nodup := st.imp fun h => by omega
      have nl : ns.length ≤ 40 := by rw [((List.perm_ext_iff_of_nodup nns nda).mpr hm).length_eq]; omega
      refine wLc_inv (fun i acc2 δ => acc2 = ((ns.take i).filter fun j => decide (j ∉ fd)).map D.int ∧ δ = ⟨[some (.sh (tabF k r f)), some (.sh (.lst (fd.map D.int))), some (.sh (.lst (fr.map D.int))), some (.sh (.lst (ns.map D.int))), none, none], n⟩) ⟨by simp, rfl⟩ ?_ ?_
      · rintro i d acc2 δ hd ⟨rfl, rfl⟩ N hN
        have hi : i < ns.length := by
          have := (List.getElem?_eq_some_iff.mp hd).1
          simpa using this
        have ed : d = .int ns[i] := by
          rw [List.getElem?_map, List.getElem?_eq_getElem hi] at hd
          simpa using hd.symm
        subst ed
        have et : (ns.take (i + 1)).filter (fun j => decide (j ∉ fd)) = (ns.take i).filter (fun j => decide (j ∉ fd)) ++ [ns[i]].filter (fun j => decide (j ∉ fd)) := by
          rw [List.take_succ, List.getElem?_eq_getElem hi, List.filter_append]; rfl
        have l1 : ((ns.take i).filter (fun j => decide (j ∉ fd))).length ≤ 40 := Nat.le_trans (List.length_filter_le _ _) (by rw [List.length_take]; omega)
        simp
        simp at l1 et hN
        refine ⟨fun h => ⟨by omega, ?_⟩, fun h => ?_⟩
        · rw [et] at hN; simpa [h] using hN
        · rw [et] at hN; simpa [h] using hN
      · rintro acc2 δ ⟨rfl, rfl⟩
        rw [List.length_map, List.take_length]
        generalize efr : ns.filter (fun j => decide (j ∉ fd)) = fr2
        simp
        have lfd : fd.length ≤ k := lenNd nd fun j hj => by
          obtain ⟨s, e, R⟩ := hR j hj
          exact ⟨s, e, R.lt T⟩
        have m2 : ∀ j, j ∈ fr2 ↔ j ∈ acc ∧ j ∉ fd := fun j => by rw [← efr]; simp [hm]
        have nd2 : fr2.Nodup := efr ▸ nns.filter _
        have nd3 : (fd ++ fr2).Nodup := List.nodup_append.mpr ⟨nd, nd2, fun x hx y hy e => ((m2 y).mp hy).2 (e ▸ hx)⟩
        have R3 : ∀ j ∈ fd ++ fr2, ∃ s : Nat, j = s ∧ Rch r f s := fun j hj => by
          rcases List.mem_append.mp hj with h | h
          · exact hR j h
          · obtain ⟨s', h1, d, h2, h3⟩ := (ha j).mp ((m2 j).mp h).1
            obtain ⟨s2, e2, R2⟩ := hR _ (sub _ h1)
            have : s' = s2 := by omega
            subst this
            exact ⟨_, h3, .step R2 h2⟩
        have l3 : (fd ++ fr2).length ≤ k := lenNd nd3 fun j hj => by
          obtain ⟨s, e, R⟩ := R3 j hj
          exact ⟨s, e, R.lt T⟩
        rw [List.length_append] at l3
        refine ⟨by omega, 2 * (k - (fd ++ fr2).length) + fr2.length.min 1, ?_, _, fd ++ fr2, nd3, R3, fr2, fun j hj => List.mem_append_right _ hj, by omega, List.mem_append_left _ h0, fun s hs hn d hd => ?_, ⟨by simp, rfl, rfl⟩, rfl⟩
        · rw [List.length_append]
          show 2 * (k - (fd.length + fr2.length)) + min fr2.length 1 < 2 * (k - fd.length) + min fr.length 1
          omega
        · have hs : (s : Int) ∈ fd := (List.mem_append.mp hs).resolve_right hn
          by_cases z : (s : Int) ∈ fr
          · by_cases y : ((f s d : Nat) : Int) ∈ fd
            · exact List.mem_append_left _ y
            · exact List.mem_append_right _ ((m2 _).mpr ⟨(ha _).mpr ⟨s, z, d, hd, rfl⟩, y⟩)
          · exact List.mem_append_left _ (cl s hs z d hd)
  · subst hp
    refine ⟨fd, rfl, fun ns pm st => ?_⟩
    rw [rl_of T st (pm.nodup_iff.mpr nd) fun i => ?_]
    · exact q
    · rw [pm.mem_iff]
      exact ⟨hR i, fun ⟨s, e, h⟩ => e ▸ Rch.sub (k := k) h0 (fun s hs d hd => cl s hs (by simp) d hd) h⟩
theorem len_l_reached : ∀ ds n Q, C_l_reached ds n Q → ds.length = 1 := fun ds n Q ⟨_, _, _, _, e, _⟩ => by rw [e]; rfl
theorem pf_l_reached : ∀ ds n Q, C_l_reached ds n Q → w_l_reached ⟨fun δ => Q .non δ.n, Q, fun _ => False, fun _ => False⟩ ⟨start3 N_l_reached ds, n⟩ := by
  rintro ds n Q ⟨k, r, f, T, rfl, q⟩
  obtain ⟨k1, k2, r1, r2, lt⟩ := id T
  simp [w_l_reached]
  refine ⟨fun m δ => ∃ (o3 o4 : Option SV) (ks : List Key) (vs : List D) (sn wt : List Int), ks = sn.map Sum.inl ∧ vs = ks.map (fun _ => D.bl true) ∧ sn.Nodup ∧ wt.Nodup ∧ (∀ j ∈ sn, ∃ s : Nat, j = s ∧ Rch r f s) ∧ (∀ j ∈ wt, j ∈ sn) ∧ (0 : Int) ∈ sn ∧ (∀ s : Nat, (s : Int) ∈ sn → (s : Int) ∉ wt → ∀ d, d < r → (f s d : Int) ∈ sn) ∧
    δ = ⟨[some (.sh (tabF k r f)), some (.ow (.dct ks vs)), some (.ow (.lst (wt.map D.int))), o3, o4], n⟩ ∧ m = 2 * (k - sn.length) + wt.length, ?_, ?_⟩
  · exact ⟨_, none, none, [.inl 0], [.bl true], [0], [0], rfl, rfl, by simp, by simp, fun j hj => ⟨0, by simpa using hj, .zero⟩, by simp, by simp, by simp, rfl, rfl⟩
  rintro m δ ⟨o3, o4, ks, vs, sn, wt, hks, hvs, nd, nw, hR, sub, h0, cl, rfl, rfl⟩
  simp
  refine eqD_pl (Pl.ints _) Pl.nil (fun e => ?_) (fun ne => ?_)
  · have hw : wt = [] := by simpa using e
    subst hw
    simp
    rw [hks, keyD_inl]
    refine ⟨sn, rfl, fun ns pm st => ?_⟩
    rw [rl_of T st (pm.nodup_iff.mpr nd) fun i => ?_]
    · exact q
    · rw [pm.mem_iff]
      exact ⟨hR i, fun ⟨s, e, h⟩ => e ▸ Rch.sub (k := k) h0 (fun s hs d hd => cl s hs (by simp) d hd) h⟩
  · have hw : wt ≠ [] := fun z => ne (by rw [z]; rfl)
    obtain ⟨w, x, rfl⟩ : ∃ w x, wt = w ++ [x] := ⟨wt.dropLast, wt.getLast hw, (List.dropLast_concat_getLast hw).symm⟩
    obtain ⟨a, rfl, Ra⟩ := hR x (sub x (by simp))
    have ha := Ra.lt T
    obtain ⟨nw1, _, nw2⟩ := List.nodup_append.mp nw
    simp
    refine ⟨w.map D.int, .int (a : Nat), ⟨rfl, rfl⟩, ?_⟩
    simp [tabF, tab_at ha]
    refine wLoop_inv (fun e δ => ∃ (o4 : Option SV) (ks : List Key) (vs : List D) (sn2 wt : List Int), ks = sn2.map Sum.inl ∧ vs = ks.map (fun _ => D.bl true) ∧ sn2.Nodup ∧ wt.Nodup ∧ (∀ j ∈ sn2, ∃ s : Nat, j = s ∧ Rch r f s) ∧ (∀ j ∈ wt, j ∈ sn2) ∧ (0 : Int) ∈ sn2 ∧
      (∀ s : Nat, (s : Int) ∈ sn2 → (s : Int) ∉ wt → s ≠ a → ∀ d, d < r → (f s d : Int) ∈ sn2) ∧ (∀ d, d < e → (f a d : Int) ∈ sn2) ∧ (a : Int) ∈ sn2 ∧ (a : Int) ∉ wt ∧ 2 * (k - sn2.length) + wt.length ≤ 2 * (k - sn.length) + w.length ∧
      δ = ⟨[some (.sh (tabF k r f)), some (.ow (.dct ks vs)), some (.ow (.lst (wt.map D.int))), some (.sh (.int (a : Nat))), o4], n⟩) ?_ ?_ ?_
    · exact ⟨o4, ks, vs, sn, w, hks, hvs, nd, nw1, hR, fun j hj => sub j (by simp [hj]), h0, fun s hs hn hne d hd => cl s hs (by simp; exact ⟨hn, by omega⟩) d hd, by simp, sub _ (by simp), fun z => nw2 _ z _ (by simp) rfl, Nat.le_refl _, rfl⟩
    · rintro e d δ hd ⟨o4, ks, vs, sn2, wt, hks, hvs, nd, nw, hR, sub, h0, cl, ca, as, aw, hm, rfl⟩ N hN
      have he : e < r := by
        have := (List.getElem?_eq_some_iff.mp hd).1
        simpa using this
      have ed : d = .int (f a e : Nat) := by
        rw [List.getElem?_map, List.getElem?_range he] at hd
        simpa using hd.symm
      subst ed
      have Rc : Rch r f (f a e) := .step Ra he
      have ls : sn2.length ≤ k := lenNd nd fun j hj => by
        obtain ⟨s, e, R⟩ := hR j hj
        exact ⟨s, e, R.lt T⟩
      have lw : wt.length ≤ k := lenNd nw fun j hj => by
        obtain ⟨s, e, R⟩ := hR j (sub j hj)
        exact ⟨s, e, R.lt T⟩
      have kl : ks.length ≤ k := by rw [hks, List.length_map]; exact ls
      have mk : (Sum.inl ((f a e : Nat) : Int) : Key) ∈ ks ↔ ((f a e : Nat) : Int) ∈ sn2 := by rw [hks]; exact mem_inl _ _
      simp
      refine ⟨fun h => ?_, fun h => ?_⟩
      · have h' : ((f a e : Nat) : Int) ∉ sn2 := fun z => h (mk.mpr z)
        have nd2 : (sn2 ++ [((f a e : Nat) : Int)]).Nodup := List.nodup_append.mpr ⟨nd, by simp, fun x hx y hy z => by simp at hy; subst hy; subst z; exact h' hx⟩
        have R2 : ∀ j ∈ sn2 ++ [((f a e : Nat) : Int)], ∃ s : Nat, j = s ∧ Rch r f s := fun j hj => by
          rcases List.mem_append.mp hj with z | z
          · exact hR j z
          · exact ⟨_, by simpa using z, Rc⟩
        have l2 : (sn2 ++ [((f a e : Nat) : Int)]).length ≤ k := lenNd nd2 fun j hj => by
          obtain ⟨s, e, R⟩ := R2 j hj
          exact ⟨s, e, R.lt T⟩
        have l2 : sn2.length + 1 ≤ k := by simpa using l2
        refine ⟨ks, vs, ⟨rfl, rfl⟩, by omega, by omega, hN _ ⟨some (.sh (.int (f a e : Nat))), dKs ks (.inl (f a e : Nat)), dVs ks vs (.inl (f a e : Nat)) (.bl true), sn2 ++ [((f a e : Nat) : Int)], wt ++ [((f a e : Nat) : Int)], ?_, ?_, nd2, ?_, R2, ?_, List.mem_append_left _ h0, ?_, ?_, List.mem_append_left _ as, ?_, ?_, by simp⟩⟩
        · rw [hks, dKs_inl, if_neg h']
        · rw [hvs, dVs_map]; simp
        · exact List.nodup_append.mpr ⟨nw, by simp, fun x hx y hy z => by simp at hy; subst hy; subst z; exact h' (sub _ hx)⟩
        · intro j hj
          rcases List.mem_append.mp hj with z | z
          · exact List.mem_append_left _ (sub j z)
          · exact List.mem_append_right _ z
        · intro s hs hn hne d hd
          have hn' : (s : Int) ∉ wt := fun z => hn (List.mem_append_left _ z)
          rcases List.mem_append.mp hs with z | z
          · exact List.mem_append_left _ (cl s z hn' hne d hd)
          · exact (hn (List.mem_append_right _ z)).elim
        · intro d hd
          by_cases z : d = e
          · subst z; simp
          · exact List.mem_append_left _ (ca d (by omega))
        · intro z
          rcases List.mem_append.mp z with z | z
          · exact aw z
          · have : (a : Int) = (f a e : Nat) := by simpa using z
            exact h' (this ▸ as)
        · simp only [List.length_append, List.length_singleton]; omega
      · have h' : ((f a e : Nat) : Int) ∈ sn2 := mk.mp h
        refine hN _ ⟨_, ks, vs, sn2, wt, hks, hvs, nd, nw, hR, sub, h0, cl, fun d hd => ?_, as, aw, hm, rfl⟩
        by_cases z : d = e
        · subst z; exact h'
        · exact ca d (by omega)
    · rintro δ ⟨o4, ks, vs, sn2, wt, hks, hvs, nd, nw, hR, sub, h0, cl, ca, as, aw, hm, rfl⟩
      simp at ca
      refine ⟨_, ?_, _, o4, ks, vs, sn2, hks, hvs, nd, wt, nw, hR, sub, h0, fun s hs hn d hd => ?_, rfl, rfl⟩
      · omega
      · by_cases z : s = a
        · subst z; exact ca d hd
        · exact cl s hs hn z d hd
theorem rl_ne {k r : Nat} {f : Nat → Nat → Nat} (T : Tb k r f) : rl k r f ≠ [] := fun z => by
  have := (rl_mem T (i := 0)).mpr ⟨0, rfl, .zero⟩
  rw [z] at this
  cases this
theorem rl_get {k r : Nat} {f : Nat → Nat → Nat} (T : Tb k r f) {i : Nat} {d : D} (h : ((rl k r f).map D.int)[i]? = some d) : ∃ s : Nat, d = .int (s : Nat) ∧ Rch r f s ∧ s < k ∧ (rl k r f)[i]? = some (s : Int) := by
  rw [List.getElem?_map] at h
  cases e : (rl k r f)[i]? with
  | none => rw [e] at h; cases h
  | some x =>
    rw [e] at h
    obtain ⟨s, rfl, R⟩ := (rl_mem T).mp (List.mem_of_getElem? e)
    cases h
    exact ⟨s, rfl, R, R.lt T, rfl⟩
theorem rl_len {k r : Nat} {f : Nat → Nat → Nat} (T : Tb k r f) : (rl k r f).length ≤ k := lenNd ((rl_srt (k := k) (r := r) (f := f)).imp fun h => by omega) fun j hj => by
  obtain ⟨s, e, R⟩ := (rl_mem T).mp hj
  exact ⟨s, e, R.lt T⟩
theorem top_of {k r : Nat} {f : Nat → Nat → Nat} (T : Tb k r f) {b : Nat → Int} {m : Int} (h1 : m ∈ (rl k r f).map fun j => b j.toNat) (h2 : ∀ y ∈ (rl k r f).map (fun j => b j.toNat), y ≤ m) : Top k r f b m := by
  constructor
  · obtain ⟨j, hj, rfl⟩ := List.mem_map.mp h1
    obtain ⟨s, rfl, R⟩ := (rl_mem T).mp hj
    exact ⟨s, R.lt T, R, by simp⟩
  · intro s hs R
    exact h2 _ (List.mem_map.mpr ⟨(s : Int), (rl_mem T).mpr ⟨s, rfl, R⟩, by simp⟩)
theorem top_uniq {k r : Nat} {f : Nat → Nat → Nat} {b : Nat → Int} {m m' : Int} (h : Top k r f b m) (h' : Top k r f b m') : m = m' := by
  obtain ⟨⟨s, hs, R, e⟩, a⟩ := h
  obtain ⟨⟨s', hs', R', e'⟩, a'⟩ := h'
  have := a _ hs' R'
  have := a' _ hs R
  omega
theorem len_l_boxes : ∀ ds n Q, C_l_boxes ds n Q → ds.length = 2 := fun ds n Q ⟨_, _, _, e, _⟩ => by rw [e]; rfl
theorem rowOf {k : Nat} {w : List Int} (h : w.length = k) : D.tup (w.map D.int) = rowF k fun s => w[s]?.getD 0 := by
  unfold rowF
  congr 1
  refine List.ext_getElem (by simp [h]) fun s h1 h2 => ?_
  have hs : s < w.length := by simpa using h1
  simp [hs]
theorem pf_l_boxes : ∀ ds n Q, C_l_boxes ds n Q → w_l_boxes ⟨fun δ => Q .non δ.n, Q, fun _ => False, fun _ => False⟩ ⟨start3 N_l_boxes ds, n⟩ := by
  rintro ds n Q ⟨k, r, f, rfl, T, hn, q⟩
  obtain ⟨k1, k2, r1, r2, lt⟩ := id T
  have g0 : ∀ s, s < k → f s 0 < k := fun s h => lt s 0 h (by omega)
  simp [w_l_boxes]
  refine draw_le (by decide) (.n (by decide)) (by omega) fun y y0 y1 => ?_
  simp [tabF]
  constructor
  · intro hy
    refine wLc_inv (fun i acc δ => ∃ (w : List Int) (n' : Nat), w.length = i ∧ n' ≤ n + 1 + i ∧ acc = w.map D.int ∧ δ = ⟨[some (.sh .deck), some (.sh (tabF k r f)), none, none, none, none, none], n'⟩) ⟨[], n + 1, rfl, by omega, rfl, rfl⟩ ?_ ?_
    · rintro i d acc δ hd ⟨w, n', hw, hn', rfl, rfl⟩ N hN
      have hi : i < k := by simpa using (List.getElem?_eq_some_iff.mp hd).1
      simp
      refine draw_le (by decide) (.n (by decide)) (by omega) fun x x0 x1 => ?_
      refine ⟨by omega, hN _ _ ⟨w ++ [x], n' + 1, by simp [hw], by omega, by simp, rfl⟩⟩
    · rintro acc δ ⟨w, n', hw, hn', rfl, rfl⟩
      simp at hw hn'
      simp
      rw [rowOf hw]
      exact q _ _ (by omega)
  · intro hy
    refine wLc_inv (fun i acc δ => ∃ (w : List Int) (n' : Nat), w.length = i ∧ n' ≤ n + 1 + i ∧ acc = w.map D.int ∧ δ = ⟨[some (.sh .deck), some (.sh (tabF k r f)), none, none, none, none, none], n'⟩) ⟨[], n + 1, rfl, by omega, rfl, rfl⟩ ?_ ?_
    · rintro i d acc δ hd ⟨w, n', hw, hn', rfl, rfl⟩ N hN
      have hi : i < k := by simpa using (List.getElem?_eq_some_iff.mp hd).1
      simp
      refine draw_le (by decide) (.n (by decide)) (by omega) fun x x0 x1 => ?_
      refine ⟨by omega, hN _ _ ⟨w ++ [x], n' + 1, by simp [hw], by omega, by simp, rfl⟩⟩
    · rintro acc δ ⟨w, n1, hw, hn1, rfl, rfl⟩
      simp at hw hn1
      simp [tabF]
      refine ⟨by omega, ?_⟩
      refine wLoop_inv (fun i δ => ∃ (o5 : Option SV) (v : List Int), v.length = i ∧ δ = ⟨[some (.sh .deck), some (.sh (tabF k r f)), none, some (.sh (.lst (w.map D.int))), some (.ow (.lst (v.map D.int))), o5, none], n1⟩) ⟨none, [], rfl, rfl⟩ ?_ ?_
      · rintro i d δ hd ⟨o5, v, hv, rfl⟩ N hN
        obtain ⟨hi, rfl⟩ := rng_get hd
        simp
        refine ⟨k, r, f, i, T, hi, rfl, ?_⟩
        have rl : rnd k (fun x => f x 0) i < k := by
          obtain ⟨j, _, e⟩ := lu_mem (fun x => f x 0) (it (fun x => f x 0) k i) k
          unfold rnd
          rw [e]
          exact it_lt g0 (it_lt g0 hi k) j
        have ea : L2.atI (w.map D.int) ((rnd k (fun x => f x 0) i : Nat) : Int) = some (.int (w[rnd k (fun x => f x 0) i]'(by omega))) := L2.atI_nat (by simp [hw, rl])
        simp [ea]
        exact ⟨by omega, hN _ ⟨some (.sh (.int (i : Nat))), v ++ [w[rnd k (fun x => f x 0) i]'(by omega)], by simp [hv], by simp⟩⟩
      · rintro δ ⟨o5, v, hv, rfl⟩
        rw [rng_len] at hv
        simp
        refine draw_le (by decide) (.n (by decide)) (by omega) fun x x0 x1 => ?_
        simp
        refine ⟨by omega, by omega, ?_⟩
        refine wLoop_inv (fun i δ => ∃ (o5 o6 : Option SV) (v : List Int) (n2 : Nat), v.length = k ∧ n2 ≤ n1 + 1 + 2 * i ∧ δ = ⟨[some (.sh .deck), some (.sh (tabF k r f)), none, some (.sh (.lst (w.map D.int))), some (.ow (.lst (v.map D.int))), o5, o6], n2⟩) ⟨o5, none, v, n1 + 1, by omega, by omega, rfl⟩ ?_ ?_
        · rintro i d δ hd ⟨o5, o6, v, n2, hv, hn2, rfl⟩ N hN
          obtain ⟨hi, rfl⟩ := rng_get hd
          have hx : i < 2 := by omega
          simp [tabF]
          refine draw_le (by omega) ((sz_len (k := 10) (by omega)).mono (by decide)) (by omega) fun z z0 z1 => ?_
          simp
          refine draw_le (by decide) (.n (by decide)) (by omega) fun u u0 u1 => ?_
          obtain ⟨j, rfl⟩ := Int.eq_ofNat_of_zero_le z0
          have hj : ixN v.length (j : Int) = some j := by unfold ixN; rw [if_pos (by omega), if_pos (by omega)]; simp
          refine ⟨j, hj, hN _ ⟨some (.sh (.int (j : Nat))), some (.sh (.int (i : Nat))), v.set j u, n2 + 1 + 1, by simp [hv], by omega, by simp [tabF]⟩⟩
        · rintro δ ⟨o5, o6, v, n2, hv, hn2, rfl⟩
          rw [rng_len] at hn2
          simp
          rw [rowOf hv]
          exact q _ _ (by omega)
theorem good_or {k r : Nat} {f : Nat → Nat → Nat} {b : Nat → Int} (T : Tb k r f) : Good k r f b ∨ ∃ s, Lb k r f b s := by
  by_cases g : Good k r f b
  · exact .inl g
  · refine .inr ?_
    have h : ∀ n s, s < n → s < k → Rch r f s → b s ≠ b (f s 0) → ∃ t, Lb k r f b t := by
      intro n
      induction n with
      | zero => intro s h; omega
      | succ n ih =>
        intro s h h1 h2 h3
        by_cases z : ∀ t, t < s → Rch r f t → b t = b (f t 0)
        · exact ⟨s, h1, h2, h3, z⟩
        · obtain ⟨t, hz⟩ := Classical.not_forall.mp z
          simp only [Classical.not_imp] at hz
          obtain ⟨h4, h5, h6⟩ := hz
          exact ih t (by omega) (by omega) h5 h6
    refine Classical.byContradiction fun z => g fun s hs R => ?_
    refine Classical.byContradiction fun ne => z (h (s + 1) s (by omega) hs R ne)
/-- those ahead in the list are all that are reached and less -/
theorem rl_ahead {k r : Nat} {f : Nat → Nat → Nat} (T : Tb k r f) {i : Nat} {s : Nat} (h : (rl k r f)[i]? = some (s : Int)) {t : Nat} (ht : t < s) (R : Rch r f t) : ∃ j, j < i ∧ (rl k r f)[j]? = some (t : Int) := by
  obtain ⟨j, hj, e⟩ := List.getElem_of_mem ((rl_mem T).mpr ⟨t, rfl, R⟩)
  obtain ⟨hi, e'⟩ := List.getElem?_eq_some_iff.mp h
  refine ⟨j, ?_, by rw [List.getElem?_eq_getElem hj, e]⟩
  have st := List.pairwise_iff_getElem.mp (rl_srt (k := k) (r := r) (f := f))
  refine Classical.byContradiction fun z => ?_
  by_cases q : i = j
  · subst q; omega
  · have := st i j hi hj (by omega); omega
theorem len_Machine_uinitu : ∀ ds n Q Xd, C_Machine_uinitu ds n Q Xd → ds.length + 1 = 4 := fun ds n Q Xd ⟨_, _, _, _, _, e, _⟩ => by rw [e]; rfl
theorem pf_Machine_uinitu : ∀ ds n Q Xd, C_Machine_uinitu ds n Q Xd → w_Machine_uinitu (fun x δ => Xd x δ.n) ⟨fun δ => ∃ fs, δ.sl[0]? = some (some (.ow (.ins 2 fs))) ∧ Q (.ins 2 fs) δ.n, fun _ _ => False, fun _ => False, fun _ => False⟩ ⟨startI N_Machine_uinitu 2 ds, n⟩ := by
  rintro ds n Q Xd ⟨k, r, f, b, T, rfl, q, qx⟩
  obtain ⟨k1, k2, r1, r2, lt⟩ := id T
  simp [w_Machine_uinitu, startI]
  refine ⟨k, r, f, T, rfl, ?_⟩
  simp
  refine wLoop_inv (fun i δ => (∀ j (t : Nat), j < i → (rl k r f)[j]? = some (t : Int) → b t = b (f t 0)) ∧ ∃ o : Option D, δ = ⟨[some (.ow (.ins 2 [])), some (.sh (.int (r : Nat))), some (.sh (tabF k r f)), some (.sh (rowF k b)), some (.sh (.lst ((rl k r f).map D.int))), o.map SV.sh], n⟩) ⟨fun j t h => by omega, none, rfl⟩ ?_ ?_
  · rintro i d δ hd ⟨hb, o, rfl⟩ N hN
    obtain ⟨s, rfl, R, hs, hi⟩ := rl_get T hd
    have row0 := row_at (g := f s) (d := 0) (r := r) (by omega)
    have l0 := lt s 0 hs (by omega)
    simp [tabF, rowF, tab_at hs, box_at hs] at row0 ⊢
    simp [row0, box_at l0]
    refine ⟨fun h => ?_, fun h => ?_⟩
    · refine qx s ⟨hs, R, h, fun t ht Rt => ?_⟩
      obtain ⟨j, h1, h2⟩ := rl_ahead T hi ht Rt
      exact hb j t h1 h2
    · refine hN _ ⟨fun j t h1 h2 => ?_, some (.int (s : Nat)), rfl⟩
      by_cases z : j = i
      · subst z
        rw [hi] at h2
        have h3 : (s : Int) = t := by simpa using h2
        have : s = t := by omega
        subst this
        exact h
      · exact hb j t (by omega) h2
  · rintro δ ⟨hb, o, rfl⟩
    have ln := rl_len T
    have hg : Good k r f b := fun s hs R => by
      obtain ⟨j, hj, e⟩ := List.getElem_of_mem ((rl_mem T).mpr ⟨s, rfl, R⟩)
      exact hb j s (by simpa using hj) (by rw [List.getElem?_eq_getElem hj, e])
    simp
    refine ⟨2, [], ⟨rfl, rfl⟩, 0, ⟨rfl, rfl⟩, by simp, 2, [.int (r : Nat)], ⟨rfl, rfl⟩, 1, ⟨rfl, rfl⟩, by simp, 2, [.int (r : Nat), tabF k r f], ⟨rfl, rfl⟩, 2, ⟨rfl, rfl⟩, by simp, ?_⟩
    refine wLc_inv (fun i acc δ => acc = (((rl k r f).take i).map fun j => b j.toNat).map D.int ∧ δ = ⟨[some (.ow (.ins 2 [.int (r : Nat), tabF k r f, rowF k b])), some (.sh (.int (r : Nat))), some (.sh (tabF k r f)), some (.sh (rowF k b)), some (.sh (.lst ((rl k r f).map D.int))), none], n⟩) ⟨by simp, rfl⟩ ?_ ?_
    · rintro i d acc δ hd ⟨rfl, rfl⟩ N hN
      obtain ⟨s, rfl, R, hs, hi⟩ := rl_get T hd
      have hil := (List.getElem?_eq_some_iff.mp hi).1
      simp [rowF, box_at hs]
      exact ⟨by omega, hN _ _ ⟨by rw [List.take_succ, hi]; simp, rfl⟩⟩
    · rintro acc δ ⟨rfl, rfl⟩
      rw [List.length_map, List.take_length]
      refine ⟨_, rfl, by simpa using rl_ne T, fun m h1 h2 => ?_⟩
      have tp := top_of T h1 h2
      simp
      exact ⟨2, _, ⟨rfl, rfl⟩, 3, ⟨rfl, rfl⟩, by simp, _, ⟨rfl, rfl⟩, q hg m tp⟩
theorem len_l_due : ∀ ds n Q, C_l_due ds n Q → ds.length = 2 := fun ds n Q ⟨_, _, _, _, _, e, _⟩ => by rw [e]; rfl
theorem pf_l_due : ∀ ds n Q, C_l_due ds n Q → w_l_due ⟨fun δ => Q .non δ.n, Q, fun _ => False, fun _ => False⟩ ⟨start3 N_l_due ds, n⟩ := by
  rintro ds n Q ⟨k, r, f, b, T, rfl, q, qx⟩
  obtain ⟨k1, k2, r1, r2, lt⟩ := id T
  simp [w_l_due]
  refine ⟨k, r, f, T, rfl, ?_⟩
  simp
  refine wLoop_inv (fun i δ => (∀ j (t : Nat), j < i → (rl k r f)[j]? = some (t : Int) → b t = b (f t 0)) ∧ ∃ o : Option D, δ = ⟨[some (.sh (tabF k r f)), some (.sh (rowF k b)), o.map SV.sh], n⟩) ⟨fun j t h => by omega, none, rfl⟩ ?_ ?_
  · rintro i d δ hd ⟨hb, o, rfl⟩ N hN
    obtain ⟨s, rfl, R, hs, hi⟩ := rl_get T hd
    have row0 := row_at (g := f s) (d := 0) (r := r) (by omega)
    have l0 := lt s 0 hs (by omega)
    simp [tabF, rowF, tab_at hs, box_at hs] at row0 ⊢
    simp [row0, box_at l0]
    refine ⟨fun h => ?_, fun h => ?_⟩
    · refine qx s ⟨hs, R, h, fun t ht Rt => ?_⟩
      obtain ⟨j, h1, h2⟩ := rl_ahead T hi ht Rt
      exact hb j t h1 h2
    · refine hN _ ⟨fun j t h1 h2 => ?_, some (.int (s : Nat)), rfl⟩
      by_cases z : j = i
      · subst z
        rw [hi] at h2
        have h3 : (s : Int) = t := by simpa using h2
        have : s = t := by omega
        subst this
        exact h
      · exact hb j t (by omega) h2
  · rintro δ ⟨hb, o, rfl⟩
    have hg : Good k r f b := fun s hs R => by
      obtain ⟨j, hj, e⟩ := List.getElem_of_mem ((rl_mem T).mpr ⟨s, rfl, R⟩)
      exact hb j s (by simpa using hj) (by rw [List.getElem?_eq_getElem hj, e])
    simp
    exact q hg
theorem len_l_heard : ∀ ds n Q, C_l_heard ds n Q → ds.length = 3 := fun ds n Q ⟨_, _, _, _, _, e, _⟩ => by rw [e]; rfl
theorem pf_l_heard : ∀ ds n Q, C_l_heard ds n Q → w_l_heard ⟨fun δ => Q .non δ.n, Q, fun _ => False, fun _ => False⟩ ⟨start3 N_l_heard ds, n⟩ := by
  rintro ds n Q ⟨k, r, f, b, T, rfl, q, qx⟩
  simp [w_l_heard]
  refine ⟨k, r, f, b, T, rfl, fun g m _ => ?_, fun s h => ?_⟩
  · simp
    exact q g
  · simp
    intro ok ho
    exact ⟨ho, qx s h⟩
theorem pf_law : w_law ⟨fun _ => False, fun d _ => d = .bl true, fun _ => False, fun _ => False⟩ ⟨none :: some (.sh .deck) :: List.replicate (N_law.length - 2) none, 0⟩ := by
  have tbA : tabF 2 2 (fun s d => s * d) = .tup [.tup [.int 0, .int 0], .tup [.int 0, .int 1]] := rfl
  have tbB : tabF 2 2 (fun s d => d) = .tup [.tup [.int 0, .int 1], .tup [.int 0, .int 1]] := rfl
  have TA : Tb 2 2 (fun s d => s * d) := ⟨by decide, by decide, by decide, by decide, fun s d h h' => by
    have : s = 0 ∨ s = 1 := by omega
    rcases this with rfl | rfl <;> omega⟩
  have TB : Tb 2 2 (fun s d => d) := ⟨by decide, by decide, by decide, by decide, fun s d h h' => h'⟩
  simp [w_law]
  refine wLoop_inv (fun i δ => ∃ (o2 o3 o4 o5 o6 : Option SV) (n' : Nat), n' ≤ i * 500 ∧ δ = ⟨[none, some (.sh .deck), o2, o3, o4, o5, o6], n'⟩) ⟨none, none, none, none, none, 0, by omega, rfl⟩ ?_ ?_
  · rintro i d δ hd ⟨o2, o3, o4, o5, o6, n', hn, rfl⟩ N hN
    obtain ⟨hi, rfl⟩ := rng_get hd
    have md : mostDraws = mostDraws := rfl
    unfold mostDraws at md
    simp
    refine draw_le (by decide) (.n (by decide)) (by unfold mostDraws; omega) fun a a0 a1 => ?_
    simp
    refine draw_le (by decide) (.n (by decide)) (by unfold mostDraws; omega) fun c c0 c1 => ?_
    obtain ⟨k, hk, k1, k2⟩ : ∃ k : Nat, 1 + c = (k : Int) ∧ 1 ≤ k ∧ k ≤ 40 := ⟨(1 + c).toNat, by omega, by omega, by omega⟩
    obtain ⟨r, hr, r1, r2⟩ : ∃ r : Nat, 2 + a = (r : Int) ∧ 2 ≤ r ∧ r ≤ 10 := ⟨(2 + a).toNat, by omega, by omega, by omega⟩
    rw [hr]
    simp
    rw [hk]
    refine ⟨k, r, rfl, k1, k2, r1, r2, by unfold mostDraws; omega, fun f n1 T h1 => ?_⟩
    simp
    refine ⟨k, r, f, rfl, T, by unfold mostDraws; omega, fun b n2 h2 => ?_⟩
    simp
    rcases good_or (b := b) T with g | ⟨s, g⟩
    · have un : ∀ s, ¬ Lb k r f b s := fun s z => z.2.2.1 (g s z.1 z.2.1)
      refine ⟨k, r, f, b, T, rfl, fun _ => ?_, fun s z => absurd z (un s)⟩
      simp
      refine ⟨k, r, f, b, T, rfl, fun _ => ?_, fun s z => absurd z (un s)⟩
      refine Sh.non.repr (by decide) (by decide) ?_
      simp
      refine Sh.non.repr (by decide) (by decide) ?_
      simp
      exact hN _ ⟨some (.sh (.int (i : Nat))), _, _, _, _, n2, by omega, rfl⟩
    · have un : ∀ s', Lb k r f b s' → s' = s := fun s' z => by
        rcases Nat.lt_trichotomy s s' with h | h | h
        · exact absurd (z.2.2.2 s h g.2.1) g.2.2.1
        · exact h.symm
        · exact absurd (g.2.2.2 s' h z.2.1) z.2.2.1
      have ng : ¬ Good k r f b := fun z => g.2.2.1 (z s g.1 g.2.1)
      refine ⟨k, r, f, b, T, rfl, fun z => absurd z ng, fun s1 z1 => ?_⟩
      obtain rfl := un s1 z1
      simp
      refine ⟨k, r, f, b, T, rfl, fun z => absurd z ng, fun s2 z2 => ?_⟩
      obtain rfl := un s2 z2
      have hs := g.1
      have shB := Sh.lst (ShAll.ints (ns := [(s2 : Int)]) fun x hx => by
        have : x = s2 := by simpa using hx
        rw [this]; exact (sz_len (k := 10) (by omega)).mono (by decide))
      refine shB.repr (by decide) (by simp) ?_
      simp
      refine shB.repr (by decide) (by simp) ?_
      simp
      exact hN _ ⟨some (.sh (.int (i : Nat))), _, _, _, _, n2, by omega, rfl⟩
  · rintro δ ⟨o2, o3, o4, o5, o6, n', hn, rfl⟩
    rw [rng_len] at hn
    simp
    refine draw_le (by decide) (.n (by decide)) (by unfold mostDraws; omega) fun a a0 a1 => ?_
    simp
    have rb : D.tup [.int 0, .int (1 + a)] = rowF 2 fun s => if s = 0 then 0 else 1 + a := rfl
    have rA : ∀ s, Rch 2 (fun s d => s * d) s → s = 0 := fun s h => by
      induction h with
      | zero => rfl
      | step _ _ ih => simp [ih]
    have un : ∀ s, ¬ Lb 2 2 (fun s d => s * d) (fun s => if s = 0 then 0 else 1 + a) s := fun s z => z.2.2.1 (by rw [rA s z.2.1])
    rw [← tbA, rb, ← tbB]
    refine ⟨2, 2, _, _, TA, rfl, fun _ => ?_, fun s z => absurd z (un s)⟩
    refine Sh.non.repr (by decide) (by decide) ?_
    simp [PyData.shown]
    have lb : Lb 2 2 (fun s d => d) (fun s => if s = 0 then 0 else 1 + a) 1 := ⟨by decide, .step (d := 1) .zero (by decide), by simp; omega, fun t ht _ => by rw [show t = 0 by omega]⟩
    refine ⟨2, 2, _, _, TB, rfl, fun z => absurd (z 1 lb.1 lb.2.1) lb.2.2.1, fun s z => ?_⟩
    have : s = 1 := by
      have h1 := z.1
      have h2 : s ≠ 0 := fun e => z.2.2.1 (by rw [e])
      omega
    subst this
    have shB := Sh.lst (ShAll.ints (ns := [((1 : Nat) : Int)]) fun x hx => by
      have : x = 1 := by simpa using hx
      rw [this]; exact .n (by decide))
    refine shB.repr (by decide) (by simp) ?_
    simp [PyData.shown]
    decide
end Pg
namespace Pg
open PySem PySem.Spec PyProof.Rows L2 L3
def top (i : Nat) : Stmt := PySem.Challenge.pw_whateverboxes_k38_machines_that_are_refu.main.body.getD i (.Pass ⟨0, 0, 0, 0⟩)
abbrev s_BadMachine_uinitu : Stmt := inClass (top 3) 0
theorem sb_BadMachine : defBody s_BadMachine_uinitu = [supRow ⟨10, 8, 10, 13⟩ ⟨10, 8, 10, 15⟩ ⟨10, 8, 10, 24⟩ ⟨10, 25, 10, 65⟩ ⟨10, 8, 10, 66⟩ ⟨10, 8, 10, 66⟩ "zeros ahead of a number change its box" 0, fldRow ⟨11, 8, 11, 12⟩ ⟨11, 8, 11, 18⟩ ⟨11, 21, 11, 26⟩ ⟨11, 8, 11, 26⟩ "state" "state"] := rfl
theorem ss_BadMachine : SupS (defScope s_BadMachine_uinitu) (defArgs s_BadMachine_uinitu) ["self", "state"] := ⟨⟨_, rfl, rfl⟩, rfl, rfl, rfl, rfl, rfl, by decide +kernel, by decide +kernel⟩
abbrev s_reached_states : Stmt := top 5
theorem sc_reached_states : FnScope N_reached_states ["steps"] (defScope s_reached_states) := ⟨rfl, rfl, rfl, by decide +kernel, rfl, by decide +kernel, by decide +kernel⟩
abbrev s_Machine_uinitu : Stmt := inClass (top 7) 0
theorem sc_Machine_uinitu : FnScope N_Machine_uinitu ["self", "base", "steps", "boxes"] (defScope s_Machine_uinitu) := ⟨rfl, rfl, rfl, by decide +kernel, rfl, by decide +kernel, by decide +kernel⟩
abbrev s_l_deck : Stmt := top 9
theorem sc_l_deck : FnScope N_l_deck ["_law_script"] (defScope s_l_deck) := ⟨rfl, rfl, rfl, by decide +kernel, rfl, by decide +kernel, by decide +kernel⟩
abbrev s_l_draw : Stmt := top 10
theorem sc_l_draw : FnScope N_l_draw ["_law_deck_here", "_law_many"] (defScope s_l_draw) := ⟨rfl, rfl, rfl, by decide +kernel, rfl, by decide +kernel, by decide +kernel⟩
abbrev s_l_leads : Stmt := top 12
theorem sc_l_leads : FnScope N_l_leads ["_law_deck_here", "_law_radix", "_law_many"] (defScope s_l_leads) := ⟨rfl, rfl, rfl, by decide +kernel, rfl, by decide +kernel, by decide +kernel⟩
abbrev s_l_round : Stmt := top 13
theorem sc_l_round : FnScope N_l_round ["_law_leads_here", "_law_at"] (defScope s_l_round) := ⟨rfl, rfl, rfl, by decide +kernel, rfl, by decide +kernel, by decide +kernel⟩
abbrev s_l_reached : Stmt := top 14
theorem sc_l_reached : FnScope N_l_reached ["_law_leads_here"] (defScope s_l_reached) := ⟨rfl, rfl, rfl, by decide +kernel, rfl, by decide +kernel, by decide +kernel⟩
abbrev s_l_boxes : Stmt := top 15
theorem sc_l_boxes : FnScope N_l_boxes ["_law_deck_here", "_law_leads_here"] (defScope s_l_boxes) := ⟨rfl, rfl, rfl, by decide +kernel, rfl, by decide +kernel, by decide +kernel⟩
abbrev s_l_due : Stmt := top 16
theorem sc_l_due : FnScope N_l_due ["_law_leads_here", "_law_lots"] (defScope s_l_due) := ⟨rfl, rfl, rfl, by decide +kernel, rfl, by decide +kernel, by decide +kernel⟩
abbrev s_l_heard : Stmt := top 17
theorem sc_l_heard : FnScope N_l_heard ["_law_radix", "_law_leads_here", "_law_lots"] (defScope s_l_heard) := ⟨rfl, rfl, rfl, by decide +kernel, rfl, by decide +kernel, by decide +kernel⟩
abbrev s_law : Stmt := top 18
theorem sc_law : FnScope N_law ["_law_script"] (defScope s_law) := ⟨rfl, rfl, rfl, by decide +kernel, rfl, by decide +kernel, by decide +kernel⟩
structure Txt (P : Program) (K : PySem.W.Frag) (mg : Str → Option Value) where
  f_reached_states : Addr
  fd_reached_states : FuncData
  F_reached_states : Fun K "reached_states" "reached_states" s_reached_states f_reached_states fd_reached_states
  m_reached_states : mg "reached_states" = some (.ref f_reached_states)
  f_Machine_uinitu : Addr
  fd_Machine_uinitu : FuncData
  F_Machine_uinitu : Fun K "__init__" "Machine.__init__" s_Machine_uinitu f_Machine_uinitu fd_Machine_uinitu
  f_l_deck : Addr
  fd_l_deck : FuncData
  F_l_deck : Fun K "_law_deck" "_law_deck" s_l_deck f_l_deck fd_l_deck
  m_l_deck : mg "_law_deck" = some (.ref f_l_deck)
  f_l_draw : Addr
  fd_l_draw : FuncData
  F_l_draw : Fun K "_law_draw" "_law_draw" s_l_draw f_l_draw fd_l_draw
  m_l_draw : mg "_law_draw" = some (.ref f_l_draw)
  f_l_leads : Addr
  fd_l_leads : FuncData
  F_l_leads : Fun K "_law_leads" "_law_leads" s_l_leads f_l_leads fd_l_leads
  m_l_leads : mg "_law_leads" = some (.ref f_l_leads)
  f_l_round : Addr
  fd_l_round : FuncData
  F_l_round : Fun K "_law_round" "_law_round" s_l_round f_l_round fd_l_round
  m_l_round : mg "_law_round" = some (.ref f_l_round)
  f_l_reached : Addr
  fd_l_reached : FuncData
  F_l_reached : Fun K "_law_reached" "_law_reached" s_l_reached f_l_reached fd_l_reached
  m_l_reached : mg "_law_reached" = some (.ref f_l_reached)
  f_l_boxes : Addr
  fd_l_boxes : FuncData
  F_l_boxes : Fun K "_law_boxes" "_law_boxes" s_l_boxes f_l_boxes fd_l_boxes
  m_l_boxes : mg "_law_boxes" = some (.ref f_l_boxes)
  f_l_due : Addr
  fd_l_due : FuncData
  F_l_due : Fun K "_law_due" "_law_due" s_l_due f_l_due fd_l_due
  m_l_due : mg "_law_due" = some (.ref f_l_due)
  f_l_heard : Addr
  fd_l_heard : FuncData
  F_l_heard : Fun K "_law_heard" "_law_heard" s_l_heard f_l_heard fd_l_heard
  m_l_heard : mg "_law_heard" = some (.ref f_l_heard)
  f_law : Addr
  fd_law : FuncData
  F_law : Fun K "law" "law" s_law f_law fd_law
  m_law : mg "law" = some (.ref f_law)
  C_Machine : Addr
  mC_Machine : mg "Machine" = some (.ref C_Machine)
  cl_Machine : Cls K C_Machine
  mk_Machine : Mk K C_Machine f_Machine_uinitu
  na_Machine_base : NoAttr K C_Machine "base"
  na_Machine_steps : NoAttr K C_Machine "steps"
  na_Machine_boxes : NoAttr K C_Machine "boxes"
  na_Machine_many : NoAttr K C_Machine "many"
  C_BoxError : Addr
  mC_BoxError : mg "BoxError" = some (.ref C_BoxError)
  eh_BoxError : PySem.W.hasDictIn K C_BoxError = true
  et_BoxError : PySem.W.typeIn K (.ref C_BoxError) = some (.type "type")
  eb_BoxError : PySem.W.subIn K (.ref C_BoxError) (.type "BaseException") = some true
  C_BadMachine : Addr
  mC_BadMachine : mg "BadMachine" = some (.ref C_BadMachine)
  eh_BadMachine : PySem.W.hasDictIn K C_BadMachine = true
  et_BadMachine : PySem.W.typeIn K (.ref C_BadMachine) = some (.type "type")
  eb_BadMachine : PySem.W.subIn K (.ref C_BadMachine) (.type "BaseException") = some true
  fi_BadMachine : Addr
  su_BadMachine : SupE P K C_BadMachine fi_BadMachine (defArgs s_BadMachine_uinitu) (defBody s_BadMachine_uinitu) (defScope s_BadMachine_uinitu) ["self", "state"]
  tk_BadMachine : PySem.W.takerIn K C_BadMachine "state" = some none
  xf_BadMachine : XfC K C_BadMachine
  no_BadMachine : PySem.W.findIn K (.ref C_BadMachine) "state" = some none
  xi_BadMachine : XisC K C_BadMachine
  sb_BadMachine_BadMachine : PySem.W.subIn K (.ref C_BadMachine) (.ref C_BadMachine) = some true
  sb_BadMachine_BoxError : PySem.W.subIn K (.ref C_BadMachine) (.ref C_BoxError) = some true
  z_int : mg "int" = none
  z_isinstance : mg "isinstance" = none
  z_len : mg "len" = none
  z_list : mg "list" = none
  z_max : mg "max" = none
  z_min : mg "min" = none
  z_range : mg "range" = none
  z_repr : mg "repr" = none
  z_sorted : mg "sorted" = none
  z_super : mg "super" = none
  z_tuple : mg "tuple" = none
abbrev Txt.cls {P : Program} {K : PySem.W.Frag} {mg : Str → Option Value} (T : Txt P K mg) : Nat → Addr := fun t => [T.C_BoxError, T.C_BadMachine, T.C_Machine].getD t 0
abbrev fld : Nat → List Str := fun t => ([[], ["state"], ["base", "steps", "boxes", "many"]] : List (List Str)).getD t []
section
variable {P : Program} {w : World} {K : PySem.W.Frag} {mg : Str → Option Value} {base : Heap}
theorem pk_BadMachine (T : Txt P K mg) {X : Cx} (hP : X.prog = P) (hK : X.K = K) (hm : X.mg = mg) {k : Nat} (hr : Room (k + 1) X.A) {p pos : Pos} {e : Expr} {ta : TA} (hg : Gl X "BadMachine") (ha : PA X [e] ta) (he : starEach [e] X.env = (false, eval e X.env) :: starEach [] X.env := by rfl) (hpl : (backTo pos (starEach [] X.env)).any (·.1) = false := by rfl) :
    PMk X (.Call (.Name "BadMachine" p) [e] [] pos) (tMkX T.C_BadMachine "state" ta) := by
  subst hP hK hm
  have S := T.su_BadMachine
  rw [sb_BadMachine] at S
  exact pmk_sup1 S ss_BadMachine (fun _ _ _ _ _ => ⟨_, rfl, rfl⟩) (fun _ => rfl) T.tk_BadMachine (by decide) (by decide) T.z_super hr hg T.mC_BadMachine ha (by decide) he hpl
theorem em_BadMachine_BadMachine (T : Txt P K mg) : PySem.W.exmOne K (.ref T.C_BadMachine) (.ref T.C_BadMachine) = some true := PySem.W.exm_ref T.eb_BadMachine T.eh_BadMachine T.et_BadMachine T.sb_BadMachine_BadMachine
theorem ki_BadMachine_BadMachine (T : Txt P K mg) : PySem.W.kitOne K (.ref T.C_BadMachine) (.ref T.C_BadMachine) = some true := kit_of T.eh_BadMachine T.et_BadMachine T.sb_BadMachine_BadMachine rfl
theorem em_BadMachine_BoxError (T : Txt P K mg) : PySem.W.exmOne K (.ref T.C_BadMachine) (.ref T.C_BoxError) = some true := PySem.W.exm_ref T.eb_BoxError T.eh_BoxError T.et_BoxError T.sb_BadMachine_BoxError
theorem ki_BadMachine_BoxError (T : Txt P K mg) : PySem.W.kitOne K (.ref T.C_BadMachine) (.ref T.C_BoxError) = some true := kit_of T.eh_BoxError T.et_BoxError T.sb_BadMachine_BoxError rfl
theorem bd_reached_states (T : Txt P K mg) : Binds K T.fd_reached_states ["steps"] [] := T.F_reached_states.binds (ps := ["steps"]) fun _ _ _ _ _ _ us hl => match us, hl with | [_], _ => rfl
theorem bd_l_deck (T : Txt P K mg) : Binds K T.fd_l_deck ["_law_script"] [] := T.F_l_deck.binds (ps := ["_law_script"]) fun _ _ _ _ _ _ us hl => match us, hl with | [_], _ => rfl
theorem bd_l_draw (T : Txt P K mg) : Binds K T.fd_l_draw ["_law_deck_here", "_law_many"] [] := T.F_l_draw.binds (ps := ["_law_deck_here", "_law_many"]) fun _ _ _ _ _ _ us hl => match us, hl with | [_, _], _ => rfl
theorem bd_l_leads (T : Txt P K mg) : Binds K T.fd_l_leads ["_law_deck_here", "_law_radix", "_law_many"] [] := T.F_l_leads.binds (ps := ["_law_deck_here", "_law_radix", "_law_many"]) fun _ _ _ _ _ _ us hl => match us, hl with | [_, _, _], _ => rfl
theorem bd_l_round (T : Txt P K mg) : Binds K T.fd_l_round ["_law_leads_here", "_law_at"] [] := T.F_l_round.binds (ps := ["_law_leads_here", "_law_at"]) fun _ _ _ _ _ _ us hl => match us, hl with | [_, _], _ => rfl
theorem bd_l_reached (T : Txt P K mg) : Binds K T.fd_l_reached ["_law_leads_here"] [] := T.F_l_reached.binds (ps := ["_law_leads_here"]) fun _ _ _ _ _ _ us hl => match us, hl with | [_], _ => rfl
theorem bd_l_boxes (T : Txt P K mg) : Binds K T.fd_l_boxes ["_law_deck_here", "_law_leads_here"] [] := T.F_l_boxes.binds (ps := ["_law_deck_here", "_law_leads_here"]) fun _ _ _ _ _ _ us hl => match us, hl with | [_, _], _ => rfl
theorem bd_l_due (T : Txt P K mg) : Binds K T.fd_l_due ["_law_leads_here", "_law_lots"] [] := T.F_l_due.binds (ps := ["_law_leads_here", "_law_lots"]) fun _ _ _ _ _ _ us hl => match us, hl with | [_, _], _ => rfl
theorem bd_l_heard (T : Txt P K mg) : Binds K T.fd_l_heard ["_law_radix", "_law_leads_here", "_law_lots"] [] := T.F_l_heard.binds (ps := ["_law_radix", "_law_leads_here", "_law_lots"]) fun _ _ _ _ _ _ us hl => match us, hl with | [_, _, _], _ => rfl
theorem bd_law (T : Txt P K mg) : Binds K T.fd_law ["_law_script"] [] := T.F_law.binds (ps := ["_law_script"]) fun _ _ _ _ _ _ us hl => match us, hl with | [_], _ => rfl
theorem kb_Machine_uinitu_0 (T : Txt P K mg) : KB K T.fd_Machine_uinitu ["self", "base", "steps", "boxes"] 4 [] [0, 1, 2, 3] [] := by
  obtain ⟨oc, od, kV, doc, pm, an, cdv, ct, osl, e, _, _⟩ := T.F_Machine_uinitu.ex
  rw [e]
  exact fun s us ws X l1 l2 => match us, ws, l1, l2 with | [_, _, _, _], [], _, _ => .of_eq rfl
theorem fo_base (T : Txt P K mg) {a c : Addr} : FldOk K (GA T.cls fld a c) "base" tab_base := (.cons (show (fld 2).findIdx? (· == ("base" : Str)) = some 0 by decide +kernel) (show (fld 2).length < 1000 by decide +kernel) T.cl_Machine T.na_Machine_base .nil)
theorem fo_boxes (T : Txt P K mg) {a c : Addr} : FldOk K (GA T.cls fld a c) "boxes" tab_boxes := (.cons (show (fld 2).findIdx? (· == ("boxes" : Str)) = some 2 by decide +kernel) (show (fld 2).length < 1000 by decide +kernel) T.cl_Machine T.na_Machine_boxes .nil)
theorem fo_many (T : Txt P K mg) {a c : Addr} : FldOk K (GA T.cls fld a c) "many" tab_many := (.cons (show (fld 2).findIdx? (· == ("many" : Str)) = some 3 by decide +kernel) (show (fld 2).length < 1000 by decide +kernel) T.cl_Machine T.na_Machine_many .nil)
theorem fo_steps (T : Txt P K mg) {a c : Addr} : FldOk K (GA T.cls fld a c) "steps" tab_steps := (.cons (show (fld 2).findIdx? (· == ("steps" : Str)) = some 1 by decide +kernel) (show (fld 2).length < 1000 by decide +kernel) T.cl_Machine T.na_Machine_steps .nil)
theorem ok_l_deck (T : Txt P K mg) : FnG P w K mg base CX0 1 T.f_l_deck T.fd_l_deck ["_law_script"] (spDeckA K) := by
  refine FnG.of (FunB.of T.F_l_deck) sc_l_deck (fun vs H Q E ⟨a, ns, e, _⟩ => by rw [e]; rfl) fun cdv A outer s H vs Q E hr hg h => ?_
  have D : PSs (cxOf CX0 P w K mg base N_l_deck "_law_deck" (defScope s_l_deck) T.f_l_deck cdv A outer s H E).nox (defBody s_l_deck) (tDeckA K 95038 223) :=
    pss_cons (ps_par (i := 1) (j := 2) rfl sc_l_deck.nd rfl rfl (by decide) rfl rfl (pa_cons (pe_callTy call_list_of rfl T.z_list (by decide +kernel) (pa_cons (pe_slice sl_list (pv 0) po_none (po_some pe_int)) pa_nil)) (pa_cons pe_int pa_nil)) (by rfl))
    (pss_cons (ps_for PassesOwn.never rfl (pi_list (pv 1)) (pg_name (i := 3) sc_l_deck.nd rfl (.inl rfl)) (pss_one (ps_set (i := 2) sc_l_deck.nd rfl (.inl rfl) (pe_op op_modN (pe_callTy call_int1 rfl T.z_int (by decide +kernel) (pa_cons (pe_op op_add (pe_op op_add (pe_op op_mul (pv 2) pe_int) (pe_op op_modN (pe_callTy call_int1 rfl T.z_int (by decide +kernel) (pa_cons (pv 3) pa_nil)) pe_int)) pe_int) pa_nil)) pe_int))))
    (pss_one (ps_ret (pe_disp (pps_cons pe_str (pe_revL (pv 1)) (pps_cons pe_str (pv 2) (pps_cons pe_str pe_int pps_nil))) (by rfl) (by rfl) (fun z => by cases z) (by decide)))))
  exact ⟨_, D.nox, rd_deckA rfl (by decide) h⟩
theorem ok_l_draw (T : Txt P K mg) : FnG P w K mg base CX0 1 T.f_l_draw T.fd_l_draw ["_law_deck_here", "_law_many"] (lift K (GA T.cls fld) CdrawA) := by
  refine FnG.of (FunB.of T.F_l_draw) sc_l_draw (fun vs H Q E ⟨a, c, ads, ds, n, Qd, _, _, _, _, r, ⟨m, e, _⟩, _⟩ => by rw [r.length, e]; rfl) fun cdv A outer s H vs Q E hr hg h => ?_
  obtain ⟨t, D⟩ : ∃ t, ∀ a c, DSs (cxOf CX0 P w K mg base N_l_draw "_law_draw" (defScope s_l_draw) T.f_l_draw cdv A outer s H E).nox (GA T.cls fld a c) ((defBody s_l_draw).drop 3) t w_l_draw :=
    ⟨_, fun a c => (dss_cons (ds_set 4 sc_l_draw.nd (de_mulK K (de_callTy call_int1 calls_int rfl T.z_int (by decide +kernel) (da_cons (de_addK K (de_addK K (de_mod (de_callTy call_int1 calls_int rfl T.z_int (by decide +kernel) (da_cons (de_var 3) da_nil)) de_int) (de_mulK K (de_mulK K de_int (de_var 2)) (de_var 2))) de_int) da_nil)) de_int))
    (dss_cons (ds_set 4 sc_l_draw.nd (de_mod (de_callTy call_int1 calls_int rfl T.z_int (by decide +kernel) (da_cons (de_var 4) da_nil)) de_int))
    (dss_cons (ds_set 4 sc_l_draw.nd (de_mod (de_callTy call_int1 calls_int rfl T.z_int (by decide +kernel) (da_cons (de_addK K (de_addK K (de_mulK K (de_var 4) (de_var 4)) (de_mulK K de_int (de_var 2))) de_int) da_nil)) de_int))
    (dss_one (ds_ret (de_mod (de_fdiv (de_mod (de_callTy call_int1 calls_int rfl T.z_int (by decide +kernel) (da_cons (de_mulK K (de_var 4) de_int) da_nil)) de_int) de_int) (de_var 1)))))))⟩
  have D1 : PSs (cxOf CX0 P w K mg base N_l_draw "_law_draw" (defScope s_l_draw) T.f_l_draw cdv A outer s H E).nox (defBody s_l_draw) (tDrawA K t) :=
    pss_cons (ps_dput (hu_of hr) (pv 0) pe_str (pe_op op_add (pe_dget (hu_of hr) (pv 0) pe_str (fun _ _ => rfl)) pe_int) rfl)
    (pss_cons (ps_par (i := 2) (j := 3) rfl sc_l_draw.nd rfl rfl (by decide) rfl rfl (pa_cons (pe_dget (hu_of hr) (pv 0) pe_str (fun _ _ => rfl)) (pa_cons (pe_dget (hu_of hr) (pv 0) pe_str (fun _ _ => rfl)) pa_nil)) (by rfl))
    (pss_cons (ps_if (pt_cmpR (op_neD hr.units) (pe_dget (hu_of hr) (pv 0) pe_str (fun _ _ => rfl)) (pe_lst pa_nil) (nomark _))
      (pss_cons (ps_set (i := 3) sc_l_draw.nd rfl (.inl rfl) (pe_bm0 PySem.F.plainAttrs_list PySem.F.slot_list_pop PySem.F.type_list_pop mt_pop (pe_dget (hu_of hr) (pv 0) pe_str (fun _ _ => rfl))))
      (pss_cons (ps_if (pt_cmpR op_ge (pv 3) (pe_op op_pow pe_int pe_int) (nomark _))
        (pss_cons (ps_expr (pe_bm PySem.F.plainAttrs_list PySem.F.slot_list_append PySem.F.type_list_append mt_append (pe_dget (hu_of hr) (pv 0) pe_str (fun _ _ => rfl)) (pa_cons (pe_op op_fdivA (pv 3) (pv 1)) pa_nil)))
        (pss_one (ps_ret (pe_op op_modN (pe_callTy call_int1 rfl T.z_int (by decide +kernel) (pa_cons (pv 3) pa_nil)) (pv 1))))) pss_nil)
      (pss_one (ps_set (i := 3) sc_l_draw.nd rfl (.inl rfl) (pe_op op_add (pv 3) (pe_dget (hu_of hr) (pv 0) pe_str (fun _ _ => rfl)))))))
      pss_nil) (D 0 0).ps))
  exact ⟨_, D1.nox, rd_drawA (by decide) (fun p c => (D p c).sim) pf_l_draw h⟩
theorem ok_reached_states (T : Txt P K mg) : FnG P w K mg base CX0 1 T.f_reached_states T.fd_reached_states ["steps"] (lift K (GA T.cls fld) C_reached_states) :=
  FnG.data (FunB.of T.F_reached_states) sc_reached_states len_reached_states (fun cdv A outer s H E a c hr hg => ⟨_, (dss_cons (ds_asg (de_tup (da_cons (de_lst (da_cons de_int da_nil)) (da_cons (de_lst (da_cons de_int da_nil)) da_nil))) (dg_tupK K rfl (dgs_cons (dg_name sc_reached_states.nd) (dgs_cons (dg_name sc_reached_states.nd) dgs_nil))))
    (dss_cons (ds_while PassesOwn.never (dt_cmp op_gt ops_IB (de_callB (call_lenK K) calls_len rfl T.z_len (by decide +kernel) (da_cons (de_var 2) da_nil)) de_int) (dss_cons (ds_set 3 sc_reached_states.nd (de_sortSc2 (own := [("state", 4), ("after", 5)]) (vs1 := [5]) rfl sc_reached_states.nd (di_seqK K (de_var 2)) (blkOk_by (N := N_reached_states) (sc := (defScope s_reached_states)) (by decide +kernel)) (by decide) (fun _ _ _ _ _ => (dg_name sc_reached_states.nd)) (fun _ _ _ _ _ => dts_nil) (fun _ _ _ _ _ => (di_seqK K (de_ixK K (de_var 0) (de_var 4)))) (fun _ _ _ _ _ => (dg_name sc_reached_states.nd)) (fun _ _ _ _ _ => dts_nil) (fun _ _ _ _ _ => (de_var 5)) (by decide) (by decide) rfl T.z_sorted))
    (dss_cons (ds_setLc (i := 2) rfl sc_reached_states.nd rfl rfl (sw_true rfl rfl rfl (by decide +kernel)) (own := [("after", 5)]) (di_seqK K (de_var 3)) (blkOk_by (N := N_reached_states) (sc := (defScope s_reached_states)) (by decide +kernel)) (fun _ _ _ _ _ => (dg_name sc_reached_states.nd)) (fun _ _ _ _ _ => (dts_one (dt_cmp (op_niK K) ops_in (de_var 5) (de_var 1)))) (fun _ _ _ _ _ => (de_var 5)) (by decide))
    (dss_one (ds_set 1 sc_reached_states.nd (de_addK K (de_var 1) (de_var 2)))))))
    (dss_one (ds_ret (de_callB (call_sortedK K) calls_sorted rfl T.z_sorted (by decide +kernel) (da_cons (de_var 1) da_nil))))))⟩) pf_reached_states
theorem ok_Machine_uinitu (T : Txt P K mg) : FnG P w K mg base (L2.CX P w) 2 T.f_Machine_uinitu T.fd_Machine_uinitu ["self", "base", "steps", "boxes"] (liftIX K (GA T.cls fld) 2 C_Machine_uinitu) :=
  FnG.initX 2 (FunB.of T.F_Machine_uinitu) sc_Machine_uinitu len_Machine_uinitu (fun cdv A outer s H E a c E0 Wd W hr hg tW pw xr => ⟨_, (dss_cons (ds_set 4 sc_Machine_uinitu.nd (de_callX K ((ok_reached_states T).wok _) (hr.mono (by decide)) hg T.m_reached_states T.F_reached_states.kp (bd_reached_states T) .nil dfl_nil (da_cons (de_var 2) da_nil)))
    (dss_cons (ds_for pw rfl (di_seqK K (de_var 4)) (dg_name sc_Machine_uinitu.nd) (dss_one (ds_if (dt_cmp (op_neK K hr.units) ops_ne (de_ixK K (de_var 3) (de_var 5)) (de_ixK K (de_var 3) (de_ixK K (de_ixK K (de_var 2) (de_var 5)) de_int))) (dss_one (ds_raise1 1 rfl tW xr rfl (fun q => pk_BadMachine (k := 0) T rfl rfl rfl (hr.mono (by decide)) rfl q) (da_cons (de_var 5) da_nil))) dss_nil)))
    (dss_cons (ds_fld 0 K (fo_base T).wok (pv 0) (de_var 1))
    (dss_cons (ds_fld 0 K (fo_steps T).wok (pv 0) (de_var 2))
    (dss_cons (ds_fld 0 K (fo_boxes T).wok (pv 0) (de_var 3))
    (dss_one (ds_fld 0 K (fo_many T).wok (pv 0) (de_addK K de_int (de_callB (call_maxK K rfl) calls_max rfl T.z_max (by decide +kernel) (da_cons (de_lc (own := [("state", 5)]) rfl sc_Machine_uinitu.nd (di_seqK K (de_var 4)) (blkOk_by (N := N_Machine_uinitu) (sc := (defScope s_Machine_uinitu)) (by decide +kernel)) (fun _ _ _ _ _ => (dg_name sc_Machine_uinitu.nd)) (fun _ _ _ _ _ => dts_nil) (fun _ _ _ _ _ => (de_ixK K (de_var 3) (de_var 5))) (by decide)) da_nil))))))))))⟩) pf_Machine_uinitu
theorem ok_l_leads (T : Txt P K mg) : FnG P w K mg base CX0 2 T.f_l_leads T.fd_l_leads ["_law_deck_here", "_law_radix", "_law_many"] (lift K (GA T.cls fld) C_l_leads) :=
  FnG.data (FunB.of T.F_l_leads) sc_l_leads len_l_leads (fun cdv A outer s H E a c hr hg => ⟨_, (dss_cons (ds_setO 3 sc_l_leads.nd (de_lst da_nil))
    (dss_cons (ds_for PassesOwn.never rfl (di_range1 rfl T.z_range (da_cons (de_var 2) da_nil)) (dg_name sc_l_leads.nd) (dss_one (ds_append 3 (de_callTy (call_tupleK K) calls_tuple rfl T.z_tuple (by decide +kernel) (da_cons (de_lc (own := [("_law_digit", 5)]) rfl sc_l_leads.nd (di_range1 rfl T.z_range (da_cons (de_var 1) da_nil)) (blkOk_by (N := N_l_leads) (sc := (defScope s_l_leads)) (by decide +kernel)) (fun _ _ _ _ _ => (dg_name sc_l_leads.nd)) (fun _ _ _ _ _ => dts_nil) (fun _ _ _ _ _ => (de_callX K (ok_l_draw T) (hr.mono (by decide)) hg T.m_l_draw T.F_l_draw.kp (bd_l_draw T) .nil dfl_nil (da_cons (de_var 0) (da_cons (de_var 2) da_nil)))) (by decide)) da_nil)) (pv 3))))
    (dss_one (ds_ret (de_callTy (call_tupleK K) calls_tuple rfl T.z_tuple (by decide +kernel) (da_cons (de_var 3) da_nil))))))⟩) pf_l_leads
theorem ok_l_round (T : Txt P K mg) : FnG P w K mg base CX0 1 T.f_l_round T.fd_l_round ["_law_leads_here", "_law_at"] (lift K (GA T.cls fld) C_l_round) :=
  FnG.data (FunB.of T.F_l_round) sc_l_round len_l_round (fun cdv A outer s H E a c hr hg => ⟨_, (dss_cons (ds_set 2 sc_l_round.nd (de_var 1))
    (dss_cons (ds_for PassesOwn.never rfl (di_range1 rfl T.z_range (da_cons (de_callB (call_lenK K) calls_len rfl T.z_len (by decide +kernel) (da_cons (de_var 0) da_nil)) da_nil)) (dg_name sc_l_round.nd) (dss_one (ds_set 2 sc_l_round.nd (de_ixK K (de_ixK K (de_var 0) (de_var 2)) de_int))))
    (dss_cons (ds_set 4 sc_l_round.nd (de_var 2))
    (dss_cons (ds_for PassesOwn.never rfl (di_range1 rfl T.z_range (da_cons (de_callB (call_lenK K) calls_len rfl T.z_len (by decide +kernel) (da_cons (de_var 0) da_nil)) da_nil)) (dg_name sc_l_round.nd) (dss_cons (ds_set 2 sc_l_round.nd (de_ixK K (de_ixK K (de_var 0) (de_var 2)) de_int))
    (dss_one (ds_set 4 sc_l_round.nd (de_callB (call_min2 rfl) calls_min2 rfl T.z_min (by decide +kernel) (da_cons (de_var 4) (da_cons (de_var 2) da_nil)))))))
    (dss_one (ds_ret (de_var 4)))))))⟩) pf_l_round
theorem ok_l_reached (T : Txt P K mg) : FnG P w K mg base CX0 1 T.f_l_reached T.fd_l_reached ["_law_leads_here"] (lift K (GA T.cls fld) C_l_reached) :=
  FnG.data (FunB.of T.F_l_reached) sc_l_reached len_l_reached (fun cdv A outer s H E a c hr hg => ⟨_, (dss_cons (ds_par2 1 true 2 true rfl sc_l_reached.nd (de_disp (dp_cons de_int de_bl dp_nil)) (de_lst (da_cons de_int da_nil)))
    (dss_cons (ds_while PassesOwn.never (dt_cmp (op_neK K hr.units) ops_ne (de_var 2) (de_lst da_nil)) (dss_cons (ds_set 3 sc_l_reached.nd (de_popK K 2 (pv 2)))
    (dss_one (ds_for PassesOwn.never rfl (di_seqK K (de_ixK K (de_var 0) (de_var 3))) (dg_name sc_l_reached.nd) (dss_one (ds_if (dt_dni hr.units (de_var 4) (de_var 1)) (dss_cons (ds_dput 1 hr.units de_bl (pv 1) (de_var 4))
    (dss_one (ds_append 2 (de_var 4) (pv 2)))) dss_nil))))))
    (dss_one (ds_ret (de_callB (call_sortedK K) calls_sorted rfl T.z_sorted (by decide +kernel) (da_cons (de_callTy (call_listDK rfl) calls_listD rfl T.z_list (by decide +kernel) (da_cons (de_var 1) da_nil)) da_nil))))))⟩) pf_l_reached
theorem ok_l_boxes (T : Txt P K mg) : FnG P w K mg base CX0 2 T.f_l_boxes T.fd_l_boxes ["_law_deck_here", "_law_leads_here"] (lift K (GA T.cls fld) C_l_boxes) :=
  FnG.data (FunB.of T.F_l_boxes) sc_l_boxes len_l_boxes (fun cdv A outer s H E a c hr hg => ⟨_, (dss_cons (ds_if (dt_cmp (op_eqK K hr.units) ops_eq (de_callX K (ok_l_draw T) (hr.mono (by decide)) hg T.m_l_draw T.F_l_draw.kp (bd_l_draw T) .nil dfl_nil (da_cons (de_var 0) (da_cons de_int da_nil))) de_int) (dss_one (ds_ret (de_callTy (call_tupleK K) calls_tuple rfl T.z_tuple (by decide +kernel) (da_cons (de_lc (own := [("_law_row", 2)]) rfl sc_l_boxes.nd (di_seqK K (de_var 1)) (blkOk_by (N := N_l_boxes) (sc := (defScope s_l_boxes)) (by decide +kernel)) (fun _ _ _ _ _ => (dg_name sc_l_boxes.nd)) (fun _ _ _ _ _ => dts_nil) (fun _ _ _ _ _ => (de_callX K (ok_l_draw T) (hr.mono (by decide)) hg T.m_l_draw T.F_l_draw.kp (bd_l_draw T) .nil dfl_nil (da_cons (de_var 0) (da_cons de_int da_nil)))) (by decide)) da_nil)))) dss_nil)
    (dss_cons (ds_par2 3 false 4 true rfl sc_l_boxes.nd (de_lc (own := [("_law_row", 2)]) rfl sc_l_boxes.nd (di_seqK K (de_var 1)) (blkOk_by (N := N_l_boxes) (sc := (defScope s_l_boxes)) (by decide +kernel)) (fun _ _ _ _ _ => (dg_name sc_l_boxes.nd)) (fun _ _ _ _ _ => dts_nil) (fun _ _ _ _ _ => (de_callX K (ok_l_draw T) (hr.mono (by decide)) hg T.m_l_draw T.F_l_draw.kp (bd_l_draw T) .nil dfl_nil (da_cons (de_var 0) (da_cons de_int da_nil)))) (by decide)) (de_lst da_nil))
    (dss_cons (ds_for PassesOwn.never rfl (di_range1 rfl T.z_range (da_cons (de_callB (call_lenK K) calls_len rfl T.z_len (by decide +kernel) (da_cons (de_var 1) da_nil)) da_nil)) (dg_name sc_l_boxes.nd) (dss_one (ds_append 4 (de_ixK K (de_var 3) (de_callX K (ok_l_round T) (hr.mono (by decide)) hg T.m_l_round T.F_l_round.kp (bd_l_round T) .nil dfl_nil (da_cons (de_var 1) (da_cons (de_var 5) da_nil)))) (pv 4))))
    (dss_cons (ds_for PassesOwn.never rfl (di_range1 rfl T.z_range (da_cons (de_callX K (ok_l_draw T) (hr.mono (by decide)) hg T.m_l_draw T.F_l_draw.kp (bd_l_draw T) .nil dfl_nil (da_cons (de_var 0) (da_cons de_int da_nil))) da_nil)) (dg_name sc_l_boxes.nd) (dss_cons (ds_set 5 sc_l_boxes.nd (de_callX K (ok_l_draw T) (hr.mono (by decide)) hg T.m_l_draw T.F_l_draw.kp (bd_l_draw T) .nil dfl_nil (da_cons (de_var 0) (da_cons (de_callB (call_lenK K) calls_len rfl T.z_len (by decide +kernel) (da_cons (de_var 1) da_nil)) da_nil))))
    (dss_one (ds_setIx 4 (de_callX K (ok_l_draw T) (hr.mono (by decide)) hg T.m_l_draw T.F_l_draw.kp (bd_l_draw T) .nil dfl_nil (da_cons (de_var 0) (da_cons de_int da_nil))) (pv 4) (de_var 5)))))
    (dss_one (ds_ret (de_callTy (call_tupleK K) calls_tuple rfl T.z_tuple (by decide +kernel) (da_cons (de_var 4) da_nil))))))))⟩) pf_l_boxes
theorem ok_l_due (T : Txt P K mg) : FnG P w K mg base CX0 2 T.f_l_due T.fd_l_due ["_law_leads_here", "_law_lots"] (lift K (GA T.cls fld) C_l_due) :=
  FnG.data (FunB.of T.F_l_due) sc_l_due len_l_due (fun cdv A outer s H E a c hr hg => ⟨_, (dss_cons (ds_for PassesOwn.never rfl (di_seqK K (de_callX K (ok_l_reached T) (hr.mono (by decide)) hg T.m_l_reached T.F_l_reached.kp (bd_l_reached T) .nil dfl_nil (da_cons (de_var 0) da_nil))) (dg_name sc_l_due.nd) (dss_one (ds_if (dt_cmp (op_neK K hr.units) ops_ne (de_ixK K (de_var 1) (de_var 2)) (de_ixK K (de_var 1) (de_ixK K (de_ixK K (de_var 0) (de_var 2)) de_int))) (dss_one (ds_ret (de_var 2))) dss_nil)))
    (dss_one (ds_ret de_non)))⟩) pf_l_due
theorem ok_l_heard (T : Txt P K mg) : FnG P w K mg base CX0 4 T.f_l_heard T.fd_l_heard ["_law_radix", "_law_leads_here", "_law_lots"] (lift K (GA T.cls fld) C_l_heard) :=
  FnG.data (FunB.of T.F_l_heard) sc_l_heard len_l_heard (fun cdv A outer s H E a c hr hg => ⟨_, (dss_cons (ds_set 3 sc_l_heard.nd de_non)
    (dss_cons (ds_tryAs 4 [1] (fun t => decide (t ∈ ([1] : List Nat))) sc_l_heard.nd ⟨rfl, by decide, .inl T.mC_BoxError⟩ takes_no xr_no (List.forall_mem_cons.mpr ⟨em_BadMachine_BoxError T, (fun _ h => nomatch h)⟩) (fun E1 Wd W pn xe tW pw xr => (dss_one (ds_expr (de_xmakeW K 2 tW xr T.mk_Machine (ok_Machine_uinitu T) (hr.mono (by decide)) hg T.mC_Machine (kb_Machine_uinitu_0 T) .nil dfl_nil (da_cons (de_var 0) (da_cons (de_var 1) (da_cons (de_var 2) da_nil))) dk_nil)))) (fun p oe cls d pn hz hv => (dss_one (ds_set 3 sc_l_heard.nd (de_lst (da_cons (de_and (de_callB (call_xis T.xi_BadMachine (ki_BadMachine_BadMachine T) hz hv) (calls_xis 1 1 true) (by rfl) T.z_isinstance (by decide +kernel) (da_cons (de_var 4) (da_cons (de_cls 1 T.mC_BadMachine) da_nil))) (de_one (de_xf K 1 0 T.xf_BadMachine T.no_BadMachine hz hv (de_var 4)))) da_nil))))))
    (dss_one (ds_ret (de_var 3)))))⟩) pf_l_heard
theorem ok_law (T : Txt P K mg) : FnG P w K mg base CX0 5 T.f_law T.fd_law ["_law_script"] (spLaw K) := by
  refine FnG.of (FunB.of T.F_law) sc_law (fun vs H Q E ⟨a, ns, e, _⟩ => by rw [e]; rfl) fun cdv A outer s H vs Q E hr hg h => ?_
  obtain ⟨t, D⟩ : ∃ t, ∀ a c, DSs (cxOf CX0 P w K mg base N_law "law" (defScope s_law) T.f_law cdv A outer s H E).nox (GA T.cls fld a c) ((defBody s_law).drop 1) t w_law :=
    ⟨_, fun a c => (dss_cons (ds_for PassesOwn.never rfl (di_range1 rfl T.z_range (da_cons de_int da_nil)) (dg_name sc_law.nd) (dss_cons (ds_set 3 sc_law.nd (de_addK K de_int (de_callX K (ok_l_draw T) (hr.mono (by decide)) hg T.m_l_draw T.F_l_draw.kp (bd_l_draw T) .nil dfl_nil (da_cons (de_var 1) (da_cons de_int da_nil)))))
    (dss_cons (ds_set 4 sc_law.nd (de_callX K (ok_l_leads T) (hr.mono (by decide)) hg T.m_l_leads T.F_l_leads.kp (bd_l_leads T) .nil dfl_nil (da_cons (de_var 1) (da_cons (de_var 3) (da_cons (de_addK K de_int (de_callX K (ok_l_draw T) (hr.mono (by decide)) hg T.m_l_draw T.F_l_draw.kp (bd_l_draw T) .nil dfl_nil (da_cons (de_var 1) (da_cons de_int da_nil)))) da_nil)))))
    (dss_cons (ds_set 5 sc_law.nd (de_callX K (ok_l_boxes T) (hr.mono (by decide)) hg T.m_l_boxes T.F_l_boxes.kp (bd_l_boxes T) .nil dfl_nil (da_cons (de_var 1) (da_cons (de_var 4) da_nil))))
    (dss_cons (ds_set 6 sc_law.nd (de_callX K (ok_l_due T) (hr.mono (by decide)) hg T.m_l_due T.F_l_due.kp (bd_l_due T) .nil dfl_nil (da_cons (de_var 4) (da_cons (de_var 5) da_nil))))
    (dss_one (ds_if (dt_cmp (op_neK K hr.units) ops_ne (de_callB (call_reprK K hg hr.units) calls_repr rfl T.z_repr (by decide +kernel) (da_cons (de_callX K (ok_l_heard T) (hr.mono (by decide)) hg T.m_l_heard T.F_l_heard.kp (bd_l_heard T) .nil dfl_nil (da_cons (de_var 3) (da_cons (de_var 4) (da_cons (de_var 5) da_nil)))) da_nil)) (de_callB (call_reprK K hg hr.units) calls_repr rfl T.z_repr (by decide +kernel) (da_cons (de_if (dt_cmp op_isN ops_isN (de_var 6) de_non) de_non (de_lst (da_cons (de_var 6) da_nil))) da_nil))) (dss_one (ds_ret de_bl)) dss_nil)))))))
    (dss_cons (ds_set 5 sc_law.nd (de_callTy (call_tupleK K) calls_tuple rfl T.z_tuple (by decide +kernel) (da_cons (de_lst (da_cons de_int (da_cons (de_addK K de_int (de_callX K (ok_l_draw T) (hr.mono (by decide)) hg T.m_l_draw T.F_l_draw.kp (bd_l_draw T) .nil dfl_nil (da_cons (de_var 1) (da_cons de_int da_nil)))) da_nil))) da_nil)))
    (dss_cons (ds_if (dt_cmp (op_neK K hr.units) ops_ne (de_callB (call_reprK K hg hr.units) calls_repr rfl T.z_repr (by decide +kernel) (da_cons (de_callX K (ok_l_heard T) (hr.mono (by decide)) hg T.m_l_heard T.F_l_heard.kp (bd_l_heard T) .nil dfl_nil (da_cons de_int (da_cons (de_tup (da_cons (de_tup (da_cons de_int (da_cons de_int da_nil))) (da_cons (de_tup (da_cons de_int (da_cons de_int da_nil))) da_nil))) (da_cons (de_var 5) da_nil)))) da_nil)) de_str) (dss_one (ds_ret de_bl)) dss_nil)
    (dss_one (ds_ret (de_cmp (op_eqK K hr.units) ops_eq (de_callB (call_reprK K hg hr.units) calls_repr rfl T.z_repr (by decide +kernel) (da_cons (de_callX K (ok_l_heard T) (hr.mono (by decide)) hg T.m_l_heard T.F_l_heard.kp (bd_l_heard T) .nil dfl_nil (da_cons de_int (da_cons (de_tup (da_cons (de_tup (da_cons de_int (da_cons de_int da_nil))) (da_cons (de_tup (da_cons de_int (da_cons de_int da_nil))) da_nil))) (da_cons (de_var 5) da_nil)))) da_nil)) de_str))))))⟩
  have D1 : PSs (cxOf CX0 P w K mg base N_law "law" (defScope s_law) T.f_law cdv A outer s H E).nox (defBody s_law) (tSeq (tAsg (tCall (spDeckA K) [] E0 (tCons (tVar 0) tNil)) (gName 1)) t) :=
    pss_cons (ps_set (i := 1) sc_law.nd rfl (by first | exact .inl rfl | exact .inr rfl) (pg_call (ok_l_deck T) (hr.mono (by decide)) hg rfl T.m_l_deck T.F_l_deck.kp (bd_l_deck T) .nil pass0 (pa_cons (pv 0) pa_nil))) (D 0 0).ps
  exact ⟨_, D1.nox, rd_lawA (by decide) (fun p c => (D p c).sim) pf_law h⟩
end
theorem all_mk {l : PySem.W.OpenLaw} {w : World} {K : PySem.W.Frag} {h : Heap} {mg : Str → Option Value} {fa : Addr} (X : K.In h) (G : h.Ns mainGlobals mg) (hfa : mg "law" = some (.ref fa))
    {C0 : Addr}
    (nc0 : PySem.W.nsIn K mainGlobals "BoxError" = some (some (.ref C0)))
    (eh0 : PySem.W.hasDictIn K C0 = true)
    (et0 : PySem.W.typeIn K (.ref C0) = some (.type "type"))
    (eb0 : PySem.W.subIn K (.ref C0) (.type "BaseException") = some true)
    {C1 : Addr}
    (nc1 : PySem.W.nsIn K mainGlobals "BadMachine" = some (some (.ref C1)))
    (eh1 : PySem.W.hasDictIn K C1 = true)
    (et1 : PySem.W.typeIn K (.ref C1) = some (.type "type"))
    (eb1 : PySem.W.subIn K (.ref C1) (.type "BaseException") = some true)
    {I1 : Addr} {xoc1 : Value} {xod1 : Option Addr} {xk1 xd1 xp1 : Value} {xan1 : Option Addr} {xc1 : Addr} {xct1 : Value} {xcc1 : Addr} {xsl1 : Array (Option Value)} {x11 : Value} {x21 : Option Addr} {xvs1 : Array Value} {x31 : Array (Option Value)} {xf1 : Str} {xt1 : Tok} {x41 : Value} {x51 : Option Addr} {x61 : Array (Option Value)}
    (ei1 : PySem.W.findIn K (.ref C1) "__init__" = some (some (.ref I1)))
    (ej1 : PySem.W.typeIn K (.ref I1) = some (.type "function"))
    (em1 : PySem.W.excInitIn K C1 exB "Exception.__new__" = true)
    (eo1 : PySem.W.excOver K C1 exB = true)
    (es1 : PySem.W.findIn K (.ref C1) "__setattr__" = some (some (.builtin "object.__setattr__")))
    (ee1 : PySem.W.subIn K (.ref C1) (.type "Exception") = some true)
    (ek1 : PySem.W.keepIn K (.ref C1) = true)
    (eu1 : PySem.W.ks_superIn K C1 C1 "__init__" = some (some (.builtin "Exception.__init__")))
    (ew1 : PySem.W.mroIn K C1 (.ref C1) = some true)
    (eth1 : PySem.W.nsIn K cStatics "thirdparty.any" = some none)
    (el1 : K.lookup I1 = some ⟨xoc1, xod1, .func (PySem.W.ksFn "__init__" "BadMachine.__init__" (defArgs s_BadMachine_uinitu) (defBody s_BadMachine_uinitu) (defScope s_BadMachine_uinitu) .none xk1 xd1 xp1 xan1 (.ref xc1) xct1 xcc1), xsl1⟩)
    (ec1 : PySem.W.codeIn K (.ref xc1) "BadMachine.__init__" = true)
    (ed1 : K.lookup xc1 = some ⟨x11, x21, .fields xvs1, x31⟩)
    (ev1 : xvs1[2]? = some (.str xf1 xt1))
    (ef1 : ((l.prog.main.file : Str) == xf1) = true)
    (eg1 : K.lookup xcc1 = some ⟨x41, x51, .cell (some (.ref C1)), x61⟩)
    (ett1 : (l.prog.main.scope.names.lookup ("super" : Str)).isSome = false)
    (etk1 : PySem.W.takerIn K C1 "state" = some none)
    (ega1 : PySem.W.findIn K (.ref C1) "__getattribute__" = some (some (.builtin "BaseException.__getattribute__")))
    (egg1 : PySem.W.findIn K (.ref C1) "__getattr__" = some none)
    (eno1 : PySem.W.findIn K (.ref C1) "state" = some none)
    (eac1 : PySem.W.findIn K (.ref C1) "__class__" = some (some (.builtin "object.__class__")))
    (esp1 : PySem.W.specialIn K (.builtin "object.__class__") "__get__" = some (some (.builtin "getset_descriptor.__get__")))
    (eta1 : PySem.W.takesIn K (.builtin "object.__class__") = some true)
    (emo1 : PySem.W.mroIn K C1 (.type "object") = some true)
    (sb1_1 : PySem.W.subIn K (.ref C1) (.ref C1) = some true)
    (sb1_0 : PySem.W.subIn K (.ref C1) (.ref C0) = some true)
    {C2 : Addr}
    (nc2 : PySem.W.nsIn K mainGlobals "Machine" = some (some (.ref C2))) (pa2 : PySem.W.plainGet K C2 Str.empty = true) (pb2 : PySem.W.hasDictIn K C2 = true) (pc2 : PySem.W.plainOver K C2 = true) (pd2 : PySem.W.findIn K (.ref C2) "__setattr__" = some (some (.builtin "object.__setattr__"))) (pe2 : PySem.W.makesIn K C2 = true) (pk2 : PySem.W.keepIn K (.ref C2) = true)
    (na2_0 : PySem.W.findIn K (.ref C2) "base" = some none)
    (na2_1 : PySem.W.findIn K (.ref C2) "steps" = some none)
    (na2_2 : PySem.W.findIn K (.ref C2) "boxes" = some none)
    (na2_3 : PySem.W.findIn K (.ref C2) "many" = some none)
    {f0 : Addr} {od0 an0 : Option Addr} {sl0 : Array (Option Value)} {oc0 dc0 pm0 cd0 ct0 : Value} {kV0 : Value}
    (a0 : PySem.W.nsIn K mainGlobals "reached_states" = some (some (.ref f0)))
    (l0 : K.lookup f0 = some ⟨oc0, od0, .func (PySem.W.fnOf "reached_states" "reached_states" (defArgs s_reached_states) (defBody s_reached_states) (defScope s_reached_states) .none kV0 dc0 pm0 an0 cd0 ct0), sl0⟩) (c0 : PySem.W.codeIn K cd0 "reached_states" = true) (k0 : PySem.W.keepIn K (.ref f0) = true)
    {f1 : Addr} {od1 an1 : Option Addr} {sl1 : Array (Option Value)} {oc1 dc1 pm1 cd1 ct1 : Value} {kV1 : Value}
    (a1 : PySem.W.findIn K (.ref C2) "__init__" = some (some (.ref f1))) (i1 : PySem.W.isFn K (.ref f1) = true)
    (l1 : K.lookup f1 = some ⟨oc1, od1, .func (PySem.W.fnOf "__init__" "Machine.__init__" (defArgs s_Machine_uinitu) (defBody s_Machine_uinitu) (defScope s_Machine_uinitu) .none kV1 dc1 pm1 an1 cd1 ct1), sl1⟩) (c1 : PySem.W.codeIn K cd1 "Machine.__init__" = true) (k1 : PySem.W.keepIn K (.ref f1) = true)
    {f2 : Addr} {od2 an2 : Option Addr} {sl2 : Array (Option Value)} {oc2 dc2 pm2 cd2 ct2 : Value} {kV2 : Value}
    (a2 : PySem.W.nsIn K mainGlobals "_law_deck" = some (some (.ref f2)))
    (l2 : K.lookup f2 = some ⟨oc2, od2, .func (PySem.W.fnOf "_law_deck" "_law_deck" (defArgs s_l_deck) (defBody s_l_deck) (defScope s_l_deck) .none kV2 dc2 pm2 an2 cd2 ct2), sl2⟩) (c2 : PySem.W.codeIn K cd2 "_law_deck" = true) (k2 : PySem.W.keepIn K (.ref f2) = true)
    {f3 : Addr} {od3 an3 : Option Addr} {sl3 : Array (Option Value)} {oc3 dc3 pm3 cd3 ct3 : Value} {kV3 : Value}
    (a3 : PySem.W.nsIn K mainGlobals "_law_draw" = some (some (.ref f3)))
    (l3 : K.lookup f3 = some ⟨oc3, od3, .func (PySem.W.fnOf "_law_draw" "_law_draw" (defArgs s_l_draw) (defBody s_l_draw) (defScope s_l_draw) .none kV3 dc3 pm3 an3 cd3 ct3), sl3⟩) (c3 : PySem.W.codeIn K cd3 "_law_draw" = true) (k3 : PySem.W.keepIn K (.ref f3) = true)
    {f4 : Addr} {od4 an4 : Option Addr} {sl4 : Array (Option Value)} {oc4 dc4 pm4 cd4 ct4 : Value} {kV4 : Value}
    (a4 : PySem.W.nsIn K mainGlobals "_law_leads" = some (some (.ref f4)))
    (l4 : K.lookup f4 = some ⟨oc4, od4, .func (PySem.W.fnOf "_law_leads" "_law_leads" (defArgs s_l_leads) (defBody s_l_leads) (defScope s_l_leads) .none kV4 dc4 pm4 an4 cd4 ct4), sl4⟩) (c4 : PySem.W.codeIn K cd4 "_law_leads" = true) (k4 : PySem.W.keepIn K (.ref f4) = true)
    {f5 : Addr} {od5 an5 : Option Addr} {sl5 : Array (Option Value)} {oc5 dc5 pm5 cd5 ct5 : Value} {kV5 : Value}
    (a5 : PySem.W.nsIn K mainGlobals "_law_round" = some (some (.ref f5)))
    (l5 : K.lookup f5 = some ⟨oc5, od5, .func (PySem.W.fnOf "_law_round" "_law_round" (defArgs s_l_round) (defBody s_l_round) (defScope s_l_round) .none kV5 dc5 pm5 an5 cd5 ct5), sl5⟩) (c5 : PySem.W.codeIn K cd5 "_law_round" = true) (k5 : PySem.W.keepIn K (.ref f5) = true)
    {f6 : Addr} {od6 an6 : Option Addr} {sl6 : Array (Option Value)} {oc6 dc6 pm6 cd6 ct6 : Value} {kV6 : Value}
    (a6 : PySem.W.nsIn K mainGlobals "_law_reached" = some (some (.ref f6)))
    (l6 : K.lookup f6 = some ⟨oc6, od6, .func (PySem.W.fnOf "_law_reached" "_law_reached" (defArgs s_l_reached) (defBody s_l_reached) (defScope s_l_reached) .none kV6 dc6 pm6 an6 cd6 ct6), sl6⟩) (c6 : PySem.W.codeIn K cd6 "_law_reached" = true) (k6 : PySem.W.keepIn K (.ref f6) = true)
    {f7 : Addr} {od7 an7 : Option Addr} {sl7 : Array (Option Value)} {oc7 dc7 pm7 cd7 ct7 : Value} {kV7 : Value}
    (a7 : PySem.W.nsIn K mainGlobals "_law_boxes" = some (some (.ref f7)))
    (l7 : K.lookup f7 = some ⟨oc7, od7, .func (PySem.W.fnOf "_law_boxes" "_law_boxes" (defArgs s_l_boxes) (defBody s_l_boxes) (defScope s_l_boxes) .none kV7 dc7 pm7 an7 cd7 ct7), sl7⟩) (c7 : PySem.W.codeIn K cd7 "_law_boxes" = true) (k7 : PySem.W.keepIn K (.ref f7) = true)
    {f8 : Addr} {od8 an8 : Option Addr} {sl8 : Array (Option Value)} {oc8 dc8 pm8 cd8 ct8 : Value} {kV8 : Value}
    (a8 : PySem.W.nsIn K mainGlobals "_law_due" = some (some (.ref f8)))
    (l8 : K.lookup f8 = some ⟨oc8, od8, .func (PySem.W.fnOf "_law_due" "_law_due" (defArgs s_l_due) (defBody s_l_due) (defScope s_l_due) .none kV8 dc8 pm8 an8 cd8 ct8), sl8⟩) (c8 : PySem.W.codeIn K cd8 "_law_due" = true) (k8 : PySem.W.keepIn K (.ref f8) = true)
    {f9 : Addr} {od9 an9 : Option Addr} {sl9 : Array (Option Value)} {oc9 dc9 pm9 cd9 ct9 : Value} {kV9 : Value}
    (a9 : PySem.W.nsIn K mainGlobals "_law_heard" = some (some (.ref f9)))
    (l9 : K.lookup f9 = some ⟨oc9, od9, .func (PySem.W.fnOf "_law_heard" "_law_heard" (defArgs s_l_heard) (defBody s_l_heard) (defScope s_l_heard) .none kV9 dc9 pm9 an9 cd9 ct9), sl9⟩) (c9 : PySem.W.codeIn K cd9 "_law_heard" = true) (k9 : PySem.W.keepIn K (.ref f9) = true)
    {f10 : Addr} {od10 an10 : Option Addr} {sl10 : Array (Option Value)} {oc10 dc10 pm10 cd10 ct10 : Value} {kV10 : Value}
    (a10 : PySem.W.nsIn K mainGlobals "law" = some (some (.ref f10)))
    (l10 : K.lookup f10 = some ⟨oc10, od10, .func (PySem.W.fnOf "law" "law" (defArgs s_law) (defBody s_law) (defScope s_law) .none kV10 dc10 pm10 an10 cd10 ct10), sl10⟩) (c10 : PySem.W.codeIn K cd10 "law" = true) (k10 : PySem.W.keepIn K (.ref f10) = true)
    (z_int : PySem.W.nsIn K mainGlobals "int" = some none)
    (z_isinstance : PySem.W.nsIn K mainGlobals "isinstance" = some none)
    (z_len : PySem.W.nsIn K mainGlobals "len" = some none)
    (z_list : PySem.W.nsIn K mainGlobals "list" = some none)
    (z_max : PySem.W.nsIn K mainGlobals "max" = some none)
    (z_min : PySem.W.nsIn K mainGlobals "min" = some none)
    (z_range : PySem.W.nsIn K mainGlobals "range" = some none)
    (z_repr : PySem.W.nsIn K mainGlobals "repr" = some none)
    (z_sorted : PySem.W.nsIn K mainGlobals "sorted" = some none)
    (z_super : PySem.W.nsIn K mainGlobals "super" = some none)
    (z_tuple : PySem.W.nsIn K mainGlobals "tuple" = some none)
    : ∃ fd : FuncData, (∀ (s : Shared) (v : Value), BindsTo s fd ⟨[v], []⟩ [("_law_script", v)]) ∧ ∀ base : Heap, K.In base → base.Ns mainGlobals mg → FnG l.prog w K mg base CX0 5 fa fd ["_law_script"] (spLaw K) := by
  have e := hfa.symm.trans (PySem.W.mg_of X G a10)
  cases e
  let T : Txt l.prog K mg := { C_BoxError := C0, mC_BoxError := PySem.W.mg_of X G nc0, eh_BoxError := eh0, et_BoxError := et0, eb_BoxError := eb0, C_BadMachine := C1, mC_BadMachine := PySem.W.mg_of X G nc1, eh_BadMachine := eh1, et_BadMachine := et1, eb_BadMachine := eb1, fi_BadMachine := I1, tk_BadMachine := etk1, su_BadMachine := ⟨ei1, ej1, em1, eo1, eh1, es1, eb1, ee1, et1, ek1, eu1, ew1, eth1, ⟨_, _, _, _, _, _, _, _, _, _, _, _, _, _, _, _, _, _, _, _, _, _, el1, ec1, ed1, ev1, ef1, eg1, fun s us hl => match us, hl with | [_, _], _ => .of_eq rfl⟩, ett1⟩, xf_BadMachine := ⟨ega1, egg1, eb1, eh1⟩, no_BadMachine := eno1, xi_BadMachine := ⟨eh1, ega1, egg1, eb1, eac1, esp1, eta1, emo1⟩, sb_BadMachine_BadMachine := sb1_1, sb_BadMachine_BoxError := sb1_0, C_Machine := C2, mC_Machine := PySem.W.mg_of X G nc2, cl_Machine := ⟨pa2, pb2, pc2, pd2⟩, mk_Machine := ⟨pe2, a1, i1, pk2⟩, na_Machine_base := na2_0, na_Machine_steps := na2_1, na_Machine_boxes := na2_2, na_Machine_many := na2_3, f_reached_states := _, fd_reached_states := _, F_reached_states := fun_mk l0 c0 k0, m_reached_states := PySem.W.mg_of X G a0, f_Machine_uinitu := _, fd_Machine_uinitu := _, F_Machine_uinitu := fun_mk l1 c1 k1, f_l_deck := _, fd_l_deck := _, F_l_deck := fun_mk l2 c2 k2, m_l_deck := PySem.W.mg_of X G a2, f_l_draw := _, fd_l_draw := _, F_l_draw := fun_mk l3 c3 k3, m_l_draw := PySem.W.mg_of X G a3, f_l_leads := _, fd_l_leads := _, F_l_leads := fun_mk l4 c4 k4, m_l_leads := PySem.W.mg_of X G a4, f_l_round := _, fd_l_round := _, F_l_round := fun_mk l5 c5 k5, m_l_round := PySem.W.mg_of X G a5, f_l_reached := _, fd_l_reached := _, F_l_reached := fun_mk l6 c6 k6, m_l_reached := PySem.W.mg_of X G a6, f_l_boxes := _, fd_l_boxes := _, F_l_boxes := fun_mk l7 c7 k7, m_l_boxes := PySem.W.mg_of X G a7, f_l_due := _, fd_l_due := _, F_l_due := fun_mk l8 c8 k8, m_l_due := PySem.W.mg_of X G a8, f_l_heard := _, fd_l_heard := _, F_l_heard := fun_mk l9 c9 k9, m_l_heard := PySem.W.mg_of X G a9, f_law := _, fd_law := _, F_law := fun_mk l10 c10 k10, m_law := PySem.W.mg_of X G a10, z_int := PySem.W.mg_none_of X G z_int, z_isinstance := PySem.W.mg_none_of X G z_isinstance, z_len := PySem.W.mg_none_of X G z_len, z_list := PySem.W.mg_none_of X G z_list, z_max := PySem.W.mg_none_of X G z_max, z_min := PySem.W.mg_none_of X G z_min, z_range := PySem.W.mg_none_of X G z_range, z_repr := PySem.W.mg_none_of X G z_repr, z_sorted := PySem.W.mg_none_of X G z_sorted, z_super := PySem.W.mg_none_of X G z_super, z_tuple := PySem.W.mg_none_of X G z_tuple }
  exact ⟨T.fd_law, fun s v => .of_eq rfl, fun base _ _ => ok_law T⟩
end Pg
open PySem PySem.W PyProof.Rows
set_option maxRecDepth 100000 in
set_option maxHeartbeats 0 in
theorem PySem.Challenge.cw_whateverboxes_k38_machines_that_are_refu_holds : PySem.Challenge.rw_whateverboxes_k38_machines_that_are_refu.Holds := by
  w_on; o_law; k_head; (case hw => w_witness2)
  k_fill
  refine L3.walk_ofG (l := PySem.Challenge.rw_whateverboxes_k38_machines_that_are_refu) (n := 63) (k := 5) (x := "_law_script") (sp := fun K => L3.spLaw K) rfl (by decide) rfl ⟨rfl, by decide, by decide⟩ (fun w h Y => PySem.W.kIn_of Y) ?F (fun _ _ a ns hl hS => ⟨a, ns, rfl, hS, hl, fun _ => rfl⟩)
  case F =>
    intro w mg fa h KX G hmg
    refine' Pg.all_mk KX G hmg ?nc0 ?eh0 ?et0 ?eb0 ?nc1 ?eh1 ?et1 ?eb1 ?ei1 ?ej1 ?em1 ?eo1 ?es1 ?ee1 ?ek1 ?eu1 ?ew1 ?eth1 ?el1 ?ec1 ?ed1 ?ev1 ?ef1 ?eg1 ?ett1 ?etk1 ?ega1 ?egg1 ?eno1 ?eac1 ?esp1 ?eta1 ?emo1 ?sb1_1 ?sb1_0 ?nc2 ?pa2 ?pb2 ?pc2 ?pd2 ?pe2 ?pk2 ?na2_0 ?na2_1 ?na2_2 ?na2_3 ?a0 ?l0 ?c0 ?k0 ?a1 ?i1 ?l1 ?c1 ?k1 ?a2 ?l2 ?c2 ?k2 ?a3 ?l3 ?c3 ?k3 ?a4 ?l4 ?c4 ?k4 ?a5 ?l5 ?c5 ?k5 ?a6 ?l6 ?c6 ?k6 ?a7 ?l7 ?c7 ?k7 ?a8 ?l8 ?c8 ?k8 ?a9 ?l9 ?c9 ?k9 ?a10 ?l10 ?c10 ?k10 ?z_int ?z_isinstance ?z_len ?z_list ?z_max ?z_min ?z_range ?z_repr ?z_sorted ?z_super ?z_tuple
    (case nc0 => k_is)
    (case eh0 => k_is)
    (case et0 => k_is)
    (case eb0 => k_is)
    (case nc1 => k_is)
    (case eh1 => k_is)
    (case et1 => k_is)
    (case eb1 => k_is)
    (case ei1 => k_is)
    (case ej1 => k_is)
    (case em1 => kx_is)
    (case eo1 => kx_is)
    (case es1 => k_is)
    (case ee1 => k_is)
    (case ek1 => k_is)
    (case eu1 => ks_is)
    (case ew1 => k_is)
    (case eth1 => k_is)
    (case el1 => k_is)
    (case ec1 => k_is)
    (case ed1 => k_is)
    (case ev1 => rfl)
    (case ef1 => (first | rfl | decide +kernel))
    (case eg1 => k_is)
    (case ett1 => (first | rfl | decide +kernel))
    (case etk1 => k_is)
    (case ega1 => k_is)
    (case egg1 => k_is)
    (case eno1 => k_is)
    (case eac1 => k_is)
    (case esp1 => k_is)
    (case eta1 => k_is)
    (case emo1 => k_is)
    (case sb1_1 => k_is)
    (case sb1_0 => k_is)
    (case nc2 => k_is)
    (case pa2 => k_is)
    (case pb2 => k_is)
    (case pc2 => k_is)
    (case pd2 => k_is)
    (case pe2 => k_is)
    (case pk2 => k_is)
    (case na2_0 => k_is)
    (case na2_1 => k_is)
    (case na2_2 => k_is)
    (case na2_3 => k_is)
    (case a0 => k_is)
    (case l0 => k_is)
    (case c0 => k_is)
    (case k0 => k_is)
    (case a1 => k_is)
    (case i1 => k_is)
    (case l1 => k_is)
    (case c1 => k_is)
    (case k1 => k_is)
    (case a2 => k_is)
    (case l2 => k_is)
    (case c2 => k_is)
    (case k2 => k_is)
    (case a3 => k_is)
    (case l3 => k_is)
    (case c3 => k_is)
    (case k3 => k_is)
    (case a4 => k_is)
    (case l4 => k_is)
    (case c4 => k_is)
    (case k4 => k_is)
    (case a5 => k_is)
    (case l5 => k_is)
    (case c5 => k_is)
    (case k5 => k_is)
    (case a6 => k_is)
    (case l6 => k_is)
    (case c6 => k_is)
    (case k6 => k_is)
    (case a7 => k_is)
    (case l7 => k_is)
    (case c7 => k_is)
    (case k7 => k_is)
    (case a8 => k_is)
    (case l8 => k_is)
    (case c8 => k_is)
    (case k8 => k_is)
    (case a9 => k_is)
    (case l9 => k_is)
    (case c9 => k_is)
    (case k9 => k_is)
    (case a10 => k_is)
    (case l10 => k_is)
    (case c10 => k_is)
    (case k10 => k_is)
    (case z_int => k_is)
    (case z_isinstance => k_is)
    (case z_len => k_is)
    (case z_list => k_is)
    (case z_max => k_is)
    (case z_min => k_is)
    (case z_range => k_is)
    (case z_repr => k_is)
    (case z_sorted => k_is)
    (case z_super => k_is)
    (case z_tuple => k_is)
#print axioms PySem.Challenge.cw_whateverboxes_k38_machines_that_are_refu_holds
