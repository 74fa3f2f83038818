import PyProof.Rows.All
import Wide.All
import OpenK.AllK
import Wide.FinOn
import HandS.ForMost
import HandS.ForExc
import HandS.Walk
import HandS.TupAny
import HandS.IsInst
import HandS.SortInts
import HandS.Style
import HandS.StrMore
import HandS.StrSplit
import HandS.RaiseMore
import HandS.Flow
import HandS.CallLocal
import HandS.Rev
import HandS.NoneIn
import HandS.ExcInit
import HandS.FStr
import HandS.Defaults
import HandS.ExcField
import HandS.ExcIs
import HandS.TryOnly
import HandS.Text
import HandS.Iter
import HandS.Zip
import HandS.Codes
import HandS.Head0
import HandS.Head1
import HandS.Head2
import HandS.HeadEnd
import HandS.HeadHook1
import HandS.HeadHook2
import HandS.HeadHook4
import KE.IntTextLaws
import PySem.Challenge.RW_bothdays_k25_maps_texts
set_option Elab.async false
set_option linter.all false
set_option maxRecDepth 100000
set_option maxHeartbeats 4000000
/-! DL1: a pure domain of values with a small store, its relation to the abstract heap of the hand layer, and readings made of functions. -/
namespace DL
open PySem PySem.Spec PyProof.Rows L2

/-- plain values; ref: an object of the store, fn: a def of the program -/
inductive D where
  | non
  | bl (b : Bool)
  | int (i : Int)
  | str (s : List Nat)
  | tup (ds : List D)
  | lst (ds : List D)
  | ref (i : Nat)
  | fn (f : Nat)
  | scr (ns : List Int)
  | exn (a dd x : Nat) (fs : List D)
  deriving Inhabited

inductive Ob where
  | lst (ds : List D)
  | ins (c : Nat) (fs : List (Str × D))
  deriving Inhabited

abbrev Sto := List Ob
abbrev Loc := List (Option D)

inductive Re (α : Type) where
  | ok (a : α) (S : Sto)
  | err (x : Nat) (fs : List D) (S : Sto)
  | bad

def Re.bind {α β : Type} (r : Re α) (g : α → Sto → Re β) : Re β := match r with
  | .ok a S => g a S
  | .err x fs S => .err x fs S
  | .bad => .bad
@[simp] theorem bind_ok {α β : Type} {a : α} {S : Sto} {g : α → Sto → Re β} : (Re.ok a S).bind g = g a S := rfl
@[simp] theorem bind_err {α β : Type} {x : Nat} {fs : List D} {S : Sto} {g : α → Sto → Re β} : (Re.err x fs S : Re α).bind g = .err x fs S := rfl
@[simp] theorem bind_bad {α β : Type} {g : α → Sto → Re β} : (Re.bad : Re α).bind g = .bad := rfl

abbrev M (α : Type) := Loc → Sto → Re α
def M.bind {α β : Type} (f : M α) (g : α → M β) : M β := fun r S => (f r S).bind fun a S1 => g a r S1
@[simp] theorem mbind_at {α β : Type} {f : M α} {g : α → M β} {r : Loc} {S : Sto} : M.bind f g r S = (f r S).bind fun a S1 => g a r S1 := rfl

/-- the ground: the written part, where the defs stand, where the classes stand, the names of the fields of an error's class -/
structure Gb where
  K : PySem.W.Frag
  fa : Nat → Option Addr
  ca : Nat → Option Addr
  xf : Nat → List Str

/-- tracked addresses (the store's), hidden ones -/
structure Wd where
  t : List Addr
  b : List Addr

def KT (K : PySem.W.Frag) (a : Addr) (xs : List V) : Prop :=
  ∃ (o : Obj) (its : Array Value) (n : Nat), K.lookup a = some o ∧ o.cls = .type "tuple" ∧ o.data = .seq its n ∧ its.size ≤ sizeLine ∧ Vals xs its.toList
def KL (K : PySem.W.Frag) (a : Addr) (xs : List V) : Prop :=
  ∃ (o : Obj) (its : Array Value) (n : Nat), K.lookup a = some o ∧ o.cls = .type "list" ∧ o.dict = none ∧ o.data = .seq its n ∧ its.size ≤ sizeLine ∧ Vals xs its.toList
def PT (K : PySem.W.Frag) (W : Wd) (H : Hp) (a : Addr) (vs : List V) : Prop := (a ∉ W.t ∧ a ∉ W.b ∧ Rd H a (.tup vs)) ∨ KT K a vs
def PL (W : Wd) (H : Hp) (a : Addr) (vs : List V) : Prop := a ∉ W.t ∧ a ∉ W.b ∧ H a = some (.lst vs)
def PZ (K : PySem.W.Frag) (W : Wd) (H : Hp) (a : Addr) (vs : List V) : Prop := (a ∉ W.t ∧ a ∉ W.b ∧ Rd H a (.lst vs)) ∨ KL K a vs
theorem PT.sq {K : PySem.W.Frag} {W : Wd} {H : Hp} {a : Addr} {vs : List V} (h : PT K W H a vs) : SqT K H a vs := by
  rcases h with ⟨_, _, h⟩ | h
  · exact .inl h
  · exact .inr h
theorem PL.sq {K : PySem.W.Frag} {W : Wd} {H : Hp} {a : Addr} {vs : List V} (h : PL W H a vs) : SqL K H a vs := SqL.of h.2.2
theorem PZ.sq {K : PySem.W.Frag} {W : Wd} {H : Hp} {a : Addr} {vs : List V} (h : PZ K W H a vs) : SqL K H a vs := by
  rcases h with ⟨_, _, h⟩ | h
  · exact .inl h
  · exact .inr h

mutual
def Rp (G : Gb) (W : Wd) (H : Hp) : D → V → Prop
  | .non, v => v = .non
  | .bl b, v => v = .bl b
  | .int i, v => v = .int i
  | .str s, v => v = .str ⟨s.toArray⟩
  | .tup ds, v => ∃ a vs, v = .ref a ∧ PT G.K W H a vs ∧ Rps G W H ds vs
  | .lst ds, v => ∃ a vs, v = .ref a ∧ PL W H a vs ∧ Rps G W H ds vs
  | .ref i, v => ∃ a, v = .ref a ∧ W.t[i]? = some a
  | .fn f, v => ∃ a, v = .ref a ∧ G.fa f = some a
  | .scr ns, v => ∃ a, v = .ref a ∧ PZ G.K W H a (ns.map V.int)
  | .exn a dd x fs, v => v = .ref a ∧ dd ∉ W.t ∧ dd ∉ W.b ∧ ∃ fv : List (Str × V), H dd = some (.xd fv) ∧ fv.map (·.1) = G.xf x ∧ Rps G W H fs (fv.map (·.2))
def Rps (G : Gb) (W : Wd) (H : Hp) : List D → List V → Prop
  | [], vs => vs = []
  | d :: ds, vs => ∃ v r, vs = v :: r ∧ Rp G W H d v ∧ Rps G W H ds r
end

/-- the step from one world to a later one -/
structure Ext (W : Wd) (H : Hp) (W' : Wd) (H' : Hp) : Prop where
  b : ∃ l, W'.b = l ++ W.b ∧ ∀ a ∈ l, H a = none
  t : ∃ l, W'.t = W.t ++ l ∧ ∀ a ∈ l, H a = none
  k : ∀ a o, a ∉ W.t → H a = some o → H' a = some o
  lv : ∀ a o, H a = some o → ∃ o', H' a = some o'
theorem Ext.refl (W : Wd) (H : Hp) : Ext W H W H := ⟨⟨[], by simp, by simp⟩, ⟨[], by simp, by simp⟩, fun _ _ _ h => h, fun _ o h => ⟨o, h⟩⟩
theorem Ext.back {W W1 : Wd} {H H1 : Hp} (a : Ext W H W1 H1) {x : Addr} (q : H1 x = none) : H x = none := by
  cases e3 : H x with
  | none => rfl
  | some o =>
    obtain ⟨o', q'⟩ := a.lv x o e3
    rw [q] at q'
    cases q'
theorem Ext.trans {W W1 W2 : Wd} {H H1 H2 : Hp} (a : Ext W H W1 H1) (b : Ext W1 H1 W2 H2) : Ext W H W2 H2 := by
  obtain ⟨l, e, n⟩ := a.t
  obtain ⟨l2, e2, n2⟩ := b.t
  obtain ⟨m, f, g⟩ := a.b
  obtain ⟨m2, f2, g2⟩ := b.b
  refine ⟨⟨m2 ++ m, by rw [f2, f, List.append_assoc], fun x hx => ?_⟩, ⟨l ++ l2, by rw [e2, e, List.append_assoc], fun x hx => ?_⟩, fun x o hx h => ?_, fun x o h => ?_⟩
  · rcases List.mem_append.mp hx with hx | hx
    · exact a.back (g2 x hx)
    · exact g x hx
  · rcases List.mem_append.mp hx with hx | hx
    · exact n x hx
    · exact a.back (n2 x hx)
  · refine b.k x o (fun hm => ?_) (a.k x o hx h)
    rw [e] at hm
    rcases List.mem_append.mp hm with hm | hm
    · exact hx hm
    · rw [n x hm] at h
      cases h
  · obtain ⟨o', h'⟩ := a.lv x o h
    exact b.lv x o' h'
theorem Ext.new {W : Wd} {H : Hp} {p : Addr} {o : HO} (h : H p = none) : Ext W H W (upd H p o) := by
  refine ⟨⟨[], by simp, by simp⟩, ⟨[], by simp, by simp⟩, fun x u _ e => ?_, fun x u e => ⟨u, ?_⟩⟩ <;>
  · rw [upd_ne (ne_of_none e h)]
    exact e
theorem Ext.push {W : Wd} {H : Hp} {p : Addr} {o : HO} (h : H p = none) : Ext W H ⟨W.t ++ [p], W.b⟩ (upd H p o) := by
  refine ⟨⟨[], by simp, by simp⟩, ⟨[p], rfl, fun a ha => ?_⟩, fun x u _ e => ?_, fun x u e => ⟨u, ?_⟩⟩
  · rw [List.mem_singleton.mp ha]
    exact h
  all_goals
    rw [upd_ne (ne_of_none e h)]
    exact e
theorem Ext.hide {W : Wd} {H : Hp} {p : Addr} {o : HO} (h : H p = none) : Ext W H ⟨W.t, p :: W.b⟩ (upd H p o) := by
  refine ⟨⟨[p], rfl, fun a ha => ?_⟩, ⟨[], by simp, by simp⟩, fun x u _ e => ?_, fun x u e => ⟨u, ?_⟩⟩
  · rw [List.mem_singleton.mp ha]
    exact h
  all_goals
    rw [upd_ne (ne_of_none e h)]
    exact e
theorem Ext.set {W : Wd} {H : Hp} {p : Addr} {o : HO} (h : p ∈ W.t) : Ext W H W (upd H p o) := by
  refine ⟨⟨[], by simp, by simp⟩, ⟨[], by simp, by simp⟩, fun x u hx e => ?_, fun x u e => ?_⟩
  · rw [upd_ne (fun z => hx (by rw [z]; exact h))]
    exact e
  · by_cases z : x = p
    · subst z
      exact ⟨o, upd_same⟩
    · exact ⟨u, by rw [upd_ne z]; exact e⟩
theorem Ext.out {W W' : Wd} {H H' : Hp} {a : Addr} {o : HO} (x : Ext W H W' H') (h1 : a ∉ W.t) (h : H a = some o) : a ∉ W'.t := by
  obtain ⟨l, e, n⟩ := x.t
  rw [e]
  intro hm
  rcases List.mem_append.mp hm with hm | hm
  · exact h1 hm
  · rw [n a hm] at h
    cases h
theorem Ext.outB {W W' : Wd} {H H' : Hp} {a : Addr} {o : HO} (x : Ext W H W' H') (h1 : a ∉ W.b) (h : H a = some o) : a ∉ W'.b := by
  obtain ⟨l, e, n⟩ := x.b
  rw [e]
  intro hm
  rcases List.mem_append.mp hm with hm | hm
  · rw [n a hm] at h
    cases h
  · exact h1 hm

/-- the same where hidden objects may have changed -/
structure ExtW (W : Wd) (H : Hp) (W' : Wd) (H' : Hp) : Prop where
  b : ∃ l, W'.b = l ++ W.b ∧ ∀ a ∈ l, H a = none
  t : ∃ l, W'.t = W.t ++ l ∧ ∀ a ∈ l, H a = none
  k : ∀ a o, a ∉ W.t → a ∉ W.b → H a = some o → H' a = some o
  lv : ∀ a o, H a = some o → ∃ o', H' a = some o'
theorem Ext.w {W W' : Wd} {H H' : Hp} (x : Ext W H W' H') : ExtW W H W' H' := ⟨x.b, x.t, fun a o h _ e => x.k a o h e, x.lv⟩
theorem ExtW.out {W W' : Wd} {H H' : Hp} {a : Addr} {o : HO} (x : ExtW W H W' H') (h1 : a ∉ W.t) (h : H a = some o) : a ∉ W'.t := by
  obtain ⟨l, e, n⟩ := x.t
  rw [e]
  intro hm
  rcases List.mem_append.mp hm with hm | hm
  · exact h1 hm
  · rw [n a hm] at h
    cases h
theorem ExtW.outB {W W' : Wd} {H H' : Hp} {a : Addr} {o : HO} (x : ExtW W H W' H') (h1 : a ∉ W.b) (h : H a = some o) : a ∉ W'.b := by
  obtain ⟨l, e, n⟩ := x.b
  rw [e]
  intro hm
  rcases List.mem_append.mp hm with hm | hm
  · rw [n a hm] at h
    cases h
  · exact h1 hm
theorem ExtW.back {W W1 : Wd} {H H1 : Hp} (a : ExtW W H W1 H1) {x : Addr} (q : H1 x = none) : H x = none := by
  cases e3 : H x with
  | none => rfl
  | some o =>
    obtain ⟨o', q'⟩ := a.lv x o e3
    rw [q] at q'
    cases q'
theorem ExtW.trans {W W1 W2 : Wd} {H H1 H2 : Hp} (a : ExtW W H W1 H1) (b : ExtW W1 H1 W2 H2) : ExtW W H W2 H2 := by
  obtain ⟨l, e, n⟩ := a.t
  obtain ⟨l2, e2, n2⟩ := b.t
  obtain ⟨m, f, g⟩ := a.b
  obtain ⟨m2, f2, g2⟩ := b.b
  refine ⟨⟨m2 ++ m, by rw [f2, f, List.append_assoc], fun x hx => ?_⟩, ⟨l ++ l2, by rw [e2, e, List.append_assoc], fun x hx => ?_⟩, fun x o hx hb h => ?_, fun x o h => ?_⟩
  · rcases List.mem_append.mp hx with hx | hx
    · exact a.back (g2 x hx)
    · exact g x hx
  · rcases List.mem_append.mp hx with hx | hx
    · exact n x hx
    · exact a.back (n2 x hx)
  · exact b.k x o (a.out hx h) (a.outB hb h) (a.k x o hx hb h)
  · obtain ⟨o', h'⟩ := a.lv x o h
    exact b.lv x o' h'
/-- a hidden object changes -/
theorem ExtW.upd {W W' : Wd} {H H' : Hp} {p : Addr} {o : HO} (x : ExtW W H W' H') (h : p ∈ W.b) : ExtW W H W' (upd H' p o) := by
  refine ⟨x.b, x.t, fun a u ha hb e => ?_, fun a u e => ?_⟩
  · rw [upd_ne (fun z => hb (by rw [z]; exact h))]
    exact x.k a u ha hb e
  · by_cases z : a = p
    · rw [z]
      exact ⟨o, upd_same⟩
    · rw [upd_ne z]
      exact x.lv a u e

section
variable {G : Gb} {W W' : Wd} {H H' : Hp}
theorem PT.extw {K : PySem.W.Frag} {a : Addr} {vs : List V} (x : ExtW W H W' H') (h : PT K W H a vs) : PT K W' H' a vs := by
  rcases h with ⟨h1, h2, h3⟩ | h
  · rcases h3 with h3 | ⟨o, h3⟩
    · exact .inl ⟨x.out h1 h3, x.outB h2 h3, .inl (x.k _ _ h1 h2 h3)⟩
    · exact .inl ⟨x.out h1 h3, x.outB h2 h3, .inr ⟨o, x.k _ _ h1 h2 h3⟩⟩
  · exact .inr h
theorem PL.extw {a : Addr} {vs : List V} (x : ExtW W H W' H') (h : PL W H a vs) : PL W' H' a vs := by
  obtain ⟨h1, h2, h3⟩ := h
  exact ⟨x.out h1 h3, x.outB h2 h3, x.k _ _ h1 h2 h3⟩
theorem PZ.extw {K : PySem.W.Frag} {a : Addr} {vs : List V} (x : ExtW W H W' H') (h : PZ K W H a vs) : PZ K W' H' a vs := by
  rcases h with ⟨h1, h2, h3⟩ | h
  · rcases h3 with h3 | ⟨o, h3⟩
    · exact .inl ⟨x.out h1 h3, x.outB h2 h3, .inl (x.k _ _ h1 h2 h3)⟩
    · exact .inl ⟨x.out h1 h3, x.outB h2 h3, .inr ⟨o, x.k _ _ h1 h2 h3⟩⟩
  · exact .inr h
theorem ExtW.at {i : Nat} {a : Addr} (x : ExtW W H W' H') (h : W.t[i]? = some a) : W'.t[i]? = some a := by
  obtain ⟨l, e, _⟩ := x.t
  rw [e, List.getElem?_append_left (List.getElem?_eq_some_iff.mp h).1]
  exact h
mutual
theorem Rp.extw (x : ExtW W H W' H') : ∀ (d : D) (v : V), Rp G W H d v → Rp G W' H' d v
  | .non, _, h => by simpa only [Rp] using h
  | .bl _, _, h => by simpa only [Rp] using h
  | .int _, _, h => by simpa only [Rp] using h
  | .str _, _, h => by simpa only [Rp] using h
  | .tup ds, v, h => by
    simp only [Rp] at h ⊢
    obtain ⟨a, vs, e, p, r⟩ := h
    exact ⟨a, vs, e, p.extw x, Rps.extw x ds vs r⟩
  | .lst ds, v, h => by
    simp only [Rp] at h ⊢
    obtain ⟨a, vs, e, p, r⟩ := h
    exact ⟨a, vs, e, p.extw x, Rps.extw x ds vs r⟩
  | .ref i, v, h => by
    simp only [Rp] at h ⊢
    obtain ⟨a, e, p⟩ := h
    exact ⟨a, e, x.at p⟩
  | .fn _, _, h => by simpa only [Rp] using h
  | .scr ns, v, h => by
    simp only [Rp] at h ⊢
    obtain ⟨a, e, p⟩ := h
    exact ⟨a, e, p.extw x⟩
  | .exn a dd c fs, v, h => by
    simp only [Rp] at h ⊢
    obtain ⟨e, h1, h2, fv, h3, h4, h5⟩ := h
    exact ⟨e, x.out h1 h3, x.outB h2 h3, fv, x.k _ _ h1 h2 h3, h4, Rps.extw x fs _ h5⟩
theorem Rps.extw (x : ExtW W H W' H') : ∀ (ds : List D) (vs : List V), Rps G W H ds vs → Rps G W' H' ds vs
  | [], _, h => by simpa only [Rps] using h
  | d :: ds, vs, h => by
    simp only [Rps] at h ⊢
    obtain ⟨v, r, e, h1, h2⟩ := h
    exact ⟨v, r, e, Rp.extw x d v h1, Rps.extw x ds r h2⟩
end

theorem PT.ext {K : PySem.W.Frag} {a : Addr} {vs : List V} (x : Ext W H W' H') (h : PT K W H a vs) : PT K W' H' a vs := h.extw x.w
theorem PL.ext {a : Addr} {vs : List V} (x : Ext W H W' H') (h : PL W H a vs) : PL W' H' a vs := h.extw x.w
theorem PZ.ext {K : PySem.W.Frag} {a : Addr} {vs : List V} (x : Ext W H W' H') (h : PZ K W H a vs) : PZ K W' H' a vs := h.extw x.w
theorem Ext.at {i : Nat} {a : Addr} (x : Ext W H W' H') (h : W.t[i]? = some a) : W'.t[i]? = some a := x.w.at h
theorem Rp.ext (x : Ext W H W' H') : ∀ (d : D) (v : V), Rp G W H d v → Rp G W' H' d v := Rp.extw x.w
theorem Rps.ext (x : Ext W H W' H') : ∀ (ds : List D) (vs : List V), Rps G W H ds vs → Rps G W' H' ds vs := Rps.extw x.w

/-! ### lists of values -/
theorem Rps.nil_iff {vs : List V} : Rps G W H [] vs ↔ vs = [] := by simp only [Rps]
theorem Rps.cons {d : D} {ds : List D} {v : V} {vs : List V} (h : Rp G W H d v) (t : Rps G W H ds vs) : Rps G W H (d :: ds) (v :: vs) := by
  simp only [Rps]
  exact ⟨v, vs, rfl, h, t⟩
theorem Rps.cons_iff {d : D} {ds : List D} {vs : List V} : Rps G W H (d :: ds) vs ↔ ∃ v r, vs = v :: r ∧ Rp G W H d v ∧ Rps G W H ds r := by simp only [Rps]
theorem Rps.nil : Rps G W H [] [] := by simp only [Rps]
theorem Rps.length : ∀ {ds : List D} {vs : List V}, Rps G W H ds vs → vs.length = ds.length
  | [], _, h => by rw [Rps.nil_iff.mp h]; rfl
  | d :: ds, _, h => by
    obtain ⟨v, r, rfl, _, t⟩ := Rps.cons_iff.mp h
    rw [List.length_cons, List.length_cons, Rps.length t]
theorem Rps.append : ∀ {ds es : List D} {vs us : List V}, Rps G W H ds vs → Rps G W H es us → Rps G W H (ds ++ es) (vs ++ us)
  | [], _, _, _, h, k => by rw [Rps.nil_iff.mp h]; exact k
  | d :: ds, _, _, _, h, k => by
    obtain ⟨v, r, rfl, h1, t⟩ := Rps.cons_iff.mp h
    exact Rps.cons h1 (Rps.append t k)
theorem Rps.one {d : D} {v : V} (h : Rp G W H d v) : Rps G W H [d] [v] := Rps.cons h Rps.nil
theorem Rps.get : ∀ {ds : List D} {vs : List V} {i : Nat} {d : D}, Rps G W H ds vs → ds[i]? = some d → ∃ v, vs[i]? = some v ∧ Rp G W H d v
  | [], _, _, _, _, e => by simp at e
  | c :: ds, _, 0, d, h, e => by
    obtain ⟨v, r, rfl, h1, _⟩ := Rps.cons_iff.mp h
    simp at e
    subst e
    exact ⟨v, by simp, h1⟩
  | c :: ds, _, i + 1, d, h, e => by
    obtain ⟨v, r, rfl, _, t⟩ := Rps.cons_iff.mp h
    obtain ⟨u, h1, h2⟩ := Rps.get (i := i) (d := d) t (by simpa using e)
    exact ⟨u, by simpa using h1, h2⟩
theorem Rps.set {e : D} {u : V} (r : Rp G W H e u) : ∀ {ds : List D} {vs : List V} (i : Nat), Rps G W H ds vs → Rps G W H (ds.set i e) (vs.set i u)
  | [], _, _, h => by rw [Rps.nil_iff.mp h]; exact Rps.nil
  | d :: ds, _, 0, h => by
    obtain ⟨v, q, rfl, _, t⟩ := Rps.cons_iff.mp h
    exact Rps.cons r t
  | d :: ds, _, i + 1, h => by
    obtain ⟨v, q, rfl, h1, t⟩ := Rps.cons_iff.mp h
    exact Rps.cons h1 (Rps.set r i t)
theorem Rps.take : ∀ {ds : List D} {vs : List V} (n : Nat), Rps G W H ds vs → Rps G W H (ds.take n) (vs.take n)
  | [], _, n, h => by rw [Rps.nil_iff.mp h]; simpa using Rps.nil
  | d :: ds, _, 0, h => by simpa using Rps.nil
  | d :: ds, _, n + 1, h => by
    obtain ⟨v, q, rfl, h1, t⟩ := Rps.cons_iff.mp h
    exact Rps.cons h1 (Rps.take n t)
theorem Rps.drop : ∀ {ds : List D} {vs : List V} (n : Nat), Rps G W H ds vs → Rps G W H (ds.drop n) (vs.drop n)
  | [], _, n, h => by rw [Rps.nil_iff.mp h]; simpa using Rps.nil
  | d :: ds, _, 0, h => h
  | d :: ds, _, n + 1, h => by
    obtain ⟨v, q, rfl, h1, t⟩ := Rps.cons_iff.mp h
    exact Rps.drop n t
theorem Rps.reverse : ∀ {ds : List D} {vs : List V}, Rps G W H ds vs → Rps G W H ds.reverse vs.reverse
  | [], _, h => by rw [Rps.nil_iff.mp h]; simpa using Rps.nil
  | d :: ds, _, h => by
    obtain ⟨v, q, rfl, h1, t⟩ := Rps.cons_iff.mp h
    rw [List.reverse_cons, List.reverse_cons]
    exact Rps.append (Rps.reverse t) (Rps.one h1)
end

/-! ### the store -/
def ObR (G : Gb) (W : Wd) (H : Hp) (a : Addr) : Ob → Prop
  | .lst ds => ∃ vs, H a = some (.lst vs) ∧ Rps G W H ds vs
  | .ins c fs => ∃ C dx fv, G.ca c = some C ∧ H a = some (.ins C dx fv) ∧ H dx = some (.own a) ∧ dx ∉ W.t ∧ dx ∉ W.b ∧ fv.map (·.1) = fs.map (·.1) ∧ Rps G W H (fs.map (·.2)) (fv.map (·.2))
structure StoR (G : Gb) (W : Wd) (H : Hp) (S : Sto) : Prop where
  len : W.t.length = S.length
  nd : W.t.Nodup
  ob : ∀ (i : Nat) (a : Addr) (o : Ob), W.t[i]? = some a → S[i]? = some o → ObR G W H a o
  live : ∀ a ∈ W.t, ∃ o, H a = some o
  liveB : ∀ a ∈ W.b, ∃ o, H a = some o
def ErrR (G : Gb) (W : Wd) (H : Hp) (x : Nat) (fs : List D) (c : Value) (dd : Option Addr) : Prop :=
  ∃ C dx fv, G.ca x = some C ∧ c = .ref C ∧ dd = some dx ∧ dx ∉ W.t ∧ dx ∉ W.b ∧ H dx = some (.xd fv) ∧ fv.map (·.1) = G.xf x ∧ Rps G W H fs (fv.map (·.2))
section
variable {G : Gb} {W W' : Wd} {H H' : Hp} {S : Sto}
theorem StoR.fresh (s : StoR G W H S) {p : Addr} (h : H p = none) : p ∉ W.t ∧ p ∉ W.b := by
  constructor
  · intro hm
    obtain ⟨o, e⟩ := s.live p hm
    rw [h] at e
    cases e
  · intro hm
    obtain ⟨o, e⟩ := s.liveB p hm
    rw [h] at e
    cases e
/-- an object that another one's change leaves -/
theorem ObR.keep {a : Addr} {o : Ob} (x : Ext W H W' H') (e : H' a = H a) (h : ObR G W H a o) : ObR G W' H' a o := by
  cases o with
  | lst ds =>
    obtain ⟨vs, h1, h2⟩ := h
    exact ⟨vs, e.trans h1, Rps.ext x _ _ h2⟩
  | ins c fs =>
    obtain ⟨C, dx, fv, h1, h2, h0, h3, h4, h5, h6⟩ := h
    exact ⟨C, dx, fv, h1, e.trans h2, x.k _ _ h3 h0, x.out h3 h0, x.outB h4 h0, h5, Rps.ext x _ _ h6⟩
/-- a new object that is not the store's -/
theorem StoR.new (s : StoR G W H S) {p : Addr} {o : HO} (h : H p = none) : StoR G W (upd H p o) S := by
  have x : Ext W H W (upd H p o) := Ext.new h
  have f := s.fresh h
  refine ⟨s.len, s.nd, fun i a u h1 h2 => (s.ob i a u h1 h2).keep x (upd_ne fun z => f.1 (z ▸ List.mem_of_getElem? h1)), fun a ha => ?_, fun a ha => ?_⟩
  · obtain ⟨u, hu⟩ := s.live a ha
    exact x.lv a u hu
  · obtain ⟨u, hu⟩ := s.liveB a ha
    exact x.lv a u hu
/-- an object of the store is changed -/
theorem StoR.set (s : StoR G W H S) {i : Nat} {a : Addr} {o : HO} {u : Ob} (h : W.t[i]? = some a) (hn : ObR G W (upd H a o) a u) : StoR G W (upd H a o) (S.set i u) := by
  have x : Ext W H W (upd H a o) := Ext.set (List.mem_of_getElem? h)
  refine ⟨by rw [s.len, List.length_set], s.nd, fun j b v h1 h2 => ?_, fun b hb => ?_, fun b hb => ?_⟩
  · by_cases e : j = i
    · subst e
      rw [h] at h1
      cases h1
      have hl : j < S.length := by
        rw [← s.len]
        exact (List.getElem?_eq_some_iff.mp h).1
      rw [List.getElem?_set_self hl] at h2
      cases h2
      exact hn
    · rw [List.getElem?_set_ne (Ne.symm e)] at h2
      refine (s.ob j b v h1 h2).keep x (upd_ne fun z => e ?_)
      subst z
      obtain ⟨l1, e1⟩ := List.getElem?_eq_some_iff.mp h1
      obtain ⟨l2, e2⟩ := List.getElem?_eq_some_iff.mp h
      exact (List.getElem_inj s.nd).mp (e1.trans e2.symm)
  · obtain ⟨v, hv⟩ := s.live b hb
    exact x.lv b v hv
  · obtain ⟨v, hv⟩ := s.liveB b hb
    exact x.lv b v hv
/-- a new object of the store -/
theorem StoR.push (s : StoR G W H S) {p : Addr} {o : HO} {u : Ob} (h : H p = none) (hn : ObR G ⟨W.t ++ [p], W.b⟩ (upd H p o) p u) : StoR G ⟨W.t ++ [p], W.b⟩ (upd H p o) (S ++ [u]) := by
  have x : Ext W H ⟨W.t ++ [p], W.b⟩ (upd H p o) := Ext.push h
  have f := s.fresh h
  refine ⟨by simp [s.len], ?_, fun j b v h1 h2 => ?_, fun b hb => ?_, fun b hb => ?_⟩
  · refine List.nodup_append.mpr ⟨s.nd, by simp, fun a ha b hb => ?_⟩
    rw [List.mem_singleton.mp hb]
    exact fun z => f.1 (z ▸ ha)
  · by_cases e : j < W.t.length
    · have h1' : W.t[j]? = some b := by
        have h1 : (W.t ++ [p])[j]? = some b := h1
        rw [List.getElem?_append_left e] at h1
        exact h1
      rw [List.getElem?_append_left (by rw [← s.len]; exact e)] at h2
      exact (s.ob j b v h1' h2).keep x (upd_ne fun z => f.1 (z ▸ List.mem_of_getElem? h1'))
    · have h1 : (W.t ++ [p])[j]? = some b := h1
      rw [List.getElem?_append_right (by omega)] at h1
      rw [List.getElem?_append_right (by rw [← s.len]; omega)] at h2
      have e2 : j - W.t.length = 0 := by
        cases q : j - W.t.length with
        | zero => rfl
        | succ m => rw [q] at h1; simp at h1
      rw [e2] at h1
      rw [← s.len, e2] at h2
      simp at h1 h2
      subst h1
      subst h2
      exact hn
  · rcases List.mem_append.mp hb with hb | hb
    · obtain ⟨v, hv⟩ := s.live b hb
      exact x.lv b v hv
    · rw [List.mem_singleton.mp hb]
      exact ⟨o, upd_same⟩
  · obtain ⟨v, hv⟩ := s.liveB b hb
    exact x.lv b v hv
end

/-! ### hidden objects -/
section
variable {G : Gb} {W W' : Wd} {H H' : Hp} {S : Sto}
/-- only tracked and hidden objects changed; fewer are hidden, some hidden ones are tracked -/
structure Wk (W : Wd) (H : Hp) (W' : Wd) (H' : Hp) : Prop where
  t : ∃ l, W'.t = W.t ++ l ∧ ∀ a ∈ l, a ∈ W.b
  b : ∀ a ∈ W'.b, a ∈ W.b
  k : ∀ a o, a ∉ W.t → a ∉ W.b → H a = some o → H' a = some o
theorem Wk.out {a : Addr} (x : Wk W H W' H') (h1 : a ∉ W.t) (h2 : a ∉ W.b) : a ∉ W'.t := by
  obtain ⟨l, e, n⟩ := x.t
  rw [e]
  intro hm
  rcases List.mem_append.mp hm with hm | hm
  · exact h1 hm
  · exact h2 (n a hm)
theorem Wk.at {i : Nat} {a : Addr} (x : Wk W H W' H') (h : W.t[i]? = some a) : W'.t[i]? = some a := by
  obtain ⟨l, e, _⟩ := x.t
  rw [e, List.getElem?_append_left (List.getElem?_eq_some_iff.mp h).1]
  exact h
mutual
theorem Rp.wk (x : Wk W H W' H') : ∀ (d : D) (v : V), Rp G W H d v → Rp G W' H' d v
  | .non, _, h => by simpa only [Rp] using h
  | .bl _, _, h => by simpa only [Rp] using h
  | .int _, _, h => by simpa only [Rp] using h
  | .str _, _, h => by simpa only [Rp] using h
  | .tup ds, v, h => by
    simp only [Rp] at h ⊢
    obtain ⟨a, vs, e, p, r⟩ := h
    refine ⟨a, vs, e, ?_, Rps.wk x ds vs r⟩
    rcases p with ⟨h1, h2, h3⟩ | h
    · rcases h3 with h3 | ⟨o, h3⟩
      · exact .inl ⟨x.out h1 h2, fun z => h2 (x.b a z), .inl (x.k _ _ h1 h2 h3)⟩
      · exact .inl ⟨x.out h1 h2, fun z => h2 (x.b a z), .inr ⟨o, x.k _ _ h1 h2 h3⟩⟩
    · exact .inr h
  | .lst ds, v, h => by
    simp only [Rp] at h ⊢
    obtain ⟨a, vs, e, ⟨h1, h2, h3⟩, r⟩ := h
    exact ⟨a, vs, e, ⟨x.out h1 h2, fun z => h2 (x.b a z), x.k _ _ h1 h2 h3⟩, Rps.wk x ds vs r⟩
  | .ref i, v, h => by
    simp only [Rp] at h ⊢
    obtain ⟨a, e, p⟩ := h
    exact ⟨a, e, x.at p⟩
  | .fn _, _, h => by simpa only [Rp] using h
  | .scr ns, v, h => by
    simp only [Rp] at h ⊢
    obtain ⟨a, e, p⟩ := h
    refine ⟨a, e, ?_⟩
    rcases p with ⟨h1, h2, h3⟩ | h
    · rcases h3 with h3 | ⟨o, h3⟩
      · exact .inl ⟨x.out h1 h2, fun z => h2 (x.b a z), .inl (x.k _ _ h1 h2 h3)⟩
      · exact .inl ⟨x.out h1 h2, fun z => h2 (x.b a z), .inr ⟨o, x.k _ _ h1 h2 h3⟩⟩
    · exact .inr h
  | .exn a dd c fs, v, h => by
    simp only [Rp] at h ⊢
    obtain ⟨e, h1, h2, fv, h3, h4, h5⟩ := h
    exact ⟨e, x.out h1 h2, fun z => h2 (x.b _ z), fv, x.k _ _ h1 h2 h3, h4, Rps.wk x fs _ h5⟩
theorem Rps.wk (x : Wk W H W' H') : ∀ (ds : List D) (vs : List V), Rps G W H ds vs → Rps G W' H' ds vs
  | [], _, h => by simpa only [Rps] using h
  | d :: ds, vs, h => by
    simp only [Rps] at h ⊢
    obtain ⟨v, r, e, h1, h2⟩ := h
    exact ⟨v, r, e, Rp.wk x d v h1, Rps.wk x ds r h2⟩
end
theorem ObR.wk {a : Addr} {o : Ob} (x : Wk W H W' H') (em : H' a = H a) (q : ObR G W H a o) : ObR G W' H' a o := by
  cases o with
  | lst ds =>
    obtain ⟨vs, k1, k2⟩ := q
    exact ⟨vs, em.trans k1, Rps.wk x _ _ k2⟩
  | ins c fs =>
    obtain ⟨C, dx, fv, k1, k2, k0, k3, k4, k5, k6⟩ := q
    exact ⟨C, dx, fv, k1, em.trans k2, x.k _ _ k3 k4 k0, x.out k3 k4, fun z => k4 (x.b _ z), k5, Rps.wk x _ _ k6⟩
theorem StoR.wk (x : Wk W H W' H') (ht : W'.t = W.t) (s : StoR G W H S) (e : ∀ a ∈ W.t, H' a = H a) (lb : ∀ a ∈ W'.b, ∃ o, H' a = some o) : StoR G W' H' S := by
  refine ⟨by rw [ht]; exact s.len, by rw [ht]; exact s.nd, fun i a o h1 h2 => ?_, fun a ha => ?_, lb⟩
  · rw [ht] at h1
    exact (s.ob i a o h1 h2).wk x (e a (List.mem_of_getElem? h1))
  · rw [ht] at ha
    obtain ⟨o, ho⟩ := s.live a ha
    exact ⟨o, (e a ha).trans ho⟩
/-- a hidden object is tracked -/
theorem StoR.adopt {p : Addr} {o : Ob} {b : List Addr} (s : StoR G W H S) (hp : p ∈ W.b) (hn : p ∉ W.t) (hb : ∀ a ∈ b, a ∈ W.b) (q : ObR G ⟨W.t ++ [p], b⟩ H p o) : StoR G ⟨W.t ++ [p], b⟩ H (S ++ [o]) := by
  have x : Wk W H ⟨W.t ++ [p], b⟩ H := ⟨⟨[p], rfl, fun a ha => by rw [List.mem_singleton.mp ha]; exact hp⟩, hb, fun _ _ _ _ e => e⟩
  refine ⟨by simp [s.len], ?_, fun j c v h1 h2 => ?_, fun c hc => ?_, fun c hc => s.liveB c (hb c hc)⟩
  · refine List.nodup_append.mpr ⟨s.nd, by simp, fun a ha c hc => ?_⟩
    rw [List.mem_singleton.mp hc]
    exact fun z => hn (z ▸ ha)
  · by_cases e : j < W.t.length
    · have h1' : W.t[j]? = some c := by
        have h1 : (W.t ++ [p])[j]? = some c := h1
        rw [List.getElem?_append_left e] at h1
        exact h1
      rw [List.getElem?_append_left (by rw [← s.len]; exact e)] at h2
      exact (s.ob j c v h1' h2).wk x rfl
    · have h1 : (W.t ++ [p])[j]? = some c := h1
      rw [List.getElem?_append_right (by omega)] at h1
      rw [List.getElem?_append_right (by rw [← s.len]; omega)] at h2
      have e2 : j - W.t.length = 0 := by
        cases q : j - W.t.length with
        | zero => rfl
        | succ m => rw [q] at h1; simp at h1
      rw [e2] at h1
      rw [← s.len, e2] at h2
      simp at h1 h2
      subst h1
      subst h2
      exact q
  · rcases List.mem_append.mp hc with hc | hc
    · exact s.live c hc
    · rw [List.mem_singleton.mp hc]
      exact s.liveB p hp
/-- a hidden object changes -/
theorem Wk.upd {p : Addr} {o : HO} (h : p ∈ W.b) : Wk W H W (upd H p o) := ⟨⟨[], by simp, by simp⟩, fun _ z => z, fun a u _ hb e => by rw [upd_ne (fun z => hb (by rw [z]; exact h))]; exact e⟩
theorem Wk.less {b : List Addr} (h : ∀ a ∈ b, a ∈ W.b) : Wk W H ⟨W.t, b⟩ H := ⟨⟨[], by simp, by simp⟩, h, fun _ _ _ _ e => e⟩
theorem StoR.hide (s : StoR G W H S) {p : Addr} {o : HO} (h : H p = none) : StoR G ⟨W.t, p :: W.b⟩ (upd H p o) S := by
  have x : Ext W H ⟨W.t, p :: W.b⟩ (upd H p o) := Ext.hide h
  have f := s.fresh h
  refine ⟨s.len, s.nd, fun i a u h1 h2 => (s.ob i a u h1 h2).keep x (upd_ne fun z => f.1 (z ▸ List.mem_of_getElem? h1)), fun a ha => ?_, fun a ha => ?_⟩
  · obtain ⟨u, hu⟩ := s.live a ha
    exact x.lv a u hu
  · rcases List.mem_cons.mp ha with e | ha
    · rw [e]
      exact ⟨o, upd_same⟩
    · obtain ⟨u, hu⟩ := s.liveB a ha
      exact x.lv a u hu
end

/-! ### slots -/
structure SlR (G : Gb) (W : Wd) (H : Hp) (r : Loc) (q : L2.St) : Prop where
  len : r.length ≤ q.length
  at_ : ∀ (i : Nat) (d : D), r[i]? = some (some d) → ∃ v, q[i]? = some (some v) ∧ Rp G W H d v
theorem SlR.ext {G : Gb} {W W' : Wd} {H H' : Hp} {r : Loc} {q : L2.St} (x : Ext W H W' H') (h : SlR G W H r q) : SlR G W' H' r q :=
  ⟨h.len, fun i d e => let ⟨v, h1, h2⟩ := h.at_ i d e; ⟨v, h1, Rp.ext x d v h2⟩⟩
theorem SlR.set {G : Gb} {W : Wd} {H : Hp} {r : Loc} {q : L2.St} {d : D} {v : V} (h : SlR G W H r q) (i : Nat) (p : Rp G W H d v) : SlR G W H (r.set i (some d)) (q.set i (some v)) := by
  refine ⟨by simpa using h.len, fun j c e => ?_⟩
  by_cases z : j = i
  · subst z
    by_cases hl : j < r.length
    · rw [List.getElem?_set_self hl] at e
      cases e
      exact ⟨v, by rw [List.getElem?_set_self (Nat.lt_of_lt_of_le hl h.len)], p⟩
    · rw [List.getElem?_eq_none (by simpa using hl)] at e
      cases e
  · rw [List.getElem?_set_ne (Ne.symm z)] at e ⊢
    exact h.at_ j c e
structure Rel (G : Gb) (W : Wd) (r : Loc) (S : Sto) (q : L2.St) (H : Hp) : Prop where
  sl : SlR G W H r q
  st : StoR G W H S

/-! ### readings made of functions -/
abbrev Rep (a b : Type) := Wd → Hp → a → b → Prop
def Mono {a b : Type} (p : Rep a b) : Prop := ∀ (W W' : Wd) (H H' : Hp) (d : a) (v : b), Ext W H W' H' → p W H d v → p W' H' d v
abbrev repB : Rep Bool Bool := fun _ _ b c => c = b
abbrev repO : Rep (Option Int) (Option Int) := fun _ _ b c => c = b
theorem mono_D {G : Gb} : Mono (Rp G) := fun _ _ _ _ d v x h => Rp.ext x d v h
theorem mono_Ds {G : Gb} : Mono (Rps G) := fun _ _ _ _ d v x h => Rps.ext x d v h
theorem mono_B : Mono repB := fun _ _ _ _ _ _ _ h => h
theorem mono_O : Mono repO := fun _ _ _ _ _ _ _ h => h

def Post (G : Gb) (E : XK) {a b : Type} (p : Rep a b) (W : Wd) (H : Hp) (r : Re a) (Q : b → Hp → Prop) : Prop := match r with
  | .ok d S => ∀ W' H' v, Ext W H W' H' → StoR G W' H' S → p W' H' d v → Q v H'
  | .err x fs S => ∀ W' H' c dd, Ext W H W' H' → StoR G W' H' S → ErrR G W' H' x fs c dd → E c dd H'
  | .bad => False
section
variable {G : Gb} {E : XK} {W W' : Wd} {H H' : Hp} {a b c d : Type}
theorem Post.mono {p : Rep a b} {r : Re a} {Q : b → Hp → Prop} (x : Ext W H W' H') (h : Post G E p W H r Q) : Post G E p W' H' r Q := by
  cases r with
  | ok d S => exact fun W2 H2 v y s q => h W2 H2 v (x.trans y) s q
  | err n fs S => exact fun W2 H2 c dd y s q => h W2 H2 c dd (x.trans y) s q
  | bad => exact h
theorem Post.imp {p : Rep a b} {r : Re a} {Q Q' : b → Hp → Prop} (h : Post G E p W H r Q) (k : ∀ v H', Q v H' → Q' v H') : Post G E p W H r Q' := by
  cases r with
  | ok d S => exact fun W2 H2 v y s q => k _ _ (h W2 H2 v y s q)
  | err n fs S => exact h
  | bad => exact h
theorem Post.done {p : Rep a b} {x : a} {S : Sto} {v : b} {Q : b → Hp → Prop} (h : Post G E p W H (.ok x S) Q) (s : StoR G W H S) (r : p W H x v) : Q v H := h W H v (Ext.refl W H) s r
theorem Post.bind {p : Rep a b} {p' : Rep c d} {r : Re a} {g : a → Sto → Re c} {Q : d → Hp → Prop} (h : Post G E p' W H (r.bind g) Q) :
    Post G E p W H r fun v H1 => ∃ W1 x S1, Ext W H W1 H1 ∧ StoR G W1 H1 S1 ∧ p W1 H1 x v ∧ r = .ok x S1 ∧ Post G E p' W1 H1 (g x S1) Q := by
  cases r with
  | ok x S => exact fun W2 H2 v y s q => ⟨W2, x, S, y, s, q, rfl, Post.mono y h⟩
  | err n fs S => exact h
  | bad => exact h
end

/-- the reading that a function makes -/
def T (G : Gb) (E : XK) {a b : Type} (p : Rep a b) (f : M a) : L2.St → Hp → (b → Hp → Prop) → Prop := fun q H Q =>
  ∃ W r S, Rel G W r S q H ∧ Post G E p W H (f r S) Q
theorem T.bind {G : Gb} {E : XK} {a b c d : Type} {p : Rep a b} {p' : Rep c d} {f : M a} {g : a → M c} {q : L2.St} {H : Hp} {Q : d → Hp → Prop} (h : T G E p' (M.bind f g) q H Q) :
    T G E p f q H fun v H1 => ∃ W1 r S1 x, Rel G W1 r S1 q H1 ∧ p W1 H1 x v ∧ Post G E p' W1 H1 (g x r S1) Q := by
  obtain ⟨W, r, S, rel, h⟩ := h
  refine ⟨W, r, S, rel, Post.imp (Post.bind (p := p) h) fun v H1 k => ?_⟩
  obtain ⟨W1, x, S1, ext, st, pr, _, k⟩ := k
  exact ⟨W1, r, S1, x, ⟨rel.sl.ext ext, st⟩, pr, k⟩
abbrev TD (G : Gb) (E : XK) (f : M D) : TE := T G E (Rp G) f
abbrev TB (G : Gb) (E : XK) (f : M Bool) : TT := T G E repB f
abbrev TDs (G : Gb) (E : XK) (f : M (List D)) : TA := T G E (Rps G) f

/-! ### weaker readings -/
theorem PE.imp {X : Cx} {e : Expr} {t t' : TE} (h : PE X e t) (k : ∀ q H Q, t' q H Q → t q H Q) : PE X e t' := ⟨fun pins s q H Q I hw => h.run pins s q H Q I (k _ _ _ hw)⟩
theorem PT.imp {X : Cx} {e : Expr} {t t' : TT} (h : L2.PT X e t) (k : ∀ q H Q, t' q H Q → t q H Q) : L2.PT X e t' := ⟨fun pins s q H Q I hw => h.run pins s q H Q I (k _ _ _ hw)⟩
theorem PA.imp {X : Cx} {e : List Expr} {t t' : TA} (h : PA X e t) (k : ∀ q H Q, t' q H Q → t q H Q) : PA X e t' := ⟨fun pos pins s q H Q I hw => h.run pos pins s q H Q I (k _ _ _ hw)⟩
theorem PS.imp {X : Cx} {e : Stmt} {t t' : TS} (h : PS X e t) (k : ∀ D q H, t' D q H → t D q H) : PS X e t' := ⟨fun pins s q H D I hw => h.run pins s q H D I (k _ _ _ hw)⟩
theorem PSs.imp {X : Cx} {e : List Stmt} {t t' : TS} (h : PSs X e t) (k : ∀ D q H, t' D q H → t D q H) : PSs X e t' := ⟨fun pins s q H D I hw => h.run pins s q H D I (k _ _ _ hw)⟩
theorem PE.ex {X : Cx} {e : Expr} {i : Type} {t : i → TE} (h : ∀ x, PE X e (t x)) : PE X e (fun q H Q => ∃ x, t x q H Q) := ⟨fun pins s q H Q I ⟨x, hw⟩ => (h x).run pins s q H Q I hw⟩
end DL
set_option Elab.async false
set_option linter.all false
set_option maxRecDepth 100000
set_option maxHeartbeats 4000000
/-! DL2: operations on values. -/
namespace DL
open PySem PySem.Spec PyProof.Rows L2

/-! ### reading values -/
/-- the value with its list looked up -/
def vw (S : Sto) : D → D
  | .ref i => match S[i]? with
    | some (.lst ds) => .lst ds
    | _ => .ref i
  | d => d
@[simp] theorem vw_non {S : Sto} : vw S .non = .non := rfl
@[simp] theorem vw_bl {S : Sto} {b : Bool} : vw S (.bl b) = .bl b := rfl
@[simp] theorem vw_int {S : Sto} {i : Int} : vw S (.int i) = .int i := rfl
@[simp] theorem vw_str {S : Sto} {x : List Nat} : vw S (.str x) = .str x := rfl
@[simp] theorem vw_tup {S : Sto} {x : List D} : vw S (.tup x) = .tup x := rfl
@[simp] theorem vw_lst {S : Sto} {x : List D} : vw S (.lst x) = .lst x := rfl
@[simp] theorem vw_fn {S : Sto} {x : Nat} : vw S (.fn x) = .fn x := rfl
@[simp] theorem vw_scr {S : Sto} {x : List Int} : vw S (.scr x) = .scr x := rfl
theorem vw_ref {S : Sto} {i : Nat} {ds : List D} (h : S[i]? = some (.lst ds)) : vw S (.ref i) = .lst ds := by
  unfold vw
  simp only [h]

section
variable {G : Gb} {W : Wd} {H : Hp} {S : Sto} {d : D} {v : V}
theorem rp_non (h : Rp G W H .non v) : v = .non := by simpa only [Rp] using h
theorem rp_bl {b : Bool} (h : Rp G W H (.bl b) v) : v = .bl b := by simpa only [Rp] using h
theorem rp_int {i : Int} (h : Rp G W H (.int i) v) : v = .int i := by simpa only [Rp] using h
theorem rp_str {x : List Nat} (h : Rp G W H (.str x) v) : v = .str ⟨x.toArray⟩ := by simpa only [Rp] using h
theorem rp_tup {x : List D} (h : Rp G W H (.tup x) v) : ∃ a vs, v = .ref a ∧ DL.PT G.K W H a vs ∧ Rps G W H x vs := by simpa only [Rp] using h
theorem rp_lst {x : List D} (h : Rp G W H (.lst x) v) : ∃ a vs, v = .ref a ∧ PL W H a vs ∧ Rps G W H x vs := by simpa only [Rp] using h
theorem rp_ref {i : Nat} (h : Rp G W H (.ref i) v) : ∃ a, v = .ref a ∧ W.t[i]? = some a := by simpa only [Rp] using h
theorem rp_fn {f : Nat} (h : Rp G W H (.fn f) v) : ∃ a, v = .ref a ∧ G.fa f = some a := by simpa only [Rp] using h
theorem rp_scr {ns : List Int} (h : Rp G W H (.scr ns) v) : ∃ a, v = .ref a ∧ PZ G.K W H a (ns.map V.int) := by simpa only [Rp] using h
theorem rp_exn {a dd x : Nat} {fs : List D} (h : Rp G W H (.exn a dd x fs) v) : v = .ref a ∧ dd ∉ W.t ∧ dd ∉ W.b ∧ ∃ fv : List (Str × V), H dd = some (.xd fv) ∧ fv.map (·.1) = G.xf x ∧ Rps G W H fs (fv.map (·.2)) := by simpa only [Rp] using h
theorem mk_non : Rp G W H .non .non := by simp only [Rp]
theorem mk_bl {b : Bool} : Rp G W H (.bl b) (.bl b) := by simp only [Rp]
theorem mk_int {i : Int} : Rp G W H (.int i) (.int i) := by simp only [Rp]
theorem mk_str {x : List Nat} : Rp G W H (.str x) (.str ⟨x.toArray⟩) := by simp only [Rp]
/-- a list read -/
theorem rd_lst {ds : List D} (st : StoR G W H S) (e : vw S d = .lst ds) (h : Rp G W H d v) : ∃ a vs, v = .ref a ∧ H a = some (.lst vs) ∧ Rps G W H ds vs := by
  cases d with
  | lst xs =>
    simp only [vw_lst, D.lst.injEq] at e
    subst e
    obtain ⟨a, vs, e, p, r⟩ := rp_lst h
    exact ⟨a, vs, e, p.2.2, r⟩
  | ref i =>
    obtain ⟨a, rfl, hi⟩ := rp_ref h
    unfold vw at e
    simp only at e
    split at e
    · rename_i xs hs
      cases e
      obtain ⟨vs, h1, h2⟩ := st.ob i a _ hi hs
      exact ⟨a, vs, rfl, h1, h2⟩
    · cases e
  | exn a dd x fs =>
    unfold vw at e
    cases e
  | _ => simp at e
theorem vw_flat (e : ∀ ds, vw S d ≠ .lst ds) : vw S d = d := by
  cases d with
  | ref i =>
    unfold vw at e ⊢
    simp only at e ⊢
    split
    · rename_i xs hs
      simp only [hs] at e
      exact absurd rfl (e xs)
    · rfl
  | _ => rfl
theorem vw_of {e : D} (h : vw S d = e) (n : ∀ ds, e ≠ .lst ds) : d = e := (vw_flat (S := S) fun ds q => n ds (h.symm.trans q)).symm.trans h

/-! ### results -/
variable {E : XK} {Q : VK}
theorem out_flat {x : D} {u : V} (st : StoR G W H S) (p : Post G E (Rp G) W H (.ok x S) Q) (r : Rp G W H x u) : Q u H := p.done st r
/-- a new list, a new tuple -/
theorem out_lst {ds : List D} {vs : List V} (st : StoR G W H S) (p : Post G E (Rp G) W H (.ok (.lst ds) S) Q) (r : Rps G W H ds vs) : ∀ a, H a = none → Q (.ref a) (upd H a (.lst vs)) := fun a ha => by
  have x : Ext W H W (upd H a (.lst vs)) := Ext.new ha
  have f := st.fresh ha
  refine p W _ _ x (st.new ha) ?_
  simp only [Rp]
  exact ⟨a, vs, rfl, ⟨f.1, f.2, upd_same⟩, Rps.ext x _ _ r⟩
theorem out_tup {ds : List D} {vs : List V} (st : StoR G W H S) (p : Post G E (Rp G) W H (.ok (.tup ds) S) Q) (r : Rps G W H ds vs) : ∀ a, H a = none → Q (.ref a) (upd H a (.tup vs)) := fun a ha => by
  have x : Ext W H W (upd H a (.tup vs)) := Ext.new ha
  have f := st.fresh ha
  refine p W _ _ x (st.new ha) ?_
  simp only [Rp]
  exact ⟨a, vs, rfl, .inl ⟨f.1, f.2, .inl upd_same⟩, Rps.ext x _ _ r⟩
end

/-! ### the canonical readings of operations -/
def r2 (G : Gb) (E : XK) (g : D → D → Sto → Re D) : R2 := fun x y H Q => ∃ W S d e, StoR G W H S ∧ Rp G W H d x ∧ Rp G W H e y ∧ Post G E (Rp G) W H (g d e S) Q
def r1 (G : Gb) (E : XK) (g : D → Sto → Re D) : V → Hp → VK → Prop := fun x H Q => ∃ W S d, StoR G W H S ∧ Rp G W H d x ∧ Post G E (Rp G) W H (g d S) Q
def rC (G : Gb) (E : XK) (g : List D → Sto → Re D) : List V → Hp → VK → Prop := fun xs H Q => ∃ W S ds, StoR G W H S ∧ Rps G W H ds xs ∧ Post G E (Rp G) W H (g ds S) Q
def rM (G : Gb) (E : XK) (g : D → List D → Sto → Re D) : V → List V → Hp → VK → Prop := fun x xs H Q => ∃ W S d ds, StoR G W H S ∧ Rp G W H d x ∧ Rps G W H ds xs ∧ Post G E (Rp G) W H (g d ds S) Q

theorem sz {n : Nat} (h : n ≤ 1000000) : n ≤ sizeLine := by rw [sizeLine_eq]; omega
theorem szlt {n : Nat} (h : n < 1000000) : n < sizeLine := by rw [sizeLine_eq]; omega
theorem Post.no {G : Gb} {E : XK} {a b : Type} {p : Rep a b} {W : Wd} {H : Hp} {Q : b → Hp → Prop} {P : Prop} (h : Post G E p W H .bad Q) : P := False.elim h

/-! ### arithmetic -/
def fAdd (d e : D) (S : Sto) : Re D := match vw S d, vw S e with
  | .int i, .int j => .ok (.int (i + j)) S
  | .str x, .str y => if x.length + y.length ≤ 1000000 then .ok (.str (x ++ y)) S else .bad
  | .tup x, .tup y => if x.length + y.length ≤ 1000000 then .ok (.tup (x ++ y)) S else .bad
  | .lst x, .lst y => if x.length + y.length ≤ 1000000 then .ok (.lst (x ++ y)) S else .bad
  | _, _ => .bad
def fSub (d e : D) (S : Sto) : Re D := match d, e with
  | .int i, .int j => .ok (.int (i - j)) S
  | _, _ => .bad
def fMul (d e : D) (S : Sto) : Re D := match d, e with
  | .int i, .int j => if i.natAbs < 18446744073709551616 ∨ j.natAbs < 18446744073709551616 then .ok (.int (i * j)) S else .bad
  | _, _ => .bad
def fDiv (d e : D) (S : Sto) : Re D := match d, e with
  | .int i, .int j => if 0 < j ∧ j < 1073741824 then .ok (.int (i / j)) S else .bad
  | _, _ => .bad
def fMod (d e : D) (S : Sto) : Re D := match d, e with
  | .int i, .int j => if 0 < j then .ok (.int (i % j)) S else .bad
  | _, _ => .bad
def fPow (d e : D) (S : Sto) : Re D := match d, e with
  | .int i, .int j => if 0 ≤ j ∧ j ≤ 1000000 ∧ i.natAbs < 2 ^ 64 then .ok (.int (i ^ j.toNat)) S else .bad
  | _, _ => .bad
def fNeg (d : D) (S : Sto) : Re D := match d with
  | .int i => .ok (.int (-i)) S
  | _ => .bad

section
variable {X : Cx} {G : Gb} {E : XK}
theorem str_cat (x y : List Nat) : ((⟨x.toArray⟩ : Str) ++ (⟨y.toArray⟩ : Str)) = (⟨(x ++ y).toArray⟩ : Str) := by
  show Str.append _ _ = _
  unfold Str.append
  simp
theorem str_len (x : List Nat) : Str.length (⟨x.toArray⟩ : Str) = x.length := by
  unfold Str.length
  simp
theorem or_add (hK : G.K = X.K) : OpR X (binaryOp .Add) (r2 G E fAdd) := by
  intro pins s σ H x y v u Q I rx ry h
  obtain ⟨W, S, d, e, st, rd, re, p⟩ := h
  unfold fAdd at p
  split at p
  · rename_i i j hd he
    have hd := vw_of hd (by simp)
    have he := vw_of he (by simp)
    subst hd he
    obtain rfl := rp_int rd
    obtain rfl := rp_int re
    exact op_add pins s σ H _ _ v u Q I rx ry ⟨i, j, rfl, rfl, p.done st mk_int⟩
  · rename_i i j hd he
    have hd := vw_of hd (by simp)
    have he := vw_of he (by simp)
    subst hd he
    obtain rfl := rp_str rd
    obtain rfl := rp_str re
    split at p
    · rename_i hz
      exact op_add_str pins s σ H _ _ v u Q I rx ry ⟨_, _, rfl, rfl, by rw [str_len, str_len]; exact sz hz, by rw [str_cat]; exact p.done st mk_str⟩
    · exact p.no
  · rename_i i j hd he
    have hd := vw_of hd (by simp)
    have he := vw_of he (by simp)
    subst hd he
    obtain ⟨a, vs, rfl, pa, ra⟩ := rp_tup rd
    obtain ⟨b, us, rfl, pb, rb⟩ := rp_tup re
    rw [hK] at pa pb
    split at p
    · rename_i hz
      refine op_catA pins s σ H _ _ v u Q I rx ry ⟨a, b, vs, us, rfl, rfl, pa.sq, pb.sq, by rw [ra.length, rb.length]; exact sz hz, fun z => ?_, fun z z2 => ?_, fun _ _ q hq => ?_⟩
      · subst z
        have : i = [] := by
          have := ra.length
          cases i with
          | nil => rfl
          | cons _ _ => simp at this
        subst this
        exact p.done st re
      · subst z2
        have : j = [] := by
          have := rb.length
          cases j with
          | nil => rfl
          | cons _ _ => simp at this
        subst this
        refine p.done st ?_
        rw [List.append_nil]
        exact rd
      · exact out_tup st p (ra.append rb) q hq
    · exact p.no
  · rename_i i j hd he
    obtain ⟨a, vs, rfl, pa, ra⟩ := rd_lst st hd rd
    obtain ⟨b, us, rfl, pb, rb⟩ := rd_lst st he re
    split at p
    · rename_i hz
      exact op_cat pins s σ H _ _ v u Q I rx ry ⟨a, b, vs, us, rfl, rfl, pa, pb, by rw [ra.length, rb.length]; exact sz hz, fun q hq => out_lst st p (ra.append rb) q hq⟩
    · exact p.no
  · exact p.no
theorem or_int2 {f : Value → Value → Sem Value} {g : D → D → Sto → Re D} {C : Int → Int → Prop} {k : Int → Int → V} {kd : Int → Int → D} (hk : ∀ i j W H, Rp G W H (kd i j) (k i j)) (ho : OpR X f (rI C k))
    (hg : ∀ d e S, (∃ i j, d = .int i ∧ e = .int j ∧ C i j ∧ g d e S = .ok (kd i j) S) ∨ g d e S = .bad) : OpR X f (r2 G E g) := by
  intro pins s σ H x y v u Q I rx ry h
  obtain ⟨W, S, d, e, st, rd, re, p⟩ := h
  rcases hg d e S with ⟨i, j, rfl, rfl, c, q⟩ | q
  · rw [q] at p
    obtain rfl := rp_int rd
    obtain rfl := rp_int re
    exact ho pins s σ H _ _ v u Q I rx ry ⟨i, j, rfl, rfl, c, p.done st (hk i j W H)⟩
  · rw [q] at p
    exact p.no
theorem or_sub : OpR X (binaryOp .Sub) (r2 G E fSub) := by
  intro pins s σ H x y v u Q I rx ry h
  obtain ⟨W, S, d, e, st, rd, re, p⟩ := h
  unfold fSub at p
  split at p
  · rename_i i j
    obtain rfl := rp_int rd
    obtain rfl := rp_int re
    exact op_sub pins s σ H _ _ v u Q I rx ry ⟨i, j, rfl, rfl, p.done st mk_int⟩
  · exact p.no
theorem or_mul : OpR X (binaryOp .Mult) (r2 G E fMul) := or_int2 (kd := fun i j => .int (i * j)) (fun _ _ _ _ => mk_int) op_mul fun d e S => by
  unfold fMul
  split
  · split
    · rename_i h
      exact .inl ⟨_, _, rfl, rfl, h.imp (fun h => ⟨by omega, by omega⟩) (fun h => ⟨by omega, by omega⟩), rfl⟩
    · exact .inr rfl
  · exact .inr rfl
theorem or_div : OpR X (binaryOp .FloorDiv) (r2 G E fDiv) := or_int2 (kd := fun i j => .int (i / j)) (fun _ _ _ _ => mk_int) op_fdiv fun d e S => by
  unfold fDiv
  split
  · split
    · rename_i h
      exact .inl ⟨_, _, rfl, rfl, h, rfl⟩
    · exact .inr rfl
  · exact .inr rfl
theorem or_mod : OpR X (binaryOp .Mod) (r2 G E fMod) := or_int2 (kd := fun i j => .int (i % j)) (fun _ _ _ _ => mk_int) op_mod fun d e S => by
  unfold fMod
  split
  · split
    · rename_i h
      exact .inl ⟨_, _, rfl, rfl, h, rfl⟩
    · exact .inr rfl
  · exact .inr rfl
theorem or_pow : OpR X (binaryOp .Pow) (r2 G E fPow) := or_int2 (kd := fun i j => .int (i ^ j.toNat)) (fun _ _ _ _ => mk_int) op_pow fun d e S => by
  unfold fPow
  split
  · split
    · rename_i h
      exact .inl ⟨_, _, rfl, rfl, h, rfl⟩
    · exact .inr rfl
  · exact .inr rfl
theorem ur_neg : UnR X (unaryOp .USub) (r1 G E fNeg) := by
  intro pins s σ H x v Q I rx h
  obtain ⟨W, S, d, st, rd, p⟩ := h
  unfold fNeg at p
  split at p
  · rename_i i
    obtain rfl := rp_int rd
    exact un_neg pins s σ H _ v Q I rx ⟨i, rfl, p.done st mk_int⟩
  · exact p.no
end
end DL
set_option Elab.async false
set_option linter.all false
set_option maxRecDepth 100000
set_option maxHeartbeats 4000000
/-! DL3: comparisons, truth, lengths, subscripts, slices, lists. -/
namespace DL
open PySem PySem.Spec PyProof.Rows L2

/-! ### == at any depth -/
mutual
def eqD : D → D → Bool
  | .non, .non => true
  | .bl a, .bl b => a == b
  | .bl a, .int j => (if a then 1 else 0) == j
  | .int i, .bl b => i == (if b then 1 else 0)
  | .int i, .int j => i == j
  | .str x, .str y => x == y
  | .lst xs, .lst ys => eqDs xs ys
  | .tup xs, .tup ys => eqDs xs ys
  | _, _ => false
def eqDs : List D → List D → Bool
  | [], [] => true
  | x :: xs, y :: ys => eqD x y && eqDs xs ys
  | _, _ => false
end
/-- data of depth at most n, its texts of signs -/
def okS (x : List Nat) : Bool := x.all (· < 1114112)
mutual
def okD : Nat → D → Bool
  | _, .non => true
  | _, .bl _ => true
  | _, .int _ => true
  | _, .str x => okS x
  | 0, _ => false
  | n + 1, .tup ds => okDs n ds
  | n + 1, .lst ds => okDs n ds
  | _, _ => false
def okDs : Nat → List D → Bool
  | _, [] => true
  | n, d :: ds => okD n d && okDs n ds
end
mutual
def toPy : D → PyData
  | .non => .none
  | .bl b => .bool b
  | .int i => .int i
  | .str x => .str ⟨x.toArray⟩
  | .tup ds => .tuple (toPys ds)
  | .lst ds => .list (toPys ds)
  | .ref _ => .none
  | .fn _ => .none
  | .scr _ => .none
  | .exn _ _ _ _ => .none
def toPys : List D → List PyData
  | [] => []
  | d :: ds => toPy d :: toPys ds
end
theorem okS_ok {x : List Nat} (h : okS x = true) : PyData.strOk (⟨x.toArray⟩ : Str) = true := by
  unfold okS at h
  unfold PyData.strOk
  rw [Array.all_eq_true]
  intro i hi
  have := List.all_eq_true.mp h (x[i]'(by simpa using hi)) (List.getElem_mem _)
  simpa using this
theorem toPy_ok : ∀ (n : Nat) (d : D), okD n d = true → PyData.canLay0 (toPy d) = true ∧ PyData.depth (toPy d) ≤ n := by
  intro n
  induction n with
  | zero =>
    intro d h
    cases d <;> simp [okD, toPy, PyData.canLay0, PyData.depth] at h ⊢
    exact okS_ok h
  | succ n ih =>
    have all : ∀ ds : List D, okDs n ds = true → PyData.canLayAll0 (toPys ds) = true ∧ PyData.depthAll (toPys ds) ≤ n := by
      intro ds
      induction ds with
      | nil => intro _; simp [toPys, PyData.canLayAll0, PyData.depthAll]
      | cons d ds ihd =>
        intro h
        simp only [okDs, Bool.and_eq_true] at h
        have h1 := ih d h.1
        have h2 := ihd h.2
        simp only [toPys, PyData.canLayAll0, PyData.depthAll, Bool.and_eq_true]
        exact ⟨⟨h1.1, h2.1⟩, Nat.max_le.mpr ⟨h1.2, h2.2⟩⟩
    intro d h
    cases d <;> simp [okD, toPy, PyData.canLay0, PyData.depth] at h ⊢
    · exact okS_ok h
    · exact all _ h
    · exact all _ h
mutual
theorem toPy_eqv : ∀ (d e : D) (n m : Nat), okD n d = true → okD m e = true → PyData.eqv (toPy d) (toPy e) = eqD d e
  | .non, e, n, m, h, k => by cases e <;> cases m <;> simp [okD, toPy, PyData.eqv, eqD] at k ⊢
  | .bl a, e, n, m, h, k => by cases e <;> cases m <;> simp [okD, toPy, PyData.eqv, eqD] at k ⊢
  | .int a, e, n, m, h, k => by cases e <;> cases m <;> simp [okD, toPy, PyData.eqv, eqD] at k ⊢
  | .str a, e, n, m, h, k => by
    cases e with
    | str b =>
      simp only [toPy, PyData.eqv, eqD]
      by_cases q : a = b
      · subst q; simp
      · have q2 : ¬ (⟨a.toArray⟩ : Str) = ⟨b.toArray⟩ := fun z => q (by injection z with z; simpa using z)
        rw [beq_eq_false_iff_ne.mpr q, beq_eq_false_iff_ne.mpr q2]
    | _ => cases m <;> simp [okD, toPy, PyData.eqv, eqD] at k ⊢
  | .lst a, e, n, m, h, k => by
    cases e with
    | lst b =>
      cases n with
      | zero => simp [okD] at h
      | succ n =>
        cases m with
        | zero => simp [okD] at k
        | succ m =>
          simp only [okD] at h k
          simp only [toPy, PyData.eqv, eqD]
          exact toPys_eqv a b n m h k
    | _ => cases m <;> simp [okD, toPy, PyData.eqv, eqD] at k ⊢
  | .tup a, e, n, m, h, k => by
    cases e with
    | tup b =>
      cases n with
      | zero => simp [okD] at h
      | succ n =>
        cases m with
        | zero => simp [okD] at k
        | succ m =>
          simp only [okD] at h k
          simp only [toPy, PyData.eqv, eqD]
          exact toPys_eqv a b n m h k
    | _ => cases m <;> simp [okD, toPy, PyData.eqv, eqD] at k ⊢
  | .ref _, e, n, m, h, k => by cases n <;> simp [okD] at h
  | .fn _, e, n, m, h, k => by cases n <;> simp [okD] at h
  | .scr _, e, n, m, h, k => by cases n <;> simp [okD] at h
  | .exn _ _ _ _, e, n, m, h, k => by cases n <;> simp [okD] at h
theorem toPys_eqv : ∀ (ds es : List D) (n m : Nat), okDs n ds = true → okDs m es = true → PyData.eqvAll (toPys ds) (toPys es) = eqDs ds es
  | [], [], n, m, h, k => by simp [toPys, PyData.eqvAll, eqDs]
  | [], _ :: _, n, m, h, k => by simp [toPys, PyData.eqvAll, eqDs]
  | _ :: _, [], n, m, h, k => by simp [toPys, PyData.eqvAll, eqDs]
  | d :: ds, e :: es, n, m, h, k => by
    simp only [okDs, Bool.and_eq_true] at h k
    simp only [toPys, PyData.eqvAll, eqDs]
    rw [toPy_eqv d e n m h.1 k.1, toPys_eqv ds es n m h.2 k.2]
end
section
variable {G : Gb} {W : Wd} {H : Hp}
mutual
theorem rp_dp : ∀ (d : D) (v : V) (n : Nat), okD n d = true → Rp G W H d v → Dp G.K H v (toPy d)
  | .non, v, n, h, r => by rw [rp_non r]; simp only [toPy]; exact .non
  | .bl b, v, n, h, r => by rw [rp_bl r]; simp only [toPy]; exact .bl b
  | .int i, v, n, h, r => by rw [rp_int r]; simp only [toPy]; exact .int i
  | .str x, v, n, h, r => by rw [rp_str r]; simp only [toPy]; exact .str _
  | .tup ds, v, n, h, r => by
    obtain ⟨a, vs, rfl, p, q⟩ := rp_tup r
    cases n with
    | zero => simp [okD] at h
    | succ n =>
      simp only [okD] at h
      simp only [toPy]
      exact .tup p.sq (rps_dp ds vs n h q)
  | .lst ds, v, n, h, r => by
    obtain ⟨a, vs, rfl, p, q⟩ := rp_lst r
    cases n with
    | zero => simp [okD] at h
    | succ n =>
      simp only [okD] at h
      simp only [toPy]
      exact .lst p.sq (rps_dp ds vs n h q)
  | .ref _, v, n, h, r => by cases n <;> simp [okD] at h
  | .fn _, v, n, h, r => by cases n <;> simp [okD] at h
  | .scr _, v, n, h, r => by cases n <;> simp [okD] at h
  | .exn _ _ _ _, v, n, h, r => by cases n <;> simp [okD] at h
theorem rps_dp : ∀ (ds : List D) (vs : List V) (n : Nat), okDs n ds = true → Rps G W H ds vs → DpAll G.K H vs (toPys ds)
  | [], vs, n, h, r => by rw [Rps.nil_iff.mp r]; simp only [toPys]; exact .nil
  | d :: ds, vs, n, h, r => by
    obtain ⟨v, t, rfl, r1, r2⟩ := Rps.cons_iff.mp r
    simp only [okDs, Bool.and_eq_true] at h
    simp only [toPys]
    exact .cons (rp_dp d v n h.1 r1) (rps_dp ds t n h.2 r2)
end
/-- a value of the store, read as data -/
theorem rd_dp {S : Sto} {d : D} {v : V} {n : Nat} (st : StoR G W H S) (h : okD n (vw S d) = true) (r : Rp G W H d v) : Dp G.K H v (toPy (vw S d)) := by
  by_cases q : ∃ ds, vw S d = .lst ds
  · obtain ⟨ds, e⟩ := q
    obtain ⟨a, vs, rfl, ha, rs⟩ := rd_lst st e r
    rw [e] at h ⊢
    cases n with
    | zero => simp [okD] at h
    | succ n =>
      simp only [okD] at h
      simp only [toPy]
      exact .lst (SqL.of ha) (rps_dp ds vs n h rs)
  · have e := vw_flat (S := S) (d := d) fun ds z => q ⟨ds, z⟩
    rw [e] at h ⊢
    exact rp_dp d v n h r
end
/-- a value with what it means of the store in place, n deep -/
def dv : Nat → Sto → D → D
  | 0, _, d => d
  | n + 1, S, d => match d with
    | .ref i => match S[i]? with
      | some (.lst ds) => .lst (ds.map (dv n S))
      | _ => .ref i
    | .tup ds => .tup (ds.map (dv n S))
    | .lst ds => .lst (ds.map (dv n S))
    | d => d
section
variable {G : Gb} {W : Wd} {H : Hp}
theorem dv_dps {g : D → D} {n : Nat} (ih : ∀ (d : D) (v : V), okD n (g d) = true → Rp G W H d v → Dp G.K H v (toPy (g d))) : ∀ (ds : List D) (vs : List V), okDs n (ds.map g) = true → Rps G W H ds vs → DpAll G.K H vs (toPys (ds.map g))
  | [], vs, h, r => by rw [Rps.nil_iff.mp r]; simp only [List.map_nil, toPys]; exact .nil
  | d :: ds, vs, h, r => by
    obtain ⟨v, t, rfl, r1, r2⟩ := Rps.cons_iff.mp r
    simp only [List.map_cons, okDs, Bool.and_eq_true] at h
    simp only [List.map_cons, toPys]
    exact .cons (ih d v h.1 r1) (dv_dps ih ds t h.2 r2)
theorem dv_dp {S : Sto} (st : StoR G W H S) : ∀ (m n : Nat) (d : D) (v : V), okD n (dv m S d) = true → Rp G W H d v → Dp G.K H v (toPy (dv m S d))
  | 0, n, d, v, h, r => rp_dp d v n h r
  | m + 1, n, d, v, h, r => by
    cases d with
    | ref i =>
      simp only [dv] at h ⊢
      split at h
      · rename_i ds hs
        obtain ⟨a, rfl, hi⟩ := rp_ref r
        obtain ⟨vs, h1, h2⟩ := st.ob i a _ hi hs
        cases n with
        | zero => simp [okD] at h
        | succ n =>
          simp only [okD] at h
          simp only [toPy]
          exact .lst (SqL.of h1) (dv_dps (fun d v => dv_dp st m n d v) ds vs h h2)
      · cases n <;> simp [okD] at h
    | tup ds =>
      obtain ⟨a, vs, rfl, p, q⟩ := rp_tup r
      cases n with
      | zero => simp [dv, okD] at h
      | succ n =>
        simp only [dv, okD] at h
        simp only [dv, toPy]
        exact .tup p.sq (dv_dps (fun d v => dv_dp st m n d v) ds vs h q)
    | lst ds =>
      obtain ⟨a, vs, rfl, p, q⟩ := rp_lst r
      cases n with
      | zero => simp [dv, okD] at h
      | succ n =>
        simp only [dv, okD] at h
        simp only [dv, toPy]
        exact .lst p.sq (dv_dps (fun d v => dv_dp st m n d v) ds vs h q)
    | non => exact rp_dp _ v n h r
    | bl _ => exact rp_dp _ v n h r
    | int _ => exact rp_dp _ v n h r
    | str _ => exact rp_dp _ v n h r
    | fn _ => exact rp_dp _ v n h r
    | scr _ => exact rp_dp _ v n h r
    | exn _ _ _ _ => exact rp_dp _ v n h r
end
def fEq (d e : D) (S : Sto) : Re D := if okD 60 (vw S d) = true ∧ okD 60 (vw S e) = true then .ok (.bl (eqD (vw S d) (vw S e))) S
  else if okD 60 (dv 9 S d) = true ∧ okD 60 (dv 9 S e) = true then .ok (.bl (eqD (dv 9 S d) (dv 9 S e))) S else .bad
def fNe (d e : D) (S : Sto) : Re D := if okD 60 (vw S d) = true ∧ okD 60 (vw S e) = true then .ok (.bl (!eqD (vw S d) (vw S e))) S
  else if okD 60 (dv 9 S d) = true ∧ okD 60 (dv 9 S e) = true then .ok (.bl (!eqD (dv 9 S d) (dv 9 S e))) S else .bad
def fLt (d e : D) (S : Sto) : Re D := match d, e with
  | .int i, .int j => .ok (.bl (decide (i < j))) S
  | .str x, .str y => .ok (.bl (decide (x < y))) S
  | _, _ => .bad
def fLe (d e : D) (S : Sto) : Re D := match d, e with
  | .int i, .int j => .ok (.bl (decide (i ≤ j))) S
  | .str x, .str y => .ok (.bl (!decide (y < x))) S
  | _, _ => .bad
def fGt (d e : D) (S : Sto) : Re D := match d, e with
  | .int i, .int j => .ok (.bl (decide (j < i))) S
  | .str x, .str y => .ok (.bl (decide (y < x))) S
  | _, _ => .bad
def fGe (d e : D) (S : Sto) : Re D := match d, e with
  | .int i, .int j => .ok (.bl (decide (j ≤ i))) S
  | .str x, .str y => .ok (.bl (!decide (x < y))) S
  | _, _ => .bad
def isNon : D → Bool
  | .non => true
  | _ => false
def isBl (b : Bool) : D → Bool
  | .bl a => a == b
  | _ => false
/-- is None, is True, is False -/
def fIs (d e : D) (S : Sto) : Re D := match e with
  | .non => .ok (.bl (isNon d)) S
  | .bl b => .ok (.bl (isBl b d)) S
  | _ => .bad
def fIsN (d e : D) (S : Sto) : Re D := match e with
  | .non => .ok (.bl (!isNon d)) S
  | .bl b => .ok (.bl (!isBl b d)) S
  | _ => .bad
def flatD : D → Bool
  | .non => true
  | .bl _ => true
  | .int _ => true
  | .str _ => true
  | _ => false
def memD (d : D) (ds : List D) : Bool := ds.any fun e => eqD e d
/-- whether y is a part of x -/
def subS (x y : List Nat) : Bool := !(Builtin.Str.occurrences (⟨y.toArray⟩ : Str) (⟨x.toArray⟩ : Str) 0 y.length 1).isEmpty
def fIn (d e : D) (S : Sto) : Re D := match vw S e with
  | .tup ds => if flatD d = true ∧ ds.all flatD = true then .ok (.bl (memD d ds)) S else .bad
  | .lst ds => if flatD d = true ∧ ds.all flatD = true then .ok (.bl (memD d ds)) S else .bad
  | .str y => match d with
    | .str x => .ok (.bl (subS x y)) S
    | _ => .bad
  | _ => .bad
def fNotIn (d e : D) (S : Sto) : Re D := match vw S e with
  | .tup ds => if flatD d = true ∧ ds.all flatD = true then .ok (.bl (!memD d ds)) S else .bad
  | .lst ds => if flatD d = true ∧ ds.all flatD = true then .ok (.bl (!memD d ds)) S else .bad
  | .str y => match d with
    | .str x => .ok (.bl (!subS x y)) S
    | _ => .bad
  | _ => .bad

section
variable {X : Cx} {G : Gb} {E : XK}
theorem shaped_of {d : D} (h : okD 60 d = true) : SeqAt.shaped (toPy d) = true := by
  have q := toPy_ok 60 d h
  unfold SeqAt.shaped
  simp only [Bool.and_eq_true, decide_eq_true_eq]
  exact ⟨q.1, by omega⟩
theorem or_eq (hK : G.K = X.K) (hu : X.A.units + 64 < cLine) : OpR X (compareOp .Eq) (r2 G E fEq) := by
  intro pins s σ H x y v u Q I rx ry h
  obtain ⟨W, S, d, e, st, rd, re, p⟩ := h
  unfold fEq at p
  split at p
  · rename_i hz
    refine op_eqD hu pins s σ H x y v u Q I rx ry ⟨toPy (vw S d), toPy (vw S e), ?_, ?_, shaped_of hz.1, shaped_of hz.2, ?_⟩
    · rw [← hK]; exact rd_dp st hz.1 rd
    · rw [← hK]; exact rd_dp st hz.2 re
    · rw [toPy_eqv _ _ 60 60 hz.1 hz.2]
      exact p.done st mk_bl
  · split at p
    · rename_i hz
      refine op_eqD hu pins s σ H x y v u Q I rx ry ⟨toPy (dv 9 S d), toPy (dv 9 S e), ?_, ?_, shaped_of hz.1, shaped_of hz.2, ?_⟩
      · rw [← hK]; exact dv_dp st 9 60 d _ hz.1 rd
      · rw [← hK]; exact dv_dp st 9 60 e _ hz.2 re
      · rw [toPy_eqv _ _ 60 60 hz.1 hz.2]
        exact p.done st mk_bl
    · exact p.no
theorem or_ne (hK : G.K = X.K) (hu : X.A.units + 64 < cLine) : OpR X (compareOp .NotEq) (r2 G E fNe) := by
  intro pins s σ H x y v u Q I rx ry h
  obtain ⟨W, S, d, e, st, rd, re, p⟩ := h
  unfold fNe at p
  split at p
  · rename_i hz
    refine op_neD hu pins s σ H x y v u Q I rx ry ⟨toPy (vw S d), toPy (vw S e), ?_, ?_, shaped_of hz.1, shaped_of hz.2, ?_⟩
    · rw [← hK]; exact rd_dp st hz.1 rd
    · rw [← hK]; exact rd_dp st hz.2 re
    · rw [toPy_eqv _ _ 60 60 hz.1 hz.2]
      exact p.done st mk_bl
  · split at p
    · rename_i hz
      refine op_neD hu pins s σ H x y v u Q I rx ry ⟨toPy (dv 9 S d), toPy (dv 9 S e), ?_, ?_, shaped_of hz.1, shaped_of hz.2, ?_⟩
      · rw [← hK]; exact dv_dp st 9 60 d _ hz.1 rd
      · rw [← hK]; exact dv_dp st 9 60 e _ hz.2 re
      · rw [toPy_eqv _ _ 60 60 hz.1 hz.2]
        exact p.done st mk_bl
    · exact p.no
theorem or_lt : OpR X (compareOp .Lt) (r2 G E fLt) := by
  intro pins s σ H x y v u Q I rx ry h
  obtain ⟨W, S, d, e, st, rd, re, p⟩ := h
  unfold fLt at p
  split at p
  · obtain rfl := rp_int rd
    obtain rfl := rp_int re
    exact op_lt pins s σ H _ _ v u Q I rx ry ⟨_, _, rfl, rfl, p.done st mk_bl⟩
  · obtain rfl := rp_str rd
    obtain rfl := rp_str re
    exact op_lt_str pins s σ H _ _ v u Q I rx ry ⟨_, _, rfl, rfl, by simpa using p.done st mk_bl⟩
  · exact p.no
theorem or_le : OpR X (compareOp .LtE) (r2 G E fLe) := by
  intro pins s σ H x y v u Q I rx ry h
  obtain ⟨W, S, d, e, st, rd, re, p⟩ := h
  unfold fLe at p
  split at p
  · obtain rfl := rp_int rd
    obtain rfl := rp_int re
    exact op_le pins s σ H _ _ v u Q I rx ry ⟨_, _, rfl, rfl, p.done st mk_bl⟩
  · obtain rfl := rp_str rd
    obtain rfl := rp_str re
    exact op_le_str pins s σ H _ _ v u Q I rx ry ⟨_, _, rfl, rfl, by simpa using p.done st mk_bl⟩
  · exact p.no
theorem or_gt : OpR X (compareOp .Gt) (r2 G E fGt) := by
  intro pins s σ H x y v u Q I rx ry h
  obtain ⟨W, S, d, e, st, rd, re, p⟩ := h
  unfold fGt at p
  split at p
  · obtain rfl := rp_int rd
    obtain rfl := rp_int re
    exact op_gt pins s σ H _ _ v u Q I rx ry ⟨_, _, rfl, rfl, p.done st mk_bl⟩
  · obtain rfl := rp_str rd
    obtain rfl := rp_str re
    exact op_gt_str pins s σ H _ _ v u Q I rx ry ⟨_, _, rfl, rfl, by simpa using p.done st mk_bl⟩
  · exact p.no
theorem or_ge : OpR X (compareOp .GtE) (r2 G E fGe) := by
  intro pins s σ H x y v u Q I rx ry h
  obtain ⟨W, S, d, e, st, rd, re, p⟩ := h
  unfold fGe at p
  split at p
  · obtain rfl := rp_int rd
    obtain rfl := rp_int re
    exact op_ge pins s σ H _ _ v u Q I rx ry ⟨_, _, rfl, rfl, p.done st mk_bl⟩
  · obtain rfl := rp_str rd
    obtain rfl := rp_str re
    exact op_ge_str pins s σ H _ _ v u Q I rx ry ⟨_, _, rfl, rfl, by simpa using p.done st mk_bl⟩
  · exact p.no
theorem is_bool_gen {M : Model} {A : Around} {E : Value → Shared → Prop} {s : Shared} {Q : Value → Shared → Prop} {v : Value} {b : Bool} (hv : ∀ i, v ≠ .builtin i) (h : Q (.bool (v == .bool b)) s) : wpAny M A (compareOp .Is v (.bool b)) Q E s := by
  cases v <;> first | exact wpAny_pure h | exact absurd rfl (hv _)
theorem isnot_bool_gen {M : Model} {A : Around} {E : Value → Shared → Prop} {s : Shared} {Q : Value → Shared → Prop} {v : Value} {b : Bool} (hv : ∀ i, v ≠ .builtin i) (h : Q (.bool (!(v == .bool b))) s) : wpAny M A (compareOp .IsNot v (.bool b)) Q E s := by
  cases v <;> first | exact wpAny_pure h | exact absurd rfl (hv _)
theorem relV_nb {x : V} {v : Value} (r : RelV x v) : ∀ i, v ≠ .builtin i := fun i z => by
  subst z
  cases x <;> first | (cases r; done) | (obtain ⟨t, q⟩ := r; cases q)
theorem rp_isNon {W : Wd} {H : Hp} {d : D} {x : V} {v : Value} (r : Rp G W H d x) (rv : RelV x v) : (v == Value.none) = isNon d := by
  cases d with
  | non => cases rp_non r; cases rv; rfl
  | bl _ => cases rp_bl r; cases rv; rfl
  | int _ => cases rp_int r; obtain ⟨t, rfl⟩ := rv; rfl
  | str _ => cases rp_str r; obtain ⟨t, rfl⟩ := rv; rfl
  | tup _ => obtain ⟨a, vs, rfl, _⟩ := rp_tup r; cases rv; rfl
  | lst _ => obtain ⟨a, vs, rfl, _⟩ := rp_lst r; cases rv; rfl
  | ref _ => obtain ⟨a, rfl, _⟩ := rp_ref r; cases rv; rfl
  | fn _ => obtain ⟨a, rfl, _⟩ := rp_fn r; cases rv; rfl
  | scr _ => obtain ⟨a, rfl, _⟩ := rp_scr r; cases rv; rfl
  | exn a dd x fs => obtain ⟨rfl, _⟩ := rp_exn r; cases rv; rfl
theorem rp_isBl {W : Wd} {H : Hp} {d : D} {x : V} {v : Value} {b : Bool} (r : Rp G W H d x) (rv : RelV x v) : (v == Value.bool b) = isBl b d := by
  cases d with
  | non => cases rp_non r; cases rv; rfl
  | bl c => cases rp_bl r; cases rv; cases c <;> cases b <;> rfl
  | int _ => cases rp_int r; obtain ⟨t, rfl⟩ := rv; rfl
  | str _ => cases rp_str r; obtain ⟨t, rfl⟩ := rv; rfl
  | tup _ => obtain ⟨a, vs, rfl, _⟩ := rp_tup r; cases rv; rfl
  | lst _ => obtain ⟨a, vs, rfl, _⟩ := rp_lst r; cases rv; rfl
  | ref _ => obtain ⟨a, rfl, _⟩ := rp_ref r; cases rv; rfl
  | fn _ => obtain ⟨a, rfl, _⟩ := rp_fn r; cases rv; rfl
  | scr _ => obtain ⟨a, rfl, _⟩ := rp_scr r; cases rv; rfl
  | exn a dd x fs => obtain ⟨rfl, _⟩ := rp_exn r; cases rv; rfl
theorem or_is : OpR X (compareOp .Is) (r2 G E fIs) := by
  intro pins s σ H x y v u Q I rx ry h
  obtain ⟨W, S, d, e, st, rd, re, p⟩ := h
  unfold fIs at p
  split at p
  · cases rp_non re
    cases ry
    exact is_none_gen (fin_bl I (p.done st mk_bl) (rp_isNon rd rx).symm)
  · cases rp_bl re
    cases ry
    exact is_bool_gen (relV_nb rx) (fin_bl I (p.done st mk_bl) (rp_isBl rd rx).symm)
  · exact p.no
theorem or_isN : OpR X (compareOp .IsNot) (r2 G E fIsN) := by
  intro pins s σ H x y v u Q I rx ry h
  obtain ⟨W, S, d, e, st, rd, re, p⟩ := h
  unfold fIsN at p
  split at p
  · cases rp_non re
    cases ry
    exact isnot_none_gen (fin_bl I (p.done st mk_bl) (by rw [rp_isNon rd rx]))
  · cases rp_bl re
    cases ry
    exact isnot_bool_gen (relV_nb rx) (fin_bl I (p.done st mk_bl) (by rw [rp_isBl rd rx]))
  · exact p.no
theorem flat_rp {W : Wd} {H : Hp} {d : D} {x : V} (f : flatD d = true) (r : Rp G W H d x) : flatV x = true := by
  cases d with
  | non => cases rp_non r; rfl
  | bl _ => cases rp_bl r; rfl
  | int _ => cases rp_int r; rfl
  | str _ => cases rp_str r; rfl
  | _ => cases f
theorem flat_eq {W : Wd} {H : Hp} {d e : D} {x y : V} (f : flatD d = true) (g : flatD e = true) (r : Rp G W H d x) (q : Rp G W H e y) : eqV x y = eqD d e := by
  have st : ∀ a b : List Nat, ((⟨a.toArray⟩ : Str) == ⟨b.toArray⟩) = (a == b) := fun a b => by
    by_cases q : a = b
    · subst q; simp
    · have q2 : ¬ (⟨a.toArray⟩ : Str) = ⟨b.toArray⟩ := fun z => q (by injection z with z; simpa using z)
      rw [beq_eq_false_iff_ne.mpr q, beq_eq_false_iff_ne.mpr q2]
  cases d <;> first | cases f | skip
  all_goals cases e <;> first | cases g | skip
  all_goals first
    | (cases rp_non r) | (cases rp_bl r) | (cases rp_int r) | (cases rp_str r)
  all_goals first
    | (cases rp_non q; simp [eqV, eqD]; done) | (cases rp_bl q; simp [eqV, eqD]; done) | (cases rp_int q; simp [eqV, eqD]; done) | (cases rp_str q; simp [eqV, eqD, st]; done)
theorem flat_all {W : Wd} {H : Hp} : ∀ {ds : List D} {vs : List V}, ds.all flatD = true → Rps G W H ds vs → vs.all flatV = true
  | [], _, _, r => by rw [Rps.nil_iff.mp r]; rfl
  | d :: ds, _, f, r => by
    obtain ⟨v, t, rfl, r1, r2⟩ := Rps.cons_iff.mp r
    simp only [List.all_cons, Bool.and_eq_true] at f ⊢
    exact ⟨flat_rp f.1 r1, flat_all f.2 r2⟩
theorem flat_mem {W : Wd} {H : Hp} {d : D} {x : V} (g : flatD d = true) (q : Rp G W H d x) : ∀ {ds : List D} {vs : List V}, ds.all flatD = true → Rps G W H ds vs → inV x vs = memD d ds
  | [], _, _, r => by rw [Rps.nil_iff.mp r]; rfl
  | e :: ds, _, f, r => by
    obtain ⟨v, t, rfl, r1, r2⟩ := Rps.cons_iff.mp r
    simp only [List.all_cons, Bool.and_eq_true] at f
    show (eqV v x || inV x t) = (eqD e d || memD d ds)
    rw [flat_eq f.1 g r1 q, flat_mem g q f.2 r2]
theorem or_in (hK : G.K = X.K) : OpR X (compareOp .In) (r2 G E fIn) := by
  intro pins s σ H x y v u Q I rx ry h
  obtain ⟨W, S, d, e, st, rd, re, p⟩ := h
  unfold fIn at p
  split at p
  · rename_i ds he
    have he := vw_of he (by simp)
    subst he
    obtain ⟨a, vs, rfl, pa, ra⟩ := rp_tup re
    rw [hK] at pa
    split at p
    · rename_i hz
      refine op_in_seq pins s σ H _ _ v u Q I rx ry ⟨a, vs, rfl, .inr pa.sq, flat_rp hz.1 rd, flat_all hz.2 ra, ?_⟩
      rw [flat_mem hz.1 rd hz.2 ra]
      exact p.done st mk_bl
    · exact p.no
  · rename_i ds he
    obtain ⟨a, vs, rfl, pa, ra⟩ := rd_lst st he re
    split at p
    · rename_i hz
      refine op_in_seq pins s σ H _ _ v u Q I rx ry ⟨a, vs, rfl, .inl (SqL.of pa), flat_rp hz.1 rd, flat_all hz.2 ra, ?_⟩
      rw [flat_mem hz.1 rd hz.2 ra]
      exact p.done st mk_bl
    · exact p.no
  · rename_i y he
    have he := vw_of he (by simp)
    subst he
    split at p
    · cases rp_str rd
      cases rp_str re
      exact op_in_str pins s σ H _ _ v u Q I rx ry ⟨_, _, rfl, rfl, by rw [str_len]; exact p.done st mk_bl⟩
    · exact p.no
  · exact p.no
theorem or_notIn (hK : G.K = X.K) : OpR X (compareOp .NotIn) (r2 G E fNotIn) := by
  intro pins s σ H x y v u Q I rx ry h
  obtain ⟨W, S, d, e, st, rd, re, p⟩ := h
  unfold fNotIn at p
  split at p
  · rename_i ds he
    have he := vw_of he (by simp)
    subst he
    obtain ⟨a, vs, rfl, pa, ra⟩ := rp_tup re
    rw [hK] at pa
    split at p
    · rename_i hz
      refine op_notIn_seq pins s σ H _ _ v u Q I rx ry ⟨a, vs, rfl, .inr pa.sq, flat_rp hz.1 rd, flat_all hz.2 ra, ?_⟩
      rw [flat_mem hz.1 rd hz.2 ra]
      exact p.done st mk_bl
    · exact p.no
  · rename_i ds he
    obtain ⟨a, vs, rfl, pa, ra⟩ := rd_lst st he re
    split at p
    · rename_i hz
      refine op_notIn_seq pins s σ H _ _ v u Q I rx ry ⟨a, vs, rfl, .inl (SqL.of pa), flat_rp hz.1 rd, flat_all hz.2 ra, ?_⟩
      rw [flat_mem hz.1 rd hz.2 ra]
      exact p.done st mk_bl
    · exact p.no
  · rename_i y he
    have he := vw_of he (by simp)
    subst he
    split at p
    · cases rp_str rd
      cases rp_str re
      exact L2.op_notIn_str pins s σ H _ _ v u Q I rx ry ⟨_, _, rfl, rfl, by rw [str_len]; exact p.done st mk_bl⟩
    · exact p.no
  · exact p.no

/-! ### truth -/
def truD (d : D) (S : Sto) : Re Bool := match vw S d with
  | .non => .ok false S
  | .bl b => .ok b S
  | .int i => .ok (i != 0) S
  | .str x => if x.length ≤ 1000000 then .ok (!x.isEmpty) S else .bad
  | .tup ds => .ok (!ds.isEmpty) S
  | .lst ds => .ok (!ds.isEmpty) S
  | _ => .bad
def rT (G : Gb) (E : XK) : V → Hp → (Bool → Hp → Prop) → Prop := fun x H Q => ∃ W S d, StoR G W H S ∧ Rp G W H d x ∧ Post G E repB W H (truD d S) Q
theorem empty_rps {W : Wd} {H : Hp} {ds : List D} {vs : List V} (r : Rps G W H ds vs) : vs.isEmpty = ds.isEmpty := by
  have := r.length
  cases ds with
  | nil => rw [Rps.nil_iff.mp r]; rfl
  | cons _ _ => cases vs with
    | nil => simp at this
    | cons _ _ => rfl
theorem tr_ok (hK : G.K = X.K) : TruR X (rT G E) := by
  intro pins s σ H x v Q I rx h
  obtain ⟨W, S, d, st, rd, p⟩ := h
  unfold truD at p
  split at p
  · rename_i he
    have he := vw_of he (by simp)
    subst he
    cases rp_non rd
    exact tru_ok pins s σ H _ v Q I rx ⟨_, rfl, p.done st rfl⟩
  · rename_i he
    have he := vw_of he (by simp)
    subst he
    cases rp_bl rd
    exact tru_ok pins s σ H _ v Q I rx ⟨_, rfl, p.done st rfl⟩
  · rename_i he
    have he := vw_of he (by simp)
    subst he
    cases rp_int rd
    exact tru_ok pins s σ H _ v Q I rx ⟨_, rfl, p.done st rfl⟩
  · rename_i y he
    have he := vw_of he (by simp)
    subst he
    cases rp_str rd
    split at p
    · rename_i hz
      refine tru_ok pins s σ H _ v Q I rx ⟨!y.isEmpty, ⟨by rw [str_len]; exact sz hz, ?_⟩, p.done st rfl⟩
      rw [str_len]
      cases y <;> simp
      omega
    · exact p.no
  · rename_i ds he
    have he := vw_of he (by simp)
    subst he
    obtain ⟨a, vs, rfl, pa, ra⟩ := rp_tup rd
    rw [hK] at pa
    refine tru_ok pins s σ H _ v Q I rx ⟨!ds.isEmpty, .inr (.inl ⟨vs, pa.sq, by rw [empty_rps ra]⟩), p.done st rfl⟩
  · rename_i ds he
    obtain ⟨a, vs, rfl, pa, ra⟩ := rd_lst st he rd
    refine tru_ok pins s σ H _ v Q I rx ⟨!ds.isEmpty, .inl ⟨vs, SqL.of pa, by rw [empty_rps ra]⟩, p.done st rfl⟩
  · exact p.no
end
end DL
set_option Elab.async false
set_option linter.all false
set_option maxRecDepth 100000
set_option maxHeartbeats 4000000
/-! DL4: subscripts, slices, lists' methods, built-in calls. -/
namespace DL
open PySem PySem.Spec PyProof.Rows L2

theorem rps_atI {G : Gb} {W : Wd} {H : Hp} {ds : List D} {vs : List V} {i : Int} {d : D} (r : Rps G W H ds vs) (h : atI ds i = some d) : ∃ v, atI vs i = some v ∧ Rp G W H d v := by
  unfold atI at h ⊢
  rw [r.length]
  cases e : ixN ds.length i with
  | none => rw [e] at h; cases h
  | some j =>
    rw [e] at h
    exact r.get h
def fIx (d e : D) (S : Sto) : Re D := match vw S d, e with
  | .tup ds, .int i => match atI ds i with
    | some x => .ok x S
    | none => .bad
  | .lst ds, .int i => match atI ds i with
    | some x => .ok x S
    | none => .bad
  | .str s, .int i => if s.length ≤ 1000000 then (match atI s i with
    | some c => .ok (.str [c]) S
    | none => .bad) else .bad
  | .scr ns, .int i => match atI ns i with
    | some n => .ok (.int n) S
    | none => .bad
  | _, _ => .bad
theorem atI_map {α β : Type} (f : α → β) (xs : List α) (i : Int) : atI (xs.map f) i = (atI xs i).map f := by
  unfold atI
  rw [List.length_map]
  cases ixN xs.length i with
  | none => rfl
  | some j => simp
section
variable {X : Cx} {G : Gb} {E : XK}
theorem ixr (hK : G.K = X.K) : IxR X (r2 G E fIx) := by
  intro value slice pins s σ H x y v u Q I rx ry h hs
  obtain ⟨W, S, d, e, st, rd, re, p⟩ := h
  unfold fIx at p
  split at p
  · rename_i ds i hd
    have hd := vw_of hd (by simp)
    subst hd
    cases rp_int re
    obtain ⟨a, vs, rfl, pa, ra⟩ := rp_tup rd
    rw [hK] at pa
    split at p
    · rename_i z hz
      obtain ⟨w, h1, h2⟩ := rps_atI ra hz
      exact ix_tup value slice pins s σ H _ _ v u Q I rx ry ⟨a, vs, i, w, rfl, rfl, pa.sq, h1, p.done st h2⟩ hs
    · exact p.no
  · rename_i ds i hd
    cases rp_int re
    obtain ⟨a, vs, rfl, pa, ra⟩ := rd_lst st hd rd
    split at p
    · rename_i z hz
      obtain ⟨w, h1, h2⟩ := rps_atI ra hz
      exact ix_list value slice pins s σ H _ _ v u Q I rx ry ⟨a, vs, i, w, rfl, rfl, SqL.of pa, h1, p.done st h2⟩ hs
    · exact p.no
  · rename_i z i hd
    have hd := vw_of hd (by simp)
    subst hd
    cases rp_int re
    cases rp_str rd
    split at p
    · rename_i hl
      split at p
      · rename_i c hc
        exact ix_str value slice pins s σ H _ _ v u Q I rx ry ⟨_, i, c, rfl, rfl, by rw [str_len]; exact sz hl, by simpa using hc, p.done st mk_str⟩ hs
      · exact p.no
    · exact p.no
  · rename_i ns i hd
    have hd := vw_of hd (by simp)
    subst hd
    cases rp_int re
    obtain ⟨a, rfl, pa⟩ := rp_scr rd
    rw [hK] at pa
    split at p
    · rename_i n hn
      exact ix_list value slice pins s σ H _ _ v u Q I rx ry ⟨a, _, i, .int n, rfl, rfl, pa.sq, by rw [atI_map, hn]; rfl, p.done st mk_int⟩ hs
    · exact p.no
  · exact p.no

/-! ### slices -/
def cut {α : Type} (xs : List α) (lo hi : Option Int) : List α := (xs.drop (HT.sIx xs.length 0 lo)).take (HT.sIx xs.length xs.length hi - HT.sIx xs.length 0 lo)
def fSl (d : D) (lo hi : Option Int) (S : Sto) : Re D := match vw S d with
  | .tup ds => .ok (.tup (cut ds lo hi)) S
  | .lst ds => .ok (.lst (cut ds lo hi)) S
  | .str s => if s.length ≤ 1000000 then .ok (.str (cut s lo hi)) S else .bad
  | _ => .bad
def rSl (G : Gb) (E : XK) : V → Option Int → Option Int → Hp → VK → Prop := fun x lo hi H Q => ∃ W S d, StoR G W H S ∧ Rp G W H d x ∧ Post G E (Rp G) W H (fSl d lo hi S) Q
theorem rps_cut {W : Wd} {H : Hp} {ds : List D} {vs : List V} (r : Rps G W H ds vs) (lo hi : Option Int) : Rps G W H (cut ds lo hi) (cutV vs lo hi) := by
  unfold cut cutV
  rw [r.length]
  exact Rps.take _ (Rps.drop _ r)
theorem sl_ok (hK : G.K = X.K) : L2.SlR X (rSl G E) := by
  intro pins s σ H x v vl vu lo hi sl Q I rx hs pl pu h
  obtain ⟨W, S, d, st, rd, p⟩ := h
  unfold fSl at p
  split at p
  · rename_i ds hd
    have hd := vw_of hd (by simp)
    subst hd
    obtain ⟨a, vs, rfl, pa, ra⟩ := rp_tup rd
    have pa2 := pa
    rw [hK] at pa2
    refine sl_tupA pins s σ H _ v vl vu lo hi sl Q I rx hs pl pu ⟨a, vs, rfl, pa2.sq, fun z => ?_, fun _ q hq => out_tup st p (rps_cut ra lo hi) q hq⟩
    refine p.done st ?_
    have e : cut ds lo hi = ds := by
      unfold cut
      rw [← ra.length, z.1, z.2]
      rw [List.drop_zero, ra.length, Nat.sub_zero, List.take_length]
    rw [e]
    exact rd
  · rename_i ds hd
    obtain ⟨a, vs, rfl, pa, ra⟩ := rd_lst st hd rd
    exact sl_list pins s σ H _ v vl vu lo hi sl Q I rx hs pl pu ⟨a, vs, rfl, SqL.of pa, fun q hq => out_lst st p (rps_cut ra lo hi) q hq⟩
  · rename_i z hd
    have hd := vw_of hd (by simp)
    subst hd
    cases rp_str rd
    split at p
    · rename_i hl
      refine sl_str pins s σ H _ v vl vu lo hi sl Q I rx hs pl pu ⟨_, rfl, by rw [str_len]; exact sz hl, ?_⟩
      have e : cutS (⟨z.toArray⟩ : Str) lo hi = ⟨(cut z lo hi).toArray⟩ := by
        unfold cutS cut
        rw [str_len]
      rw [e]
      exact p.done st mk_str
    · exact p.no
  · exact p.no

/-! ### lists that change -/
theorem out_set {W : Wd} {H : Hp} {S : Sto} {i : Nat} {a : Addr} {ds : List D} {vs : List V} {d : D} {v : V} {Q : VK} (st : StoR G W H S) (ha : W.t[i]? = some a) (p : Post G E (Rp G) W H (.ok d (S.set i (.lst ds))) Q)
    (r : Rps G W H ds vs) (rd : Rp G W H d v) : Q v (upd H a (.lst vs)) := by
  have x : Ext W H W (upd H a (.lst vs)) := Ext.set (List.mem_of_getElem? ha)
  exact p W _ v x (st.set ha ⟨vs, upd_same, Rps.ext x _ _ r⟩) (Rp.ext x _ _ rd)
theorem rd_ref {W : Wd} {H : Hp} {S : Sto} {i : Nat} {v : V} {ds : List D} (st : StoR G W H S) (h : S[i]? = some (.lst ds)) (r : Rp G W H (.ref i) v) : ∃ a vs, v = .ref a ∧ W.t[i]? = some a ∧ H a = some (.lst vs) ∧ Rps G W H ds vs := by
  obtain ⟨a, rfl, ha⟩ := rp_ref r
  obtain ⟨vs, h1, h2⟩ := st.ob i a _ ha h
  exact ⟨a, vs, rfl, ha, h1, h2⟩
def atS (S : Sto) : D → Option (Nat × List D)
  | .ref i => match S[i]? with
    | some (.lst ds) => some (i, ds)
    | _ => none
  | _ => none
theorem atS_ref {S : Sto} {i : Nat} {ds : List D} (h : S[i]? = some (.lst ds)) : atS S (.ref i) = some (i, ds) := by
  unfold atS
  simp only [h]
theorem atS_of {S : Sto} {d : D} {i : Nat} {ds : List D} (h : atS S d = some (i, ds)) : d = .ref i ∧ S[i]? = some (.lst ds) := by
  cases d with
  | ref j =>
    unfold atS at h
    simp only at h
    split at h
    · rename_i xs hx
      cases h
      exact ⟨rfl, hx⟩
    · cases h
  | _ => cases h
def fAppend (d : D) (es : List D) (S : Sto) : Re D := match atS S d, es with
  | some (i, ds), [x] => if ds.length < 1000000 then .ok .non (S.set i (.lst (ds ++ [x]))) else .bad
  | _, _ => .bad
def fPop (d : D) (es : List D) (S : Sto) : Re D := match atS S d, es with
  | some (i, ds), [] => match ds[ds.length - 1]? with
    | some x => .ok x (S.set i (.lst ds.dropLast))
    | none => .bad
  | _, _ => .bad
def fExtend (d : D) (es : List D) (S : Sto) : Re D := match atS S d, es with
  | some (i, ds), [e] => match vw S e with
    | .lst zs => if ds.length + zs.length ≤ 1000000 then .ok .non (S.set i (.lst (ds ++ zs))) else .bad
    | _ => .bad
  | _, _ => .bad
def fSet (d e x : D) (S : Sto) : Re D := match atS S d, e with
  | some (i, ds), .int k => match ixN ds.length k with
    | some j => .ok .non (S.set i (.lst (ds.set j x)))
    | none => .bad
  | _, _ => .bad
theorem Rps.dropLast {W : Wd} {H : Hp} {ds : List D} {vs : List V} (r : Rps G W H ds vs) : Rps G W H ds.dropLast vs.dropLast := by
  rw [List.dropLast_eq_take, List.dropLast_eq_take, r.length]
  exact Rps.take _ r
theorem Rps.one_inv {W : Wd} {H : Hp} {d : D} {vs : List V} (r : Rps G W H [d] vs) : ∃ v, vs = [v] ∧ Rp G W H d v := by
  obtain ⟨v, t, rfl, h, t2⟩ := Rps.cons_iff.mp r
  rw [Rps.nil_iff.mp t2]
  exact ⟨v, rfl, h⟩
theorem Rps.two_inv {W : Wd} {H : Hp} {d e : D} {vs : List V} (r : Rps G W H [d, e] vs) : ∃ v u, vs = [v, u] ∧ Rp G W H d v ∧ Rp G W H e u := by
  obtain ⟨v, t, rfl, h, t2⟩ := Rps.cons_iff.mp r
  obtain ⟨u, rfl, h2⟩ := t2.one_inv
  exact ⟨v, u, rfl, h, h2⟩
theorem m_append : MtM X "list.append" (rM G E fAppend) := by
  intro pins s σ H x xs v us Q I rx rs h
  obtain ⟨W, S, d, es, st, rd, re, p⟩ := h
  unfold fAppend at p
  split at p
  · rename_i i ds y ha
    obtain ⟨rfl, hs⟩ := atS_of ha
    obtain ⟨a, vs, rfl, hat, hH, r⟩ := rd_ref st hs rd
    obtain ⟨w, rfl, rw_⟩ := re.one_inv
    split at p
    · rename_i hz
      exact mt_append pins s σ H _ _ v us Q I rx rs ⟨a, vs, w, rfl, rfl, hH, by rw [r.length]; exact szlt hz, out_set st hat p (r.append (Rps.one rw_)) mk_non⟩
    · exact p.no
  · exact p.no
theorem m_pop : MtM X "list.pop" (rM G E fPop) := by
  intro pins s σ H x xs v us Q I rx rs h
  obtain ⟨W, S, d, es, st, rd, re, p⟩ := h
  unfold fPop at p
  split at p
  · rename_i i ds ha
    obtain ⟨rfl, hs⟩ := atS_of ha
    obtain ⟨a, vs, rfl, hat, hH, r⟩ := rd_ref st hs rd
    cases Rps.nil_iff.mp re
    split at p
    · rename_i y hy
      obtain ⟨w, h1, h2⟩ := r.get hy
      exact mt_pop pins s σ H _ _ v us Q I rx rs ⟨a, vs, w, rfl, rfl, hH, by rw [r.length]; exact h1, out_set st hat p r.dropLast h2⟩
    · exact p.no
  · exact p.no
theorem m_extend : MtM X "list.extend" (rM G E fExtend) := by
  intro pins s σ H x xs v us Q I rx rs h
  obtain ⟨W, S, d, es, st, rd, re, p⟩ := h
  unfold fExtend at p
  split at p
  · rename_i i ds e ha
    obtain ⟨rfl, hs⟩ := atS_of ha
    obtain ⟨a, vs, rfl, hat, hH, r⟩ := rd_ref st hs rd
    obtain ⟨w, rfl, rw_⟩ := re.one_inv
    split at p
    · rename_i zs hz
      obtain ⟨b, ws, rfl, hb, rb⟩ := rd_lst st hz rw_
      split at p
      · rename_i hl
        exact mt_extend pins s σ H _ _ v us Q I rx rs ⟨a, b, vs, ws, rfl, rfl, hH, hb, by rw [r.length, rb.length]; exact sz hl, out_set st hat p (r.append rb) mk_non⟩
      · exact p.no
    · exact p.no
  · exact p.no
/-- o[i] = x -/
def rSet (G : Gb) (E : XK) : TSet := fun o i v H Q => ∃ W S d e x, StoR G W H S ∧ Rp G W H d o ∧ Rp G W H e i ∧ Rp G W H x v ∧ Post G E (Rp G) W H (fSet d e x S) fun _ H' => Q H'
theorem set_ok : PSet X (rSet G E) := by
  intro pins s σ H o i v ov iv u Q I ro ri rv h
  obtain ⟨W, S, d, e, x, st, rd, re, rx, p⟩ := h
  unfold fSet at p
  split at p
  · rename_i n ds k ha
    obtain ⟨rfl, hs⟩ := atS_of ha
    obtain ⟨a, vs, rfl, hat, hH, r⟩ := rd_ref st hs rd
    cases rp_int re
    split at p
    · rename_i j hj
      exact set_list pins s σ H _ _ v ov iv u Q I ro ri rv ⟨a, vs, k, j, rfl, rfl, hH, by rw [r.length]; exact hj, out_set st hat p (r.set rx j) mk_non⟩
    · exact p.no
  · exact p.no

/-! ### built-in calls -/
def fLen (ds : List D) (S : Sto) : Re D := match ds with
  | [d] => match vw S d with
    | .tup ds => .ok (.int ds.length) S
    | .lst ds => .ok (.int ds.length) S
    | .scr ns => .ok (.int ns.length) S
    | .str s => if s.length ≤ 1000000 then .ok (.int s.length) S else .bad
    | _ => .bad
  | _ => .bad
theorem c_len (hK : G.K = X.K) : CallR X (.builtin "len") (rC G E fLen) := by
  intro pins s σ H xs us Q I r h
  obtain ⟨W, S, ds, st, rd, p⟩ := h
  unfold fLen at p
  split at p
  · rename_i d
    obtain ⟨v, rfl, rv⟩ := rd.one_inv
    split at p
    · rename_i es he
      have he := vw_of he (by simp)
      subst he
      obtain ⟨a, vs, rfl, pa, ra⟩ := rp_tup rv
      rw [hK] at pa
      exact call_len_seq pins s σ H _ us Q I r ⟨a, vs, rfl, .inr pa.sq, by rw [ra.length]; exact p.done st mk_int⟩
    · rename_i es he
      obtain ⟨a, vs, rfl, pa, ra⟩ := rd_lst st he rv
      exact call_len_seq pins s σ H _ us Q I r ⟨a, vs, rfl, .inl (SqL.of pa), by rw [ra.length]; exact p.done st mk_int⟩
    · rename_i es he
      have he := vw_of he (by simp)
      subst he
      obtain ⟨a, rfl, pa⟩ := rp_scr rv
      rw [hK] at pa
      exact call_len_seq pins s σ H _ us Q I r ⟨a, _, rfl, .inl pa.sq, by rw [List.length_map]; exact p.done st mk_int⟩
    · rename_i z he
      have he := vw_of he (by simp)
      subst he
      cases rp_str rv
      split at p
      · rename_i hl
        exact call_len_str pins s σ H _ us Q I r ⟨_, rfl, by rw [str_len]; exact sz hl, by rw [str_len]; exact p.done st mk_int⟩
      · exact p.no
    · exact p.no
  · exact p.no
def fInt (ds : List D) (S : Sto) : Re D := match ds with
  | [.int i] => .ok (.int i) S
  | [.bl b] => .ok (.int (if b then 1 else 0)) S
  | [.str s] => match PySem.intText? (⟨s.toArray⟩ : Str) with
    | some n => if s.length ≤ 640 then .ok (.int n) S else .bad
    | none => .bad
  | _ => .bad
theorem c_int : CallR X (.type "int") (rC G E fInt) := by
  intro pins s σ H xs us Q I r h
  obtain ⟨W, S, ds, st, rd, p⟩ := h
  unfold fInt at p
  split at p
  · obtain ⟨v, rfl, rv⟩ := rd.one_inv
    cases rp_int rv
    exact call_int1 pins s σ H _ us Q I r (.inl ⟨_, rfl, p.done st mk_int⟩)
  · obtain ⟨v, rfl, rv⟩ := rd.one_inv
    cases rp_bl rv
    exact call_int1 pins s σ H _ us Q I r (.inr ⟨_, rfl, p.done st mk_int⟩)
  · obtain ⟨v, rfl, rv⟩ := rd.one_inv
    cases rp_str rv
    split at p
    · rename_i n hn
      split at p
      · rename_i hl
        exact call_int_str pins s σ H _ us Q I r ⟨_, n, rfl, hn, by rw [str_len]; exact hl, p.done st mk_int⟩
      · exact p.no
    · exact p.no
  · exact p.no
def fMax (ds : List D) (S : Sto) : Re D := match ds with
  | [.int i, .int j] => .ok (.int (if j > i then j else i)) S
  | _ => .bad
def fMin (ds : List D) (S : Sto) : Re D := match ds with
  | [.int i, .int j] => .ok (.int (if j < i then j else i)) S
  | _ => .bad
theorem c_max (hc : X.calm = true) : CallR X (.builtin "max") (rC G E fMax) := by
  intro pins s σ H xs us Q I r h
  obtain ⟨W, S, ds, st, rd, p⟩ := h
  unfold fMax at p
  split at p
  · obtain ⟨v, u, rfl, rv, ru⟩ := rd.two_inv
    cases rp_int rv
    cases rp_int ru
    exact call_max2 hc pins s σ H _ us Q I r ⟨_, _, rfl, p.done st mk_int⟩
  · exact p.no
theorem c_min (hc : X.calm = true) : CallR X (.builtin "min") (rC G E fMin) := by
  intro pins s σ H xs us Q I r h
  obtain ⟨W, S, ds, st, rd, p⟩ := h
  unfold fMin at p
  split at p
  · obtain ⟨v, u, rfl, rv, ru⟩ := rd.two_inv
    cases rp_int rv
    cases rp_int ru
    exact call_min2 hc pins s σ H _ us Q I r ⟨_, _, rfl, p.done st mk_int⟩
  · exact p.no
/-- the ints of a list -/
def intsD : List D → Option (List Int)
  | [] => some []
  | .int i :: ds => (intsD ds).map (i :: ·)
  | _ => none
theorem intsD_rps {W : Wd} {H : Hp} : ∀ {ds : List D} {ns : List Int} {vs : List V}, intsD ds = some ns → Rps G W H ds vs → vs = ns.map V.int
  | [], ns, vs, h, r => by
    cases h
    rw [Rps.nil_iff.mp r]
    rfl
  | .int i :: ds, ns, vs, h, r => by
    obtain ⟨v, t, rfl, r1, r2⟩ := Rps.cons_iff.mp r
    unfold intsD at h
    cases e : intsD ds with
    | none => rw [e] at h; cases h
    | some ms =>
      rw [e] at h
      cases h
      rw [rp_int r1, intsD_rps e r2]
      rfl
  | .non :: _, _, _, h, _ => by cases h
  | .bl _ :: _, _, _, h, _ => by cases h
  | .str _ :: _, _, _, h, _ => by cases h
  | .tup _ :: _, _, _, h, _ => by cases h
  | .lst _ :: _, _, _, h, _ => by cases h
  | .ref _ :: _, _, _, h, _ => by cases h
  | .fn _ :: _, _, _, h, _ => by cases h
  | .scr _ :: _, _, _, h, _ => by cases h
  | .exn _ _ _ _ :: _, _, _, h, _ => by cases h
theorem intsD_map (ns : List Int) : intsD (ns.map D.int) = some ns := by
  induction ns with
  | nil => rfl
  | cons n ns ih => simp [intsD, ih]
theorem rps_ints {W : Wd} {H : Hp} (ns : List Int) : Rps G W H (ns.map D.int) (ns.map V.int) := by
  induction ns with
  | nil => exact Rps.nil
  | cons n ns ih => exact Rps.cons mk_int ih
def fSum (ds : List D) (S : Sto) : Re D := match ds with
  | [d] => match vw S d with
    | .lst es => match intsD es with
      | some ns => .ok (.int ns.sum) S
      | none => .bad
    | _ => .bad
  | _ => .bad
theorem c_sum (hK : G.K = X.K) (hc : X.calm = true) : CallR X (.builtin "sum") (rC G E fSum) := by
  intro pins s σ H xs us Q I r h
  obtain ⟨W, S, ds, st, rd, p⟩ := h
  unfold fSum at p
  split at p
  · obtain ⟨v, rfl, rv⟩ := rd.one_inv
    split at p
    · rename_i es he
      obtain ⟨a, vs, rfl, pa, ra⟩ := rd_lst st he rv
      split at p
      · rename_i ns hn
        cases intsD_rps hn ra
        exact cr_sum hc pins s σ H _ us Q I r ⟨a, ns, rfl, SqL.of pa, p.done st mk_int⟩
      · exact p.no
    · exact p.no
  · exact p.no
/-! sorting of ints -/
def ins (x : Int) : List Int → List Int
  | [] => [x]
  | y :: ys => if x ≤ y then x :: y :: ys else y :: ins x ys
def isrt : List Int → List Int
  | [] => []
  | x :: xs => ins x (isrt xs)
theorem ins_perm (x : Int) : ∀ l : List Int, (ins x l).Perm (x :: l)
  | [] => List.Perm.refl _
  | y :: ys => by
    unfold ins
    split
    · exact List.Perm.refl _
    · exact ((ins_perm x ys).cons y).trans (List.Perm.swap x y ys)
theorem isrt_perm : ∀ l : List Int, (isrt l).Perm l
  | [] => List.Perm.refl _
  | x :: xs => (ins_perm x (isrt xs)).trans ((isrt_perm xs).cons x)
theorem ins_mem {x y : Int} {l : List Int} : y ∈ ins x l ↔ y = x ∨ y ∈ l := by
  rw [(ins_perm x l).mem_iff, List.mem_cons]
theorem ins_sorted (x : Int) : ∀ l : List Int, l.Pairwise (· ≤ ·) → (ins x l).Pairwise (· ≤ ·)
  | [], _ => by simp [ins]
  | y :: ys, h => by
    have h1 := List.pairwise_cons.mp h
    unfold ins
    split
    · rename_i hxy
      refine List.pairwise_cons.mpr ⟨fun z hz => ?_, h⟩
      rcases List.mem_cons.mp hz with e | hz
      · rw [e]; exact hxy
      · exact Int.le_trans hxy (h1.1 z hz)
    · rename_i hxy
      refine List.pairwise_cons.mpr ⟨fun z hz => ?_, ins_sorted x ys h1.2⟩
      rcases ins_mem.mp hz with e | hz
      · rw [e]; omega
      · exact h1.1 z hz
theorem isrt_sorted : ∀ l : List Int, (isrt l).Pairwise (· ≤ ·)
  | [] => List.Pairwise.nil
  | x :: xs => ins_sorted x _ (isrt_sorted xs)
theorem sorted_uniq : ∀ {l m : List Int}, l.Perm m → l.Pairwise (· ≤ ·) → m.Pairwise (· ≤ ·) → l = m
  | [], m, p, _, _ => (List.nil_perm.mp p).symm
  | x :: xs, [], p, _, _ => by
    have := p.length_eq
    simp at this
  | x :: xs, y :: ys, p, h, k => by
    have h1 := List.pairwise_cons.mp h
    have k1 := List.pairwise_cons.mp k
    have e : x = y := by
      have a1 : y ∈ x :: xs := p.mem_iff.mpr List.mem_cons_self
      have a2 : x ∈ y :: ys := p.mem_iff.mp List.mem_cons_self
      have b1 : x ≤ y := by
        rcases List.mem_cons.mp a1 with e | e
        · omega
        · exact h1.1 y e
      have b2 : y ≤ x := by
        rcases List.mem_cons.mp a2 with e | e
        · omega
        · exact k1.1 x e
      omega
    subst e
    rw [sorted_uniq (List.perm_cons x |>.mp p) h1.2 k1.2]
def fSorted (ds : List D) (S : Sto) : Re D := match ds with
  | [d] => match vw S d with
    | .lst es => match intsD es with
      | some ns => .ok (.lst ((isrt ns).map D.int)) S
      | none => .bad
    | _ => .bad
  | _ => .bad
theorem c_sorted : CallR X (.builtin "sorted") (rC G E fSorted) := by
  intro pins s σ H xs us Q I r h
  obtain ⟨W, S, ds, st, rd, p⟩ := h
  unfold fSorted at p
  split at p
  · obtain ⟨v, rfl, rv⟩ := rd.one_inv
    split at p
    · rename_i es he
      obtain ⟨a, vs, rfl, pa, ra⟩ := rd_lst st he rv
      split at p
      · rename_i ns hn
        cases intsD_rps hn ra
        refine cr_sortedI pins s σ H _ us Q I r ⟨a, ns, rfl, SqL.of pa, fun ns' q h1 h2 hq => ?_⟩
        have e : ns' = isrt ns := sorted_uniq (h1.trans (isrt_perm ns).symm) h2 (isrt_sorted ns)
        subst e
        exact out_lst st p (rps_ints _) q hq
      · exact p.no
    · exact p.no
  · exact p.no
def fTuple (ds : List D) (S : Sto) : Re D := match ds with
  | [d] => match vw S d with
    | .lst es => .ok (.tup es) S
    | .tup es => .ok (.tup es) S
    | _ => .bad
  | _ => .bad
theorem c_tuple (hK : G.K = X.K) : CallR X (.type "tuple") (rC G E fTuple) := by
  intro pins s σ H xs us Q I r h
  obtain ⟨W, S, ds, st, rd, p⟩ := h
  unfold fTuple at p
  split at p
  · obtain ⟨v, rfl, rv⟩ := rd.one_inv
    split at p
    · rename_i es he
      obtain ⟨a, vs, rfl, pa, ra⟩ := rd_lst st he rv
      exact call_tuple_of pins s σ H _ us Q I r ⟨a, vs, rfl, .inl ⟨SqL.of pa, fun q hq => out_tup st p ra q hq⟩⟩
    · rename_i es he
      have he := vw_of he (by simp)
      subst he
      obtain ⟨a, vs, rfl, pa, ra⟩ := rp_tup rv
      rw [hK] at pa
      exact call_tuple_of pins s σ H _ us Q I r ⟨a, vs, rfl, .inr ⟨pa.sq, p.done st rv⟩⟩
    · exact p.no
  · exact p.no
def fList (ds : List D) (S : Sto) : Re D := match ds with
  | [d] => match vw S d with
    | .lst es => .ok (.lst es) S
    | .tup es => .ok (.lst es) S
    | _ => .bad
  | _ => .bad
theorem c_list (hK : G.K = X.K) : CallR X (.type "list") (rC G E fList) := by
  intro pins s σ H xs us Q I r h
  obtain ⟨W, S, ds, st, rd, p⟩ := h
  unfold fList at p
  split at p
  · obtain ⟨v, rfl, rv⟩ := rd.one_inv
    split at p
    · rename_i es he
      obtain ⟨a, vs, rfl, pa, ra⟩ := rd_lst st he rv
      exact call_list_of pins s σ H _ us Q I r ⟨a, vs, rfl, .inl (SqL.of pa), fun q hq => out_lst st p ra q hq⟩
    · rename_i es he
      have he := vw_of he (by simp)
      subst he
      obtain ⟨a, vs, rfl, pa, ra⟩ := rp_tup rv
      rw [hK] at pa
      exact call_list_of pins s σ H _ us Q I r ⟨a, vs, rfl, .inr pa.sq, fun q hq => out_lst st p ra q hq⟩
    · exact p.no
  · exact p.no
/-- the signs of a number's text -/
def digS (i : Int) : List Nat := (PySem.Str.ofString (toString i)).cps.toList
def fStr (ds : List D) (S : Sto) : Re D := match ds with
  | [.int i] => if i.natAbs.log2 < 1920 then .ok (.str (digS i)) S else .bad
  | [.str s] => .ok (.str s) S
  | _ => .bad
theorem c_str : CallR X (.type "str") (rC G E fStr) := by
  intro pins s σ H xs us Q I r h
  obtain ⟨W, S, ds, st, rd, p⟩ := h
  unfold fStr at p
  split at p
  · obtain ⟨v, rfl, rv⟩ := rd.one_inv
    cases rp_int rv
    split at p
    · rename_i hl
      refine call_str_int pins s σ H _ us Q I r ⟨_, rfl, hl, ?_⟩
      have q := p.done st mk_str
      unfold digS at q
      simpa using q
    · exact p.no
  · obtain ⟨v, rfl, rv⟩ := rd.one_inv
    cases rp_str rv
    exact SkE.call_str_str pins s σ H _ us Q I r ⟨_, rfl, p.done st mk_str⟩
  · exact p.no

/-! isinstance of built-in types -/
def tyD (S : Sto) (d : D) : Option String := match vw S d with
  | .non => some "NoneType"
  | .bl _ => some "bool"
  | .int _ => some "int"
  | .str _ => some "str"
  | .tup _ => some "tuple"
  | .lst _ => some "list"
  | _ => none
def isT (a b : String) : Bool := a == b || (a == "bool" && b == "int")
def tys : List String := ["int", "str", "tuple", "bool", "list"]
theorem kitB_ok : ∀ a ∈ ["NoneType", "bool", "int", "str", "tuple", "list"], ∀ b ∈ tys, kitB a b = some (isT a b) := by decide +kernel
def fIsi (T : String) (d : D) (S : Sto) : Re D := match tyD S d with
  | some a => if tys.contains T = true then .ok (.bl (isT a T)) S else .bad
  | none => .bad
theorem tyX_of {W : Wd} {H : Hp} {S : Sto} {d : D} {v : V} {a : String} (st : StoR G W H S) (h : tyD S d = some a) (r : Rp G W H d v) : TyX G.K H v (.type a) ∧ a ∈ ["NoneType", "bool", "int", "str", "tuple", "list"] := by
  unfold tyD at h
  split at h
  all_goals first | (cases h; done) | (injection h with h; subst h)
  · rename_i he
    have he := vw_of he (by simp)
    subst he
    cases rp_non r
    exact ⟨.base .non, by decide⟩
  · rename_i he
    have he := vw_of he (by simp)
    subst he
    cases rp_bl r
    exact ⟨.base (.bl _), by decide⟩
  · rename_i he
    have he := vw_of he (by simp)
    subst he
    cases rp_int r
    exact ⟨.base (.int _), by decide⟩
  · rename_i he
    have he := vw_of he (by simp)
    subst he
    cases rp_str r
    exact ⟨.base (.str _), by decide⟩
  · rename_i he
    have he := vw_of he (by simp)
    subst he
    obtain ⟨a, vs, rfl, pa, ra⟩ := rp_tup r
    refine ⟨?_, by decide⟩
    rcases pa with ⟨_, _, pa | ⟨o, pa⟩⟩ | ⟨o, its, n, h1, h2, _⟩
    · exact .base (.tup pa)
    · exact .fTuple pa
    · exact .kTuple h1 h2
  · rename_i he
    obtain ⟨a, vs, rfl, pa, ra⟩ := rd_lst st he r
    exact ⟨.base (.lst pa), by decide⟩
end
end DL
set_option Elab.async false
set_option linter.all false
set_option maxRecDepth 100000
set_option maxHeartbeats 4000000
/-! DL5: a small syntax and what it means. -/
namespace DL
open PySem PySem.Spec PyProof.Rows L2

inductive Bo where
  | add | sub | mul | div | mod | pow
  deriving DecidableEq
inductive Co where
  | eq | ne | lt | le | gt | ge | is | isN | in_ | notIn
  deriving DecidableEq
inductive Bi where
  | len | int | max | min | sum | sorted | tuple | list | str
  deriving DecidableEq
inductive Mt where
  | append | pop | extend | join | split | words | splitMax | startswith | isdigit | isascii | isprintable | isalnum | isalpha | lower | removeprefix | lstripC | find2 | find3
  deriving DecidableEq

mutual
inductive Tg where
  | name (i : Nat)
  | tup (ts : Tgs)
inductive Tgs where
  | nil
  | cons (t : Tg) (ts : Tgs)
end

mutual
inductive Ex where
  | var (i : Nat)
  | int (i : Int)
  | str (s : List Nat)
  | bl (b : Bool)
  | non
  | glo (x : String)
  | fnv (f : Nat)
  | bin (o : Bo) (a b : Ex)
  | neg (a : Ex)
  | cmp (o : Co) (a b : Ex)
  | chn (o p : Co) (a b c : Ex)
  | and (es : Exs)
  | or (es : Exs)
  | not (a : Ex)
  | ite (c a b : Ex)
  | call (f : Nat) (es : Exs)
  | callv (i : Nat) (es : Exs)
  | blt (b : Bi) (es : Exs)
  | isi (a : Ex) (T : String)
  | mth (m : Mt) (o : Ex) (es : Exs)
  | tup (es : Exs)
  | lst (es : Exs)
  | new (es : Exs)
  | ix (a b : Ex)
  | sl (a : Ex) (lo hi : Ox)
  | comp (trk : Bool) (own : List Nat) (elt : Ex) (t : Tg) (it : Itr) (c : Ox)
  | comp2 (trk : Bool) (own : List Nat) (elt : Ex) (t : Tg) (it : Itr) (c : Ox) (own2 : List Nat) (t2 : Tg) (it2 : Itr) (c2 : Ox)
  | sset (own : List Nat) (elt : Ex) (t : Tg) (it : Itr) (own2 : List Nat) (t2 : Tg) (it2 : Itr)
  | ssrt (a : Ex)
  | skey (a : Ex)
  | fmt (a : Ex)
  | joi (es : Exs)
  | fld (a : Ex) (n : Str)
  | isx (a : Ex) (T : Str)
inductive Exs where
  | nil
  | cons (e : Ex) (es : Exs)
inductive Ox where
  | none
  | some (e : Ex)
inductive Itr where
  | plain (e : Ex)
  | range1 (a : Ex)
  | range2 (a b : Ex)
  | rev (e : Ex)
  | enum (e : Ex)
  | zip (a b : Ex)
end

/-- the error that a suite holds: its address, its dict's, its class -/
abbrev Exc := Option (Nat × Nat × Nat)
/-- what the meaning hangs on: the defs, the module's constants, a bound for whiles; what is told of the error classes (the fields, what a call makes, which clause catches, isinstance); the error in hand -/
structure Par where
  fn : Nat → List D → Sto → Re D
  gc : String → Option D
  fuel : Nat
  xf : Nat → List Str
  mke : Nat → List D → Option (List D)
  exm : Str → Nat → Option Bool
  isx : Nat → Str → Option Bool
  ex : Exc
def fFld (ex : Exc) (xf : Nat → List Str) (n : Str) (d : D) (S : Sto) : Re D := match d with
  | .exn a dd x fs => if ex = some (a, dd, x) then match ((xf x).zip fs).lookup n with
    | some e => .ok e S
    | none => .bad
    else .bad
  | _ => .bad
def fIsx (ex : Exc) (isx : Nat → Str → Option Bool) (T : Str) (d : D) (S : Sto) : Re D := match d with
  | .exn a dd x fs => if ex = some (a, dd, x) then match isx x T with
    | some b => .ok (.bl b) S
    | none => .bad
    else .bad
  | _ => .bad

/-! ### stores to names -/
mutual
def asg : Tg → D → Loc → Option Loc
  | .name i, d, r => some (r.set i (some d))
  | .tup ts, d, r => match d with
    | .tup ds => asgs ts ds r
    | .lst ds => asgs ts ds r
    | _ => none
def asgs : Tgs → List D → Loc → Option Loc
  | .nil, ds, r => match ds with
    | [] => some r
    | _ => none
  | .cons t ts, ds, r => match ds with
    | d :: ds => (asg t d r).bind (asgs ts ds)
    | [] => none
end
def wipeL (r : Loc) : List Nat → Loc
  | [] => r
  | v :: vs => (wipeL r vs).set v none

/-! ### operations by name -/
def boF : Bo → D → D → Sto → Re D
  | .add => fAdd | .sub => fSub | .mul => fMul | .div => fDiv | .mod => fMod | .pow => fPow
def coF : Co → D → D → Sto → Re D
  | .eq => fEq | .ne => fNe | .lt => fLt | .le => fLe | .gt => fGt | .ge => fGe | .is => fIs | .isN => fIsN | .in_ => fIn | .notIn => fNotIn
def biF : Bi → List D → Sto → Re D
  | .len => fLen | .int => fInt | .max => fMax | .min => fMin | .sum => fSum | .sorted => fSorted | .tuple => fTuple | .list => fList | .str => fStr
def strsD : List D → Option (List (List Nat))
  | [] => some []
  | .str s :: ds => (strsD ds).map (s :: ·)
  | _ => none
def strL (x : Str) : D := .str x.cps.toList
def strO (x : List Nat) : Str := ⟨x.toArray⟩
/-- s.join(xs) -/
def joinS (a : List Nat) : List (List Nat) → List Nat
  | [] => []
  | [x] => x
  | x :: y :: r => x ++ a ++ joinS a (y :: r)
def fJoin (d : D) (es : List D) (S : Sto) : Re D := match d, es with
  | .str a, [e] => match vw S e with
    | .lst ds => match strsD ds with
      | some xs => if (xs.map (·.length)).sum + xs.length * a.length ≤ 1000000 then .ok (.str (joinS a xs)) S else .bad
      | none => .bad
    | .tup ds => match strsD ds with
      | some xs => if (xs.map (·.length)).sum + xs.length * a.length ≤ 1000000 then .ok (.str (joinS a xs)) S else .bad
      | none => .bad
    | _ => .bad
  | _, _ => .bad
def fSplit (d : D) (es : List D) (S : Sto) : Re D := match d, es with
  | .str a, [.str b] => if b.length ≠ 0 ∧ a.length ≤ 1000000 then .ok (.lst ((Txt.split (strO a) (strO b)).map strL)) S else .bad
  | _, _ => .bad
def fWords (d : D) (es : List D) (S : Sto) : Re D := match d, es with
  | .str a, [] => if a.length ≤ 1000000 then .ok (.lst ((Txt.words (strO a)).map strL)) S else .bad
  | _, _ => .bad
def fSplitMax (d : D) (es : List D) (S : Sto) : Re D := match d, es with
  | .str a, [.str b, .int k] => if b.length ≠ 0 ∧ a.length ≤ 1000000 ∧ 0 ≤ k ∧ k < 1000000 then .ok (.lst ((Txt.splitMax (strO a) (strO b) k).map strL)) S else .bad
  | _, _ => .bad
def fStarts (d : D) (es : List D) (S : Sto) : Re D := match d, es with
  | .str a, [.str b] => .ok (.bl (Txt.startswith (strO a) (strO b))) S
  | _, _ => .bad
/-- a text alone, told a truth -/
def fTx0 (g : Str → Bool) (d : D) (es : List D) (S : Sto) : Re D := match d, es with
  | .str a, [] => .ok (.bl (g (strO a))) S
  | _, _ => .bad
def fLower (d : D) (es : List D) (S : Sto) : Re D := match d, es with
  | .str a, [] => if a.length ≤ 1000000 then .ok (strL (Txt.lower (strO a))) S else .bad
  | _, _ => .bad
def fTx1 (g : Str → Str → Str) (d : D) (es : List D) (S : Sto) : Re D := match d, es with
  | .str a, [.str b] => if a.length ≤ 1000000 then .ok (strL (g (strO a) (strO b))) S else .bad
  | _, _ => .bad
def fFind2 (d : D) (es : List D) (S : Sto) : Re D := match d, es with
  | .str a, [.str b, .int i] => .ok (.int (Txt.find3 (strO a) (strO b) i)) S
  | _, _ => .bad
def fFind3 (d : D) (es : List D) (S : Sto) : Re D := match d, es with
  | .str a, [.str b, .int i, .int j] => .ok (.int (Txt.findIn (strO a) (strO b) i j)) S
  | _, _ => .bad
/-- {x} -/
def fFmt (d : D) (S : Sto) : Re D := match d with
  | .int i => if i.natAbs.log2 < 1920 then .ok (.str (digS i)) S else .bad
  | .str s => if s.length ≤ 1000000 then .ok (.str s) S else .bad
  | _ => .bad
/-- the texts one behind the other -/
def fCat (xs : List (List Nat)) (S : Sto) : Re D := if (xs.map (·.length)).sum ≤ 1000000 then .ok (.str xs.flatten) S else .bad
def mtF : Mt → D → List D → Sto → Re D
  | .append => fAppend | .pop => fPop | .extend => fExtend | .join => fJoin | .split => fSplit | .words => fWords | .splitMax => fSplitMax | .startswith => fStarts | .isdigit => fTx0 Txt.isdigit | .isascii => fTx0 Txt.isascii | .isprintable => fTx0 Txt.isprintable | .isalnum => fTx0 Txt.isalnum | .isalpha => fTx0 Txt.isalpha
  | .lower => fLower | .removeprefix => fTx1 Txt.removeprefix | .lstripC => fTx1 Txt.lstripChars | .find2 => fFind2 | .find3 => fFind3
def mtT : Mt → String
  | .append => "list" | .pop => "list" | .extend => "list" | _ => "str"
/-- is the receiver of the method's type -/
def mtOk (m : Mt) (d : D) (S : Sto) : Bool := match vw S d with
  | .lst _ => mtT m == "list"
  | .str _ => mtT m == "str"
  | _ => false

/-! ### what is walked -/
abbrev Gd := Option (Nat × List D)
def gdOk (g : Gd) (S : Sto) : Prop := match g with
  | none => True
  | some (i, ds) => S[i]? = some (.lst ds)
/-- a walked value: its items, its guard -/
def walk (d : D) (S : Sto) : Re (List D × Gd) := match d with
  | .tup ds => .ok (ds, none) S
  | .lst ds => .ok (ds, none) S
  | .scr ns => .ok (ns.map D.int, none) S
  | .str s => .ok (s.map fun c => .str [c], none) S
  | .ref i => match S[i]? with
    | some (.lst ds) => .ok (ds, some (i, ds)) S
    | _ => .bad
  | _ => .bad
def rangeD (lo : Int) : Nat → List D
  | 0 => []
  | n + 1 => .int lo :: rangeD (lo + 1) n
def enumD (k : Int) : List D → List D
  | [] => []
  | d :: ds => .tup [.int k, d] :: enumD (k + 1) ds
def zipD : List D → List D → List D
  | d :: ds, e :: es => .tup [d, e] :: zipD ds es
  | _, _ => []
/-- only things that stand still -/
def still (w : Re (List D × Gd)) : Re (List D) := match w with
  | .ok (ds, none) S => .ok ds S
  | .ok (ds, some _) S => .bad
  | .err x fs S => .err x fs S
  | .bad => .bad

open Classical in
/-- a comprehension's loop: g gives an item or none -/
noncomputable def compG (gd : Gd) (g : D → Sto → Re (Option D)) : List D → Sto → Re (List D)
  | [], S => if gdOk gd S then .ok [] S else .bad
  | x :: xs, S => if gdOk gd S then (g x S).bind fun o S1 => (compG gd g xs S1).bind fun r S2 => .ok (o.toList ++ r) S2 else .bad
open Classical in
noncomputable def compL (gd : Gd) (g : D → Sto → Re (List D)) : List D → Sto → Re (List D)
  | [], S => if gdOk gd S then .ok [] S else .bad
  | x :: xs, S => if gdOk gd S then (g x S).bind fun o S1 => (compL gd g xs S1).bind fun r S2 => .ok (o ++ r) S2 else .bad
/-- no exception goes out -/
def Re.quiet {α : Type} (r : Re α) : Re α := match r with
  | .err _ _ _ => .bad
  | r => r
def toB (d : D) (S : Sto) : Re Bool := match d with
  | .bl b => .ok b S
  | _ => .bad
def keyP : D → Option (Int × Int)
  | .tup (.int a :: .int b :: _) => some (a, b)
  | _ => none
def ltP2 (p q : Int × Int) : Bool := decide (p.1 < q.1) || (p.1 == q.1 && decide (p.2 < q.2))
/-- stable insertion by a pair of ints -/
def insK (x : (Int × Int) × D) : List ((Int × Int) × D) → List ((Int × Int) × D)
  | [] => [x]
  | y :: ys => if ltP2 y.1 x.1 then y :: insK x ys else x :: y :: ys
def srtK : List ((Int × Int) × D) → List ((Int × Int) × D)
  | [] => []
  | x :: xs => insK x (srtK xs)
def keysD : List D → Option (List ((Int × Int) × D))
  | [] => some []
  | d :: ds => match keyP d, keysD ds with
    | some k, some r => some ((k, d) :: r)
    | _, _ => none
def fSkey (d : D) (S : Sto) : Re D := match d with
  | .lst ds => match keysD ds with
    | some ks => .ok (.lst ((srtK ks).map (·.2))) S
    | none => .bad
  | _ => .bad
/-- sorted(set(ints)) -/
def dedup : List Int → List Int
  | [] => []
  | x :: xs => if x ∈ xs then dedup xs else x :: dedup xs
def fSsrt (d : D) (S : Sto) : Re D := match vw S d with
  | .lst es => match intsD es with
    | some ns => if ns.length < 60 then .ok (.lst ((isrt (dedup ns)).map D.int)) S else .bad
    | none => .bad
  | _ => .bad
def pushD (trk : Bool) (ds : List D) (S : Sto) : Re D := if trk then .ok (.ref S.length) (S ++ [.lst ds]) else .ok (.lst ds) S

/-! ### expressions -/
mutual
noncomputable def semE (P : Par) : Ex → M D
  | .var i => fun r S => match r[i]? with
    | some (some d) => .ok d S
    | _ => .bad
  | .int i => fun _ S => .ok (.int i) S
  | .str s => fun _ S => .ok (.str s) S
  | .bl b => fun _ S => .ok (.bl b) S
  | .non => fun _ S => .ok .non S
  | .glo x => fun _ S => match P.gc x with
    | some d => .ok d S
    | none => .bad
  | .fnv f => fun _ S => .ok (.fn f) S
  | .bin o a b => fun r S => (semE P a r S).bind fun x S1 => (semE P b r S1).bind fun y S2 => boF o x y S2
  | .neg a => fun r S => (semE P a r S).bind fNeg
  | .cmp o a b => fun r S => (semE P a r S).bind fun x S1 => (semE P b r S1).bind fun y S2 => coF o x y S2
  | .chn o p a b c => fun r S => (semE P a r S).bind fun x S1 => (semE P b r S1).bind fun y S2 => (coF o x y S2).bind fun z S3 => (toB z S3).bind fun k S4 =>
      if k then (semE P c r S4).bind fun w S5 => (coF p y w S5).bind fun z2 S6 => (toB z2 S6).bind fun k2 S7 => .ok (.bl k2) S7 else .ok (.bl false) S4
  | .and es => fun r S => semAnd P es r S
  | .or es => fun r S => semOr P es r S
  | .not a => fun r S => (semE P a r S).bind fun d S1 => (truD d S1).bind fun b S2 => .ok (.bl (!b)) S2
  | .ite c a b => fun r S => (semB P c r S).bind fun k S1 => if k then semE P a r S1 else semE P b r S1
  | .call f es => fun r S => (semEs P es r S).bind fun ds S1 => P.fn f ds S1
  | .callv i es => fun r S => match r[i]? with
    | some (some (.fn f)) => (semEs P es r S).bind fun ds S1 => P.fn f ds S1
    | _ => .bad
  | .blt b es => fun r S => (semEs P es r S).bind fun ds S1 => biF b ds S1
  | .isi a T => fun r S => (semE P a r S).bind fun d S1 => fIsi T d S1
  | .mth m o es => fun r S => (semE P o r S).bind fun d S1 => if mtOk m d S1 then (semEs P es r S1).bind fun ds S2 => mtF m d ds S2 else .bad
  | .tup es => fun r S => (semEs P es r S).bind fun ds S1 => .ok (.tup ds) S1
  | .lst es => fun r S => (semEs P es r S).bind fun ds S1 => .ok (.lst ds) S1
  | .new es => fun r S => (semEs P es r S).bind fun ds S1 => .ok (.ref S1.length) (S1 ++ [.lst ds])
  | .ix a b => fun r S => (semE P a r S).bind fun x S1 => (semE P b r S1).bind fun y S2 => fIx x y S2
  | .sl a lo hi => fun r S => (semE P a r S).bind fun x S1 => (semO P lo r S1).bind fun l S2 => (semO P hi r S2).bind fun u S3 => fSl x l u S3
  | .comp trk own elt t it c => fun r S => (semI P it r S).bind fun w S1 =>
      if w.1.length ≤ 1000000 then
        (compG w.2 (fun x S2 => match asg t x (wipeL r own) with
          | some r2 => ((semC P c r2 S2).bind fun k S3 => if k then (semE P elt r2 S3).bind fun y S4 => .ok (some y) S4 else .ok none S3).quiet
          | none => .bad) w.1 S1).bind fun ds S2 => pushD trk ds S2
      else .bad
  | .comp2 trk own elt t it c own2 t2 it2 c2 => fun r S => (semI P it r S).bind fun w S1 =>
      if w.1.length ≤ 1000 then
        (compL w.2 (fun x S2 => match asg t x (wipeL r own) with
          | some r2 => ((semC P c r2 S2).bind fun k S3 => if k then (semI P it2 r2 S3).bind fun w2 S4 =>
              if w2.1.length ≤ 1000 then
                compG w2.2 (fun x2 S5 => match asg t2 x2 (wipeL r2 own2) with
                  | some r3 => ((semC P c2 r3 S5).bind fun k2 S6 => if k2 then (semE P elt r3 S6).bind fun y S7 => .ok (some y) S7 else .ok none S6).quiet
                  | none => .bad) w2.1 S4
              else .bad
            else .ok [] S3).quiet
          | none => .bad) w.1 S1).bind fun ds S2 => pushD trk ds S2
      else .bad
  | .sset own elt t it own2 t2 it2 => fun r S => (semI P it r S).bind fun w S1 =>
      if w.1.length ≤ 1000 then
        (compL w.2 (fun x S2 => match asg t x (wipeL r own) with
          | some r2 => ((semI P it2 r2 S2).bind fun w2 S4 =>
              if w2.1.length ≤ 1000 then
                compG w2.2 (fun x2 S5 => match asg t2 x2 (wipeL r2 own2) with
                  | some r3 => ((semE P elt r3 S5).bind fun y S7 => .ok (some y) S7).quiet
                  | none => .bad) w2.1 S4
              else .bad).quiet
          | none => .bad) w.1 S1).bind fun ds S2 => fSsrt (.lst ds) S2
      else .bad
  | .ssrt a => fun r S => (semE P a r S).bind fSsrt
  | .fmt a => fun r S => (semE P a r S).bind fFmt
  | .joi es => fun r S => (semJ P es r S).bind fCat
  | .fld a n => fun r S => (semE P a r S).bind (fFld P.ex P.xf n)
  | .isx a T => fun r S => (semE P a r S).bind (fIsx P.ex P.isx T)
  | .skey a => fun r S => (semE P a r S).bind fSkey
noncomputable def semEs (P : Par) : Exs → M (List D)
  | .nil => fun _ S => .ok [] S
  | .cons e es => fun r S => (semE P e r S).bind fun d S1 => (semEs P es r S1).bind fun ds S2 => .ok (d :: ds) S2
noncomputable def semJ (P : Par) : Exs → M (List (List Nat))
  | .nil => fun _ S => .ok [] S
  | .cons e es => fun r S => (semE P e r S).bind fun d S1 => match d with
    | .str s => if s.length ≤ 100000 then (semJ P es r S1).bind fun xs S2 => .ok (s :: xs) S2 else .bad
    | _ => .bad
noncomputable def semAnd (P : Par) : Exs → M D
  | .nil => fun _ _ => .bad
  | .cons e .nil => fun r S => semE P e r S
  | .cons e es => fun r S => (semE P e r S).bind fun d S1 => (truD d S1).bind fun k S2 => if k then semAnd P es r S2 else .ok d S2
noncomputable def semOr (P : Par) : Exs → M D
  | .nil => fun _ _ => .bad
  | .cons e .nil => fun r S => semE P e r S
  | .cons e es => fun r S => (semE P e r S).bind fun d S1 => (truD d S1).bind fun k S2 => if k then .ok d S2 else semOr P es r S2
noncomputable def semO (P : Par) : Ox → M (Option Int)
  | .none => fun _ S => .ok none S
  | .some e => fun r S => (semE P e r S).bind fun d S1 => match d with
    | .int i => .ok (some i) S1
    | _ => .bad
/-- a test that may be left out -/
noncomputable def semC (P : Par) : Ox → M Bool
  | .none => fun _ S => .ok true S
  | .some e => fun r S => semB P e r S
noncomputable def semI (P : Par) : Itr → M (List D × Gd)
  | .plain e => fun r S => (semE P e r S).bind walk
  | .range1 a => fun r S => (semE P a r S).bind fun x S1 => match x with
    | .int n => if n.natAbs < 4611686018427387904 then .ok (rangeD 0 n.toNat, none) S1 else .bad
    | _ => .bad
  | .range2 a b => fun r S => (semE P a r S).bind fun x S1 => (semE P b r S1).bind fun y S2 => match x, y with
    | .int n, .int m => if n.natAbs < 4611686018427387904 ∧ m.natAbs < 4611686018427387904 then .ok (rangeD n (m - n).toNat, none) S2 else .bad
    | _, _ => .bad
  | .rev e => fun r S => (semE P e r S).bind fun x S1 => match x with
    | .tup ds => .ok (ds.reverse, none) S1
    | .lst ds => .ok (ds.reverse, none) S1
    | _ => .bad
  | .enum e => fun r S => (semE P e r S).bind fun x S1 => match x with
    | .lst ds => .ok (enumD 0 ds, none) S1
    | _ => .bad
  | .zip a b => fun r S => (semE P a r S).bind fun x S1 => (semE P b r S1).bind fun y S2 => match x, y with
    | .tup ds, .tup es => .ok (zipD ds es, none) S2
    | .lst ds, .lst es => .ok (zipD ds es, none) S2
    | _, _ => .bad
/-- as a test -/
noncomputable def semB (P : Par) : Ex → M Bool
  | .and es => fun r S => semAll P es r S
  | .or es => fun r S => semAny P es r S
  | .not a => fun r S => (semB P a r S).bind fun b S1 => .ok (!b) S1
  | .ite c a b => fun r S => (semB P c r S).bind fun k S1 => if k then semB P a r S1 else semB P b r S1
  | .cmp o a b => fun r S => (semE P a r S).bind fun x S1 => (semE P b r S1).bind fun y S2 => (coF o x y S2).bind toB
  | .chn o p a b c => fun r S => (semE P a r S).bind fun x S1 => (semE P b r S1).bind fun y S2 => (coF o x y S2).bind fun z S3 => (toB z S3).bind fun k S4 =>
      if k then (semE P c r S4).bind fun w S5 => (coF p y w S5).bind toB else .ok false S4
  | .var i => fun r S => (match r[i]? with
    | some (some d) => .ok d S
    | _ => .bad : Re D).bind truD
  | .call f es => fun r S => ((semEs P es r S).bind fun ds S1 => P.fn f ds S1).bind truD
  | .callv i es => fun r S => (match r[i]? with
    | some (some (.fn f)) => (semEs P es r S).bind fun ds S1 => P.fn f ds S1
    | _ => .bad : Re D).bind truD
  | .isi a T => fun r S => ((semE P a r S).bind fun d S1 => fIsi T d S1).bind truD
  | .isx a T => fun r S => ((semE P a r S).bind (fIsx P.ex P.isx T)).bind truD
  | .mth m o es => fun r S => ((semE P o r S).bind fun d S1 => if mtOk m d S1 then (semEs P es r S1).bind fun ds S2 => mtF m d ds S2 else .bad).bind truD
  | .ix a b => fun r S => ((semE P a r S).bind fun x S1 => (semE P b r S1).bind fun y S2 => fIx x y S2).bind truD
  | .bl b => fun _ S => .ok b S
  | _ => fun _ _ => .bad
noncomputable def semAll (P : Par) : Exs → M Bool
  | .nil => fun _ S => .ok true S
  | .cons e es => fun r S => (semB P e r S).bind fun k S1 => if k then semAll P es r S1 else .ok false S1
noncomputable def semAny (P : Par) : Exs → M Bool
  | .nil => fun _ S => .ok false S
  | .cons e es => fun r S => (semB P e r S).bind fun k S1 => if k then .ok true S1 else semAny P es r S1
end
end DL
set_option Elab.async false
set_option linter.all false
set_option maxRecDepth 100000
set_option maxHeartbeats 4000000
/-! DL6: readings of the small syntax's parts, one lemma a construct. -/
namespace DL
open PySem PySem.Spec PyProof.Rows L2

section
variable {G : Gb} {E : XK} {a b c d : Type} {q : L2.St} {H : Hp}
theorem T.imp {p : Rep a b} {f : M a} {Q Q' : b → Hp → Prop} (h : T G E p f q H Q) (k : ∀ v H', Q v H' → Q' v H') : T G E p f q H Q' := by
  obtain ⟨W, r, S, rel, h⟩ := h
  exact ⟨W, r, S, rel, h.imp k⟩
theorem T.congr {p : Rep a b} {f g : M a} {Q : b → Hp → Prop} (h : T G E p f q H Q) (e : ∀ r S, f r S = g r S) : T G E p g q H Q := by
  obtain ⟨W, r, S, rel, h⟩ := h
  exact ⟨W, r, S, rel, by rw [← e]; exact h⟩
/-- one part, then the rest -/
theorem T.seq {p : Rep a b} {p' : Rep c d} {f : M a} {g : a → Loc → Sto → Re c} {Q : d → Hp → Prop} (h : T G E p' (fun r S => (f r S).bind fun x S1 => g x r S1) q H Q) :
    T G E p f q H fun v H1 => ∃ W1 r S1 x, Rel G W1 r S1 q H1 ∧ p W1 H1 x v ∧ Post G E p' W1 H1 (g x r S1) Q := by
  obtain ⟨W, r, S, rel, h⟩ := h
  refine ⟨W, r, S, rel, Post.imp (Post.bind (p := p) h) fun v H1 k => ?_⟩
  obtain ⟨W1, x, S1, ext, st, pr, _, k⟩ := k
  exact ⟨W1, r, S1, x, ⟨rel.sl.ext ext, st⟩, pr, k⟩
theorem T.seq' {p : Rep a b} {p' : Rep c d} {f : M a} {g : a → Sto → Re c} {Q : d → Hp → Prop} (h : T G E p' (fun r S => (f r S).bind g) q H Q) :
    T G E p f q H fun v H1 => ∃ W1 r S1 x, Rel G W1 r S1 q H1 ∧ p W1 H1 x v ∧ Post G E p' W1 H1 (g x S1) Q := by
  obtain ⟨W, r, S, rel, h⟩ := h
  refine ⟨W, r, S, rel, Post.imp (Post.bind (p := p) h) fun v H1 k => ?_⟩
  obtain ⟨W1, x, S1, ext, st, pr, _, k⟩ := k
  exact ⟨W1, r, S1, x, ⟨rel.sl.ext ext, st⟩, pr, k⟩
theorem Post.thn {p : Rep a b} {p' : Rep c d} {W : Wd} {r : Re a} {g : a → Sto → Re c} {Q : d → Hp → Prop} (h : Post G E p' W H (r.bind g) Q) :
    Post G E p W H r fun v H1 => ∃ W1 x S1, Ext W H W1 H1 ∧ StoR G W1 H1 S1 ∧ p W1 H1 x v ∧ Post G E p' W1 H1 (g x S1) Q :=
  (Post.bind (p := p) h).imp fun _ _ ⟨W1, x, S1, e, s, r, _, k⟩ => ⟨W1, x, S1, e, s, r, k⟩
/-- two parts -/
theorem T.two {e f g : Type} {p : Rep a b} {p2 : Rep c d} {p' : Rep e f} {fa : M a} {fb : M c} {k : a → c → Loc → Sto → Re e} {Q : f → Hp → Prop} (mo : Mono p)
    (h : T G E p' (fun r S => (fa r S).bind fun x S1 => (fb r S1).bind fun y S2 => k x y r S2) q H Q) :
    T G E p fa q H fun v H1 => T G E p2 fb q H1 fun u H2 => ∃ W r S x y, Rel G W r S q H2 ∧ p W H2 x v ∧ p2 W H2 y u ∧ Post G E p' W H2 (k x y r S) Q := by
  refine T.imp (T.seq (p := p) h) fun v H1 h1 => ?_
  obtain ⟨W1, r, S1, x, rel, rx, h1⟩ := h1
  refine ⟨W1, r, S1, rel, Post.imp (Post.thn (p := p2) h1) fun u H2 h2 => ?_⟩
  obtain ⟨W2, y, S2, ext, st, ry, h2⟩ := h2
  exact ⟨W2, r, S2, x, y, ⟨rel.sl.ext ext, st⟩, mo _ _ _ _ _ _ ext rx, ry, h2⟩
theorem T.two' {e f g : Type} {p : Rep a b} {p2 : Rep c d} {p' : Rep e f} {fa : M a} {fb : M c} {k : a → c → Sto → Re e} {Q : f → Hp → Prop} (mo : Mono p)
    (h : T G E p' (fun r S => (fa r S).bind fun x S1 => (fb r S1).bind fun y S2 => k x y S2) q H Q) :
    T G E p fa q H fun v H1 => T G E p2 fb q H1 fun u H2 => ∃ W r S x y, Rel G W r S q H2 ∧ p W H2 x v ∧ p2 W H2 y u ∧ Post G E p' W H2 (k x y S) Q := T.two (g := g) (k := fun x y _ S => k x y S) mo h
end

/-! ### truth -/
theorem truD_same {d : D} {S S' : Sto} {k : Bool} (h : truD d S = .ok k S') : S' = S := by
  unfold truD at h
  split at h <;> first | (cases h; rfl) | (split at h <;> cases h; rfl) | cases h
theorem tru_v {G : Gb} {W : Wd} {H : Hp} {S S' : Sto} {d : D} {v : V} {k : Bool} (st : StoR G W H S) (r : Rp G W H d v) (h : truD d S = .ok k S') : TruV G.K v H k := by
  unfold truD at h
  split at h
  · rename_i he
    have he := vw_of he (by simp)
    subst he
    cases rp_non r
    cases h
    rfl
  · rename_i he
    have he := vw_of he (by simp)
    subst he
    cases rp_bl r
    cases h
    rfl
  · rename_i he
    have he := vw_of he (by simp)
    subst he
    cases rp_int r
    cases h
    rfl
  · rename_i y he
    have he := vw_of he (by simp)
    subst he
    cases rp_str r
    split at h
    · rename_i hz
      cases h
      refine ⟨by rw [str_len]; exact sz hz, ?_⟩
      rw [str_len]
      cases y <;> simp
      omega
    · cases h
  · rename_i ds he
    have he := vw_of he (by simp)
    subst he
    obtain ⟨a, vs, rfl, pa, ra⟩ := rp_tup r
    cases h
    exact .inr (.inl ⟨vs, pa.sq, by rw [empty_rps ra]⟩)
  · rename_i ds he
    obtain ⟨a, vs, rfl, pa, ra⟩ := rd_lst st he r
    cases h
    exact .inl ⟨vs, SqL.of pa, by rw [empty_rps ra]⟩
  · cases h
/-- a test by a value's truth -/
theorem pt_trR {X : Cx} {e : Expr} {ta : TE} {r : V → Hp → (Bool → Hp → Prop) → Prop} (hr : TruR X r) (ha : PE X e ta) (he : ∀ whole, isTrue e X.env whole = (do let v ← whole; standAt e.pos; holding [v] (truthy v))) : L2.PT X e (fun σ H Q => ta σ H fun x H' => r x H' Q) :=
  ⟨fun pins s σ H Q I h => isTrue_plain (thn (ha.run pins s σ H _ I h) fun v s1 ⟨x, H1, I1, r1, q1⟩ => hr pins s1 σ H1 x v Q I1 r1 q1) (he _)⟩

section
variable {X : Cx} {G : Gb} {E : XK} {e e1 e2 e3 : Expr} {pos : Pos} {fa fb fc : M D} {ga gb gc : M Bool}
theorem k_con {x : D} {v : V} (h : PE X e (tC v)) (r : ∀ W H, Rp G W H x v) : PE X e (TD G E fun _ S => .ok x S) :=
  PE.imp h fun q H Q ⟨W, _, S, rel, p⟩ => p.done rel.st (r W H)
theorem k_var {i : Nat} {n : Str} {pos : Pos} (h : PE X (.Name n pos) (tVar i)) : PE X (.Name n pos) (TD G E fun r S => match r[i]? with
    | some (some d) => .ok d S
    | _ => .bad) := PE.imp h fun q H Q ⟨W, r, S, rel, p⟩ => by
  dsimp only at p
  split at p
  · rename_i d hd
    obtain ⟨v, h1, h2⟩ := rel.sl.at_ i d hd
    exact ⟨v, h1, p.done rel.st h2⟩
  · exact p.no
theorem tOp_of {g : D → D → Sto → Re D} {q : L2.St} {H : Hp} {Q : VK} (h : TD G E (fun r S => (fa r S).bind fun x S1 => (fb r S1).bind fun y S2 => g x y S2) q H Q) : tOp (r2 G E g) (TD G E fa) (TD G E fb) q H Q :=
  T.imp (T.two' (g := D) mono_D h) fun v H1 h1 => T.imp h1 fun u H2 ⟨W, r, S, x, y, rel, rx, ry, k⟩ => ⟨W, S, x, y, rel.st, rx, ry, k⟩
theorem k_bin {o : Operator} {g : D → D → Sto → Re D} (ho : OpR X (binaryOp o) (r2 G E g)) (ha : PE X e1 (TD G E fa)) (hb : PE X e2 (TD G E fb)) :
    PE X (.BinOp e1 o e2 pos) (TD G E fun r S => (fa r S).bind fun x S1 => (fb r S1).bind fun y S2 => g x y S2) := PE.imp (pe_op ho ha hb) fun _ _ _ h => tOp_of h
theorem k_neg (ha : PE X e (TD G E fa)) : PE X (.UnaryOp .USub e pos) (TD G E fun r S => (fa r S).bind fNeg) :=
  PE.imp (pe_un (ur_neg (G := G) (E := E)) ha) fun q H Q h => T.imp (T.seq' h) fun v H1 ⟨W, r, S, x, rel, rx, k⟩ => ⟨W, S, x, rel.st, rx, k⟩
theorem k_cmp {o : CmpOp} {g : D → D → Sto → Re D} (ho : OpR X (compareOp o) (r2 G E g)) (ha : PE X e1 (TD G E fa)) (hb : PE X e2 (TD G E fb)) (hm : behindInMarks o e2 = false) :
    PE X (.Compare e1 [o] [e2] pos) (TD G E fun r S => (fa r S).bind fun x S1 => (fb r S1).bind fun y S2 => g x y S2) := PE.imp (pe_cmpR ho ha hb hm) fun _ _ _ h => tOp_of h
theorem toB_ok {W : Wd} {H : Hp} {d : D} {S S' : Sto} {v : V} {k : Bool} (r : Rp G W H d v) (h : toB d S = .ok k S') : v = .bl k ∧ S' = S := by
  unfold toB at h
  split at h
  · cases h
    exact ⟨rp_bl r, rfl⟩
  · cases h
theorem toB_post {a b : Type} {p : Rep a b} {W : Wd} {H : Hp} {d : D} {S : Sto} {v : V} {g : Bool → Sto → Re a} {Q : b → Hp → Prop} (r : Rp G W H d v) (h : Post G E p W H ((toB d S).bind g) Q) : ∃ k, v = .bl k ∧ Post G E p W H (g k S) Q := by
  unfold toB at h
  split at h
  · exact ⟨_, rp_bl r, h⟩
  · exact h.no
theorem k_cmpT {o : CmpOp} {g : D → D → Sto → Re D} (ho : OpR X (compareOp o) (r2 G E g)) (ha : PE X e1 (TD G E fa)) (hb : PE X e2 (TD G E fb)) (hm : behindInMarks o e2 = false) :
    L2.PT X (.Compare e1 [o] [e2] pos) (TB G E fun r S => (fa r S).bind fun x S1 => (fb r S1).bind fun y S2 => (g x y S2).bind toB) := by
  refine DL.PT.imp (pt_cmpR ho ha hb hm) fun q H Q h => ?_
  refine T.imp (T.two' (g := D) mono_D h) fun v H1 h1 => T.imp h1 fun u H2 ⟨W, r, S, x, y, rel, rx, ry, k⟩ => ⟨W, S, x, y, rel.st, rx, ry, ?_⟩
  refine Post.imp (Post.thn (p := Rp G) k) fun w H3 ⟨W3, z, S3, ext, st, rz, k3⟩ => ?_
  have e : (toB z S3) = (toB z S3).bind fun k S => .ok k S := by unfold toB; split <;> rfl
  rw [e] at k3
  obtain ⟨k, e, k3⟩ := toB_post rz k3
  exact ⟨k, e, k3.done st rfl⟩
theorem chain_of {g g' : D → D → Sto → Re D} {q : L2.St} {H : Hp} {Q : VK} (h : TD G E (fun r S => (fa r S).bind fun x S1 => (fb r S1).bind fun y S2 => (g x y S2).bind fun z S3 => (toB z S3).bind fun k S4 =>
      if k then (fc r S4).bind fun w S5 => (g' y w S5).bind fun z2 S6 => (toB z2 S6).bind fun k2 S7 => .ok (.bl k2) S7 else .ok (.bl false) S4) q H Q) : tChain (r2 G E g) (r2 G E g') (TD G E fa) (TD G E fb) (TD G E fc) q H Q := by
  refine T.imp (T.two (g := D) mono_D h) fun v H1 h1 => T.imp h1 fun u H2 ⟨W, r, S, x, y, rel, rx, ry, k⟩ => ⟨W, S, x, y, rel.st, rx, ry, ?_⟩
  refine Post.imp (Post.thn (p := Rp G) k) fun w H3 ⟨W3, z, S3, ext, st, rz, k3⟩ => ?_
  obtain ⟨k, e, k3⟩ := toB_post rz k3
  refine ⟨k, e, ?_⟩
  cases k with
  | false =>
    simp only [Bool.false_eq_true, if_false] at k3 ⊢
    exact k3.done st mk_bl
  | true =>
    simp only [if_true] at k3 ⊢
    refine ⟨W3, r, S3, ⟨rel.sl.ext ext, st⟩, Post.imp (Post.thn (p := Rp G) k3) fun w2 H4 ⟨W4, z4, S4, ext4, st4, r4, k4⟩ => ⟨W4, S4, y, z4, st4, Rp.ext (ext.trans ext4) _ _ ry, r4, ?_⟩⟩
    refine Post.imp (Post.thn (p := Rp G) k4) fun w5 H5 ⟨W5, z5, S5, ext5, st5, r5, k5⟩ => ?_
    obtain ⟨k, e, k5⟩ := toB_post r5 k5
    subst e
    exact k5.done st5 mk_bl
theorem k_chn {o o' : CmpOp} {g g' : D → D → Sto → Re D} (ho : OpR X (compareOp o) (r2 G E g)) (ho' : OpR X (compareOp o') (r2 G E g')) (ha : PE X e1 (TD G E fa)) (hb : PE X e2 (TD G E fb)) (hc : PE X e3 (TD G E fc)) (hm : lastMarks [o, o'] [e2, e3] = false) :
    PE X (.Compare e1 [o, o'] [e2, e3] pos) (TD G E (fun r S => (fa r S).bind fun x S1 => (fb r S1).bind fun y S2 => (g x y S2).bind fun z S3 => (toB z S3).bind fun k S4 =>
      if k then (fc r S4).bind fun w S5 => (g' y w S5).bind fun z2 S6 => (toB z2 S6).bind fun k2 S7 => .ok (.bl k2) S7 else .ok (.bl false) S4)) := PE.imp (pe_chain ho ho' ha hb hc hm) fun _ _ _ h => chain_of h
theorem k_chnT {o o' : CmpOp} {g g' : D → D → Sto → Re D} (ho : OpR X (compareOp o) (r2 G E g)) (ho' : OpR X (compareOp o') (r2 G E g')) (ha : PE X e1 (TD G E fa)) (hb : PE X e2 (TD G E fb)) (hc : PE X e3 (TD G E fc)) (hm : lastMarks [o, o'] [e2, e3] = false) :
    L2.PT X (.Compare e1 [o, o'] [e2, e3] pos) (TB G E (fun r S => (fa r S).bind fun x S1 => (fb r S1).bind fun y S2 => (g x y S2).bind fun z S3 => (toB z S3).bind fun k S4 =>
      if k then (fc r S4).bind fun w S5 => (g' y w S5).bind toB else .ok false S4)) := by
  refine DL.PT.imp (pt_chain ho ho' ha hb hc hm) fun q H Q h => ?_
  refine T.imp (T.two (g := D) mono_D h) fun v H1 h1 => T.imp h1 fun u H2 ⟨W, r, S, x, y, rel, rx, ry, k⟩ => ⟨W, S, x, y, rel.st, rx, ry, ?_⟩
  refine Post.imp (Post.thn (p := Rp G) k) fun w H3 ⟨W3, z, S3, ext, st, rz, k3⟩ => ?_
  obtain ⟨k, e, k3⟩ := toB_post rz k3
  refine ⟨k, e, ?_⟩
  cases k with
  | false =>
    simp only [Bool.false_eq_true, if_false] at k3 ⊢
    exact ⟨_, rfl, k3.done st rfl⟩
  | true =>
    simp only [if_true] at k3 ⊢
    refine ⟨W3, r, S3, ⟨rel.sl.ext ext, st⟩, Post.imp (Post.thn (p := Rp G) k3) fun w2 H4 ⟨W4, z4, S4, ext4, st4, r4, k4⟩ => ⟨W4, S4, y, z4, st4, Rp.ext (ext.trans ext4) _ _ ry, r4, ?_⟩⟩
    refine Post.imp (Post.thn (p := Rp G) k4) fun w5 H5 ⟨W5, z5, S5, ext5, st5, r5, k5⟩ => ?_
    have e : (toB z5 S5) = (toB z5 S5).bind fun k S => .ok k S := by unfold toB; split <;> rfl
    rw [e] at k5
    obtain ⟨k, e, k5⟩ := toB_post r5 k5
    exact ⟨k, e, k5.done st5 rfl⟩
/-- a test that is a value's truth -/
theorem k_tru (hK : G.K = X.K) (ha : PE X e (TD G E fa)) (he : ∀ whole, isTrue e X.env whole = (do let v ← whole; standAt e.pos; holding [v] (truthy v))) : L2.PT X e (TB G E fun r S => (fa r S).bind truD) :=
  DL.PT.imp (pt_trR (tr_ok (G := G) (E := E) hK) ha he) fun q H Q h => T.imp (T.seq' h) fun v H1 ⟨W, r, S, x, rel, rx, k⟩ => ⟨W, S, x, rel.st, rx, k⟩
theorem k_notT (ha : L2.PT X e (TB G E ga)) : L2.PT X (.UnaryOp .Not e pos) (TB G E fun r S => (ga r S).bind fun b S1 => .ok (!b) S1) :=
  DL.PT.imp (pt_not ha) fun q H Q h => T.imp (T.seq' h) fun v H1 ⟨W, r, S, x, rel, rx, k⟩ => by
    subst rx
    exact k.done rel.st rfl
theorem k_ite (hc : L2.PT X e1 (TB G E ga)) (ha : PE X e2 (TD G E fa)) (hb : PE X e3 (TD G E fb)) : PE X (.IfExp e1 e2 e3 pos) (TD G E fun r S => (ga r S).bind fun k S1 => if k then fa r S1 else fb r S1) :=
  PE.imp (pe_ifExp hc ha hb) fun q H Q h => T.imp (T.seq (p := repB) h) fun v H1 ⟨W, r, S, x, rel, rx, k⟩ => by
    subst rx
    cases v with
    | true => exact ⟨W, r, S, rel, k⟩
    | false => exact ⟨W, r, S, rel, k⟩
/-! and, or -/
theorem k_and1 {op : PySem.BoolOp} (ha : PE X e (TD G E fa)) : PE X (.BoolOp op [e] pos) (TD G E fa) := pe_one ha
theorem k_and {es : List Expr} (hK : G.K = X.K) (ha : PE X e1 (TD G E fa)) (hb : PE X (.BoolOp .And (e2 :: es) pos) (TD G E fb)) :
    PE X (.BoolOp .And (e1 :: e2 :: es) pos) (TD G E fun r S => (fa r S).bind fun d S1 => (truD d S1).bind fun k S2 => if k then fb r S2 else .ok d S2) :=
  PE.imp (L2.pe_andT ha hb) fun q H Q h => T.imp (T.seq (p := Rp G) h) fun v H1 ⟨W, r, S, x, rel, rx, k⟩ => by
    cases hk : truD x S with
    | ok b S' =>
      rw [hk] at k
      have e := truD_same hk
      subst e
      refine ⟨b, by rw [← hK]; exact tru_v rel.st rx hk, ?_⟩
      cases b with
      | true => exact ⟨W, r, S', rel, k⟩
      | false => exact k.done rel.st rx
    | err n fs S' =>
      unfold truD at hk
      split at hk <;> first | (cases hk; done) | (split at hk <;> cases hk)
    | bad =>
      rw [hk] at k
      exact k.no
theorem k_or {es : List Expr} (hK : G.K = X.K) (ha : PE X e1 (TD G E fa)) (hb : PE X (.BoolOp .Or (e2 :: es) pos) (TD G E fb)) :
    PE X (.BoolOp .Or (e1 :: e2 :: es) pos) (TD G E fun r S => (fa r S).bind fun d S1 => (truD d S1).bind fun k S2 => if k then .ok d S2 else fb r S2) :=
  PE.imp (L2.pe_orT ha hb) fun q H Q h => T.imp (T.seq (p := Rp G) h) fun v H1 ⟨W, r, S, x, rel, rx, k⟩ => by
    cases hk : truD x S with
    | ok b S' =>
      rw [hk] at k
      have e := truD_same hk
      subst e
      refine ⟨b, by rw [← hK]; exact tru_v rel.st rx hk, ?_⟩
      cases b with
      | true => exact k.done rel.st rx
      | false => exact ⟨W, r, S', rel, k⟩
    | err n fs S' =>
      unfold truD at hk
      split at hk <;> first | (cases hk; done) | (split at hk <;> cases hk)
    | bad =>
      rw [hk] at k
      exact k.no
theorem k_all0 {op : PySem.BoolOp} (ha : L2.PT X e (TB G E ga)) : PW X (.BoolOp .And [e] pos) (TB G E fun r S => (ga r S).bind fun k S1 => if k then .ok true S1 else .ok false S1) :=
  ⟨fun wh pins s σ H Q I h => (pw_and1 ha).run wh pins s σ H Q I (T.congr h fun r S => by
    cases ga r S with
    | ok k S1 => cases k <;> rfl
    | err _ _ _ => rfl
    | bad => rfl)⟩
theorem k_any0 {op : PySem.BoolOp} (ha : L2.PT X e (TB G E ga)) : PW X (.BoolOp .Or [e] pos) (TB G E fun r S => (ga r S).bind fun k S1 => if k then .ok true S1 else .ok false S1) :=
  ⟨fun wh pins s σ H Q I h => (pw_or1 ha).run wh pins s σ H Q I (T.congr h fun r S => by
    cases ga r S with
    | ok k S1 => cases k <;> rfl
    | err _ _ _ => rfl
    | bad => rfl)⟩
theorem k_all {es : List Expr} (ha : L2.PT X e1 (TB G E ga)) (hb : PW X (.BoolOp .And (e2 :: es) pos) (TB G E gb)) :
    PW X (.BoolOp .And (e1 :: e2 :: es) pos) (TB G E fun r S => (ga r S).bind fun k S1 => if k then gb r S1 else .ok false S1) :=
  ⟨fun wh pins s σ H Q I h => (pw_and ha hb).run wh pins s σ H Q I (T.imp (T.seq (p := repB) h) fun v H1 ⟨W, r, S, x, rel, rx, k⟩ => by
    subst rx
    cases v with
    | true => exact ⟨W, r, S, rel, k⟩
    | false => exact k.done rel.st rfl)⟩
theorem k_any {es : List Expr} (ha : L2.PT X e1 (TB G E ga)) (hb : PW X (.BoolOp .Or (e2 :: es) pos) (TB G E gb)) :
    PW X (.BoolOp .Or (e1 :: e2 :: es) pos) (TB G E fun r S => (ga r S).bind fun k S1 => if k then .ok true S1 else gb r S1) :=
  ⟨fun wh pins s σ H Q I h => (pw_or ha hb).run wh pins s σ H Q I (T.imp (T.seq (p := repB) h) fun v H1 ⟨W, r, S, x, rel, rx, k⟩ => by
    subst rx
    cases v with
    | true => exact k.done rel.st rfl
    | false => exact ⟨W, r, S, rel, k⟩)⟩
/-! arguments, displays -/
theorem k_nil : PA X [] (TDs G E fun _ S => .ok [] S) := PA.imp pa_nil fun q H Q ⟨W, r, S, rel, p⟩ => p.done rel.st Rps.nil
theorem k_cons {es : List Expr} {f : M (List D)} (ha : PE X e (TD G E fa)) (hb : PA X es (TDs G E f)) (hs : starEach (e :: es) X.env = (false, eval e X.env) :: starEach es X.env) :
    PA X (e :: es) (TDs G E fun r S => (fa r S).bind fun d S1 => (f r S1).bind fun ds S2 => .ok (d :: ds) S2) :=
  PA.imp (pa_cons ha hb hs) fun q H Q h => T.imp (T.two' (g := D) mono_D h) fun v H1 h1 => T.imp h1 fun u H2 ⟨W, r, S, x, y, rel, rx, ry, k⟩ => k.done rel.st (Rps.cons rx ry)
theorem k_tup {es : List Expr} {n : Nat} {f : M (List D)} (hl : es.length ≤ 1000000) (hn : ∀ r S ds S', f r S = .ok ds S' → ds.length = es.length) (h : PA X es (TDs G E f)) : PE X (.Tuple es n pos) (TD G E fun r S => (f r S).bind fun ds S1 => .ok (.tup ds) S1) :=
  PE.imp (pe_tup h) fun q H Q ⟨W, r, S, rel, p⟩ => ⟨W, r, S, rel, Post.imp (Post.bind (p := Rps G) p) fun vs H1 ⟨W1, ds, S1, ext, st, rs, eq, k⟩ => ⟨by rw [rs.length, hn _ _ _ _ eq]; exact sz hl, out_tup st k rs⟩⟩
theorem k_lst {es : List Expr} {f : M (List D)} (hl : es.length ≤ 1000000) (hn : ∀ r S ds S', f r S = .ok ds S' → ds.length = es.length) (h : PA X es (TDs G E f)) : PE X (.List es pos) (TD G E fun r S => (f r S).bind fun ds S1 => .ok (.lst ds) S1) :=
  PE.imp (pe_lst h) fun q H Q ⟨W, r, S, rel, p⟩ => ⟨W, r, S, rel, Post.imp (Post.bind (p := Rps G) p) fun vs H1 ⟨W1, ds, S1, ext, st, rs, eq, k⟩ => ⟨by rw [rs.length, hn _ _ _ _ eq]; exact sz hl, out_lst st k rs⟩⟩
theorem out_new {W : Wd} {H : Hp} {S : Sto} {ds : List D} {vs : List V} {Q : VK} (st : StoR G W H S) (p : Post G E (Rp G) W H (.ok (.ref S.length) (S ++ [.lst ds])) Q) (r : Rps G W H ds vs) : ∀ a, H a = none → Q (.ref a) (upd H a (.lst vs)) := fun a ha => by
  have x : Ext W H ⟨W.t ++ [a], W.b⟩ (upd H a (.lst vs)) := Ext.push ha
  refine p _ _ _ x (st.push ha ⟨vs, upd_same, Rps.ext x _ _ r⟩) ?_
  simp only [Rp]
  exact ⟨a, rfl, by rw [← st.len]; simp⟩
theorem k_new {es : List Expr} {f : M (List D)} (hl : es.length ≤ 1000000) (hn : ∀ r S ds S', f r S = .ok ds S' → ds.length = es.length) (h : PA X es (TDs G E f)) : PE X (.List es pos) (TD G E fun r S => (f r S).bind fun ds S1 => .ok (.ref S1.length) (S1 ++ [.lst ds])) :=
  PE.imp (pe_lst h) fun q H Q ⟨W, r, S, rel, p⟩ => ⟨W, r, S, rel, Post.imp (Post.bind (p := Rps G) p) fun vs H1 ⟨W1, ds, S1, ext, st, rs, eq, k⟩ => ⟨by rw [rs.length, hn _ _ _ _ eq]; exact sz hl, out_new st k rs⟩⟩
/-! subscripts -/
theorem k_ix (hK : G.K = X.K) (ha : PE X e1 (TD G E fa)) (hb : PE X e2 (TD G E fb)) (hs : PlainIx e2) : PE X (.Subscript e1 e2 pos) (TD G E fun r S => (fa r S).bind fun x S1 => (fb r S1).bind fun y S2 => fIx x y S2) :=
  PE.imp (pe_ix (ixr hK) ha hb hs) fun _ _ _ h => tOp_of h
theorem k_o0 : PO X none (T G E repO fun _ S => .ok none S) := by
  refine ⟨fun pins s σ H Q I ⟨W, r, S, rel, p⟩ => po_none.run pins s σ H Q I (p.done rel.st rfl)⟩
theorem k_o1 (ha : PE X e (TD G E fa)) : PO X (some e) (T G E repO fun r S => (fa r S).bind fun d S1 => match d with
    | .int i => .ok (some i) S1
    | _ => .bad) :=
  ⟨fun pins s σ H Q I h => (po_some ha).run pins s σ H Q I (T.imp (T.seq' (p := Rp G) h) fun v H1 ⟨W, r, S, x, rel, rx, k⟩ => by
    split at k
    · exact ⟨_, rp_int rx, k.done rel.st rfl⟩
    · exact k.no)⟩
theorem k_sl {lo hi : Option Expr} {fl fh : M (Option Int)} {p2 : Pos} (hK : G.K = X.K) (ha : PE X e (TD G E fa)) (hl : PO X lo (T G E repO fl)) (hh : PO X hi (T G E repO fh)) :
    PE X (.Subscript e (.Slice lo hi none p2) pos) (TD G E fun r S => (fa r S).bind fun x S1 => (fl r S1).bind fun l S2 => (fh r S2).bind fun u S3 => fSl x l u S3) :=
  PE.imp (pe_slice (sl_ok (G := G) (E := E) hK) ha hl hh) fun q H Q h => T.imp (T.two (g := D) mono_D h) fun v H1 h1 => T.imp h1 fun u H2 ⟨W, r, S, x, y, rel, rx, ry, k⟩ => by
    subst ry
    exact ⟨W, r, S, rel, Post.imp (Post.thn (p := repO) k) fun w H3 ⟨W3, z, S3, ext, st, rz, k3⟩ => by
      subst rz
      exact ⟨W3, S3, x, st, Rp.ext ext _ _ rx, k3⟩⟩
end
end DL
set_option Elab.async false
set_option linter.all false
set_option maxRecDepth 100000
set_option maxHeartbeats 4000000
/-! DL7: calls, walked things, comprehensions. -/
namespace DL
open PySem PySem.Spec PyProof.Rows L2

/-! ### calls of defs -/
/-- the promise that a function of values makes -/
def spOf (G : Gb) (F : List D → Sto → Re D) : Sp := fun vs H Q E => ∃ W S ds, StoR G W H S ∧ Rps G W H ds vs ∧ Post G E (Rp G) W H (F ds S) Q
section
variable {X : Cx} {G : Gb} {E : XK} {e e1 e2 e3 : Expr} {es : List Expr} {pos p : Pos} {fa fb fc : M D} {f : M (List D)} {x : Str}
theorem k_call {n : Nat} {a : Addr} {fd : FuncData} {ps : List Str} {F : List D → Sto → Re D} (FO : FnOk X.prog X.w X.K X.mg X.base (L2.CX X.prog X.w) n a fd ps (spOf G F)) (hr : Room n X.A) (hg : Gl X x) (hm : X.mg x = some (.ref a))
    (hk : PySem.W.keepIn X.K (.ref a) = true) (hb : Binds X.K fd ps []) (hx : Passes (L2.CX X.prog X.w) X E) (ha : PA X (e :: es) (TDs G E f)) (hdb : (x == ("__debug__" : Str)) = false)
    (he : starEach (e :: es) X.env = (false, eval e X.env) :: starEach es X.env) (hpl : (backTo pos (starEach es X.env)).any (·.1) = false) :
    PE X (.Call (.Name x p) (e :: es) [] pos) (TD G E fun r S => (f r S).bind fun ds S1 => F ds S1) :=
  PE.imp (pe_call FO hr hg hm hk hb .nil hx ha hdb he hpl) fun q H Q h => T.imp (T.seq' h) fun vs H1 ⟨W, r, S, x, rel, rx, k⟩ => ⟨W, S, x, rel.st, by rw [List.append_nil]; exact rx, k⟩
theorem k_call0 {n : Nat} {a : Addr} {fd : FuncData} {ps : List Str} {F : List D → Sto → Re D} (FO : FnOk X.prog X.w X.K X.mg X.base (L2.CX X.prog X.w) n a fd ps (spOf G F)) (hr : Room n X.A) (hg : Gl X x) (hm : X.mg x = some (.ref a))
    (hk : PySem.W.keepIn X.K (.ref a) = true) (hb : Binds X.K fd ps []) (hx : Passes (L2.CX X.prog X.w) X E) (hdb : (x == ("__debug__" : Str)) = false) :
    PE X (.Call (.Name x p) [] [] pos) (TD G E fun _ S => F [] S) :=
  PE.imp (pe_call0 FO hr hg hm hk hb .nil hx hdb) fun q H Q ⟨W, r, S, rel, k⟩ => ⟨W, S, [], rel.st, by rw [List.append_nil]; exact Rps.nil, k⟩
/-- a def that a local name holds -/
theorem k_callv {n i : Nat} {F : Nat → List D → Sto → Re D} (FO : ∀ m a, G.fa m = some a → ∃ fd ps, FnOk X.prog X.w X.K X.mg X.base (L2.CX X.prog X.w) n a fd ps (spOf G (F m)) ∧ PySem.W.keepIn X.K (.ref a) = true ∧ Binds X.K fd ps []) (hr : Room n X.A)
    (hN : X.N[i]? = some x) (hv : Vis X.env.scope x) (hx : Passes (L2.CX X.prog X.w) X E) (ha : PA X (e :: es) (TDs G E f)) (hdb : (x == ("__debug__" : Str)) = false) (hcd : (x == ("__classdict__" : Str)) = false)
    (he : starEach (e :: es) X.env = (false, eval e X.env) :: starEach es X.env) (hpl : (backTo pos (starEach es X.env)).any (·.1) = false) :
    PE X (.Call (.Name x p) (e :: es) [] pos) (TD G E fun r S => match r[i]? with
      | some (some (.fn m)) => (f r S).bind fun ds S1 => F m ds S1
      | _ => .bad) := by
  refine ⟨fun pins s σ H Q I ⟨W, r, S, rel, k⟩ => ?_⟩
  dsimp only at k
  split at k
  · rename_i m hm
    obtain ⟨v, h1, h2⟩ := rel.sl.at_ i _ hm
    obtain ⟨a, rfl, h3⟩ := rp_fn h2
    obtain ⟨fd, ps, FO, hk, hb⟩ := FO m a h3
    refine (pe_callL FO hr hN hv hk hb .nil hx ha hdb hcd he hpl).run pins s σ H Q I ⟨h1, ?_⟩
    have h : TD G E (fun r S => (f r S).bind fun ds S1 => F m ds S1) σ H Q := ⟨W, r, S, rel, k⟩
    exact T.imp (T.seq' h) fun vs H1 ⟨W, r, S, x, rel, rx, k⟩ => ⟨W, S, x, rel.st, by rw [List.append_nil]; exact rx, k⟩
  · exact k.no
/-- a built-in -/
theorem k_blt {id : String} {g : List D → Sto → Re D} (hc : CallR X (.builtin id) (rC G E g)) (hg : Gl X x) (hm : X.mg x = none) (hv : bootBuiltins x = some (.builtin id)) (ha : PA X (e :: es) (TDs G E f)) (hn : x ≠ "__name__") (hdb : (x == ("__debug__" : Str)) = false)
    (he : starEach (e :: es) X.env = (false, eval e X.env) :: starEach es X.env) (hpl : (backTo pos (starEach es X.env)).any (·.1) = false) :
    PE X (.Call (.Name x p) (e :: es) [] pos) (TD G E fun r S => (f r S).bind fun ds S1 => g ds S1) :=
  PE.imp (pe_callB hc hg hm hv ha hn hdb he hpl) fun q H Q h => T.imp (T.seq' h) fun vs H1 ⟨W, r, S, x, rel, rx, k⟩ => ⟨W, S, x, rel.st, rx, k⟩
theorem k_bty {id : String} {g : List D → Sto → Re D} (hc : CallR X (.type id) (rC G E g)) (hg : Gl X x) (hm : X.mg x = none) (hv : bootBuiltins x = some (.type id)) (ha : PA X (e :: es) (TDs G E f)) (hn : x ≠ "__name__") (hdb : (x == ("__debug__" : Str)) = false)
    (he : starEach (e :: es) X.env = (false, eval e X.env) :: starEach es X.env) (hpl : (backTo pos (starEach es X.env)).any (·.1) = false) :
    PE X (.Call (.Name x p) (e :: es) [] pos) (TD G E fun r S => (f r S).bind fun ds S1 => g ds S1) :=
  PE.imp (pe_callTy hc hg hm hv ha hn hdb he hpl) fun q H Q h => T.imp (T.seq' h) fun vs H1 ⟨W, r, S, x, rel, rx, k⟩ => ⟨W, S, x, rel.st, rx, k⟩
/-- isinstance of a built-in type -/
theorem k_isi {ty : Str} {T0 : String} {p2 : Pos} (hK : G.K = X.K) (hg : Gl X "isinstance") (hm : X.mg "isinstance" = none) (hg2 : Gl X ty) (hm2 : X.mg ty = none) (hv2 : bootBuiltins ty = some (.type T0)) (hn2 : ty ≠ "__name__") (hdb2 : (ty == ("__debug__" : Str)) = false)
    (hv : bootBuiltins "isinstance" = some (.builtin "isinstance")) (ha : PE X e (TD G E fa)) (he : starEach [e, .Name ty p2] X.env = (false, eval e X.env) :: starEach [.Name ty p2] X.env) :
    PE X (.Call (.Name "isinstance" p) [e, .Name ty p2] [] pos) (TD G E fun r S => (fa r S).bind fun d S1 => fIsi T0 d S1) := by
  refine PE.imp (pe_callB call_isi hg hm hv (pa_cons ha (pa_cons (pe_bltn (v := .ty T0) hg2 hm2 hv2 rfl hn2 hdb2) pa_nil) he) (by decide +kernel) (by decide +kernel) he rfl) fun q H Q h => T.imp (T.seq' h) fun v H1 ⟨W, r, S, d, rel, rd, k⟩ => ?_
  unfold fIsi at k
  split at k
  · rename_i a ha
    split at k
    · rename_i ht
      obtain ⟨tx, hm⟩ := tyX_of rel.st ha rd
      refine ⟨v, .ty T0, .type a, .type T0, isT a T0, rfl, .ty T0, by rw [← hK]; exact tx, kit_ty (kitB_ok a hm T0 (by simpa using ht)), k.done rel.st mk_bl⟩
    · exact k.no
  · exact k.no
/-- a method of a built-in type -/
theorem mtOk_ty {W : Wd} {H : Hp} {S : Sto} {d : D} {v : V} {m : Mt} (st : StoR G W H S) (r : Rp G W H d v) (h : mtOk m d S = true) : tyV G.K (mtT m) v H := by
  unfold mtOk at h
  split at h
  · rename_i ds he
    obtain ⟨a, vs, rfl, pa, ra⟩ := rd_lst st he r
    exact .inl ⟨by simpa using h, vs, SqL.of pa⟩
  · rename_i y he
    have he := vw_of he (by simp)
    subst he
    cases rp_str r
    show mtT m = "str"
    simpa using h
  · cases h
theorem k_mth0 {m : Mt} {name : Str} {id : String} {apos : Pos} (hK : G.K = X.K) (pa : PlainAttrs (mtT m)) (slot : Slot (mtT m) name id) (hty : typeOf (.builtin id) = pure (.type "method_descriptor")) (hm : MtR X id (rM G E (mtF m))) (ho : PE X e (TD G E fa))
    (hbase : attributeBase e name X.env (eval e X.env) = eval e X.env) (hline : (apos.endLine == pos.line) = true) :
    PE X (.Call (.Attribute e name apos) [] [] pos) (TD G E fun r S => (fa r S).bind fun d S1 => if mtOk m d S1 then mtF m d [] S1 else .bad) :=
  PE.imp (pe_bm0 pa slot hty hm ho hbase hline) fun q H Q h => T.imp (T.seq' h) fun v H1 ⟨W, r, S, d, rel, rd, k⟩ => by
    split at k
    · rename_i hok
      exact ⟨by rw [← hK]; exact mtOk_ty rel.st rd hok, W, S, d, [], rel.st, rd, Rps.nil, k⟩
    · exact k.no
theorem k_mth {m : Mt} {name : Str} {id : String} {apos : Pos} (hK : G.K = X.K) (pa : PlainAttrs (mtT m)) (slot : Slot (mtT m) name id) (hty : typeOf (.builtin id) = pure (.type "method_descriptor")) (hm : MtR X id (rM G E (mtF m))) (ho : PE X e (TD G E fa))
    (ha : PA X (e1 :: es) (TDs G E f)) (hbase : attributeBase e name X.env (eval e X.env) = eval e X.env)
    (hfew : ((backTo pos (starEach (e1 :: es) X.env)).all (fun x => !x.1) && (backToKw pos (keywordEach [] X.env)).all (fun x => x.1.isSome) && decide ((e1 :: es).length + ([] : List Keyword).length + (if ([] : List Keyword).isEmpty then 0 else 1) < 30)) = true)
    (hline : (apos.endLine == pos.line) = true) (hs : starEach (e1 :: es) X.env = (false, eval e1 X.env) :: starEach es X.env) (hplain : (backTo pos (starEach es X.env)).any (·.1) = false) :
    PE X (.Call (.Attribute e name apos) (e1 :: es) [] pos) (TD G E fun r S => (fa r S).bind fun d S1 => if mtOk m d S1 then (f r S1).bind fun ds S2 => mtF m d ds S2 else .bad) :=
  PE.imp (pe_bm pa slot hty hm ho ha hbase hfew hline hs hplain) fun q H Q h => T.imp (T.seq (p := Rp G) h) fun v H1 ⟨W, r, S, d, rel, rd, k⟩ => by
    split at k
    · rename_i hok
      refine ⟨by rw [← hK]; exact mtOk_ty rel.st rd hok, W, r, S, rel, Post.imp (Post.thn (p := Rps G) k) fun vs H2 ⟨W2, ds, S2, ext, st, rs, k2⟩ => ?_⟩
      exact ⟨W2, S2, d, ds, st, Rp.ext ext _ _ rd, rs, k2⟩
    · exact k.no
end

/-! ### walked things -/
/-- the items x.1 are walked by J, while the guard x.2 holds -/
def repI (G : Gb) : Rep (List D × Gd) It := fun W H x J => ∃ (Gh : Hp → Prop) (Y : Nat → Hp → V → Hp → Prop), Walk J x.1.length Gh Y ∧
  (∀ W1 H1 S1, ExtW W H W1 H1 → StoR G W1 H1 S1 → gdOk x.2 S1 → Gh H1) ∧
  (∀ i W1 H1 S1 v H2, i < x.1.length → ExtW W H W1 H1 → StoR G W1 H1 S1 → gdOk x.2 S1 → Y i H1 v H2 → ∃ d, x.1[i]? = some d ∧ Ext W1 H1 W1 H2 ∧ StoR G W1 H2 S1 ∧ Rp G W1 H2 d v)
theorem mono_I {G : Gb} : Mono (repI G) := fun W W' H H' x J e h => by
  obtain ⟨Gh, Y, w, h1, h2⟩ := h
  exact ⟨Gh, Y, w, fun W1 H1 S1 x1 => h1 W1 H1 S1 (e.w.trans x1), fun i W1 H1 S1 v H2 hi x1 => h2 i W1 H1 S1 v H2 hi (e.w.trans x1)⟩
abbrev TIt (G : Gb) (E : XK) (f : M (List D × Gd)) : TI := T G E (repI G) f
section
variable {G : Gb} {W : Wd} {H : Hp} {S : Sto}
theorem Rps.get' {ds : List D} {vs : List V} {i : Nat} {v : V} (r : Rps G W H ds vs) (h : vs[i]? = some v) : ∃ d, ds[i]? = some d ∧ Rp G W H d v := by
  have hi : i < ds.length := by
    rw [← r.length]
    exact (List.getElem?_eq_some_iff.mp h).1
  obtain ⟨u, h1, h2⟩ := r.get (i := i) (d := ds[i]) (by simp [hi])
  rw [h] at h1
  cases h1
  exact ⟨ds[i], by simp [hi], h2⟩
theorem rep_tup {a : Addr} {ds : List D} {vs : List V} (p : DL.PT G.K W H a vs) (r : Rps G W H ds vs) : repI G W H (ds, none) (Itt G.K a) := by
  refine ⟨fun H1 => SqT G.K H1 a vs, YAt vs, by rw [show (ds, (none : Gd)).1.length = vs.length from r.length.symm]; exact walk_tup, fun W1 H1 S1 x st _ => (p.extw x).sq, fun i W1 H1 S1 v H2 hi x st _ y => ?_⟩
  obtain ⟨rfl, hv⟩ := y
  obtain ⟨d, h1, h2⟩ := (Rps.extw x _ _ r).get' hv
  exact ⟨d, h1, Ext.refl _ _, st, h2⟩
theorem rep_lst {a : Addr} {ds : List D} {vs : List V} (p : PL W H a vs) (r : Rps G W H ds vs) : repI G W H (ds, none) (Itl G.K a) := by
  refine ⟨fun H1 => SqL G.K H1 a vs, YAt vs, by rw [show (ds, (none : Gd)).1.length = vs.length from r.length.symm]; exact walk_list, fun W1 H1 S1 x st _ => (p.extw x).sq, fun i W1 H1 S1 v H2 hi x st _ y => ?_⟩
  obtain ⟨rfl, hv⟩ := y
  obtain ⟨d, h1, h2⟩ := (Rps.extw x _ _ r).get' hv
  exact ⟨d, h1, Ext.refl _ _, st, h2⟩
theorem rep_scr {a : Addr} {ns : List Int} (p : PZ G.K W H a (ns.map V.int)) : repI G W H (ns.map D.int, none) (Itl G.K a) := by
  have r : Rps G W H (ns.map D.int) (ns.map V.int) := rps_ints ns
  refine ⟨fun H1 => SqL G.K H1 a (ns.map V.int), YAt (ns.map V.int), by rw [show (ns.map D.int, (none : Gd)).1.length = (ns.map V.int).length from r.length.symm]; exact walk_list, fun W1 H1 S1 x st _ => (p.extw x).sq, fun i W1 H1 S1 v H2 hi x st _ y => ?_⟩
  obtain ⟨rfl, hv⟩ := y
  obtain ⟨d, h1, h2⟩ := (Rps.extw x _ _ r).get' hv
  exact ⟨d, h1, Ext.refl _ _, st, h2⟩
theorem rep_ref {a : Addr} {i : Nat} {ds : List D} (h : W.t[i]? = some a) : repI G W H (ds, some (i, ds)) (Itl G.K a) := by
  have key : ∀ W1 H1 S1, ExtW W H W1 H1 → StoR G W1 H1 S1 → gdOk (some (i, ds)) S1 → ∃ vs, H1 a = some (.lst vs) ∧ Rps G W1 H1 ds vs := fun W1 H1 S1 x st g => st.ob i a _ (x.at h) g
  refine ⟨fun H1 => ∃ vs, SqL G.K H1 a vs ∧ vs.length = ds.length ∧ H1 a = some (.lst vs), fun j H1 v H2 => H2 = H1 ∧ ∀ vs, SqL G.K H1 a vs → vs[j]? = some v, ⟨fun j H1 hj ⟨vs, q, hl, _⟩ => ?_, fun H1 ⟨vs, q, hl, _⟩ => ⟨vs, q, by rw [hl]; exact Nat.le_refl _⟩, fun j H1 v H2 _ _ y => y⟩, fun W1 H1 S1 x st g => ?_, fun j W1 H1 S1 v H2 hi x st g y => ?_⟩
  · have hj : j < ds.length := hj
    exact ⟨vs, vs[j]'(by omega), q, by simp [show j < vs.length by omega]⟩
  · obtain ⟨vs, h1, h2⟩ := key W1 H1 S1 x st g
    exact ⟨vs, SqL.of h1, h2.length, h1⟩
  · obtain ⟨vs, h1, h2⟩ := key W1 H1 S1 x st g
    obtain ⟨rfl, y⟩ := y
    obtain ⟨d, h3, h4⟩ := h2.get' (y vs (SqL.of h1))
    exact ⟨d, h3, Ext.refl _ _, st, h4⟩
theorem rep_str {s : List Nat} : repI G W H (s.map fun c => D.str [c], none) (Its ⟨s.toArray⟩) := by
  refine ⟨fun _ => True, _, by rw [show (s.map (fun c => D.str [c]), (none : Gd)).1.length = (⟨s.toArray⟩ : Str).cps.size by simp]; exact walk_str, fun _ _ _ _ _ _ => True.intro, fun i W1 H1 S1 v H2 hi x st _ y => ?_⟩
  obtain ⟨rfl, c, hc, rfl⟩ := y
  have hc : s[i]? = some c := by simpa using hc
  exact ⟨.str [c], by simp [hc], Ext.refl _ _, st, mk_str⟩
theorem rangeD_get : ∀ (n : Nat) (lo : Int) (i : Nat), i < n → (rangeD lo n)[i]? = some (.int (lo + i))
  | 0, _, _, h => absurd h (Nat.not_lt_zero _)
  | n + 1, lo, 0, _ => by simp [rangeD]
  | n + 1, lo, i + 1, h => by
    unfold rangeD
    rw [List.getElem?_cons_succ, rangeD_get n (lo + 1) i (by omega)]
    congr 2
    omega
theorem rangeD_length : ∀ (n : Nat) (lo : Int), (rangeD lo n).length = n
  | 0, _ => rfl
  | n + 1, lo => by
    unfold rangeD
    rw [List.length_cons, rangeD_length n]
theorem rep_range {lo : Int} {n : Nat} : repI G W H (rangeD lo n, none) (L2.Itr lo n) := by
  refine ⟨fun _ => True, _, by rw [show (rangeD lo n, (none : Gd)).1.length = n from rangeD_length n lo]; exact walk_range, fun _ _ _ _ _ _ => True.intro, fun i W1 H1 S1 v H2 hi x st _ y => ?_⟩
  obtain ⟨rfl, rfl⟩ := y
  have hi : i < n := by
    have : (rangeD lo n, (none : Gd)).1.length = n := rangeD_length n lo
    omega
  exact ⟨_, rangeD_get n lo i hi, Ext.refl _ _, st, mk_int⟩
theorem rev_get {α : Type} {xs : List α} {i : Nat} (h : i < xs.length) : xs.reverse[i]? = xs[xs.length - 1 - i]? := List.getElem?_reverse h
theorem rep_revL {a : Addr} {ds : List D} {vs : List V} (p : PL W H a vs) (r : Rps G W H ds vs) : repI G W H (ds.reverse, none) (Itv G.K a vs.length) := by
  refine ⟨fun H1 => SqL G.K H1 a vs, fun i H1 x H2 => H2 = H1 ∧ vs[vs.length - 1 - i]? = some x, by rw [show (ds.reverse, (none : Gd)).1.length = vs.length by rw [r.length]; simp]; exact walk_rev, fun W1 H1 S1 x st _ => (p.extw x).sq, fun i W1 H1 S1 v H2 hi x st _ y => ?_⟩
  obtain ⟨rfl, hv⟩ := y
  have hi : i < ds.length := by simpa using hi
  obtain ⟨d, h1, h2⟩ := (Rps.extw x _ _ r).get' hv
  exact ⟨d, by rw [rev_get hi, ← r.length]; exact h1, Ext.refl _ _, st, h2⟩
theorem rep_revT {a : Addr} {ds : List D} {vs : List V} (p : DL.PT G.K W H a vs) (r : Rps G W H ds vs) : repI G W H (ds.reverse, none) (RT.ItvT G.K a vs.length) := by
  refine ⟨fun H1 => SqT G.K H1 a vs, fun i H1 x H2 => H2 = H1 ∧ ∀ xs, SqT G.K H1 a xs → xs[vs.length - 1 - i]? = some x, ?_, fun W1 H1 S1 x st _ => (p.extw x).sq, fun i W1 H1 S1 v H2 hi x st _ y => ?_⟩
  · rw [show (ds.reverse, (none : Gd)).1.length = vs.length by rw [r.length]; simp]
    exact ⟨fun i H1 hi q => ⟨hi, vs, vs[vs.length - 1 - i]'(by omega), q, by simp [show vs.length - 1 - i < vs.length by omega]⟩, fun _ _ => Nat.le_refl _, fun _ _ _ _ _ _ y => y⟩
  · obtain ⟨rfl, hv⟩ := y
    have hi : i < ds.length := by simpa using hi
    obtain ⟨d, h1, h2⟩ := (Rps.extw x _ _ r).get' (hv vs (p.extw x).sq)
    exact ⟨d, by rw [rev_get hi, ← r.length]; exact h1, Ext.refl _ _, st, h2⟩
end
end DL
set_option Elab.async false
set_option linter.all false
set_option maxRecDepth 100000
set_option maxHeartbeats 4000000
/-! DL8: what for loops and comprehensions walk; comprehensions. -/
namespace DL
open PySem PySem.Spec PyProof.Rows L2
section
variable {X : Cx} {G : Gb} {E : XK} {e e1 e2 : Expr} {pos p : Pos} {fa fb : M D} {tg : Expr}
theorem k_plain (hK : G.K = X.K) (ha : PE X e (TD G E fa)) : PI X tg e (TIt G E fun r S => (fa r S).bind walk) := by
  refine ⟨fun pins s σ H R I ⟨W, r, S, rel, k⟩ => ?_⟩
  have toT : ∀ (d : D) (S1 : Sto) (Q : VK), fa r S = .ok d S1 → (∀ W' H' v, Ext W H W' H' → StoR G W' H' S1 → Rp G W' H' d v → Q v H') → TD G E fa σ H Q := fun d S1 Q e h => ⟨W, r, S, rel, by rw [e]; exact h⟩
  dsimp only at k
  cases hf : fa r S with
  | bad =>
    rw [hf] at k
    exact k.no
  | err n fs S1 =>
    rw [hf] at k
    refine (pi_tup ha).run pins s σ H R I ⟨W, r, S, rel, ?_⟩
    rw [hf]
    exact k
  | ok d S1 =>
    rw [hf] at k
    simp only [bind_ok] at k
    unfold walk at k
    split at k
    · refine (pi_tup ha).run pins s σ H R I (toT _ S1 _ hf fun W' H' v x st rd => ?_)
      obtain ⟨a, vs, rfl, pa, ra⟩ := rp_tup rd
      rw [← hK]
      exact ⟨a, rfl, ⟨vs, pa.sq⟩, k W' H' _ x st (rep_tup pa ra)⟩
    · refine (pi_list ha).run pins s σ H R I (toT _ S1 _ hf fun W' H' v x st rd => ?_)
      obtain ⟨a, vs, rfl, pa, ra⟩ := rp_lst rd
      rw [← hK]
      exact ⟨a, rfl, ⟨vs, pa.sq⟩, k W' H' _ x st (rep_lst pa ra)⟩
    · refine (pi_list ha).run pins s σ H R I (toT _ S1 _ hf fun W' H' v x st rd => ?_)
      obtain ⟨a, rfl, pa⟩ := rp_scr rd
      rw [← hK]
      exact ⟨a, rfl, ⟨_, pa.sq⟩, k W' H' _ x st (rep_scr pa)⟩
    · refine (pi_str ha).run pins s σ H R I (toT _ S1 _ hf fun W' H' v x st rd => ?_)
      cases rp_str rd
      exact ⟨_, rfl, k W' H' _ x st rep_str⟩
    · rename_i i
      split at k
      · rename_i ds hs
        refine (pi_list ha).run pins s σ H R I (toT _ S1 _ hf fun W' H' v x st rd => ?_)
        obtain ⟨a, vs, rfl, hat, hH, ra⟩ := rd_ref st hs rd
        rw [← hK]
        exact ⟨a, rfl, ⟨vs, SqL.of hH⟩, k W' H' _ x st (rep_ref hat)⟩
      · exact k.no
    · exact k.no
theorem k_range1 (hg : Gl X "range") (hm : X.mg "range" = none) (ha : PE X e (TD G E fa)) (hs : starEach [e] X.env = [(false, eval e X.env)]) : PI X tg (.Call (.Name "range" p) [e] [] pos) (TIt G E fun r S => (fa r S).bind fun x S1 => match x with
    | .int n => if n.natAbs < 4611686018427387904 then .ok (rangeD 0 n.toNat, none) S1 else .bad
    | _ => .bad) :=
  ⟨fun pins s σ H R I h => (pi_range1 hg hm (pa_cons ha pa_nil hs) hs).run pins s σ H R I (T.imp (T.seq' (p := Rp G) h) fun v H1 ⟨W, r, S, d, rel, rd, k⟩ => by
    split at k
    · rename_i n
      split at k
      · rename_i hz
        exact ⟨n, by rw [rp_int rd], by omega, by omega, k.done rel.st rep_range⟩
      · exact k.no
    · exact k.no)⟩
theorem k_range2 (hg : Gl X "range") (hm : X.mg "range" = none) (ha : PE X e1 (TD G E fa)) (hb : PE X e2 (TD G E fb)) (hs : starEach [e1, e2] X.env = [(false, eval e1 X.env), (false, eval e2 X.env)]) (hs2 : starEach [e2] X.env = [(false, eval e2 X.env)]) :
    PI X tg (.Call (.Name "range" p) [e1, e2] [] pos) (TIt G E fun r S => (fa r S).bind fun x S1 => (fb r S1).bind fun y S2 => match x, y with
    | .int n, .int m => if n.natAbs < 4611686018427387904 ∧ m.natAbs < 4611686018427387904 then .ok (rangeD n (m - n).toNat, none) S2 else .bad
    | _, _ => .bad) :=
  ⟨fun pins s σ H R I h => (pi_range2 hg hm (pa_cons ha (pa_cons hb pa_nil hs2) (by rw [hs, hs2])) hs hs2).run pins s σ H R I (T.imp (T.two' (g := D) mono_D h) fun v H1 h1 => T.imp h1 fun u H2 ⟨W, r, S, d, d2, rel, rd, rd2, k⟩ => by
    split at k
    · rename_i n m
      split at k
      · rename_i hz
        exact ⟨n, m, by rw [rp_int rd, rp_int rd2], by omega, k.done rel.st rep_range⟩
      · exact k.no
    · exact k.no)⟩
theorem k_rev (hK : G.K = X.K) (hg : Gl X "reversed") (hm : X.mg "reversed" = none) (ha : PE X e (TD G E fa)) (hs : starEach [e] X.env = (false, eval e X.env) :: starEach [] X.env) : PI X tg (.Call (.Name "reversed" p) [e] [] pos) (TIt G E fun r S => (fa r S).bind fun x S1 => match x with
    | .tup ds => .ok (ds.reverse, none) S1
    | .lst ds => .ok (ds.reverse, none) S1
    | _ => .bad) :=
  ⟨fun pins s σ H R I h => (RT.pi_revA hg hm ha hs).run pins s σ H R I (T.imp (T.seq' (p := Rp G) h) fun v H1 ⟨W, r, S, d, rel, rd, k⟩ => by
    split at k
    · obtain ⟨a, vs, rfl, pa, ra⟩ := rp_tup rd
      rw [← hK]
      exact ⟨a, vs, rfl, .inr ⟨pa.sq, k.done rel.st (rep_revT pa ra)⟩⟩
    · obtain ⟨a, vs, rfl, pa, ra⟩ := rp_lst rd
      rw [← hK]
      exact ⟨a, vs, rfl, .inl ⟨pa.sq, k.done rel.st (rep_revL pa ra)⟩⟩
    · exact k.no)⟩
end

/-! ### slots that a target stores -/
mutual
def tgIn (vs : List Nat) : Tg → Bool
  | .name i => vs.contains i
  | .tup ts => tgsIn vs ts
def tgsIn (vs : List Nat) : Tgs → Bool
  | .nil => true
  | .cons t ts => tgIn vs t && tgsIn vs ts
end
theorem wipe_set {q : L2.St} {i : Nat} {v : Option V} : ∀ {vs : List Nat}, i ∈ vs → wipe (q.set i v) vs = wipe q vs
  | [], h => by simp at h
  | u :: vs, h => by
    unfold L2.wipe
    by_cases e : i ∈ vs
    · rw [wipe_set e]
    · have z : i = u := by
        rcases List.mem_cons.mp h with z | z
        · exact z
        · exact absurd z e
      subst z
      have comm : ∀ {vs : List Nat}, i ∉ vs → wipe (q.set i v) vs = (wipe q vs).set i v := fun {vs} => by
        induction vs with
        | nil => intro _; rfl
        | cons w ws ih =>
          intro hn
          simp only [List.mem_cons, not_or] at hn
          unfold L2.wipe
          rw [ih hn.2, List.set_comm _ _ hn.1]
      rw [comm e, List.set_set]
/-! ### targets -/
/-- the reading of a target: what asg does -/
def gOf (G : Gb) (t : Tg) : TG := fun v q H Q => ∃ W r S d r2, Rel G W r S q H ∧ Rp G W H d v ∧ asg t d r = some r2 ∧ ∀ q2, SlR G W H r2 q2 → (∀ vs, tgIn vs t = true → wipe q2 vs = wipe q vs) → Q q2 H
def gsOf (G : Gb) (ts : Tgs) : TGs := fun vs q H Q => ∃ W r S ds r2, Rel G W r S q H ∧ Rps G W H ds vs ∧ asgs ts ds r = some r2 ∧ ∀ q2, SlR G W H r2 q2 → (∀ vs, tgsIn vs ts = true → wipe q2 vs = wipe q vs) → Q q2 H
section
variable {X : Cx} {G : Gb} {e : Expr} {es : List Expr} {pos : Pos}
theorem PG.imp {t t' : TG} (h : PG X e t) (k : ∀ v q H Q, t' v q H Q → t v q H Q) : PG X e t' := ⟨fun pins s q H v u Q I r hw => h.run pins s q H v u Q I r (k _ _ _ _ hw)⟩
theorem PGs.imp {t t' : TGs} (h : PGs X es t) (k : ∀ v q H Q, t' v q H Q → t v q H Q) : PGs X es t' := ⟨fun pins s q H v u Q I r hw => h.run pins s q H v u Q I r (k _ _ _ _ hw)⟩
theorem g_name {i : Nat} {x : Str} (h : PG X (.Name x pos) (gName i)) : PG X (.Name x pos) (gOf G (.name i)) :=
  PG.imp h fun v q H Q ⟨W, r, S, d, r2, rel, rd, ea, k⟩ => by
    simp only [asg, Option.some.injEq] at ea
    subst ea
    exact k _ (rel.sl.set i rd) fun vs h => wipe_set (by simpa [tgIn] using h)
theorem g_tup {ts : Tgs} {n : Nat} {kk : Nat} (hK : G.K = X.K) (hc : X.calm = true) (h : PGs X es (gsOf G ts)) (hl : ∀ ds r r2, asgs ts ds r = some r2 → ds.length = n) (hn : (assignEach es X.env).length = n) (hst : (assignEach es X.env).findIdx? (·.1) = none) :
    PG X (.Tuple es kk pos) (gOf G (.tup ts)) := by
  refine ⟨fun pins s q H v u Q I r hw => ?_⟩
  obtain ⟨W, rr, S, d, r2, rel, rd, ea, k⟩ := hw
  unfold asg at ea
  split at ea
  · rename_i ds
    obtain ⟨a, vs, rfl, pa, ra⟩ := rp_tup rd
    refine (pg_tup hc h hn hst).run pins s q H _ u Q I r ?_
    rw [← hK]
    exact ⟨a, vs, rfl, pa.sq, by rw [ra.length]; exact hl _ _ _ ea, W, rr, S, ds, r2, rel, ra, ea, fun q2 sl hw => k q2 sl fun us h => hw us (by simpa [tgIn] using h)⟩
  · rename_i ds
    obtain ⟨a, vs, rfl, pa, ra⟩ := rp_lst rd
    refine (pg_unl hc h hn hst).run pins s q H _ u Q I r ?_
    rw [← hK]
    exact ⟨a, vs, rfl, pa.sq, by rw [ra.length]; exact hl _ _ _ ea, W, rr, S, ds, r2, rel, ra, ea, fun q2 sl hw => k q2 sl fun us h => hw us (by simpa [tgIn] using h)⟩
  · cases ea
theorem g_nil : PGs X [] (gsOf G .nil) :=
  PGs.imp pgs_nil fun vs q H Q ⟨W, r, S, ds, r2, rel, rd, ea, k⟩ => by
    unfold asgs at ea
    split at ea
    · cases ea
      exact ⟨Rps.nil_iff.mp rd, k _ rel.sl fun _ _ => rfl⟩
    · cases ea
theorem g_cons {t : Tg} {ts : Tgs} (h1 : PG X e (gOf G t)) (h2 : PGs X es (gsOf G ts)) (hs : (assignEach (e :: es) X.env).map (·.2) = assign e X.env :: (assignEach es X.env).map (·.2)) : PGs X (e :: es) (gsOf G (.cons t ts)) :=
  PGs.imp (pgs_cons h1 h2 hs) fun vs q H Q ⟨W, r, S, ds, r2, rel, rd, ea, k⟩ => by
    unfold asgs at ea
    split at ea
    · rename_i d ds
      obtain ⟨v, t, rfl, r1, rs⟩ := Rps.cons_iff.mp rd
      cases e1 : asg _ d r with
      | none => rw [e1] at ea; cases ea
      | some r3 =>
        rw [e1] at ea
        exact ⟨v, t, rfl, W, r, S, d, r3, rel, r1, e1, fun q2 sl hw => ⟨W, r3, S, ds, r2, ⟨sl, rel.st⟩, rs, ea, fun q3 sl3 hw3 => k q3 sl3 fun us h => by
          simp only [tgsIn, Bool.and_eq_true] at h
          rw [hw3 us h.2, hw us h.1]⟩⟩
    · cases ea
end
/-! ### slots forgotten -/
theorem SlR.wipe {G : Gb} {W : Wd} {H : Hp} {r : Loc} {q : L2.St} (h : SlR G W H r q) : ∀ vs, SlR G W H (wipeL r vs) (wipe q vs)
  | [] => h
  | v :: vs => by
    have ih := h.wipe vs
    unfold wipeL L2.wipe
    refine ⟨by simpa using ih.len, fun j c e => ?_⟩
    by_cases z : j = v
    · subst z
      by_cases hl : j < (wipeL r vs).length
      · rw [List.getElem?_set_self hl] at e
        cases e
      · rw [List.getElem?_eq_none (by simpa using hl)] at e
        cases e
    · rw [List.getElem?_set_ne (Ne.symm z)] at e ⊢
      exact ih.at_ j c e
end DL
set_option Elab.async false
set_option linter.all false
set_option maxRecDepth 100000
set_option maxHeartbeats 4000000
/-! DL9: list comprehensions. -/
namespace DL
open PySem PySem.Spec PyProof.Rows L2

/-- a list is being made at p: base (W1, H1), now (W2, H, S), its items ds -/
def CI (G : Gb) (W1 : Wd) (H1 : Hp) (p : Addr) (W2 : Wd) (H : Hp) (S : Sto) (ds : List D) : Prop :=
  ∃ vs, Ext W1 H1 W2 H ∧ StoR G W2 H S ∧ p ∈ W2.b ∧ p ∉ W2.t ∧ H p = some (.lst vs) ∧ Rps G W2 H ds vs
section
variable {G : Gb} {W1 W2 W3 : Wd} {H1 H H3 : Hp} {p : Addr} {S S3 : Sto} {ds : List D}
theorem CI.init (st : StoR G W1 H1 S) (h : H1 p = none) : CI G W1 H1 p ⟨W1.t, p :: W1.b⟩ (upd H1 p (.lst [])) S [] :=
  ⟨[], Ext.hide h, st.hide h, List.mem_cons_self, (st.fresh h).1, upd_same, Rps.nil⟩
theorem CI.ext (c : CI G W1 H1 p W2 H S ds) (x : Ext W2 H W3 H3) (st : StoR G W3 H3 S3) : CI G W1 H1 p W3 H3 S3 ds := by
  obtain ⟨vs, e, s, h1, h2, h3, h4⟩ := c
  obtain ⟨l, eb, _⟩ := x.b
  exact ⟨vs, e.trans x, st, by rw [eb]; exact List.mem_append_right _ h1, x.out h2 h3, x.k _ _ h2 h3, Rps.ext x _ _ h4⟩
theorem Ext.hid {o : HO} (x : Ext W1 H1 W2 H) (h : H1 p = none) : Ext W1 H1 W2 (upd H p o) := by
  refine ⟨x.b, x.t, fun a u ha e => ?_, fun a u e => ?_⟩
  · rw [upd_ne (ne_of_none e h)]
    exact x.k a u ha e
  · rw [upd_ne (ne_of_none e h)]
    exact x.lv a u e
theorem CI.app {d : D} {v : V} (h0 : H1 p = none) (c : CI G W1 H1 p W2 H S ds) (r : Rp G W2 H d v) : ∃ vs, H p = some (.lst vs) ∧ vs.length = ds.length ∧ CI G W1 H1 p W2 (upd H p (.lst (vs ++ [v]))) S (ds ++ [d]) := by
  obtain ⟨vs, e, s, h1, h2, h3, h4⟩ := c
  have x : Wk W2 H W2 (upd H p (.lst (vs ++ [v]))) := Wk.upd h1
  refine ⟨vs, h3, h4.length, vs ++ [v], e.hid h0, s.wk x rfl (fun a ha => upd_ne fun z => h2 (z ▸ ha)) fun a ha => ?_, h1, h2, upd_same, (Rps.wk x _ _ h4).append (Rps.one (Rp.wk x _ _ r))⟩
  by_cases z : a = p
  · subst z
    exact ⟨_, upd_same⟩
  · rw [upd_ne z]
    exact s.liveB a ha
/-- made: a plain list, or an object of the store -/
theorem CI.fin {E : XK} {Q : VK} {trk : Bool} (st : StoR G W1 H1 S3) (h0 : H1 p = none) (c : CI G W1 H1 p W2 H S ds) (k : Post G E (Rp G) W1 H1 (pushD trk ds S) Q) : Q (.ref p) H := by
  obtain ⟨vs, e, s, h1, h2, h3, h4⟩ := c
  have hb : ∀ a ∈ W1.b, a ∈ W2.b := fun a ha => by
    obtain ⟨l, eb, _⟩ := e.b
    rw [eb]
    exact List.mem_append_right _ ha
  have np : p ∉ W1.b := (st.fresh h0).2
  cases trk with
  | false =>
    have x : Wk W2 H ⟨W2.t, W1.b⟩ H := Wk.less hb
    refine k ⟨W2.t, W1.b⟩ H (.ref p) ⟨⟨[], by simp, by simp⟩, e.t, e.k, e.lv⟩ (s.wk x rfl (fun _ _ => rfl) fun a ha => s.liveB a (hb a ha)) ?_
    simp only [Rp]
    exact ⟨p, vs, rfl, ⟨h2, np, h3⟩, Rps.wk x _ _ h4⟩
  | true =>
    have x : Wk W2 H ⟨W2.t ++ [p], W1.b⟩ H := ⟨⟨[p], rfl, fun a ha => by rw [List.mem_singleton.mp ha]; exact h1⟩, hb, fun _ _ _ _ e => e⟩
    refine k ⟨W2.t ++ [p], W1.b⟩ H (.ref p) ⟨⟨[], by simp, by simp⟩, ?_, e.k, e.lv⟩ (s.adopt h1 h2 hb ⟨vs, h3, Rps.wk x _ _ h4⟩) ?_
    · obtain ⟨l, et, n⟩ := e.t
      refine ⟨l ++ [p], by show W2.t ++ [p] = _; rw [et, List.append_assoc], fun a ha => ?_⟩
      rcases List.mem_append.mp ha with ha | ha
      · exact n a ha
      · rw [List.mem_singleton.mp ha]
        exact h0
    · simp only [Rp]
      exact ⟨p, rfl, by rw [← s.len]; simp⟩
end
theorem quiet_ok {α : Type} {r : Re α} {a : α} {S : Sto} (h : r.quiet = .ok a S) : r = .ok a S := by
  cases r with
  | ok b T => exact h
  | err _ _ _ => cases h
  | bad => cases h
theorem quiet_ne {α : Type} {r : Re α} {x : Nat} {fs : List D} {S : Sto} : r.quiet ≠ .err x fs S := by
  cases r <;> (intro h; cases h)
theorem bind_ok_inv {α β : Type} {r : Re α} {g : α → Sto → Re β} {b : β} {S : Sto} (h : r.bind g = .ok b S) : ∃ a S1, r = .ok a S1 ∧ g a S1 = .ok b S := by
  cases r with
  | ok a S1 => exact ⟨a, S1, rfl, h⟩
  | err _ _ _ => cases h
  | bad => cases h
theorem compG_ne {gd : Gd} {g : D → Sto → Re (Option D)} (hg : ∀ d S x fs S2, g d S ≠ .err x fs S2) : ∀ (its : List D) (S : Sto) (x : Nat) (fs : List D) (S2 : Sto), compG gd g its S ≠ .err x fs S2
  | [], S, x, fs, S2 => by
    unfold compG
    split <;> (intro h; cases h)
  | d :: its, S, x, fs, S2 => by
    unfold compG
    split
    · cases e : g d S with
      | err _ _ _ => exact absurd e (hg _ _ _ _ _)
      | bad => intro h; cases h
      | ok o S1 =>
        simp only [bind_ok]
        cases e2 : compG gd g its S1 with
        | err _ _ _ => exact absurd e2 (compG_ne hg its S1 _ _ _)
        | bad => intro h; cases h
        | ok r S3 => intro h; cases h
    · intro h; cases h
theorem compG_nil {gd : Gd} {g : D → Sto → Re (Option D)} {S S2 : Sto} {r : List D} (h : compG gd g [] S = .ok r S2) : gdOk gd S ∧ r = [] ∧ S2 = S := by
  unfold compG at h
  split at h
  · rename_i hg
    cases h
    exact ⟨hg, rfl, rfl⟩
  · cases h
theorem compG_cons {gd : Gd} {g : D → Sto → Re (Option D)} {d : D} {its : List D} {S S2 : Sto} {r : List D} (h : compG gd g (d :: its) S = .ok r S2) : gdOk gd S ∧ ∃ o S1 r', g d S = .ok o S1 ∧ compG gd g its S1 = .ok r' S2 ∧ r = o.toList ++ r' := by
  unfold compG at h
  split at h
  · rename_i hg
    obtain ⟨o, S1, h1, h2⟩ := bind_ok_inv h
    obtain ⟨r', S3, h3, h4⟩ := bind_ok_inv h2
    cases h4
    exact ⟨hg, o, S1, r', h1, h3, rfl⟩
  · cases h
theorem drop_get {α : Type} {l : List α} {i : Nat} {x : α} (h : l[i]? = some x) : l.drop i = x :: l.drop (i + 1) := by
  obtain ⟨hi, e⟩ := List.getElem?_eq_some_iff.mp h
  rw [List.drop_eq_getElem_cons hi, e]
/-- no exception is wished -/
abbrev E0 : XK := fun _ _ _ => False
section
variable {X : Cx} {G : Gb} {E : XK} {elt tg iter : Expr} {ifs : List Expr} {scope : Scope} {own : List (Str × Nat)} {pos : Pos} {t : Tg} {fI : M (List D × Gd)} {fc : M Bool} {fe : M D} {trk : Bool}
/-- the meaning of a comprehension of one clause -/
noncomputable def semComp (trk : Bool) (own : List Nat) (t : Tg) (fI : M (List D × Gd)) (fc : M Bool) (fe : M D) : M D := fun r S => (fI r S).bind fun w S1 =>
  if w.1.length ≤ 1000000 then
    (compG w.2 (fun x S2 => match asg t x (wipeL r own) with
      | some r2 => ((fc r2 S2).bind fun k S3 => if k then (fe r2 S3).bind fun y S4 => .ok (some y) S4 else .ok none S3).quiet
      | none => .bad) w.1 S1).bind fun ds S2 => pushD trk ds S2
  else .bad
/-- one turn of a comprehension's inner part -/
theorem turn_of {W1 : Wd} {H1 : Hp} {p : Addr} {r2 : Loc} {S2 S3 : Sto} {W2 : Wd} {H2 : Hp} {q2 : L2.St} {ds : List D} {o : Option D} {Nx : Hp → Prop} (h0 : H1 p = none) (sl : SlR G W2 H2 r2 q2) (c : CI G W1 H1 p W2 H2 S2 ds) (hl : ds.length < 1000000)
    (h : ((fc r2 S2).bind fun k S3 => if k then (fe r2 S3).bind fun y S4 => .ok (some y) S4 else .ok none S3).quiet = .ok o S3)
    (nx : ∀ W3 H3, Ext W2 H2 W3 H3 ∨ True → CI G W1 H1 p W3 H3 S3 (ds ++ o.toList) → Nx H3) :
    TB G E0 fc q2 H2 fun b H3 => if b = true then TD G E0 fe q2 H3 fun y H4 => ∃ acc, H4 p = some (.lst acc) ∧ acc.length < sizeLine ∧ Nx (upd H4 p (.lst (acc ++ [y]))) else Nx H3 := by
  obtain ⟨k, S4, hk, h⟩ := bind_ok_inv (quiet_ok h)
  have st2 : StoR G W2 H2 S2 := by
    obtain ⟨_, _, s, _⟩ := c
    exact s
  refine ⟨W2, r2, S2, ⟨sl, st2⟩, ?_⟩
  rw [hk]
  intro W3 H3 b x st hb
  subst hb
  cases b with
  | false =>
    simp only [Bool.false_eq_true, if_false] at h ⊢
    cases h
    exact nx W3 H3 (.inr trivial) (by simpa using c.ext x st)
  | true =>
    simp only [if_true] at h ⊢
    obtain ⟨y, S5, hy, h⟩ := bind_ok_inv h
    cases h
    refine ⟨W3, r2, S4, ⟨sl.ext x, st⟩, ?_⟩
    rw [hy]
    intro W4 H4 v x4 st4 rv
    obtain ⟨vs, hv, hlen, c4⟩ := ((c.ext x st).ext x4 st4).app h0 rv
    exact ⟨vs, hv, by rw [hlen]; exact szlt hl, nx W4 _ (.inr trivial) c4⟩
theorem k_comp (hK : G.K = X.K) (hc : X.calm = true) (hN : X.N.Nodup) (hi : PI X tg iter (TIt G E fI)) (ok : BlkOk X.N X.env.scope scope own) (hin : tgIn (own.map (·.2)) t = true)
    (hg : ∀ (s : Shared) (H : Hp) (C : Addr) (cl : List (Str × Addr)) (fp : List Addr), PG (X.blk s H scope (compEnvC scope cl C X.env) fp) tg (gOf G t)) (ht : ∀ (s : Shared) (H : Hp) (C : Addr) (cl : List (Str × Addr)) (fp : List Addr), PTs (X.blk s H scope (compEnvC scope cl C X.env) fp) ifs (TB G E0 fc))
    (he : ∀ (s : Shared) (H : Hp) (C : Addr) (cl : List (Str × Addr)) (fp : List Addr), PE (X.blk s H scope (compEnvC scope cl C X.env) fp) elt (TD G E0 fe)) (hs : ∀ x, foldedSetIterable iter X.env x = pure x) :
    PE X (.ListComp elt [⟨tg, iter, ifs, 0⟩] scope pos) (TD G E (semComp trk (own.map (·.2)) t fI fc fe)) ∧
    ∀ q H Q, TD G E (semComp trk (own.map (·.2)) t fI fc fe) q H Q → tLc (TIt G E fI) (gOf G t) (TB G E0 fc) (TD G E0 fe) (own.map (·.2)) q H Q := by
  have main : ∀ q H Q, TD G E (semComp trk (own.map (·.2)) t fI fc fe) q H Q → tLc (TIt G E fI) (gOf G t) (TB G E0 fc) (TD G E0 fe) (own.map (·.2)) q H Q := by
    intro q H Q h
    refine T.imp (T.seq (p := repI G) h) fun J H1 ⟨W1, r, S1, w, rel, rep, k⟩ p hp => ?_
    obtain ⟨its, gd⟩ := w
    obtain ⟨Gh, Y, wk, c1, c2⟩ := rep
    dsimp only at k c1 c2 wk
    split at k
    · rename_i hlen
      cases hr : compG gd (fun x S2 => match asg t x (wipeL r (own.map (·.2))) with
          | some r2 => ((fc r2 S2).bind fun k S3 => if k then (fe r2 S3).bind fun y S4 => .ok (some y) S4 else .ok none S3).quiet
          | none => .bad) its S1 with
      | bad =>
        rw [hr] at k
        exact k.no
      | err n fs S2 =>
        refine absurd hr (compG_ne (fun d S x fs S2 => ?_) _ _ _ _ _)
        split
        · exact quiet_ne
        · intro h; cases h
      | ok dsA SA =>
        rw [hr] at k
        simp only [bind_ok] at k
        refine lc_it wk (fun i H' => ∃ W2 S2 ds rr, CI G W1 H1 p W2 H' S2 ds ∧ ds.length ≤ i ∧ compG gd (fun x S2 => match asg t x (wipeL r (own.map (·.2))) with
          | some r2 => ((fc r2 S2).bind fun k S3 => if k then (fe r2 S3).bind fun y S4 => .ok (some y) S4 else .ok none S3).quiet
          | none => .bad) (its.drop i) S2 = .ok rr SA ∧ dsA = ds ++ rr) ⟨_, S1, [], dsA, CI.init rel.st hp, Nat.le_refl _, hr, rfl⟩ ?_ ?_ ?_
        · rintro i H' hi ⟨W2, S2, ds, rr, ci, hl, hcomp, _⟩
          obtain ⟨vs, e, s, _⟩ := id ci
          refine c1 W2 H' S2 e.w s ?_
          cases e2 : its.drop i with
          | nil =>
            rw [e2] at hcomp
            exact (compG_nil hcomp).1
          | cons d rest =>
            rw [e2] at hcomp
            exact (compG_cons hcomp).1
        · rintro i x H' H'' hi ⟨W2, S2, ds, rr, ci, hl, hcomp, eA⟩ y
          obtain ⟨vs, e, s, _⟩ := id ci
          have hd : ∃ d, its[i]? = some d := ⟨its[i], by simp [hi]⟩
          obtain ⟨d0, hd0⟩ := hd
          rw [drop_get hd0] at hcomp
          obtain ⟨hgd, o, S3, r', hstep, hrest, err⟩ := compG_cons hcomp
          obtain ⟨d, hd1, x1, st1, rd⟩ := c2 i W2 H' S2 x H'' hi e.w s hgd y
          rw [hd0] at hd1
          cases hd1
          split at hstep
          · rename_i r2 hasg
            have ci2 := ci.ext x1 st1
            refine ⟨W2, wipeL r (own.map (·.2)), S2, d0, r2, ⟨((rel.sl.ext e).ext x1).wipe _, st1⟩, rd, hasg, fun q2 sl hw => ⟨?_, ?_⟩⟩
            · rw [hw _ hin]
              have ww : ∀ (vs : List Nat) (q : L2.St), wipe (wipe q vs) vs = wipe q vs := by
                intro vs
                have idem : ∀ (us vs : List Nat) (q : L2.St), (∀ v ∈ us, v ∈ vs) → wipe (wipe q us) vs = wipe q vs := by
                  intro us
                  induction us with
                  | nil => intro vs q _; rfl
                  | cons u us ih =>
                    intro vs q hu
                    show wipe ((wipe q us).set u none) vs = _
                    rw [wipe_set (hu u List.mem_cons_self)]
                    exact ih vs q fun v hv => hu v (List.mem_cons_of_mem _ hv)
                exact fun q => idem vs vs q fun _ h => h
              exact ww _ _
            · refine turn_of hp sl ci2 (by omega) hstep fun W3 H3 _ c3 => ?_
              refine ⟨W3, S3, ds ++ o.toList, r', c3, ?_, hrest, by rw [eA, err, List.append_assoc]⟩
              rw [List.length_append]
              cases o <;> simp <;> omega
          · cases hstep
        · rintro H' ⟨W2, S2, ds, rr, ci, hl, hcomp, eA⟩
          rw [show its.drop its.length = [] by simp] at hcomp
          obtain ⟨_, rfl, rfl⟩ := compG_nil hcomp
          rw [List.append_nil] at eA
          subst eA
          exact ci.fin rel.st hp k
    · exact k.no
  exact ⟨PE.imp (pe_lc hc hN hi ok hg ht he hs) main, main⟩
end
end DL
set_option Elab.async false
set_option linter.all false
set_option maxRecDepth 100000
set_option maxHeartbeats 4000000
/-! DL10: comprehensions of two clauses. -/
namespace DL
open PySem PySem.Spec PyProof.Rows L2
theorem compL_ne {gd : Gd} {g : D → Sto → Re (List D)} (hg : ∀ d S x fs S2, g d S ≠ .err x fs S2) : ∀ (its : List D) (S : Sto) (x : Nat) (fs : List D) (S2 : Sto), compL gd g its S ≠ .err x fs S2
  | [], S, x, fs, S2 => by
    unfold compL
    split <;> (intro h; cases h)
  | d :: its, S, x, fs, S2 => by
    unfold compL
    split
    · cases e : g d S with
      | err _ _ _ => exact absurd e (hg _ _ _ _ _)
      | bad => intro h; cases h
      | ok o S1 =>
        simp only [bind_ok]
        cases e2 : compL gd g its S1 with
        | err _ _ _ => exact absurd e2 (compL_ne hg its S1 _ _ _)
        | bad => intro h; cases h
        | ok r S3 => intro h; cases h
    · intro h; cases h
theorem compL_nil {gd : Gd} {g : D → Sto → Re (List D)} {S S2 : Sto} {r : List D} (h : compL gd g [] S = .ok r S2) : gdOk gd S ∧ r = [] ∧ S2 = S := by
  unfold compL at h
  split at h
  · rename_i hg
    cases h
    exact ⟨hg, rfl, rfl⟩
  · cases h
theorem compL_cons {gd : Gd} {g : D → Sto → Re (List D)} {d : D} {its : List D} {S S2 : Sto} {r : List D} (h : compL gd g (d :: its) S = .ok r S2) : gdOk gd S ∧ ∃ o S1 r', g d S = .ok o S1 ∧ compL gd g its S1 = .ok r' S2 ∧ r = o ++ r' := by
  unfold compL at h
  split at h
  · rename_i hg
    obtain ⟨o, S1, h1, h2⟩ := bind_ok_inv h
    obtain ⟨r', S3, h3, h4⟩ := bind_ok_inv h2
    cases h4
    exact ⟨hg, o, S1, r', h1, h3, rfl⟩
  · cases h
theorem compG_length {gd : Gd} {g : D → Sto → Re (Option D)} : ∀ {its : List D} {S S2 : Sto} {r : List D}, compG gd g its S = .ok r S2 → r.length ≤ its.length
  | [], S, S2, r, h => by
    obtain ⟨_, rfl, _⟩ := compG_nil h
    exact Nat.le_refl _
  | d :: its, S, S2, r, h => by
    obtain ⟨_, o, S1, r', _, h2, rfl⟩ := compG_cons h
    have := compG_length h2
    rw [List.length_append, List.length_cons]
    cases o <;> simp <;> omega
theorem wipe_wipe (vs : List Nat) (q : L2.St) : wipe (wipe q vs) vs = wipe q vs := by
  have idem : ∀ (us vs : List Nat) (q : L2.St), (∀ v ∈ us, v ∈ vs) → wipe (wipe q us) vs = wipe q vs := by
    intro us
    induction us with
    | nil => intro vs q _; rfl
    | cons u us ih =>
      intro vs q hu
      show wipe ((wipe q us).set u none) vs = _
      rw [wipe_set (hu u List.mem_cons_self)]
      exact ih vs q fun v hv => hu v (List.mem_cons_of_mem _ hv)
  exact idem vs vs q fun _ h => h
/-- the inner loop over a walk -/
theorem lc2_inner {J : It} {n : Nat} {Gh : Hp → Prop} {Y : Nat → Hp → V → Hp → Prop} (w : Walk J n Gh Y) {g : TG} {tt : TT} {te : TE} {vs : List Nat} {σ : L2.St} {H1 : Hp} {D : Addr} {Qd : Hp → Prop} (Pv : Nat → Hp → Prop) (h0 : Pv 0 H1) (hG : ∀ i H, i ≤ n → Pv i H → Gh H)
    (hs : ∀ i x H H', i < n → Pv i H → Y i H x H' → g x (wipe σ vs) H' fun σ2 H2 => wipe σ2 vs = wipe σ vs ∧ tt σ2 H2 fun b H3 =>
      if b = true then te σ2 H3 fun y H4 => ∃ acc, H4 D = some (.lst acc) ∧ acc.length < sizeLine ∧ Pv (i + 1) (upd H4 D (.lst (acc ++ [y]))) else Pv (i + 1) H3) (hd : ∀ H, Pv n H → Qd H) :
    ∃ W : Nat → Nat → Hp → Prop, (∃ m, W 0 m H1) ∧ ∀ i m H, W i m H →
      (J.stop i H ∧ Qd H) ∨ (J.go i H ∧ ∃ Nx : Hp → Prop, (∀ H', Nx H' → ∃ m', m' < m ∧ W (i + 1) m' H') ∧ ∀ x H', J.yld i H x H' → g x (wipe σ vs) H' fun σ2 H2 => wipe σ2 vs = wipe σ vs ∧ tt σ2 H2 fun b H3 =>
        if b = true then te σ2 H3 fun y H4 => ∃ acc, H4 D = some (.lst acc) ∧ acc.length < sizeLine ∧ Nx (upd H4 D (.lst (acc ++ [y]))) else Nx H3) := by
  refine ⟨fun i m H => m = n - i ∧ i ≤ n ∧ Pv i H, ⟨n, by simp, Nat.zero_le _, h0⟩, ?_⟩
  rintro i m H ⟨rfl, hi, p⟩
  have q := hG i H hi p
  by_cases hlt : i < n
  · refine .inr ⟨w.goes i H hlt q, Pv (i + 1), fun H' p' => ⟨n - (i + 1), by omega, rfl, hlt, p'⟩, fun x H' y => hs i x H H' hlt p (w.yields i H x H' hlt q y)⟩
  · have e : i = n := by omega
    subst e
    exact .inl ⟨w.stops H q, hd H p⟩
section
variable {X : Cx} {G : Gb} {E : XK} {elt tg iter tg1 iter1 : Expr} {ifs ifs1 : List Expr} {scope : Scope} {own : List (Str × Nat)} {vs1 : List Nat} {pos : Pos} {t t1 : Tg} {fI fI1 : M (List D × Gd)} {fc fc1 : M Bool} {fe : M D} {trk : Bool}
noncomputable def inner2 (own2 : List Nat) (t2 : Tg) (fI2 : M (List D × Gd)) (fc2 : M Bool) (fe : M D) (r2 : Loc) (S3 : Sto) : Re (List D) := (fI2 r2 S3).bind fun w2 S4 =>
  if w2.1.length ≤ 1000 then
    compG w2.2 (fun x2 S5 => match asg t2 x2 (wipeL r2 own2) with
      | some r3 => ((fc2 r3 S5).bind fun k2 S6 => if k2 then (fe r3 S6).bind fun y S7 => .ok (some y) S7 else .ok none S6).quiet
      | none => .bad) w2.1 S4
  else .bad
noncomputable def semComp2 (trk : Bool) (own : List Nat) (t : Tg) (fI : M (List D × Gd)) (fc : M Bool) (own2 : List Nat) (t2 : Tg) (fI2 : M (List D × Gd)) (fc2 : M Bool) (fe : M D) : M D := fun r S => (fI r S).bind fun w S1 =>
  if w.1.length ≤ 1000 then
    (compL w.2 (fun x S2 => match asg t x (wipeL r own) with
      | some r2 => ((fc r2 S2).bind fun k S3 => if k then inner2 own2 t2 fI2 fc2 fe r2 S3 else .ok [] S3).quiet
      | none => .bad) w.1 S1).bind fun ds S2 => pushD trk ds S2
  else .bad
theorem k_comp2 (hK : G.K = X.K) (hc : X.calm = true) (hN : X.N.Nodup) (hi : PI X tg iter (TIt G E fI)) (ok : BlkOk X.N X.env.scope scope own) (hv : ∀ i ∈ vs1, i ∈ own.map (·.2)) (hin : tgIn (own.map (·.2)) t = true) (hin1 : tgIn vs1 t1 = true)
    (hg : ∀ (s : Shared) (H : Hp) (C : Addr) (cl : List (Str × Addr)) (fp : List Addr), PG (X.blk s H scope (compEnvC scope cl C X.env) fp) tg (gOf G t)) (ht : ∀ (s : Shared) (H : Hp) (C : Addr) (cl : List (Str × Addr)) (fp : List Addr), PTs (X.blk s H scope (compEnvC scope cl C X.env) fp) ifs (TB G E0 fc))
    (hi1 : ∀ (s : Shared) (H : Hp) (C : Addr) (cl : List (Str × Addr)) (fp : List Addr), PI (X.blk s H scope (compEnvC scope cl C X.env) fp) tg1 iter1 (TIt G E0 fI1))
    (hg1 : ∀ (s : Shared) (H : Hp) (C : Addr) (cl : List (Str × Addr)) (fp : List Addr), PG (X.blk s H scope (compEnvC scope cl C X.env) fp) tg1 (gOf G t1)) (ht1 : ∀ (s : Shared) (H : Hp) (C : Addr) (cl : List (Str × Addr)) (fp : List Addr), PTs (X.blk s H scope (compEnvC scope cl C X.env) fp) ifs1 (TB G E0 fc1))
    (he : ∀ (s : Shared) (H : Hp) (C : Addr) (cl : List (Str × Addr)) (fp : List Addr), PE (X.blk s H scope (compEnvC scope cl C X.env) fp) elt (TD G E0 fe)) (hs : ∀ x, foldedSetIterable iter X.env x = pure x) (hs1 : ∀ env x, foldedSetIterable iter1 env x = pure x) :
    PE X (.ListComp elt [⟨tg, iter, ifs, 0⟩, ⟨tg1, iter1, ifs1, 0⟩] scope pos) (TD G E (semComp2 trk (own.map (·.2)) t fI fc vs1 t1 fI1 fc1 fe)) ∧
    ∀ q H Q, TD G E (semComp2 trk (own.map (·.2)) t fI fc vs1 t1 fI1 fc1 fe) q H Q → tLc2 (TIt G E fI) (gOf G t) (TB G E0 fc) (TIt G E0 fI1) (gOf G t1) (TB G E0 fc1) (TD G E0 fe) (own.map (·.2)) vs1 q H Q := by
  have main : ∀ q H Q, TD G E (semComp2 trk (own.map (·.2)) t fI fc vs1 t1 fI1 fc1 fe) q H Q → tLc2 (TIt G E fI) (gOf G t) (TB G E0 fc) (TIt G E0 fI1) (gOf G t1) (TB G E0 fc1) (TD G E0 fe) (own.map (·.2)) vs1 q H Q := by
    intro q H Q h
    refine T.imp (T.seq (p := repI G) h) fun J H1 ⟨W1, r, S1, w, rel, rep, k⟩ p hp => ?_
    obtain ⟨its, gd⟩ := w
    obtain ⟨Gh, Y, wk, c1, c2⟩ := rep
    dsimp only at k c1 c2 wk
    split at k
    · rename_i hlen
      cases hr : compL gd (fun x S2 => match asg t x (wipeL r (own.map (·.2))) with
          | some r2 => ((fc r2 S2).bind fun k S3 => if k then inner2 vs1 t1 fI1 fc1 fe r2 S3 else .ok [] S3).quiet
          | none => .bad) its S1 with
      | bad =>
        rw [hr] at k
        exact k.no
      | err n fs S2 =>
        refine absurd hr (compL_ne (fun d S x fs S2 => ?_) _ _ _ _ _)
        split
        · exact quiet_ne
        · intro h; cases h
      | ok dsA SA =>
        rw [hr] at k
        simp only [bind_ok] at k
        let Pv : Nat → Hp → Prop := fun i H' => ∃ W2 S2 ds rr, CI G W1 H1 p W2 H' S2 ds ∧ ds.length ≤ i * 1000 ∧ compL gd (fun x S2 => match asg t x (wipeL r (own.map (·.2))) with
          | some r2 => ((fc r2 S2).bind fun k S3 => if k then inner2 vs1 t1 fI1 fc1 fe r2 S3 else .ok [] S3).quiet
          | none => .bad) (its.drop i) S2 = .ok rr SA ∧ dsA = ds ++ rr
        have hG : ∀ i H', Pv i H' → Gh H' := by
          rintro i H' ⟨W2, S2, ds, rr, ci, hl, hcomp, _⟩
          obtain ⟨vs, e, s, _⟩ := id ci
          refine c1 W2 H' S2 e.w s ?_
          cases e2 : its.drop i with
          | nil =>
            rw [e2] at hcomp
            exact (compL_nil hcomp).1
          | cons d rest =>
            rw [e2] at hcomp
            exact (compL_cons hcomp).1
        refine ⟨fun i m H => m = its.length - i ∧ i ≤ its.length ∧ Pv i H, ⟨its.length, by simp, Nat.zero_le _, _, S1, [], dsA, CI.init rel.st hp, by simp, hr, rfl⟩, ?_⟩
        rintro i m H' ⟨rfl, hi, pv⟩
        have q := hG i H' pv
        by_cases hlt : i < its.length
        · refine .inr ⟨wk.goes i H' hlt q, Pv (i + 1), fun H'' p' => ⟨its.length - (i + 1), by omega, rfl, hlt, p'⟩, fun x H'' y => ?_⟩
          have y := wk.yields i H' x H'' hlt q y
          obtain ⟨W2, S2, ds, rr, ci, hl, hcomp, eA⟩ := pv
          obtain ⟨vs, e, s, _⟩ := id ci
          obtain ⟨d0, hd0⟩ : ∃ d, its[i]? = some d := ⟨its[i], by simp [hlt]⟩
          rw [drop_get hd0] at hcomp
          obtain ⟨hgd, o, S3, r', hstep, hrest, err⟩ := compL_cons hcomp
          obtain ⟨d, hd1, x1, st1, rd⟩ := c2 i W2 H' S2 x H'' hlt e.w s hgd y
          rw [hd0] at hd1
          cases hd1
          split at hstep
          · rename_i r2 hasg
            have ci2 := ci.ext x1 st1
            refine ⟨W2, wipeL r (own.map (·.2)), S2, d0, r2, ⟨((rel.sl.ext e).ext x1).wipe _, st1⟩, rd, hasg, fun q2 sl hw => ⟨by rw [hw _ hin, wipe_wipe], ?_⟩⟩
            obtain ⟨kk, S4, hk, hstep⟩ := bind_ok_inv (quiet_ok hstep)
            refine ⟨W2, r2, S2, ⟨sl, st1⟩, ?_⟩
            rw [hk]
            intro W3 H3 b x3 st3 hb
            subst hb
            have ci3 := ci2.ext x3 st3
            cases b with
            | false =>
              simp only [Bool.false_eq_true, if_false] at hstep ⊢
              cases hstep
              exact ⟨W3, _, ds, r', ci3, by omega, hrest, by rw [eA, err]; rfl⟩
            | true =>
              simp only [if_true] at hstep ⊢
              obtain ⟨w2, S5, hw2, hstep⟩ := bind_ok_inv hstep
              obtain ⟨its2, gd2⟩ := w2
              refine ⟨W3, r2, S4, ⟨sl.ext x3, st3⟩, ?_⟩
              rw [hw2]
              intro W4 H4 J1 x4 st4 rep2
              obtain ⟨Gh2, Y2, wk2, d1, d2⟩ := rep2
              dsimp only at hstep d1 d2 wk2
              split at hstep
              · rename_i hlen2
                have ci4 := ci3.ext x4 st4
                have sl4 := (sl.ext x3).ext x4
                refine lc2_inner wk2 (D := p) (fun j H' => ∃ W5 S6 es rr2, ExtW W4 H4 W5 H' ∧ SlR G W5 H' r2 q2 ∧ p ∈ W4.b ∧ CI G W1 H1 p W5 H' S6 (ds ++ es) ∧ es.length ≤ j ∧ compG gd2 (fun x2 S5 => match asg t1 x2 (wipeL r2 vs1) with
                  | some r3 => ((fc1 r3 S5).bind fun k2 S6 => if k2 then (fe r3 S6).bind fun y S7 => .ok (some y) S7 else .ok none S6).quiet
                  | none => .bad) (its2.drop j) S6 = .ok rr2 S3 ∧ o = es ++ rr2) ⟨W4, S5, [], o, (Ext.refl _ _).w, sl4, (let ⟨_, _, _, hb, _⟩ := ci4; hb), by simpa using ci4, Nat.le_refl _, hstep, rfl⟩ ?_ ?_ ?_
                · rintro j H' hj ⟨W5, S6, es, rr2, x5, sl5, hpb, ci5, hl5, hcomp5, _⟩
                  obtain ⟨_, _, s5, _⟩ := id ci5
                  refine d1 W5 H' S6 x5 s5 ?_
                  cases e2 : its2.drop j with
                  | nil =>
                    rw [e2] at hcomp5
                    exact (compG_nil hcomp5).1
                  | cons d rest =>
                    rw [e2] at hcomp5
                    exact (compG_cons hcomp5).1
                · rintro j x5 H' H5 hj ⟨W5, S6, es, rr2, xx, sl5, hpb, ci5, hl5, hcomp5, eo⟩ y5
                  obtain ⟨_, _, s5, _⟩ := id ci5
                  obtain ⟨c0, hc0⟩ : ∃ d, its2[j]? = some d := ⟨its2[j], by simp [hj]⟩
                  rw [drop_get hc0] at hcomp5
                  obtain ⟨hgd5, o5, S7, r5, hstep5, hrest5, err5⟩ := compG_cons hcomp5
                  obtain ⟨c, hc1, y1, st5, rc⟩ := d2 j W5 H' S6 x5 H5 hj xx s5 hgd5 y5
                  rw [hc0] at hc1
                  cases hc1
                  split at hstep5
                  · rename_i r3 hasg3
                    have sl6 : SlR G W5 H5 r2 q2 := sl5.ext y1
                    refine ⟨W5, wipeL r2 vs1, S6, c0, r3, ⟨sl6.wipe _, st5⟩, rc, hasg3, fun q3 sl3 hw3 => ⟨by rw [hw3 _ hin1, wipe_wipe], ?_⟩⟩
                    have ci6 := ci5.ext y1 st5
                    have hle : (ds ++ es).length < 1000000 := by
                      rw [List.length_append]
                      have : i * 1000 ≤ 999 * 1000 := Nat.mul_le_mul_right _ (by omega)
                      omega
                    obtain ⟨kk, S8, hk, hst⟩ := bind_ok_inv (quiet_ok hstep5)
                    refine ⟨W5, r3, S6, ⟨sl3, st5⟩, ?_⟩
                    rw [hk]
                    intro W6 H6 b z6 st6 hb
                    subst hb
                    have sl7 : SlR G W6 H6 r2 q2 := sl6.ext z6
                    cases b with
                    | false =>
                      simp only [Bool.false_eq_true, if_false] at hst ⊢
                      cases hst
                      exact ⟨W6, S7, es, r5, (xx.trans y1.w).trans z6.w, sl7, hpb, ci6.ext z6 st6, by omega, hrest5, by rw [eo, err5]; rfl⟩
                    | true =>
                      simp only [if_true] at hst ⊢
                      obtain ⟨yv, S9, hy, hst⟩ := bind_ok_inv hst
                      cases hst
                      refine ⟨W6, r3, S8, ⟨sl3.ext z6, st6⟩, ?_⟩
                      rw [hy]
                      intro W7 H7 v z7 st7 rv
                      obtain ⟨us, hv7, hlen7, c7⟩ := ((ci6.ext z6 st6).ext z7 st7).app hp rv
                      refine ⟨us, hv7, by rw [hlen7]; exact szlt hle, W7, S7, es ++ [yv], r5, (((xx.trans y1.w).trans z6.w).trans z7.w).upd hpb, ?_, hpb, by rw [← List.append_assoc]; exact c7, by simp; omega, hrest5, by rw [eo, err5, List.append_assoc]; rfl⟩
                      have sl8 : SlR G W7 H7 r2 q2 := sl7.ext z7
                      have hpb7 : p ∈ W7.b := let ⟨_, _, _, hb, _⟩ := c7; hb
                      exact ⟨sl8.len, fun i d e => let ⟨u, h1, h2⟩ := sl8.at_ i d e; ⟨u, h1, Rp.wk (Wk.upd hpb7) d u h2⟩⟩
                  · cases hstep5
                · rintro H' ⟨W5, S6, es, rr2, x5, sl5, hpb, ci5, hl5, hcomp5, eo⟩
                  rw [show its2.drop its2.length = [] by simp] at hcomp5
                  obtain ⟨_, rfl, rfl⟩ := compG_nil hcomp5
                  rw [List.append_nil] at eo
                  rw [← eo] at ci5 hl5
                  exact ⟨W5, _, ds ++ o, r', ci5, by rw [List.length_append]; omega, hrest, by rw [eA, err, List.append_assoc]⟩
              · cases hstep
          · cases hstep
        · have e : i = its.length := by omega
          subst e
          refine .inl ⟨wk.stops H' q, ?_⟩
          obtain ⟨W2, S2, ds, rr, ci, hl, hcomp, eA⟩ := pv
          rw [show its.drop its.length = [] by simp] at hcomp
          obtain ⟨_, rfl, rfl⟩ := compL_nil hcomp
          rw [List.append_nil] at eA
          subst eA
          exact ci.fin rel.st hp k
    · exact k.no
  exact ⟨PE.imp (pe_lc2 hc hN hi ok hv hg ht hi1 hg1 ht1 he hs hs1) main, main⟩
end
end DL
set_option Elab.async false
set_option linter.all false
set_option maxRecDepth 100000
set_option maxHeartbeats 4000000
/-! DL11: statements. -/
namespace DL
open PySem PySem.Spec PyProof.Rows L2

inductive Rs where
  | nx (r : Loc) (S : Sto)
  | ret (d : D) (S : Sto)
  | brk (r : Loc) (S : Sto)
  | ct (r : Loc) (S : Sto)
  | err (x : Nat) (fs : List D) (S : Sto)
  | bad
abbrev MS := Loc → Sto → Rs
def Re.to {a : Type} (r : Re a) (g : a → Sto → Rs) : Rs := match r with
  | .ok x S => g x S
  | .err x fs S => .err x fs S
  | .bad => .bad
@[simp] theorem to_ok {α : Type} {a : α} {S : Sto} {g : α → Sto → Rs} : (Re.ok a S).to g = g a S := rfl
@[simp] theorem to_err {α : Type} {x : Nat} {fs : List D} {S : Sto} {g : α → Sto → Rs} : (Re.err x fs S : Re α).to g = .err x fs S := rfl
@[simp] theorem to_bad {α : Type} {g : α → Sto → Rs} : (Re.bad : Re α).to g = .bad := rfl
def Rs.seq (x : Rs) (g : MS) : Rs := match x with
  | .nx r S => g r S
  | x => x
@[simp] theorem seq_nx {r : Loc} {S : Sto} {g : MS} : (Rs.nx r S).seq g = g r S := rfl
@[simp] theorem seq_ret {d : D} {S : Sto} {g : MS} : (Rs.ret d S).seq g = .ret d S := rfl
@[simp] theorem seq_brk {r : Loc} {S : Sto} {g : MS} : (Rs.brk r S).seq g = .brk r S := rfl
@[simp] theorem seq_ct {r : Loc} {S : Sto} {g : MS} : (Rs.ct r S).seq g = .ct r S := rfl
@[simp] theorem seq_err {x : Nat} {fs : List D} {S : Sto} {g : MS} : (Rs.err x fs S).seq g = .err x fs S := rfl
@[simp] theorem seq_bad {g : MS} : (Rs.bad).seq g = .bad := rfl
/-- behind a loop's turn -/
def Rs.turn (x : Rs) (g : MS) : Rs := match x with
  | .nx r S => g r S
  | .ct r S => g r S
  | .brk r S => .nx r S
  | x => x
@[simp] theorem turn_nx {r : Loc} {S : Sto} {g : MS} : (Rs.nx r S).turn g = g r S := rfl
@[simp] theorem turn_ret {d : D} {S : Sto} {g : MS} : (Rs.ret d S).turn g = .ret d S := rfl
@[simp] theorem turn_brk {r : Loc} {S : Sto} {g : MS} : (Rs.brk r S).turn g = .nx r S := rfl
@[simp] theorem turn_ct {r : Loc} {S : Sto} {g : MS} : (Rs.ct r S).turn g = g r S := rfl
@[simp] theorem turn_err {x : Nat} {fs : List D} {S : Sto} {g : MS} : (Rs.err x fs S).turn g = .err x fs S := rfl
@[simp] theorem turn_bad {g : MS} : (Rs.bad).turn g = .bad := rfl

def PostS (G : Gb) (E : XK) (W : Wd) (H : Hp) (x : Rs) (D : Ends) : Prop := match x with
  | .nx r S => ∀ W' H' q, Ext W H W' H' → Rel G W' r S q H' → D.nx q H'
  | .ret d S => ∀ W' H' v, Ext W H W' H' → StoR G W' H' S → Rp G W' H' d v → D.rt v H'
  | .brk r S => ∀ W' H' q, Ext W H W' H' → Rel G W' r S q H' → D.bk q H'
  | .ct r S => ∀ W' H' q, Ext W H W' H' → Rel G W' r S q H' → D.ct q H'
  | .err x fs S => ∀ W' H' c dd, Ext W H W' H' → StoR G W' H' S → ErrR G W' H' x fs c dd → E c dd H'
  | .bad => False
def TSm (G : Gb) (E : XK) (f : MS) : TS := fun D q H => ∃ W r S, Rel G W r S q H ∧ PostS G E W H (f r S) D
section
variable {G : Gb} {E : XK} {W W' : Wd} {H H' : Hp} {D D' : Ends}
theorem PostS.mono {x : Rs} (e : Ext W H W' H') (h : PostS G E W H x D) : PostS G E W' H' x D := by
  cases x with
  | nx r S => exact fun W2 H2 q y s => h W2 H2 q (e.trans y) s
  | ret d S => exact fun W2 H2 q y s => h W2 H2 q (e.trans y) s
  | brk r S => exact fun W2 H2 q y s => h W2 H2 q (e.trans y) s
  | ct r S => exact fun W2 H2 q y s => h W2 H2 q (e.trans y) s
  | err n fs S => exact fun W2 H2 c dd y s q => h W2 H2 c dd (e.trans y) s q
  | bad => exact h
theorem PostS.no {P : Prop} (h : PostS G E W H .bad D) : P := False.elim h
/-- an expression, then a statement's end -/
theorem PostS.of {a b : Type} {p : Rep a b} {r : Re a} {g : a → Sto → Rs} (h : PostS G E W H (r.to g) D) :
    Post G E p W H r fun v H1 => ∃ W1 x S1, Ext W H W1 H1 ∧ StoR G W1 H1 S1 ∧ p W1 H1 x v ∧ r = .ok x S1 ∧ PostS G E W1 H1 (g x S1) D := by
  cases r with
  | ok x S => exact fun W2 H2 v y s q => ⟨W2, x, S, y, s, q, rfl, PostS.mono y h⟩
  | err n fs S => exact h
  | bad => exact h
theorem TSm.seq {a b : Type} {p : Rep a b} {f : M a} {g : a → Loc → Sto → Rs} {q : L2.St} (h : TSm G E (fun r S => (f r S).to fun x S1 => g x r S1) D q H) :
    T G E p f q H fun v H1 => ∃ W1 r S1 x, Rel G W1 r S1 q H1 ∧ p W1 H1 x v ∧ PostS G E W1 H1 (g x r S1) D := by
  obtain ⟨W, r, S, rel, h⟩ := h
  refine ⟨W, r, S, rel, Post.imp (PostS.of (p := p) h) fun v H1 k => ?_⟩
  obtain ⟨W1, x, S1, ext, st, pr, _, k⟩ := k
  exact ⟨W1, r, S1, x, ⟨rel.sl.ext ext, st⟩, pr, k⟩
theorem PostS.nxd {r : Loc} {S : Sto} {q : L2.St} (h : PostS G E W H (.nx r S) D) (rel : Rel G W r S q H) : D.nx q H := h W H q (Ext.refl _ _) rel
end

section
variable {X : Cx} {G : Gb} {E : XK} {e e1 e2 : Expr} {st : Stmt} {ss sb : List Stmt} {pos : Pos} {fa fb fc : M D} {gc : M Bool} {m1 m2 : MS}
theorem k_s0 : PSs X [] (TSm G E fun r S => .nx r S) := PSs.imp pss_nil fun D q H ⟨W, r, S, rel, h⟩ => h.nxd rel
theorem k_sc (h1 : PS X st (TSm G E m1)) (h2 : PSs X ss (TSm G E m2)) : PSs X (st :: ss) (TSm G E fun r S => (m1 r S).seq m2) :=
  PSs.imp (pss_cons h1 h2) fun D q H ⟨W, r, S, rel, h⟩ => by
    refine ⟨W, r, S, rel, ?_⟩
    dsimp only at h
    cases e : m1 r S with
    | nx r2 S2 =>
      rw [e] at h
      exact fun W' H' q' x rel' => ⟨W', r2, S2, rel', PostS.mono x h⟩
    | ret d S2 => rw [e] at h; exact h
    | brk r2 S2 => rw [e] at h; exact h
    | ct r2 S2 => rw [e] at h; exact h
    | err n fs S2 => rw [e] at h; exact h
    | bad => rw [e] at h; exact h
theorem k_expr (ha : PE X e (TD G E fa)) (hs : swapsWith e none pos.line X.env = pure false) : PS X (.Expr e pos) (TSm G E fun r S => (fa r S).to fun _ S1 => .nx r S1) :=
  PS.imp (ps_expr ha hs) fun D q H h => T.imp (TSm.seq (p := Rp G) h) fun v H1 ⟨W, r, S, x, rel, rx, k⟩ => k.nxd rel
theorem k_doc {x : Str} {j : Nat} {p : Pos} : PS X (.Expr (.Constant (.str x) j p) pos) (TSm G E fun r S => .nx r S) := PS.imp ps_doc fun D q H ⟨W, r, S, rel, h⟩ => h.nxd rel
theorem k_ret (ha : PE X e (TD G E fa)) : PS X (.Return (some e) pos) (TSm G E fun r S => (fa r S).to fun d S1 => .ret d S1) :=
  PS.imp (ps_ret ha) fun D q H h => T.imp (TSm.seq (p := Rp G) h) fun v H1 ⟨W, r, S, x, rel, rx, k⟩ => k W H1 v (Ext.refl _ _) rel.st rx
theorem k_ret0 : PS X (.Return none pos) (TSm G E fun r S => .ret .non S) := PS.imp ps_retN fun D q H ⟨W, r, S, rel, h⟩ => h W H _ (Ext.refl _ _) rel.st mk_non
theorem k_pass : PS X (.Pass pos) (TSm G E fun r S => .nx r S) := PS.imp ps_pass fun D q H ⟨W, r, S, rel, h⟩ => h.nxd rel
theorem k_break : PS X (.Break pos) (TSm G E fun r S => .brk r S) := PS.imp ps_break fun D q H ⟨W, r, S, rel, h⟩ => h W H q (Ext.refl _ _) rel
theorem k_cont : PS X (.Continue pos) (TSm G E fun r S => .ct r S) := PS.imp ps_continue fun D q H ⟨W, r, S, rel, h⟩ => h W H q (Ext.refl _ _) rel
theorem k_if (hc : L2.PT X e (TB G E gc)) (h1 : PSs X ss (TSm G E m1)) (h2 : PSs X sb (TSm G E m2)) : PS X (.If e ss sb pos) (TSm G E fun r S => (gc r S).to fun k S1 => if k then m1 r S1 else m2 r S1) :=
  PS.imp (ps_if hc h1 h2) fun D q H h => T.imp (TSm.seq (p := repB) h) fun v H1 ⟨W, r, S, x, rel, rx, k⟩ => by
    subst rx
    cases v with
    | true => exact ⟨W, r, S, rel, k⟩
    | false => exact ⟨W, r, S, rel, k⟩
/-- the store of a value to a target -/
def asgS (t : Tg) (d : D) (r : Loc) (S : Sto) : Rs := match asg t d r with
  | some r2 => .nx r2 S
  | none => .bad
theorem asg_of {t : Tg} {q : L2.St} {H : Hp} {D : Ends} (h : TSm G E (fun r S => (fa r S).to fun d S1 => asgS t d r S1) D q H) : tAsg (TD G E fa) (gOf G t) D q H :=
  T.imp (TSm.seq (p := Rp G) h) fun v H1 ⟨W, r, S, x, rel, rx, k⟩ => by
    unfold asgS at k
    split at k
    · rename_i r2 h2
      exact ⟨W, r, S, x, r2, rel, rx, h2, fun q2 sl _ => k.nxd ⟨sl, rel.st⟩⟩
    · exact k.no
theorem k_asg {tg : Expr} {t : Tg} (ha : PE X e (TD G E fa)) (hg : PG X tg (gOf G t)) (hs : swapsWithSole [tg] e pos.line X.env = pure false) (hw : swappedStores [tg] e X.env = pure none) (h1 : (assignEach [tg] X.env).map (·.2) = [assign tg X.env]) :
    PS X (.Assign [tg] e pos) (TSm G E fun r S => (fa r S).to fun d S1 => asgS t d r S1) := PS.imp (ps_asg ha hg hs hw h1) fun D q H h => asg_of h
/-- a, b = e1, e2 -/
theorem k_par {i j : Nat} {x y : Str} {px py pt : Pos} {kt k2 : Nat} {pt2 : Pos} {f : M (List D)} (hc : X.calm = true) (hN : X.N.Nodup) (hi : X.N[i]? = some x) (hj : X.N[j]? = some y) (hij : i ≠ j)
    (hx : X.env.scope.names.lookup x = some .local) (hy : X.env.scope.names.lookup y = some .local) (ha : PA X [e1, e2] (TDs G E f))
    (hw : swappedStores [.Tuple [.Name x px, .Name y py] kt pt] (.Tuple [e1, e2] k2 pt2) X.env = pure (some [x, y])) (hs : swapsWithSole [.Tuple [.Name x px, .Name y py] kt pt] (.Tuple [e1, e2] k2 pt2) pos.line X.env = pure false) :
    PS X (.Assign [.Tuple [.Name x px, .Name y py] kt pt] (.Tuple [e1, e2] k2 pt2) pos) (TSm G E fun r S => (f r S).to fun ds S1 => match ds with
      | [d1, d2] => .nx ((r.set i (some d1)).set j (some d2)) S1
      | _ => .bad) :=
  PS.imp (ps_par hc hN hi hj hij hx hy ha hw hs) fun D q H h => T.imp (TSm.seq (p := Rps G) h) fun vs H1 ⟨W, r, S, ds, rel, rx, k⟩ => by
    split at k
    · obtain ⟨v, u, rfl, r1, r2⟩ := rx.two_inv
      exact ⟨v, u, rfl, k.nxd ⟨(rel.sl.set i r1).set j r2, rel.st⟩⟩
    · exact k.no
/-- o[i] = e -/
theorem k_set {o i : Expr} {tpos : Pos} (ha : PE X e (TD G E fa)) (hg : PG X (.Subscript o i tpos) (gSub (TD G E fb) (TD G E fc) (rSet G E))) (hs : swapsWithSole [.Subscript o i tpos] e pos.line X.env = pure false) (hw : swappedStores [.Subscript o i tpos] e X.env = pure none)
    (h1 : (assignEach [.Subscript o i tpos] X.env).map (·.2) = [assign (.Subscript o i tpos) X.env]) :
    PS X (.Assign [.Subscript o i tpos] e pos) (TSm G E fun r S => (fa r S).to fun x S1 => (fb r S1).to fun d S2 => (fc r S2).to fun k S3 => (fSet d k x S3).to fun _ S4 => .nx r S4) :=
  PS.imp (ps_asg ha hg hs hw h1) fun D q H h => T.imp (TSm.seq (p := Rp G) h) fun v H1 ⟨W, r, S, x, rel, rx, k⟩ => by
    refine ⟨W, r, S, rel, Post.imp (PostS.of (p := Rp G) k) fun o H2 ⟨W2, d, S2, x2, st2, rd, _, k2⟩ => ?_⟩
    refine ⟨W2, r, S2, ⟨rel.sl.ext x2, st2⟩, Post.imp (PostS.of (p := Rp G) k2) fun i H3 ⟨W3, kk, S3, x3, st3, rk, _, k3⟩ => ?_⟩
    refine ⟨W3, S3, d, kk, x, st3, Rp.ext x3 _ _ rd, rk, Rp.ext (x2.trans x3) _ _ rx, Post.imp (PostS.of (p := Rp G) k3) fun _ H4 ⟨W4, _, S4, x4, st4, _, _, k4⟩ => k4.nxd ⟨((rel.sl.ext x2).ext x3).ext x4, st4⟩⟩
/-- x op= e -/
def fIadd (d e : D) (S : Sto) : Re D := match d, e with
  | .int i, .int j => .ok (.int (i + j)) S
  | .str x, .str y => if x.length + y.length ≤ 1000000 then .ok (.str (x ++ y)) S else .bad
  | _, _ => .bad
theorem ip_iadd : PIp X .Add (r2 G E fIadd) := by
  intro pins s σ H x y v u Q I rx ry h
  obtain ⟨W, S, d, e, st, rd, re, p⟩ := h
  unfold fIadd at p
  split at p
  · cases rp_int rd
    cases rp_int re
    exact iop_add pins s σ H _ _ v u Q I rx ry ⟨_, _, rfl, rfl, p.done st mk_int⟩
  · cases rp_str rd
    cases rp_str re
    split at p
    · rename_i hz
      exact iop_add_str pins s σ H _ _ v u Q I rx ry ⟨_, _, rfl, rfl, by rw [str_len, str_len]; exact sz hz, by rw [str_cat]; exact p.done st mk_str⟩
    · exact p.no
  · exact p.no
theorem ip_isub : PIp X .Sub (r2 G E fSub) := by
  intro pins s σ H x y v u Q I rx ry h
  obtain ⟨W, S, d, e, st, rd, re, p⟩ := h
  unfold fSub at p
  split at p
  · cases rp_int rd
    cases rp_int re
    exact iop_sub pins s σ H _ _ v u Q I rx ry ⟨_, _, rfl, rfl, p.done st mk_int⟩
  · exact p.no
theorem k_aug {i : Nat} {x : Str} {op : Operator} {g : D → D → Sto → Re D} {pos' : Pos} (hN : X.N.Nodup) (hi : X.N[i]? = some x) (hx : L2.Loc X.env.scope x) (ha : PE X e (TD G E fa)) (ho : PIp X op (r2 G E g)) (hf : X.fn x = true ∨ X.env.scope.names.lookup x = some .local) :
    PS X (.AugAssign (.Name x pos') op e pos) (TSm G E fun r S => match r[i]? with
      | some (some d) => (fa r S).to fun y S1 => (g d y S1).to fun z S2 => .nx (r.set i (some z)) S2
      | _ => .bad) :=
  PS.imp (ps_aug hN hi hx ha ho hf) fun D q H ⟨W, r, S, rel, k⟩ => by
    dsimp only at k
    split at k
    · rename_i d hd
      obtain ⟨v, h1, h2⟩ := rel.sl.at_ i d hd
      refine ⟨v, h1, W, r, S, rel, Post.imp (PostS.of (p := Rp G) k) fun y H2 ⟨W2, yd, S2, x2, st2, ry, _, k2⟩ => ?_⟩
      refine ⟨W2, S2, d, yd, st2, Rp.ext x2 _ _ h2, ry, Post.imp (PostS.of (p := Rp G) k2) fun z H3 ⟨W3, zd, S3, x3, st3, rz, _, k3⟩ => ?_⟩
      exact k3.nxd ⟨((rel.sl.ext x2).ext x3).set i rz, st3⟩
    · exact k.no
/-! loops -/
noncomputable def whileG (c : M Bool) (b : MS) : Nat → MS
  | 0 => fun _ _ => .bad
  | n + 1 => fun r S => (c r S).to fun k S1 => if k then (b r S1).turn (whileG c b n) else .nx r S1
theorem k_while (n : Nat) (hp : PassesOwn (model X.prog X.w) X.A X.env X.xe) (hc : L2.PT X e (TB G E gc)) (hb : PSs X ss (TSm G E m1)) : PS X (.While e ss [] pos) (TSm G E fun r S => whileG gc m1 n r S) :=
  PS.imp (ps_while hp hc hb) fun D q H ⟨W, r, S, rel, h⟩ => by
    refine ⟨fun m q H => ∃ W r S, Rel G W r S q H ∧ PostS G E W H (whileG gc m1 m r S) D, ⟨n, W, r, S, rel, h⟩, ?_⟩
    rintro m q H ⟨W, r, S, rel, h⟩
    cases m with
    | zero => exact h.no
    | succ m =>
      unfold whileG at h
      refine ⟨W, r, S, rel, Post.imp (PostS.of (p := repB) h) fun b H1 ⟨W1, k, S1, x1, st1, hb, _, h1⟩ => ?_⟩
      subst hb
      have rel1 : Rel G W1 r S1 q H1 := ⟨rel.sl.ext x1, st1⟩
      cases b with
      | false =>
        simp only [Bool.false_eq_true, if_false] at h1 ⊢
        exact h1.nxd rel1
      | true =>
        simp only [if_true] at h1 ⊢
        refine ⟨fun q H => ∃ W r S, Rel G W r S q H ∧ PostS G E W H (whileG gc m1 m r S) D, fun q' H' w => ⟨m, Nat.lt_succ_self _, w⟩, W1, r, S1, rel1, ?_⟩
        cases e : m1 r S1 with
        | nx r2 S2 => rw [e] at h1; exact fun W' H' q' x rel' => ⟨W', r2, S2, rel', PostS.mono x h1⟩
        | ct r2 S2 => rw [e] at h1; exact fun W' H' q' x rel' => ⟨W', r2, S2, rel', PostS.mono x h1⟩
        | brk r2 S2 => rw [e] at h1; exact h1
        | ret d S2 => rw [e] at h1; exact h1
        | err n fs S2 => rw [e] at h1; exact h1
        | bad => rw [e] at h1; exact h1
open Classical in
noncomputable def forG (gd : Gd) (t : Tg) (b : MS) : List DL.D → MS
  | [] => fun r S => if gdOk gd S then .nx r S else .bad
  | d :: ds => fun r S => if gdOk gd S then (asgS t d r S).seq fun r2 S2 => (b r2 S2).turn (forG gd t b ds) else .bad
theorem k_for {tg iter : Expr} {t : Tg} {fI : M (List DL.D × Gd)} (hp : PassesOwn (model X.prog X.w) X.A X.env X.xe) (hc : X.calm = true) (hi : PI X tg iter (TIt G E fI)) (hg : PG X tg (gOf G t)) (hb : PSs X ss (TSm G E m1)) (hs : ∀ x, foldedSetIterable iter X.env x = pure x) :
    PS X (.For tg iter ss [] pos) (TSm G E fun r S => (fI r S).to fun w S1 => forG w.2 t m1 w.1 r S1) :=
  PS.imp (ps_for hp hc hi hg hb hs) fun D q H h => T.imp (TSm.seq (p := repI G) h) fun J H1 ⟨W1, r, S1, w, rel, rep, k⟩ => by
    obtain ⟨its, gd⟩ := w
    obtain ⟨Gh, Y, wk, c1, c2⟩ := rep
    dsimp only at k c1 c2 wk
    refine for_it wk (fun i q H => ∃ W2 r2 S2, Ext W1 H1 W2 H ∧ Rel G W2 r2 S2 q H ∧ PostS G E W2 H (forG gd t m1 (its.drop i) r2 S2) D) ⟨W1, r, S1, Ext.refl _ _, rel, k⟩ ?_ ?_ ?_
    · rintro i q H hi ⟨W2, r2, S2, x2, rel2, k2⟩
      refine c1 W2 H S2 x2.w rel2.st ?_
      cases e2 : its.drop i with
      | nil =>
        rw [e2] at k2
        unfold forG at k2
        split at k2
        · assumption
        · exact k2.no
      | cons d rest =>
        rw [e2] at k2
        unfold forG at k2
        split at k2
        · assumption
        · exact k2.no
    · rintro i x q H H' hi ⟨W2, r2, S2, x2, rel2, k2⟩ y
      obtain ⟨d0, hd0⟩ : ∃ d, its[i]? = some d := ⟨its[i], by simp [hi]⟩
      rw [drop_get hd0] at k2
      unfold forG at k2
      split at k2
      · rename_i hgd
        obtain ⟨d, hd1, x3, st3, rd⟩ := c2 i W2 H S2 x H' hi x2.w rel2.st hgd y
        rw [hd0] at hd1
        cases hd1
        unfold asgS at k2
        cases ea : asg t d0 r2 with
        | none =>
          rw [ea] at k2
          exact k2.no
        | some r3 =>
          rw [ea] at k2
          simp only [seq_nx] at k2
          refine ⟨W2, r2, S2, d0, r3, ⟨rel2.sl.ext x3, st3⟩, rd, ea, fun q3 sl3 _ => ⟨W2, r3, S2, ⟨sl3, st3⟩, ?_⟩⟩
          have k3 := PostS.mono x3 k2
          cases e : m1 r3 S2 with
          | nx r4 S4 => rw [e] at k3; exact fun W' H' q' x4 rel' => ⟨W', r4, S4, (x2.trans x3).trans x4, rel', PostS.mono x4 k3⟩
          | ct r4 S4 => rw [e] at k3; exact fun W' H' q' x4 rel' => ⟨W', r4, S4, (x2.trans x3).trans x4, rel', PostS.mono x4 k3⟩
          | brk r4 S4 => rw [e] at k3; exact k3
          | ret d S4 => rw [e] at k3; exact k3
          | err n fs S4 => rw [e] at k3; exact k3
          | bad => rw [e] at k3; exact k3
      · exact k2.no
    · rintro q H ⟨W2, r2, S2, x2, rel2, k2⟩
      rw [show its.drop its.length = [] by simp] at k2
      unfold forG at k2
      split at k2
      · exact k2.nxd rel2
      · exact k2.no
end
end DL
set_option Elab.async false
set_option linter.all false
set_option maxRecDepth 100000
set_option maxHeartbeats 4000000
/-! DL12: the end of a def: what it made is let go; a def's promise by its body. -/
namespace DL
open PySem PySem.Spec PyProof.Rows L2

mutual
/-- no object from n on is meant -/
def nr (n : Nat) : D → Bool
  | .ref i => decide (i < n)
  | .exn _ _ _ fs => nrs n fs
  | .tup ds => nrs n ds
  | .lst ds => nrs n ds
  | _ => true
def nrs (n : Nat) : List D → Bool
  | [] => true
  | d :: ds => nr n d && nrs n ds
end
def nrO (n : Nat) : Ob → Bool
  | .lst ds => nrs n ds
  | .ins _ fs => nrs n (fs.map (·.2))
/-- a result that outlives the objects from n on: a new list of plain things is a plain list -/
def thaw (n : Nat) (S : Sto) : D → Option D
  | .ref i => if i < n then some (.ref i) else match S[i]? with
    | some (.lst ds) => if nrs n ds then some (.lst ds) else none
    | _ => none
  | d => if nr n d then some d else none
/-- the objects of S0 are as they were, or plain -/
def okPre (S0 S : Sto) : Prop := S0.length ≤ S.length ∧ ∀ (j : Nat) (o : Ob), j < S0.length → S[j]? = some o → S0[j]? = some o ∨ nrO S0.length o = true
open Classical in
noncomputable def finish (S0 : Sto) (x : Rs) : Re D := match x with
  | .nx _ S => if okPre S0 S then .ok .non (S.take S0.length) else .bad
  | .ret d S => match thaw S0.length S d with
    | some e => if okPre S0 S then .ok e (S.take S0.length) else .bad
    | none => .bad
  | .err x fs S => if okPre S0 S ∧ nrs S0.length fs = true then .err x fs (S.take S0.length) else .bad
  | _ => .bad
section
variable {G : Gb} {W W' : Wd} {H H' : Hp} {S S0 : Sto}
/-- fewer are tracked -/
abbrev Wd.cut (W : Wd) (n : Nat) (b : List Addr) : Wd := ⟨W.t.take n, b⟩
mutual
theorem Rp.cut {n : Nat} {b : List Addr} (hb : ∀ a ∈ b, a ∈ W.b) : ∀ (d : D) (v : V), nr n d = true → Rp G W H d v → Rp G (W.cut n b) H d v
  | .non, _, _, h => by simpa only [Rp] using h
  | .bl _, _, _, h => by simpa only [Rp] using h
  | .int _, _, _, h => by simpa only [Rp] using h
  | .str _, _, _, h => by simpa only [Rp] using h
  | .tup ds, v, q, h => by
    simp only [nr] at q
    simp only [Rp] at h ⊢
    obtain ⟨a, vs, e, p, r⟩ := h
    refine ⟨a, vs, e, ?_, Rps.cut hb ds vs q r⟩
    rcases p with ⟨h1, h2, h3⟩ | h
    · exact .inl ⟨fun z => h1 (List.mem_of_mem_take z), fun z => h2 (hb a z), h3⟩
    · exact .inr h
  | .lst ds, v, q, h => by
    simp only [nr] at q
    simp only [Rp] at h ⊢
    obtain ⟨a, vs, e, ⟨h1, h2, h3⟩, r⟩ := h
    exact ⟨a, vs, e, ⟨fun z => h1 (List.mem_of_mem_take z), fun z => h2 (hb a z), h3⟩, Rps.cut hb ds vs q r⟩
  | .ref i, v, q, h => by
    simp only [nr, decide_eq_true_eq] at q
    simp only [Rp] at h ⊢
    obtain ⟨a, e, p⟩ := h
    exact ⟨a, e, by show (W.t.take n)[i]? = _; rw [List.getElem?_take_of_lt q]; exact p⟩
  | .fn _, _, _, h => by simpa only [Rp] using h
  | .scr ns, v, q, h => by
    simp only [Rp] at h ⊢
    obtain ⟨a, e, p⟩ := h
    refine ⟨a, e, ?_⟩
    rcases p with ⟨h1, h2, h3⟩ | h
    · exact .inl ⟨fun z => h1 (List.mem_of_mem_take z), fun z => h2 (hb a z), h3⟩
    · exact .inr h
  | .exn a dd c fs, v, q, h => by
    simp only [nr] at q
    simp only [Rp] at h ⊢
    obtain ⟨e, h1, h2, fv, h3, h4, h5⟩ := h
    exact ⟨e, fun z => h1 (List.mem_of_mem_take z), fun z => h2 (hb _ z), fv, h3, h4, Rps.cut hb fs _ q h5⟩
theorem Rps.cut {n : Nat} {b : List Addr} (hb : ∀ a ∈ b, a ∈ W.b) : ∀ (ds : List D) (vs : List V), nrs n ds = true → Rps G W H ds vs → Rps G (W.cut n b) H ds vs
  | [], _, _, h => by simpa only [Rps] using h
  | d :: ds, vs, q, h => by
    simp only [nrs, Bool.and_eq_true] at q
    simp only [Rps] at h ⊢
    obtain ⟨v, r, e, h1, h2⟩ := h
    exact ⟨v, r, e, Rp.cut hb d v q.1 h1, Rps.cut hb ds r q.2 h2⟩
end
mutual
theorem nr_of : ∀ (d : D) (v : V), Rp G W H d v → nr W.t.length d = true
  | .non, _, _ => rfl
  | .bl _, _, _ => rfl
  | .int _, _, _ => rfl
  | .str _, _, _ => rfl
  | .tup ds, v, h => by
    obtain ⟨a, vs, _, _, r⟩ := rp_tup h
    exact nrs_of ds vs r
  | .lst ds, v, h => by
    obtain ⟨a, vs, _, _, r⟩ := rp_lst h
    exact nrs_of ds vs r
  | .ref i, v, h => by
    obtain ⟨a, _, p⟩ := rp_ref h
    simp only [nr, decide_eq_true_eq]
    exact (List.getElem?_eq_some_iff.mp p).1
  | .fn _, _, _ => rfl
  | .scr _, _, _ => rfl
  | .exn a dd c fs, v, h => by
    obtain ⟨_, _, _, fv, _, _, r⟩ := rp_exn h
    exact nrs_of fs _ r
theorem nrs_of : ∀ (ds : List D) (vs : List V), Rps G W H ds vs → nrs W.t.length ds = true
  | [], _, _ => rfl
  | d :: ds, vs, h => by
    obtain ⟨v, r, _, h1, h2⟩ := Rps.cons_iff.mp h
    simp only [nrs, Bool.and_eq_true]
    exact ⟨nr_of d v h1, nrs_of ds r h2⟩
end
theorem nrO_of {a : Addr} {o : Ob} (h : ObR G W H a o) : nrO W.t.length o = true := by
  cases o with
  | lst ds =>
    obtain ⟨vs, _, r⟩ := h
    exact nrs_of ds vs r
  | ins c fs =>
    obtain ⟨C, dx, fv, _, _, _, _, _, _, r⟩ := h
    exact nrs_of _ _ r
/-- the world behind a def: what was tracked ahead of it -/
theorem StoR.cut {b : List Addr} (s0 : StoR G W H S0) (x : Ext W H W' H') (s : StoR G W' H' S) (ok : okPre S0 S) (hb : ∀ a ∈ b, a ∈ W'.b) : StoR G (W'.cut S0.length b) H' (S.take S0.length) ∧ W'.t.take S0.length = W.t := by
  obtain ⟨l, e, _⟩ := x.t
  have et : W'.t.take S0.length = W.t := by
    rw [e, ← s0.len, List.take_left]
  refine ⟨⟨by rw [show (W'.cut S0.length b).t = W.t from et, s0.len, List.length_take, Nat.min_eq_left ok.1], by rw [show (W'.cut S0.length b).t = W.t from et]; exact s0.nd, fun i a o h1 h2 => ?_, fun a ha => s.live a (List.mem_of_mem_take ha), fun a ha => s.liveB a (hb a ha)⟩, et⟩
  have hi : i < S0.length := by
    have := (List.getElem?_eq_some_iff.mp h2).1
    rw [List.length_take] at this
    omega
  have h1 : (W'.t.take S0.length)[i]? = some a := h1
  rw [List.getElem?_take_of_lt hi] at h1
  rw [List.getElem?_take_of_lt hi] at h2
  have q := s.ob i a o h1 h2
  have hn : nrO S0.length o = true := by
    rcases ok.2 i o hi h2 with z | z
    · have ha : W.t[i]? = some a := by
        rw [← et, List.getElem?_take_of_lt hi]
        exact h1
      have := nrO_of (s0.ob i a o ha z)
      rw [s0.len] at this
      exact this
    · exact z
  cases o with
  | lst ds =>
    obtain ⟨vs, k1, k2⟩ := q
    exact ⟨vs, k1, Rps.cut hb ds vs hn k2⟩
  | ins c fs =>
    obtain ⟨C, dx, fv, k1, k2, k0, k3, k4, k5, k6⟩ := q
    exact ⟨C, dx, fv, k1, k2, k0, fun z => k3 (List.mem_of_mem_take z), fun z => k4 (hb _ z), k5, Rps.cut hb _ _ hn k6⟩
theorem Ext.cut {n : Nat} (x : Ext W H W' H') (et : W'.t.take n = W.t) : Ext W H (W'.cut n W.b) H' := ⟨⟨[], by simp, by simp⟩, ⟨[], by rw [List.append_nil]; exact et, by simp⟩, x.k, x.lv⟩
theorem Ext.bsub (x : Ext W H W' H') : ∀ a ∈ W.b, a ∈ W'.b := fun a ha => by
  obtain ⟨l, e, _⟩ := x.b
  rw [e]
  exact List.mem_append_right _ ha
theorem thaw_rp {d e : D} {v : V} {n : Nat} {b : List Addr} (s : StoR G W H S) (hb : ∀ a ∈ b, a ∈ W.b) (hv : ∀ i a, n ≤ i → W.t[i]? = some a → a ∉ b) (h : thaw n S d = some e) (r : Rp G W H d v) : Rp G (W.cut n b) H e v := by
  have pl : ∀ {d : D}, nr n d = true → Rp G W H d v → Rp G (W.cut n b) H d v := fun {d} q r => Rp.cut hb d v q r
  cases d with
  | ref i =>
    dsimp only [thaw] at h
    split at h
    · rename_i hi
      cases h
      exact pl (by simpa [nr] using hi) r
    · rename_i hi
      split at h
      · rename_i ds hs
        split at h
        · rename_i hq
          cases h
          obtain ⟨a, vs, rfl, hat, hH, rs⟩ := rd_ref s hs r
          simp only [Rp]
          refine ⟨a, vs, rfl, ⟨fun z => ?_, hv i a (by omega) hat, hH⟩, Rps.cut hb ds vs hq rs⟩
          obtain ⟨j, hj⟩ := List.getElem?_of_mem z
          have hjn : j < n := by
            have := (List.getElem?_eq_some_iff.mp hj).1
            have e : (W.cut n b).t.length = min n W.t.length := List.length_take
            omega
          have hj' : W.t[j]? = some a := by
            have hj : (W.t.take n)[j]? = some a := hj
            rw [List.getElem?_take_of_lt hjn] at hj
            exact hj
          obtain ⟨l1, e1⟩ := List.getElem?_eq_some_iff.mp hat
          obtain ⟨l2, e2⟩ := List.getElem?_eq_some_iff.mp hj'
          have := (List.getElem_inj s.nd).mp (e1.trans e2.symm)
          omega
        · cases h
      · cases h
  | non => cases h; exact pl rfl r
  | bl _ => cases h; exact pl rfl r
  | int _ => cases h; exact pl rfl r
  | str _ => cases h; exact pl rfl r
  | fn _ => cases h; exact pl rfl r
  | scr _ => cases h; exact pl rfl r
  | exn a dd c fs =>
    dsimp only [thaw] at h
    split at h
    · rename_i hq
      cases h
      exact pl hq r
    · cases h
  | tup ds =>
    dsimp only [thaw] at h
    split at h
    · rename_i hq
      cases h
      exact pl hq r
    · cases h
  | lst ds =>
    dsimp only [thaw] at h
    split at h
    · rename_i hq
      cases h
      exact pl hq r
    · cases h
end
/-- the slots at a def's start -/
def startL (n : Nat) (ds : List D) : Loc := ds.map some ++ List.replicate (n - ds.length) none
section
variable {P : Program} {w : World} {K : PySem.W.Frag} {mg : Str → Option Value} {base : Heap} {G : Gb}
theorem sl_start {W : Wd} {H : Hp} {ds : List D} {vs : List V} {N : List Str} (r : Rps G W H ds vs) : SlR G W H (startL N.length ds) (L2.start N vs) := by
  unfold startL L2.start
  refine ⟨by simp [r.length], fun i d e => ?_⟩
  by_cases hi : i < ds.length
  · rw [List.getElem?_append_left (by simpa using hi), List.getElem?_map] at e
    cases e2 : ds[i]? with
    | none => rw [e2] at e; cases e
    | some c =>
      rw [e2] at e
      cases e
      obtain ⟨v, h1, h2⟩ := r.get e2
      exact ⟨v, by rw [List.getElem?_append_left (by rw [List.length_map, r.length]; exact hi), List.getElem?_map, h1]; rfl, h2⟩
  · rw [List.getElem?_append_right (by simpa using hi), List.getElem?_replicate] at e
    split at e <;> cases e
/-- the end of a def meets what its caller wants -/
theorem fin_post {E : XK} {W : Wd} {H : Hp} {S : Sto} {x : Rs} {Q : VK} (st : StoR G W H S) (p : Post G E (Rp G) W H (finish S x) Q) : PostS G E W H x { nx := fun _ H' => Q .non H', rt := Q } := by
  have hv : ∀ {W' : Wd} {H' : Hp}, Ext W H W' H' → ∀ (i : Nat) a, S.length ≤ i → W'.t[i]? = some a → a ∉ W.b := fun {W' H'} x i a hi ha hb => by
    obtain ⟨l, e, n⟩ := x.t
    rw [e, List.getElem?_append_right (by rw [st.len]; exact hi)] at ha
    have h0 := n a (List.mem_of_getElem? ha)
    obtain ⟨o, ho⟩ := st.liveB a hb
    rw [h0] at ho
    cases ho
  cases x with
  | nx r S' =>
    unfold finish at p
    dsimp only at p
    split at p
    · rename_i ok
      intro W' H' q x rel
      obtain ⟨s2, et⟩ := st.cut x rel.st ok x.bsub
      exact p _ _ _ (x.cut et) s2 mk_non
    · exact p.no
  | ret d S' =>
    unfold finish at p
    dsimp only at p
    split at p
    · rename_i e he
      split at p
      · rename_i ok
        intro W' H' v x s rd
        obtain ⟨s2, et⟩ := st.cut x s ok x.bsub
        exact p _ _ _ (x.cut et) s2 (thaw_rp s x.bsub (hv x) he rd)
      · exact p.no
    · exact p.no
  | err n fs S' =>
    unfold finish at p
    dsimp only at p
    split at p
    · rename_i ok
      intro W' H' c dd x s er
      obtain ⟨s2, et⟩ := st.cut x s ok.1 x.bsub
      obtain ⟨C, dx, fv, h1, h2, h3, h4, h5, h6, h7, h8⟩ := er
      exact p _ _ _ _ (x.cut et) s2 ⟨C, dx, fv, h1, h2, h3, fun z => h4 (List.mem_of_mem_take z), fun z => h5 (x.bsub _ z), h6, h7, Rps.cut x.bsub _ _ ok.2 h8⟩
    · exact p.no
  | brk r S' => exact p.no
  | ct r S' => exact p.no
  | bad => exact p.no
/-- THE RULE for a def by the meaning of its body -/
theorem def_ok {x qual : Str} {st : Stmt} {f : Addr} {fd : FuncData} {N ps : List Str} {k : Nat} {body : MS} (F : Fun K x qual st f fd) (Sc : FnScope N ps (defScope st))
    (hb : ∀ (cdv : Value) (A : Around) (outer : List Env) (s : Shared) (H : Hp) (E : XK), Room k (A.deeper (envOfC qual (defScope st) s.heap.objs.size f cdv)) → PSs (cxOf (L2.CX P w) P w K mg base N qual (defScope st) f cdv A outer s H E) (defBody st) (TSm G E body)) :
    FnOk P w K mg base (L2.CX P w) (k + 1) f fd ps (spOf G fun ds S => if ds.length = ps.length then finish S (body (startL N.length ds) S) else .bad) := by
  refine F.okX Sc (fun vs H Q E h => ?_) (fun cdv A outer s H vs Q E hr h => ?_)
  · obtain ⟨W, S, ds, s, r, p⟩ := h
    dsimp only at p
    split at p
    · rename_i hl
      rw [r.length]
      exact hl
    · exact p.no
  · obtain ⟨W, S, ds, s1, r, p⟩ := h
    dsimp only at p
    split at p
    · exact ⟨_, hb cdv A outer s H E hr, W, startL N.length ds, S, ⟨sl_start r, s1⟩, fin_post s1 p⟩
    · exact p.no
end
end DL
set_option Elab.async false
set_option linter.all false
set_option maxRecDepth 100000
set_option maxHeartbeats 4000000
/-! DL13: the program's error classes: made and raised. -/
namespace DL
open PySem PySem.Spec PyProof.Rows L2

/-- the class that heads the own errors: its __init__ is ValueError's -/
structure HeadC (K : PySem.W.Frag) (CL : Addr) : Prop where
  rd : PySem.W.readsIn K CL (.type "type") = true
  ga : PySem.W.specialIn K (.ref CL) "__getattribute__" = some (some (.builtin "type.__getattribute__"))
  it : PySem.W.findCls K (.ref CL) (.type "type") "__init__" = some (.val (.builtin "ValueError.__init__"))
section
variable {X : Cx} {e : Expr} {es : List Expr} {ta : TA} {p1 p2 pos : Pos}
theorem pe_cinit {CL : Addr} {x : Str} (hc0 : HeadC X.K CL) (hg : Gl X x) (hm : X.mg x = some (.ref CL)) (hdb : (x == ("__debug__" : Str)) = false) (ha : PA X (e :: es) ta)
    (hbase : attributeBase (.Name x p1) "__init__" X.env (eval (.Name x p1) X.env) = eval (.Name x p1) X.env)
    (hfew : methodCallForm ((e :: es).length + ([] : List Keyword).length) (backTo pos (starEach (e :: es) X.env)) (backToKw pos (keywordEach [] X.env)) = true) (hline : (p2.endLine == pos.line) = true)
    (he : starEach (e :: es) X.env = (false, eval e X.env) :: starEach es X.env := by rfl) (hpl : (backTo pos (starEach es X.env)).any (·.1) = false := by rfl) :
    PE X (.Call (.Attribute (.Name x p1) "__init__" p2) (e :: es) [] pos) (tVeI X.K ta) := by
  refine ⟨fun pins s σ H Q I h => ?_⟩
  have hpos : methodCallPos true (.Name x p1) X.env p2 pos = pure pos := by unfold methodCallPos; simp [hline]
  rw [arm_eval_Call, hbase]
  refine wpAny_bind (ld_glob I hg hm ?_ hdb)
  refine wpAny_bind (wpAny_standAt ?_)
  unfold methodCall
  rw [hfew]
  refine wpAny_bind (wpAny_holding ?_)
  show wpAny _ _ (getMethod _ _ _) _ _ _
  refine PySem.W.method_cls I.kIn hc0.ga (PySem.W.cls_value I.kIn hc0.rd hc0.it (by decide +kernel) ?_)
  dsimp only
  rw [hpos]
  refine wpAny_bind (wpAny_pure ?_)
  show wpAny _ _ (callWith pos (Value.builtin "ValueError.__init__") [] (backTo pos (starEach (e :: es) X.env)) []) _ _ _
  refine PyProof.Rows.callWith_method1 (thn (ha.run pos pins _ σ H _ (I.tok _) h) fun us s1 ⟨vs, H1, I1, r1, a, C, ws, ev, hl, T, ea, q⟩ => ?_) he hpl
  subst ev
  cases r1 with
  | @cons _ u0 _ ur ra rw' =>
    obtain rfl : u0 = Value.ref a := ra
    have hlen : ur.length ≤ sizeLine := by
      rw [← Paired.length rw', sizeLine_eq]
      omega
    exact oinit_ok T I1 ea hlen fun s' J => ⟨.non, H1, J, rfl, q⟩
end

/-- the three shapes of an error's __init__: (place, reason), (place), (reason) -/
inductive Ek where
  | pr | p | r
  deriving DecidableEq
def Ek.names : Ek → List Str
  | .pr => ["reason", "place"]
  | .p => ["place"]
  | .r => ["reason"]
/-- the fields that the class's call makes -/
def mkD : Ek → List D → Option (List D)
  | .pr, [.int i, .str s] => if i.natAbs < 1000000000 ∧ s.length ≤ 1000 then some [.str s, .int i] else none
  | .p, [.int i] => if i.natAbs < 1000000000 then some [.int i] else none
  | .r, [.str s] => if s.length ≤ 1000 then some [.str s] else none
  | _, _ => none
def mkV : Ek → List V → Option (List (Str × V))
  | .pr, [.int i, .str s] => if i.natAbs < 1000000000 ∧ s.length ≤ 1000 then some [("reason", .str s), ("place", .int i)] else none
  | .p, [.int i] => if i.natAbs < 1000000000 then some [("place", .int i)] else none
  | .r, [.str s] => if s.length ≤ 1000 then some [("reason", .str s)] else none
  | _, _ => none
theorem mk_of_d {G : Gb} {W : Wd} {H : Hp} {k : Ek} {ds fs : List D} {vs : List V} (h : mkD k ds = some fs) (r : Rps G W H ds vs) : ∃ fv, mkV k vs = some fv ∧ fv.map (·.1) = k.names ∧ Rps G W H fs (fv.map (·.2)) := by
  unfold mkD at h
  split at h
  · rename_i i s
    obtain ⟨v, t, rfl, r1, r⟩ := Rps.cons_iff.mp r
    obtain ⟨v2, t, rfl, r2, r⟩ := Rps.cons_iff.mp r
    rw [Rps.nil_iff] at r
    subst r
    cases rp_int r1
    cases rp_str r2
    split at h
    · rename_i c
      cases h
      refine ⟨[("reason", .str ⟨s.toArray⟩), ("place", .int i)], ?_, rfl, Rps.cons mk_str (Rps.one mk_int)⟩
      exact if_pos (by simpa [Str.length] using c)
    · cases h
  · rename_i i
    obtain ⟨v, t, rfl, r1, r⟩ := Rps.cons_iff.mp r
    rw [Rps.nil_iff] at r
    subst r
    cases rp_int r1
    split at h
    · rename_i c
      cases h
      refine ⟨[("place", .int i)], ?_, rfl, Rps.one mk_int⟩
      exact if_pos c
    · cases h
  · rename_i s
    obtain ⟨v, t, rfl, r1, r⟩ := Rps.cons_iff.mp r
    rw [Rps.nil_iff] at r
    subst r
    cases rp_str r1
    split at h
    · rename_i c
      cases h
      refine ⟨[("reason", .str ⟨s.toArray⟩)], ?_, rfl, Rps.one mk_str⟩
      exact if_pos (by simpa [Str.length] using c)
    · cases h
  · cases h
/-- what an own __init__ keeps: the object at a has got its dict -/
def spX (K : PySem.W.Frag) (C : Addr) (k : Ek) : Sp := fun vs H Q E => ∃ a ws fv, vs = .ref a :: ws ∧ H a = some (exo a C none) ∧ mkV k ws = some fv ∧ OexC K C ∧ (∀ n ∈ k.names, PySem.W.findIn K (.ref C) n = some none) ∧
  ∀ dx H2, H dx = none → dx ≠ a → H2 a = some (exo a C (some dx)) → H2 dx = some (exd dx fv) → (∀ b, b ≠ a → b ≠ dx → H2 b = H b) → Q .non H2
theorem upd_at {H : Hp} {a b : Addr} {o : HO} (h : b ≠ a) : upd H a o b = H b := upd_ne h

/-! ### the rule for raise -/
section
variable {X : Cx} {G : Gb} {E : XK} {es : List Expr} {e : Expr} {p p2 pos : Pos}
theorem k_raise {x : Str} {cx : Nat} {k : Ek} {C fI : Addr} {m : Nat} {fd : FuncData} {ps : List Str} {f : M (List D)} (hK : G.K = X.K) (hC : G.ca cx = some C) (hn : G.xf cx = k.names) (T : OexC X.K C) (hf : ∀ n ∈ k.names, PySem.W.findIn X.K (.ref C) n = some none)
    (iC : PySem.W.findIn X.K (.ref C) "__init__" = some (some (.ref fI))) (tI : PySem.W.typeIn X.K (.ref fI) = some (.type "function"))
    (F1 : FnOk X.prog X.w X.K X.mg X.base (L2.CX X.prog X.w) m fI fd ps (spX X.K C k)) (hr : Room (m + 1) X.A) (hb : Binds X.K fd ps []) (hx : Passes (L2.CX X.prog X.w) X (fun _ _ _ => False)) (hg : Gl X x) (hm : X.mg x = some (.ref C))
    (hdb : (x == ("__debug__" : Str)) = false) (hc : X.calm = true) {W0 : WX} (tk : Takes X W0) (hW : ∀ c d σ H, E c d H → W0 c d σ H)
    (ha : PA X (e :: es) (TDs G E f)) (he : starEach (e :: es) X.env = (false, eval e X.env) :: starEach es X.env := by rfl) (hpl : (backTo p2 (starEach es X.env)).any (·.1) = false := by rfl) :
    PS X (.Raise (some (.Call (.Name x p) (e :: es) [] p2)) none pos) (TSm G E fun r S => (f r S).to fun ds S1 => match mkD k ds with
      | some fs => .err cx fs S1
      | none => .bad) := by
  refine PS.imp (ps_raise hc tk (pmk_oex (dvs := []) (ds := []) T iC tI F1 hr hb .nil hx hg hm ha hdb he hpl)) fun D q H h => ?_
  refine DL.T.imp (TSm.seq h) fun vs H1 k1 => ?_
  obtain ⟨W1, r1, S1, ds, rel, rd, p⟩ := k1
  split at p
  · rename_i fs hfs
    obtain ⟨fv, e1, e2, e3⟩ := mk_of_d hfs rd
    refine ⟨?_, fun a ha1 => ?_⟩
    · unfold mkV at e1
      split at e1 <;> simp_all
    · rw [List.append_nil]
      refine ⟨a, vs, fv, rfl, upd_same, e1, T, hf, fun dx H2 n1 n2 h1 h2 h3 => ⟨rfl, dx, fv, h1, h2, ?_, ?_⟩⟩
      · rw [← upd_ne (H := H1) (o := exo a C none) n2]
        exact n1
      · have n1' : H1 dx = none := by
          rw [← upd_ne (H := H1) (o := exo a C none) n2]
          exact n1
        have eH : upd (del H2 a) dx (.xd fv) = upd H1 dx (.xd fv) := by
          funext b
          by_cases hb1 : b = dx
          · subst hb1
            rw [upd_same, upd_same]
          · rw [upd_ne hb1, upd_ne hb1]
            by_cases hb2 : b = a
            · subst hb2
              rw [del_same, ha1]
            · rw [del_ne hb2, h3 b hb2 hb1, upd_ne hb2]
        rw [eH]
        refine hW _ _ _ _ ?_
        have fr := rel.st.fresh n1'
        exact p W1 _ _ _ (Ext.new n1') (rel.st.new n1') ⟨C, dx, fv, hC, rfl, rfl, fr.1, fr.2, upd_same, e2.trans hn.symm, Rps.ext (Ext.new n1') _ _ e3⟩
  · exact p.no
end
end DL
set_option Elab.async false
set_option linter.all false
set_option maxRecDepth 100000
set_option maxHeartbeats 4000000
/-! DL14: the own __init__ of an error class keeps its promise. -/
namespace DL
open PySem PySem.Spec PyProof.Rows L2

/-- the body of an own __init__ of shape k -/
inductive InitBody : Ek → List Stmt → Prop where
  | pr {j : Nat} {p1 p2 p3 p4 p5 p6 p7 p8 p9 p10 q1 q2 q3 q4 q5 q6 q7 q8 : Pos} (hl : (p2.endLine == p10.line) = true) : InitBody .pr
      [.Expr (.Call (.Attribute (.Name "LawError" p1) "__init__" p2) [.Name "self" p3, .JoinedStr [.FormattedValue (.Name "place" p4) (-1) none p5, .Constant (.str ": ") j p6, .FormattedValue (.Name "reason" p7) (-1) none p8] p9] [] p10) p10,
       .Assign [.Attribute (.Name "self" q1) "place" q2] (.Name "place" q3) q4, .Assign [.Attribute (.Name "self" q5) "reason" q6] (.Name "reason" q7) q8]
  | p {p1 p2 p3 p4 p5 p9 p10 q1 q2 q3 q4 : Pos} (hl : (p2.endLine == p10.line) = true) : InitBody .p
      [.Expr (.Call (.Attribute (.Name "LawError" p1) "__init__" p2) [.Name "self" p3, .JoinedStr [.FormattedValue (.Name "place" p4) (-1) none p5] p9] [] p10) p10,
       .Assign [.Attribute (.Name "self" q1) "place" q2] (.Name "place" q3) q4]
  | r {p1 p2 p3 p4 p10 q5 q6 q7 q8 : Pos} (hl : (p2.endLine == p10.line) = true) : InitBody .r
      [.Expr (.Call (.Attribute (.Name "LawError" p1) "__init__" p2) [.Name "self" p3, .Name "reason" p4] [] p10) p10,
       .Assign [.Attribute (.Name "self" q5) "reason" q6] (.Name "reason" q7) q8]
def Ek.ps : Ek → List Str
  | .pr => ["self", "place", "reason"]
  | .p => ["self", "place"]
  | .r => ["self", "reason"]
theorem int_len (i : Int) (h : i.natAbs < 1000000000) : (toString i : Str).length ≤ 10 ∧ i.natAbs.log2 < 1920 := by
  have h2 : i.natAbs.log2 < 1920 := by
    by_cases z : i.natAbs = 0
    · rw [z]; decide
    · exact (Nat.log2_lt z).mpr (Nat.lt_of_lt_of_le h (by decide +kernel))
  refine ⟨?_, h2⟩
  have e := int_text_length_le10 (k := 9) (by decide) (a := i) (by omega)
  rw [PySem.ofString_length]
  omega
theorem str_add_len (x y : Str) : (x ++ y).length = x.length + y.length := by
  show (x.cps ++ y.cps).size = _
  rw [Array.size_append]
  rfl
section
variable {P : Program} {w : World} {K : PySem.W.Frag} {mg : Str → Option Value} {base : Heap}
/-- THE RULE for an own __init__ -/
theorem init_ok {qual : Str} {params : Arguments} {body : List Stmt} {scope : Scope} {f C CL : Addr} {fd : FuncData} {k : Nat} {ek : Ek} (F : FunD K "__init__" qual params body scope [] [] f fd) (Sc : FnScope ek.ps ek.ps scope) (hb : InitBody ek body)
    (hy : scope.names.lookup ("LawError" : Str) = some .globalImplicit) (hm : mg "LawError" = some (.ref CL)) (hc : HeadC K CL) : FnOk P w K mg base (L2.CX P w) (k + 1) f fd ek.ps (spX K C ek) := by
  refine F.ok Sc (fun vs H Q E h => ?_) (fun cdv A outer s H vs Q E hr h => ?_)
  · obtain ⟨a, ws, fv, rfl, _, h, _⟩ := h
    unfold mkV at h
    split at h <;> first | rfl | cases h
  · obtain ⟨a, ws, fv, rfl, ha, h, T, hf, q⟩ := h
    generalize hss : body = ss at hb
    have hvis : ∀ n ∈ ek.ps, Vis scope n := fun n hn => by
      rcases Sc.par n hn with z | z
      · exact .inl z
      · exact .inr (.inl z)
    have q1 : ∀ dx, H dx = none → dx ≠ a → ∀ g y, Q .non (upd (upd (upd H dx (exd dx [g])) a (exo a C (some dx))) dx (exd dx (y :: [g]))) ↔ Q .non (upd (upd H dx (exd dx (y :: [g]))) a (exo a C (some dx))) := fun dx n1 n2 g y => by
      have : upd (upd (upd H dx (exd dx [g])) a (exo a C (some dx))) dx (exd dx (y :: [g])) = upd (upd H dx (exd dx (y :: [g]))) a (exo a C (some dx)) := by
        funext b
        by_cases hb1 : b = dx
        · subst hb1
          rw [upd_same, upd_ne n2, upd_same]
        · rw [upd_ne hb1]
          by_cases hb2 : b = a
          · subst hb2
            rw [upd_same, upd_same]
          · rw [upd_ne hb2, upd_ne hb1, upd_ne hb2, upd_ne hb1]
      rw [this]
    have q2 : ∀ dx fs, H dx = none → dx ≠ a → fs = fv → Q .non (upd (upd H dx (exd dx fs)) a (exo a C (some dx))) := fun dx fs n1 n2 e => by
      subst e
      exact q dx _ n1 n2 upd_same (by rw [upd_ne n2, upd_same]) fun b h1 h2 => by rw [upd_ne h1, upd_ne h2]
    cases hb with
    | pr hl =>
      unfold mkV at h
      split at h <;> first | (cases h; done) | (rename_i z; cases z; done) | skip
      · rename_i i sx z
        split at h
        · rename_i c
          cases h
          refine ⟨_, pss_cons (ps_expr (pe_cinit hc (X := cxOf (L2.CX P w) P w K mg base Ek.pr.ps qual scope f cdv A outer s H E) hy hm (by decide) (pa_cons (pe_var (i := 0) rfl (hvis _ (by simp [Ek.ps])))
            (pa_cons (pe_joined (.cons (pe_fmt (pe_var (i := 1) rfl (hvis _ (by simp [Ek.ps])))) (.cons pe_str (.cons (pe_fmt (pe_var (i := 2) rfl (hvis _ (by simp [Ek.ps])))) .nil)))) pa_nil)) rfl rfl hl))
            (pss_cons (ps_ost (pe_var (i := 0) rfl (hvis _ (by simp [Ek.ps]))) (pe_var (i := 1) rfl (hvis _ (by simp [Ek.ps])))) (pss_one (ps_ost (pe_var (i := 0) rfl (hvis _ (by simp [Ek.ps]))) (pe_var (i := 2) rfl (hvis _ (by simp [Ek.ps])))))), ?_⟩
          have il := int_len i c.1
          refine ⟨_, rfl, ⟨_, rfl, .inr ⟨i, rfl, il.2, _, rfl, ?_, _, rfl, ?_, ⟨_, rfl, .inl ⟨sx, rfl, by rw [sizeLine_eq]; omega, _, rfl, ?_, a, C, _, rfl, by simp, T, ha, ?_⟩⟩⟩⟩⟩
          · have e0 : (Str.empty ++ (toString i : Str)).length = Str.empty.length + (toString i : Str).length := str_add_len _ _
            have e1 : Str.empty.length = 0 := rfl
            rw [sizeLine_eq]
            omega
          · have e0 : (Str.empty ++ (toString i : Str)).length = Str.empty.length + (toString i : Str).length := str_add_len _ _
            have e1 : Str.empty.length = 0 := rfl
            have e2 : ((": " : Str)).length = 2 := rfl
            rw [str_add_len, sizeLine_eq]
            omega
          · have e0 : (Str.empty ++ (toString i : Str)).length = Str.empty.length + (toString i : Str).length := str_add_len _ _
            have e1 : Str.empty.length = 0 := rfl
            have e2 : ((": " : Str)).length = 2 := rfl
            rw [str_add_len, str_add_len, sizeLine_eq]
            omega
          · refine ⟨_, rfl, _, rfl, a, C, rfl, T, hf _ (by simp [Ek.names]), .inl ⟨ha, fun dx n1 n2 => ?_⟩⟩
            refine ⟨_, rfl, _, rfl, a, C, rfl, T, hf _ (by simp [Ek.names]), .inr ⟨dx, _, upd_same, by rw [upd_ne n2, upd_same], by simp, ?_⟩⟩
            exact (q1 dx n1 n2 _ _).mpr (q2 dx _ n1 n2 rfl)
        · cases h
    | p hl =>
      unfold mkV at h
      split at h <;> first | (cases h; done) | (rename_i z; cases z; done) | skip
      · rename_i i z
        split at h
        · rename_i c
          cases h
          refine ⟨_, pss_cons (ps_expr (pe_cinit hc (X := cxOf (L2.CX P w) P w K mg base Ek.p.ps qual scope f cdv A outer s H E) hy hm (by decide) (pa_cons (pe_var (i := 0) rfl (hvis _ (by simp [Ek.ps])))
            (pa_cons (pe_joined1 (pe_fmt (pe_var (i := 1) rfl (hvis _ (by simp [Ek.ps]))))) pa_nil)) rfl rfl hl))
            (pss_one (ps_ost (pe_var (i := 0) rfl (hvis _ (by simp [Ek.ps]))) (pe_var (i := 1) rfl (hvis _ (by simp [Ek.ps]))))), ?_⟩
          have il := int_len i c
          refine ⟨_, rfl, ⟨_, rfl, .inr ⟨i, rfl, il.2, a, C, _, rfl, by simp, T, ha, ?_⟩⟩⟩
          refine ⟨_, rfl, _, rfl, a, C, rfl, T, hf _ (by simp [Ek.names]), .inl ⟨ha, fun dx n1 n2 => ?_⟩⟩
          exact q2 dx _ n1 n2 rfl
        · cases h
    | r hl =>
      unfold mkV at h
      split at h <;> first | (cases h; done) | (rename_i z; cases z; done) | skip
      · rename_i sx z
        split at h
        · rename_i c
          cases h
          refine ⟨_, pss_cons (ps_expr (pe_cinit hc (X := cxOf (L2.CX P w) P w K mg base Ek.r.ps qual scope f cdv A outer s H E) hy hm (by decide) (pa_cons (pe_var (i := 0) rfl (hvis _ (by simp [Ek.ps])))
            (pa_cons (pe_var (i := 1) rfl (hvis _ (by simp [Ek.ps]))) pa_nil)) rfl rfl hl))
            (pss_one (ps_ost (pe_var (i := 0) rfl (hvis _ (by simp [Ek.ps]))) (pe_var (i := 1) rfl (hvis _ (by simp [Ek.ps]))))), ?_⟩
          refine ⟨_, rfl, _, rfl, a, C, _, rfl, by simp, T, ha, ?_⟩
          refine ⟨_, rfl, _, rfl, a, C, rfl, T, hf _ (by simp [Ek.names]), .inl ⟨ha, fun dx n1 n2 => ?_⟩⟩
          exact q2 dx _ n1 n2 rfl
        · cases h
end
end DL
set_option Elab.async false
set_option linter.all false
set_option maxRecDepth 100000
set_option maxHeartbeats 4000000
/-! DL15: try .. except, the caught error's fields and classes. -/
namespace PySem.W
open PySem PySem.Spec PySem.Calls PyProof.Rows
section
variable {prog : Program} {w : World} {A : Around} {E : Value → Shared → Prop} {s : Shared} {K : Frag} {x D : Addr} {ox : Obj} {od : Option Obj}
theorem dl_findObj {C : Addr} {name : Str} {a g : Value} (hc : (clsIn K C).isSome = true) (ha : findIn K (.ref C) name = some (some a)) (hg : specialIn K a "__get__" = some (some g)) (ht : takesIn K a = some true) : findObj K C od name = some (.bind g a) := by
  obtain ⟨cd, hc⟩ := Option.isSome_iff_exists.mp hc
  unfold findObj
  rw [hc, Option.bind_some, ha, Option.bind_some]
  simp [hg, ht]
theorem dl_classE {Q : Option Value → Shared → Prop} (hga : findIn K (.ref D) "__getattribute__" = some (some (.builtin "BaseException.__getattribute__"))) (hgt : findIn K (.ref D) "__getattr__" = some none) (hsub : subIn K (.ref D) (.type "BaseException") = some true)
    (hdct : hasDictIn K D = true) (ha : findIn K (.ref D) "__class__" = some (some (.builtin "object.__class__")))
    (hn : specialIn K (.builtin "object.__class__") "__get__" = some (some (.builtin "getset_descriptor.__get__"))) (htk : takesIn K (.builtin "object.__class__") = some true) (hm : mroIn K D (.type "object") = some true)
    (X : K.In s.heap) (I : InstAt s.heap x ox D od) (h : Q (some (.ref D)) { s with toks := s.toks + 1 }) : wpAny (model prog w) A (getAttr? (.ref x) "__class__") Q E s := by
  have hf : findObj K D od "__class__" = some (.bind (.builtin "getset_descriptor.__get__") (.builtin "object.__class__")) := dl_findObj (by obtain ⟨cd, hc, _⟩ := any_some hdct; rw [hc]; rfl) ha hn htk
  obtain ⟨hp, g, d, t, os⟩ := s
  have L0 := I.type (M := model prog w)
  have L1 := looks_findIn (M := model prog w) X hga
  have L2 := looks_findIn (M := model prog w) X hgt
  have L3 := looks_find (M := model prog w) X I hf
  have sub : Looks (model prog w) hp (isInstance (.ref x) (.type "BaseException")) true := L0.andThen (looks_subIn X hsub)
  have hx0 : (false && onTheHeap (Value.builtin "BaseException.__getattribute__")) = false := rfl
  have hx2 : (Value.builtin "BaseException.__getattribute__" == Value.builtin "object.__getattribute__") = false := by decide +kernel
  have hx1 : (onTheHeap (Value.ref D) && Value.builtin "BaseException.__getattribute__" == Value.builtin "object.__getattribute__") = false := by rw [hx2]; rfl
  unfold getAttr? getAttrBy? getAttrBy
  refine wpAny_bind (wpAny_mkText (wpAny_bind (wpAny_attempt (wpAny_holding (wpAny_bind (L0.at (wpAny_bind (L1.at ?_))))))))
  show wpAny _ _ (if (onTheHeap (Value.ref D) && Value.builtin "BaseException.__getattribute__" == Value.builtin "object.__getattribute__") = true then _ else _) _ _ _
  rw [hx1, if_neg Bool.false_ne_true]
  unfold getAttrByItsOwn hookBefore
  refine wpAny_bind ?_
  rw [if_pos (show onTheHeap (Value.ref D) = true from rfl)]
  refine L2.at ?_
  refine wpAny_bind (wpAny_attempt (wpAny_holding ?_))
  unfold callGetattribute
  rw [hx0, if_neg Bool.false_ne_true]
  unfold boundAndCalled
  rw [PySem.F.excAttr_ValueError.ga.bind (.ref x)]
  refine wpAny_bind (wpAny_pure ?_)
  show wpAny _ _ (call (.builtin "BaseException.__getattribute__") [.ref x, .str "__class__" t]) _ _ _
  refine wpAny_call (codeAny_call_builtin PySem.F.excAttr_ValueError.ga.plain PySem.F.entry_bexc_ga ?_)
  refine @check_slot (model prog w) _ _ ⟨hp, g, d, t + 1, os⟩ "BaseException.__getattribute__" "BaseException" "__getattribute__" (.ref x) [.str "__class__" t] [] _ (by decide +kernel) (by decide +kernel) sub (PySem.F.args_bexc_ga (.ref x) (.str "__class__" t)) ?_
  unfold Builtin.«object.__getattribute__»
  refine wpAny_bind (wpAny_of_eq (a := ((Value.ref x : Value), [Value.str "__class__" t])) (by first | rfl | (simp only [slotArgs]; rfl)) ?_)
  refine wpAny_bind (wpAny_pure (wpAny_bind (L0.at (wpAny_bind (L3.at ?_)))))
  show wpAny _ _ (holding [Value.builtin "object.__class__"] (call (.builtin "getset_descriptor.__get__") [.builtin "object.__class__", .ref x, .ref D]) >>= ret) _ _ _
  refine wpAny_bind (wpAny_holding (wpAny_call (class_get (s := ⟨hp, g, d, t + 1, os⟩) (ox := ox) (od := od) X I hm ?_)))
  refine wpAny_pure ?_
  show wpAny _ _ (handedOut (.ref D)) _ _ _
  rw [handedOut_of (v := .ref D) rfl]
  first
    | exact wpAny_pure (wpAny_pure h)
    | exact wpAny_pure h
    | exact wpAny_pure (wpAny_bind (wpAny_pure (wpAny_pure h)))
theorem dl_kitx (hga : findIn K (.ref D) "__getattribute__" = some (some (.builtin "BaseException.__getattribute__"))) (hgt : findIn K (.ref D) "__getattr__" = some none) (hsub : subIn K (.ref D) (.type "BaseException") = some true) (hdct : hasDictIn K D = true) (ha : findIn K (.ref D) "__class__" = some (some (.builtin "object.__class__")))
    (hn : specialIn K (.builtin "object.__class__") "__get__" = some (some (.builtin "getset_descriptor.__get__"))) (htk : takesIn K (.builtin "object.__class__") = some true) (hm : mroIn K D (.type "object") = some true) :
    KitX K (.ref x) (.ref D) (fun h => ∃ od, InstAt h x ox D od) where
  ty := fun _ _ _ ⟨_, I⟩ => I.type
  it := fun _ _ X _ => by
    obtain ⟨cdD, hcD, _⟩ := any_some hdct
    unfold clsIn at hcD
    split at hcD
    · rename_i c' d' cd' sl' ho
      intro A' Q' E' s' k q
      unfold isType loadHead
      exact wpAny_bind (wpAny_loadPart (k _ _ (X _ _ ho)) (wpAny_pure q))
    · cases hcD
  ne := fun h tp dd its n sl X htp => by
    obtain ⟨cdD, hcD, _⟩ := any_some hdct
    refine Bool.eq_false_iff.mpr fun q => ?_
    have e : D = tp := Value.ref.inj (beq_iff_eq.mp q)
    subst e
    unfold clsIn at hcD
    split at hcD
    · rename_i c' d' cd' sl' ho
      have z := (X _ _ ho).symm.trans htp
      cases z
    · cases hcD
  ca := fun X ⟨_, I⟩ k => dl_classE hga hgt hsub hdct ha hn htk hm X I k
end
end PySem.W
namespace DL
open PySem PySem.Spec PyProof.Rows L2

theorem lookup_rp {G : Gb} {W : Wd} {H : Hp} {n : Str} {e : D} : ∀ {fv : List (Str × V)} {fs : List D}, ((fv.map (·.1)).zip fs).lookup n = some e → Rps G W H fs (fv.map (·.2)) → ∃ v, fv.lookup n = some v ∧ Rp G W H e v
  | [], fs, h, r => by simp at h
  | p :: fv, [], h, r => by simp at h
  | p :: fv, d :: fs, h, r => by
    obtain ⟨v, t, e1, r1, r2⟩ := Rps.cons_iff.mp r
    obtain ⟨f, y⟩ := p
    simp only [List.map_cons, List.cons.injEq] at e1
    obtain ⟨rfl, rfl⟩ := e1
    simp only [List.map_cons, List.zip_cons_cons, List.lookup_cons] at h ⊢
    split at h
    · cases h
      exact ⟨y, rfl, r1⟩
    · exact lookup_rp h r2
section
variable {G : Gb} {E : XK} {X : Cx} {a C : Addr} {oe : Obj} {dd x : Nat} {e : Expr} {fa : M D} {pos p : Pos}
theorem k_fld {n : Str} (T : XfC X.K C) (hno : ∀ n ∈ G.xf x, PySem.W.findIn X.K (.ref C) n = some none) (hp : (a, oe) ∈ X.pn) (hz : Zc (.ref C) (some dd) oe) (hf : ∃ vs, oe.data = .fields vs) (he : PE X e (TD G E fa))
    (hb : attributeBase e n X.env (eval e X.env) = eval e X.env) : PE X (.Attribute e n pos) (TD G E fun r S => (fa r S).bind (fFld (some (a, dd, x)) G.xf n)) := by
  refine ⟨fun pins s σ H Q I h => ?_⟩
  refine attr_of hb (thn (he.run pins s σ H _ I (DL.T.seq' h)) fun u s1 hh => ?_)
  obtain ⟨v, H1, I1, rx, W, r, S, d, rel, rd, k⟩ := hh
  unfold fFld at k
  split at k
  · rename_i a' dd' x' fs
    split at k
    · rename_i ee
      split at k
      · rename_i e2 hl
        simp only [Option.some.injEq, Prod.mk.injEq] at ee
        obtain ⟨rfl, rfl, rfl⟩ := ee
        obtain ⟨rfl, h1, h2, fv, ea, hn, r2⟩ := rp_exn rd
        rw [← hn] at hl
        obtain ⟨vv, l, rv⟩ := lookup_rp hl r2
        obtain rfl : u = Value.ref a := rx
        obtain ⟨ha, _⟩ := I1.pin (a, oe) (List.mem_append_left _ hp)
        obtain ⟨vs, hd⟩ := hf
        have hx : ObjOk X.prog X.w H1 s1.heap dd (.xd fv) := I1.hok dd _ ea
        obtain ⟨mA, hns, hr⟩ := hx
        obtain ⟨od, ho, hl2⟩ := lookIn_ns hns
        obtain ⟨u, hu, ru⟩ := RelO.some_of (v := vv) (o := mA n) (by rw [← l]; exact hr n)
        have J : PySem.W.InstAt s1.heap a oe C (some od) := ⟨ha, hz.1, by unfold PySem.W.notCls; rw [hd] <;> rfl, by rw [hz.2]; exact ho⟩
        have hm : n ∈ G.xf x := by
          rw [← hn]
          exact List.mem_map.mpr ⟨(n, vv), List.lookup_eq_some_iff.mp l |> fun ⟨l1, l2, e, _⟩ => by rw [e]; simp, rfl⟩
        exact HandSPX.exc_get I1.kIn J T.ga T.gg T.exC (PySem.W.findObj_own T.hdC (hno n hm) rfl (by rw [hl2, hu])) (handed_of ru) ⟨vv, H1, I1.tok _, ru, k.done rel.st rv⟩
      · exact k.no
    · exact k.no
  · exact k.no
/-- isinstance(e, c) of the caught error -/
theorem k_isx {ty : Str} {c : V} {cv : Value} {isx : Nat → Str → Option Bool} {p2 : Pos} (T : ExcC X.K C) (hp : (a, oe) ∈ X.pn) (hz : Zc (.ref C) (some dd) oe) (hf : ∃ vs, oe.data = .fields vs) (hg : Gl X "isinstance") (hm : X.mg "isinstance" = none)
    (hT : PE X (.Name ty p2) (tC c)) (hcv : ∀ u, L2.RelV c u → u = cv) (hk : ∀ b, isx x ty = some b → PySem.W.kitOne X.K (.ref C) cv = some b) (hv : bootBuiltins "isinstance" = some (.builtin "isinstance"))
    (ha : PE X e (TD G E fa)) (he : starEach [e, .Name ty p2] X.env = (false, eval e X.env) :: starEach [.Name ty p2] X.env) :
    PE X (.Call (.Name "isinstance" p) [e, .Name ty p2] [] pos) (TD G E fun r S => (fa r S).bind fun d S1 => fIsx (some (a, dd, x)) isx ty d S1) := by
  have call : CallR X (.builtin "isinstance") (fun xs H Q => ∃ (fv : List (Str × V)) (b : Bool), xs = [.ref a, c] ∧ H dd = some (.xd fv) ∧ PySem.W.kitOne X.K (.ref C) cv = some b ∧ Q (.bl b) H) := by
    intro pins s σ H xs us Q I r h
    obtain ⟨fv, b, rfl, hH, e, q⟩ := h
    cases r with
    | cons rx rr =>
      cases rr with
      | cons rt rr =>
        cases rr
        cases rx
        have ec := hcv _ rt
        subst ec
        obtain ⟨hget, _⟩ := I.pin (a, oe) (List.mem_append.mpr (.inl hp))
        obtain ⟨vs, hv⟩ := hf
        obtain ⟨mA, hns, _⟩ := (show ObjOk X.prog X.w H s.heap dd (.xd fv) from I.hok dd _ hH)
        obtain ⟨od, ho, _⟩ := lookIn_ns hns
        have J : PySem.W.InstAt s.heap a oe C (some od) := ⟨hget, hz.1, by unfold PySem.W.notCls; rw [hv] <;> rfl, by rw [hz.2]; exact ho⟩
        exact PySem.W.kia_one (PySem.W.dl_kitx T.hg T.hk T.hs T.hd T.ha T.hn T.ht T.hm) I.kIn ⟨_, J⟩ e (fun z => nomatch z) fun tk => ⟨.bl b, H, I.kept (t' := tk) fun _ _ z => z, rfl, q⟩
  refine PE.imp (pe_callB call hg hm hv (pa_cons ha (pa_cons hT pa_nil) he) (by decide +kernel) (by decide +kernel) he rfl) fun q H Q h => DL.T.imp (DL.T.seq' h) fun v H1 ⟨W, r, S, d, rel, rd, k⟩ => ?_
  unfold fIsx at k
  split at k
  · split at k
    · rename_i ee
      split at k
      · rename_i b hl
        simp only [Option.some.injEq, Prod.mk.injEq] at ee
        obtain ⟨rfl, rfl, rfl⟩ := ee
        obtain ⟨rfl, h1, h2, fv, ea, hn, r2⟩ := rp_exn rd
        exact ⟨fv, b, rfl, ea, hk b hl, k.done rel.st mk_bl⟩
      · exact k.no
    · exact k.no
  · exact k.no
end

/-! ### try -/
open Classical in
noncomputable def anyA (g : Nat → Nat → Rs) : Rs := if h : ∃ R, ∀ a dd, g a dd = R then h.choose else .bad
theorem anyA_eq {g : Nat → Nat → Rs} {R : Rs} (h : ∀ a dd, g a dd = R) : anyA g = R := by
  have h1 : ∃ R, ∀ a dd, g a dd = R := ⟨R, h⟩
  unfold anyA
  rw [dif_pos h1]
  exact (h1.choose_spec 0 0).symm.trans (h 0 0)
theorem anyA_of {g : Nat → Nat → Rs} (hb : anyA g ≠ .bad) (a dd : Nat) : g a dd = anyA g := by
  unfold anyA at hb ⊢
  split at hb
  · rename_i h1
    rw [dif_pos h1]
    exact h1.choose_spec a dd
  · exact absurd rfl hb
def retOnly (x : Rs) : Rs := match x with
  | .ret d S => .ret d S
  | _ => .bad
/-- the slots in an except suite: the error's alone -/
def excL (i : Option Nat) (d : D) : Loc := match i with
  | some i => (List.replicate (i + 1) none).set i (some d)
  | none => []
noncomputable def tryR (res : Rs) (exm : Nat → Option Bool) (i : Option Nat) (suite : Nat → Nat → Nat → MS) : Rs := match res with
  | .err x fs S => match exm x with
    | some true => anyA fun a dd => retOnly (suite a dd x (excL i (.exn a dd x fs)) S)
    | some false => .err x fs S
    | none => .bad
  | res => res
theorem takes_len {X : Cx} {W : WX} (t : Takes X W) : Takes X (fun c d _ H => ∀ σ : L2.St, σ.length = X.N.length → W c d σ H) := fun u s' ⟨a, B, sI, pins, σ, H, cls, d, e, I, nb, up, sky, na, os, ag, w⟩ =>
  t u s' ⟨a, B, sI, pins, σ, H, cls, d, e, I, nb, up, sky, na, os, ag, w σ I.len⟩
section
variable {G : Gb} {E : XK} {X : Cx} {x n : Str} {c : Value} {i : Nat} {body suite : List Stmt} {b₀ : Stmt} {np pos pos' : Pos} {mb : MS} {ms : Nat → Nat → Nat → MS} {exm : Nat → Option Bool}
theorem k_try_as (hs : X.stack = X.env :: X.outer) (hf : X.env.frame = some X.env.locals) (hN : X.N.Nodup) (hi : X.N[i]? = some n) (hln : X.env.kindOf n = some .local) (hc : Names X x c) (tk : Takes X fun c d _ H => E c d H)
    (hexm : ∀ x C b, G.ca x = some C → exm x = some b → PySem.W.exmOne X.K (.ref C) c = some b)
    (hb : ∀ (E' : XK) (pn : List (Addr × Obj)) (xe : Value → Shared → Prop), Takes (X.tr pn xe) (fun c d _ H => E' c d H) → PassesOwn (model X.prog X.w) X.A X.env xe → PSs (X.tr pn xe) body (TSm G E' mb))
    (hsu : ∀ (a dd x : Nat) (oe : Obj) (C : Addr) (pn : List (Addr × Obj)), G.ca x = some C → Zc (.ref C) (some dd) oe → (∃ vs, oe.data = .fields vs) → PSs (X.suite a ((a, oe) :: pn)) (b₀ :: suite) (TSm G (fun _ _ _ => False) (ms a dd x))) :
    PS X (.Try body [.ExceptHandler (some (.Name x np)) (some n) (b₀ :: suite) pos'] [] [] pos) (TSm G E fun r S => tryR (mb r S) exm (some i) ms) := by
  refine PS.imp (ps_try_as hs hf hN hi hln hc tk (tb := fun W => TSm G (fun c d H => ∀ σ : L2.St, σ.length = X.N.length → W c d σ H) mb)
    (ts := fun a cls d D q H => ∃ (x : Nat) (C dd : Addr), cls = .ref C ∧ d = some dd ∧ G.ca x = some C ∧ TSm G (fun _ _ _ => False) (ms a dd x) D q H)
    (fun W pn xe t po => hb _ pn xe (takes_len t) po) fun a oe cls d pn hz hf => ⟨fun pins s q H D I h => ?_⟩) fun D q H h => ?_
  · obtain ⟨x, C, dd, rfl, rfl, hC, h⟩ := h
    exact (hsu a dd x oe C pn hC hz hf).run pins s q H D I h
  · obtain ⟨W, r, S, rel, p⟩ := h
    refine ⟨W, r, S, rel, ?_⟩
    dsimp only at p
    cases hm : mb r S with
    | nx r2 S2 => rw [hm] at p; exact p
    | ret d S2 => rw [hm] at p; exact p
    | brk r2 S2 => rw [hm] at p; exact p
    | ct r2 S2 => rw [hm] at p; exact p
    | bad => rw [hm] at p; exact p
    | err x fs S2 =>
      rw [hm] at p
      intro W' H' c dd ext st er σ hl
      have er0 := er
      obtain ⟨C, dx, fv, hC, rfl, rfl, h1, h2, h3, h4, h5⟩ := er
      unfold tryR at p
      dsimp only at p
      split at p
      · rename_i he
        refine ⟨true, hexm _ _ _ hC he, fun _ a ha => ⟨x, C, dx, rfl, rfl, hC, W', excL (some i) (.exn a dx x fs), S2, ⟨⟨?_, fun j d e => ?_⟩, st⟩, ?_⟩, fun z => by cases z⟩
        · show ((List.replicate (i + 1) none).set i _).length ≤ _
          have := (List.getElem?_eq_some_iff.mp hi).1
          rw [List.length_set, List.length_set, List.length_replicate, hl]
          exact this
        · have e : ((List.replicate (i + 1) none).set i (some (DL.D.exn a dx x fs)))[j]? = some (some d) := e
          by_cases hj : j = i
          · subst hj
            rw [List.getElem?_set_self (by simp)] at e
            cases e
            refine ⟨.ref a, by rw [List.getElem?_set_self (by rw [hl]; exact (List.getElem?_eq_some_iff.mp hi).1)], ?_⟩
            simp only [Rp]
            exact ⟨trivial, h1, h2, fv, h3, h4, h5⟩
          · rw [List.getElem?_set_ne (Ne.symm hj), List.getElem?_replicate] at e
            split at e <;> cases e
        · have hb : anyA (fun a dd => retOnly (ms a dd x (excL (some i) (.exn a dd x fs)) S2)) ≠ .bad := fun z => by rw [z] at p; exact p
          have e1 := anyA_of hb a dx
          rw [← e1] at p
          cases hq : ms a dx x (excL (some i) (.exn a dx x fs)) S2 with
          | ret d S3 =>
            rw [hq] at p
            exact fun W2 H2 v y s2 r2 => p W2 H2 v (ext.trans y) s2 r2
          | _ => rw [hq] at p; exact p.elim
      · rename_i he
        exact ⟨false, hexm _ _ _ hC he, (fun z => by cases z), fun _ => p W' H' _ _ ext st er0⟩
      · exact p.elim
theorem k_try_only (hs : X.stack = X.env :: X.outer) (hf : X.env.frame = some X.env.locals) (hc : Names X x c) (tk : Takes X fun c d _ H => E c d H)
    (hexm : ∀ x C b, G.ca x = some C → exm x = some b → PySem.W.exmOne X.K (.ref C) c = some b)
    (hb : ∀ (E' : XK) (pn : List (Addr × Obj)) (xe : Value → Shared → Prop), Takes (X.tr pn xe) (fun c d _ H => E' c d H) → PassesOwn (model X.prog X.w) X.A X.env xe → PSs (X.tr pn xe) body (TSm G E' mb))
    (hsu : ∀ (a dd x : Nat) (oe : Obj) (C : Addr) (pn : List (Addr × Obj)), G.ca x = some C → Zc (.ref C) (some dd) oe → (∃ vs, oe.data = .fields vs) → PSs (X.suite a ((a, oe) :: pn)) (b₀ :: suite) (TSm G (fun _ _ _ => False) (ms a dd x))) :
    PS X (.Try body [.ExceptHandler (some (.Name x np)) none (b₀ :: suite) pos'] [] [] pos) (TSm G E fun r S => tryR (mb r S) exm none ms) := by
  refine PS.imp (ps_try_only hs hf hc tk (tb := fun W => TSm G (fun c d H => ∀ σ : L2.St, σ.length = X.N.length → W c d σ H) mb)
    (ts := fun a cls d D q H => ∃ (x : Nat) (C dd : Addr), cls = .ref C ∧ d = some dd ∧ G.ca x = some C ∧ TSm G (fun _ _ _ => False) (ms a dd x) D q H)
    (fun W pn xe t po => hb _ pn xe (takes_len t) po) fun a oe cls d pn hz hf => ⟨fun pins s q H D I h => ?_⟩) fun D q H h => ?_
  · obtain ⟨x, C, dd, rfl, rfl, hC, h⟩ := h
    exact (hsu a dd x oe C pn hC hz hf).run pins s q H D I h
  · obtain ⟨W, r, S, rel, p⟩ := h
    refine ⟨W, r, S, rel, ?_⟩
    dsimp only at p
    cases hm : mb r S with
    | nx r2 S2 => rw [hm] at p; exact p
    | ret d S2 => rw [hm] at p; exact p
    | brk r2 S2 => rw [hm] at p; exact p
    | ct r2 S2 => rw [hm] at p; exact p
    | bad => rw [hm] at p; exact p
    | err x fs S2 =>
      rw [hm] at p
      intro W' H' c dd ext st er σ hl
      have er0 := er
      obtain ⟨C, dx, fv, hC, rfl, rfl, h1, h2, h3, h4, h5⟩ := er
      unfold tryR at p
      dsimp only at p
      split at p
      · rename_i he
        refine ⟨true, hexm _ _ _ hC he, fun _ a ha => ⟨x, C, dx, rfl, rfl, hC, W', excL none (.exn a dx x fs), S2, ⟨⟨Nat.zero_le _, fun j d e => ?_⟩, st⟩, ?_⟩, fun z => by cases z⟩
        · have e : ([] : Loc)[j]? = some (some d) := e
          simp at e
        · have hb : anyA (fun a dd => retOnly (ms a dd x (excL none (.exn a dd x fs)) S2)) ≠ .bad := fun z => by rw [z] at p; exact p
          have e1 := anyA_of hb a dx
          rw [← e1] at p
          cases hq : ms a dx x (excL none (.exn a dx x fs)) S2 with
          | ret d S3 =>
            rw [hq] at p
            exact fun W2 H2 v y s2 r2 => p W2 H2 v (ext.trans y) s2 r2
          | _ => rw [hq] at p; exact p.elim
      · rename_i he
        exact ⟨false, hexm _ _ _ hC he, (fun z => by cases z), fun _ => p W' H' _ _ ext st er0⟩
      · exact p.elim
end
end DL
set_option Elab.async false
set_option linter.all false
set_option maxRecDepth 100000
set_option maxHeartbeats 4000000
/-! DL16: text methods, f-strings, enumerate, zip. -/
namespace DL
open PySem PySem.Spec PyProof.Rows L2
section
variable {X : Cx} {G : Gb} {E : XK}
theorem st_len (a : List Nat) : (strO a).length = a.length := by simp [strO, Str.length]
theorem mk_strO {W : Wd} {H : Hp} {a : List Nat} : Rp G W H (.str a) (.str (strO a)) := mk_str
theorem mk_strL {W : Wd} {H : Hp} {a : Str} : Rp G W H (strL a) (.str a) := by
  have : (⟨a.cps.toList.toArray⟩ : Str) = a := by simp
  have q : Rp G W H (.str a.cps.toList) (.str ⟨a.cps.toList.toArray⟩) := mk_str
  rw [this] at q
  exact q
theorem rps_strs {W : Wd} {H : Hp} : ∀ (ys : List Str), Rps G W H (ys.map strL) (ys.map V.str)
  | [] => Rps.nil
  | y :: ys => Rps.cons mk_strL (rps_strs ys)
theorem strsD_rps {W : Wd} {H : Hp} : ∀ {ds : List D} {vs : List V} {xs : List (List Nat)}, strsD ds = some xs → Rps G W H ds vs → vs = (xs.map strO).map V.str
  | [], vs, xs, h, r => by
    cases h
    rw [Rps.nil_iff.mp r]
    rfl
  | .str s :: ds, vs, xs, h, r => by
    simp only [strsD, Option.map_eq_some_iff] at h
    obtain ⟨ys, h, rfl⟩ := h
    obtain ⟨v, t, rfl, r1, r2⟩ := Rps.cons_iff.mp r
    rw [rp_str r1, strsD_rps h r2]
    rfl
  | .non :: _, _, _, h, _ => by cases h
  | .bl _ :: _, _, _, h, _ => by cases h
  | .int _ :: _, _, _, h, _ => by cases h
  | .tup _ :: _, _, _, h, _ => by cases h
  | .lst _ :: _, _, _, h, _ => by cases h
  | .ref _ :: _, _, _, h, _ => by cases h
  | .fn _ :: _, _, _, h, _ => by cases h
  | .scr _ :: _, _, _, h, _ => by cases h
  | .exn _ _ _ _ :: _, _, _, h, _ => by cases h
theorem sum_len (xs : List (List Nat)) : ((xs.map strO).map (·.length)).sum = (xs.map (·.length)).sum := by
  induction xs with
  | nil => rfl
  | cons x xs ih => simp only [List.map_cons, List.sum_cons, ih, st_len]
theorem strO_app (a b : List Nat) : strO a ++ strO b = strO (a ++ b) := by
  show (⟨_ ++ _⟩ : Str) = _
  simp [strO]
theorem join_eq (a : List Nat) : ∀ xs : List (List Nat), Txt.join (strO a) (xs.map strO) = strO (joinS a xs) := fun xs => by
  show Builtin.Str.glued _ _ = _
  rw [StrLaws.glued_eq_join]
  induction xs with
  | nil => rfl
  | cons x xs ih =>
    cases xs with
    | nil => rfl
    | cons y r =>
      show strO x ++ strO a ++ Str.join (strO a) ((y :: r).map strO) = strO (x ++ a ++ joinS a (y :: r))
      rw [ih, strO_app, strO_app]
theorem new_strs {W : Wd} {H : Hp} {S : Sto} {Q : VK} {ys : List Str} (st : StoR G W H S) (p : Post G E (Rp G) W H (.ok (.lst (ys.map strL)) S) Q) : rNewStrs ys H Q := out_lst st p (rps_strs ys)
theorem m_join (hK : G.K = X.K) : MtR X "str.join" (rM G E fJoin) := by
  intro pins s σ H x xs v us Q I rx rs h
  obtain ⟨W, S, d, ds, st, rd, rds, p⟩ := h
  unfold fJoin at p
  split at p
  · rename_i a e
    cases rp_str rd
    obtain ⟨ve, rfl, re⟩ := rds.one_inv
    split at p
    · rename_i es hv
      split at p
      · rename_i xs hx
        split at p
        · rename_i hz
          obtain ⟨q, vs, rfl, hq, rq⟩ := rd_lst st hv re
          have hvs := strsD_rps hx rq
          subst hvs
          refine mt_join pins s σ H _ _ v us Q I rx rs ⟨strO a, q, xs.map strO, rfl, rfl, .inl (SqL.of hq), ?_, ?_⟩
          · rw [sum_len, List.length_map, st_len]
            omega
          · rw [join_eq]
            exact p.done st mk_strO
        · exact p.no
      · exact p.no
    · rename_i es hv
      split at p
      · rename_i xs hx
        split at p
        · rename_i hz
          have hv := vw_of hv (by simp)
          subst hv
          obtain ⟨q, vs, rfl, pq, rq⟩ := rp_tup re
          have hvs := strsD_rps hx rq
          subst hvs
          refine mt_join pins s σ H _ _ v us Q I rx rs ⟨strO a, q, xs.map strO, rfl, rfl, .inr (by rw [← hK]; exact pq.sq), ?_, ?_⟩
          · rw [sum_len, List.length_map, st_len]
            omega
          · rw [join_eq]
            exact p.done st mk_strO
        · exact p.no
      · exact p.no
    · exact p.no
  · exact p.no
theorem m_split : MtR X "str.split" (rM G E fSplit) := by
  intro pins s σ H x xs v us Q I rx rs h
  obtain ⟨W, S, d, ds, st, rd, rds, p⟩ := h
  unfold fSplit at p
  split at p
  · rename_i a b
    cases rp_str rd
    obtain ⟨ve, rfl, re⟩ := rds.one_inv
    cases rp_str re
    split at p
    · rename_i hz
      exact mt_split pins s σ H _ _ v us Q I rx rs ⟨strO a, strO b, rfl, rfl, by rw [st_len]; simpa using hz.1, by rw [st_len, sizeLine_eq]; omega, new_strs st p⟩
    · exact p.no
  · exact p.no
theorem m_words : MtR X "str.split" (rM G E fWords) := by
  intro pins s σ H x xs v us Q I rx rs h
  obtain ⟨W, S, d, ds, st, rd, rds, p⟩ := h
  unfold fWords at p
  split at p
  · rename_i a
    cases rp_str rd
    rw [Rps.nil_iff] at rds
    subst rds
    split at p
    · rename_i hz
      exact mt_words pins s σ H _ _ v us Q I rx rs ⟨strO a, rfl, rfl, by rw [st_len, sizeLine_eq]; omega, new_strs st p⟩
    · exact p.no
  · exact p.no
theorem m_splitMax : MtR X "str.split" (rM G E fSplitMax) := by
  intro pins s σ H x xs v us Q I rx rs h
  obtain ⟨W, S, d, ds, st, rd, rds, p⟩ := h
  unfold fSplitMax at p
  split at p
  · rename_i a b k
    cases rp_str rd
    obtain ⟨v1, v2, rfl, r1, r2⟩ := rds.two_inv
    cases rp_str r1
    cases rp_int r2
    split at p
    · rename_i hz
      exact mt_splitMax pins s σ H _ _ v us Q I rx rs ⟨strO a, strO b, k, rfl, rfl, by rw [st_len]; simpa using hz.1, by omega, by omega, by rw [st_len, sizeLine_eq]; omega, new_strs st p⟩
    · exact p.no
  · exact p.no
theorem m_starts : MtR X "str.startswith" (rM G E fStarts) := by
  intro pins s σ H x xs v us Q I rx rs h
  obtain ⟨W, S, d, ds, st, rd, rds, p⟩ := h
  unfold fStarts at p
  split at p
  · rename_i a b
    cases rp_str rd
    obtain ⟨ve, rfl, re⟩ := rds.one_inv
    cases rp_str re
    exact mt_startswith pins s σ H _ _ v us Q I rx rs ⟨strO a, strO b, rfl, rfl, p.done st mk_bl⟩
  · exact p.no
theorem m_tx0 {id : String} {g : Str → Bool} (m : MtR X id (fun x xs H Q => ∃ a, x = .str a ∧ xs = [] ∧ True ∧ Q (.bl (g a)) H)) : MtR X id (rM G E (fTx0 g)) := by
  intro pins s σ H x xs v us Q I rx rs h
  obtain ⟨W, S, d, ds, st, rd, rds, p⟩ := h
  unfold fTx0 at p
  split at p
  · rename_i a
    cases rp_str rd
    rw [Rps.nil_iff] at rds
    subst rds
    exact m pins s σ H _ _ v us Q I rx rs ⟨strO a, rfl, rfl, trivial, p.done st mk_bl⟩
  · exact p.no
theorem m_lower : MtR X "str.lower" (rM G E fLower) := by
  intro pins s σ H x xs v us Q I rx rs h
  obtain ⟨W, S, d, ds, st, rd, rds, p⟩ := h
  unfold fLower at p
  split at p
  · rename_i a
    cases rp_str rd
    rw [Rps.nil_iff] at rds
    subst rds
    split at p
    · exact mt_lower pins s σ H _ _ v us Q I rx rs ⟨strO a, rfl, rfl, by rw [st_len]; omega, p.done st mk_strL⟩
    · exact p.no
  · exact p.no
theorem m_tx1 {id : String} {g : Str → Str → Str} (m : MtR X id (fun x xs H Q => ∃ a b, x = .str a ∧ xs = [.str b] ∧ a.length ≤ sizeLine ∧ Q (.str (g a b)) H)) : MtR X id (rM G E (fTx1 g)) := by
  intro pins s σ H x xs v us Q I rx rs h
  obtain ⟨W, S, d, ds, st, rd, rds, p⟩ := h
  unfold fTx1 at p
  split at p
  · rename_i a b
    cases rp_str rd
    obtain ⟨ve, rfl, re⟩ := rds.one_inv
    cases rp_str re
    split at p
    · exact m pins s σ H _ _ v us Q I rx rs ⟨strO a, strO b, rfl, rfl, by rw [st_len]; exact sz (by omega), p.done st mk_strL⟩
    · exact p.no
  · exact p.no
theorem m_find2 : MtR X "str.find" (rM G E fFind2) := by
  intro pins s σ H x xs v us Q I rx rs h
  obtain ⟨W, S, d, ds, st, rd, rds, p⟩ := h
  unfold fFind2 at p
  split at p
  · rename_i a b i
    cases rp_str rd
    obtain ⟨v1, v2, rfl, r1, r2⟩ := rds.two_inv
    cases rp_str r1
    cases rp_int r2
    exact mt_find3 pins s σ H _ _ v us Q I rx rs ⟨strO a, strO b, i, rfl, rfl, p.done st mk_int⟩
  · exact p.no
theorem m_find3 : MtR X "str.find" (rM G E fFind3) := by
  intro pins s σ H x xs v us Q I rx rs h
  obtain ⟨W, S, d, ds, st, rd, rds, p⟩ := h
  unfold fFind3 at p
  split at p
  · rename_i a b i j
    cases rp_str rd
    obtain ⟨v1, t, rfl, r1, rds⟩ := Rps.cons_iff.mp rds
    obtain ⟨v2, v3, rfl, r2, r3⟩ := rds.two_inv
    cases rp_str r1
    cases rp_int r2
    cases rp_int r3
    exact mt_find4 pins s σ H _ _ v us Q I rx rs ⟨strO a, strO b, i, j, rfl, rfl, p.done st mk_int⟩
  · exact p.no
/-- the name and the built-in behind each method -/
def mtName : Mt → Str
  | .append => "append" | .pop => "pop" | .extend => "extend" | .join => "join" | .split => "split" | .words => "split" | .splitMax => "split" | .startswith => "startswith" | .isdigit => "isdigit" | .isascii => "isascii"
  | .isprintable => "isprintable" | .isalnum => "isalnum" | .isalpha => "isalpha" | .lower => "lower" | .removeprefix => "removeprefix" | .lstripC => "lstrip" | .find2 => "find" | .find3 => "find"
def mtId : Mt → String
  | .append => "list.append" | .pop => "list.pop" | .extend => "list.extend" | .join => "str.join" | .split => "str.split" | .words => "str.split" | .splitMax => "str.split" | .startswith => "str.startswith" | .isdigit => "str.isdigit" | .isascii => "str.isascii"
  | .isprintable => "str.isprintable" | .isalnum => "str.isalnum" | .isalpha => "str.isalpha" | .lower => "str.lower" | .removeprefix => "str.removeprefix" | .lstripC => "str.lstrip" | .find2 => "str.find" | .find3 => "str.find"
theorem mt_all (hK : G.K = X.K) (m : Mt) : MtR X (mtId m) (rM G E (mtF m)) := by
  cases m with
  | append => exact m_append
  | pop => exact m_pop
  | extend => exact m_extend
  | join => exact m_join hK
  | split => exact m_split
  | words => exact m_words
  | splitMax => exact m_splitMax
  | startswith => exact m_starts
  | isdigit => exact m_tx0 mt_isdigit
  | isascii => exact m_tx0 mt_isascii
  | isprintable => exact m_tx0 mt_isprintable
  | isalnum => exact m_tx0 mt_isalnum
  | isalpha => exact m_tx0 mt_isalpha
  | lower => exact m_lower
  | removeprefix => exact m_tx1 mt_removeprefix
  | lstripC => exact m_tx1 mt_lstripChars
  | find2 => exact m_find2
  | find3 => exact m_find3
theorem mt_slot (m : Mt) : Slot (mtT m) (mtName m) (mtId m) := by
  cases m with
  | append => exact PySem.F.slot_list_append
  | pop => exact PySem.F.slot_list_pop
  | extend => exact PySem.F.slot_list_extend
  | join => exact PySem.F.slot_str_join
  | split => exact PySem.F.slot_str_split
  | words => exact PySem.F.slot_str_split
  | splitMax => exact PySem.F.slot_str_split
  | startswith => exact PySem.F.slot_str_startswith
  | isdigit => exact PySem.F.slot_str_isdigit
  | isascii => exact PySem.F.slot_str_isascii
  | isprintable => exact PySem.F.slot_str_isprintable
  | isalnum => exact PySem.F.slot_str_isalnum
  | isalpha => exact PySem.F.slot_str_isalpha
  | lower => exact PySem.F.slot_str_lower
  | removeprefix => exact PySem.F.slot_str_removeprefix
  | lstripC => exact PySem.F.slot_str_lstrip
  | find2 => exact PySem.F.slot_str_find
  | find3 => exact PySem.F.slot_str_find
theorem mt_pa (m : Mt) : PlainAttrs (mtT m) := by
  cases m with
  | append => exact PySem.F.plainAttrs_list
  | pop => exact PySem.F.plainAttrs_list
  | extend => exact PySem.F.plainAttrs_list
  | join => exact PySem.F.plainAttrs_str
  | split => exact PySem.F.plainAttrs_str
  | words => exact PySem.F.plainAttrs_str
  | splitMax => exact PySem.F.plainAttrs_str
  | startswith => exact PySem.F.plainAttrs_str
  | isdigit => exact PySem.F.plainAttrs_str
  | isascii => exact PySem.F.plainAttrs_str
  | isprintable => exact PySem.F.plainAttrs_str
  | isalnum => exact PySem.F.plainAttrs_str
  | isalpha => exact PySem.F.plainAttrs_str
  | lower => exact PySem.F.plainAttrs_str
  | removeprefix => exact PySem.F.plainAttrs_str
  | lstripC => exact PySem.F.plainAttrs_str
  | find2 => exact PySem.F.plainAttrs_str
  | find3 => exact PySem.F.plainAttrs_str
theorem mt_ty (m : Mt) : typeOf (.builtin (mtId m)) = pure (.type "method_descriptor") := by
  cases m with
  | append => exact PySem.F.type_list_append
  | pop => exact PySem.F.type_list_pop
  | extend => exact PySem.F.type_list_extend
  | join => exact PySem.F.type_str_join
  | split => exact PySem.F.type_str_split
  | words => exact PySem.F.type_str_split
  | splitMax => exact PySem.F.type_str_split
  | startswith => exact PySem.F.type_str_startswith
  | isdigit => exact PySem.F.type_str_isdigit
  | isascii => exact PySem.F.type_str_isascii
  | isprintable => exact PySem.F.type_str_isprintable
  | isalnum => exact PySem.F.type_str_isalnum
  | isalpha => exact PySem.F.type_str_isalpha
  | lower => exact PySem.F.type_str_lower
  | removeprefix => exact PySem.F.type_str_removeprefix
  | lstripC => exact PySem.F.type_str_lstrip
  | find2 => exact PySem.F.type_str_find
  | find3 => exact PySem.F.type_str_find

/-! ### f-strings -/
variable {e : Expr} {es : List Expr} {fa : M D} {f : M (List D)} {pos p : Pos}
theorem k_fmt (he : PE X e (TD G E fa)) : PE X (.FormattedValue e (-1) none pos) (TD G E fun r S => (fa r S).bind fFmt) :=
  PE.imp (pe_fmt he) fun q H Q h => DL.T.imp (DL.T.seq' h) fun v H1 ⟨W, r, S, d, rel, rd, k⟩ => by
    unfold fFmt at k
    split at k
    · rename_i i
      cases rp_int rd
      split at k
      · rename_i hz
        refine .inr ⟨i, rfl, hz, ?_⟩
        have q := k.done rel.st mk_str
        unfold digS at q
        simpa using q
      · exact k.no
    · rename_i x
      cases rp_str rd
      split at k
      · rename_i hz
        exact .inl ⟨_, rfl, by rw [show (⟨x.toArray⟩ : Str).length = x.length by simp [Str.length]]; exact sz hz, k.done rel.st mk_str⟩
      · exact k.no
    · exact k.no
/-- the parts of an f-string -/
inductive PJs (X : Cx) (G : Gb) (E : XK) : List Expr → M (List (List Nat)) → Prop where
  | nil : PJs X G E [] fun _ S => .ok [] S
  | cons {e : Expr} {es : List Expr} {fa : M D} {f : M (List (List Nat))} (h : PE X e (TD G E fa)) (r : PJs X G E es f) : PJs X G E (e :: es) fun r S => (fa r S).bind fun d S1 => match d with
    | .str s => if s.length ≤ 100000 then (f r S1).bind fun xs S2 => .ok (s :: xs) S2 else .bad
    | _ => .bad
theorem bind_assoc {α β γ : Type} (x : Re α) (g : α → Sto → Re β) (k : β → Sto → Re γ) : (x.bind g).bind k = x.bind fun a S => (g a S).bind k := by cases x <;> rfl
theorem pj_of {es : List Expr} {f : M (List (List Nat))} (h : PJs X G E es f) : ∃ ts, PJ X es ts ∧ ∀ (ac : List Nat) (W : Wd) (r : Loc) (S : Sto) (q : L2.St) (H : Hp) (Q : Str → Hp → Prop), Rel G W r S q H →
    Post G E (Rp G) W H ((f r S).bind fun xs S2 => if ac.length + (xs.map (·.length)).sum ≤ 1000000 then .ok (.str (ac ++ xs.flatten)) S2 else .bad) (fun v H' => ∀ y, v = .str y → Q y H') → ac.length + 100000 * es.length ≤ 10000000 → tJs ts (strO ac) q H Q := by
  induction h with
  | nil =>
    refine ⟨[], .nil, fun ac W r S q H Q rel p hz => ?_⟩
    simp only [bind_ok] at p
    split at p
    · have := p.done rel.st mk_str
      simpa [tJs, strO] using this
    · exact p.no
  | @cons e es fa f h r ih =>
    obtain ⟨ts, h2, ih⟩ := ih
    refine ⟨_, .cons h h2, fun ac W r S q H Q rel p hz => ?_⟩
    rw [bind_assoc] at p
    refine ⟨W, r, S, rel, Post.imp (Post.thn (p := Rp G) p) fun v H1 ⟨W1, d, S1, ext, st, rd, k⟩ => ?_⟩
    split at k
    · rename_i s
      cases rp_str rd
      split at k
      · rename_i hs
        rw [bind_assoc] at k
        simp only [bind_ok, List.map_cons, List.sum_cons, List.flatten_cons] at k
        refine ⟨strO s, rfl, ?_, ?_⟩
        · rw [strO_app, st_len, List.length_append, sizeLine_eq]
          omega
        · rw [strO_app]
          refine ih (ac ++ s) W1 r S1 q H1 Q ⟨rel.sl.ext ext, st⟩ ?_ (by rw [List.length_append]; rw [List.length_cons] at hz; omega)
          simpa only [List.length_append, List.append_assoc, Nat.add_assoc] using k
      · exact k.no
    · exact k.no
/-- f'..' -/
theorem k_joi {v1 v2 : Expr} {rest : List Expr} {f : M (List (List Nat))} (hl : (v1 :: v2 :: rest).length ≤ 100) (h : PJs X G E (v1 :: v2 :: rest) f) : PE X (.JoinedStr (v1 :: v2 :: rest) pos) (TD G E fun r S => (f r S).bind fCat) := by
  obtain ⟨ts, h1, h2⟩ := pj_of h
  refine PE.imp (pe_joined h1) fun q H Q ⟨W, r, S, rel, p⟩ => ?_
  refine h2 [] W r S q H _ rel ?_ (by simp only [List.length_nil]; omega)
  simp only [List.length_nil, Nat.zero_add, List.nil_append]
  exact Post.imp p fun v H' hq y hy => by rw [← hy]; exact hq
theorem k_joi1 {v1 : Expr} (h : PE X v1 (TD G E fa)) : PE X (.JoinedStr [v1] pos) (TD G E fa) := pe_joined1 h

/-! ### enumerate, zip -/
theorem enumD_length : ∀ (ds : List D) (k : Int), (enumD k ds).length = ds.length
  | [], _ => rfl
  | d :: ds, k => by simp only [enumD, List.length_cons, enumD_length ds]
theorem enumD_get : ∀ {ds : List D} {k : Int} {i : Nat} {d : D}, ds[i]? = some d → (enumD k ds)[i]? = some (.tup [.int (k + i), d])
  | [], _, _, _, h => by simp at h
  | c :: ds, k, 0, d, h => by
    simp at h
    subst h
    simp [enumD]
  | c :: ds, k, i + 1, d, h => by
    simp only [enumD, List.getElem?_cons_succ] at h ⊢
    rw [enumD_get h]
    congr 4
    omega
theorem zipD_length : ∀ (ds es : List D), (zipD ds es).length = min ds.length es.length
  | [], es => by simp [zipD]
  | d :: ds, [] => by simp [zipD]
  | d :: ds, e :: es => by simp only [zipD, List.length_cons, zipD_length ds es]; omega
theorem zipD_get : ∀ {ds es : List D} {i : Nat} {d e : D}, ds[i]? = some d → es[i]? = some e → (zipD ds es)[i]? = some (.tup [d, e])
  | [], _, _, _, _, h, _ => by simp at h
  | _ :: _, [], _, _, _, _, h => by simp at h
  | c :: ds, b :: es, 0, d, e, h, k => by
    simp at h k
    subst h
    subst k
    simp [zipD]
  | c :: ds, b :: es, i + 1, d, e, h, k => by
    simp only [zipD, List.getElem?_cons_succ] at h k ⊢
    exact zipD_get h k
/-- a new pair -/
theorem pair_rp {W1 : Wd} {H1 : Hp} {S1 : Sto} {T : Addr} {x y : V} {d e : D} (st : StoR G W1 H1 S1) (h : H1 T = none) (r1 : Rp G W1 H1 d x) (r2 : Rp G W1 H1 e y) : Ext W1 H1 W1 (upd H1 T (.tup [x, y])) ∧ StoR G W1 (upd H1 T (.tup [x, y])) S1 ∧ Rp G W1 (upd H1 T (.tup [x, y])) (.tup [d, e]) (.ref T) := by
  have x1 : Ext W1 H1 W1 (upd H1 T (.tup [x, y])) := Ext.new h
  have f := st.fresh h
  refine ⟨x1, st.new h, ?_⟩
  simp only [Rp]
  exact ⟨T, [x, y], rfl, .inl ⟨f.1, f.2, .inl upd_same⟩, Rps.cons (Rp.ext x1 _ _ r1) (Rps.one (Rp.ext x1 _ _ r2))⟩
theorem rep_enumL {W : Wd} {H : Hp} {a : Addr} {ds : List D} {vs : List V} (p : PL W H a vs) (r : Rps G W H ds vs) : repI G W H (enumD 0 ds, none) (Ite G.K a) := by
  refine ⟨fun H1 => SqL G.K H1 a vs, _, by rw [show (enumD 0 ds, (none : Gd)).1.length = vs.length by rw [r.length]; exact enumD_length ds 0]; exact walk_enum, fun W1 H1 S1 x st _ => (p.extw x).sq, fun i W1 H1 S1 v H2 hi x st _ y => ?_⟩
  obtain ⟨T, u, z, rfl, hT, rfl, hu, hz⟩ := y
  cases hu
  obtain ⟨d, h1, h2⟩ := (Rps.extw x _ _ r).get' hz
  obtain ⟨k1, k2, k3⟩ := pair_rp (d := .int (i : Nat)) st hT mk_int h2
  exact ⟨_, enumD_get h1, k1, k2, by rw [Int.zero_add]; exact k3⟩
theorem k_enum {elts : List Expr} {kk : Nat} {tpos : Pos} (hK : G.K = X.K) (hg : Gl X "enumerate") (hm : X.mg "enumerate" = none) (ha : PE X e (TD G E fa)) (hs : starEach [e] X.env = [(false, eval e X.env)]) :
    PI X (.Tuple elts kk tpos) (.Call (.Name "enumerate" p) [e] [] pos) (TIt G E fun r S => (fa r S).bind fun x S1 => match x with
    | .lst ds => .ok (enumD 0 ds, none) S1
    | _ => .bad) :=
  ⟨fun pins s σ H R I h => (pi_enum hg hm (pa_cons ha pa_nil hs) hs).run pins s σ H R I (DL.T.imp (DL.T.seq' (p := Rp G) h) fun v H1 ⟨W, r, S, d, rel, rd, k⟩ => by
    split at k
    · obtain ⟨a, vs, rfl, pa, ra⟩ := rp_lst rd
      rw [← hK]
      exact ⟨a, vs, rfl, pa.sq, k.done rel.st (rep_enumL pa ra)⟩
    · exact k.no)⟩
theorem rep_zipL {W : Wd} {H : Hp} {a b : Addr} {ds es : List D} {vs us : List V} (p : PL W H a vs) (r : Rps G W H ds vs) (p2 : PL W H b us) (r2 : Rps G W H es us) : repI G W H (zipD ds es, none) (Itz G.K a b) := by
  refine ⟨fun H1 => SqL G.K H1 a vs ∧ SqL G.K H1 b us, _, walk_zip (xs := vs) (ys := us) (by rw [r.length, r2.length]; exact zipD_length ds es), fun W1 H1 S1 x st _ => ⟨(p.extw x).sq, (p2.extw x).sq⟩, fun i W1 H1 S1 v H2 hi x st _ y => ?_⟩
  obtain ⟨T, u, z, rfl, hT, rfl, hu, hz⟩ := y
  obtain ⟨d, h1, h2⟩ := (Rps.extw x _ _ r).get' hu
  obtain ⟨e, h3, h4⟩ := (Rps.extw x _ _ r2).get' hz
  obtain ⟨k1, k2, k3⟩ := pair_rp st hT h2 h4
  exact ⟨_, zipD_get h1 h3, k1, k2, k3⟩
theorem walk_zipT {K : PySem.W.Frag} {a b : Addr} {xs ys : List V} {n : Nat} (hn : n = min xs.length ys.length) : Walk (RZ.ItzT K a b) n (fun H => SqT K H a xs ∧ SqT K H b ys) (YPair (fun i => xs[i]?) (fun i => ys[i]?)) := by
  subst hn
  refine ⟨fun i _ hi q => ?_, fun _ q => ⟨xs, ys, q.1, q.2, by omega⟩, fun i H v H' _ q y => ?_⟩
  · have h1 : i < xs.length := by omega
    have h2 : i < ys.length := by omega
    exact ⟨xs, ys, xs[i], ys[i], q.1, q.2, by simp [h1], by simp [h2]⟩
  · obtain ⟨T, x, z, h1, h2, h3, h4, h5⟩ := y
    exact ⟨T, x, z, h1, h2, h3, h4 xs q.1, h5 ys q.2⟩
theorem rep_zipT {W : Wd} {H : Hp} {a b : Addr} {ds es : List D} {vs us : List V} (p : DL.PT G.K W H a vs) (r : Rps G W H ds vs) (p2 : DL.PT G.K W H b us) (r2 : Rps G W H es us) : repI G W H (zipD ds es, none) (RZ.ItzT G.K a b) := by
  refine ⟨fun H1 => SqT G.K H1 a vs ∧ SqT G.K H1 b us, _, walk_zipT (xs := vs) (ys := us) (by rw [r.length, r2.length]; exact zipD_length ds es), fun W1 H1 S1 x st _ => ⟨(p.extw x).sq, (p2.extw x).sq⟩, fun i W1 H1 S1 v H2 hi x st _ y => ?_⟩
  obtain ⟨T, u, z, rfl, hT, rfl, hu, hz⟩ := y
  obtain ⟨d, h1, h2⟩ := (Rps.extw x _ _ r).get' hu
  obtain ⟨e, h3, h4⟩ := (Rps.extw x _ _ r2).get' hz
  obtain ⟨k1, k2, k3⟩ := pair_rp st hT h2 h4
  exact ⟨_, zipD_get h1 h3, k1, k2, k3⟩
theorem k_zip {e2 : Expr} {fb : M D} {elts : List Expr} {kk : Nat} {tpos : Pos} (hK : G.K = X.K) (hg : Gl X "zip") (hm : X.mg "zip" = none) (ha : PE X e (TD G E fa)) (hb : PE X e2 (TD G E fb)) (hs : starEach [e, e2] X.env = (false, eval e X.env) :: starEach [e2] X.env)
    (hs2 : starEach [e2] X.env = (false, eval e2 X.env) :: starEach [] X.env) (hpl : (backTo pos (starEach [e2] X.env)).any (·.1) = false) :
    PI X (.Tuple elts kk tpos) (.Call (.Name "zip" p) [e, e2] [] pos) (TIt G E fun r S => (fa r S).bind fun x S1 => (fb r S1).bind fun y S2 => match x, y with
    | .tup ds, .tup es => .ok (zipD ds es, none) S2
    | .lst ds, .lst es => .ok (zipD ds es, none) S2
    | _, _ => .bad) :=
  ⟨fun pins s σ H R I h => (RZ.pi_zipA hg hm (pa_cons ha (pa_cons hb pa_nil hs2) hs) hs hpl).run pins s σ H R I (DL.T.imp (DL.T.two' (g := D) mono_D h) fun v H1 h1 => DL.T.imp h1 fun u H2 ⟨W, r, S, d, d2, rel, rd, rd2, k⟩ => by
    split at k
    · obtain ⟨a, vs, rfl, pa, ra⟩ := rp_tup rd
      obtain ⟨b, us, rfl, pb, rb⟩ := rp_tup rd2
      rw [← hK]
      exact ⟨a, b, vs, us, rfl, .inr ⟨pa.sq, pb.sq, k.done rel.st (rep_zipT pa ra pb rb)⟩⟩
    · obtain ⟨a, vs, rfl, pa, ra⟩ := rp_lst rd
      obtain ⟨b, us, rfl, pb, rb⟩ := rp_lst rd2
      rw [← hK]
      exact ⟨a, b, vs, us, rfl, .inl ⟨pa.sq, pb.sq, k.done rel.st (rep_zipL pa ra pb rb)⟩⟩
    · exact k.no)⟩
end
end DL
set_option Elab.async false
set_option linter.all false
set_option maxRecDepth 100000
set_option maxHeartbeats 4000000
/-! DL17: whether a piece of the small syntax is an expression's. -/
namespace DL
open PySem PySem.Spec PyProof.Rows L2

/-- what is told of a place in the program: its slots, its names, which captured names it may store, whether an error is in hand -/
structure Sx where
  N : List Str
  sc : Scope
  fn : Str → Bool
  calm : Bool
  exn : Bool
/-- the defs' and the error classes' names -/
structure Tb where
  dn : Nat → Option Str
  cn : Nat → Option Str
  ix : List Str
  hn : List Str

def isGl (s : Sx) (x : Str) : Bool := decide (s.sc.names.lookup x = some .globalImplicit) && decide (x ≠ "__debug__") && decide (x ≠ "__name__")
def isVis (s : Sx) (x : Str) : Bool := (match s.sc.names.lookup x with | some .local => true | some .cell => true | some .free => true | _ => false) && decide (x ≠ "__debug__") && decide (x ≠ "__classdict__")
def isSto (s : Sx) (x : Str) : Bool := match s.sc.names.lookup x with | some .local => true | some .cell => s.fn x | _ => false
def boOp : Bo → Operator
  | .add => .Add | .sub => .Sub | .mul => .Mult | .div => .FloorDiv | .mod => .Mod | .pow => .Pow
def coOp : Co → CmpOp
  | .eq => .Eq | .ne => .NotEq | .lt => .Lt | .le => .LtE | .gt => .Gt | .ge => .GtE | .is => .Is | .isN => .IsNot | .in_ => .In | .notIn => .NotIn
def biName : Bi → Str
  | .len => "len" | .int => "int" | .max => "max" | .min => "min" | .sum => "sum" | .sorted => "sorted" | .tuple => "tuple" | .list => "list" | .str => "str"
/-- no super() -/
def plainB : Expr → Bool
  | .Call (.Name _ _) [] [] _ => false
  | _ => true
def notSet : Expr → Bool
  | .Set _ _ _ => false
  | _ => true
def isTup : Expr → Bool
  | .Tuple _ _ _ => true
  | _ => false
def ownOf (N : List Str) (own : List Nat) : List (Str × Nat) := own.map fun i => ((N[i]?).getD "", i)
theorem ownOf_snd (N : List Str) (own : List Nat) : (ownOf N own).map (·.2) = own := by
  unfold ownOf
  induction own with
  | nil => rfl
  | cons i r ih => simp only [List.map_cons, ih]
/-- the place inside a comprehension -/
def Sx.blk (s : Sx) (scope : Scope) : Sx := { s with sc := relS scope s.sc, fn := fun x => scope.names.lookup x == some .cell, exn := false }

mutual
def chkT (s : Sx) : Tg → Expr → Bool
  | .name i, e => match e with
    | .Name x _ => decide (s.N[i]? = some x) && isSto s x
    | _ => false
  | .tup ts, e => match e with
    | .Tuple es _ _ => s.calm && chkTs s ts es
    | _ => false
def chkTs (s : Sx) : Tgs → List Expr → Bool
  | .nil, es => match es with
    | [] => true
    | _ => false
  | .cons t ts, es => match es with
    | e :: es => chkT s t e && chkTs s ts es
    | [] => false
end
mutual
def chkE (T : Tb) (s : Sx) : Ex → Expr → Bool
  | .var i, e => match e with
    | .Name x _ => decide (s.N[i]? = some x) && isVis s x
    | _ => false
  | .int i, e => match e with
    | .Constant (.int j) _ _ => decide (i = j)
    | _ => false
  | .str t, e => match e with
    | .Constant (.str x) _ _ => decide (strO t = x)
    | _ => false
  | .bl b, e => match e with
    | .Constant (.bool c) _ _ => decide (b = c)
    | _ => false
  | .non, e => match e with
    | .Constant .none _ _ => true
    | _ => false
  | .glo y, e => match e with
    | .Name x _ => decide (Str.ofString y = x) && isGl s x
    | _ => false
  | .fnv f, e => match e with
    | .Name x _ => decide (T.dn f = some x) && isGl s x
    | _ => false
  | .bin o a b, e => match e with
    | .BinOp e1 op e2 _ => decide (boOp o = op) && chkE T s a e1 && chkE T s b e2
    | _ => false
  | .neg a, e => match e with
    | .UnaryOp .USub e1 _ => chkE T s a e1
    | _ => false
  | .cmp o a b, e => match e with
    | .Compare e1 [op] [e2] _ => decide (coOp o = op) && !behindInMarks op e2 && chkE T s a e1 && chkE T s b e2
    | _ => false
  | .chn o p a b c, e => match e with
    | .Compare e1 [op, op2] [e2, e3] _ => decide (coOp o = op) && decide (coOp p = op2) && !lastMarks [op, op2] [e2, e3] && chkE T s a e1 && chkE T s b e2 && chkE T s c e3
    | _ => false
  | .and es, e => match e with
    | .BoolOp .And l _ => !l.isEmpty && chkEs T s es l
    | _ => false
  | .or es, e => match e with
    | .BoolOp .Or l _ => !l.isEmpty && chkEs T s es l
    | _ => false
  | .not a, e => match e with
    | .UnaryOp .Not e1 _ => chkE T s a e1
    | _ => false
  | .ite c a b, e => match e with
    | .IfExp e1 e2 e3 _ => chkB T s c e1 && chkE T s a e2 && chkE T s b e3
    | _ => false
  | .call f es, e => match e with
    | .Call (.Name x _) l [] _ => s.calm && decide (T.dn f = some x) && isGl s x && chkEs T s es l
    | _ => false
  | .callv i es, e => match e with
    | .Call (.Name x _) l [] _ => s.calm && decide (s.N[i]? = some x) && isVis s x && !l.isEmpty && chkEs T s es l
    | _ => false
  | .blt b es, e => match e with
    | .Call (.Name x _) l [] _ => s.calm && decide (biName b = x) && isGl s x && !l.isEmpty && chkEs T s es l
    | _ => false
  | .isi a ty, e => match e with
    | .Call (.Name x _) [e1, .Name y _] [] _ => decide (x = "isinstance") && isGl s x && decide (Str.ofString ty = y) && isGl s y && tys.contains ty && chkE T s a e1
    | _ => false
  | .isx a ty, e => match e with
    | .Call (.Name x _) [e1, .Name y _] [] _ => s.exn && decide (x = "isinstance") && isGl s x && decide (ty = y) && isGl s y && T.ix.contains ty && chkE T s a e1
    | _ => false
  | .mth m o es, e => match e with
    | .Call (.Attribute e1 n apos) l [] pos => decide (n = mtName m) && (apos.endLine == pos.line) && decide (l.length < 30) && plainB e1 && chkE T s o e1 && chkEs T s es l
    | _ => false
  | .tup es, e => match e with
    | .Tuple l _ _ => decide (l.length ≤ 1000000) && chkEs T s es l
    | _ => false
  | .lst es, e => match e with
    | .List l _ => decide (l.length ≤ 1000000) && chkEs T s es l
    | _ => false
  | .new es, e => match e with
    | .List l _ => decide (l.length ≤ 1000000) && chkEs T s es l
    | _ => false
  | .ix a b, e => match e with
    | .Subscript e1 e2 _ => chkE T s a e1 && chkE T s b e2
    | _ => false
  | .sl a lo hi, e => match e with
    | .Subscript e1 (.Slice l h none _) _ => chkE T s a e1 && chkO T s lo l && chkO T s hi h
    | _ => false
  | .comp _ own elt t it c, e => match e with
    | .ListComp e0 [⟨tg, iter, ifs, 0⟩] scope _ => s.calm && blkC s.N s.sc scope (ownOf s.N own) && tgIn own t && chkI T s it tg iter && chkT (s.blk scope) t tg && chkC T (s.blk scope) c ifs && chkE T (s.blk scope) elt e0
    | _ => false
  | .comp2 _ own elt t it c own2 t2 it2 c2, e => match e with
    | .ListComp e0 [⟨tg, iter, ifs, 0⟩, ⟨tg2, iter2, ifs2, 0⟩] scope _ => s.calm && blkC s.N s.sc scope (ownOf s.N own) && own2.all (own.contains ·) && tgIn own t && tgIn own2 t2 && chkI T s it tg iter && chkT (s.blk scope) t tg && chkC T (s.blk scope) c ifs
        && chkI T (s.blk scope) it2 tg2 iter2 && chkT (s.blk scope) t2 tg2 && chkC T (s.blk scope) c2 ifs2 && chkE T (s.blk scope) elt e0
    | _ => false
  | .sset _ _ _ _ _ _ _, _ => false
  | .ssrt _, _ => false
  | .skey _, _ => false
  | .fmt a, e => match e with
    | .FormattedValue e1 c none _ => decide (c = -1) && chkE T s a e1
    | .JoinedStr [.FormattedValue e1 c none _] _ => decide (c = -1) && chkE T s a e1
    | _ => false
  | .joi es, e => match e with
    | .JoinedStr (e1 :: e2 :: l) _ => decide (l.length < 90) && chkEs T s es (e1 :: e2 :: l)
    | _ => false
  | .fld a n, e => match e with
    | .Attribute e1 m _ => s.exn && decide (n = m) && plainB e1 && chkE T s a e1
    | _ => false
def chkEs (T : Tb) (s : Sx) : Exs → List Expr → Bool
  | .nil, l => l.isEmpty
  | .cons a es, l => match l with
    | e :: l => chkE T s a e && chkEs T s es l
    | [] => false
def chkO (T : Tb) (s : Sx) : Ox → Option Expr → Bool
  | .none, o => o.isNone
  | .some a, o => match o with
    | some e => chkE T s a e
    | none => false
def chkC (T : Tb) (s : Sx) : Ox → List Expr → Bool
  | .none, l => l.isEmpty
  | .some a, l => match l with
    | [e] => chkB T s a e
    | _ => false
def chkI (T : Tb) (s : Sx) : Itr → Expr → Expr → Bool
  | .plain a, _, e => notSet e && chkE T s a e
  | .range1 a, _, e => match e with
    | .Call (.Name x _) [e1] [] _ => decide (x = "range") && isGl s x && chkE T s a e1
    | _ => false
  | .range2 a b, _, e => match e with
    | .Call (.Name x _) [e1, e2] [] _ => decide (x = "range") && isGl s x && chkE T s a e1 && chkE T s b e2
    | _ => false
  | .rev a, _, e => match e with
    | .Call (.Name x _) [e1] [] _ => decide (x = "reversed") && isGl s x && chkE T s a e1
    | _ => false
  | .enum a, tg, e => match e with
    | .Call (.Name x _) [e1] [] _ => decide (x = "enumerate") && isGl s x && isTup tg && chkE T s a e1
    | _ => false
  | .zip a b, tg, e => match e with
    | .Call (.Name x _) [e1, e2] [] _ => decide (x = "zip") && isGl s x && isTup tg && chkE T s a e1 && chkE T s b e2
    | _ => false
def chkB (T : Tb) (s : Sx) : Ex → Expr → Bool
  | .and es, e => match e with
    | .BoolOp .And l _ => !l.isEmpty && chkBs T s es l
    | _ => false
  | .or es, e => match e with
    | .BoolOp .Or l _ => !l.isEmpty && chkBs T s es l
    | _ => false
  | .not a, e => match e with
    | .UnaryOp .Not e1 _ => chkB T s a e1
    | _ => false
  | .ite c a b, e => match e with
    | .IfExp e1 e2 e3 _ => chkB T s c e1 && chkB T s a e2 && chkB T s b e3
    | _ => false
  | .cmp o a b, e => match e with
    | .Compare e1 [op] [e2] _ => decide (coOp o = op) && !behindInMarks op e2 && chkE T s a e1 && chkE T s b e2
    | _ => false
  | .chn o p a b c, e => match e with
    | .Compare e1 [op, op2] [e2, e3] _ => decide (coOp o = op) && decide (coOp p = op2) && !lastMarks [op, op2] [e2, e3] && chkE T s a e1 && chkE T s b e2 && chkE T s c e3
    | _ => false
  | .var i, e => match e with
    | .Name x _ => decide (s.N[i]? = some x) && isVis s x
    | _ => false
  | .bl b, e => match e with
    | .Constant (.bool c) _ _ => decide (b = c)
    | _ => false
  | .call f es, e => match e with
    | .Call (.Name x _) l [] _ => s.calm && decide (T.dn f = some x) && isGl s x && chkEs T s es l
    | _ => false
  | .callv i es, e => match e with
    | .Call (.Name x _) l [] _ => s.calm && decide (s.N[i]? = some x) && isVis s x && !l.isEmpty && chkEs T s es l
    | _ => false
  | .isi a ty, e => match e with
    | .Call (.Name x _) [e1, .Name y _] [] _ => decide (x = "isinstance") && isGl s x && decide (Str.ofString ty = y) && isGl s y && tys.contains ty && chkE T s a e1
    | _ => false
  | .isx a ty, e => match e with
    | .Call (.Name x _) [e1, .Name y _] [] _ => s.exn && decide (x = "isinstance") && isGl s x && decide (ty = y) && isGl s y && T.ix.contains ty && chkE T s a e1
    | _ => false
  | .mth m o es, e => match e with
    | .Call (.Attribute e1 n apos) l [] pos => decide (n = mtName m) && (apos.endLine == pos.line) && decide (l.length < 30) && plainB e1 && chkE T s o e1 && chkEs T s es l
    | _ => false
  | .ix a b, e => match e with
    | .Subscript e1 e2 _ => chkE T s a e1 && chkE T s b e2
    | _ => false
  | _, _ => false
def chkBs (T : Tb) (s : Sx) : Exs → List Expr → Bool
  | .nil, l => l.isEmpty
  | .cons a es, l => match l with
    | e :: l => chkB T s a e && chkBs T s es l
    | [] => false
end
end DL
set_option Elab.async false
set_option linter.all false
set_option maxRecDepth 100000
set_option maxHeartbeats 4000000
/-! DL18: the meaning of the small syntax is the expression's reading. -/
namespace DL
open PySem PySem.Spec PyProof.Rows L2

def bltNames : List Str := ["len", "int", "max", "min", "sum", "sorted", "tuple", "list", "str", "isinstance", "range", "reversed", "enumerate", "zip", "bool"]
/-- what is told of a place -/
structure Cz (T : Tb) (G : Gb) (P : Par) (m : Nat) (s : Sx) (X : Cx) (E : XK) : Prop where
  K : G.K = X.K
  N : X.N = s.N
  nd : s.N.Nodup
  sc : X.env.scope = s.sc
  fn : ∀ x, s.fn x = true → X.fn x = true
  calm : s.calm = true → X.calm = true
  room : s.calm = true → Room m X.A
  un : X.A.units + 64 < cLine
  tk : Takes X fun c d _ H => E c d H
  FO : ∀ f a, G.fa f = some a → ∃ fd ps, FnOk X.prog X.w X.K X.mg X.base (L2.CX X.prog X.w) m a fd ps (spOf G (P.fn f)) ∧ PySem.W.keepIn X.K (.ref a) = true ∧ Binds X.K fd ps []
  dn : ∀ f x, T.dn f = some x → ∃ a, X.mg x = some (.ref a) ∧ G.fa f = some a
  gc : ∀ y d, P.gc y = some d → ∃ u v, X.mg (Str.ofString y) = some u ∧ L2.RelV v u ∧ ∀ W H, Rp G W H d v
  bl : ∀ b ∈ bltNames, X.mg b = none
  xf : P.xf = G.xf
  ix : ∀ ty ∈ T.ix, (∃ CT, X.mg ty = some (.ref CT) ∧ ∀ x C b, G.ca x = some C → P.isx x ty = some b → PySem.W.kitOne X.K (.ref C) (.ref CT) = some b) ∨ (∃ t, X.mg ty = none ∧ bootBuiltins ty = some (.type t) ∧ ∀ x C b, G.ca x = some C → P.isx x ty = some b → PySem.W.kitOne X.K (.ref C) (.type t) = some b)
  ex : s.exn = true → ∃ a dd x oe C, P.ex = some (a, dd, x) ∧ (a, oe) ∈ X.pn ∧ Zc (.ref C) (some dd) oe ∧ (∃ vs, oe.data = .fields vs) ∧ XfC X.K C ∧ ExcC X.K C ∧ G.ca x = some C ∧ ∀ n ∈ G.xf x, PySem.W.findIn X.K (.ref C) n = some none

section
variable {T : Tb} {G : Gb} {P : Par} {m : Nat} {s : Sx} {X : Cx} {E : XK}
theorem Cz.gl (c : Cz T G P m s X E) {x : Str} (h : isGl s x = true) : Gl X x ∧ (x == ("__debug__" : Str)) = false ∧ x ≠ "__name__" := by
  unfold isGl at h
  simp only [Bool.and_eq_true, decide_eq_true_eq] at h
  refine ⟨?_, by simpa using h.1.2, h.2⟩
  show X.env.scope.names.lookup x = _
  rw [c.sc]
  exact h.1.1
theorem Cz.vis (c : Cz T G P m s X E) {x : Str} (h : isVis s x = true) : Vis X.env.scope x ∧ (x == ("__debug__" : Str)) = false ∧ (x == ("__classdict__" : Str)) = false := by
  unfold isVis at h
  simp only [Bool.and_eq_true, decide_eq_true_eq] at h
  refine ⟨?_, by simpa using h.1.2, by simpa using h.2⟩
  unfold Vis
  rw [c.sc]
  have h := h.1.1
  split at h <;> simp_all
theorem Cz.sto (c : Cz T G P m s X E) {x : Str} (h : isSto s x = true) : L2.Loc X.env.scope x ∧ (X.fn x = true ∨ X.env.scope.names.lookup x = some .local) := by
  unfold isSto at h
  unfold L2.Loc
  rw [c.sc]
  split at h
  · rename_i e
    exact ⟨.inl e, .inr e⟩
  · rename_i e
    exact ⟨.inr e, .inl (c.fn x h)⟩
  · cases h
theorem Cz.ps (c : Cz T G P m s X E) : Passes (L2.CX X.prog X.w) X E := passes_call c.tk fun _ _ _ _ h => h
theorem Cz.xnd (c : Cz T G P m s X E) : X.N.Nodup := by rw [c.N]; exact c.nd
theorem Cz.blk (c : Cz T G P m s X E) (scope : Scope) (s0 : Shared) (H : Hp) (C : Addr) (cl : List (Str × Addr)) (fp : List Addr) : Cz T G P m (s.blk scope) (X.blk s0 H scope (compEnvC scope cl C X.env) fp) (fun _ _ _ => False) where
  K := c.K
  N := c.N
  nd := c.nd
  sc := by
    show relS scope X.env.scope = relS scope s.sc
    rw [c.sc]
  fn := fun x h => h
  calm := c.calm
  room := c.room
  un := c.un
  tk := fun _ _ x => by
    obtain ⟨_, _, _, _, _, _, _, _, _, _, _, _, _, _, _, _, z⟩ := x
    exact z.elim
  FO := c.FO
  dn := c.dn
  gc := c.gc
  bl := c.bl
  xf := c.xf
  ix := c.ix
  ex := fun h => nomatch h

/-! ### value-level not -/
theorem k_notE {e : Expr} {fa : M D} {pos : Pos} (hK : G.K = X.K) (ha : PE X e (TD G E fa)) : PE X (.UnaryOp .Not e pos) (TD G E fun r S => (fa r S).bind fun d S1 => (truD d S1).bind fun b S2 => .ok (.bl (!b)) S2) := by
  refine ⟨fun pins s σ H Q I h => ?_⟩
  refine UnaryOp_ (thn (ha.run pins s σ H _ I (DL.T.seq' h)) fun v s1 ⟨x, H1, I1, r1, W, r, S, d, rel, rd, k⟩ => ?_)
  have h2 : rT G E x H1 (fun b H2 => Q (.bl (!b)) H2) := by
    refine ⟨W, S, d, rel.st, rd, ?_⟩
    refine Post.imp (Post.thn (p := repB) k) fun v H2 ⟨W2, b, S2, ext, st, rb, k2⟩ => ?_
    subst rb
    exact k2.done st mk_bl
  exact not_of (wpAny_mono (tr_ok hK pins s1 σ H1 x v _ I1 r1 h2) (fun b s2 ⟨H2, I2, q⟩ => ⟨.bl (!b), H2, I2, rfl, q⟩) fun _ _ z => z)
end
end DL
set_option Elab.async false
set_option linter.all false
set_option maxRecDepth 100000
set_option maxHeartbeats 8000000
/-! DL19: soundness of the small syntax, expressions. -/
namespace DL
open PySem PySem.Spec PyProof.Rows L2
section
variable {T : Tb} {G : Gb} {P : Par} {m : Nat} {s : Sx} {X : Cx} {E : XK}
theorem ops_bo (c : Cz T G P m s X E) (o : Bo) : OpR X (binaryOp (boOp o)) (r2 G E (boF o)) := by
  cases o with
  | add => exact or_add c.K
  | sub => exact or_sub
  | mul => exact or_mul
  | div => exact or_div
  | mod => exact or_mod
  | pow => exact or_pow
theorem ops_co (c : Cz T G P m s X E) (o : Co) : OpR X (compareOp (coOp o)) (r2 G E (coF o)) := by
  cases o with
  | eq => exact or_eq c.K c.un
  | ne => exact or_ne c.K c.un
  | lt => exact or_lt
  | le => exact or_le
  | gt => exact or_gt
  | ge => exact or_ge
  | is => exact or_is
  | isN => exact or_isN
  | in_ => exact or_in c.K
  | notIn => exact or_notIn c.K
theorem ns_of {a : Ex} {e : Expr} (h : chkE T s a e = true) (es : List Expr) (env : Env) : starEach (e :: es) env = (false, eval e env) :: starEach es env := by
  cases e <;> first | rfl | (cases a <;> simp [chkE] at h)
theorem plain_of {a : Ex} {e : Expr} (h : chkE T s a e = true) : PlainIx e := by
  cases e <;> first | (intro o i; rfl) | (cases a <;> simp [chkE] at h)
theorem back_of : ∀ {es : Exs} {l : List Expr} (pos : Pos) (env : Env), chkEs T s es l = true → (backTo pos (starEach l env)).any (·.1) = false
  | .nil, l, pos, env, h => by
    unfold chkEs at h
    cases l with
    | nil => rfl
    | cons => cases h
  | .cons a es, l, pos, env, h => by
    unfold chkEs at h
    split at h
    · rename_i e l
      simp only [Bool.and_eq_true] at h
      rw [ns_of h.1]
      have ih := back_of pos env h.2
      first
        | (show (false || _) = false; rw [Bool.false_or]; exact ih)
        | (unfold backTo at ih ⊢; simpa using ih)
    · cases h
theorem base_of {e : Expr} {n : Str} {env : Env} (h : plainB e = true) : attributeBase e n env (eval e env) = eval e env := by
  unfold plainB at h
  split at h
  · cases h
  · rename_i hn
    unfold attributeBase
    split
    · exact absurd rfl (hn _ _ _)
    · rfl
theorem bi_ok (c : Cz T G P m s X E) (hc : s.calm = true) (b : Bi) {e : Expr} {es : List Expr} {f : M (List D)} {p pos : Pos} (hg : isGl s (biName b) = true) (ha : PA X (e :: es) (TDs G E f)) (he : starEach (e :: es) X.env = (false, eval e X.env) :: starEach es X.env)
    (hpl : (backTo pos (starEach es X.env)).any (·.1) = false) : PE X (.Call (.Name (biName b) p) (e :: es) [] pos) (TD G E fun r S => (f r S).bind fun ds S1 => biF b ds S1) := by
  obtain ⟨g1, g2, g3⟩ := c.gl hg
  cases b with
  | len => exact k_blt (c_len c.K) g1 (c.bl _ (by simp [bltNames, biName])) (by decide +kernel) ha g3 g2 he hpl
  | int => exact k_bty c_int g1 (c.bl _ (by simp [bltNames, biName])) (by decide +kernel) ha g3 g2 he hpl
  | max => exact k_blt (c_max (c.calm hc)) g1 (c.bl _ (by simp [bltNames, biName])) (by decide +kernel) ha g3 g2 he hpl
  | min => exact k_blt (c_min (c.calm hc)) g1 (c.bl _ (by simp [bltNames, biName])) (by decide +kernel) ha g3 g2 he hpl
  | sum => exact k_blt (c_sum c.K (c.calm hc)) g1 (c.bl _ (by simp [bltNames, biName])) (by decide +kernel) ha g3 g2 he hpl
  | sorted => exact k_blt c_sorted g1 (c.bl _ (by simp [bltNames, biName])) (by decide +kernel) ha g3 g2 he hpl
  | tuple => exact k_bty (c_tuple c.K) g1 (c.bl _ (by simp [bltNames, biName])) (by decide +kernel) ha g3 g2 he hpl
  | list => exact k_bty (c_list c.K) g1 (c.bl _ (by simp [bltNames, biName])) (by decide +kernel) ha g3 g2 he hpl
  | str => exact k_bty c_str g1 (c.bl _ (by simp [bltNames, biName])) (by decide +kernel) ha g3 g2 he hpl
/-! targets -/
theorem asE_cons (t : Tg) (e : Expr) (es : List Expr) {env : Env} (h : chkT s t e = true) : assignEach (e :: es) env = (false, assign e env) :: assignEach es env := by
  cases e <;> first | rfl | (cases t <;> simp [chkT] at h)
theorem asE_len : ∀ (ts : Tgs) (es : List Expr) {env : Env}, chkTs s ts es = true → (assignEach es env).length = es.length
  | .nil, es, env, h => by
    unfold chkTs at h
    split at h
    · rfl
    · cases h
  | .cons t ts, es, env, h => by
    unfold chkTs at h
    split at h
    · rename_i e es
      simp only [Bool.and_eq_true] at h
      rw [asE_cons t e es h.1, List.length_cons, List.length_cons, asE_len ts es h.2]
    · cases h
theorem asE_st : ∀ (ts : Tgs) (es : List Expr) {env : Env}, chkTs s ts es = true → (assignEach es env).findIdx? (·.1) = none
  | .nil, es, env, h => by
    unfold chkTs at h
    split at h
    · rfl
    · cases h
  | .cons t ts, es, env, h => by
    unfold chkTs at h
    split at h
    · rename_i e es
      simp only [Bool.and_eq_true] at h
      rw [asE_cons t e es h.1, List.findIdx?_cons, asE_st ts es h.2]
      rfl
    · cases h
theorem asgs_len : ∀ (ts : Tgs) (es : List Expr) (ds : List D) (r r2 : Loc), chkTs s ts es = true → asgs ts ds r = some r2 → ds.length = es.length
  | .nil, es, ds, r, r2, h, k => by
    unfold chkTs at h
    split at h
    · unfold asgs at k
      split at k
      · rfl
      · cases k
    · cases h
  | .cons t ts, es, ds, r, r2, h, k => by
    unfold chkTs at h
    split at h
    · rename_i e es
      simp only [Bool.and_eq_true] at h
      unfold asgs at k
      split at k
      · rename_i d ds
        cases e1 : asg t d r with
        | none => rw [e1] at k; cases k
        | some r3 =>
          rw [e1] at k
          rw [List.length_cons, List.length_cons, asgs_len ts es ds r3 r2 h.2 k]
      · cases k
    · cases h
mutual
theorem sndT (c : Cz T G P m s X E) : ∀ (t : Tg) (e : Expr), chkT s t e = true → PG X e (gOf G t)
  | .name i, e, h => by
    unfold chkT at h
    split at h
    · simp only [Bool.and_eq_true, decide_eq_true_eq] at h
      obtain ⟨h1, h2⟩ := c.sto h.2
      exact g_name (pg_name c.xnd (by rw [c.N]; exact h.1) h1 h2)
    · cases h
  | .tup ts, e, h => by
    unfold chkT at h
    split at h
    · rename_i es k p
      simp only [Bool.and_eq_true] at h
      exact g_tup c.K (c.calm h.1) (sndTs c ts es h.2) (fun ds r r2 h2 => asgs_len ts es ds r r2 h.2 h2) (asE_len ts es h.2) (asE_st ts es h.2)
    · cases h
theorem sndTs (c : Cz T G P m s X E) : ∀ (ts : Tgs) (es : List Expr), chkTs s ts es = true → PGs X es (gsOf G ts)
  | .nil, es, h => by
    unfold chkTs at h
    split at h
    · exact g_nil
    · cases h
  | .cons t ts, es, h => by
    unfold chkTs at h
    split at h
    · rename_i e es
      simp only [Bool.and_eq_true] at h
      exact g_cons (sndT c t e h.1) (sndTs c ts es h.2) (by rw [asE_cons t e es h.1]; rfl)
    · cases h
end
end
end DL
set_option Elab.async false
set_option linter.all false
set_option maxRecDepth 100000
set_option maxHeartbeats 16000000
/-! DL20: soundness of the small syntax, expressions: the theorem. -/
namespace DL
open PySem PySem.Spec PyProof.Rows L2
theorem semEs_len (P : Par) : ∀ (es : Exs) {r : Loc} {S S' : Sto} {ds : List D} {T : Tb} {s : Sx} {l : List Expr}, chkEs T s es l = true → semEs P es r S = .ok ds S' → ds.length = l.length
  | .nil, r, S, S', ds, T, s, l, h, k => by
    unfold chkEs at h
    cases l with
    | nil =>
      simp only [semEs, Re.ok.injEq] at k
      rw [← k.1]
      rfl
    | cons => cases h
  | .cons a es, r, S, S', ds, T, s, l, h, k => by
    unfold chkEs at h
    split at h
    · simp only [Bool.and_eq_true] at h
      simp only [semEs] at k
      obtain ⟨d, S1, e1, k⟩ := bind_ok_inv k
      obtain ⟨ds2, S2, e2, k⟩ := bind_ok_inv k
      cases k
      rw [List.length_cons, List.length_cons, semEs_len P es h.2 e2]
    · cases h
theorem nil_of {T : Tb} {s : Sx} {es : Exs} (h : chkEs T s es [] = true) : es = .nil := by
  cases es with
  | nil => rfl
  | cons => unfold chkEs at h; cases h
theorem few_of {T : Tb} {s : Sx} {es : Exs} {l : List Expr} {pos : Pos} {env : Env} (h : chkEs T s es l = true) : (backTo pos (starEach l env)).all (fun x => !x.1) = true := by
  have := back_of pos env h
  rw [List.all_eq_not_any_not]
  simpa using this
theorem set_of {e : Expr} (h : notSet e = true) (env : Env) (x : Value) : foldedSetIterable e env x = pure x := by
  unfold notSet at h
  split at h
  · cases h
  · rename_i hn
    unfold foldedSetIterable
    split
    · exact absurd rfl (hn _ _ _)
    · rfl
theorem setJ {T : Tb} {s : Sx} (it : Itr) (tg e : Expr) (h : chkI T s it tg e = true) (env : Env) (x : Value) : foldedSetIterable e env x = pure x := by
  refine set_of ?_ env x
  cases it <;> unfold chkI at h
  · simp only [Bool.and_eq_true] at h
    exact h.1
  all_goals split at h <;> first | rfl | cases h
theorem k_c0 {G : Gb} {X : Cx} {E : XK} : PTs X [] (TB G E fun _ S => .ok true S) := by
  refine ⟨fun pins s σ H Q I ⟨W, r, S, rel, p⟩ => pts_nil.run pins s σ H Q I (p.done rel.st rfl)⟩
theorem k_iteT {G : Gb} {X : Cx} {E : XK} {e1 e2 e3 : Expr} {pos : Pos} {ga gb gc : M Bool} (hc : L2.PT X e1 (TB G E ga)) (ha : L2.PT X e2 (TB G E gb)) (hb : L2.PT X e3 (TB G E gc)) : L2.PT X (.IfExp e1 e2 e3 pos) (TB G E fun r S => (ga r S).bind fun k S1 => if k then gb r S1 else gc r S1) := by
  refine ⟨fun pins s σ H Q I h => ?_⟩
  have h2 := DL.T.seq (p := repB) h
  show wpAny _ _ (do if ← isTrue e1 X.env (eval e1 X.env) then isTrue e2 X.env (eval e2 X.env) else isTrue e3 X.env (eval e3 X.env)) _ _ _
  refine wpAny_bind (thn (hc.run pins s σ H _ I h2) fun d s1 ⟨H1, I1, W, r, S, x, rel, rx, k⟩ => ?_)
  subst rx
  cases d with
  | true => exact ha.run pins s1 σ H1 Q I1 ⟨W, r, S, rel, k⟩
  | false => exact hb.run pins s1 σ H1 Q I1 ⟨W, r, S, rel, k⟩
mutual
theorem sndE {T : Tb} {G : Gb} {P : Par} {m : Nat} : ∀ (a : Ex) {s : Sx} {X : Cx} {E : XK} (c : Cz T G P m s X E) (e : Expr), chkE T s a e = true → PE X e (TD G E (semE P a))
  | .var i, s, X, E, c, e, h => by
    unfold chkE at h
    split at h
    · simp only [Bool.and_eq_true, decide_eq_true_eq] at h
      obtain ⟨h1, h2⟩ := h
      obtain ⟨v1, v2, v3⟩ := c.vis h2
      simp only [semE]
      exact k_var (pe_var (by rw [c.N]; exact h1) v1 v2 v3)
    · cases h
  | .int i, s, X, E, c, e, h => by
    unfold chkE at h
    split at h
    · simp only [decide_eq_true_eq] at h
      subst h
      simp only [semE]
      exact k_con pe_int fun _ _ => mk_int
    · cases h
  | .str t, s, X, E, c, e, h => by
    unfold chkE at h
    split at h
    · simp only [decide_eq_true_eq] at h
      subst h
      simp only [semE]
      exact k_con pe_str fun _ _ => mk_strO
    · cases h
  | .bl b, s, X, E, c, e, h => by
    unfold chkE at h
    split at h
    · simp only [decide_eq_true_eq] at h
      subst h
      simp only [semE]
      exact k_con pe_bl fun _ _ => mk_bl
    · cases h
  | .non, s, X, E, c, e, h => by
    unfold chkE at h
    split at h
    · simp only [semE]
      exact k_con pe_non fun _ _ => mk_non
    · cases h
  | .glo y, s, X, E, c, e, h => by
    unfold chkE at h
    split at h
    · simp only [Bool.and_eq_true, decide_eq_true_eq] at h
      obtain ⟨rfl, h2⟩ := h
      obtain ⟨g1, g2, g3⟩ := c.gl h2
      simp only [semE]
      split
      · rename_i d hd
        obtain ⟨u, v, hm, rv, rd⟩ := c.gc y d hd
        exact k_con (pe_glob g1 hm rv g2) rd
      · exact ⟨fun pins s σ H Q I ⟨W, r, S, rel, p⟩ => p.no⟩
    · cases h
  | .fnv f, s, X, E, c, e, h => by
    unfold chkE at h
    split at h
    · simp only [Bool.and_eq_true, decide_eq_true_eq] at h
      obtain ⟨h1, h2⟩ := h
      obtain ⟨g1, g2, g3⟩ := c.gl h2
      obtain ⟨a, hm, hf⟩ := c.dn _ _ h1
      simp only [semE]
      exact k_con (pe_glob (v := .ref a) g1 hm rfl g2) fun _ _ => by simp only [Rp]; exact ⟨a, rfl, hf⟩
    · cases h
  | .bin o a b, s, X, E, c, e, h => by
    unfold chkE at h
    split at h
    · simp only [Bool.and_eq_true, decide_eq_true_eq] at h
      obtain ⟨⟨rfl, h1⟩, h2⟩ := h
      simp only [semE]
      exact k_bin (ops_bo c o) (sndE a c _ h1) (sndE b c _ h2)
    · cases h
  | .neg a, s, X, E, c, e, h => by
    unfold chkE at h
    split at h
    · simp only [semE]
      exact k_neg (sndE a c _ h)
    · cases h
  | .cmp o a b, s, X, E, c, e, h => by
    unfold chkE at h
    split at h
    · simp only [Bool.and_eq_true, decide_eq_true_eq, Bool.not_eq_true'] at h
      obtain ⟨⟨⟨rfl, h0⟩, h1⟩, h2⟩ := h
      simp only [semE]
      exact k_cmp (ops_co c o) (sndE a c _ h1) (sndE b c _ h2) h0
    · cases h
  | .chn o p a b d, s, X, E, c, e, h => by
    unfold chkE at h
    split at h
    · simp only [Bool.and_eq_true, decide_eq_true_eq, Bool.not_eq_true'] at h
      obtain ⟨⟨⟨⟨⟨rfl, rfl⟩, h0⟩, h1⟩, h2⟩, h3⟩ := h
      simp only [semE]
      exact k_chn (ops_co c o) (ops_co c p) (sndE a c _ h1) (sndE b c _ h2) (sndE d c _ h3) h0
    · cases h
  | .and es, s, X, E, c, e, h => by
    unfold chkE at h
    split at h
    · simp only [Bool.and_eq_true] at h
      simp only [semE]
      exact sndAnd es c _ h.2
    · cases h
  | .or es, s, X, E, c, e, h => by
    unfold chkE at h
    split at h
    · simp only [Bool.and_eq_true] at h
      simp only [semE]
      exact sndOr es c _ h.2
    · cases h
  | .not a, s, X, E, c, e, h => by
    unfold chkE at h
    split at h
    · simp only [semE]
      exact k_notE c.K (sndE a c _ h)
    · cases h
  | .ite k a b, s, X, E, c, e, h => by
    unfold chkE at h
    split at h
    · simp only [Bool.and_eq_true] at h
      simp only [semE]
      exact k_ite (sndB k c _ h.1.1) (sndE a c _ h.1.2) (sndE b c _ h.2)
    · cases h
  | .call f es, s, X, E, c, e, h => by
    unfold chkE at h
    split at h
    · rename_i x p l pos
      simp only [Bool.and_eq_true, decide_eq_true_eq] at h
      obtain ⟨⟨⟨h0, h1⟩, h2⟩, h3⟩ := h
      obtain ⟨g1, g2, g3⟩ := c.gl h2
      obtain ⟨a, hm, hf⟩ := c.dn _ _ h1
      obtain ⟨fd, ps, FO, hk, hb⟩ := c.FO f a hf
      simp only [semE]
      cases l with
      | nil =>
        have e0 := nil_of h3
        subst e0
        simp only [semEs, bind_ok]
        exact k_call0 FO (c.room h0) g1 hm hk hb c.ps g2
      | cons e1 l =>
        cases es with
        | nil => unfold chkEs at h3; cases h3
        | cons a1 es =>
          have h3' := h3
          unfold chkEs at h3
          simp only [Bool.and_eq_true] at h3
          exact k_call FO (c.room h0) g1 hm hk hb c.ps (sndEs (.cons a1 es) c _ h3') g2 (ns_of h3.1 _ _) (back_of pos _ h3.2)
    · cases h
  | .callv i es, s, X, E, c, e, h => by
    unfold chkE at h
    split at h
    · rename_i x p l pos
      simp only [Bool.and_eq_true, decide_eq_true_eq] at h
      obtain ⟨⟨⟨⟨h0, h1⟩, h2⟩, h4⟩, h3⟩ := h
      obtain ⟨v1, v2, v3⟩ := c.vis h2
      simp only [semE]
      cases l with
      | nil => cases h4
      | cons e1 l =>
        cases es with
        | nil => unfold chkEs at h3; cases h3
        | cons a1 es =>
          have h3' := h3
          unfold chkEs at h3
          simp only [Bool.and_eq_true] at h3
          exact k_callv c.FO (c.room h0) (by rw [c.N]; exact h1) v1 c.ps (sndEs (.cons a1 es) c _ h3') v2 v3 (ns_of h3.1 _ _) (back_of pos _ h3.2)
    · cases h
  | .blt b es, s, X, E, c, e, h => by
    unfold chkE at h
    split at h
    · rename_i x p l pos
      simp only [Bool.and_eq_true, decide_eq_true_eq] at h
      obtain ⟨⟨⟨⟨h0, rfl⟩, h2⟩, h4⟩, h3⟩ := h
      simp only [semE]
      cases l with
      | nil => cases h4
      | cons e1 l =>
        cases es with
        | nil => unfold chkEs at h3; cases h3
        | cons a1 es =>
          have h3' := h3
          unfold chkEs at h3
          simp only [Bool.and_eq_true] at h3
          exact bi_ok c h0 b h2 (sndEs (.cons a1 es) c _ h3') (ns_of h3.1 _ _) (back_of pos _ h3.2)
    · cases h
  | .isi a ty, s, X, E, c, e, h => by
    unfold chkE at h
    split at h
    · rename_i x p e1 y p2 pos
      simp only [Bool.and_eq_true, decide_eq_true_eq] at h
      obtain ⟨⟨⟨⟨⟨rfl, h1⟩, rfl⟩, h2⟩, h3⟩, h4⟩ := h
      obtain ⟨g1, g2, g3⟩ := c.gl h1
      obtain ⟨k1, k2, k3⟩ := c.gl h2
      simp only [semE]
      have ht : ty ∈ tys := by simpa using h3
      have hb : Str.ofString ty ∈ bltNames ∧ bootBuiltins (Str.ofString ty) = some (.type ty) := (show ∀ ty ∈ tys, Str.ofString ty ∈ bltNames ∧ bootBuiltins (Str.ofString ty) = some (.type ty) by decide +kernel) ty ht
      exact k_isi c.K g1 (c.bl _ (by simp [bltNames])) k1 (c.bl _ hb.1) hb.2 k3 k2 (by decide +kernel) (sndE a c _ h4) (ns_of h4 _ _)
    · cases h
  | .isx a ty, s, X, E, c, e, h => by
    unfold chkE at h
    split at h
    · rename_i x p e1 y p2 pos
      simp only [Bool.and_eq_true, decide_eq_true_eq] at h
      obtain ⟨⟨⟨⟨⟨⟨h0, rfl⟩, h1⟩, rfl⟩, h2⟩, h3⟩, h4⟩ := h
      obtain ⟨g1, g2, g3⟩ := c.gl h1
      obtain ⟨k1, k2, k3⟩ := c.gl h2
      obtain ⟨a0, dd, x0, oe, C, ex, hp, hz, hf, Xf, Ec, hC, hno⟩ := c.ex h0
      simp only [semE, ex]
      rcases c.ix ty (by simpa using h3) with ⟨CT, hm, hk⟩ | ⟨t, hm, hbt, hk⟩
      · exact k_isx (c := .ref CT) Ec hp hz hf g1 (c.bl _ (by simp [bltNames])) (pe_glob k1 hm rfl k2) (fun u hu => hu) (fun b hb => hk x0 C b hC hb) (by decide +kernel) (sndE a c _ h4) (ns_of h4 _ _)
      · exact k_isx (c := .ty t) Ec hp hz hf g1 (c.bl _ (by simp [bltNames])) (pe_bltn k1 hm hbt rfl k3 k2) (fun u hu => hu) (fun b hb => hk x0 C b hC hb) (by decide +kernel) (sndE a c _ h4) (ns_of h4 _ _)
    · cases h
  | .mth mt o es, s, X, E, c, e, h => by
    unfold chkE at h
    split at h
    · rename_i e1 n apos l pos
      simp only [Bool.and_eq_true, decide_eq_true_eq] at h
      obtain ⟨⟨⟨⟨⟨rfl, h1⟩, h2⟩, h3⟩, h4⟩, h5⟩ := h
      simp only [semE]
      cases l with
      | nil =>
        have e0 := nil_of h5
        subst e0
        simp only [semEs, bind_ok]
        exact k_mth0 c.K (mt_pa mt) (mt_slot mt) (mt_ty mt) (mt_all c.K mt) (sndE o c _ h4) (base_of h3) h1
      | cons e2 l =>
        cases es with
        | nil => unfold chkEs at h5; cases h5
        | cons a1 es =>
          have h5' := h5
          unfold chkEs at h5
          simp only [Bool.and_eq_true] at h5
          refine k_mth c.K (mt_pa mt) (mt_slot mt) (mt_ty mt) (mt_all c.K mt) (sndE o c _ h4) (sndEs (.cons a1 es) c _ h5') (base_of h3) ?_ h1 (ns_of h5.1 _ _) (back_of pos _ h5.2)
          rw [few_of h5', show backToKw pos (keywordEach [] X.env) = [] from rfl]
          simpa using h2
    · cases h
  | .tup es, s, X, E, c, e, h => by
    unfold chkE at h
    split at h
    · simp only [Bool.and_eq_true, decide_eq_true_eq] at h
      simp only [semE]
      exact k_tup h.1 (fun r S ds S' k => semEs_len P es h.2 k) (sndEs es c _ h.2)
    · cases h
  | .lst es, s, X, E, c, e, h => by
    unfold chkE at h
    split at h
    · simp only [Bool.and_eq_true, decide_eq_true_eq] at h
      simp only [semE]
      exact k_lst h.1 (fun r S ds S' k => semEs_len P es h.2 k) (sndEs es c _ h.2)
    · cases h
  | .new es, s, X, E, c, e, h => by
    unfold chkE at h
    split at h
    · simp only [Bool.and_eq_true, decide_eq_true_eq] at h
      simp only [semE]
      exact k_new h.1 (fun r S ds S' k => semEs_len P es h.2 k) (sndEs es c _ h.2)
    · cases h
  | .ix a b, s, X, E, c, e, h => by
    unfold chkE at h
    split at h
    · simp only [Bool.and_eq_true] at h
      simp only [semE]
      exact k_ix c.K (sndE a c _ h.1) (sndE b c _ h.2) (plain_of h.2)
    · cases h
  | .sl a lo hi, s, X, E, c, e, h => by
    unfold chkE at h
    split at h
    · simp only [Bool.and_eq_true] at h
      simp only [semE]
      exact k_sl c.K (sndE a c _ h.1.1) (sndO lo c _ h.1.2) (sndO hi c _ h.2)
    · cases h
  | .comp trk own elt t it k, s, X, E, c, e, h => by
    unfold chkE at h
    split at h
    · rename_i e0 tg iter ifs scope pos
      simp only [Bool.and_eq_true] at h
      obtain ⟨⟨⟨⟨⟨⟨h0, h1⟩, h2⟩, h3⟩, h4⟩, h5⟩, h6⟩ := h
      have hk := (k_comp (trk := trk) (E := E) (own := ownOf s.N own) (t := t) c.K (c.calm h0) c.xnd (sndI it c tg iter h3) (by rw [c.N, c.sc]; exact blkOk_by h1) (by rw [ownOf_snd]; exact h2)
        (fun s0 H C cl fp => sndT (c.blk scope s0 H C cl fp) t tg h4) (fun s0 H C cl fp => sndC k (c.blk scope s0 H C cl fp) ifs h5) (fun s0 H C cl fp => sndE elt (c.blk scope s0 H C cl fp) e0 h6) (setJ it tg iter h3 _) (pos := pos)).1
      rw [ownOf_snd] at hk
      simp only [semE]
      exact hk
    · cases h
  | .comp2 trk own elt t it k own2 t2 it2 k2, s, X, E, c, e, h => by
    unfold chkE at h
    split at h
    · rename_i e0 tg iter ifs tg2 iter2 ifs2 scope pos
      simp only [Bool.and_eq_true] at h
      obtain ⟨⟨⟨⟨⟨⟨⟨⟨⟨⟨⟨h0, h1⟩, hv⟩, h2⟩, h2'⟩, h3⟩, h4⟩, h5⟩, h7⟩, h8⟩, h9⟩, h6⟩ := h
      have hk := (k_comp2 (trk := trk) (E := E) (own := ownOf s.N own) (t := t) (vs1 := own2) (t1 := t2) c.K (c.calm h0) c.xnd (sndI it c tg iter h3) (by rw [c.N, c.sc]; exact blkOk_by h1) (by rw [ownOf_snd]; simpa using hv) (by rw [ownOf_snd]; exact h2) h2'
        (fun s0 H C cl fp => sndT (c.blk scope s0 H C cl fp) t tg h4) (fun s0 H C cl fp => sndC k (c.blk scope s0 H C cl fp) ifs h5) (fun s0 H C cl fp => sndI it2 (c.blk scope s0 H C cl fp) tg2 iter2 h7)
        (fun s0 H C cl fp => sndT (c.blk scope s0 H C cl fp) t2 tg2 h8) (fun s0 H C cl fp => sndC k2 (c.blk scope s0 H C cl fp) ifs2 h9) (fun s0 H C cl fp => sndE elt (c.blk scope s0 H C cl fp) e0 h6) (setJ it tg iter h3 _) (setJ it2 tg2 iter2 h7) (pos := pos)).1
      rw [ownOf_snd] at hk
      simp only [semE]
      exact hk
    · cases h
  | .sset _ _ _ _ _ _ _, s, X, E, c, e, h => by unfold chkE at h; cases h
  | .ssrt _, s, X, E, c, e, h => by unfold chkE at h; cases h
  | .skey _, s, X, E, c, e, h => by unfold chkE at h; cases h
  | .fmt a, s, X, E, c, e, h => by
    unfold chkE at h
    split at h
    · simp only [Bool.and_eq_true, decide_eq_true_eq] at h
      obtain ⟨rfl, h⟩ := h
      simp only [semE]
      exact k_fmt (sndE a c _ h)
    · simp only [Bool.and_eq_true, decide_eq_true_eq] at h
      obtain ⟨rfl, h⟩ := h
      simp only [semE]
      exact k_joi1 (k_fmt (sndE a c _ h))
    · cases h
  | .joi es, s, X, E, c, e, h => by
    unfold chkE at h
    split at h
    · rename_i e1 e2 l pos
      simp only [Bool.and_eq_true, decide_eq_true_eq] at h
      simp only [semE]
      exact k_joi (by simp only [List.length_cons]; omega) (sndJ es c _ h.2)
    · cases h
  | .fld a n, s, X, E, c, e, h => by
    unfold chkE at h
    split at h
    · simp only [Bool.and_eq_true, decide_eq_true_eq] at h
      obtain ⟨⟨⟨h0, rfl⟩, h1⟩, h2⟩ := h
      obtain ⟨a0, dd, x0, oe, C, ex, hp, hz, hf, Xf, Ec, hC, hno⟩ := c.ex h0
      simp only [semE, ex, c.xf]
      exact k_fld Xf hno hp hz hf (sndE a c _ h2) (base_of h1)
    · cases h
theorem sndEs {T : Tb} {G : Gb} {P : Par} {m : Nat} : ∀ (es : Exs) {s : Sx} {X : Cx} {E : XK} (c : Cz T G P m s X E) (l : List Expr), chkEs T s es l = true → PA X l (TDs G E (semEs P es))
  | .nil, s, X, E, c, l, h => by
    unfold chkEs at h
    cases l with
    | nil => simp only [semEs]; exact k_nil
    | cons => cases h
  | .cons a es, s, X, E, c, l, h => by
    unfold chkEs at h
    split at h
    · simp only [Bool.and_eq_true] at h
      simp only [semEs]
      exact k_cons (sndE a c _ h.1) (sndEs es c _ h.2) (ns_of h.1 _ _)
    · cases h
theorem sndJ {T : Tb} {G : Gb} {P : Par} {m : Nat} : ∀ (es : Exs) {s : Sx} {X : Cx} {E : XK} (c : Cz T G P m s X E) (l : List Expr), chkEs T s es l = true → PJs X G E l (semJ P es)
  | .nil, s, X, E, c, l, h => by
    unfold chkEs at h
    cases l with
    | nil => unfold semJ; exact .nil
    | cons => cases h
  | .cons a es, s, X, E, c, l, h => by
    unfold chkEs at h
    split at h
    · simp only [Bool.and_eq_true] at h
      unfold semJ
      exact .cons (sndE a c _ h.1) (sndJ es c _ h.2)
    · cases h
theorem sndAnd {T : Tb} {G : Gb} {P : Par} {m : Nat} : ∀ (es : Exs) {s : Sx} {X : Cx} {E : XK} (c : Cz T G P m s X E) (l : List Expr) {pos : Pos}, chkEs T s es l = true → PE X (.BoolOp .And l pos) (TD G E (semAnd P es))
  | .nil, s, X, E, c, l, pos, h => by
    unfold semAnd
    exact ⟨fun pins s σ H Q I ⟨W, r, S, rel, p⟩ => p.no⟩
  | .cons a .nil, s, X, E, c, l, pos, h => by
    unfold chkEs at h
    split at h
    · rename_i e l
      simp only [Bool.and_eq_true] at h
      have h2 := h.2
      unfold chkEs at h2
      cases l with
      | nil => unfold semAnd; exact k_and1 (sndE a c _ h.1)
      | cons => cases h2
    · cases h
  | .cons a (.cons b es), s, X, E, c, l, pos, h => by
    unfold chkEs at h
    split at h
    · rename_i e l
      simp only [Bool.and_eq_true] at h
      have ih := sndAnd (.cons b es) c l (pos := pos) h.2
      have h2 := h.2
      unfold chkEs at h2
      cases l with
      | nil => cases h2
      | cons e2 l =>
        unfold semAnd
        exact k_and c.K (sndE a c _ h.1) ih
    · cases h
theorem sndOr {T : Tb} {G : Gb} {P : Par} {m : Nat} : ∀ (es : Exs) {s : Sx} {X : Cx} {E : XK} (c : Cz T G P m s X E) (l : List Expr) {pos : Pos}, chkEs T s es l = true → PE X (.BoolOp .Or l pos) (TD G E (semOr P es))
  | .nil, s, X, E, c, l, pos, h => by
    unfold semOr
    exact ⟨fun pins s σ H Q I ⟨W, r, S, rel, p⟩ => p.no⟩
  | .cons a .nil, s, X, E, c, l, pos, h => by
    unfold chkEs at h
    split at h
    · rename_i e l
      simp only [Bool.and_eq_true] at h
      have h2 := h.2
      unfold chkEs at h2
      cases l with
      | nil => unfold semOr; exact k_and1 (sndE a c _ h.1)
      | cons => cases h2
    · cases h
  | .cons a (.cons b es), s, X, E, c, l, pos, h => by
    unfold chkEs at h
    split at h
    · rename_i e l
      simp only [Bool.and_eq_true] at h
      have ih := sndOr (.cons b es) c l (pos := pos) h.2
      have h2 := h.2
      unfold chkEs at h2
      cases l with
      | nil => cases h2
      | cons e2 l =>
        unfold semOr
        exact k_or c.K (sndE a c _ h.1) ih
    · cases h
theorem sndO {T : Tb} {G : Gb} {P : Par} {m : Nat} : ∀ (o : Ox) {s : Sx} {X : Cx} {E : XK} (c : Cz T G P m s X E) (l : Option Expr), chkO T s o l = true → PO X l (DL.T G E repO (semO P o))
  | .none, s, X, E, c, l, h => by
    unfold chkO at h
    cases l with
    | none => unfold semO; exact k_o0
    | some => cases h
  | .some a, s, X, E, c, l, h => by
    unfold chkO at h
    split at h
    · unfold semO
      exact k_o1 (sndE a c _ h)
    · cases h
theorem sndC {T : Tb} {G : Gb} {P : Par} {m : Nat} : ∀ (o : Ox) {s : Sx} {X : Cx} {E : XK} (c : Cz T G P m s X E) (l : List Expr), chkC T s o l = true → PTs X l (TB G E (semC P o))
  | .none, s, X, E, c, l, h => by
    unfold chkC at h
    cases l with
    | nil => unfold semC; exact k_c0
    | cons => cases h
  | .some a, s, X, E, c, l, h => by
    unfold chkC at h
    split at h
    · unfold semC
      exact pts_one (sndB a c _ h)
    · cases h
theorem sndI {T : Tb} {G : Gb} {P : Par} {m : Nat} : ∀ (it : Itr) {s : Sx} {X : Cx} {E : XK} (c : Cz T G P m s X E) (tg e : Expr), chkI T s it tg e = true → PI X tg e (TIt G E (semI P it))
  | .plain a, s, X, E, c, tg, e, h => by
    unfold chkI at h
    simp only [Bool.and_eq_true] at h
    unfold semI
    exact k_plain c.K (sndE a c _ h.2)
  | .range1 a, s, X, E, c, tg, e, h => by
    unfold chkI at h
    split at h
    · simp only [Bool.and_eq_true, decide_eq_true_eq] at h
      obtain ⟨⟨rfl, h1⟩, h2⟩ := h
      unfold semI
      exact k_range1 (c.gl h1).1 (c.bl _ (by simp [bltNames])) (sndE a c _ h2) (ns_of h2 _ _)
    · cases h
  | .range2 a b, s, X, E, c, tg, e, h => by
    unfold chkI at h
    split at h
    · simp only [Bool.and_eq_true, decide_eq_true_eq] at h
      obtain ⟨⟨⟨rfl, h1⟩, h2⟩, h3⟩ := h
      unfold semI
      exact k_range2 (c.gl h1).1 (c.bl _ (by simp [bltNames])) (sndE a c _ h2) (sndE b c _ h3) (by rw [ns_of h2, ns_of h3]; rfl) (by rw [ns_of h3]; rfl)
    · cases h
  | .rev a, s, X, E, c, tg, e, h => by
    unfold chkI at h
    split at h
    · simp only [Bool.and_eq_true, decide_eq_true_eq] at h
      obtain ⟨⟨rfl, h1⟩, h2⟩ := h
      unfold semI
      exact k_rev c.K (c.gl h1).1 (c.bl _ (by simp [bltNames])) (sndE a c _ h2) (ns_of h2 _ _)
    · cases h
  | .enum a, s, X, E, c, tg, e, h => by
    unfold chkI at h
    split at h
    · simp only [Bool.and_eq_true, decide_eq_true_eq] at h
      obtain ⟨⟨⟨rfl, h1⟩, h3⟩, h2⟩ := h
      unfold isTup at h3
      split at h3
      · unfold semI
        exact k_enum c.K (c.gl h1).1 (c.bl _ (by simp [bltNames])) (sndE a c _ h2) (ns_of h2 _ _)
      · cases h3
    · cases h
  | .zip a b, s, X, E, c, tg, e, h => by
    unfold chkI at h
    split at h
    · simp only [Bool.and_eq_true, decide_eq_true_eq] at h
      obtain ⟨⟨⟨⟨rfl, h1⟩, h3⟩, h2⟩, h4⟩ := h
      unfold isTup at h3
      split at h3
      · unfold semI
        exact k_zip c.K (c.gl h1).1 (c.bl _ (by simp [bltNames])) (sndE a c _ h2) (sndE b c _ h4) (ns_of h2 _ _) (ns_of h4 _ _) (by rw [ns_of h4]; rfl)
      · cases h3
    · cases h
theorem sndB {T : Tb} {G : Gb} {P : Par} {m : Nat} : ∀ (a : Ex) {s : Sx} {X : Cx} {E : XK} (c : Cz T G P m s X E) (e : Expr), chkB T s a e = true → L2.PT X e (TB G E (semB P a))
  | .var i, s, X, E, c, e, h => by
    have hq : ∀ whole, isTrue e X.env whole = (do let v ← whole; standAt e.pos; holding [v] (truthy v)) := by
      unfold chkB at h
      split at h
      · intro _; rfl
      · cases h
    replace h : chkE T s (.var i) e = true := by
      unfold chkB at h
      unfold chkE
      exact h
    have hE : PE X e (TD G E (semE P (.var i))) := by
        unfold chkE at h
        split at h
        · simp only [Bool.and_eq_true, decide_eq_true_eq] at h
          obtain ⟨h1, h2⟩ := h
          obtain ⟨v1, v2, v3⟩ := c.vis h2
          simp only [semE]
          exact k_var (pe_var (by rw [c.N]; exact h1) v1 v2 v3)
        · cases h
    have hB : semB P (.var i) = fun r S => (semE P (.var i) r S).bind truD := by
      funext r S
      simp only [semB, semE]
      try rfl
    rw [hB]
    exact k_tru c.K hE hq
  | .bl b, s, X, E, c, e, h => by
    have hq : ∀ whole, isTrue e X.env whole = (do let v ← whole; standAt e.pos; holding [v] (truthy v)) := by
      unfold chkB at h
      split at h
      · intro _; rfl
      · cases h
    replace h : chkE T s (.bl b) e = true := by
      unfold chkB at h
      unfold chkE
      exact h
    have hE : PE X e (TD G E (semE P (.bl b))) := by
        unfold chkE at h
        split at h
        · simp only [decide_eq_true_eq] at h
          subst h
          simp only [semE]
          exact k_con pe_bl fun _ _ => mk_bl
        · cases h
    have hB : semB P (.bl b) = fun r S => (semE P (.bl b) r S).bind truD := by
      funext r S
      simp only [semB, semE]
      try rfl
    rw [hB]
    exact k_tru c.K hE hq
  | .call f es, s, X, E, c, e, h => by
    have hq : ∀ whole, isTrue e X.env whole = (do let v ← whole; standAt e.pos; holding [v] (truthy v)) := by
      unfold chkB at h
      split at h
      · intro _; rfl
      · cases h
    replace h : chkE T s (.call f es) e = true := by
      unfold chkB at h
      unfold chkE
      exact h
    have hE : PE X e (TD G E (semE P (.call f es))) := by
        unfold chkE at h
        split at h
        · rename_i x p l pos
          simp only [Bool.and_eq_true, decide_eq_true_eq] at h
          obtain ⟨⟨⟨h0, h1⟩, h2⟩, h3⟩ := h
          obtain ⟨g1, g2, g3⟩ := c.gl h2
          obtain ⟨a, hm, hf⟩ := c.dn _ _ h1
          obtain ⟨fd, ps, FO, hk, hb⟩ := c.FO f a hf
          simp only [semE]
          cases l with
          | nil =>
            have e0 := nil_of h3
            subst e0
            simp only [semEs, bind_ok]
            exact k_call0 FO (c.room h0) g1 hm hk hb c.ps g2
          | cons e1 l =>
            cases es with
            | nil => unfold chkEs at h3; cases h3
            | cons a1 es =>
              have h3' := h3
              unfold chkEs at h3
              simp only [Bool.and_eq_true] at h3
              exact k_call FO (c.room h0) g1 hm hk hb c.ps (sndEs (.cons a1 es) c _ h3') g2 (ns_of h3.1 _ _) (back_of pos _ h3.2)
        · cases h
    have hB : semB P (.call f es) = fun r S => (semE P (.call f es) r S).bind truD := by
      funext r S
      simp only [semB, semE]
      try rfl
    rw [hB]
    exact k_tru c.K hE hq
  | .callv i es, s, X, E, c, e, h => by
    have hq : ∀ whole, isTrue e X.env whole = (do let v ← whole; standAt e.pos; holding [v] (truthy v)) := by
      unfold chkB at h
      split at h
      · intro _; rfl
      · cases h
    replace h : chkE T s (.callv i es) e = true := by
      unfold chkB at h
      unfold chkE
      exact h
    have hE : PE X e (TD G E (semE P (.callv i es))) := by
        unfold chkE at h
        split at h
        · rename_i x p l pos
          simp only [Bool.and_eq_true, decide_eq_true_eq] at h
          obtain ⟨⟨⟨⟨h0, h1⟩, h2⟩, h4⟩, h3⟩ := h
          obtain ⟨v1, v2, v3⟩ := c.vis h2
          simp only [semE]
          cases l with
          | nil => cases h4
          | cons e1 l =>
            cases es with
            | nil => unfold chkEs at h3; cases h3
            | cons a1 es =>
              have h3' := h3
              unfold chkEs at h3
              simp only [Bool.and_eq_true] at h3
              exact k_callv c.FO (c.room h0) (by rw [c.N]; exact h1) v1 c.ps (sndEs (.cons a1 es) c _ h3') v2 v3 (ns_of h3.1 _ _) (back_of pos _ h3.2)
        · cases h
    have hB : semB P (.callv i es) = fun r S => (semE P (.callv i es) r S).bind truD := by
      funext r S
      simp only [semB, semE]
      try rfl
    rw [hB]
    exact k_tru c.K hE hq
  | .isi a ty, s, X, E, c, e, h => by
    have hq : ∀ whole, isTrue e X.env whole = (do let v ← whole; standAt e.pos; holding [v] (truthy v)) := by
      unfold chkB at h
      split at h
      · intro _; rfl
      · cases h
    replace h : chkE T s (.isi a ty) e = true := by
      unfold chkB at h
      unfold chkE
      exact h
    have hE : PE X e (TD G E (semE P (.isi a ty))) := by
        unfold chkE at h
        split at h
        · rename_i x p e1 y p2 pos
          simp only [Bool.and_eq_true, decide_eq_true_eq] at h
          obtain ⟨⟨⟨⟨⟨rfl, h1⟩, rfl⟩, h2⟩, h3⟩, h4⟩ := h
          obtain ⟨g1, g2, g3⟩ := c.gl h1
          obtain ⟨k1, k2, k3⟩ := c.gl h2
          simp only [semE]
          have ht : ty ∈ tys := by simpa using h3
          have hb : Str.ofString ty ∈ bltNames ∧ bootBuiltins (Str.ofString ty) = some (.type ty) := (show ∀ ty ∈ tys, Str.ofString ty ∈ bltNames ∧ bootBuiltins (Str.ofString ty) = some (.type ty) by decide +kernel) ty ht
          exact k_isi c.K g1 (c.bl _ (by simp [bltNames])) k1 (c.bl _ hb.1) hb.2 k3 k2 (by decide +kernel) (sndE a c _ h4) (ns_of h4 _ _)
        · cases h
    have hB : semB P (.isi a ty) = fun r S => (semE P (.isi a ty) r S).bind truD := by
      funext r S
      simp only [semB, semE]
      try rfl
    rw [hB]
    exact k_tru c.K hE hq
  | .isx a ty, s, X, E, c, e, h => by
    have hq : ∀ whole, isTrue e X.env whole = (do let v ← whole; standAt e.pos; holding [v] (truthy v)) := by
      unfold chkB at h
      split at h
      · intro _; rfl
      · cases h
    replace h : chkE T s (.isx a ty) e = true := by
      unfold chkB at h
      unfold chkE
      exact h
    have hE : PE X e (TD G E (semE P (.isx a ty))) := by
        unfold chkE at h
        split at h
        · rename_i x p e1 y p2 pos
          simp only [Bool.and_eq_true, decide_eq_true_eq] at h
          obtain ⟨⟨⟨⟨⟨⟨h0, rfl⟩, h1⟩, rfl⟩, h2⟩, h3⟩, h4⟩ := h
          obtain ⟨g1, g2, g3⟩ := c.gl h1
          obtain ⟨k1, k2, k3⟩ := c.gl h2
          obtain ⟨a0, dd, x0, oe, C, ex, hp, hz, hf, Xf, Ec, hC, hno⟩ := c.ex h0
          simp only [semE, ex]
          rcases c.ix ty (by simpa using h3) with ⟨CT, hm, hk⟩ | ⟨t, hm, hbt, hk⟩
          · exact k_isx (c := .ref CT) Ec hp hz hf g1 (c.bl _ (by simp [bltNames])) (pe_glob k1 hm rfl k2) (fun u hu => hu) (fun b hb => hk x0 C b hC hb) (by decide +kernel) (sndE a c _ h4) (ns_of h4 _ _)
          · exact k_isx (c := .ty t) Ec hp hz hf g1 (c.bl _ (by simp [bltNames])) (pe_bltn k1 hm hbt rfl k3 k2) (fun u hu => hu) (fun b hb => hk x0 C b hC hb) (by decide +kernel) (sndE a c _ h4) (ns_of h4 _ _)
        · cases h
    have hB : semB P (.isx a ty) = fun r S => (semE P (.isx a ty) r S).bind truD := by
      funext r S
      simp only [semB, semE]
      try rfl
    rw [hB]
    exact k_tru c.K hE hq
  | .mth mt o es, s, X, E, c, e, h => by
    have hq : ∀ whole, isTrue e X.env whole = (do let v ← whole; standAt e.pos; holding [v] (truthy v)) := by
      unfold chkB at h
      split at h
      · intro _; rfl
      · cases h
    replace h : chkE T s (.mth mt o es) e = true := by
      unfold chkB at h
      unfold chkE
      exact h
    have hE : PE X e (TD G E (semE P (.mth mt o es))) := by
        unfold chkE at h
        split at h
        · rename_i e1 n apos l pos
          simp only [Bool.and_eq_true, decide_eq_true_eq] at h
          obtain ⟨⟨⟨⟨⟨rfl, h1⟩, h2⟩, h3⟩, h4⟩, h5⟩ := h
          simp only [semE]
          cases l with
          | nil =>
            have e0 := nil_of h5
            subst e0
            simp only [semEs, bind_ok]
            exact k_mth0 c.K (mt_pa mt) (mt_slot mt) (mt_ty mt) (mt_all c.K mt) (sndE o c _ h4) (base_of h3) h1
          | cons e2 l =>
            cases es with
            | nil => unfold chkEs at h5; cases h5
            | cons a1 es =>
              have h5' := h5
              unfold chkEs at h5
              simp only [Bool.and_eq_true] at h5
              refine k_mth c.K (mt_pa mt) (mt_slot mt) (mt_ty mt) (mt_all c.K mt) (sndE o c _ h4) (sndEs (.cons a1 es) c _ h5') (base_of h3) ?_ h1 (ns_of h5.1 _ _) (back_of pos _ h5.2)
              rw [few_of h5', show backToKw pos (keywordEach [] X.env) = [] from rfl]
              simpa using h2
        · cases h
    have hB : semB P (.mth mt o es) = fun r S => (semE P (.mth mt o es) r S).bind truD := by
      funext r S
      simp only [semB, semE]
      try rfl
    rw [hB]
    exact k_tru c.K hE hq
  | .ix a b, s, X, E, c, e, h => by
    have hq : ∀ whole, isTrue e X.env whole = (do let v ← whole; standAt e.pos; holding [v] (truthy v)) := by
      unfold chkB at h
      split at h
      · intro _; rfl
      · cases h
    replace h : chkE T s (.ix a b) e = true := by
      unfold chkB at h
      unfold chkE
      exact h
    have hE : PE X e (TD G E (semE P (.ix a b))) := by
        unfold chkE at h
        split at h
        · simp only [Bool.and_eq_true] at h
          simp only [semE]
          exact k_ix c.K (sndE a c _ h.1) (sndE b c _ h.2) (plain_of h.2)
        · cases h
    have hB : semB P (.ix a b) = fun r S => (semE P (.ix a b) r S).bind truD := by
      funext r S
      simp only [semB, semE]
      try rfl
    rw [hB]
    exact k_tru c.K hE hq
  | .and es, s, X, E, c, e, h => by
    unfold chkB at h
    split at h
    · rename_i l pos
      simp only [Bool.and_eq_true] at h
      simp only [semB]
      cases l with
      | nil => cases h.1
      | cons e1 l => exact (sndAll es c (e1 :: l) (by simp) h.2).pt
    · cases h
  | .or es, s, X, E, c, e, h => by
    unfold chkB at h
    split at h
    · rename_i l pos
      simp only [Bool.and_eq_true] at h
      simp only [semB]
      cases l with
      | nil => cases h.1
      | cons e1 l => exact (sndAny es c (e1 :: l) (by simp) h.2).pt
    · cases h
  | .not a, s, X, E, c, e, h => by
    unfold chkB at h
    split at h
    · simp only [semB]
      exact k_notT (sndB a c _ h)
    · cases h
  | .ite k a b, s, X, E, c, e, h => by
    unfold chkB at h
    split at h
    · simp only [Bool.and_eq_true] at h
      simp only [semB]
      exact k_iteT (sndB k c _ h.1.1) (sndB a c _ h.1.2) (sndB b c _ h.2)
    · cases h
  | .cmp o a b, s, X, E, c, e, h => by
    unfold chkB at h
    split at h
    · simp only [Bool.and_eq_true, decide_eq_true_eq, Bool.not_eq_true'] at h
      obtain ⟨⟨⟨rfl, h0⟩, h1⟩, h2⟩ := h
      simp only [semB]
      exact k_cmpT (ops_co c o) (sndE a c _ h1) (sndE b c _ h2) h0
    · cases h
  | .chn o p a b d, s, X, E, c, e, h => by
    unfold chkB at h
    split at h
    · simp only [Bool.and_eq_true, decide_eq_true_eq, Bool.not_eq_true'] at h
      obtain ⟨⟨⟨⟨⟨rfl, rfl⟩, h0⟩, h1⟩, h2⟩, h3⟩ := h
      simp only [semB]
      exact k_chnT (ops_co c o) (ops_co c p) (sndE a c _ h1) (sndE b c _ h2) (sndE d c _ h3) h0
    · cases h
  | .int _, s, X, E, c, e, h => by unfold chkB at h; cases h
  | .str _, s, X, E, c, e, h => by unfold chkB at h; cases h
  | .non, s, X, E, c, e, h => by unfold chkB at h; cases h
  | .glo _, s, X, E, c, e, h => by unfold chkB at h; cases h
  | .fnv _, s, X, E, c, e, h => by unfold chkB at h; cases h
  | .bin _ _ _, s, X, E, c, e, h => by unfold chkB at h; cases h
  | .neg _, s, X, E, c, e, h => by unfold chkB at h; cases h
  | .blt _ _, s, X, E, c, e, h => by unfold chkB at h; cases h
  | .tup _, s, X, E, c, e, h => by unfold chkB at h; cases h
  | .lst _, s, X, E, c, e, h => by unfold chkB at h; cases h
  | .new _, s, X, E, c, e, h => by unfold chkB at h; cases h
  | .sl _ _ _, s, X, E, c, e, h => by unfold chkB at h; cases h
  | .comp _ _ _ _ _ _, s, X, E, c, e, h => by unfold chkB at h; cases h
  | .comp2 _ _ _ _ _ _ _ _ _ _, s, X, E, c, e, h => by unfold chkB at h; cases h
  | .sset _ _ _ _ _ _ _, s, X, E, c, e, h => by unfold chkB at h; cases h
  | .ssrt _, s, X, E, c, e, h => by unfold chkB at h; cases h
  | .skey _, s, X, E, c, e, h => by unfold chkB at h; cases h
  | .fmt _, s, X, E, c, e, h => by unfold chkB at h; cases h
  | .joi _, s, X, E, c, e, h => by unfold chkB at h; cases h
  | .fld _ _, s, X, E, c, e, h => by unfold chkB at h; cases h
theorem sndAll {T : Tb} {G : Gb} {P : Par} {m : Nat} : ∀ (es : Exs) {s : Sx} {X : Cx} {E : XK} (c : Cz T G P m s X E) (l : List Expr) {pos : Pos}, l ≠ [] → chkBs T s es l = true → PW X (.BoolOp .And l pos) (TB G E (semAll P es))
  | .nil, s, X, E, c, l, pos, hn, h => by
    unfold chkBs at h
    cases l with
    | nil => exact absurd rfl hn
    | cons => cases h
  | .cons a .nil, s, X, E, c, l, pos, hn, h => by
    unfold chkBs at h
    split at h
    · rename_i e l
      simp only [Bool.and_eq_true] at h
      have h2 := h.2
      unfold chkBs at h2
      cases l with
      | nil =>
        simp only [semAll]
        exact k_all0 (op := .And) (sndB a c _ h.1)
      | cons => cases h2
    · cases h
  | .cons a (.cons b es), s, X, E, c, l, pos, hn, h => by
    unfold chkBs at h
    split at h
    · rename_i e l
      simp only [Bool.and_eq_true] at h
      cases l with
      | nil =>
        have h2 := h.2
        unfold chkBs at h2
        cases h2
      | cons e2 l =>
        have ih := sndAll (.cons b es) c (e2 :: l) (pos := pos) (by simp) h.2
        unfold semAll
        exact k_all (sndB a c _ h.1) ih
    · cases h
theorem sndAny {T : Tb} {G : Gb} {P : Par} {m : Nat} : ∀ (es : Exs) {s : Sx} {X : Cx} {E : XK} (c : Cz T G P m s X E) (l : List Expr) {pos : Pos}, l ≠ [] → chkBs T s es l = true → PW X (.BoolOp .Or l pos) (TB G E (semAny P es))
  | .nil, s, X, E, c, l, pos, hn, h => by
    unfold chkBs at h
    cases l with
    | nil => exact absurd rfl hn
    | cons => cases h
  | .cons a .nil, s, X, E, c, l, pos, hn, h => by
    unfold chkBs at h
    split at h
    · rename_i e l
      simp only [Bool.and_eq_true] at h
      have h2 := h.2
      unfold chkBs at h2
      cases l with
      | nil =>
        simp only [semAny]
        exact k_any0 (op := .Or) (sndB a c _ h.1)
      | cons => cases h2
    · cases h
  | .cons a (.cons b es), s, X, E, c, l, pos, hn, h => by
    unfold chkBs at h
    split at h
    · rename_i e l
      simp only [Bool.and_eq_true] at h
      cases l with
      | nil =>
        have h2 := h.2
        unfold chkBs at h2
        cases h2
      | cons e2 l =>
        have ih := sndAny (.cons b es) c (e2 :: l) (pos := pos) (by simp) h.2
        unfold semAny
        exact k_any (sndB a c _ h.1) ih
    · cases h
end
end DL
set_option Elab.async false
set_option linter.all false
set_option maxRecDepth 100000
set_option maxHeartbeats 8000000
/-! DL21: the small syntax of statements, its meaning, whether it is a statement's. -/
namespace DL
open PySem PySem.Spec PyProof.Rows L2

mutual
inductive Sm where
  | expr (e : Ex)
  | doc
  | ret (e : Ex)
  | ret0
  | pass
  | brk
  | cont
  | ifs (c : Ex) (a b : Sms)
  | asg (t : Tg) (e : Ex)
  | asg2 (t u : Tg) (e : Ex)
  | par (i j : Nat) (a b : Ex)
  | par3 (i j k : Nat) (a b c : Ex)
  | set (o i e : Ex)
  | aug (i : Nat) (plus : Bool) (e : Ex)
  | whl (c : Ex) (b : Sms)
  | forr (t : Tg) (it : Itr) (b : Sms)
  | rais (x : Nat) (es : Exs)
  | trys (h : Str) (i : Option Nat) (b su : Sms)
inductive Sms where
  | nil
  | cons (a : Sm) (b : Sms)
end
def augF (plus : Bool) : D → D → Sto → Re D := if plus then fIadd else fSub
mutual
noncomputable def semS : Sm → Par → MS
  | .expr e, P => fun r S => (semE P e r S).to fun _ S1 => .nx r S1
  | .doc, P => fun r S => .nx r S
  | .ret e, P => fun r S => (semE P e r S).to fun d S1 => .ret d S1
  | .ret0, P => fun r S => .ret .non S
  | .pass, P => fun r S => .nx r S
  | .brk, P => fun r S => .brk r S
  | .cont, P => fun r S => .ct r S
  | .ifs c a b, P => fun r S => (semB P c r S).to fun k S1 => if k then semSs a P r S1 else semSs b P r S1
  | .asg t e, P => fun r S => (semE P e r S).to fun d S1 => asgS t d r S1
  | .asg2 t u e, P => fun r S => (semE P e r S).to fun d S1 => (asgS t d r S1).seq fun r2 S2 => asgS u d r2 S2
  | .par i j a b, P => fun r S => (semEs P (.cons a (.cons b .nil)) r S).to fun ds S1 => match ds with
    | [d1, d2] => .nx ((r.set i (some d1)).set j (some d2)) S1
    | _ => .bad
  | .par3 i j k a b c, P => fun r S => (semEs P (.cons a (.cons b (.cons c .nil))) r S).to fun ds S1 => match ds with
    | [d1, d2, d3] => .nx (((r.set i (some d1)).set j (some d2)).set k (some d3)) S1
    | _ => .bad
  | .set o i e, P => fun r S => (semE P e r S).to fun x S1 => (semE P o r S1).to fun d S2 => (semE P i r S2).to fun k S3 => (fSet d k x S3).to fun _ S4 => .nx r S4
  | .aug i plus e, P => fun r S => match r[i]? with
    | some (some d) => (semE P e r S).to fun y S1 => (augF plus d y S1).to fun z S2 => .nx (r.set i (some z)) S2
    | _ => .bad
  | .whl c b, P => fun r S => whileG (semB P c) (semSs b P) P.fuel r S
  | .forr t it b, P => fun r S => (semI P it r S).to fun w S1 => forG w.2 t (semSs b P) w.1 r S1
  | .rais x es, P => fun r S => (semEs P es r S).to fun ds S1 => match P.mke x ds with
    | some fs => .err x fs S1
    | none => .bad
  | .trys h i b su, P => fun r S => tryR (semSs b P r S) (P.exm h) i (fun a dd x => semSs su { P with ex := some (a, dd, x) })
noncomputable def semSs : Sms → Par → MS
  | .nil, P => fun r S => .nx r S
  | .cons a b, P => fun r S => (semS a P r S).seq (semSs b P)
end

/-! ### matching -/
def notComp : Expr → Bool
  | .ListComp _ _ _ _ => false
  | .SetComp _ _ _ _ => false
  | .DictComp _ _ _ _ _ => false
  | _ => true
/-- the store happens inside the comprehension -/
def swapB (s : Sx) (tg e : Expr) : Bool := match e, tg with
  | .ListComp _ _ scope pos, .Name t p => (s.sc.names.lookup t == some .local && p.line == pos.line) && !(scope.names.any fun (n, k) => n == t && (k == .local || k == .cell))
  | _, _ => false
/-- a tuple of targets is stored in its order -/
def plainSt (s : Sx) (tg e : Expr) : Bool := match tg, e with
  | .Tuple ts _ _, .Tuple vs _ _ => !(ts.length == 2 || ts.length == 3) || vs.length != ts.length || vs.all (foldedForSure 8) && !(vs.any fun | .Starred .. => true | _ => false)
  | .List _ _, _ => false
  | _, _ => true
def isNm : Expr → Bool
  | .Name _ _ => true
  | _ => false
mutual
def chkS (T : Tb) (s : Sx) : Sm → Stmt → Bool
  | .expr a, st => match st with
    | .Expr e _ => notComp e && chkE T s a e
    | _ => false
  | .doc, st => match st with
    | .Expr (.Constant (.str _) _ _) _ => true
    | _ => false
  | .ret a, st => match st with
    | .Return (some e) _ => chkE T s a e
    | _ => false
  | .ret0, st => match st with
    | .Return none _ => true
    | _ => false
  | .pass, st => match st with
    | .Pass _ => true
    | _ => false
  | .brk, st => match st with
    | .Break _ => true
    | _ => false
  | .cont, st => match st with
    | .Continue _ => true
    | _ => false
  | .ifs c a b, st => match st with
    | .If e l1 l2 _ => chkB T s c e && chkSs T s a l1 && chkSs T s b l2
    | _ => false
  | .asg t a, st => match st with
    | .Assign [tg] e _ => chkT s t tg && chkE T s a e && plainSt s tg e
    | _ => false
  | .asg2 t u a, st => match st with
    | .Assign [t1, t2] e _ => chkT s t t1 && chkT s u t2 && chkE T s a e && notComp e
    | _ => false
  | .par i j a b, st => match st with
    | .Assign [.Tuple [.Name x p1, .Name y p2] _ _] (.Tuple [e1, e2] _ _) _ => s.calm && decide (s.N[i]? = some x) && decide (s.N[j]? = some y) && decide (i ≠ j) && decide (s.sc.names.lookup x = some .local) && decide (s.sc.names.lookup y = some .local)
        && p1.line == p2.line && !(foldedForSure 8 e1 && foldedForSure 8 e2) && !(constantsAlone 8 e1 && constantsAlone 8 e2) && chkE T s a e1 && chkE T s b e2
    | _ => false
  | .par3 i j k a b d, st => match st with
    | .Assign [.Tuple [.Name x p1, .Name y p2, .Name z p3] _ _] (.Tuple [e1, e2, e3] _ _) _ => s.calm && decide (s.N[i]? = some x) && decide (s.N[j]? = some y) && decide (s.N[k]? = some z) && decide (i ≠ j) && decide (i ≠ k) && decide (j ≠ k)
        && decide (s.sc.names.lookup x = some .local) && decide (s.sc.names.lookup y = some .local) && decide (s.sc.names.lookup z = some .local)
        && p1.line == p2.line && p1.line == p3.line && !(foldedForSure 8 e1 && (foldedForSure 8 e2 && foldedForSure 8 e3)) && !(constantsAlone 8 e1 && (constantsAlone 8 e2 && constantsAlone 8 e3)) && chkE T s a e1 && chkE T s b e2 && chkE T s d e3
    | _ => false
  | .set o i a, st => match st with
    | .Assign [.Subscript e1 e2 _] e _ => chkE T s a e && chkE T s o e1 && chkE T s i e2
    | _ => false
  | .aug i plus a, st => match st with
    | .AugAssign (.Name x _) op e _ => decide (s.N[i]? = some x) && isSto s x && decide (op = if plus then .Add else .Sub) && chkE T s a e
    | _ => false
  | .whl c b, st => match st with
    | .While e l [] _ => s.calm && chkB T s c e && chkSs T s b l
    | _ => false
  | .forr t it b, st => match st with
    | .For tg e l [] _ => s.calm && chkI T s it tg e && chkT s t tg && chkSs T s b l
    | _ => false
  | .rais x es, st => match st with
    | .Raise (some (.Call (.Name y _) l [] _)) none _ => s.calm && decide (T.cn x = some y) && isGl s y && !l.isEmpty && chkEs T s es l
    | _ => false
  | .trys h i b su, st => match st with
    | .Try body [.ExceptHandler (some (.Name y _)) nm (s0 :: suite) _] [] [] _ => s.calm && !s.exn && T.hn.contains h && decide (h = y) && isGl s y && (match i, nm with
        | none, none => true
        | some i, some n => decide (s.N[i]? = some n) && decide (s.sc.names.lookup n = some .local)
        | _, _ => false) && chkSs T s b body && chkSs T { s with calm := false, exn := true } su (s0 :: suite)
    | _ => false
def chkSs (T : Tb) (s : Sx) : Sms → List Stmt → Bool
  | .nil, l => l.isEmpty
  | .cons a b, l => match l with
    | st :: l => chkS T s a st && chkSs T s b l
    | [] => false
end
end DL
set_option Elab.async false
set_option linter.all false
set_option maxRecDepth 100000
set_option maxHeartbeats 8000000
/-! DL22: soundness of the small syntax, statements. -/
namespace DL
open PySem PySem.Spec PyProof.Rows L2

/-- what is told of an error class -/
structure ClX (T : Tb) (G : Gb) (P : Par) (prog : Program) (w : World) (K : PySem.W.Frag) (mg : Str → Option Value) (base : Heap) : Prop where
  mkx : ∀ x y, T.cn x = some y → ∃ C fI fd ek, G.ca x = some C ∧ mg y = some (.ref C) ∧ G.xf x = ek.names ∧ P.mke x = mkD ek ∧ OexC K C ∧ PySem.W.findIn K (.ref C) "__init__" = some (some (.ref fI)) ∧ PySem.W.typeIn K (.ref fI) = some (.type "function") ∧
    FnOk prog w K mg base (L2.CX prog w) 1 fI fd ek.ps (spX K C ek) ∧ Binds K fd ek.ps []
  hn : ∀ h ∈ T.hn, ∃ c, (mg h = some c ∨ (mg h = none ∧ bootBuiltins h = some c ∧ h ≠ "__name__")) ∧ ∀ x C b, G.ca x = some C → P.exm h x = some b → PySem.W.exmOne K (.ref C) c = some b
  at_ : ∀ x C, G.ca x = some C → XfC K C ∧ ExcC K C ∧ ∀ n ∈ G.xf x, PySem.W.findIn K (.ref C) n = some none
structure Czs (T : Tb) (G : Gb) (P : Par) (m : Nat) (s : Sx) (X : Cx) (E : XK) : Prop where
  c : Cz T G P m s X E
  cl : ClX T G P X.prog X.w X.K X.mg X.base
  po : s.calm = true → PassesOwn (model X.prog X.w) X.A X.env X.xe
  bk : X.env.blockKind = .function
  st : X.stack = X.env :: X.outer
  fr : X.env.frame = some X.env.locals
  rm : 2 ≤ m
section
variable {T : Tb} {G : Gb} {P : Par} {m : Nat} {s : Sx} {X : Cx} {E : XK}
theorem Czs.suite (c : Czs T G P m s X E) {a dd x : Nat} {oe : Obj} {C : Addr} {pn : List (Addr × Obj)} (hC : G.ca x = some C) (hz : Zc (.ref C) (some dd) oe) (hf : ∃ vs, oe.data = .fields vs) :
    Czs T G { P with ex := some (a, dd, x) } m { s with calm := false, exn := true } (X.suite a ((a, oe) :: pn)) (fun _ _ _ => False) where
  c := {
    K := c.c.K
    N := c.c.N
    nd := c.c.nd
    sc := c.c.sc
    fn := c.c.fn
    calm := fun h => nomatch h
    room := fun h => nomatch h
    un := c.c.un
    tk := fun _ _ x => by
      obtain ⟨_, _, _, _, _, _, _, _, _, _, _, _, _, _, _, _, z⟩ := x
      exact z.elim
    FO := c.c.FO
    dn := c.c.dn
    gc := c.c.gc
    bl := c.c.bl
    xf := c.c.xf
    ix := c.c.ix
    ex := fun _ => by
      obtain ⟨h1, h2, h3⟩ := c.cl.at_ x C hC
      exact ⟨a, dd, x, oe, C, rfl, List.mem_cons_self, hz, hf, h1, h2, hC, h3⟩ }
  cl := ⟨c.cl.mkx, c.cl.hn, c.cl.at_⟩
  po := fun h => nomatch h
  bk := c.bk
  st := c.st
  fr := c.fr
  rm := c.rm
theorem Czs.tr (c : Czs T G P m s X E) {E' : XK} {pn : List (Addr × Obj)} {xe : Value → Shared → Prop} (tk : Takes (X.tr pn xe) fun c d _ H => E' c d H) (po : PassesOwn (model X.prog X.w) X.A X.env xe) (hx : s.exn = false) : Czs T G P m s (X.tr pn xe) E' where
  c := { K := c.c.K, N := c.c.N, nd := c.c.nd, sc := c.c.sc, fn := c.c.fn, calm := c.c.calm, room := c.c.room, un := c.c.un, tk := tk, FO := c.c.FO, dn := c.c.dn, gc := c.c.gc, bl := c.c.bl, xf := c.c.xf, ix := c.c.ix, ex := fun h => by rw [hx] at h; cases h }
  cl := c.cl
  po := fun _ => po
  bk := c.bk
  st := c.st
  fr := c.fr
  rm := c.rm
theorem swap_eq (c : Czs T G P m s X E) {a : Ex} {tg e : Expr} (h : chkE T s a e = true) (line : Nat) : swapsWithSole [tg] e line X.env = pure (swapB s tg e) := by
  show swapsWith e (some tg) line X.env = _
  cases e with
  | ListComp e0 gens scope pos =>
    cases tg with
    | Name t p =>
      unfold swapsWith swapB
      have e1 : (X.env.blockKind == ScopeKind.function) = true := by rw [c.bk]; rfl
      have e2 : X.env.kindOf t = s.sc.names.lookup t := by
        show X.env.scope.names.lookup t = _
        rw [c.c.sc]
      simp only [e1, e2, Bool.true_and]
      rfl
    | _ => rfl
  | SetComp _ _ _ _ => cases a <;> simp [chkE] at h
  | DictComp _ _ _ _ _ => cases a <;> simp [chkE] at h
  | _ => rfl
theorem plain_st {tg e : Expr} {env : Env} (h : plainSt s tg e = true) : swappedStores [tg] e env = pure none := by
  cases tg with
  | Tuple ts k1 p1 =>
    cases e with
    | Tuple vs k2 p2 =>
      unfold plainSt at h
      unfold swappedStores
      simp only [Bool.or_eq_true, Bool.and_eq_true] at h
      dsimp only
      split
      · rfl
      · rename_i hn
        have hv : vs.all (foldedForSure 8) = true ∧ (!(vs.any fun | .Starred .. => true | _ => false)) = true := by
          rcases h with (h | h) | h
          · exact absurd (by simp only [h, Bool.true_or]) hn
          · exact absurd (by simp only [h, Bool.true_or, Bool.or_true]) hn
          · exact h
        split
        · rfl
        · split
          · rfl
          · rw [if_pos hv.1]
    | _ => rfl
  | List _ _ => unfold plainSt at h; cases e <;> cases h
  | _ => rfl
theorem nostar_of {a : Ex} {e : Expr} (h : chkE T s a e = true) (v : Expr) (p : Pos) : e ≠ .Starred v p := fun z => by
  subst z
  cases a <;> simp [chkE] at h
theorem erase2 {x y : Str} (h : x ≠ y) : [x, y].eraseDups = [x, y] := by
  have h' : ¬ y = x := fun z => h z.symm
  simp [List.eraseDups_cons, h']
theorem erase3 {x y z : Str} (h : x ≠ y) (h2 : x ≠ z) (h3 : y ≠ z) : [x, y, z].eraseDups = [x, y, z] := by
  have h' : ¬ y = x := fun z => h z.symm
  have h2' : ¬ z = x := fun z => h2 z.symm
  have h3' : ¬ z = y := fun z => h3 z.symm
  simp [List.eraseDups_cons, h', h2', h3']
theorem kind_of (c : Czs T G P m s X E) (x : Str) : X.env.kindOf x = s.sc.names.lookup x := by
  show X.env.scope.names.lookup x = _
  rw [c.c.sc]
theorem swap2 (c : Czs T G P m s X E) {a b : Ex} {e1 e2 : Expr} {x y : Str} {p1 p2 pt pt2 : Pos} {kt k2 : Nat} (h1 : chkE T s a e1 = true) (h2 : chkE T s b e2 = true) (hxy : x ≠ y) (hx : s.sc.names.lookup x = some .local) (hy : s.sc.names.lookup y = some .local)
    (hp : (p1.line == p2.line) = true) (hf : (foldedForSure 8 e1 && foldedForSure 8 e2) = false) (hc : (constantsAlone 8 e1 && constantsAlone 8 e2) = false) :
    swappedStores [.Tuple [.Name x p1, .Name y p2] kt pt] (.Tuple [e1, e2] k2 pt2) X.env = pure (some [x, y]) := by
  have hp' : (p2.line == p1.line) = true := by
    rw [beq_iff_eq] at hp ⊢
    exact hp.symm
  have q1 := nostar_of h1
  have q2 := nostar_of h2
  unfold swappedStores
  simp only [List.length_cons, List.length_nil, c.bk, List.any_cons, List.any_nil, List.all_cons, List.all_nil, Bool.and_true, Bool.or_false, hf, hc, List.head?_cons, Option.map_some, Option.getD_some, Expr.pos, List.filterMap_cons, List.filterMap_nil, kind_of c, hx, hy, hp']
  simp [erase2 hxy]
theorem swap3 (c : Czs T G P m s X E) {a b d : Ex} {e1 e2 e3 : Expr} {x y z : Str} {p1 p2 p3 pt pt2 : Pos} {kt k2 : Nat} (h1 : chkE T s a e1 = true) (h2 : chkE T s b e2 = true) (h3 : chkE T s d e3 = true) (hxy : x ≠ y) (hxz : x ≠ z) (hyz : y ≠ z)
    (hx : s.sc.names.lookup x = some .local) (hy : s.sc.names.lookup y = some .local) (hz : s.sc.names.lookup z = some .local)
    (hp : (p1.line == p2.line) = true) (hp2 : (p1.line == p3.line) = true) (hf : (foldedForSure 8 e1 && (foldedForSure 8 e2 && foldedForSure 8 e3)) = false) (hc : (constantsAlone 8 e1 && (constantsAlone 8 e2 && constantsAlone 8 e3)) = false) :
    swappedStores [.Tuple [.Name x p1, .Name y p2, .Name z p3] kt pt] (.Tuple [e1, e2, e3] k2 pt2) X.env = pure (some [x, y, z]) := by
  have hp' : (p2.line == p1.line) = true := by
    rw [beq_iff_eq] at hp ⊢
    exact hp.symm
  have hp2' : (p3.line == p1.line) = true := by
    rw [beq_iff_eq] at hp2 ⊢
    exact hp2.symm
  have q1 := nostar_of h1
  have q2 := nostar_of h2
  have q3 := nostar_of h3
  unfold swappedStores
  simp only [List.length_cons, List.length_nil, c.bk, List.any_cons, List.any_nil, List.all_cons, List.all_nil, Bool.and_true, Bool.or_false, hf, hc, List.head?_cons, Option.map_some, Option.getD_some, Expr.pos, List.filterMap_cons, List.filterMap_nil, kind_of c, hx, hy, hz, hp', hp2']
  simp [erase3 hxy hxz hyz]
end
end DL
set_option Elab.async false
set_option linter.all false
set_option maxRecDepth 100000
set_option maxHeartbeats 16000000
/-! DL23: soundness of the small syntax, statements: the theorem. -/
namespace DL
open PySem PySem.Spec PyProof.Rows L2
section
variable {T : Tb} {G : Gb} {P : Par} {m : Nat} {s : Sx} {X : Cx} {E : XK}
theorem nd_ne (c : Czs T G P m s X E) {i j : Nat} {x y : Str} (hi : s.N[i]? = some x) (hj : s.N[j]? = some y) (h : i ≠ j) : x ≠ y := fun z => by
  subst z
  obtain ⟨l1, e1⟩ := List.getElem?_eq_some_iff.mp hi
  obtain ⟨l2, e2⟩ := List.getElem?_eq_some_iff.mp hj
  exact h ((List.getElem_inj c.c.nd).mp (e1.trans e2.symm))
theorem k_par3 {i j k : Nat} {x y z : Str} {e1 e2 e3 : Expr} {px py pz pt pos : Pos} {kt k2 : Nat} {pt2 : Pos} {f : M (List DL.D)} (hc : X.calm = true) (hN : X.N.Nodup) (hi : X.N[i]? = some x) (hj : X.N[j]? = some y) (hk : X.N[k]? = some z) (hij : i ≠ j) (hik : i ≠ k) (hjk : j ≠ k)
    (hx : X.env.scope.names.lookup x = some .local) (hy : X.env.scope.names.lookup y = some .local) (hz : X.env.scope.names.lookup z = some .local) (ha : PA X [e1, e2, e3] (TDs G E f))
    (hw : swappedStores [.Tuple [.Name x px, .Name y py, .Name z pz] kt pt] (.Tuple [e1, e2, e3] k2 pt2) X.env = pure (some [x, y, z])) (hs : swapsWithSole [.Tuple [.Name x px, .Name y py, .Name z pz] kt pt] (.Tuple [e1, e2, e3] k2 pt2) pos.line X.env = pure false) :
    PS X (.Assign [.Tuple [.Name x px, .Name y py, .Name z pz] kt pt] (.Tuple [e1, e2, e3] k2 pt2) pos) (TSm G E fun r S => (f r S).to fun ds S1 => match ds with
      | [d1, d2, d3] => .nx (((r.set i (some d1)).set j (some d2)).set k (some d3)) S1
      | _ => .bad) :=
  PS.imp (ps_par3 hc hN hi hj hk hij hik hjk hx hy hz ha hw hs) fun D q H h => DL.T.imp (TSm.seq (p := Rps G) h) fun vs H1 ⟨W, r, S, ds, rel, rx, k⟩ => by
    split at k
    · obtain ⟨v, t, rfl, r1, rt⟩ := Rps.cons_iff.mp rx
      obtain ⟨u, w, rfl, r2, r3⟩ := rt.two_inv
      exact ⟨v, u, w, rfl, k.nxd ⟨((rel.sl.set i r1).set j r2).set _ r3, rel.st⟩⟩
    · exact k.no
theorem k_asg2 {t1 t2 e : Expr} {t u : Tg} {fa : M DL.D} {pos : Pos} (ha : PE X e (TD G E fa)) (h1 : PG X t1 (gOf G t)) (h2 : PG X t2 (gOf G u)) (hA : (assignEach [t1, t2] X.env).map (·.2) = [assign t1 X.env, assign t2 X.env]) (hw : swappedStores [t1, t2] e X.env = pure none) :
    PS X (.Assign [t1, t2] e pos) (TSm G E fun r S => (fa r S).to fun d S1 => (asgS t d r S1).seq fun r2 S2 => asgS u d r2 S2) :=
  PS.imp (ps_asg2 ha h1 h2 hA hw) fun D q H h => DL.T.imp (TSm.seq (p := Rp G) h) fun v H1 ⟨W, r, S, x, rel, rx, k⟩ => by
    unfold asgS at k
    cases e1 : asg t x r with
    | none => rw [e1] at k; exact k.no
    | some r2 =>
      rw [e1] at k
      simp only [seq_nx] at k
      refine ⟨W, r, S, x, r2, rel, rx, e1, fun q2 sl _ => ?_⟩
      cases e2 : asg u x r2 with
      | none => rw [e2] at k; exact k.no
      | some r3 =>
        rw [e2] at k
        exact ⟨W, r2, S, x, r3, ⟨sl, rel.st⟩, rx, e2, fun q3 sl3 _ => k.nxd ⟨sl3, rel.st⟩⟩
theorem k_expr' {e : Expr} {fa : M DL.D} {pos : Pos} (ha : PE X e (TD G E fa)) (h : notComp e = true) : PS X (.Expr e pos) (TSm G E fun r S => (fa r S).to fun _ S1 => .nx r S1) :=
  k_expr ha (by cases e <;> first | rfl | (unfold notComp at h; cases h))
/-- x = [..], the store inside the comprehension -/
theorem lc_imp {i : Nat} {t1 : TE} {fa : M DL.D} {D : Ends} {q : L2.St} {H : Hp} (hk : ∀ q H Q, TD G E fa q H Q → t1 q H Q) (h : TSm G E (fun r S => (fa r S).to fun d S1 => asgS (.name i) d r S1) D q H) : tAsg t1 (gName i) D q H := by
  have h2 := asg_of h
  refine hk _ _ _ (DL.T.imp h2 fun v H1 h3 => ?_)
  obtain ⟨W, r, S, d, r2, rel, rd, ea, k⟩ := h3
  simp only [asg, Option.some.injEq] at ea
  subst ea
  exact k _ (rel.sl.set i rd) fun vs h => wipe_set (by simpa [tgIn] using h)
theorem snd_asg (c : Czs T G P m s X E) {t : Tg} {a : Ex} {tg e : Expr} {pos : Pos} (h1 : chkT s t tg = true) (h2 : chkE T s a e = true) (h3 : plainSt s tg e = true) : PS X (.Assign [tg] e pos) (TSm G E fun r S => (semE P a r S).to fun d S1 => asgS t d r S1) := by
  cases hsw : swapB s tg e with
  | false =>
    exact k_asg (sndE a c.c e h2) (sndT c.c t tg h1) (by rw [swap_eq c h2, hsw]) (plain_st h3) (by rw [asE_cons t tg [] h1]; rfl)
  | true =>
    unfold swapB at hsw
    split at hsw
    · rename_i e0 gens scope epos x p
      have hq := swap_eq c (tg := .Name x p) h2 pos.line
      have hsw' : swapB s (.Name x p) (.ListComp e0 gens scope epos) = true := hsw
      rw [hsw'] at hq
      simp only [Bool.and_eq_true, beq_iff_eq] at hsw
      have hxl : X.env.scope.names.lookup x = some .local := by
        rw [c.c.sc]
        exact hsw.1.1
      cases t with
      | tup ts => unfold chkT at h1; cases h1
      | name i =>
        unfold chkT at h1
        simp only [Bool.and_eq_true, decide_eq_true_eq] at h1
        have hi : X.N[i]? = some x := by rw [c.c.N]; exact h1.1
        cases a with
        | comp trk own elt t it k =>
          unfold chkE at h2
          split at h2
          · rename_i e1 tg iter ifs scope1 pos1 heq
            cases heq
            simp only [Bool.and_eq_true] at h2
            obtain ⟨⟨⟨⟨⟨⟨h0, h1'⟩, h2'⟩, h3'⟩, h4⟩, h5⟩, h6⟩ := h2
            have ok : BlkOk X.N X.env.scope scope (ownOf s.N own) := by rw [c.c.N, c.c.sc]; exact blkOk_by h1'
            have hk := (k_comp (trk := trk) (E := E) (own := ownOf s.N own) (t := t) c.c.K (c.c.calm h0) c.c.xnd (sndI it c.c tg iter h3') ok (by rw [ownOf_snd]; exact h2')
              (fun s0 H C cl fp => sndT (c.c.blk scope s0 H C cl fp) t tg h4) (fun s0 H C cl fp => sndC k (c.c.blk scope s0 H C cl fp) ifs h5) (fun s0 H C cl fp => sndE elt (c.c.blk scope s0 H C cl fp) e0 h6) (setJ it tg iter h3' _) (pos := epos)).2
            refine PS.imp (ps_setLc (c.c.calm h0) c.c.xnd hi hxl hq (sndI it c.c tg iter h3') ok (fun s0 H C cl fp => sndT (c.c.blk scope s0 H C cl fp) t tg h4) (fun s0 H C cl fp => sndC k (c.c.blk scope s0 H C cl fp) ifs h5)
              (fun s0 H C cl fp => sndE elt (c.c.blk scope s0 H C cl fp) e0 h6) (setJ it tg iter h3' _)) fun D q H h => lc_imp (fun q H Q hh => hk q H Q ?_) h
            rw [ownOf_snd]
            simp only [semE] at hh
            exact hh
          · cases h2
        | comp2 trk own elt t it k own2 t2 it2 k2 =>
          unfold chkE at h2
          split at h2
          · rename_i e1 tg iter ifs tg2 iter2 ifs2 scope1 pos1 heq
            cases heq
            simp only [Bool.and_eq_true] at h2
            obtain ⟨⟨⟨⟨⟨⟨⟨⟨⟨⟨⟨h0, h1'⟩, hv⟩, h2'⟩, h2''⟩, h3'⟩, h4⟩, h5⟩, h7⟩, h8⟩, h9⟩, h6⟩ := h2
            have ok : BlkOk X.N X.env.scope scope (ownOf s.N own) := by rw [c.c.N, c.c.sc]; exact blkOk_by h1'
            have hv' : ∀ i ∈ own2, i ∈ (ownOf s.N own).map (·.2) := by rw [ownOf_snd]; simpa using hv
            have hk := (k_comp2 (trk := trk) (E := E) (own := ownOf s.N own) (t := t) (vs1 := own2) (t1 := t2) c.c.K (c.c.calm h0) c.c.xnd (sndI it c.c tg iter h3') ok hv' (by rw [ownOf_snd]; exact h2') h2''
              (fun s0 H C cl fp => sndT (c.c.blk scope s0 H C cl fp) t tg h4) (fun s0 H C cl fp => sndC k (c.c.blk scope s0 H C cl fp) ifs h5) (fun s0 H C cl fp => sndI it2 (c.c.blk scope s0 H C cl fp) tg2 iter2 h7)
              (fun s0 H C cl fp => sndT (c.c.blk scope s0 H C cl fp) t2 tg2 h8) (fun s0 H C cl fp => sndC k2 (c.c.blk scope s0 H C cl fp) ifs2 h9) (fun s0 H C cl fp => sndE elt (c.c.blk scope s0 H C cl fp) e0 h6) (setJ it tg iter h3' _) (setJ it2 tg2 iter2 h7) (pos := epos)).2
            refine PS.imp (ps_setLc2 (c.c.calm h0) c.c.xnd hi hxl hq (sndI it c.c tg iter h3') ok hv' (fun s0 H C cl fp => sndT (c.c.blk scope s0 H C cl fp) t tg h4) (fun s0 H C cl fp => sndC k (c.c.blk scope s0 H C cl fp) ifs h5)
              (fun s0 H C cl fp => sndI it2 (c.c.blk scope s0 H C cl fp) tg2 iter2 h7) (fun s0 H C cl fp => sndT (c.c.blk scope s0 H C cl fp) t2 tg2 h8) (fun s0 H C cl fp => sndC k2 (c.c.blk scope s0 H C cl fp) ifs2 h9)
              (fun s0 H C cl fp => sndE elt (c.c.blk scope s0 H C cl fp) e0 h6) (setJ it tg iter h3' _) (setJ it2 tg2 iter2 h7)) fun D q H h => lc_imp (fun q H Q hh => hk q H Q ?_) h
            rw [ownOf_snd]
            simp only [semE] at hh
            exact hh
          · cases h2
        | _ => simp [chkE] at h2
    · cases hsw
end
theorem sw_two (t1 t2 e : Expr) (env : Env) : swappedStores [t1, t2] e env = pure none := by
  cases t1 <;> first | rfl | (cases e <;> rfl)
mutual
theorem sndS {T : Tb} {G : Gb} {m : Nat} : ∀ (a : Sm) {P : Par} {s : Sx} {X : Cx} {E : XK} (c : Czs T G P m s X E) (st : Stmt), chkS T s a st = true → PS X st (TSm G E (semS a P))
  | .expr a, P, s, X, E, c, st, h => by
    unfold chkS at h
    split at h
    · simp only [Bool.and_eq_true] at h
      unfold semS
      exact k_expr' (sndE a c.c _ h.2) h.1
    · cases h
  | .doc, P, s, X, E, c, st, h => by
    unfold chkS at h
    split at h
    · unfold semS
      exact k_doc
    · cases h
  | .ret a, P, s, X, E, c, st, h => by
    unfold chkS at h
    split at h
    · unfold semS
      exact k_ret (sndE a c.c _ h)
    · cases h
  | .ret0, P, s, X, E, c, st, h => by
    unfold chkS at h
    split at h
    · unfold semS
      exact k_ret0
    · cases h
  | .pass, P, s, X, E, c, st, h => by
    unfold chkS at h
    split at h
    · unfold semS
      exact k_pass
    · cases h
  | .brk, P, s, X, E, c, st, h => by
    unfold chkS at h
    split at h
    · unfold semS
      exact k_break
    · cases h
  | .cont, P, s, X, E, c, st, h => by
    unfold chkS at h
    split at h
    · unfold semS
      exact k_cont
    · cases h
  | .ifs k a b, P, s, X, E, c, st, h => by
    unfold chkS at h
    split at h
    · simp only [Bool.and_eq_true] at h
      unfold semS
      exact k_if (sndB k c.c _ h.1.1) (sndSs a c _ h.1.2) (sndSs b c _ h.2)
    · cases h
  | .asg t a, P, s, X, E, c, st, h => by
    unfold chkS at h
    split at h
    · simp only [Bool.and_eq_true] at h
      unfold semS
      exact snd_asg c h.1.1 h.1.2 h.2
    · cases h
  | .asg2 t u a, P, s, X, E, c, st, h => by
    unfold chkS at h
    split at h
    · simp only [Bool.and_eq_true] at h
      unfold semS
      exact k_asg2 (sndE a c.c _ h.1.2) (sndT c.c t _ h.1.1.1) (sndT c.c u _ h.1.1.2) (by rw [asE_cons t _ _ h.1.1.1, asE_cons u _ _ h.1.1.2]; rfl) (sw_two _ _ _ _)
    · cases h
  | .par i j a b, P, s, X, E, c, st, h => by
    unfold chkS at h
    split at h
    · rename_i x p1 y p2 k1 tp e1 e2 k2 tp2 pos
      simp only [Bool.and_eq_true, decide_eq_true_eq, Bool.not_eq_true'] at h
      obtain ⟨⟨⟨⟨⟨⟨⟨⟨⟨⟨h0, hi⟩, hj⟩, hij⟩, hx⟩, hy⟩, hp⟩, hf⟩, hcs⟩, h1⟩, h2⟩ := h
      unfold semS
      have hE : PA X [e1, e2] (TDs G E (semEs P (.cons a (.cons b .nil)))) := by
        simp only [semEs]
        exact k_cons (sndE a c.c _ h1) (k_cons (sndE b c.c _ h2) k_nil (ns_of h2 _ _)) (ns_of h1 _ _)
      exact k_par (c.c.calm h0) c.c.xnd (by rw [c.c.N]; exact hi) (by rw [c.c.N]; exact hj) hij (by rw [c.c.sc]; exact hx) (by rw [c.c.sc]; exact hy) hE (swap2 c h1 h2 (nd_ne c hi hj hij) hx hy hp hf hcs) rfl
    · cases h
  | .par3 i j k a b d, P, s, X, E, c, st, h => by
    unfold chkS at h
    split at h
    · rename_i x p1 y p2 z p3 k1 tp e1 e2 e3 k2 tp2 pos
      simp only [Bool.and_eq_true, decide_eq_true_eq, Bool.not_eq_true'] at h
      obtain ⟨⟨⟨⟨⟨⟨⟨⟨⟨⟨⟨⟨⟨⟨⟨⟨h0, hi⟩, hj⟩, hk⟩, hij⟩, hik⟩, hjk⟩, hx⟩, hy⟩, hz⟩, hp⟩, hp2⟩, hf⟩, hcs⟩, h1⟩, h2⟩, h3⟩ := h
      unfold semS
      have hE : PA X [e1, e2, e3] (TDs G E (semEs P (.cons a (.cons b (.cons d .nil))))) := by
        simp only [semEs]
        exact k_cons (sndE a c.c _ h1) (k_cons (sndE b c.c _ h2) (k_cons (sndE d c.c _ h3) k_nil (ns_of h3 _ _)) (ns_of h2 _ _)) (ns_of h1 _ _)
      exact k_par3 (c.c.calm h0) c.c.xnd (by rw [c.c.N]; exact hi) (by rw [c.c.N]; exact hj) (by rw [c.c.N]; exact hk) hij hik hjk (by rw [c.c.sc]; exact hx) (by rw [c.c.sc]; exact hy) (by rw [c.c.sc]; exact hz) hE
        (swap3 c h1 h2 h3 (nd_ne c hi hj hij) (nd_ne c hi hk hik) (nd_ne c hj hk hjk) hx hy hz hp hp2 hf hcs) rfl
    · cases h
  | .set o i a, P, s, X, E, c, st, h => by
    unfold chkS at h
    split at h
    · rename_i e1 e2 sp e pos
      simp only [Bool.and_eq_true] at h
      unfold semS
      have pl := plain_of h.2
      exact k_set (sndE a c.c _ h.1.1) (pg_sub (sndE o c.c _ h.1.2) (sndE i c.c _ h.2) set_ok (by cases e2 <;> first | (intro _; rfl) | (cases i <;> simp [chkE] at h)))
        (by rw [swap_eq c h.1.1]; unfold swapB; cases e <;> rfl) rfl rfl
    · cases h
  | .aug i plus a, P, s, X, E, c, st, h => by
    unfold chkS at h
    split at h
    · simp only [Bool.and_eq_true, decide_eq_true_eq] at h
      obtain ⟨⟨⟨hi, hx⟩, rfl⟩, h1⟩ := h
      obtain ⟨s1, s2⟩ := c.c.sto hx
      unfold semS
      refine k_aug c.c.xnd (by rw [c.c.N]; exact hi) s1 (sndE a c.c _ h1) ?_ s2
      cases plus with
      | true => exact ip_iadd
      | false => exact ip_isub
    · cases h
  | .whl k b, P, s, X, E, c, st, h => by
    unfold chkS at h
    split at h
    · simp only [Bool.and_eq_true] at h
      unfold semS
      exact k_while P.fuel (c.po h.1.1) (sndB k c.c _ h.1.2) (sndSs b c _ h.2)
    · cases h
  | .forr t it b, P, s, X, E, c, st, h => by
    unfold chkS at h
    split at h
    · simp only [Bool.and_eq_true] at h
      obtain ⟨⟨⟨h0, h1⟩, h2⟩, h3⟩ := h
      unfold semS
      exact k_for (c.po h0) (c.c.calm h0) (sndI it c.c _ _ h1) (sndT c.c t _ h2) (sndSs b c _ h3) (setJ it _ _ h1 _)
    · cases h
  | .rais x es, P, s, X, E, c, st, h => by
    unfold chkS at h
    split at h
    · rename_i y p1 l p2 pos
      simp only [Bool.and_eq_true, decide_eq_true_eq] at h
      obtain ⟨⟨⟨⟨h0, h1⟩, h2⟩, h4⟩, h3⟩ := h
      obtain ⟨g1, g2, g3⟩ := c.c.gl h2
      obtain ⟨C, fI, fd, ek, hC, hm, hx, hmk, Ox, iC, tI, FI, hb⟩ := c.cl.mkx x y h1
      unfold semS
      rw [hmk]
      cases l with
      | nil => cases h4
      | cons e1 l =>
        cases es with
        | nil => unfold chkEs at h3; cases h3
        | cons a1 es =>
          have h3' := h3
          unfold chkEs at h3
          simp only [Bool.and_eq_true] at h3
          exact k_raise c.c.K hC hx Ox (by rw [← hx]; exact (c.cl.at_ x C hC).2.2) iC tI FI ((c.c.room h0).mono c.rm) hb (fun pins σ H s0 e s1 I hh => (passes_call (E := fun _ _ _ => False) c.c.tk fun _ _ _ _ z => z.elim) pins σ H s0 e s1 I hh) g1 hm g2 (c.c.calm h0) c.c.tk (fun _ _ _ _ z => z)
            (sndEs (.cons a1 es) c.c _ h3') (ns_of h3.1 _ _) (back_of p2 _ h3.2)
    · cases h
  | .trys hh i b su, P, s, X, E, c, st, h => by
    unfold chkS at h
    split at h
    · rename_i body y np nm s0 suite pos' pos
      simp only [Bool.and_eq_true, decide_eq_true_eq, Bool.not_eq_true'] at h
      obtain ⟨⟨⟨⟨⟨⟨⟨h0, hx⟩, h1⟩, rfl⟩, h2⟩, h3⟩, h4⟩, h5⟩ := h
      obtain ⟨g1, g2, g3⟩ := c.c.gl h2
      obtain ⟨cv, hcv, hexm⟩ := c.cl.hn _ (by simpa using h1)
      unfold semS
      have hb : ∀ (E' : XK) (pn : List (Addr × Obj)) (xe : Value → Shared → Prop), Takes (X.tr pn xe) (fun c d _ H => E' c d H) → PassesOwn (model X.prog X.w) X.A X.env xe → PSs (X.tr pn xe) body (TSm G E' (semSs b P)) := fun E' pn xe tk po => sndSs b (c.tr tk po hx) _ h4
      have hsu : ∀ (a dd x : Nat) (oe : Obj) (C : Addr) (pn : List (Addr × Obj)), G.ca x = some C → Zc (.ref C) (some dd) oe → (∃ vs, oe.data = .fields vs) → PSs (X.suite a ((a, oe) :: pn)) (s0 :: suite) (TSm G (fun _ _ _ => False) (semSs su { P with ex := some (a, dd, x) })) :=
        fun a dd x oe C pn hC hz hf => sndSs su (c.suite hC hz hf) _ h5
      split at h3
      · exact k_try_only c.st c.fr ⟨g1, g2, hcv⟩ c.c.tk hexm hb hsu
      · rename_i i n
        simp only [Bool.and_eq_true, decide_eq_true_eq] at h3
        exact k_try_as c.st c.fr c.c.xnd (by rw [c.c.N]; exact h3.1) (by rw [kind_of c]; exact h3.2) ⟨g1, g2, hcv⟩ c.c.tk hexm hb hsu
      · cases h3
    · cases h
theorem sndSs {T : Tb} {G : Gb} {m : Nat} : ∀ (a : Sms) {P : Par} {s : Sx} {X : Cx} {E : XK} (c : Czs T G P m s X E) (l : List Stmt), chkSs T s a l = true → PSs X l (TSm G E (semSs a P))
  | .nil, P, s, X, E, c, l, h => by
    unfold chkSs at h
    cases l with
    | nil => unfold semSs; exact k_s0
    | cons => cases h
  | .cons a b, P, s, X, E, c, l, h => by
    unfold chkSs at h
    split at h
    · simp only [Bool.and_eq_true] at h
      unfold semSs
      exact k_sc (sndS a c _ h.1) (sndSs b c _ h.2)
    · cases h
end
end DL
set_option Elab.async false
set_option linter.all false
set_option maxRecDepth 100000
set_option maxHeartbeats 8000000
/-! DL24: a program's defs and their meaning, call depth by call depth. -/
namespace DL
open PySem PySem.Spec PyProof.Rows L2

/-- a def: its name, slots, parameters, text, the same in the small syntax -/
structure Df where
  x : Str
  N : List Str
  ps : List Str
  params : Arguments
  body : List Stmt
  scope : Scope
  ast : Sms
def Df.ok (T : Tb) (d : Df) : Bool := C8.scC d.N d.ps d.scope && chkSs T ⟨d.N, d.scope, fun _ => true, true, false⟩ d.ast d.body
/-- what the defs do to the depth k -/
noncomputable def run (tb : Nat → Option Df) (P : Par) : Nat → Nat → List D → Sto → Re D
  | 0 => fun _ _ _ => .bad
  | k + 1 => fun f ds S => match tb f with
    | some d => if ds.length = d.ps.length then finish S (semSs d.ast { P with fn := run tb P k } (startL d.N.length ds) S) else .bad
    | none => .bad
theorem run_succ {tb : Nat → Option Df} {P : Par} {k f : Nat} {d : Df} {ds : List D} {S : Sto} (h : tb f = some d) (hl : ds.length = d.ps.length) : run tb P (k + 1) f ds S = finish S (semSs d.ast { P with fn := run tb P k } (startL d.N.length ds) S) := by
  show (match tb f with
    | some d => if ds.length = d.ps.length then finish S (semSs d.ast { P with fn := run tb P k } (startL d.N.length ds) S) else .bad
    | none => .bad) = _
  rw [h]
  dsimp only
  rw [if_pos hl]

/-- what the head tells -/
structure Bk (tb : Nat → Option Df) (T : Tb) (G : Gb) (P : Par) (prog : Program) (w : World) (K : PySem.W.Frag) (mg : Str → Option Value) (base : Heap) : Prop where
  eK : G.K = K
  df : ∀ f a, G.fa f = some a → ∃ d fd, tb f = some d ∧ d.ok T = true ∧ FunD K d.x d.x d.params d.body d.scope [] [] a fd ∧ Binds K fd d.ps []
  dn : ∀ f x, T.dn f = some x → ∃ a, mg x = some (.ref a) ∧ G.fa f = some a
  gc : ∀ y d, P.gc y = some d → ∃ u v, mg (Str.ofString y) = some u ∧ L2.RelV v u ∧ ∀ W H, Rp G W H d v
  bl : ∀ b ∈ bltNames, mg b = none
  xf : P.xf = G.xf
  ix : ∀ ty ∈ T.ix, (∃ CT, mg ty = some (.ref CT) ∧ ∀ x C b, G.ca x = some C → P.isx x ty = some b → PySem.W.kitOne K (.ref C) (.ref CT) = some b) ∨ (∃ t, mg ty = none ∧ bootBuiltins ty = some (.type t) ∧ ∀ x C b, G.ca x = some C → P.isx x ty = some b → PySem.W.kitOne K (.ref C) (.type t) = some b)
  cl : ClX T G P prog w K mg base
section
variable {tb : Nat → Option Df} {T : Tb} {G : Gb} {P : Par} {prog : Program} {w : World} {K : PySem.W.Frag} {mg : Str → Option Value} {base : Heap}
theorem funD_ok {x qual : Str} {params : Arguments} {body : List Stmt} {scope : Scope} {f : Addr} {fd : FuncData} {N ps : List Str} {k : Nat} {bm : MS} (F : FunD K x qual params body scope [] [] f fd) (Sc : FnScope N ps scope)
    (hb : ∀ (cdv : Value) (A : Around) (outer : List Env) (s : Shared) (H : Hp) (E : XK), Room k (A.deeper (envOfC qual scope s.heap.objs.size f cdv)) → PSs (cxOf (L2.CX prog w) prog w K mg base N qual scope f cdv A outer s H E) body (TSm G E bm)) :
    FnOk prog w K mg base (L2.CX prog w) (k + 1) f fd ps (spOf G fun ds S => if ds.length = ps.length then finish S (bm (startL N.length ds) S) else .bad) := by
  refine F.ok Sc (fun vs H Q E h => ?_) (fun cdv A outer s H vs Q E hr h => ?_)
  · obtain ⟨W, S, ds, s, r, p⟩ := h
    dsimp only at p
    split at p
    · rename_i hl
      rw [r.length]
      exact hl
    · exact p.no
  · obtain ⟨W, S, ds, s1, r, p⟩ := h
    dsimp only at p
    split at p
    · exact ⟨_, hb cdv A outer s H E hr, W, startL N.length ds, S, ⟨sl_start r, s1⟩, fin_post s1 p⟩
    · exact p.no
theorem run_zero {f : Nat} {a : Addr} {d : Df} {fd : FuncData} : FnOk prog w K mg base (L2.CX prog w) 2 a fd d.ps (spOf G (run tb P 0 f)) := by
  refine ⟨fun vs H Q E q => ?_, fun A outer s H args us vs Q E hr he hb hv q => ?_⟩
  · obtain ⟨W, S, ds, s, r, p⟩ := q
    exact p.no
  · obtain ⟨W, S, ds, s, r, p⟩ := q
    exact p.no
theorem run_step (B : Bk tb T G P prog w K mg base) {k f : Nat} {a : Addr} {d : Df} {fd : FuncData} (hd : tb f = some d) (hok : d.ok T = true) (F : FunD K d.x d.x d.params d.body d.scope [] [] a fd)
    (ih : ∀ f a, G.fa f = some a → ∃ fd ps, FnOk prog w K mg base (L2.CX prog w) (k + 2) a fd ps (spOf G (run tb P k f)) ∧ PySem.W.keepIn K (.ref a) = true ∧ Binds K fd ps []) : FnOk prog w K mg base (L2.CX prog w) (k + 3) a fd d.ps (spOf G (run tb P (k + 1) f)) := by
  unfold Df.ok at hok
  simp only [Bool.and_eq_true] at hok
  have Sc := C8.fnScope_by hok.1
  have main := funD_ok (prog := prog) (w := w) (mg := mg) (base := base) (G := G) (k := k + 2) (bm := semSs d.ast { P with fn := run tb P k }) F Sc fun cdv A outer s H E hr => by
    refine sndSs (T := T) (P := { P with fn := run tb P k }) (m := k + 2) (X := cxOf (L2.CX prog w) prog w K mg base d.N d.x d.scope a cdv A outer s H E) d.ast (s := ⟨d.N, d.scope, fun _ => true, true, false⟩) ⟨⟨B.eK, rfl, Sc.nd, rfl, fun _ _ => rfl, fun _ => rfl, fun _ => hr, hr.units, takes_of rfl rfl rfl rfl, ih, B.dn, B.gc, B.bl, B.xf, B.ix, fun h => nomatch h⟩, ⟨B.cl.mkx, B.cl.hn, B.cl.at_⟩, fun _ => passes_of rfl, ?_, rfl, rfl, by omega⟩ d.body hok.2
    show (if d.scope.kind.isAnnotationScope then ScopeKind.function else d.scope.kind) = .function
    rw [Sc.kind]
    rfl
  refine main.imp fun vs H Q E q => ?_
  obtain ⟨W, S, ds, s, r, p⟩ := q
  refine ⟨W, S, ds, s, r, ?_⟩
  have e : run tb P (k + 1) f ds S = if ds.length = d.ps.length then finish S (semSs d.ast { P with fn := run tb P k } (startL d.N.length ds) S) else .bad := by
    show (match tb f with
      | some d => if ds.length = d.ps.length then finish S (semSs d.ast { P with fn := run tb P k } (startL d.N.length ds) S) else .bad
      | none => .bad) = _
    rw [hd]
  rw [e] at p
  exact p
theorem run_ok (B : Bk tb T G P prog w K mg base) : ∀ (k f : Nat) (a : Addr), G.fa f = some a → ∃ fd ps, FnOk prog w K mg base (L2.CX prog w) (k + 2) a fd ps (spOf G (run tb P k f)) ∧ PySem.W.keepIn K (.ref a) = true ∧ Binds K fd ps []
  | 0, f, a, h => by
    obtain ⟨d, fd, hd, hok, F, hb⟩ := B.df f a h
    exact ⟨fd, d.ps, run_zero, F.kp, hb⟩
  | k + 1, f, a, h => by
    obtain ⟨d, fd, hd, hok, F, hb⟩ := B.df f a h
    exact ⟨fd, d.ps, run_step B hd hok F (run_ok B k), F.kp, hb⟩
theorem run_fn (B : Bk tb T G P prog w K mg base) (k : Nat) {f : Nat} {a : Addr} {d : Df} {fd : FuncData} (hd : tb f = some d) (hok : d.ok T = true) (F : FunD K d.x d.x d.params d.body d.scope [] [] a fd) : FnOk prog w K mg base (L2.CX prog w) (k + 2) a fd d.ps (spOf G (run tb P k f)) := by
  cases k with
  | zero => exact run_zero
  | succ k => exact run_step B hd hok F (run_ok B k)
end
end DL
set_option Elab.async false
set_option linter.all false
set_option maxRecDepth 100000
set_option maxHeartbeats 4000000
/-! DL25: what the head tells, as looks; the end. -/
namespace DL
open PySem PySem.Spec PyProof.Rows L2
def oexB (K : PySem.W.Frag) (C : Addr) : Bool := (match K.lookup C with
  | some ⟨.type ty, _, .cls cd, sl⟩ => (match cd.mro, sl.toList with
    | .ref C' :: bm, [_, _, _, _, some (.builtin n), _] => ty == "type" && C' == C && n == "ValueError.__new__" && !cd.hasDel && cd.hasDict && PySem.HandSPX.refsVE bm
    | _, _ => false)
  | _ => false) && decide (PySem.W.findIn K (.ref C) "__setattr__" = some (some (.builtin "object.__setattr__"))) && decide (PySem.W.subIn K (.ref C) (.type "BaseException") = some true) && decide (PySem.W.typeIn K (.ref C) = some (.type "type")) && PySem.W.keepIn K (.ref C)
theorem oexB_ok {K : PySem.W.Frag} {C : Addr} (h : oexB K C = true) : OexC K C := by
  unfold oexB at h
  simp only [Bool.and_eq_true, decide_eq_true_eq] at h
  obtain ⟨⟨⟨⟨h1, h2⟩, h3⟩, h4⟩, h5⟩ := h
  refine ⟨?_, h2, h3, h4, h5⟩
  split at h1
  · rename_i ty dd cd sl ho
    split at h1
    · rename_i C' bm k0 k1 k2 k3 n k5 hm hs
      simp only [Bool.and_eq_true, beq_iff_eq, Bool.not_eq_true'] at h1
      obtain ⟨⟨⟨⟨⟨rfl, rfl⟩, rfl⟩, hdel⟩, hdct⟩, hbm⟩ := h1
      obtain ⟨nm, bs, mro, ns, qn, hd, sn, sub, ab, col, del⟩ := cd
      dsimp only at hm hdel hdct
      subst hm hdel hdct
      have hsl : sl = #[k0, k1, k2, k3, some (.builtin "ValueError.__new__"), k5] := by
        obtain ⟨l⟩ := sl
        simp only at hs
        rw [hs]
      subst hsl
      exact ⟨nm, qn, ns, bs, bm, sn, sub, ab, col, dd, k0, k1, k2, k3, k5, ho, hbm⟩
    · cases h1
  · cases h1
def headB (K : PySem.W.Frag) (CL : Addr) : Bool := PySem.W.readsIn K CL (.type "type") && decide (PySem.W.specialIn K (.ref CL) "__getattribute__" = some (some (.builtin "type.__getattribute__"))) && (match PySem.W.findCls K (.ref CL) (.type "type") "__init__" with
  | some (.val v) => decide (v = .builtin "ValueError.__init__")
  | _ => false)
theorem headB_ok {K : PySem.W.Frag} {CL : Addr} (h : headB K CL = true) : HeadC K CL := by
  unfold headB at h
  simp only [Bool.and_eq_true, decide_eq_true_eq] at h
  refine ⟨h.1.1, h.1.2, ?_⟩
  have h2 := h.2
  split at h2
  · rename_i v e
    rw [e, of_decide_eq_true h2]
  · cases h2
def excB (K : PySem.W.Frag) (C : Addr) : Bool := decide (PySem.W.findIn K (.ref C) "__class__" = some (some (.builtin "object.__class__"))) && decide (PySem.W.specialIn K (.builtin "object.__class__") "__get__" = some (some (.builtin "getset_descriptor.__get__"))) && decide (PySem.W.takesIn K (.builtin "object.__class__") = some true) && decide (PySem.W.mroIn K C (.type "object") = some true)
theorem excB_ok {K : PySem.W.Frag} {C : Addr} (x : XfC K C) (h : excB K C = true) : ExcC K C := by
  unfold excB at h
  simp only [Bool.and_eq_true, decide_eq_true_eq] at h
  exact ⟨x.ga, x.gg, x.exC, x.hdC, h.1.1.1, h.1.1.2, h.1.2, h.2⟩
/-! ### a Hook with a look of one's own -/
def obsE (n : Nat) (fa : List He.Fa) (fn : List He.DefD) (ex : PySem.W.Frag → Bool) (g : Addr → Option Obj) : He.AlD × Bool := (He.obsD fa fn (He.frG g (cStatics :: He.asD g n)), ex (He.frG g (cStatics :: He.asD g n)))
def hookE (n : Nat) (fa : List He.Fa) (fn : List He.DefD) (ex : PySem.W.Frag → Bool) : PySem.W.Hook where
  α := He.AlD × Bool
  obs := fun s => obsE n fa fn ex s.heap.get?
  val := fun _ => (He.valD fn, true)
  says := fun _ h => ∃ K : PySem.W.Frag, K.In h ∧ He.SaysD fa fn K ∧ ex K = true
  of := fun _ _ e => ⟨_, He.frG_in, congrArg (fun z : He.AlD × Bool => z.1) e, congrArg (fun z : He.AlD × Bool => z.2) e⟩
  keeps := fun _ _ _ ⟨K, hK, c⟩ k => ⟨K, PySem.W.Frag.In.keeps hK k, c⟩
theorem obsE_eq {n : Nat} {fa : List He.Fa} {fn : List He.DefD} {ex : PySem.W.Frag → Bool} {g : Addr → Option Obj} {s : Shared} (h : ∀ a, g a = s.heap.get? a) : obsE n fa fn ex g = (hookE n fa fn ex).obs s := by
  have e : g = s.heap.get? := funext h
  rw [e] <;> rfl
/-- a def as the head has it -/
def Df.d (d : Df) : He.DefD := ⟨(d.x, none), d.x, d.x, d.params, d.body, d.scope, [], []⟩
/-- every parameter is written -/
def Df.B (d : Df) : Prop := ∀ (kV doc pm : Value) (an : Option Addr) (cdv ct : Value) (us : List Value), us.length = d.ps.length → bindArgs (PySem.W.fnOf d.x d.x d.params d.body d.scope .none kV doc pm an cdv ct) ⟨us, []⟩ = pure (d.ps.zip us)
/-- no exception leaves the law -/
theorem cx_none {P : Program} {w : World} (H : Hp) (s : Shared) (e : Value) (s' : Shared) (h : L2.CX P w [] H s (fun _ _ _ => False) e s') : False := by
  obtain ⟨_, _, _, _, _, _, _, _, _, _, _, _, z⟩ := h
  exact z
/-- the law's call, told by its function -/
theorem law_sp {G : Gb} {F : List DL.D → Sto → Re DL.D} {K : PySem.W.Frag} (hK : G.K = K) {n : Nat} (hF : ∀ ns : List Int, ns.length ≤ n → F [.scr ns] [] = .ok (.bl true) []) (H : Hp) (a : Addr) (ns : List Int) (hl : ns.length ≤ n) (hS : SqL K H a (ns.map V.int)) :
    spOf G F [.ref a] H (fun v _ => v = .bl true) fun _ _ _ => False := by
  refine ⟨⟨[], []⟩, [], [.scr ns], ⟨rfl, List.nodup_nil, fun i a o h => by simp at h, fun a h => by simp at h, fun a h => by simp at h⟩, Rps.one ?_, ?_⟩
  · simp only [Rp]
    refine ⟨a, rfl, ?_⟩
    rw [hK]
    rcases hS with h | h
    · exact .inl ⟨by simp, by simp, h⟩
    · exact .inr h
  · rw [hF ns hl]
    intro W' H' v _ _ r
    exact rp_bl r
/-- the end: the law's function object keeps the promise of the meaning -/
theorem walk_dl {l : PySem.W.OpenLaw} {n k : Nat} {q : Program} {loose : List Str} {XP : (Str → Option Value) → Heap → Prop} {YP : World → Heap → Prop} {d : DefRec} {x : Str} (hn : l.most = some n) (hn2 : n ≤ sizeLine) (hdf : d.params.defaults = []) (hr : Room k callerA)
    (Fx : ∀ (w : World) (mg : Str → Option Value) (fa : Addr) (h : Heap), YP w h → h.Ns mainGlobals mg → mg d.name = some (.ref fa) →
      ∃ (K : PySem.W.Frag) (fd : FuncData) (G : Gb) (F : List DL.D → Sto → Re DL.D), K.In h ∧ G.K = K ∧ (∀ (s : Shared) (u : Value), BindsTo s fd ⟨[u], []⟩ [(x, u)]) ∧ (∀ ns : List Int, ns.length ≤ n → F [.scr ns] [] = .ok (.bl true) []) ∧
        ∀ base : Heap, K.In base → base.Ns mainGlobals mg → FnOk l.prog w K mg base (L2.CX l.prog w) k fa fd [x] (spOf G F)) :
    PySem.W.WalkO q loose XP YP l.row.toRowW d [] (fun f vs => PySem.call f vs) := by
  refine Att.attach_call hn hdf fun w s₀ s₁ mg mb fa o pm cd doc a vs ns G Y ho hd hcd hmg hobj hints hlen hg => ?_
  obtain ⟨K, fd, Gg, F, KX, hK, hb, hsp, hF⟩ := Fx w mg fa _ Y G.T.g hmg
  exact law_call KX G.T.g G.T.b G.T.builtins G.T.nolimit hg hobj hints (Nat.le_trans hlen hn2) hr hF hb (fun H hO hS => law_sp hK hsp H a ns hlen hS) fun H e s' => cx_none H s₁ e s'
end DL
set_option Elab.async false
set_option linter.all false
set_option maxRecDepth 100000
set_option maxHeartbeats 4000000
/-! K25A: the defs of k25 in the small syntax, held against the program's text. -/
namespace K25
open PySem PySem.Spec PyProof.Rows L2 DL
def top (i : Nat) : Stmt := PySem.Challenge.pw_bothdays_k25_maps_texts.main.body.getD i (.Pass ⟨0, 0, 0, 0⟩)
/-- 0: is_whole -/
def a_is_whole : Sms :=
  (.cons (.ret (.and (.cons (.isi (.var 0) "int") (.cons (.not (.isi (.var 0) "bool")) (.cons (.chn .le .le (.var 1) (.var 0) (.var 2)) .nil)))))
  .nil)

abbrev d_0 : Df := ⟨"is_whole", ["thing", "low", "high"], ["thing", "low", "high"], defArgs (top 3), defBody (top 3), defScope (top 3), a_is_whole⟩

/-- 1: is_answer -/
def a_is_answer : Sms :=
  (.cons (.ifs (.isi (.var 0) "str") (.cons (.ret (.cmp .in_ (.var 0) (.tup (.cons (.str [121, 101, 115]) (.cons (.str [110, 111]) (.cons (.str [103, 97, 112]) (.cons (.str [99, 108, 97, 115, 104]) .nil)))))))
  .nil) .nil)
  (.cons (.ret (.call 0 (.cons (.var 0) (.cons (.neg (.glo "MOST_AMOUNT")) (.cons (.glo "MOST_AMOUNT") .nil)))))
  .nil))

abbrev d_1 : Df := ⟨"is_answer", ["thing"], ["thing"], defArgs (top 4), defBody (top 4), defScope (top 4), a_is_answer⟩

/-- 2: show_map -/
def a_show_map : Sms :=
  (.cons (.asg (.name 1) (.new .nil))
  (.cons (.forr (.tup (.cons (.name 2) (.cons (.name 3) .nil))) (.plain (.var 0)) (.cons (.expr (.mth .append (.var 1) (.cons (.joi (.cons (.str [107, 110, 111, 119, 110, 32]) (.cons (.fmt (.var 2)) (.cons (.str [10]) .nil)))) .nil)))
  (.cons (.forr (.tup (.cons (.name 4) (.cons (.name 5) .nil))) (.plain (.var 3)) (.cons (.expr (.mth .append (.var 1) (.cons (.joi (.cons (.str [32, 32]) (.cons (.fmt (.var 4)) (.cons (.str [32]) (.cons (.fmt (.call 3 (.cons (.var 5) .nil))) (.cons (.str [10]) .nil)))))) .nil)))
  .nil))
  .nil)))
  (.cons (.ret (.mth .join (.str []) (.cons (.var 1) .nil)))
  .nil)))

abbrev d_2 : Df := ⟨"show_map", ["one", "lines", "known", "row", "day", "answer"], ["one"], defArgs (top 10), defBody (top 10), defScope (top 10), a_show_map⟩

/-- 3: _shown -/
def a_shown_u : Sms :=
  (.cons (.ret (.ite (.isi (.var 0) "int") (.joi (.cons (.str [112, 97, 121, 115, 32]) (.cons (.fmt (.var 0)) .nil))) (.var 0)))
  .nil)

abbrev d_3 : Df := ⟨"_shown", ["answer"], ["answer"], defArgs (top 11), defBody (top 11), defScope (top 11), a_shown_u⟩

/-- 4: read_map -/
def a_read_map : Sms :=
  (.cons (.asg (.name 1) (.mth .split (.var 0) (.cons (.str [10]) .nil)))
  (.cons (.asg (.name 2) (.new .nil))
  (.cons (.forr (.tup (.cons (.name 3) (.cons (.name 4) .nil))) (.enum (.sl (.var 1) .none (.some (.neg (.int 1))))) (.cons (.asg (.name 5) (.mth .split (.var 4) (.cons (.str [32]) .nil)))
  (.cons (.asg (.name 6) (.call 6 (.cons (.var 2) (.cons (.var 5) .nil))))
  (.cons (.ifs (.or (.cons (.cmp .ne (.var 6) (.str [])) (.cons (.cmp .eq (.ix (.var 5) (.int 0)) (.str [107, 110, 111, 119, 110])) .nil))) (.cons (.expr (.call 5 (.cons (.var 2) .nil)))
  .nil) .nil)
  (.cons (.ifs (.cmp .ne (.var 6) (.str [])) (.cons (.rais 0 (.cons (.bin .add (.var 3) (.int 1)) (.cons (.var 6) .nil)))
  .nil) .nil)
  (.cons (.ifs (.cmp .eq (.ix (.var 5) (.int 0)) (.str [107, 110, 111, 119, 110])) (.cons (.expr (.mth .append (.var 2) (.cons (.tup (.cons (.blt .int (.cons (.ix (.var 5) (.int 1)) .nil)) (.cons (.bin .add (.var 3) (.int 1)) (.cons (.new .nil) .nil)))) .nil)))
  .nil) (.cons (.expr (.mth .append (.ix (.ix (.var 2) (.neg (.int 1))) (.int 2)) (.cons (.tup (.cons (.blt .int (.cons (.ix (.var 5) (.int 2)) .nil)) (.cons (.call 8 (.cons (.sl (.var 5) (.some (.int 3)) .none) .nil)) .nil))) .nil)))
  .nil))
  .nil))))))
  (.cons (.expr (.call 5 (.cons (.var 2) .nil)))
  (.cons (.ifs (.or (.cons (.cmp .ne (.ix (.var 1) (.neg (.int 1))) (.str [])) (.cons (.not (.var 2)) (.cons (.not (.ix (.ix (.var 2) (.neg (.int 1))) (.int 2))) .nil)))) (.cons (.rais 0 (.cons (.int 0) (.cons (.str [101, 110, 100, 115]) .nil)))
  .nil) .nil)
  (.cons (.ret (.blt .tuple (.cons (.comp false [7, 8, 9] (.tup (.cons (.var 7) (.cons (.blt .tuple (.cons (.var 9) .nil)) .nil))) (.tup (.cons (.name 7) (.cons (.name 8) (.cons (.name 9) .nil)))) (.plain (.var 2)) .none) .nil)))
  .nil))))))

abbrev d_4 : Df := ⟨"read_map", ["text", "lines", "found", "number", "line", "words", "reason", "known", "_", "row"], ["text"], defArgs (top 12), defBody (top 12), defScope (top 12), a_read_map⟩

/-- 5: _end_row -/
def a_end_row_u : Sms :=
  (.cons (.ifs (.and (.cons (.cmp .gt (.blt .len (.cons (.var 0) .nil)) (.int 1)) (.cons (.ix (.ix (.var 0) (.neg (.int 1))) (.int 2)) (.cons (.cmp .eq (.ix (.ix (.var 0) (.neg (.int 1))) (.int 2)) (.ix (.ix (.var 0) (.neg (.int 2))) (.int 2))) .nil)))) (.cons (.rais 0 (.cons (.ix (.ix (.var 0) (.neg (.int 1))) (.int 1)) (.cons (.str [115, 97, 109, 101]) .nil)))
  .nil) .nil)
  .nil)

abbrev d_5 : Df := ⟨"_end_row", ["found"], ["found"], defArgs (top 13), defBody (top 13), defScope (top 13), a_end_row_u⟩

/-- 6: _fault -/
def a_fault_u : Sms :=
  (.cons (.asg (.name 2) (.and (.cons (.cmp .eq (.blt .len (.cons (.var 1) .nil)) (.int 2)) (.cons (.cmp .eq (.ix (.var 1) (.int 0)) (.str [107, 110, 111, 119, 110])) (.cons (.cmp .ne (.ix (.var 1) (.int 1)) (.str [])) .nil)))))
  (.cons (.asg (.name 3) (.and (.cons (.cmp .gt (.blt .len (.cons (.var 1) .nil)) (.int 3)) (.cons (.cmp .eq (.sl (.var 1) .none (.some (.int 2))) (.lst (.cons (.str []) (.cons (.str []) .nil)))) (.cons (.cmp .notIn (.str []) (.sl (.var 1) (.some (.int 2)) .none)) .nil)))))
  (.cons (.ifs (.not (.var 0)) (.cons (.ifs (.not (.var 2)) (.cons (.ret (.str [110, 111, 32, 107, 110, 111, 119, 110]))
  .nil) .nil)
  .nil) (.cons (.ifs (.and (.cons (.not (.var 3)) (.cons (.not (.and (.cons (.var 2) (.cons (.ix (.ix (.var 0) (.neg (.int 1))) (.int 2)) .nil)))) .nil))) (.cons (.ret (.str [110, 111, 32, 115, 116, 114, 101, 116, 99, 104]))
  .nil) .nil)
  .nil))
  (.cons (.ifs (.var 2) (.cons (.ret (.ite (.call 7 (.cons (.ix (.var 1) (.int 1)) (.cons (.var 0) .nil))) (.str []) (.str [98, 97, 100, 32, 100, 97, 121])))
  .nil) .nil)
  (.cons (.asg (.name 4) (.ix (.ix (.var 0) (.neg (.int 1))) (.int 2)))
  (.cons (.ifs (.not (.call 7 (.cons (.ix (.var 1) (.int 2)) (.cons (.var 4) .nil)))) (.cons (.ret (.str [98, 97, 100, 32, 100, 97, 121]))
  .nil) .nil)
  (.cons (.asg (.name 5) (.call 8 (.cons (.sl (.var 1) (.some (.int 3)) .none) .nil)))
  (.cons (.ifs (.cmp .is (.var 5) .non) (.cons (.ret (.str [98, 97, 100, 32, 97, 110, 115, 119, 101, 114]))
  .nil) .nil)
  (.cons (.ret (.ite (.and (.cons (.var 4) (.cons (.cmp .eq (.ix (.ix (.var 4) (.neg (.int 1))) (.int 1)) (.var 5)) .nil))) (.str [115, 97, 109, 101]) (.str [])))
  .nil)))))))))

abbrev d_6 : Df := ⟨"_fault", ["found", "words", "is_known", "is_stretch", "row", "answer"], ["found", "words"], defArgs (top 14), defBody (top 14), defScope (top 14), a_fault_u⟩

/-- 7: _follows -/
def a_follows_u : Sms :=
  (.cons (.asg (.name 2) (.call 9 (.cons (.var 0) .nil)))
  (.cons (.ifs (.or (.cons (.cmp .is (.var 2) .non) (.cons (.not (.chn .le .le (.int 0) (.var 2) (.glo "LAST_DAY"))) .nil))) (.cons (.ret (.bl false))
  .nil) .nil)
  (.cons (.ret (.ite (.var 1) (.cmp .gt (.var 2) (.ix (.ix (.var 1) (.neg (.int 1))) (.int 0))) (.cmp .eq (.var 2) (.int 0))))
  .nil)))

abbrev d_7 : Df := ⟨"_follows", ["word", "steps", "day"], ["word", "steps"], defArgs (top 15), defBody (top 15), defScope (top 15), a_follows_u⟩

/-- 8: _answer -/
def a_answer_u : Sms :=
  (.cons (.ifs (.and (.cons (.cmp .eq (.blt .len (.cons (.var 0) .nil)) (.int 1)) (.cons (.cmp .in_ (.ix (.var 0) (.int 0)) (.tup (.cons (.str [121, 101, 115]) (.cons (.str [110, 111]) (.cons (.str [103, 97, 112]) (.cons (.str [99, 108, 97, 115, 104]) .nil)))))) .nil))) (.cons (.ret (.ix (.var 0) (.int 0)))
  .nil) .nil)
  (.cons (.ifs (.or (.cons (.cmp .ne (.blt .len (.cons (.var 0) .nil)) (.int 2)) (.cons (.cmp .ne (.ix (.var 0) (.int 0)) (.str [112, 97, 121, 115])) .nil))) (.cons (.ret .non)
  .nil) .nil)
  (.cons (.asg (.name 1) (.call 9 (.cons (.ix (.var 0) (.int 1)) .nil)))
  (.cons (.ret (.ite (.and (.cons (.cmp .isN (.var 1) .non) (.cons (.call 1 (.cons (.var 1) .nil)) .nil))) (.var 1) .non))
  .nil))))

abbrev d_8 : Df := ⟨"_answer", ["words", "number"], ["words"], defArgs (top 16), defBody (top 16), defScope (top 16), a_answer_u⟩

/-- 9: _number -/
def a_number_u : Sms :=
  (.cons (.asg (.name 1) (.ite (.mth .startswith (.var 0) (.cons (.str [45]) .nil)) (.sl (.var 0) (.some (.int 1)) .none) (.var 0)))
  (.cons (.ifs (.or (.cons (.not (.mth .isascii (.var 1) .nil)) (.cons (.not (.mth .isdigit (.var 1) .nil)) (.cons (.cmp .gt (.blt .len (.cons (.var 1) .nil)) (.blt .len (.cons (.blt .str (.cons (.glo "MOST_AMOUNT") .nil)) .nil))) .nil)))) (.cons (.ret .non)
  .nil) .nil)
  (.cons (.ifs (.and (.cons (.cmp .eq (.ix (.var 1) (.int 0)) (.str [48])) (.cons (.cmp .ne (.var 0) (.str [48])) .nil))) (.cons (.ret .non)
  .nil) .nil)
  (.cons (.ret (.blt .int (.cons (.var 0) .nil)))
  .nil))))

abbrev d_9 : Df := ⟨"_number", ["word", "digits"], ["word"], defArgs (top 17), defBody (top 17), defScope (top 17), a_number_u⟩

/-- 10: _law_cell -/
def a_law_cell_u : Sms :=
  (.cons (.ifs (.cmp .lt (.var 1) (.blt .len (.cons (.var 0) .nil))) (.cons (.ret (.ix (.var 0) (.var 1)))
  .nil) .nil)
  (.cons (.ret (.int 0))
  .nil))

abbrev d_10 : Df := ⟨"_law_cell", ["script", "k"], ["script", "k"], defArgs (top 19), defBody (top 19), defScope (top 19), a_law_cell_u⟩

/-- 11: _law_digits -/
def a_law_digits_u : Sms :=
  (.cons (.asg (.name 3) (.new .nil))
  (.cons (.forr (.name 4) (.range2 (.var 1) (.var 2)) (.cons (.asg (.name 5) (.call 10 (.cons (.var 0) (.cons (.var 4) .nil))))
  (.cons (.ifs (.cmp .lt (.var 5) (.int 0)) (.cons (.asg (.name 5) (.bin .sub (.int 1) (.bin .mul (.int 2) (.var 5))))
  .nil) .nil)
  (.cons (.ifs (.cmp .gt (.blt .len (.cons (.var 3) .nil)) (.int 1500)) (.cons .brk
  .nil) .nil)
  (.cons (.ifs (.cmp .ge (.var 5) (.bin .pow (.int 10) (.int 18))) (.cons (.forr (.name 6) (.range1 (.int 60)) (.cons (.ifs (.cmp .gt (.var 5) (.int 0)) (.cons (.expr (.mth .append (.var 3) (.cons (.bin .mod (.blt .int (.cons (.var 5) .nil)) (.int 1000)) .nil)))
  (.cons (.asg (.name 5) (.bin .div (.var 5) (.int 1000)))
  .nil)) .nil)
  .nil))
  .nil) (.cons (.asg (.name 7) (.bin .mod (.blt .int (.cons (.bin .add (.bin .add (.bin .mul (.var 5) (.int 48271)) (.bin .mul (.var 4) (.int 69621))) (.int 11)) .nil)) (.int 2147483647)))
  (.cons (.forr (.name 6) (.range1 (.int 12)) (.cons (.asg (.name 7) (.bin .mod (.blt .int (.cons (.bin .add (.bin .add (.bin .mul (.var 7) (.int 16807)) (.bin .mul (.int 7) (.var 6))) (.int 1)) .nil)) (.int 2147483647)))
  (.cons (.expr (.mth .append (.var 3) (.cons (.bin .mod (.blt .int (.cons (.bin .div (.var 7) (.int 997)) .nil)) (.int 1000)) .nil)))
  .nil)))
  .nil)))
  .nil)))))
  (.cons (.ret (.var 3))
  .nil)))

abbrev d_11 : Df := ⟨"_law_digits", ["script", "first", "last", "digits", "k", "cell", "turn", "seed"], ["script", "first", "last"], defArgs (top 20), defBody (top 20), defScope (top 20), a_law_digits_u⟩

/-- 12: _law_draw -/
def a_law_draw_u : Sms :=
  (.cons (.asg (.name 2) (.ix (.var 0) (.int 1)))
  (.cons (.set (.var 0) (.int 1) (.bin .add (.var 2) (.int 1)))
  (.cons (.ifs (.cmp .lt (.var 2) (.blt .len (.cons (.ix (.var 0) (.int 0)) .nil))) (.cons (.ret (.bin .mod (.blt .int (.cons (.ix (.ix (.var 0) (.int 0)) (.var 2)) .nil)) (.var 1)))
  .nil) .nil)
  (.cons (.ret (.bin .mod (.blt .int (.cons (.bin .mul (.var 2) (.int 7)) .nil)) (.var 1)))
  .nil))))

abbrev d_12 : Df := ⟨"_law_draw", ["box", "many", "at"], ["box", "many"], defArgs (top 21), defBody (top 21), defScope (top 21), a_law_draw_u⟩

/-- 13: _law_pick -/
def a_law_pick_u : Sms :=
  (.cons (.ret (.ix (.var 1) (.bin .mod (.blt .int (.cons (.call 12 (.cons (.var 0) (.cons (.int 900) .nil))) .nil)) (.blt .len (.cons (.var 1) .nil)))))
  .nil)

abbrev d_13 : Df := ⟨"_law_pick", ["box", "things"], ["box", "things"], defArgs (top 22), defBody (top 22), defScope (top 22), a_law_pick_u⟩

/-- 14: _law_like -/
def a_law_like_u : Sms :=
  (.cons (.ifs (.isi (.var 1) "tuple") (.cons (.ifs (.or (.cons (.not (.isi (.var 0) "tuple")) (.cons (.cmp .ne (.blt .len (.cons (.var 0) .nil)) (.blt .len (.cons (.var 1) .nil))) .nil))) (.cons (.ret (.bl false))
  .nil) .nil)
  (.cons (.ret (.cmp .eq (.comp false [2] (.int 1) (.name 2) (.range1 (.blt .len (.cons (.var 1) .nil))) (.some (.not (.call 14 (.cons (.ix (.var 0) (.var 2)) (.cons (.ix (.var 1) (.var 2)) .nil)))))) (.lst .nil)))
  .nil)) .nil)
  (.cons (.ifs (.cmp .is (.var 1) .non) (.cons (.ret (.cmp .is (.var 0) .non))
  .nil) .nil)
  (.cons (.ifs (.cmp .is (.var 1) (.bl true)) (.cons (.ret (.cmp .is (.var 0) (.bl true)))
  .nil) .nil)
  (.cons (.ifs (.cmp .is (.var 1) (.bl false)) (.cons (.ret (.cmp .is (.var 0) (.bl false)))
  .nil) .nil)
  (.cons (.ifs (.isi (.var 1) "str") (.cons (.ret (.and (.cons (.isi (.var 0) "str") (.cons (.cmp .eq (.mth .join (.str []) (.cons (.lst (.cons (.var 0) .nil)) .nil)) (.var 1)) .nil))))
  .nil) .nil)
  (.cons (.ret (.and (.cons (.isi (.var 0) "int") (.cons (.not (.isi (.var 0) "bool")) (.cons (.cmp .eq (.var 0) (.var 1)) .nil)))))
  .nil))))))

abbrev d_14 : Df := ⟨"_law_like", ["told", "due", "k"], ["told", "due"], defArgs (top 23), defBody (top 23), defScope (top 23), a_law_like_u⟩

/-- 15: _law_row -/
def a_law_row_u : Sms :=
  (.cons (.asg (.name 2) (.new .nil))
  (.cons (.asg (.name 3) (.int 0))
  (.cons (.forr (.name 4) (.range1 (.bin .add (.int 1) (.call 12 (.cons (.var 0) (.cons (.var 1) .nil))))) (.cons (.asg (.name 5) (.call 13 (.cons (.var 0) (.cons (.lst (.cons (.str [121, 101, 115]) (.cons (.str [110, 111]) (.cons (.str [103, 97, 112]) (.cons (.str [99, 108, 97, 115, 104]) (.cons (.int 0) (.cons (.int 5) (.cons (.neg (.int 7)) (.cons (.int 100) (.cons (.int 9999999) (.cons (.int 10000000) (.cons (.int 50000000) (.cons (.neg (.int 50000000)) .nil))))))))))))) .nil))))
  (.cons (.ifs (.and (.cons (.cmp .lt (.var 3) (.int 20000)) (.cons (.or (.cons (.cmp .eq (.var 2) (.lst .nil)) (.cons (.cmp .ne (.ix (.ix (.var 2) (.neg (.int 1))) (.int 1)) (.var 5)) .nil))) .nil))) (.cons (.expr (.mth .append (.var 2) (.cons (.tup (.cons (.var 3) (.cons (.var 5) .nil))) .nil)))
  .nil) .nil)
  (.cons (.asg (.name 3) (.bin .add (.bin .add (.var 3) (.int 1)) (.call 13 (.cons (.var 0) (.cons (.lst (.cons (.int 0) (.cons (.int 3) (.cons (.int 30) (.cons (.int 9000) (.cons (.int 19995) .nil)))))) .nil)))))
  .nil))))
  (.cons (.ret (.blt .tuple (.cons (.var 2) .nil)))
  .nil))))

abbrev d_15 : Df := ⟨"_law_row", ["box", "many", "row", "day", "k", "answer"], ["box", "many"], defArgs (top 24), defBody (top 24), defScope (top 24), a_law_row_u⟩

/-- 16: _law_text -/
def a_law_text_u : Sms :=
  (.cons (.asg (.name 1) (.str []))
  (.cons (.forr (.tup (.cons (.name 2) (.cons (.name 3) .nil))) (.plain (.var 0)) (.cons (.asg (.name 1) (.bin .add (.bin .add (.bin .add (.var 1) (.str [107, 110, 111, 119, 110, 32])) (.blt .str (.cons (.var 2) .nil))) (.str [10])))
  (.cons (.forr (.tup (.cons (.name 4) (.cons (.name 5) .nil))) (.plain (.var 3)) (.cons (.asg (.name 1) (.bin .add (.bin .add (.bin .add (.bin .add (.bin .add (.var 1) (.str [32, 32])) (.blt .str (.cons (.var 4) .nil))) (.str [32])) (.ite (.not (.isi (.var 5) "str")) (.bin .add (.str [112, 97, 121, 115, 32]) (.blt .str (.cons (.var 5) .nil))) (.var 5))) (.str [10])))
  .nil))
  .nil)))
  (.cons (.ret (.var 1))
  .nil)))

abbrev d_16 : Df := ⟨"_law_text", ["map_rows", "text", "k", "row", "day", "answer"], ["map_rows"], defArgs (top 25), defBody (top 25), defScope (top 25), a_law_text_u⟩

/-- 17: _law_number -/
def a_law_number_u : Sms :=
  (.cons (.ifs (.or (.cons (.cmp .eq (.var 0) (.str [])) (.cons (.cmp .gt (.blt .len (.cons (.var 0) .nil)) (.int 9)) (.cons (.cmp .ne (.comp false [2] (.var 2) (.name 2) (.plain (.var 0)) (.some (.cmp .notIn (.var 2) (.str [48, 49, 50, 51, 52, 53, 54, 55, 56, 57])))) (.lst .nil)) (.cons (.and (.cons (.cmp .eq (.ix (.var 0) (.int 0)) (.str [48])) (.cons (.cmp .ne (.var 0) (.str [48])) .nil))) .nil))))) (.cons (.ret .non)
  .nil) .nil)
  (.cons (.ret (.ite (.cmp .le (.blt .int (.cons (.var 0) .nil)) (.var 1)) (.blt .int (.cons (.var 0) .nil)) .non))
  .nil))

abbrev d_17 : Df := ⟨"_law_number", ["word", "most", "sign"], ["word", "most"], defArgs (top 26), defBody (top 26), defScope (top 26), a_law_number_u⟩

/-- 18: _law_answer_of -/
def a_law_answer_of_u : Sms :=
  (.cons (.ifs (.and (.cons (.cmp .eq (.blt .len (.cons (.var 0) .nil)) (.int 1)) (.cons (.cmp .in_ (.ix (.var 0) (.int 0)) (.tup (.cons (.str [121, 101, 115]) (.cons (.str [110, 111]) (.cons (.str [103, 97, 112]) (.cons (.str [99, 108, 97, 115, 104]) .nil)))))) .nil))) (.cons (.ret (.ix (.var 0) (.int 0)))
  .nil) .nil)
  (.cons (.ifs (.and (.cons (.cmp .eq (.blt .len (.cons (.var 0) .nil)) (.int 2)) (.cons (.cmp .eq (.ix (.var 0) (.int 0)) (.str [112, 97, 121, 115])) .nil))) (.cons (.asg (.name 1) (.cmp .eq (.sl (.ix (.var 0) (.int 1)) .none (.some (.int 1))) (.str [45])))
  (.cons (.asg (.name 2) (.call 17 (.cons (.ite (.var 1) (.sl (.ix (.var 0) (.int 1)) (.some (.int 1)) .none) (.ix (.var 0) (.int 1))) (.cons (.int 50000000) .nil))))
  (.cons (.ifs (.and (.cons (.cmp .isN (.var 2) .non) (.cons (.not (.and (.cons (.var 1) (.cons (.cmp .eq (.var 2) (.int 0)) .nil)))) .nil))) (.cons (.ret (.ite (.var 1) (.bin .sub (.int 0) (.var 2)) (.var 2)))
  .nil) .nil)
  .nil))) .nil)
  (.cons (.ret .non)
  .nil)))

abbrev d_18 : Df := ⟨"_law_answer_of", ["words", "minus", "number"], ["words"], defArgs (top 27), defBody (top 27), defScope (top 27), a_law_answer_of_u⟩

/-- 19: _law_line -/
def a_law_line_u : Sms :=
  (.cons (.asg (.name 3) (.mth .split (.var 0) (.cons (.str [32]) .nil)))
  (.cons (.asg (.name 4) (.and (.cons (.cmp .eq (.blt .len (.cons (.var 3) .nil)) (.int 2)) (.cons (.cmp .eq (.ix (.var 3) (.int 0)) (.str [107, 110, 111, 119, 110])) (.cons (.cmp .ne (.ix (.var 3) (.int 1)) (.str [])) .nil)))))
  (.cons (.asg (.name 5) (.and (.cons (.cmp .ge (.blt .len (.cons (.var 3) .nil)) (.int 4)) (.cons (.cmp .eq (.sl (.var 3) .none (.some (.int 2))) (.lst (.cons (.str []) (.cons (.str []) .nil)))) (.cons (.cmp .notIn (.str []) (.sl (.var 3) (.some (.int 2)) .none)) .nil)))))
  (.cons (.ifs (.and (.cons (.cmp .eq (.var 2) (.str [107, 110, 111, 119, 110])) (.cons (.not (.var 4)) .nil))) (.cons (.ret (.str [110, 111, 32, 107, 110, 111, 119, 110]))
  .nil) .nil)
  (.cons (.ifs (.or (.cons (.and (.cons (.cmp .eq (.var 2) (.str [115, 116, 114, 101, 116, 99, 104])) (.cons (.not (.var 5)) .nil))) (.cons (.and (.cons (.not (.var 4)) (.cons (.not (.var 5)) .nil))) .nil))) (.cons (.ret (.str [110, 111, 32, 115, 116, 114, 101, 116, 99, 104]))
  .nil) .nil)
  (.cons (.asg (.name 6) (.call 17 (.cons (.ite (.var 4) (.ix (.var 3) (.int 1)) (.ix (.var 3) (.int 2))) (.cons (.int 19999) .nil))))
  (.cons (.ifs (.cmp .is (.var 6) .non) (.cons (.ret (.str [98, 97, 100, 32, 100, 97, 121]))
  .nil) .nil)
  (.cons (.ifs (.var 4) (.cons (.ret (.ite (.or (.cons (.and (.cons (.cmp .eq (.var 1) (.lst .nil)) (.cons (.cmp .ne (.var 6) (.int 0)) .nil))) (.cons (.and (.cons (.cmp .ne (.var 1) (.lst .nil)) (.cons (.cmp .le (.var 6) (.ix (.ix (.var 1) (.neg (.int 1))) (.int 0))) .nil))) .nil))) (.str [98, 97, 100, 32, 100, 97, 121]) (.lst (.cons (.str [107, 110, 111, 119, 110]) (.cons (.var 6) .nil)))))
  .nil) .nil)
  (.cons (.asg (.name 7) (.ix (.ix (.var 1) (.neg (.int 1))) (.int 1)))
  (.cons (.ifs (.or (.cons (.and (.cons (.cmp .eq (.var 7) (.lst .nil)) (.cons (.cmp .ne (.var 6) (.int 0)) .nil))) (.cons (.and (.cons (.cmp .ne (.var 7) (.lst .nil)) (.cons (.cmp .le (.var 6) (.ix (.ix (.var 7) (.neg (.int 1))) (.int 0))) .nil))) .nil))) (.cons (.ret (.str [98, 97, 100, 32, 100, 97, 121]))
  .nil) .nil)
  (.cons (.asg (.name 8) (.call 18 (.cons (.sl (.var 3) (.some (.int 3)) .none) .nil)))
  (.cons (.ifs (.cmp .is (.var 8) .non) (.cons (.ret (.str [98, 97, 100, 32, 97, 110, 115, 119, 101, 114]))
  .nil) .nil)
  (.cons (.ifs (.and (.cons (.cmp .ne (.var 7) (.lst .nil)) (.cons (.cmp .eq (.ix (.ix (.var 7) (.neg (.int 1))) (.int 1)) (.var 8)) .nil))) (.cons (.ret (.str [115, 97, 109, 101]))
  .nil) .nil)
  (.cons (.ret (.lst (.cons (.str [115, 116, 114, 101, 116, 99, 104]) (.cons (.var 6) (.cons (.var 8) .nil)))))
  .nil))))))))))))))

abbrev d_19 : Df := ⟨"_law_line", ["line", "rows", "due", "words", "known", "stretch", "number", "row", "answer"], ["line", "rows", "due"], defArgs (top 28), defBody (top 28), defScope (top 28), a_law_line_u⟩

/-- 20: _law_read -/
def a_law_read_u : Sms :=
  (.cons (.par 1 2 (.new .nil) (.new .nil))
  (.cons (.asg (.name 3) (.str [107, 110, 111, 119, 110]))
  (.cons (.asg (.name 4) (.mth .split (.var 0) (.cons (.str [10]) .nil)))
  (.cons (.forr (.name 5) (.range1 (.bin .sub (.blt .len (.cons (.var 4) .nil)) (.int 1))) (.cons (.asg (.name 6) (.call 19 (.cons (.ix (.var 4) (.var 5)) (.cons (.var 1) (.cons (.var 3) .nil)))))
  (.cons (.ifs (.and (.cons (.cmp .gt (.blt .len (.cons (.var 1) .nil)) (.int 1)) (.cons (.cmp .eq (.var 3) (.str [98, 111, 116, 104])) (.cons (.cmp .ne (.ix (.var 6) (.int 0)) (.str [115, 116, 114, 101, 116, 99, 104])) (.cons (.cmp .eq (.ix (.ix (.var 1) (.neg (.int 1))) (.int 1)) (.ix (.ix (.var 1) (.neg (.int 2))) (.int 1))) .nil))))) (.cons (.ret (.tup (.cons (.ix (.var 2) (.neg (.int 1))) (.cons (.str [115, 97, 109, 101]) .nil))))
  .nil) .nil)
  (.cons (.ifs (.isi (.var 6) "str") (.cons (.ret (.tup (.cons (.bin .add (.var 5) (.int 1)) (.cons (.var 6) .nil))))
  .nil) .nil)
  (.cons (.ifs (.cmp .eq (.ix (.var 6) (.int 0)) (.str [107, 110, 111, 119, 110])) (.cons (.expr (.mth .append (.var 1) (.cons (.lst (.cons (.ix (.var 6) (.int 1)) (.cons (.new .nil) .nil))) .nil)))
  (.cons (.expr (.mth .append (.var 2) (.cons (.bin .add (.var 5) (.int 1)) .nil)))
  (.cons (.asg (.name 3) (.str [115, 116, 114, 101, 116, 99, 104]))
  .nil))) (.cons (.expr (.mth .append (.ix (.ix (.var 1) (.neg (.int 1))) (.int 1)) (.cons (.tup (.cons (.ix (.var 6) (.int 1)) (.cons (.ix (.var 6) (.int 2)) .nil))) .nil)))
  (.cons (.asg (.name 3) (.str [98, 111, 116, 104]))
  .nil)))
  .nil)))))
  (.cons (.ifs (.and (.cons (.cmp .eq (.var 3) (.str [98, 111, 116, 104])) (.cons (.cmp .gt (.blt .len (.cons (.var 1) .nil)) (.int 1)) (.cons (.cmp .eq (.ix (.ix (.var 1) (.neg (.int 1))) (.int 1)) (.ix (.ix (.var 1) (.neg (.int 2))) (.int 1))) .nil)))) (.cons (.ret (.tup (.cons (.ix (.var 2) (.neg (.int 1))) (.cons (.str [115, 97, 109, 101]) .nil))))
  .nil) .nil)
  (.cons (.ifs (.or (.cons (.cmp .ne (.var 3) (.str [98, 111, 116, 104])) (.cons (.cmp .ne (.ix (.var 4) (.neg (.int 1))) (.str [])) .nil))) (.cons (.ret (.tup (.cons (.int 0) (.cons (.str [101, 110, 100, 115]) .nil))))
  .nil) .nil)
  (.cons (.ret (.blt .tuple (.cons (.comp false [7, 8] (.tup (.cons (.var 7) (.cons (.blt .tuple (.cons (.var 8) .nil)) .nil))) (.tup (.cons (.name 7) (.cons (.name 8) .nil))) (.plain (.var 1)) .none) .nil)))
  .nil)))))))

abbrev d_20 : Df := ⟨"_law_read", ["text", "rows", "places", "due", "lines", "at", "told", "k", "row"], ["text"], defArgs (top 29), defBody (top 29), defScope (top 29), a_law_read_u⟩

/-- 21: _law_told -/
def a_law_told_u : Sms :=
  (.cons (.trys "BadText" (some 1) (.cons (.ret (.lst (.cons (.str [103, 111, 111, 100]) (.cons (.call 4 (.cons (.var 0) .nil)) .nil))))
  .nil) (.cons (.ifs (.and (.cons (.isx (.var 1) "LawError") (.cons (.isx (.var 1) "ValueError") (.cons (.not (.isx (.var 1) "BadEntry")) .nil)))) (.cons (.ret (.lst (.cons (.str [98, 97, 100]) (.cons (.tup (.cons (.fld (.var 1) "place") (.cons (.fld (.var 1) "reason") .nil))) .nil))))
  .nil) .nil)
  .nil))
  (.cons (.ret (.lst (.cons (.str [63]) (.cons (.tup .nil) .nil))))
  .nil))

abbrev d_21 : Df := ⟨"_law_told", ["text", "e"], ["text"], defArgs (top 30), defBody (top 30), defScope (top 30), a_law_told_u⟩

/-- 22: _law_changed -/
def a_law_changed_u : Sms :=
  (.cons (.asg (.name 2) (.bin .mod (.blt .int (.cons (.call 12 (.cons (.var 0) (.cons (.int 900) .nil))) .nil)) (.blt .len (.cons (.var 1) .nil))))
  (.cons (.asg (.name 3) (.call 12 (.cons (.var 0) (.cons (.int 7) .nil))))
  (.cons (.asg (.name 4) (.lst (.cons (.str [107, 110, 111, 119, 110, 32, 48]) (.cons (.str [107, 110, 111, 119, 110, 32, 55]) (.cons (.str [107, 110, 111, 119, 110, 32, 120]) (.cons (.str [107, 110, 111, 119, 110]) (.cons (.str [107, 110, 111, 119, 110, 32, 48, 55]) (.cons (.str [32, 32, 48, 32, 121, 101, 115]) (.cons (.str [32, 32, 53, 32, 110, 111]) (.cons (.str [32, 32, 53, 32, 32, 110, 111]) (.cons (.str [32, 32, 48, 53, 32, 110, 111]) (.cons (.str [32, 32, 50, 48, 48, 48, 48, 32, 110, 111]) .nil))))))))))))
  (.cons (.asg (.name 4) (.bin .add (.var 4) (.lst (.cons (.str [32, 32, 57, 32, 112, 97, 121, 115, 32, 51]) (.cons (.str [32, 32, 57, 32, 112, 97, 121, 115, 32, 53, 48, 48, 48, 48, 48, 48, 48]) (.cons (.str [32, 32, 57, 32, 112, 97, 121, 115, 32, 53, 48, 48, 48, 48, 48, 48, 49]) (.cons (.str [32, 32, 57, 32, 112, 97, 121, 115, 32, 45, 53, 48, 48, 48, 48, 48, 48, 49]) (.cons (.str [32, 32, 57, 32, 112, 97, 121, 115, 32, 49, 50, 51, 52, 53, 54, 55, 56, 57]) (.cons (.str [32, 32, 57, 32, 112, 97, 121, 115, 32, 45, 48]) (.cons (.str [32, 32, 57, 32, 112, 97, 121, 115]) (.cons (.str [32, 32, 57, 32, 109, 97, 121, 98, 101]) (.cons (.str []) (.cons (.str [32, 32]) (.cons (.str [121, 101, 115]) (.cons (.str [32, 53, 32, 110, 111]) (.cons (.str [107, 110, 111, 119, 110, 32, 53, 32, 54]) .nil))))))))))))))))
  (.cons (.ifs (.cmp .eq (.var 3) (.int 0)) (.cons (.asg (.name 1) (.bin .add (.sl (.var 1) .none (.some (.var 2))) (.sl (.var 1) (.some (.bin .add (.var 2) (.int 1))) .none)))
  .nil) (.cons (.ifs (.cmp .eq (.var 3) (.int 1)) (.cons (.asg (.name 1) (.bin .add (.bin .add (.sl (.var 1) .none (.some (.var 2))) (.lst (.cons (.ix (.var 1) (.var 2)) .nil))) (.sl (.var 1) (.some (.var 2)) .none)))
  .nil) (.cons (.ifs (.cmp .lt (.var 3) (.int 4)) (.cons (.asg (.name 1) (.bin .add (.bin .add (.sl (.var 1) .none (.some (.var 2))) (.lst (.cons (.call 13 (.cons (.var 0) (.cons (.var 4) .nil))) .nil))) (.sl (.var 1) (.some (.bin .add (.var 2) (.blt .int (.cons (.cmp .eq (.var 3) (.int 2)) .nil)))) .none)))
  .nil) (.cons (.ifs (.cmp .eq (.var 3) (.int 4)) (.cons (.ret (.sl (.mth .join (.str []) (.cons (.comp false [5] (.bin .add (.var 5) (.str [10])) (.name 5) (.plain (.var 1)) .none) .nil)) .none (.some (.bin .sub (.neg (.int 1)) (.call 12 (.cons (.var 0) (.cons (.int 9) .nil)))))))
  .nil) (.cons (.ifs (.cmp .eq (.var 3) (.int 5)) (.cons (.asg (.name 6) (.comp false [7] (.var 7) (.name 7) (.range1 (.blt .len (.cons (.var 1) .nil))) (.some (.cmp .eq (.sl (.ix (.var 1) (.var 7)) .none (.some (.int 5))) (.str [107, 110, 111, 119, 110])))))
  (.cons (.asg (.name 1) (.bin .add (.bin .add (.var 1) (.lst (.cons (.str [107, 110, 111, 119, 110, 32, 49, 57, 57, 57, 57]) .nil))) (.sl (.var 1) (.some (.bin .add (.ix (.var 6) (.neg (.int 1))) (.int 1))) .none)))
  .nil)) .nil)
  .nil))
  .nil))
  .nil))
  .nil))
  (.cons (.ret (.mth .join (.str []) (.cons (.comp false [5] (.bin .add (.var 5) (.str [10])) (.name 5) (.plain (.var 1)) .none) .nil)))
  .nil))))))

abbrev d_22 : Df := ⟨"_law_changed", ["box", "lines", "at", "kind", "words", "line", "starts", "k"], ["box", "lines"], defArgs (top 31), defBody (top 31), defScope (top 31), a_law_changed_u⟩

/-- 23: law -/
def a_law : Sms :=
  (.cons (.asg (.name 1) (.new (.cons (.call 11 (.cons (.var 0) (.cons (.int 0) (.cons (.int 63) .nil)))) (.cons (.int 0) .nil))))
  (.cons (.forr (.name 2) (.range1 (.int 4)) (.cons (.asg (.name 3) (.new .nil))
  (.cons (.asg (.name 4) (.int 0))
  (.cons (.forr (.name 5) (.range1 (.bin .add (.int 1) (.call 12 (.cons (.var 1) (.cons (.int 3) .nil))))) (.cons (.asg (.name 9) (.call 15 (.cons (.var 1) (.cons (.int 3) .nil))))
  (.cons (.ifs (.or (.cons (.cmp .eq (.var 3) (.lst .nil)) (.cons (.cmp .ne (.ix (.ix (.var 3) (.neg (.int 1))) (.int 1)) (.var 9)) .nil))) (.cons (.expr (.mth .append (.var 3) (.cons (.tup (.cons (.var 4) (.cons (.var 9) .nil))) .nil)))
  .nil) .nil)
  (.cons (.asg (.name 4) (.bin .add (.bin .add (.var 4) (.int 1)) (.call 12 (.cons (.var 1) (.cons (.int 30) .nil)))))
  .nil))))
  (.cons (.asg (.name 6) (.call 16 (.cons (.var 3) .nil)))
  (.cons (.ifs (.or (.cons (.not (.call 14 (.cons (.call 2 (.cons (.blt .tuple (.cons (.var 3) .nil)) .nil)) (.cons (.var 6) .nil)))) (.cons (.not (.call 14 (.cons (.ix (.call 21 (.cons (.var 6) .nil)) (.int 1)) (.cons (.blt .tuple (.cons (.var 3) .nil)) .nil)))) .nil))) (.cons (.ret (.bl false))
  .nil) .nil)
  (.cons (.asg (.name 6) (.call 22 (.cons (.var 1) (.cons (.sl (.mth .split (.var 6) (.cons (.str [10]) .nil)) .none (.some (.neg (.int 1)))) .nil))))
  (.cons (.asg (.name 7) (.call 20 (.cons (.var 6) .nil)))
  (.cons (.asg (.name 8) (.call 21 (.cons (.var 6) .nil)))
  (.cons (.ifs (.or (.cons (.cmp .ne (.ix (.var 8) (.int 0)) (.ite (.and (.cons (.cmp .ne (.var 7) (.tup .nil)) (.cons (.isi (.ix (.var 7) (.int 0)) "tuple") .nil))) (.str [103, 111, 111, 100]) (.str [98, 97, 100]))) (.cons (.not (.call 14 (.cons (.ix (.var 8) (.int 1)) (.cons (.var 7) .nil)))) .nil))) (.cons (.ret (.bl false))
  .nil) .nil)
  .nil))))))))))
  (.cons (.ret (.bl true))
  .nil)))

abbrev d_23 : Df := ⟨"law", ["script", "box", "turn", "rows", "k", "part", "text", "due", "told", "row"], ["script"], defArgs (top 32), defBody (top 32), defScope (top 32), a_law⟩


def defs : List Df := [d_0, d_1, d_2, d_3, d_4, d_5, d_6, d_7, d_8, d_9, d_10, d_11, d_12, d_13, d_14, d_15, d_16, d_17, d_18, d_19, d_20, d_21, d_22, d_23]
def tb (f : Nat) : Option Df := defs[f]?
def T : Tb where
  dn := fun f => (defs[f]?).map (·.x)
  cn := fun x => if x = 0 then some "BadText" else none
  ix := ["LawError", "ValueError", "BadEntry"]
  hn := ["BadText"]
def P : Par where
  fn := fun _ _ _ => .bad
  gc := fun y => if y = "LAST_DAY" then some (.int 19999) else if y = "MOST_AMOUNT" then some (.int 50000000) else none
  fuel := 1000
  xf := fun x => if x = 0 then ["reason", "place"] else []
  mke := fun x => if x = 0 then mkD .pr else fun _ => none
  exm := fun h x => if h = "BadText" ∧ x = 0 then some true else none
  isx := fun x ty => if x = 0 then (if ty = "LawError" then some true else if ty = "ValueError" then some true else if ty = "BadEntry" then some false else none) else none
  ex := none
theorem ok_0 : d_0.ok T = true := by decide +kernel
theorem ok_1 : d_1.ok T = true := by decide +kernel
theorem ok_2 : d_2.ok T = true := by decide +kernel
theorem ok_3 : d_3.ok T = true := by decide +kernel
theorem ok_4 : d_4.ok T = true := by decide +kernel
theorem ok_5 : d_5.ok T = true := by decide +kernel
theorem ok_6 : d_6.ok T = true := by decide +kernel
theorem ok_7 : d_7.ok T = true := by decide +kernel
theorem ok_8 : d_8.ok T = true := by decide +kernel
theorem ok_9 : d_9.ok T = true := by decide +kernel
theorem ok_10 : d_10.ok T = true := by decide +kernel
theorem ok_11 : d_11.ok T = true := by decide +kernel
theorem ok_12 : d_12.ok T = true := by decide +kernel
theorem ok_13 : d_13.ok T = true := by decide +kernel
theorem ok_14 : d_14.ok T = true := by decide +kernel
theorem ok_15 : d_15.ok T = true := by decide +kernel
theorem ok_16 : d_16.ok T = true := by decide +kernel
theorem ok_17 : d_17.ok T = true := by decide +kernel
theorem ok_18 : d_18.ok T = true := by decide +kernel
theorem ok_19 : d_19.ok T = true := by decide +kernel
theorem ok_20 : d_20.ok T = true := by decide +kernel
theorem ok_21 : d_21.ok T = true := by decide +kernel
theorem ok_22 : d_22.ok T = true := by decide +kernel
theorem ok_23 : d_23.ok T = true := by decide +kernel
end K25
set_option Elab.async false
set_option linter.all false
set_option maxRecDepth 100000
set_option maxHeartbeats 0
/-! K25H: the head of k25. -/
namespace K25
open PySem PySem.Spec PyProof.Rows L2 DL
theorem b_0 : d_0.B := fun _ _ _ _ _ _ us hl => match us, hl with | [_, _, _], _ => rfl
theorem b_1 : d_1.B := fun _ _ _ _ _ _ us hl => match us, hl with | [_], _ => rfl
theorem b_2 : d_2.B := fun _ _ _ _ _ _ us hl => match us, hl with | [_], _ => rfl
theorem b_3 : d_3.B := fun _ _ _ _ _ _ us hl => match us, hl with | [_], _ => rfl
theorem b_4 : d_4.B := fun _ _ _ _ _ _ us hl => match us, hl with | [_], _ => rfl
theorem b_5 : d_5.B := fun _ _ _ _ _ _ us hl => match us, hl with | [_], _ => rfl
theorem b_6 : d_6.B := fun _ _ _ _ _ _ us hl => match us, hl with | [_, _], _ => rfl
theorem b_7 : d_7.B := fun _ _ _ _ _ _ us hl => match us, hl with | [_, _], _ => rfl
theorem b_8 : d_8.B := fun _ _ _ _ _ _ us hl => match us, hl with | [_], _ => rfl
theorem b_9 : d_9.B := fun _ _ _ _ _ _ us hl => match us, hl with | [_], _ => rfl
theorem b_10 : d_10.B := fun _ _ _ _ _ _ us hl => match us, hl with | [_, _], _ => rfl
theorem b_11 : d_11.B := fun _ _ _ _ _ _ us hl => match us, hl with | [_, _, _], _ => rfl
theorem b_12 : d_12.B := fun _ _ _ _ _ _ us hl => match us, hl with | [_, _], _ => rfl
theorem b_13 : d_13.B := fun _ _ _ _ _ _ us hl => match us, hl with | [_, _], _ => rfl
theorem b_14 : d_14.B := fun _ _ _ _ _ _ us hl => match us, hl with | [_, _], _ => rfl
theorem b_15 : d_15.B := fun _ _ _ _ _ _ us hl => match us, hl with | [_, _], _ => rfl
theorem b_16 : d_16.B := fun _ _ _ _ _ _ us hl => match us, hl with | [_], _ => rfl
theorem b_17 : d_17.B := fun _ _ _ _ _ _ us hl => match us, hl with | [_, _], _ => rfl
theorem b_18 : d_18.B := fun _ _ _ _ _ _ us hl => match us, hl with | [_], _ => rfl
theorem b_19 : d_19.B := fun _ _ _ _ _ _ us hl => match us, hl with | [_, _, _], _ => rfl
theorem b_20 : d_20.B := fun _ _ _ _ _ _ us hl => match us, hl with | [_], _ => rfl
theorem b_21 : d_21.B := fun _ _ _ _ _ _ us hl => match us, hl with | [_], _ => rfl
theorem b_22 : d_22.B := fun _ _ _ _ _ _ us hl => match us, hl with | [_, _], _ => rfl
theorem b_23 : d_23.B := fun _ _ _ _ _ _ us hl => match us, hl with | [_], _ => rfl
theorem bs : ∀ d ∈ defs, d.B := List.forall_mem_cons.mpr ⟨b_0, List.forall_mem_cons.mpr ⟨b_1, List.forall_mem_cons.mpr ⟨b_2, List.forall_mem_cons.mpr ⟨b_3, List.forall_mem_cons.mpr ⟨b_4, List.forall_mem_cons.mpr ⟨b_5, List.forall_mem_cons.mpr ⟨b_6, List.forall_mem_cons.mpr ⟨b_7, List.forall_mem_cons.mpr ⟨b_8, List.forall_mem_cons.mpr ⟨b_9, List.forall_mem_cons.mpr ⟨b_10, List.forall_mem_cons.mpr ⟨b_11, List.forall_mem_cons.mpr ⟨b_12, List.forall_mem_cons.mpr ⟨b_13, List.forall_mem_cons.mpr ⟨b_14, List.forall_mem_cons.mpr ⟨b_15, List.forall_mem_cons.mpr ⟨b_16, List.forall_mem_cons.mpr ⟨b_17, List.forall_mem_cons.mpr ⟨b_18, List.forall_mem_cons.mpr ⟨b_19, List.forall_mem_cons.mpr ⟨b_20, List.forall_mem_cons.mpr ⟨b_21, List.forall_mem_cons.mpr ⟨b_22, List.forall_mem_cons.mpr ⟨b_23, List.forall_mem_nil _⟩⟩⟩⟩⟩⟩⟩⟩⟩⟩⟩⟩⟩⟩⟩⟩⟩⟩⟩⟩⟩⟩⟩⟩
theorem oks : ∀ d ∈ defs, d.ok T = true := List.forall_mem_cons.mpr ⟨ok_0, List.forall_mem_cons.mpr ⟨ok_1, List.forall_mem_cons.mpr ⟨ok_2, List.forall_mem_cons.mpr ⟨ok_3, List.forall_mem_cons.mpr ⟨ok_4, List.forall_mem_cons.mpr ⟨ok_5, List.forall_mem_cons.mpr ⟨ok_6, List.forall_mem_cons.mpr ⟨ok_7, List.forall_mem_cons.mpr ⟨ok_8, List.forall_mem_cons.mpr ⟨ok_9, List.forall_mem_cons.mpr ⟨ok_10, List.forall_mem_cons.mpr ⟨ok_11, List.forall_mem_cons.mpr ⟨ok_12, List.forall_mem_cons.mpr ⟨ok_13, List.forall_mem_cons.mpr ⟨ok_14, List.forall_mem_cons.mpr ⟨ok_15, List.forall_mem_cons.mpr ⟨ok_16, List.forall_mem_cons.mpr ⟨ok_17, List.forall_mem_cons.mpr ⟨ok_18, List.forall_mem_cons.mpr ⟨ok_19, List.forall_mem_cons.mpr ⟨ok_20, List.forall_mem_cons.mpr ⟨ok_21, List.forall_mem_cons.mpr ⟨ok_22, List.forall_mem_cons.mpr ⟨ok_23, List.forall_mem_nil _⟩⟩⟩⟩⟩⟩⟩⟩⟩⟩⟩⟩⟩⟩⟩⟩⟩⟩⟩⟩⟩⟩⟩⟩
abbrev sInit : Stmt := match top 7 with
  | .ClassDef _ _ _ b _ _ _ _ _ _ _ => b.getD 0 (.Pass ⟨0, 0, 0, 0⟩)
  | _ => .Pass ⟨0, 0, 0, 0⟩
def dI : He.DefD := ⟨("BadText", some "__init__"), "__init__", "BadText.__init__", defArgs sInit, defBody sInit, defScope sInit, [], []⟩
theorem ibody : InitBody .pr (defBody sInit) := InitBody.pr rfl
theorem iscope : FnScope Ek.pr.ps Ek.pr.ps (defScope sInit) := C8.fnScope_by (by decide +kernel)
theorem ibind {kV doc pm : Value} {an : Option Addr} {cdv ct : Value} {us : List Value} (hl : us.length = Ek.pr.ps.length) : bindArgs (PySem.W.fnOf "__init__" "BadText.__init__" (defArgs sInit) (defBody sInit) (defScope sInit) .none kV doc pm an cdv ct) ⟨us, []⟩ = pure (Ek.pr.ps.zip us) :=
  match us, hl with | [_, _, _], _ => rfl
def fn : List He.DefD := dI :: defs.map Df.d
def fa : List He.Fa := defs.map (fun d => .glo d.x) ++ bltNames.map .free ++ [.glo "BadText", .glo "LawError", .glo "BadEntry", .free "ValueError", .int "LAST_DAY" 19999, .int "MOST_AMOUNT" 50000000]
/-- the looks at the error classes -/
def ex (K : PySem.W.Frag) : Bool := headB K (He.ga K "LawError") && oexB K (He.ga K "BadText") && xfB K (He.ga K "BadText") && excB K (He.ga K "BadText") && decide (PySem.W.findIn K (.ref (He.ga K "BadText")) "reason" = some none) && decide (PySem.W.findIn K (.ref (He.ga K "BadText")) "place" = some none)
  && decide (PySem.W.findIn K (.ref (He.ga K "BadText")) "__init__" = some (some (.ref (He.ma K (He.ga K "BadText") "__init__")))) && decide (PySem.W.typeIn K (.ref (He.ma K (He.ga K "BadText") "__init__")) = some (.type "function"))
  && decide (PySem.W.exmOne K (.ref (He.ga K "BadText")) (.ref (He.ga K "BadText")) = some true) && decide (PySem.W.kitOne K (.ref (He.ga K "BadText")) (.ref (He.ga K "LawError")) = some true)
  && decide (PySem.W.kitOne K (.ref (He.ga K "BadText")) (.ref (He.ga K "BadEntry")) = some false) && decide (PySem.W.kitOne K (.ref (He.ga K "BadText")) (.type "ValueError") = some true)
abbrev Ro : PySem.W.OpenRow := PySem.W.OpenLaw.row PySem.Challenge.rw_bothdays_k25_maps_texts
abbrev hk : PySem.W.Hook := hookE 6 fa fn ex
def ob (s : PySem.W.SharedT) : He.AlD × Bool := obsE 6 fa fn ex (HandSHeadRun.getT s)
theorem ob_eq (s : PySem.W.SharedT) : ob s = hk.obs s.abs := obsE_eq (HandSHeadRun.getT_eq s)
def loose1 : List PySem.Str := ["BadEntry", "BadText", "LAST_DAY", "LawError", "MOST_AMOUNT", "__name__", "_answer", "_end_row", "_fault", "_follows", "_law_answer_of", "_law_cell", "_law_changed", "_law_digits"]
def loose2 : List PySem.Str := ["_law_draw", "_law_like", "_law_line", "_law_number", "_law_pick", "_law_read", "_law_row", "_law_text", "_law_told", "_number", "_shown", "is_answer", "is_whole", "read_map", "show_map"]
def loose : List PySem.Str := loose1 ++ loose2
theorem runs (w : World) : HandSHeadRun.RunEq Ro (PySem.W.view Ro.prog [32]) hk ob 2000 loose w := by
  intro os
  kernel_rfl

def Gk (K : PySem.W.Frag) : Gb where
  K := K
  fa := fun f => (defs[f]?).map fun d => He.ga K d.x
  ca := fun x => if x = 0 then some (He.ga K "BadText") else none
  xf := fun x => if x = 0 then ["reason", "place"] else []
theorem glo_mem {d : Df} (h : d ∈ defs) : He.Fa.glo d.x ∈ fa := List.mem_append_left _ (List.mem_append_left _ (List.mem_map.mpr ⟨d, h, rfl⟩))
theorem free_mem {b : Str} (h : b ∈ bltNames) : He.Fa.free b ∈ fa := List.mem_append_left _ (List.mem_append_right _ (List.mem_map.mpr ⟨b, h, rfl⟩))
theorem ext_mem {f : He.Fa} (h : f ∈ [He.Fa.glo "BadText", .glo "LawError", .glo "BadEntry", .free "ValueError", .int "LAST_DAY" 19999, .int "MOST_AMOUNT" 50000000]) : f ∈ fa := List.mem_append_right _ h
theorem bk {prog : Program} {w : World} {K : PySem.W.Frag} {h base : Heap} {mg : Str → Option Value} (X : K.In h) (G : h.Ns mainGlobals mg) (c : He.SaysD fa fn K) (e : ex K = true) : Bk tb T (Gk K) P prog w K mg base := by
  have gl : ∀ d ∈ defs, mg d.x = some (.ref (He.ga K d.x)) := fun d hd => He.glo_ok X G (c.facts (glo_mem hd))
  have gB : mg "BadText" = some (.ref (He.ga K "BadText")) := He.glo_ok X G (c.facts (ext_mem (by simp)))
  have gL : mg "LawError" = some (.ref (He.ga K "LawError")) := He.glo_ok X G (c.facts (ext_mem (by simp)))
  have gE : mg "BadEntry" = some (.ref (He.ga K "BadEntry")) := He.glo_ok X G (c.facts (ext_mem (by simp)))
  have gV : mg "ValueError" = none := He.free_ok X G (c.facts (ext_mem (by simp)))
  obtain ⟨t1, i1⟩ := He.int_ok X G (c.facts (ext_mem (f := .int "LAST_DAY" 19999) (by simp)))
  obtain ⟨t2, i2⟩ := He.int_ok X G (c.facts (ext_mem (f := .int "MOST_AMOUNT" 50000000) (by simp)))
  unfold ex at e
  simp only [Bool.and_eq_true, decide_eq_true_eq] at e
  obtain ⟨⟨⟨⟨⟨⟨⟨⟨⟨⟨⟨e1, e2⟩, e3⟩, e4⟩, e5⟩, e6⟩, e7⟩, e8⟩, e9⟩, e10⟩, e11⟩, e12⟩ := e
  have xf := xfB_ok e3
  obtain ⟨fdI, FI⟩ := c.defs (d := dI) (List.mem_cons_self)
  refine { eK := rfl, df := fun f a hf => ?_, dn := fun f x hf => ?_, gc := fun y d hy => ?_, bl := fun b hb => He.free_ok X G (c.facts (free_mem hb)), xf := rfl, ix := fun ty hty => ?_, cl := ⟨fun x y hx => ?_, fun hh hhm => ?_, fun x C hC => ?_⟩ }
  · obtain ⟨d, hd, rfl⟩ := Option.map_eq_some_iff.mp hf
    have hm : d ∈ defs := List.mem_of_getElem? hd
    obtain ⟨fd, F⟩ := c.defs (d := d.d) (List.mem_cons_of_mem _ (List.mem_map.mpr ⟨d, hm, rfl⟩))
    exact ⟨d, fd, hd, oks d hm, F, FunD.bindsN F (bs d hm)⟩
  · obtain ⟨d, hd, rfl⟩ := Option.map_eq_some_iff.mp hf
    exact ⟨He.ga K d.x, gl d (List.mem_of_getElem? hd), by show (defs[f]?).map _ = _; rw [hd]; rfl⟩
  · have hy : (if y = "LAST_DAY" then some (DL.D.int 19999) else if y = "MOST_AMOUNT" then some (DL.D.int 50000000) else none) = some d := hy
    split at hy
    · rename_i z
      subst z
      cases hy
      exact ⟨_, .int 19999, i1, ⟨_, rfl⟩, fun _ _ => mk_int⟩
    · split at hy
      · rename_i z
        subst z
        cases hy
        exact ⟨_, .int 50000000, i2, ⟨_, rfl⟩, fun _ _ => mk_int⟩
      · cases hy
  · have hty : ty = "LawError" ∨ ty = "ValueError" ∨ ty = "BadEntry" := by simpa [T] using hty
    have hC0 : ∀ {x : Nat} {C : Addr}, (Gk K).ca x = some C → x = 0 ∧ C = He.ga K "BadText" := fun {x C} h => by
      have h : (if x = 0 then some (He.ga K "BadText") else none) = some C := h
      split at h
      · cases h
        exact ⟨by assumption, rfl⟩
      · cases h
    rcases hty with rfl | rfl | rfl
    · refine .inl ⟨_, gL, fun x C b hC hb => ?_⟩
      obtain ⟨rfl, rfl⟩ := hC0 hC
      have hb' : P.isx 0 "LawError" = some true := by decide +kernel
      rw [hb'] at hb
      cases hb
      exact e10
    · refine .inr ⟨"ValueError", gV, by decide +kernel, fun x C b hC hb => ?_⟩
      obtain ⟨rfl, rfl⟩ := hC0 hC
      have hb' : P.isx 0 "ValueError" = some true := by decide +kernel
      rw [hb'] at hb
      cases hb
      exact e12
    · refine .inl ⟨_, gE, fun x C b hC hb => ?_⟩
      obtain ⟨rfl, rfl⟩ := hC0 hC
      have hb' : P.isx 0 "BadEntry" = some false := by decide +kernel
      rw [hb'] at hb
      cases hb
      exact e11
  · have hx : x = 0 ∧ y = "BadText" := by
      have hx : (if x = 0 then some ("BadText" : Str) else none) = some y := hx
      split at hx
      · cases hx
        exact ⟨by assumption, rfl⟩
      · cases hx
    obtain ⟨rfl, rfl⟩ := hx
    exact ⟨He.ga K "BadText", He.ma K (He.ga K "BadText") "__init__", fdI, .pr, rfl, gB, rfl, rfl, oexB_ok e2, e7, e8, init_ok FI iscope ibody (by decide +kernel) gL (headB_ok e1), FunD.bindsN FI fun _ _ _ _ _ _ us hl => ibind hl⟩
  · have hh' : hh = "BadText" := by simpa [T] using hhm
    subst hh'
    refine ⟨.ref (He.ga K "BadText"), .inl gB, fun x C b hC hb => ?_⟩
    have hC : (if x = 0 then some (He.ga K "BadText") else none) = some C := hC
    split at hC
    · rename_i z
      subst z
      cases hC
      have hb' : P.exm "BadText" 0 = some true := by decide +kernel
      rw [hb'] at hb
      cases hb
      exact e9
    · cases hC
  · have hC : (if x = 0 then some (He.ga K "BadText") else none) = some C := hC
    split at hC
    · rename_i z
      subst z
      cases hC
      refine ⟨xf, excB_ok xf e4, fun n hn => ?_⟩
      have hn : n = "reason" ∨ n = "place" := by simpa [Gk] using hn
      rcases hn with rfl | rfl
      · exact e5
      · exact e6
    · cases hC
end K25
section
open PySem PySem.W PySem.Calls PyProof.Rows
/-- the law, where the meaning tells True -/
theorem k25_of {D : Nat} (hD : D + 2 ≤ 60) (hF : ∀ ns : List Int, ns.length ≤ 63 → DL.run K25.tb K25.P D 23 [.scr ns] [] = .ok (.bl true) []) : PySem.Challenge.rw_bothdays_k25_maps_texts.Holds := by
  w_on; o_law
  refine HandSHeadRun.head_any (r := OpenLaw.row PySem.Challenge.rw_bothdays_k25_maps_texts) (q := view (OpenLaw.row PySem.Challenge.rw_bothdays_k25_maps_texts).prog [32]) (H := K25.hk) (ob := K25.ob) (M := 2000) (loose := K25.loose) (d := HandSHeadRun.topDef (OpenLaw.row PySem.Challenge.rw_bothdays_k25_maps_texts).prog 32) (kwd := []) K25.ob_eq
    (by kernel_rfl) (fun s => by kernel_rfl) K25.runs (by kernel_rfl) (by kernel_rfl) (by kernel_rfl) (by rfl) (by first | assumption | decide +kernel) (by decide +kernel) ⟨rfl, rfl, rfl, rfl, rfl, by decide +kernel⟩ ?hw ?hc
  case hw => w_witness2
  case hc =>
    refine DL.walk_dl (l := PySem.Challenge.rw_bothdays_k25_maps_texts) (n := 63) (k := D + 2) (x := "script") rfl (by decide) (by kernel_rfl) (L2.Room.mono ⟨rfl, by decide, by decide⟩ hD) ?F
    intro w mg fa h Y G hmg0
    obtain ⟨K, KX, c, e⟩ := Y
    have hmg : mg ("law" : PySem.Str) = some (.ref fa) := by
      have e : (HandSHeadRun.topDef (OpenLaw.row PySem.Challenge.rw_bothdays_k25_maps_texts).prog 32).name = ("law" : PySem.Str) := by kernel_rfl
      rw [← e]
      exact hmg0
    have hl : K25.d_23 ∈ K25.defs := List.mem_of_getElem? (i := 23) rfl
    have e0 : fa = He.ga K "law" := by
      have z := hmg.symm.trans (He.glo_ok KX G (c.facts (K25.glo_mem hl)))
      cases z
      rfl
    subst e0
    obtain ⟨fd, F⟩ := c.defs (d := K25.d_23.d) (List.mem_cons_of_mem _ (List.mem_map.mpr ⟨_, hl, rfl⟩))
    have b := L2.FunD.bindsA (ps := ["script"]) F (K25.b_23)
    refine ⟨K, fd, K25.Gk K, DL.run K25.tb K25.P D 23, KX, rfl, fun s v => b s [v] rfl, hF, fun base _ _ => ?_⟩
    have B := K25.bk (prog := PySem.Challenge.rw_bothdays_k25_maps_texts.prog) (w := w) (base := base) KX G c e
    exact DL.run_fn B D (d := K25.d_23) rfl (K25.oks _ hl) F

end
set_option Elab.async false
set_option linter.all false
set_option maxRecDepth 100000
set_option maxHeartbeats 1000000
/-! M0: the meaning, step by step: rows for simp. -/
namespace DL
open PySem L2
section
variable {t : Tg} {b : MS} {r : DL.Loc} {S : Sto} {d : DL.D} {ds : List DL.D}
@[simp] theorem forG_nil : forG none t b [] r S = .nx r S := by simp [forG, gdOk]
@[simp] theorem forG_cons : forG none t b (d :: ds) r S = (asgS t d r S).seq fun r2 S2 => (b r2 S2).turn (forG none t b ds) := by simp [forG, gdOk]
theorem forG_nilg {i : Nat} {es : List DL.D} (h : S[i]? = some (.lst es)) : forG (some (i, es)) t b [] r S = .nx r S := by simp [forG, gdOk, h]
theorem forG_consg {i : Nat} {es : List DL.D} (h : S[i]? = some (.lst es)) : forG (some (i, es)) t b (d :: ds) r S = (asgS t d r S).seq fun r2 S2 => (b r2 S2).turn (forG (some (i, es)) t b ds) := by simp [forG, gdOk, h]
/-- a loop over an invariant: Inv i r S holds ahead of item i -/
theorem forG_inv {gd : Gd} {its : List DL.D} (Inv : Nat → DL.Loc → Sto → Prop) (h0 : Inv 0 r S) (hg : ∀ i r S, i ≤ its.length → Inv i r S → gdOk gd S)
    (hs : ∀ i r S d, its[i]? = some d → Inv i r S → ∃ r2, asg t d r = some r2 ∧ ∃ r3 S3, (b r2 S = .nx r3 S3 ∨ b r2 S = .ct r3 S3) ∧ Inv (i + 1) r3 S3) : ∃ r3 S3, forG gd t b its r S = .nx r3 S3 ∧ Inv its.length r3 S3 := by
  suffices H : ∀ (n i : Nat) (r : DL.Loc) (S : Sto), i + n = its.length → Inv i r S → ∃ r3 S3, forG gd t b (its.drop i) r S = .nx r3 S3 ∧ Inv its.length r3 S3 by
    exact H its.length 0 r S (by omega) h0
  intro n
  induction n with
  | zero =>
    intro i r S hi h
    have : i = its.length := by omega
    subst this
    rw [List.drop_length]
    refine ⟨r, S, ?_, h⟩
    have := hg _ r S (Nat.le_refl _) h
    simp [forG, this]
  | succ n ih =>
    intro i r S hi h
    have hl : i < its.length := by omega
    have hg' := hg i r S (by omega) h
    obtain ⟨r2, h1, r3, S3, h2, h3⟩ := hs i r S its[i] (by simp [hl]) h
    obtain ⟨r4, S4, h4, h5⟩ := ih (i + 1) r3 S3 (by omega) h3
    refine ⟨r4, S4, ?_, h5⟩
    rw [List.drop_eq_getElem_cons hl]
    simp only [forG, hg', if_true, asgS, h1, seq_nx]
    rcases h2 with h2 | h2
    · rw [h2, turn_nx, h4]
    · rw [h2, turn_ct, h4]
@[simp] theorem compG_nil0 {g : DL.D → Sto → Re (Option DL.D)} : compG none g [] S = .ok [] S := by simp [compG, gdOk]
@[simp] theorem compG_cons0 {g : DL.D → Sto → Re (Option DL.D)} : compG none g (d :: ds) S = (g d S).bind fun o S1 => (compG none g ds S1).bind fun r S2 => .ok (o.toList ++ r) S2 := by simp [compG, gdOk]
/-- a comprehension whose parts leave the store -/
theorem compG_map {gd : Gd} {g : DL.D → Sto → Re (Option DL.D)} {its : List DL.D} {f : DL.D → Option DL.D} (hg : gdOk gd S) (h : ∀ d ∈ its, g d S = .ok (f d) S) : compG gd g its S = .ok (its.filterMap f) S := by
  induction its with
  | nil => simp [compG, hg]
  | cons d ds ih =>
    have h1 := h d (List.mem_cons_self)
    have h2 := ih fun d hd => h d (List.mem_cons_of_mem _ hd)
    simp only [compG, hg, if_true, h1, bind_ok, h2, List.filterMap_cons]
    cases f d <;> rfl
end
@[simp] theorem quiet_ok' {α : Type} {a : α} {S : Sto} : (Re.ok a S).quiet = .ok a S := rfl
/-- a def at work: its body's end -/
theorem run_of {tb : Nat → Option Df} {P : Par} {k f : Nat} {d : Df} {ds : List DL.D} {S S2 : Sto} {e : DL.D} {x : Rs} (h : tb f = some d) (hl : ds.length = d.ps.length) (hx : semSs d.ast { P with fn := run tb P k } (startL d.N.length ds) S = x) (hf : finish S x = .ok e S2) : run tb P (k + 1) f ds S = .ok e S2 := by
  rw [run_succ h hl, hx, hf]
/-- nothing of the store changed -/
theorem okPre_refl (S : Sto) : okPre S S := ⟨Nat.le_refl _, fun _ _ _ h => .inl h⟩
theorem okPre_app (S T : Sto) : okPre S (S ++ T) := ⟨by simp, fun j o hj h => .inl (by rw [List.getElem?_append_left hj] at h; exact h)⟩
@[simp] theorem fin_ret {S : Sto} {d : DL.D} (h : thaw S.length S d = some d) : finish S (.ret d S) = .ok d S := by
  unfold finish
  simp only [h, okPre_refl, if_true]
  rw [List.take_length]
theorem fin_retT {S T : Sto} {d e : DL.D} (h : thaw S.length (S ++ T) d = some e) : finish S (.ret d (S ++ T)) = .ok e S := by
  unfold finish
  simp only [h, okPre_app, if_true]
  rw [List.take_left]
/-- a loop over an invariant, with a way out -/
theorem forG_inv2 {gd : Gd} {t : Tg} {b : MS} {r : DL.Loc} {S : Sto} {its : List DL.D} (Inv : Nat → DL.Loc → Sto → Prop) (Q : DL.Loc → Sto → Prop) (h0 : Inv 0 r S) (hg : ∀ i r S, i ≤ its.length → Inv i r S → gdOk gd S) (hq : ∀ r S, Inv its.length r S → Q r S)
    (hs : ∀ i r S d, its[i]? = some d → Inv i r S → ∃ r2, asg t d r = some r2 ∧ ∃ r3 S3, ((b r2 S = .nx r3 S3 ∨ b r2 S = .ct r3 S3) ∧ Inv (i + 1) r3 S3) ∨ (b r2 S = .brk r3 S3 ∧ Q r3 S3)) : ∃ r3 S3, forG gd t b its r S = .nx r3 S3 ∧ Q r3 S3 := by
  suffices H : ∀ (n i : Nat) (r : DL.Loc) (S : Sto), i + n = its.length → Inv i r S → ∃ r3 S3, forG gd t b (its.drop i) r S = .nx r3 S3 ∧ Q r3 S3 by
    exact H its.length 0 r S (by omega) h0
  intro n
  induction n with
  | zero =>
    intro i r S hi h
    have : i = its.length := by omega
    subst this
    rw [List.drop_length]
    refine ⟨r, S, ?_, hq r S h⟩
    have := hg _ r S (Nat.le_refl _) h
    simp [forG, this]
  | succ n ih =>
    intro i r S hi h
    have hl : i < its.length := by omega
    have hg' := hg i r S (by omega) h
    obtain ⟨r2, h1, r3, S3, h2⟩ := hs i r S its[i] (by simp [hl]) h
    rw [List.drop_eq_getElem_cons hl]
    simp only [forG, hg', if_true, asgS, h1, seq_nx]
    rcases h2 with ⟨h2, h3⟩ | ⟨h2, h3⟩
    · obtain ⟨r4, S4, h4, h5⟩ := ih (i + 1) r3 S3 (by omega) h3
      refine ⟨r4, S4, ?_, h5⟩
      rcases h2 with h2 | h2
      · rw [h2, turn_nx, h4]
      · rw [h2, turn_ct, h4]
    · rw [h2, turn_brk]
      exact ⟨r3, S3, rfl, h3⟩
mutual
theorem nr_mono {m n : Nat} (h : m ≤ n) : ∀ (d : DL.D), nr m d = true → nr n d = true
  | .non, _ => rfl
  | .bl _, _ => rfl
  | .int _, _ => rfl
  | .str _, _ => rfl
  | .tup ds, q => by simp only [nr] at q ⊢; exact nrs_mono h ds q
  | .lst ds, q => by simp only [nr] at q ⊢; exact nrs_mono h ds q
  | .ref i, q => by simp only [nr, decide_eq_true_eq] at q ⊢; omega
  | .fn _, _ => rfl
  | .scr _, _ => rfl
  | .exn _ _ _ fs, q => by simp only [nr] at q ⊢; exact nrs_mono h fs q
theorem nrs_mono {m n : Nat} (h : m ≤ n) : ∀ (ds : List DL.D), nrs m ds = true → nrs n ds = true
  | [], _ => rfl
  | d :: ds, q => by
    simp only [nrs, Bool.and_eq_true] at q ⊢
    exact ⟨nr_mono h d q.1, nrs_mono h ds q.2⟩
end
theorem nrs_all {n : Nat} {ds : List DL.D} : nrs n ds = true ↔ ∀ d ∈ ds, nr n d = true := by
  induction ds with
  | nil => simp [nrs]
  | cons d ds ih => simp [nrs, ih]
theorem thaw_pl {n : Nat} {S : Sto} {d : DL.D} (h : nr 0 d = true) : thaw n S d = some d := by
  have h2 := nr_mono (Nat.zero_le n) d h
  cases d with
  | ref i => simp [nr] at h
  | _ => simp [thaw, h2]
/-- a list of the store that a def made -/
theorem thaw_new {S : Sto} {ds : List DL.D} (h : nrs 0 ds = true) : thaw S.length (S ++ [.lst ds]) (.ref S.length) = some (.lst ds) := by
  have h2 := nrs_mono (Nat.zero_le S.length) ds h
  simp [thaw, h2]
theorem okPre_set {S : Sto} {b : Nat} {o : Ob} (h : nrO S.length o = true) : okPre S (S.set b o) := ⟨by simp, fun j u hj e => by
  by_cases z : b = j
  · subst z
    rw [List.getElem?_set_self hj] at e
    cases e
    exact .inr h
  · rw [List.getElem?_set_ne z] at e
    exact .inl e⟩
theorem fin_ret_set {S : Sto} {d : DL.D} {b : Nat} {o : Ob} (hd : nr 0 d = true) (h : nrO 0 o = true) : finish S (.ret d (S.set b o)) = .ok d (S.set b o) := by
  have h2 : nrO S.length o = true := by
    cases o with
    | lst ds => exact nrs_mono (Nat.zero_le _) ds h
    | ins c fs => exact nrs_mono (Nat.zero_le _) _ h
  unfold finish
  simp only [thaw_pl hd, okPre_set h2, if_true]
  rw [List.take_of_length_le (by simp)]
theorem fin_pl {S : Sto} {d : DL.D} (h : nr 0 d = true) : finish S (.ret d S) = .ok d S := fin_ret (thaw_pl h)
theorem fin_plT {S T : Sto} {d : DL.D} (h : nr 0 d = true) : finish S (.ret d (S ++ T)) = .ok d S := fin_retT (thaw_pl h)
@[simp] theorem at_nat {α : Type} {xs : List α} {i : Nat} : atI xs (i : Int) = xs[i]? := by
  unfold atI ixN
  by_cases h : i < xs.length
  · simp [h]
  · simp [h]
@[simp] theorem at_last {α : Type} {xs : List α} : atI xs (-1) = xs.getLast? := by
  unfold atI ixN
  cases xs with
  | nil => simp
  | cons x xs =>
    simp [List.getLast?_cons_cons, List.getLast?_eq_getElem?]
    rw [if_pos (by omega)]
    simp only [Option.bind_some]
    rw [show ((-1 : Int) + (xs.length + 1)).toNat = xs.length by omega]
    simp
theorem nrs_ints {n : Nat} (l : List Int) : nrs n (l.map DL.D.int) = true := by
  rw [nrs_all]
  intro d hd
  obtain ⟨i, _, rfl⟩ := List.mem_map.mp hd
  rfl
@[simp] theorem at_0 {α : Type} {xs : List α} : atI xs 0 = xs[0]? := at_nat (i := 0)
@[simp] theorem at_1 {α : Type} {xs : List α} : atI xs 1 = xs[1]? := at_nat (i := 1)
@[simp] theorem at_2 {α : Type} {xs : List α} : atI xs 2 = xs[2]? := at_nat (i := 2)
@[simp] theorem at_3 {α : Type} {xs : List α} : atI xs 3 = xs[3]? := at_nat (i := 3)
@[simp] theorem atS_r {S : Sto} {i : Nat} {ds : List DL.D} (h : S[i]? = some (.lst ds)) : atS S (.ref i) = some (i, ds) := atS_ref h
@[simp] theorem vw_r {S : Sto} {i : Nat} {ds : List DL.D} (h : S[i]? = some (.lst ds)) : vw S (.ref i) = .lst ds := vw_ref h
/-! ### the operations at plain values -/
def okO (o : Option DL.D) (S : Sto) : Re DL.D := match o with
  | some x => .ok x S
  | none => .bad
@[simp] theorem okO_some {x : DL.D} {S : Sto} : okO (some x) S = .ok x S := rfl
section
variable {S : Sto} {b : Nat} {ds es : List DL.D} {i j : Int} {x d : DL.D} {s t : List Nat}
@[simp] theorem fIx_tup : fIx (.tup ds) (.int i) S = okO (atI ds i) S := by unfold fIx okO; simp only [vw_tup] <;> cases atI ds i <;> rfl
@[simp] theorem fIx_lst : fIx (.lst ds) (.int i) S = okO (atI ds i) S := by unfold fIx okO; simp only [vw_lst] <;> cases atI ds i <;> rfl
@[simp] theorem fIx_scr {ns : List Int} : fIx (.scr ns) (.int i) S = okO ((atI ns i).map .int) S := by unfold fIx okO; simp only [vw_scr] <;> cases atI ns i <;> rfl
@[simp] theorem fIx_ref : fIx (.ref b) (.int i) S = (match S[b]? with
    | some (.lst ds) => okO (atI ds i) S
    | _ => .bad) := by
  cases h : S[b]? with
  | none => simp [fIx, vw, h]
  | some o => cases o with
    | lst ds => simp only [fIx, vw_ref h, okO] <;> cases atI ds i <;> rfl
    | ins c fs => simp [fIx, vw, h]
@[simp] theorem fIx_str (h : s.length ≤ 1000000) : fIx (.str s) (.int i) S = okO ((atI s i).map fun c => .str [c]) S := by unfold fIx okO; simp only [vw_str, h, if_true] <;> cases atI s i <;> rfl
@[simp] theorem fLen_tup : fLen [.tup ds] S = .ok (.int ds.length) S := rfl
@[simp] theorem fLen_lst : fLen [.lst ds] S = .ok (.int ds.length) S := rfl
@[simp] theorem fLen_scr {ns : List Int} : fLen [.scr ns] S = .ok (.int ns.length) S := rfl
@[simp] theorem fLen_ref : fLen [.ref b] S = (match S[b]? with
    | some (.lst ds) => .ok (.int ds.length) S
    | _ => .bad) := by
  cases h : S[b]? with
  | none => simp [fLen, vw, h]
  | some o => cases o with
    | lst ds => simp only [fLen, vw_ref h]
    | ins c fs => simp [fLen, vw, h]
@[simp] theorem fLen_str (h : s.length ≤ 1000000) : fLen [.str s] S = .ok (.int s.length) S := by unfold fLen; simp only [vw_str, h, if_true]
@[simp] theorem fInt_int : fInt [.int i] S = .ok (.int i) S := rfl
@[simp] theorem fInt_bl {c : Bool} : fInt [.bl c] S = .ok (.int (if c then 1 else 0)) S := rfl
@[simp] theorem fSet_ref : fSet (.ref b) (.int i) x S = (match S[b]? with
    | some (.lst ds) => (match ixN ds.length i with
      | some n => .ok .non (S.set b (.lst (ds.set n x)))
      | none => .bad)
    | _ => .bad) := by
  cases h : S[b]? with
  | none => simp [fSet, atS, h]
  | some o => cases o with
    | lst ds => simp only [fSet, atS_ref h] <;> cases ixN ds.length i <;> rfl
    | ins c fs => simp [fSet, atS, h]
@[simp] theorem fAppend_ref : fAppend (.ref b) [x] S = (match S[b]? with
    | some (.lst ds) => if ds.length < 1000000 then .ok .non (S.set b (.lst (ds ++ [x]))) else .bad
    | _ => .bad) := by
  cases h : S[b]? with
  | none => simp [fAppend, atS, h]
  | some o => cases o with
    | lst ds => simp only [fAppend, atS_ref h]
    | ins c fs => simp [fAppend, atS, h]
@[simp] theorem mtOk_ref {m : Mt} : mtOk m (.ref b) S = (match S[b]? with
    | some (.lst _) => mtT m == "list"
    | _ => false) := by
  cases h : S[b]? with
  | none => simp [mtOk, vw, h]
  | some o => cases o with
    | lst ds => simp only [mtOk, vw_ref h]
    | ins c fs => simp [mtOk, vw, h]
@[simp] theorem mtOk_str {m : Mt} : mtOk m (.str s) S = (mtT m == "str") := rfl
@[simp] theorem fAdd_int : fAdd (.int i) (.int j) S = .ok (.int (i + j)) S := rfl
@[simp] theorem fAdd_str (h : s.length + t.length ≤ 1000000) : fAdd (.str s) (.str t) S = .ok (.str (s ++ t)) S := by unfold fAdd; simp only [vw_str, h, if_true]
@[simp] theorem fAdd_tup (h : ds.length + es.length ≤ 1000000) : fAdd (.tup ds) (.tup es) S = .ok (.tup (ds ++ es)) S := by unfold fAdd; simp only [vw_tup, h, if_true]
@[simp] theorem fAdd_lst (h : ds.length + es.length ≤ 1000000) : fAdd (.lst ds) (.lst es) S = .ok (.lst (ds ++ es)) S := by unfold fAdd; simp only [vw_lst, h, if_true]
@[simp] theorem fSub_int : fSub (.int i) (.int j) S = .ok (.int (i - j)) S := rfl
theorem fMul_int (h : i.natAbs < 18446744073709551616 ∨ j.natAbs < 18446744073709551616) : fMul (.int i) (.int j) S = .ok (.int (i * j)) S := if_pos h
@[simp] theorem fMod_int (h : 0 < j) : fMod (.int i) (.int j) S = .ok (.int (i % j)) S := if_pos h
@[simp] theorem fDiv_int (h : 0 < j ∧ j < 1073741824) : fDiv (.int i) (.int j) S = .ok (.int (i / j)) S := if_pos h
@[simp] theorem fNeg_int : fNeg (.int i) S = .ok (.int (-i)) S := rfl
@[simp] theorem fLt_int : fLt (.int i) (.int j) S = .ok (.bl (decide (i < j))) S := rfl
@[simp] theorem fLe_int : fLe (.int i) (.int j) S = .ok (.bl (decide (i ≤ j))) S := rfl
@[simp] theorem fGt_int : fGt (.int i) (.int j) S = .ok (.bl (decide (j < i))) S := rfl
@[simp] theorem fGe_int : fGe (.int i) (.int j) S = .ok (.bl (decide (j ≤ i))) S := rfl
@[simp] theorem toB_bl {c : Bool} : toB (.bl c) S = .ok c S := rfl
@[simp] theorem truD_bl {c : Bool} : truD (.bl c) S = .ok c S := rfl
@[simp] theorem fIs_non : fIs d .non S = .ok (.bl (isNon d)) S := rfl
@[simp] theorem fIs_bl {c : Bool} : fIs d (.bl c) S = .ok (.bl (isBl c d)) S := rfl
@[simp] theorem fIsN_non : fIsN d .non S = .ok (.bl (!isNon d)) S := rfl
@[simp] theorem fEq_int : fEq (.int i) (.int j) S = .ok (.bl (i == j)) S := by unfold fEq; simp [okD, eqD]
@[simp] theorem fNe_int : fNe (.int i) (.int j) S = .ok (.bl (!(i == j))) S := by unfold fNe; simp [okD, eqD]
@[simp] theorem fEq_str (h : okS s = true) (h2 : okS t = true) : fEq (.str s) (.str t) S = .ok (.bl (s == t)) S := by unfold fEq; simp [okD, eqD, h, h2]
@[simp] theorem fNe_str (h : okS s = true) (h2 : okS t = true) : fNe (.str s) (.str t) S = .ok (.bl (!(s == t))) S := by unfold fNe; simp [okD, eqD, h, h2]
theorem fEq_pl {a c : DL.D} (h : okD 60 a = true) (h2 : okD 60 c = true) (ha : vw S a = a) (hc : vw S c = c) : fEq a c S = .ok (.bl (eqD a c)) S := by unfold fEq; simp [ha, hc, h, h2]
theorem fNe_pl {a c : DL.D} (h : okD 60 a = true) (h2 : okD 60 c = true) (ha : vw S a = a) (hc : vw S c = c) : fNe a c S = .ok (.bl (!eqD a c)) S := by unfold fNe; simp [ha, hc, h, h2]
end
theorem fMul_r {S : Sto} {i j : Int} (h : j.natAbs < 18446744073709551616) : fMul (.int i) (.int j) S = .ok (.int (i * j)) S := fMul_int (.inr h)
theorem fMul_l {S : Sto} {i j : Int} (h : i.natAbs < 18446744073709551616) : fMul (.int i) (.int j) S = .ok (.int (i * j)) S := fMul_int (.inl h)
@[simp] theorem get_self {S : Sto} {b : Nat} {o : Ob} (h : b < S.length) : (S.set b o)[b]? = some o := List.getElem?_set_self h
@[simp] theorem get_end {S : Sto} {o : Ob} : (S ++ [o])[S.length]? = some o := by simp
theorem ss1 {a : Sm} {b : Sms} {P : Par} {r : DL.Loc} {S : Sto} : semSs (.cons a b) P r S = (semS a P r S).seq (semSs b P) := by simp only [semSs]
theorem ss0 {P : Par} {r : DL.Loc} {S : Sto} : semSs .nil P r S = .nx r S := by simp only [semSs]
theorem ss_nx {a : Sm} {b : Sms} {P : Par} {r r2 : DL.Loc} {S S2 : Sto} {x : Rs} (h : semS a P r S = .nx r2 S2) (h2 : semSs b P r2 S2 = x) : semSs (.cons a b) P r S = x := by rw [ss1, h, seq_nx, h2]
theorem ss_ret {a : Sm} {b : Sms} {P : Par} {r : DL.Loc} {d : DL.D} {S S2 : Sto} (h : semS a P r S = .ret d S2) : semSs (.cons a b) P r S = .ret d S2 := by rw [ss1, h, seq_ret]
theorem ss_err {a : Sm} {b : Sms} {P : Par} {r : DL.Loc} {c : Nat} {fs : List DL.D} {S S2 : Sto} (h : semS a P r S = .err c fs S2) : semSs (.cons a b) P r S = .err c fs S2 := by rw [ss1, h, seq_err]
theorem ss_brk {a : Sm} {b : Sms} {P : Par} {r r2 : DL.Loc} {S S2 : Sto} (h : semS a P r S = .brk r2 S2) : semSs (.cons a b) P r S = .brk r2 S2 := by rw [ss1, h, seq_brk]
theorem ss_ct {a : Sm} {b : Sms} {P : Par} {r r2 : DL.Loc} {S S2 : Sto} (h : semS a P r S = .ct r2 S2) : semSs (.cons a b) P r S = .ct r2 S2 := by rw [ss1, h, seq_ct]
theorem s_if {c : Ex} {a b : Sms} {P : Par} {r : DL.Loc} {S S2 : Sto} {k : Bool} {x : Rs} (h : semB P c r S = .ok k S2) (h2 : (if k then semSs a P r S2 else semSs b P r S2) = x) : semS (.ifs c a b) P r S = x := by
  have e : semS (.ifs c a b) P r S = (semB P c r S).to fun k S1 => if k then semSs a P r S1 else semSs b P r S1 := by simp only [semS]
  rw [e, h, to_ok, h2]
theorem s_ret {e : Ex} {P : Par} {r : DL.Loc} {S S2 : Sto} {d : DL.D} (h : semE P e r S = .ok d S2) : semS (.ret e) P r S = .ret d S2 := by
  have e' : semS (.ret e) P r S = (semE P e r S).to fun d S1 => .ret d S1 := by simp only [semS]
  rw [e', h, to_ok]
theorem s_asg {t : Tg} {e : Ex} {P : Par} {r r2 : DL.Loc} {S S2 : Sto} {d : DL.D} (h : semE P e r S = .ok d S2) (h2 : asg t d r = some r2) : semS (.asg t e) P r S = .nx r2 S2 := by
  have e' : semS (.asg t e) P r S = (semE P e r S).to fun d S1 => asgS t d r S1 := by simp only [semS]
  rw [e', h, to_ok, asgS, h2]
theorem s_expr {e : Ex} {P : Par} {r : DL.Loc} {S S2 : Sto} {d : DL.D} (h : semE P e r S = .ok d S2) : semS (.expr e) P r S = .nx r S2 := by
  have e' : semS (.expr e) P r S = (semE P e r S).to fun _ S1 => .nx r S1 := by simp only [semS]
  rw [e', h, to_ok]
theorem s_if0 {c : Ex} {a b : Sms} {P : Par} {r : DL.Loc} {S : Sto} (k : Bool) {x : Rs} (h : semB P c r S = .ok k S) (h2 : (if k then semSs a P r S else semSs b P r S) = x) : semS (.ifs c a b) P r S = x := s_if h h2
theorem s_ret0 {e : Ex} {P : Par} {r : DL.Loc} {S : Sto} {d : DL.D} (h : semE P e r S = .ok d S) : semS (.ret e) P r S = .ret d S := s_ret h
theorem s_asg0 {t : Tg} {e : Ex} {P : Par} {r r2 : DL.Loc} {S : Sto} (d : DL.D) (h : semE P e r S = .ok d S) (h2 : asg t d r = some r2) : semS (.asg t e) P r S = .nx r2 S := s_asg h h2
theorem s_ifT {c : Ex} {a b : Sms} {P : Par} {r : DL.Loc} {S : Sto} {x : Rs} (h : semB P c r S = .ok true S) (h2 : semSs a P r S = x) : semS (.ifs c a b) P r S = x := s_if0 true h h2
theorem s_ifF {c : Ex} {a b : Sms} {P : Par} {r : DL.Loc} {S : Sto} {x : Rs} (h : semB P c r S = .ok false S) (h2 : semSs b P r S = x) : semS (.ifs c a b) P r S = x := s_if0 false h h2
theorem s_if1 {c : Ex} {a : Sms} {P : Par} {r : DL.Loc} {S : Sto} (h : semB P c r S = .ok false S) : semS (.ifs c a .nil) P r S = .nx r S := s_ifF h ss0
end DL
set_option Elab.async false
set_option linter.all false
set_option maxRecDepth 100000
set_option maxHeartbeats 1000000
/-! M1: the leaves of k25's law. -/
namespace K25
open PySem L2 DL
theorem cell_ok (k : Nat) (ns : List Int) (i : Nat) (S : Sto) : run tb P (k + 1) 10 [.scr ns, .int i] S = .ok (.int (ns.getD i 0)) S := by
  refine run_of (d := d_10) (x := .ret (.int (ns.getD i 0)) S) rfl rfl ?_ (fin_pl rfl)
  by_cases h : i < ns.length
  · simp [d_10, a_law_cell_u, semSs, semS, semB, semE, semEs, startL, biF, coF, h]
  · simp [d_10, a_law_cell_u, semSs, semS, semB, semE, semEs, startL, biF, coF, h]
theorem draw_at (k : Nat) {S : Sto} {b : Nat} {dg : List Int} {at_ : Nat} {many : Int} (hS : S[b]? = some (.lst [.lst (dg.map .int), .int at_])) (hm : 0 < many) :
    ∃ v, 0 ≤ v ∧ v < many ∧ run tb P (k + 1) 12 [.ref b, .int many] S = .ok (.int v) (S.set b (.lst [.lst (dg.map .int), .int ((at_ : Int) + 1)])) := by
  have hs : ∀ o, (S.set b o)[b]? = some o := fun o => List.getElem?_set_self (List.getElem?_eq_some_iff.mp hS).1
  refine ⟨(if at_ < dg.length then dg.getD at_ 0 else at_ * 7) % many, Int.emod_nonneg _ (by omega), Int.emod_lt_of_pos _ hm, ?_⟩
  refine run_of (d := d_12) (x := .ret (.int _) (S.set b (.lst [.lst (dg.map .int), .int ((at_ : Int) + 1)]))) rfl rfl ?_ (fin_ret_set rfl (by simp [nrO, nrs, nr, nrs_ints]))
  refine ss_nx (s_asg0 (.int at_) (by simp [startL, d_12, semE, hS]) rfl) ?_
  refine ss_nx (r2 := [some (.ref b), some (.int many), some (.int at_)]) (S2 := S.set b (.lst [.lst (dg.map .int), .int ((at_ : Int) + 1)])) (by simp [startL, d_12, semS, semE, asgS, asg, hS, ixN, boF]) ?_
  by_cases h : at_ < dg.length
  · refine ss_ret (s_ifT (by simp [semE, semB, semEs, hs, coF, biF, h]) (ss_ret (s_ret0 ?_)))
    simp [semE, semEs, boF, biF, hs, hm, h]
  · refine ss_nx (s_if1 (by simp [semE, semB, semEs, hs, coF, biF, h])) (ss_ret (s_ret0 ?_))
    have fm : ∀ S, fMul (.int at_) (.int 7) S = .ok (.int (at_ * 7)) S := fun S => fMul_r (by decide)
    simp [semE, semEs, boF, biF, fm, hm, h]
/-- the drawing box stands at b -/
def Bx (S : Sto) (b : Nat) : Prop := ∃ (dg : List Int) (at_ : Nat), S[b]? = some (.lst [.lst (dg.map .int), .int at_])
/-- S2 is S with another box at b -/
def Bs (S S2 : Sto) (b : Nat) : Prop := ∃ (dg : List Int) (at_ : Nat), S2 = S.set b (.lst [.lst (dg.map .int), .int at_])
theorem Bs.trans {S S2 S3 : Sto} {b : Nat} (h : Bs S S2 b) (h2 : Bs S2 S3 b) : Bs S S3 b := by
  obtain ⟨dg, a, rfl⟩ := h
  obtain ⟨dg2, a2, rfl⟩ := h2
  exact ⟨dg2, a2, by rw [List.set_set]⟩
theorem Bs.refl {S : Sto} {b : Nat} (h : Bx S b) : Bs S S b := by
  obtain ⟨dg, a, e⟩ := h
  obtain ⟨l, e1⟩ := List.getElem?_eq_some_iff.mp e
  exact ⟨dg, a, by rw [← e1, List.set_getElem_self]⟩
theorem Bs.bx {S S2 : Sto} {b : Nat} (h : Bs S S2 b) (hb : Bx S b) : Bx S2 b := by
  obtain ⟨dg, a, rfl⟩ := h
  obtain ⟨dg2, a2, e⟩ := hb
  exact ⟨dg, a, List.getElem?_set_self (List.getElem?_eq_some_iff.mp e).1⟩
theorem Bs.len {S S2 : Sto} {b : Nat} (h : Bs S S2 b) : S2.length = S.length := by
  obtain ⟨dg, a, rfl⟩ := h
  simp
theorem Bs.ne {S S2 : Sto} {b i : Nat} (h : Bs S S2 b) (n : i ≠ b) : S2[i]? = S[i]? := by
  obtain ⟨dg, a, rfl⟩ := h
  exact List.getElem?_set_ne (Ne.symm n)
theorem Bs.app {S S2 T : Sto} {b : Nat} (h : Bs (S ++ T) S2 b) (hb : b < S.length) : ∃ S3, S2 = S3 ++ T ∧ Bs S S3 b := by
  obtain ⟨dg, a, rfl⟩ := h
  exact ⟨_, List.set_append_left _ _ hb, dg, a, rfl⟩
theorem Bs.fin {S S2 : Sto} {b : Nat} {d : DL.D} (h : Bs S S2 b) (hd : nr 0 d = true) : finish S (.ret d S2) = .ok d S2 := by
  obtain ⟨dg, a, rfl⟩ := h
  exact fin_ret_set hd (by simp [nrO, nrs, nr, nrs_ints])
theorem draw_ok (k : Nat) {S : Sto} {b : Nat} {many : Int} (h : Bx S b) (hm : 0 < many) : ∃ v S2, 0 ≤ v ∧ v < many ∧ Bs S S2 b ∧ run tb P (k + 1) 12 [.ref b, .int many] S = .ok (.int v) S2 := by
  obtain ⟨dg, a, e⟩ := h
  obtain ⟨v, h1, h2, h3⟩ := draw_at k e hm
  exact ⟨v, _, h1, h2, ⟨dg, a + 1, by simp⟩, h3⟩
theorem pick_ok (k : Nat) {S : Sto} {b : Nat} {ds : List DL.D} (h : Bx S b) (hn : 0 < ds.length) (hp : nrs 0 ds = true) : ∃ x S2, x ∈ ds ∧ Bs S S2 b ∧ run tb P (k + 2) 13 [.ref b, .lst ds] S = .ok x S2 := by
  obtain ⟨v, S2, h1, h2, hb, hr⟩ := draw_ok k (many := 900) h (by decide)
  have hl : (0 : Int) < ds.length := by omega
  obtain ⟨n, hm, hlt⟩ : ∃ n : Nat, v % (ds.length : Int) = (n : Int) ∧ n < ds.length := by
    have a := Int.emod_nonneg v (b := (ds.length : Int)) (by omega)
    have b := Int.emod_lt_of_pos v hl
    exact ⟨(v % (ds.length : Int)).toNat, by omega, by omega⟩
  refine ⟨ds[n], S2, List.getElem_mem hlt, hb, ?_⟩
  refine run_of (d := d_13) (x := .ret _ S2) rfl rfl ?_ (hb.fin (nrs_all.mp hp _ (List.getElem_mem hlt)))
  refine ss_ret (s_ret ?_)
  simp [startL, d_13, semE, semEs, biF, boF, hr]
  rw [fMod_int hl, hm]
  simp [hlt]
end K25
set_option Elab.async false
set_option linter.all false
set_option maxRecDepth 100000
set_option maxHeartbeats 2000000
/-! M2: the digits. -/
namespace K25
open PySem L2 DL
theorem pw18 (S : Sto) : fPow (.int 10) (.int 18) S = .ok (.int 1000000000000000000) S := by simp [fPow]
theorem set_end {S : Sto} {o u : Ob} : (S ++ [o]).set S.length u = S ++ [u] := by rw [List.set_append_right _ _ (Nat.le_refl _)]; simp
/-- one more digit -/
theorem app1 {Q : Par} {r : DL.Loc} {S : Sto} {dg : List Int} {j : Nat} {e : Ex} {v : Int} (hr : r[j]? = some (some (.ref S.length))) (hl : dg.length < 100000) (he : semE Q e r (S ++ [.lst (dg.map .int)]) = .ok (.int v) (S ++ [.lst (dg.map .int)])) :
    semS (.expr (.mth .append (.var j) (.cons e .nil))) Q r (S ++ [.lst (dg.map .int)]) = .nx r (S ++ [.lst ((dg ++ [v]).map .int)]) := by
  have h1 : dg.length < 1000000 := by omega
  simp [semS, semE, semEs, hr, he, mtF, mtT, set_end, h1]
theorem turn60 {Q : Par} {S : Sto} {a0 a1 a2 a4 x6 x7 : Option DL.D} {dg : List Int} {c : Int} (hl : dg.length ≤ 60 * 63) :
    ∃ (dg2 : List Int) (c2 : Int) (x : Option DL.D), dg2.length ≤ dg.length + 60 ∧ semS (.forr (.name 6) (.range1 (.int 60)) (.cons (.ifs (.cmp .gt (.var 5) (.int 0)) (.cons (.expr (.mth .append (.var 3) (.cons (.bin .mod (.blt .int (.cons (.var 5) .nil)) (.int 1000)) .nil)))
      (.cons (.asg (.name 5) (.bin .div (.var 5) (.int 1000))) .nil)) .nil) .nil)) Q [a0, a1, a2, some (.ref S.length), a4, some (.int c), x6, x7] (S ++ [.lst (dg.map .int)])
      = .nx [a0, a1, a2, some (.ref S.length), a4, some (.int c2), x, x7] (S ++ [.lst (dg2.map .int)]) := by
  have key := forG_inv (gd := none) (t := .name 6) (its := rangeD 0 60) (b := semSs (.cons (.ifs (.cmp .gt (.var 5) (.int 0)) (.cons (.expr (.mth .append (.var 3) (.cons (.bin .mod (.blt .int (.cons (.var 5) .nil)) (.int 1000)) .nil)))
      (.cons (.asg (.name 5) (.bin .div (.var 5) (.int 1000))) .nil)) .nil) .nil) Q) (r := [a0, a1, a2, some (.ref S.length), a4, some (.int c), x6, x7]) (S := S ++ [.lst (dg.map .int)])
    (fun i r S' => ∃ (dg2 : List Int) (c2 : Int) (x : Option DL.D), dg2.length ≤ dg.length + i ∧ r = [a0, a1, a2, some (.ref S.length), a4, some (.int c2), x, x7] ∧ S' = S ++ [.lst (dg2.map .int)]) ⟨dg, c, x6, by omega, rfl, rfl⟩ (fun _ _ _ _ _ => trivial) ?_
  · obtain ⟨r3, S3, e, dg2, c2, x, h1, rfl, rfl⟩ := key
    refine ⟨dg2, c2, x, by rw [rangeD_length] at h1; exact h1, ?_⟩
    rw [← e]
    simp [semS, semI, semE]
  · rintro i r S' d hd ⟨dg2, c2, x, h1, rfl, rfl⟩
    have hi : i < 60 := by
      have := (List.getElem?_eq_some_iff.mp hd).1
      rw [rangeD_length] at this
      exact this
    refine ⟨_, rfl, ?_⟩
    by_cases hc : 0 < c2
    · refine ⟨_, S ++ [.lst ((dg2 ++ [c2 % 1000]).map .int)], .inl (ss_nx (s_ifT (by simp [semE, semB, coF, hc]) (ss_nx (app1 (v := c2 % 1000) rfl (by omega) (by simp [semE, semEs, biF, boF])) (ss_nx (s_asg0 (.int (c2 / 1000)) (by simp [semE, boF]) rfl) ss0))) ss0), dg2 ++ [c2 % 1000], c2 / 1000, some d, by simp; omega, rfl, rfl⟩
    · exact ⟨_, _, .inl (ss_nx (s_if1 (by simp [semE, semB, coF, hc])) ss0), dg2, c2, some d, by omega, rfl, rfl⟩
theorem range_item {n i : Nat} {d : DL.D} (h : (rangeD 0 n)[i]? = some d) : i < n ∧ d = .int (i : Nat) := by
  have hi : i < n := by
    have := (List.getElem?_eq_some_iff.mp h).1
    rw [rangeD_length] at this
    exact this
  rw [rangeD_get n 0 i hi] at h
  cases h
  exact ⟨hi, by simp⟩
theorem turn12 {Q : Par} {S : Sto} {a0 a1 a2 a4 a5 x6 : Option DL.D} {dg : List Int} {sd : Int} (hl : dg.length ≤ 60 * 63) :
    ∃ (dg2 : List Int) (c2 : Int) (x : Option DL.D), dg2.length ≤ dg.length + 12 ∧ semS (.forr (.name 6) (.range1 (.int 12)) (.cons (.asg (.name 7) (.bin .mod (.blt .int (.cons (.bin .add (.bin .add (.bin .mul (.var 7) (.int 16807)) (.bin .mul (.int 7) (.var 6))) (.int 1)) .nil)) (.int 2147483647)))
  (.cons (.expr (.mth .append (.var 3) (.cons (.bin .mod (.blt .int (.cons (.bin .div (.var 7) (.int 997)) .nil)) (.int 1000)) .nil))) .nil))) Q [a0, a1, a2, some (.ref S.length), a4, a5, x6, some (.int sd)] (S ++ [.lst (dg.map .int)])
      = .nx [a0, a1, a2, some (.ref S.length), a4, a5, x, some (.int c2)] (S ++ [.lst (dg2.map .int)]) := by
  have key := forG_inv (gd := none) (t := .name 6) (its := rangeD 0 12) (b := semSs (.cons (.asg (.name 7) (.bin .mod (.blt .int (.cons (.bin .add (.bin .add (.bin .mul (.var 7) (.int 16807)) (.bin .mul (.int 7) (.var 6))) (.int 1)) .nil)) (.int 2147483647)))
  (.cons (.expr (.mth .append (.var 3) (.cons (.bin .mod (.blt .int (.cons (.bin .div (.var 7) (.int 997)) .nil)) (.int 1000)) .nil))) .nil)) Q) (r := [a0, a1, a2, some (.ref S.length), a4, a5, x6, some (.int sd)]) (S := S ++ [.lst (dg.map .int)])
    (fun i r S' => ∃ (dg2 : List Int) (c2 : Int) (x : Option DL.D), dg2.length ≤ dg.length + i ∧ r = [a0, a1, a2, some (.ref S.length), a4, a5, x, some (.int c2)] ∧ S' = S ++ [.lst (dg2.map .int)]) ⟨dg, sd, x6, by omega, rfl, rfl⟩ (fun _ _ _ _ _ => trivial) ?_
  · obtain ⟨r3, S3, e, dg2, c2, x, h1, rfl, rfl⟩ := key
    refine ⟨dg2, c2, x, by rw [rangeD_length] at h1; exact h1, ?_⟩
    rw [← e]
    simp [semS, semI, semE]
  · rintro i r S' d hd ⟨dg2, c2, x, h1, rfl, rfl⟩
    obtain ⟨hi, rfl⟩ := range_item hd
    refine ⟨_, rfl, ?_⟩
    have f1 : ∀ S, fMul (.int c2) (.int 16807) S = .ok (.int (c2 * 16807)) S := fun S => fMul_r (by decide)
    have f2 : ∀ S, fMul (.int 7) (.int (i : Nat)) S = .ok (.int (7 * (i : Nat))) S := fun S => fMul_l (by decide)
    refine ⟨_, S ++ [.lst ((dg2 ++ [(c2 * 16807 + 7 * (i : Nat) + 1) % 2147483647 / 997 % 1000]).map .int)], .inl (ss_nx (s_asg0 (.int ((c2 * 16807 + 7 * (i : Nat) + 1) % 2147483647)) (by simp [semE, semEs, biF, boF, f1, f2]) rfl) (ss_nx (app1 (v := (c2 * 16807 + 7 * (i : Nat) + 1) % 2147483647 / 997 % 1000) rfl (by omega) (by simp [semE, semEs, biF, boF])) ss0)), _, _, some (.int (i : Nat)), by rw [List.length_append, List.length_singleton]; omega, rfl, rfl⟩
theorem digits_ok (k : Nat) (ns : List Int) (S : Sto) : ∃ dg : List Int, run tb P (k + 2) 11 [.scr ns, .int 0, .int 63] S = .ok (.lst (dg.map .int)) S := by
  have key := forG_inv2 (gd := none) (t := .name 4) (its := rangeD 0 63) (r := [some (.scr ns), some (.int 0), some (.int 63), some (.ref S.length), none, none, none, none]) (S := S ++ [.lst []])
    (b := semSs (match a_law_digits_u with
      | .cons _ (.cons (.forr _ _ b) _) => b
      | _ => .nil) { P with fn := run tb P (k + 1) })
    (fun i r S' => ∃ (dg : List Int) (x4 x5 x6 x7 : Option DL.D), dg.length ≤ 60 * i ∧ r = [some (.scr ns), some (.int 0), some (.int 63), some (.ref S.length), x4, x5, x6, x7] ∧ S' = S ++ [.lst (dg.map .int)])
    (fun r S' => ∃ (dg : List Int) (x4 x5 x6 x7 : Option DL.D), r = [some (.scr ns), some (.int 0), some (.int 63), some (.ref S.length), x4, x5, x6, x7] ∧ S' = S ++ [.lst (dg.map .int)])
    ⟨[], none, none, none, none, by simp, rfl, rfl⟩ (fun _ _ _ _ _ => trivial) (fun r S' ⟨dg, x4, x5, x6, x7, h1, h2, h3⟩ => ⟨dg, x4, x5, x6, x7, h2, h3⟩) ?_
  · obtain ⟨r3, S3, e, dg, x4, x5, x6, x7, rfl, rfl⟩ := key
    refine ⟨dg, ?_⟩
    refine run_of (d := d_11) (x := .ret (.ref S.length) (S ++ [.lst (dg.map .int)])) rfl rfl ?_ (fin_retT (thaw_new (nrs_ints dg)))
    refine ss_nx (s_asg (d := .ref S.length) (S2 := S ++ [.lst []]) (by simp [semE, semEs]) rfl) ?_
    refine ss_nx (r2 := _) (S2 := _) (Eq.trans ?_ e) (ss_ret (s_ret0 (by simp [semE])))
    simp [semS, semI, semE, startL, d_11]
    rfl
  · rintro i r S' d hd ⟨dg, x4, x5, x6, x7, h1, rfl, rfl⟩
    obtain ⟨hi, rfl⟩ := range_item hd
    refine ⟨_, rfl, ?_⟩
    have hc : ∀ S, run tb P (k + 1) 10 [.scr ns, .int (i : Nat)] S = .ok (.int (ns.getD i 0)) S := fun S => cell_ok k ns i S
    generalize ns.getD i 0 = c at hc
    have f0 : ∀ S c, fMul (.int 2) (.int c) S = .ok (.int (2 * c)) S := fun S c => fMul_l (by decide)
    have f1 : ∀ S c, fMul (.int c) (.int 48271) S = .ok (.int (c * 48271)) S := fun S c => fMul_r (by decide)
    have f2 : ∀ S c, fMul (.int c) (.int 69621) S = .ok (.int (c * 69621)) S := fun S c => fMul_r (by decide)
    have step : ∀ c : Int, ∃ r3 S3, ((semSs (match a_law_digits_u with
        | .cons _ (.cons (.forr _ _ (.cons _ (.cons _ b))) _) => b
        | _ => .nil) { P with fn := run tb P (k + 1) } [some (.scr ns), some (.int 0), some (.int 63), some (.ref S.length), some (.int (i : Nat)), some (.int c), x6, x7] (S ++ [.lst (dg.map .int)]) = .nx r3 S3) ∧
          ∃ (dg : List Int) (x4 x5 x6 x7 : Option DL.D), dg.length ≤ 60 * (i + 1) ∧ r3 = [some (.scr ns), some (.int 0), some (.int 63), some (.ref S.length), x4, x5, x6, x7] ∧ S3 = S ++ [.lst (dg.map .int)]) ∨
        (semSs (match a_law_digits_u with
        | .cons _ (.cons (.forr _ _ (.cons _ (.cons _ b))) _) => b
        | _ => .nil) { P with fn := run tb P (k + 1) } [some (.scr ns), some (.int 0), some (.int 63), some (.ref S.length), some (.int (i : Nat)), some (.int c), x6, x7] (S ++ [.lst (dg.map .int)]) = .brk r3 S3 ∧
          ∃ (dg : List Int) (x4 x5 x6 x7 : Option DL.D), r3 = [some (.scr ns), some (.int 0), some (.int 63), some (.ref S.length), x4, x5, x6, x7] ∧ S3 = S ++ [.lst (dg.map .int)]) := by
      intro c
      by_cases hb : (1500 : Int) < dg.length
      · exact ⟨_, _, .inr ⟨ss_brk (s_ifT (by simp [semE, semB, semEs, coF, biF, hb]) (ss_brk (by simp only [semS]))), dg, some (.int (i : Nat)), some (.int c), x6, x7, rfl, rfl⟩⟩
      · by_cases hc2 : (1000000000000000000 : Int) ≤ c
        · obtain ⟨dg2, c2, x, h2, e2⟩ := turn60 (Q := { P with fn := run tb P (k + 1) }) (S := S) (a0 := some (.scr ns)) (a1 := some (.int 0)) (a2 := some (.int 63)) (a4 := some (.int (i : Nat))) (x6 := x6) (x7 := x7) (dg := dg) (c := c) (by omega)
          exact ⟨_, _, .inl ⟨ss_nx (s_if1 (by simp [semE, semB, semEs, coF, biF, hb])) (ss_nx (s_ifT (by simp [semE, semB, coF, boF, pw18, hc2]) (ss_nx e2 ss0)) ss0), dg2, _, _, _, _, by omega, rfl, rfl⟩⟩
        · obtain ⟨dg2, c2, x, h2, e2⟩ := turn12 (Q := { P with fn := run tb P (k + 1) }) (S := S) (a0 := some (.scr ns)) (a1 := some (.int 0)) (a2 := some (.int 63)) (a4 := some (.int (i : Nat))) (a5 := some (.int c)) (x6 := x6) (sd := (c * 48271 + (i : Nat) * 69621 + 11) % 2147483647) (dg := dg) (by omega)
          exact ⟨_, _, .inl ⟨ss_nx (s_if1 (by simp [semE, semB, semEs, coF, biF, hb])) (ss_nx (s_ifF (by simp [semE, semB, coF, boF, pw18, hc2]) (ss_nx (s_asg0 (.int ((c * 48271 + (i : Nat) * 69621 + 11) % 2147483647)) (by simp [semE, semEs, biF, boF, f1, f2]) rfl) (ss_nx e2 ss0))) ss0), dg2, _, _, _, _, by omega, rfl, rfl⟩⟩
    by_cases hn : c < 0
    · obtain ⟨r3, S3, h⟩ := step (1 - 2 * c)
      refine ⟨r3, S3, ?_⟩
      have e1 : ∀ x, semSs (match a_law_digits_u with
        | .cons _ (.cons (.forr _ _ (.cons _ (.cons _ b))) _) => b
        | _ => .nil) { P with fn := run tb P (k + 1) } [some (.scr ns), some (.int 0), some (.int 63), some (.ref S.length), some (.int (i : Nat)), some (.int (1 - 2 * c)), x6, x7] (S ++ [.lst (dg.map .int)]) = x → semSs (match a_law_digits_u with
        | .cons _ (.cons (.forr _ _ b) _) => b
        | _ => .nil) { P with fn := run tb P (k + 1) } [some (.scr ns), some (.int 0), some (.int 63), some (.ref S.length), some (.int (i : Nat)), x5, x6, x7] (S ++ [.lst (dg.map .int)]) = x := fun x hx =>
          ss_nx (s_asg0 (.int c) (by simp [semE, semEs, hc]) rfl) (ss_nx (s_ifT (by simp [semE, semB, coF, hn]) (ss_nx (s_asg0 (.int (1 - 2 * c)) (by simp [semE, boF, f0]) rfl) ss0)) hx)
      rcases h with ⟨h1, h2⟩ | ⟨h1, h2⟩
      · exact .inl ⟨.inl (e1 _ h1), h2⟩
      · exact .inr ⟨e1 _ h1, h2⟩
    · obtain ⟨r3, S3, h⟩ := step c
      refine ⟨r3, S3, ?_⟩
      have e1 : ∀ x, semSs (match a_law_digits_u with
        | .cons _ (.cons (.forr _ _ (.cons _ (.cons _ b))) _) => b
        | _ => .nil) { P with fn := run tb P (k + 1) } [some (.scr ns), some (.int 0), some (.int 63), some (.ref S.length), some (.int (i : Nat)), some (.int c), x6, x7] (S ++ [.lst (dg.map .int)]) = x → semSs (match a_law_digits_u with
        | .cons _ (.cons (.forr _ _ b) _) => b
        | _ => .nil) { P with fn := run tb P (k + 1) } [some (.scr ns), some (.int 0), some (.int 63), some (.ref S.length), some (.int (i : Nat)), x5, x6, x7] (S ++ [.lst (dg.map .int)]) = x := fun x hx =>
          ss_nx (s_asg0 (.int c) (by simp [semE, semEs, hc]) rfl) (ss_nx (s_if1 (by simp [semE, semB, coF, hn])) hx)
      rcases h with ⟨h1, h2⟩ | ⟨h1, h2⟩
      · exact .inl ⟨.inl (e1 _ h1), h2⟩
      · exact .inr ⟨e1 _ h1, h2⟩
end K25
set_option Elab.async false
set_option linter.all false
set_option maxRecDepth 100000
set_option maxHeartbeats 2000000
/-! M3: a value is like itself. -/
namespace K25
open PySem L2 DL
mutual
/-- data n deep: ints, texts, tuples -/
def pln : Nat → DL.D → Bool
  | _, .int _ => true
  | _, .str s => decide (s.length ≤ 1000000) && okS s
  | n + 1, .tup ds => decide (ds.length ≤ 1000000) && plns n ds
  | _, _ => false
def plns : Nat → List DL.D → Bool
  | _, [] => true
  | n, d :: ds => pln n d && plns n ds
end
theorem plns_all {n : Nat} {ds : List DL.D} : plns n ds = true ↔ ∀ d ∈ ds, pln n d = true := by
  induction ds with
  | nil => simp [plns]
  | cons d ds ih => simp [plns, ih]
theorem isi_tup {T : String} (h : T ∈ tys) {ds : List DL.D} {S : Sto} : fIsi T (.tup ds) S = .ok (.bl (isT "tuple" T)) S := by simp [fIsi, tyD, h]
theorem isi_int {T : String} (h : T ∈ tys) {i : Int} {S : Sto} : fIsi T (.int i) S = .ok (.bl (isT "int" T)) S := by simp [fIsi, tyD, h]
theorem isi_str {T : String} (h : T ∈ tys) {s : List Nat} {S : Sto} : fIsi T (.str s) S = .ok (.bl (isT "str" T)) S := by simp [fIsi, tyD, h]
theorem isi_lst {T : String} (h : T ∈ tys) {ds : List DL.D} {S : Sto} : fIsi T (.lst ds) S = .ok (.bl (isT "list" T)) S := by simp [fIsi, tyD, h]
theorem isi_non {T : String} (h : T ∈ tys) {S : Sto} : fIsi T .non S = .ok (.bl (isT "NoneType" T)) S := by simp [fIsi, tyD, h]
theorem isi_bl {T : String} (h : T ∈ tys) {c : Bool} {S : Sto} : fIsi T (.bl c) S = .ok (.bl (isT "bool" T)) S := by simp [fIsi, tyD, h]
@[simp] theorem i_tup_int {ds : List DL.D} {S : Sto} : fIsi "int" (.tup ds) S = .ok (.bl false) S := isi_tup (by decide)
@[simp] theorem i_tup_str {ds : List DL.D} {S : Sto} : fIsi "str" (.tup ds) S = .ok (.bl false) S := isi_tup (by decide)
@[simp] theorem i_tup_tuple {ds : List DL.D} {S : Sto} : fIsi "tuple" (.tup ds) S = .ok (.bl true) S := isi_tup (by decide)
@[simp] theorem i_tup_bool {ds : List DL.D} {S : Sto} : fIsi "bool" (.tup ds) S = .ok (.bl false) S := isi_tup (by decide)
@[simp] theorem i_tup_list {ds : List DL.D} {S : Sto} : fIsi "list" (.tup ds) S = .ok (.bl false) S := isi_tup (by decide)
@[simp] theorem i_int_int {i : Int} {S : Sto} : fIsi "int" (.int i) S = .ok (.bl true) S := isi_int (by decide)
@[simp] theorem i_int_str {i : Int} {S : Sto} : fIsi "str" (.int i) S = .ok (.bl false) S := isi_int (by decide)
@[simp] theorem i_int_tuple {i : Int} {S : Sto} : fIsi "tuple" (.int i) S = .ok (.bl false) S := isi_int (by decide)
@[simp] theorem i_int_bool {i : Int} {S : Sto} : fIsi "bool" (.int i) S = .ok (.bl false) S := isi_int (by decide)
@[simp] theorem i_int_list {i : Int} {S : Sto} : fIsi "list" (.int i) S = .ok (.bl false) S := isi_int (by decide)
@[simp] theorem i_str_int {s : List Nat} {S : Sto} : fIsi "int" (.str s) S = .ok (.bl false) S := isi_str (by decide)
@[simp] theorem i_str_str {s : List Nat} {S : Sto} : fIsi "str" (.str s) S = .ok (.bl true) S := isi_str (by decide)
@[simp] theorem i_str_tuple {s : List Nat} {S : Sto} : fIsi "tuple" (.str s) S = .ok (.bl false) S := isi_str (by decide)
@[simp] theorem i_str_bool {s : List Nat} {S : Sto} : fIsi "bool" (.str s) S = .ok (.bl false) S := isi_str (by decide)
@[simp] theorem i_str_list {s : List Nat} {S : Sto} : fIsi "list" (.str s) S = .ok (.bl false) S := isi_str (by decide)
@[simp] theorem i_lst_int {ds : List DL.D} {S : Sto} : fIsi "int" (.lst ds) S = .ok (.bl false) S := isi_lst (by decide)
@[simp] theorem i_lst_str {ds : List DL.D} {S : Sto} : fIsi "str" (.lst ds) S = .ok (.bl false) S := isi_lst (by decide)
@[simp] theorem i_lst_tuple {ds : List DL.D} {S : Sto} : fIsi "tuple" (.lst ds) S = .ok (.bl false) S := isi_lst (by decide)
@[simp] theorem i_lst_bool {ds : List DL.D} {S : Sto} : fIsi "bool" (.lst ds) S = .ok (.bl false) S := isi_lst (by decide)
@[simp] theorem i_lst_list {ds : List DL.D} {S : Sto} : fIsi "list" (.lst ds) S = .ok (.bl true) S := isi_lst (by decide)
@[simp] theorem i_non_int  {S : Sto} : fIsi "int" (.non) S = .ok (.bl false) S := isi_non (by decide)
@[simp] theorem i_non_str  {S : Sto} : fIsi "str" (.non) S = .ok (.bl false) S := isi_non (by decide)
@[simp] theorem i_non_tuple  {S : Sto} : fIsi "tuple" (.non) S = .ok (.bl false) S := isi_non (by decide)
@[simp] theorem i_non_bool  {S : Sto} : fIsi "bool" (.non) S = .ok (.bl false) S := isi_non (by decide)
@[simp] theorem i_non_list  {S : Sto} : fIsi "list" (.non) S = .ok (.bl false) S := isi_non (by decide)
@[simp] theorem i_bl_int {c : Bool} {S : Sto} : fIsi "int" (.bl c) S = .ok (.bl true) S := isi_bl (by decide)
@[simp] theorem i_bl_str {c : Bool} {S : Sto} : fIsi "str" (.bl c) S = .ok (.bl false) S := isi_bl (by decide)
@[simp] theorem i_bl_tuple {c : Bool} {S : Sto} : fIsi "tuple" (.bl c) S = .ok (.bl false) S := isi_bl (by decide)
@[simp] theorem i_bl_bool {c : Bool} {S : Sto} : fIsi "bool" (.bl c) S = .ok (.bl true) S := isi_bl (by decide)
@[simp] theorem i_bl_list {c : Bool} {S : Sto} : fIsi "list" (.bl c) S = .ok (.bl false) S := isi_bl (by decide)
theorem like_self (S : Sto) : ∀ (n : Nat) (d : DL.D), pln n d = true → run tb P (n + 1) 14 [d, d] S = .ok (.bl true) S := by
  intro n
  induction n with
  | zero =>
    intro d h
    cases d with
    | int i =>
      refine run_of (d := d_14) (x := .ret (.bl true) S) rfl rfl ?_ (fin_pl rfl)
      refine ss_nx (s_if1 (by simp [startL, d_14, semB, semE])) ?_
      refine ss_nx (s_if1 (by simp [startL, d_14, semB, semE, coF, DL.isNon])) ?_
      refine ss_nx (s_if1 (by simp [startL, d_14, semB, semE, coF, isBl])) ?_
      refine ss_nx (s_if1 (by simp [startL, d_14, semB, semE, coF, isBl])) ?_
      refine ss_nx (s_if1 (by simp [startL, d_14, semB, semE])) ?_
      exact ss_ret (s_ret0 (by simp [startL, d_14, semE, semAnd, coF]))
    | str s =>
      simp only [pln, Bool.and_eq_true, decide_eq_true_eq] at h
      refine run_of (d := d_14) (x := .ret (.bl true) S) rfl rfl ?_ (fin_pl rfl)
      refine ss_nx (s_if1 (by simp [startL, d_14, semB, semE])) ?_
      refine ss_nx (s_if1 (by simp [startL, d_14, semB, semE, coF, DL.isNon])) ?_
      refine ss_nx (s_if1 (by simp [startL, d_14, semB, semE, coF, isBl])) ?_
      refine ss_nx (s_if1 (by simp [startL, d_14, semB, semE, coF, isBl])) ?_
      refine ss_ret (s_ifT (by simp [startL, d_14, semB, semE]) (ss_ret (s_ret0 ?_)))
      simp [startL, d_14, semE, semEs, semAnd, coF, mtF, mtT, fJoin, strsD, joinS, h.1, h.2]
    | _ => simp [pln] at h
  | succ n ih =>
    intro d h
    cases d with
    | int i =>
      refine run_of (d := d_14) (x := .ret (.bl true) S) rfl rfl ?_ (fin_pl rfl)
      refine ss_nx (s_if1 (by simp [startL, d_14, semB, semE])) ?_
      refine ss_nx (s_if1 (by simp [startL, d_14, semB, semE, coF, DL.isNon])) ?_
      refine ss_nx (s_if1 (by simp [startL, d_14, semB, semE, coF, isBl])) ?_
      refine ss_nx (s_if1 (by simp [startL, d_14, semB, semE, coF, isBl])) ?_
      refine ss_nx (s_if1 (by simp [startL, d_14, semB, semE])) ?_
      exact ss_ret (s_ret0 (by simp [startL, d_14, semE, semAnd, coF]))
    | str s =>
      simp only [pln, Bool.and_eq_true, decide_eq_true_eq] at h
      refine run_of (d := d_14) (x := .ret (.bl true) S) rfl rfl ?_ (fin_pl rfl)
      refine ss_nx (s_if1 (by simp [startL, d_14, semB, semE])) ?_
      refine ss_nx (s_if1 (by simp [startL, d_14, semB, semE, coF, DL.isNon])) ?_
      refine ss_nx (s_if1 (by simp [startL, d_14, semB, semE, coF, isBl])) ?_
      refine ss_nx (s_if1 (by simp [startL, d_14, semB, semE, coF, isBl])) ?_
      refine ss_ret (s_ifT (by simp [startL, d_14, semB, semE]) (ss_ret (s_ret0 ?_)))
      simp [startL, d_14, semE, semEs, semAnd, coF, mtF, mtT, fJoin, strsD, joinS, h.1, h.2]
    | tup ds =>
      simp only [pln, Bool.and_eq_true, decide_eq_true_eq] at h
      have hp := plns_all.mp h.2
      refine run_of (d := d_14) (x := .ret (.bl true) S) rfl rfl ?_ (fin_pl rfl)
      refine ss_ret (s_ifT (by simp [startL, d_14, semB, semE]) ?_)
      refine ss_nx (s_if1 (by simp [startL, d_14, semB, semAny, semE, semEs, coF, biF])) (ss_ret (s_ret0 ?_))
      have hl : ds.length ≤ 1000000 := h.1
      have hn : ds.length < 4611686018427387904 := by omega
      have g : ∀ d ∈ rangeD 0 ds.length, (match asg (.name 2) d (wipeL (startL d_14.N.length [.tup ds, .tup ds]) [2]) with
          | some r2 => ((semC { P with fn := run tb P (n + 1) } (.some (.not (.call 14 (.cons (.ix (.var 0) (.var 2)) (.cons (.ix (.var 1) (.var 2)) .nil))))) r2 S).bind fun k S3 => if k then (semE { P with fn := run tb P (n + 1) } (.int 1) r2 S3).bind fun y S4 => .ok (some y) S4 else .ok none S3).quiet
          | none => .bad) = .ok none S := by
        intro d hd
        obtain ⟨i, hi⟩ := List.getElem?_of_mem hd
        obtain ⟨hi2, rfl⟩ := range_item hi
        have := ih ds[i] (hp _ (List.getElem_mem hi2))
        simp [asg, startL, d_14, wipeL, semC, semB, semE, semEs, hi2, this]
      have e : ∀ g' : DL.D → Sto → Re (Option DL.D), (∀ d ∈ rangeD 0 ds.length, g' d S = .ok none S) → compG none g' (rangeD 0 ds.length) S = .ok [] S := fun g' hg => by
        rw [compG_map (gd := none) (f := fun _ => none) trivial hg]
        simp
      have e2 : semE { P with fn := run tb P (n + 1) } (.comp false [2] (.int 1) (.name 2) (.range1 (.blt .len (.cons (.var 1) .nil))) (.some (.not (.call 14 (.cons (.ix (.var 0) (.var 2)) (.cons (.ix (.var 1) (.var 2)) .nil)))))) (startL d_14.N.length [.tup ds, .tup ds]) S = .ok (.lst []) S := by
        have hI : semI { P with fn := run tb P (n + 1) } (.range1 (.blt .len (.cons (.var 1) .nil))) (startL d_14.N.length [.tup ds, .tup ds]) S = .ok (rangeD 0 ds.length, none) S := by
          simp [semI, startL, d_14, semE, semEs, biF, hn]
        simp only [semE, hI, bind_ok, rangeD_length, hl, if_true]
        rw [e _ g]
        simp [pushD]
      have e3 : semE { P with fn := run tb P (n + 1) } (.lst .nil) (startL d_14.N.length [.tup ds, .tup ds]) S = .ok (.lst []) S := by simp [semE, semEs]
      have e4 : fEq (.lst []) (.lst []) S = .ok (.bl true) S := by rw [fEq_pl (by simp [okD, okDs]) (by simp [okD, okDs]) rfl rfl]; simp [eqD, eqDs]
      show semE _ (.cmp .eq _ _) _ _ = _
      rw [semE]
      dsimp only
      rw [e2]
      simp only [bind_ok]
      rw [e3]
      simp only [bind_ok, coF, e4]
    | _ => simp [pln] at h
end K25
set_option Elab.async false
set_option linter.all false
set_option maxRecDepth 100000
set_option maxHeartbeats 2000000
/-! M4: numbers. -/
namespace K25
open PySem L2 DL
def dgs (w : List Nat) : Bool := w.all fun c => decide (48 ≤ c) && decide (c ≤ 57)
def asc (w : List Nat) : Bool := w.all fun c => decide (c < 128)
theorem tx_ascii (w : List Nat) : Txt.isascii (strO w) = asc w := by simp [Txt.isascii, strO, asc]
theorem digit128 : ∀ c, c < 128 → Unicode.isDigit c = (decide (48 ≤ c) && decide (c ≤ 57)) := by decide +kernel
theorem tx_digit {w : List Nat} (h : asc w = true) : Txt.isdigit (strO w) = (!w.isEmpty && dgs w) := by
  have hl : (strO w).length = w.length := st_len w
  unfold Txt.isdigit
  rw [hl]
  have e : (strO w).cps.all Unicode.isDigit = w.all Unicode.isDigit := by simp [strO]
  rw [e]
  have e2 : w.all Unicode.isDigit = dgs w := by
    unfold dgs
    unfold asc at h
    rw [List.all_eq_true] at h
    rw [Bool.eq_iff_iff, List.all_eq_true, List.all_eq_true]
    exact ⟨fun q c hc => by rw [← digit128 c (by simpa using h c hc)]; exact q c hc, fun q c hc => by rw [digit128 c (by simpa using h c hc)]; exact q c hc⟩
  rw [e2]
  cases w <;> simp
theorem dgs_asc {w : List Nat} (h : dgs w = true) : asc w = true := by
  unfold dgs at h
  unfold asc
  rw [List.all_eq_true] at h ⊢
  intro c hc
  have := h c hc
  simp only [Bool.and_eq_true, decide_eq_true_eq] at this ⊢
  omega
theorem dgs_all {w : List Nat} (h : dgs w = true) : NumText.AllDigits w := by
  unfold dgs at h
  rw [List.all_eq_true] at h
  intro c hc
  have := h c hc
  simpa using this
theorem cut_from {α : Type} (w : List α) (k : Nat) : cut w (some (k : Int)) none = w.drop k := by
  unfold cut
  rw [HT.sIx_nat, HT.sIx_none]
  by_cases h : k ≤ w.length
  · rw [Nat.min_eq_left h, List.take_of_length_le (by simp)]
  · rw [Nat.min_eq_right (by omega), List.drop_of_length_le (Nat.le_refl _), List.drop_of_length_le (by omega)]
    simp
theorem cut_to {α : Type} (w : List α) (k : Nat) : cut w none (some (k : Int)) = w.take k := by
  unfold cut
  rw [HT.sIx_nat, HT.sIx_none]
  simp
theorem sl_from {S : Sto} {w : List Nat} (h : w.length ≤ 1000000) (k : Nat) : fSl (.str w) (some (k : Int)) none S = .ok (.str (w.drop k)) S := by
  unfold fSl
  simp only [vw_str, h, if_true, cut_from]
theorem tx_minus (w : List Nat) : Txt.startswith (strO w) (strO [45]) = (w.head? == some 45) := by
  unfold Txt.startswith Builtin.Str.subAt
  cases w with
  | nil => rfl
  | cons c w =>
    simp [strO, Str.length]
/-- the number that a word tells, of at most 8 figures -/
def bare (w : List Nat) : List Nat := if w.head? = some 45 then w.drop 1 else w
def valS (w : List Nat) : Int := if w.head? = some 45 then -(NumText.digitsVal (w.drop 1) : Int) else (NumText.digitsVal w : Int)
def numS (w : List Nat) : Option Int := if (bare w).isEmpty || !dgs (bare w) || decide (8 < (bare w).length) then none else if (bare w).head? = some 48 ∧ w ≠ [48] then none else some (valS w)
theorem int_of {w : List Nat} (h : dgs (bare w) = true) (h1 : bare w ≠ []) (h2 : (bare w).length ≤ 100) {S : Sto} : fInt [.str w] S = .ok (.int (valS w)) S := by
  have hx : (⟨w.toArray⟩ : Str).cps.toList = w := by simp
  have hl : (⟨w.toArray⟩ : Str).length = w.length := str_len w
  unfold fInt
  by_cases hm : w.head? = some 45
  · cases w with
    | nil => cases hm
    | cons c cs =>
      simp at hm
      subst hm
      have hb : bare (45 :: cs) = cs := by simp [bare]
      rw [hb] at h h1 h2
      have e := PySem.intText_neg (x := ⟨(45 :: cs).toArray⟩) (cs := cs) (by simp) (dgs_all h) h1 (by rw [str_len]; simp; omega)
      dsimp only
      rw [e]
      simp [valS]
      omega
  · have hb : bare w = w := by simp [bare, hm]
    rw [hb] at h h1 h2
    have e := PySem.intText_digits (x := ⟨w.toArray⟩) (by rw [hx]; exact dgs_all h) (by rw [hx]; exact h1) (by rw [hl]; omega)
    rw [hx] at e
    dsimp only
    rw [e]
    simp [valS, hm]
    omega
end K25
set_option Elab.async false
set_option linter.all false
set_option maxRecDepth 100000
set_option maxHeartbeats 2000000
/-! M5: the program's numbers. -/
namespace K25
open PySem L2 DL
def optI : Option Int → DL.D
  | some n => .int n
  | none => .non
theorem gcM : P.gc "MOST_AMOUNT" = some (.int 50000000) := by simp [P]
theorem gcL : P.gc "LAST_DAY" = some (.int 19999) := by simp [P]
theorem digM : digS 50000000 = [53, 48, 48, 48, 48, 48, 48, 48] := by decide +kernel
theorem strM (S : Sto) : fStr [.int 50000000] S = .ok (.str [53, 48, 48, 48, 48, 48, 48, 48]) S := by
  show (if (50000000 : Int).natAbs.log2 < 1920 then Re.ok (DL.D.str (digS 50000000)) S else .bad) = _
  rw [if_pos (by decide +kernel), digM]
theorem bare_len (w : List Nat) : (bare w).length ≤ w.length := by
  unfold bare
  split <;> simp
theorem number_ok (k : Nat) {w : List Nat} (hl : w.length ≤ 1000000) (hs : okS w = true) (S : Sto) : run tb P (k + 1) 9 [.str w] S = .ok (optI (numS w)) S := by
  refine run_of (d := d_9) (x := .ret (optI (numS w)) S) rfl rfl ?_ (fin_pl (by unfold optI; split <;> rfl))
  have hb : (bare w).length ≤ 1000000 := Nat.le_trans (bare_len w) hl
  refine ss_nx (s_asg0 (.str (bare w)) ?_ rfl) ?_
  · have e1 : fStarts (.str w) [.str [45]] S = .ok (.bl (w.head? == some 45)) S := by rw [← tx_minus]; rfl
    have e2 : fSl (.str w) (some 1) none S = .ok (.str (w.drop 1)) S := sl_from hl 1
    by_cases h : w.head? = some 45
    · simp [startL, d_9, semE, semB, semEs, semO, mtF, mtT, e1, e2, h, bare]
    · simp [startL, d_9, semE, semB, semEs, semO, mtF, mtT, e1, e2, h, bare]
  · generalize hbw : bare w = b at hb
    have a1 : fTx0 Txt.isascii (.str b) [] S = .ok (.bl (asc b)) S := by rw [← tx_ascii]; rfl
    by_cases h1 : asc b = true
    · have a2 : fTx0 Txt.isdigit (.str b) [] S = .ok (.bl (!b.isEmpty && dgs b)) S := by rw [← tx_digit h1]; rfl
      by_cases h2 : b.isEmpty = false ∧ dgs b = true
      · by_cases h3 : 8 < b.length
        · have e : numS w = none := by simp [numS, hbw, h3]
          rw [e]
          exact ss_ret (s_ifT (by simp [startL, d_9, semE, semB, semAny, semEs, mtF, mtT, a1, a2, h1, h2, coF, biF, gcM, strM, hb]; omega) (ss_ret (s_ret0 (by simp [semE, optI]))))
        · refine ss_nx (s_if1 (by simp [startL, d_9, semE, semB, semAny, semEs, mtF, mtT, a1, a2, h1, h2, coF, biF, gcM, strM, hb]; omega)) ?_
          have hne : b ≠ [] := by intro z; rw [z] at h2; simp at h2
          obtain ⟨c, cs, rfl⟩ := List.exists_cons_of_ne_nil hne
          have oc : okS [c] = true := by
            have := dgs_all h2.2 c List.mem_cons_self
            simp [okS]
            omega
          have o48 : okS [48] = true := by decide
          have e5 : fIx (.str (c :: cs)) (.int 0) S = .ok (.str [c]) S := by rw [fIx_str hb]; simp
          have e6 : fEq (.str [c]) (.str [48]) S = .ok (.bl (c == 48)) S := by rw [fEq_str oc o48]; simp
          have e7 : fNe (.str w) (.str [48]) S = .ok (.bl (!(w == [48]))) S := fNe_str hs o48
          by_cases h4 : c = 48 ∧ w ≠ [48]
          · have e : numS w = none := by simp [numS, hbw, h4]
            rw [e]
            obtain ⟨rfl, h4⟩ := h4
            exact ss_ret (s_ifT (by simp [startL, d_9, semE, semB, semAll, coF, e5, e6, e7, h4]) (ss_ret (s_ret0 (by simp [semE, optI]))))
          · have e : numS w = some (valS w) := by
              simp only [numS, hbw]
              rw [if_neg (by simp [h2.2]; simpa using h3), if_neg (by simpa using h4)]
            rw [e]
            refine ss_nx (s_if1 ?_) (ss_ret (s_ret0 ?_))
            · by_cases h5 : c = 48
              · have h6 : w = [48] := Classical.byContradiction fun z => h4 ⟨h5, z⟩
                subst h5
                rw [h6] at e7 ⊢
                simp [startL, d_9, semE, semB, semAll, coF, e5, e6, e7]
              · simp [startL, d_9, semE, semB, semAll, coF, e5, e6, h5]
            · have hi := int_of (w := w) (S := S) (by rw [hbw]; exact h2.2) (by rw [hbw]; simp) (by rw [hbw]; omega)
              simp [startL, d_9, semE, semEs, biF, hi, optI]
      · have e : numS w = none := by
          unfold numS
          rw [hbw, if_pos]
          simp only [not_and] at h2
          cases hq : b.isEmpty <;> simp_all
        rw [e]
        have h2' : (!b.isEmpty && dgs b) = false := by
          cases hq : b.isEmpty <;> simp_all
        rw [h2'] at a2
        exact ss_ret (s_ifT (by simp [startL, d_9, semE, semB, semAny, semEs, mtF, mtT, a1, a2, h1]) (ss_ret (s_ret0 (by simp [semE, optI]))))
    · have e : numS w = none := by
        unfold numS
        rw [hbw, if_pos]
        have : dgs b ≠ true := fun z => h1 (dgs_asc z)
        simp [this]
      rw [e]
      exact ss_ret (s_ifT (by simp [startL, d_9, semE, semB, semAny, semEs, mtF, mtT, a1, h1]) (ss_ret (s_ret0 (by simp [semE, optI]))))
end K25
set_option Elab.async false
set_option linter.all false
set_option maxRecDepth 100000
set_option maxHeartbeats 2000000
/-! M6: is_whole, is_answer, the law's number. -/
namespace K25
open PySem L2 DL
theorem whole_ok (k : Nat) (i lo hi : Int) (S : Sto) : run tb P (k + 1) 0 [.int i, .int lo, .int hi] S = .ok (.bl (decide (lo ≤ i) && decide (i ≤ hi))) S := by
  refine run_of (d := d_0) (x := .ret (.bl (decide (lo ≤ i) && decide (i ≤ hi))) S) rfl rfl ?_ (fin_pl rfl)
  refine ss_ret (s_ret0 ?_)
  by_cases h : lo ≤ i
  · simp [startL, d_0, semE, semAnd, coF, h]
  · simp [startL, d_0, semE, semAnd, coF, h]
theorem answer_int (k : Nat) (i : Int) (S : Sto) : run tb P (k + 2) 1 [.int i] S = .ok (.bl (decide (-50000000 ≤ i) && decide (i ≤ 50000000))) S := by
  have e := whole_ok k i (-50000000) 50000000 S
  refine run_of (d := d_1) (x := .ret (.bl (decide (-50000000 ≤ i) && decide (i ≤ 50000000))) S) rfl rfl ?_ (fin_pl rfl)
  refine ss_nx (s_if1 (by simp [startL, d_1, semE, semB])) (ss_ret (s_ret0 ?_))
  simp only [startL, d_1, semE, semEs, gcM, bind_ok, fNeg_int]
  simpa using e
theorem sub_one (c : Nat) (y : List Nat) : subS [c] y = decide (c ∈ y) := by
  unfold subS
  have e : y.length = (⟨y.toArray⟩ : Str).length := (str_len y).symm
  rw [e]
  have := StrLaws.found_one ⟨y.toArray⟩ c
  simpa using this
theorem fNotIn_one {c : Nat} {y : List Nat} {S : Sto} : fNotIn (.str [c]) (.str y) S = .ok (.bl (!decide (c ∈ y))) S := by
  unfold fNotIn
  simp only [vw_str, sub_one]
def figs : List Nat := [48, 49, 50, 51, 52, 53, 54, 55, 56, 57]
theorem mem_figs (c : Nat) : decide (c ∈ figs) = (decide (48 ≤ c) && decide (c ≤ 57)) := by
  rw [Bool.eq_iff_iff]
  simp [figs]
  omega
/-- the law's number -/
def numL (w : List Nat) (most : Int) : Option Int := if w.isEmpty || decide (9 < w.length) || !dgs w then none else if w.head? = some 48 ∧ w ≠ [48] then none else if valS w ≤ most then some (valS w) else none
theorem fm_eq : ∀ w : List Nat, (w.map (fun c => DL.D.str [c])).filterMap (fun d => match d with | .str [c] => if (decide (48 ≤ c) && decide (c ≤ 57)) then none else some (DL.D.str [c]) | _ => none) = (w.filter fun c => !(decide (48 ≤ c) && decide (c ≤ 57))).map fun c => .str [c]
  | [] => rfl
  | c :: w => by
    rw [List.map_cons, List.filterMap_cons, List.filter_cons, fm_eq w]
    cases hq : (decide (48 ≤ c) && decide (c ≤ 57)) <;> simp [hq]
theorem signs_ok (Q : Par) {w : List Nat} (hl : w.length ≤ 1000000) (x1 x2 : Option DL.D) (S : Sto) : semE Q (.comp false [2] (.var 2) (.name 2) (.plain (.var 0)) (.some (.cmp .notIn (.var 2) (.str [48, 49, 50, 51, 52, 53, 54, 55, 56, 57])))) [some (.str w), x1, x2] S = .ok (.lst ((w.filter fun c => !(decide (48 ≤ c) && decide (c ≤ 57))).map fun c => .str [c])) S := by
  have hI : semI Q (.plain (.var 0)) [some (.str w), x1, x2] S = .ok (w.map (fun c => DL.D.str [c]), none) S := by simp [semI, semE, walk]
  have g : ∀ d ∈ w.map (fun c => DL.D.str [c]), (match asg (.name 2) d (wipeL [some (.str w), x1, x2] [2]) with
      | some r2 => ((semC Q (.some (.cmp .notIn (.var 2) (.str [48, 49, 50, 51, 52, 53, 54, 55, 56, 57]))) r2 S).bind fun k S3 => if k then (semE Q (.var 2) r2 S3).bind fun y S4 => .ok (some y) S4 else .ok none S3).quiet
      | none => .bad) = .ok ((fun d => match d with | .str [c] => if (decide (48 ≤ c) && decide (c ≤ 57)) then none else some (DL.D.str [c]) | _ => none) d) S := by
    intro d hd
    obtain ⟨c, hc, rfl⟩ := List.mem_map.mp hd
    have e : fNotIn (.str [c]) (.str [48, 49, 50, 51, 52, 53, 54, 55, 56, 57]) S = .ok (.bl (!(decide (48 ≤ c) && decide (c ≤ 57)))) S := by
      rw [fNotIn_one]
      have := mem_figs c
      unfold figs at this
      rw [this]
    cases hq : (decide (48 ≤ c) && decide (c ≤ 57)) with
    | true =>
      rw [hq] at e
      simp only [asg, wipeL, semC, semB, semE, coF, List.set_cons_succ, List.set_cons_zero, List.getElem?_cons_succ, List.getElem?_cons_zero, bind_ok, e, toB_bl, hq]
      rfl
    | false =>
      rw [hq] at e
      simp only [asg, wipeL, semC, semB, semE, coF, List.set_cons_succ, List.set_cons_zero, List.getElem?_cons_succ, List.getElem?_cons_zero, bind_ok, e, toB_bl, hq]
      rfl
  have e : ∀ (g' : DL.D → Sto → Re (Option DL.D)) (f : DL.D → Option DL.D), (∀ d ∈ w.map (fun c => DL.D.str [c]), g' d S = .ok (f d) S) → compG none g' (w.map (fun c => DL.D.str [c])) S = .ok ((w.map (fun c => DL.D.str [c])).filterMap f) S := fun g' f hg => compG_map (gd := none) trivial hg
  simp only [semE, hI, bind_ok, List.length_map, hl, if_true]
  rw [e _ _ g]
  simp only [bind_ok, pushD, fm_eq]
  rfl
theorem filter_dgs (w : List Nat) : ((w.filter fun c => !(decide (48 ≤ c) && decide (c ≤ 57))).isEmpty) = dgs w := by
  unfold dgs
  rw [Bool.eq_iff_iff]
  simp [List.filter_eq_nil_iff]
theorem okS_chars {w : List Nat} (h : okS w = true) : ∀ (p : Nat → Bool), okDs 59 ((w.filter p).map fun c => DL.D.str [c]) = true := by
  intro p
  induction w with
  | nil => rfl
  | cons c w ih =>
    have h2 : okS w = true := by
      unfold okS at h ⊢
      simp at h ⊢
      exact h.2
    have hc : okS [c] = true := by
      unfold okS at h ⊢
      simp at h ⊢
      exact h.1
    rw [List.filter_cons]
    split
    · simp [okDs, okD, hc, ih h2]
    · exact ih h2
theorem ne_nil {S : Sto} {l : List DL.D} (h : okDs 59 l = true) : fNe (.lst l) (.lst []) S = .ok (.bl (!l.isEmpty)) S := by
  rw [fNe_pl (by simpa [okD] using h) (by simp [okD, okDs]) rfl rfl]
  cases l <;> simp [eqD, eqDs]
theorem lnumber_ok (k : Nat) {w : List Nat} (hl : w.length ≤ 1000000) (hs : okS w = true) (most : Int) (S : Sto) : run tb P (k + 1) 17 [.str w, .int most] S = .ok (optI (numL w most)) S := by
  refine run_of (d := d_17) (x := .ret (optI (numL w most)) S) rfl rfl ?_ (fin_pl (by unfold optI; split <;> rfl))
  have o0 : okS [] = true := by decide
  have o48 : okS [48] = true := by decide
  have e1 : fEq (.str w) (.str []) S = .ok (.bl (w == [])) S := fEq_str hs o0
  have e7 : fNe (.str w) (.str [48]) S = .ok (.bl (!(w == [48]))) S := fNe_str hs o48
  have e3 := signs_ok { P with fn := run tb P k } hl (some (.int most)) none S
  have e4 : fNe (.lst ((w.filter fun c => !(decide (48 ≤ c) && decide (c ≤ 57))).map fun c => DL.D.str [c])) (.lst []) S = .ok (.bl (!dgs w)) S := by
    rw [ne_nil (okS_chars hs _)]
    simp only [List.isEmpty_map, filter_dgs]
  have hn : ∀ x, semS (.ret .non) { P with fn := run tb P k } x S = .ret (optI none) S := fun x => s_ret0 (by simp [semE, optI])
  cases w with
  | nil =>
    have e : numL [] most = none := by simp [numL]
    rw [e]
    exact ss_ret (s_ifT (by simp [startL, d_17, semB, semAny, semE, coF, e1]) (ss_ret (hn _)))
  | cons c cs =>
    by_cases h9 : (9 : Int) < ((c :: cs).length : Int)
    · have e : numL (c :: cs) most = none := by
        have : 9 < (c :: cs).length := by omega
        simp only [numL]
        rw [if_pos (by simp only [this, decide_true, Bool.or_true, Bool.true_or])]
      rw [e]
      refine ss_ret (s_ifT ?_ (ss_ret (hn _)))
      simp only [startL, d_17, List.map_cons, List.map_nil, List.length_cons, List.length_nil, semB, semAny, semE, semEs, coF, biF, List.cons_append, List.getElem?_cons_zero, bind_ok, e1, toB_bl, fLen_str hl, fGt_int]
      have : (9 : Int) < (cs.length + 1 : Nat) := by simpa using h9
      simp
      omega
    · have h9n : ¬ 9 < (c :: cs).length := by omega
      have q9 : decide ((9 : Int) < ((c :: cs).length : Int)) = false := decide_eq_false h9
      have e5 : fIx (.str (c :: cs)) (.int 0) S = .ok (.str [c]) S := by rw [fIx_str hl]; simp
      have oc : okS [c] = true := by
        unfold okS at hs ⊢
        simp at hs ⊢
        exact hs.1
      have e6 : fEq (.str [c]) (.str [48]) S = .ok (.bl (c == 48)) S := by rw [fEq_str oc o48]; simp
      have eL : fLen [.str (c :: cs)] S = .ok (.int ((c :: cs).length : Int)) S := fLen_str hl
      generalize hw : c :: cs = w at *
      have hne : (w == ([] : List Nat)) = false := by rw [← hw]; rfl
      have e30 : semE { P with fn := run tb P k } (.lst .nil) [some (.str w), some (.int most), none] S = .ok (.lst []) S := by simp [semE, semEs]
      have tst : ∀ b : Bool, (dgs w = true → b = (c == 48 && !(w == [48]))) → (dgs w = false → b = true) → semB { P with fn := run tb P k } (.or (.cons (.cmp .eq (.var 0) (.str [])) (.cons (.cmp .gt (.blt .len (.cons (.var 0) .nil)) (.int 9)) (.cons (.cmp .ne (.comp false [2] (.var 2) (.name 2) (.plain (.var 0)) (.some (.cmp .notIn (.var 2) (.str [48, 49, 50, 51, 52, 53, 54, 55, 56, 57])))) (.lst .nil)) (.cons (.and (.cons (.cmp .eq (.ix (.var 0) (.int 0)) (.str [48])) (.cons (.cmp .ne (.var 0) (.str [48])) .nil))) .nil))))) [some (.str w), some (.int most), none] S = .ok b S := by
        intro b b1 b2
        have f1 : semB { P with fn := run tb P k } (.cmp .eq (.var 0) (.str [])) [some (.str w), some (.int most), none] S = .ok false S := by simp [semB, semE, coF, e1, hne]
        have f2 : semB { P with fn := run tb P k } (.cmp .gt (.blt .len (.cons (.var 0) .nil)) (.int 9)) [some (.str w), some (.int most), none] S = .ok false S := by
          simp only [semB, semE, semEs, coF, biF, List.getElem?_cons_zero, bind_ok, eL, fGt_int, q9, toB_bl]
        have f3 : semB { P with fn := run tb P k } (.cmp .ne (.comp false [2] (.var 2) (.name 2) (.plain (.var 0)) (.some (.cmp .notIn (.var 2) (.str [48, 49, 50, 51, 52, 53, 54, 55, 56, 57])))) (.lst .nil)) [some (.str w), some (.int most), none] S = .ok (!dgs w) S := by
          rw [semB]
          dsimp only
          rw [e3]
          simp only [bind_ok]
          rw [e30]
          simp only [bind_ok, coF, e4, toB_bl]
        have f4 : semB { P with fn := run tb P k } (.and (.cons (.cmp .eq (.ix (.var 0) (.int 0)) (.str [48])) (.cons (.cmp .ne (.var 0) (.str [48])) .nil))) [some (.str w), some (.int most), none] S = .ok (c == 48 && !(w == [48])) S := by
          by_cases h5 : (c == 48) = true
          · cases h6 : (w == [48]) <;> simp [semB, semAll, semE, coF, e5, e6, e7, h5, h6]
          · simp [semB, semAll, semE, coF, e5, e6, h5]
        simp only [semB, semAny] at f1 f2 f3 f4 ⊢
        rw [f1]
        simp only [bind_ok, Bool.false_eq_true, if_false]
        rw [f2]
        simp only [bind_ok, Bool.false_eq_true, if_false]
        rw [f3]
        cases hd : dgs w with
        | true =>
          simp only [Bool.not_true, bind_ok, Bool.false_eq_true, if_false]
          rw [f4, b1 hd]
          cases (c == 48 && !(w == [48])) <;> rfl
        | false =>
          rw [b2 hd]
          rfl
      cases hd : dgs w with
      | false =>
        have e : numL w most = none := by simp [numL, hd]
        rw [e]
        exact ss_ret (s_ifT (tst true (fun z => by rw [hd] at z; cases z) fun _ => rfl) (ss_ret (hn _)))
      | true =>
        have hem : w.isEmpty = false := by rw [← hw]; rfl
        have hh : w.head? = some c := by rw [← hw]; rfl
        cases h4 : (c == 48 && !(w == [48])) with
        | true =>
          have e : numL w most = none := by
            simp at h4
            simp only [numL]
            rw [hem, hd, decide_eq_false h9n, hh, h4.1]
            simp [h4.2]
          rw [e]
          exact ss_ret (s_ifT (tst true (fun _ => h4.symm) fun _ => rfl) (ss_ret (hn _)))
        | false =>
          have hb : ¬ (w.head? = some 48 ∧ w ≠ [48]) := by
            rw [hh]
            simp at h4 ⊢
            exact h4
          have hbare : bare w = w := by
            unfold bare
            rw [if_neg]
            rw [hh]
            intro z
            have := dgs_all hd c (by rw [← hw]; exact List.mem_cons_self)
            cases z
            omega
          have hi := int_of (w := w) (S := S) (by rw [hbare]; exact hd) (by rw [hbare, ← hw]; simp) (by rw [hbare]; omega)
          have e : numL w most = if valS w ≤ most then some (valS w) else none := by
            simp only [numL]
            rw [hem, hd, decide_eq_false h9n, if_neg hb]
            rfl
          refine ss_nx (s_if1 (tst false (fun _ => h4.symm) fun z => by rw [hd] at z; cases z)) (ss_ret (s_ret0 ?_))
          rw [e]
          by_cases hm : valS w ≤ most
          · simp [startL, d_17, semE, semB, semEs, coF, biF, hi, hm, optI]
          · simp [startL, d_17, semE, semB, semEs, coF, biF, hi, hm, optI]
end K25
set_option Elab.async false
set_option linter.all false
set_option maxRecDepth 100000
set_option maxHeartbeats 2000000
/-! M7: both numbers tell the same. -/
namespace K25
open PySem L2 DL
open NumText
theorem dv_fold : ∀ (cs : List Nat) (a : Nat), cs.foldl (fun acc c => acc * 10 + (c - 48)) a = a * 10 ^ cs.length + digitsVal cs
  | [], a => by simp [digitsVal]
  | c :: cs, a => by
    unfold digitsVal
    rw [List.foldl_cons, List.foldl_cons, dv_fold cs, dv_fold cs (0 * 10 + (c - 48)), List.length_cons, Nat.pow_succ]
    rw [Nat.add_mul, Nat.zero_mul, Nat.zero_add, Nat.mul_assoc, Nat.mul_comm 10]
    omega
theorem dv_cons (c : Nat) (cs : List Nat) : digitsVal (c :: cs) = (c - 48) * 10 ^ cs.length + digitsVal cs := by
  show List.foldl _ _ _ = _
  rw [List.foldl_cons, dv_fold]
  simp
theorem dv_low {c : Nat} {cs : List Nat} (h : 49 ≤ c) : 10 ^ cs.length ≤ digitsVal (c :: cs) := by
  rw [dv_cons]
  have : 1 * 10 ^ cs.length ≤ (c - 48) * 10 ^ cs.length := Nat.mul_le_mul_right _ (by omega)
  omega
theorem num_far {w : List Nat} (h : w.head? = some 45) (m : Int) : numL w m = none := by
  cases w with
  | nil => cases h
  | cons c cs =>
    simp at h
    subst h
    simp [numL, dgs]
/-- a number within 0 .. most, most below 10^8 -/
theorem num_same (w : List Nat) (most : Int) (hm : most < 100000000) : (numS w).filter (fun d => decide (0 ≤ d) && decide (d ≤ most)) = numL w most := by
  by_cases h45 : w.head? = some 45
  · rw [num_far h45]
    unfold numS
    split
    · rfl
    · rename_i h1
      split
      · rfl
      · rename_i h2
        simp only [Bool.or_eq_true, not_or, Bool.not_eq_true] at h1
        have hd : dgs (bare w) = true := by simpa using h1.1.2
        have hv : valS w < 0 := by
          have hb : bare w = w.drop 1 := by simp [bare, h45]
          rw [hb] at hd h2 h1
          cases hw : w.drop 1 with
          | nil => rw [hw] at h1; simp at h1
          | cons c cs =>
            rw [hw] at hd h2
            have hc := dgs_all hd c List.mem_cons_self
            have hc2 : c ≠ 48 := fun z => by
              refine h2 ⟨by rw [z]; rfl, fun z2 => ?_⟩
              rw [z2] at h45
              cases h45
            have := dv_low (c := c) (cs := cs) (by omega)
            have p : 0 < 10 ^ cs.length := Nat.pos_of_ne_zero (by simp)
            simp only [valS, h45, if_true, hw]
            omega
        simp [Option.filter]
        omega
  · have hb : bare w = w := by simp [bare, h45]
    have hv : valS w = (digitsVal w : Int) := by simp [valS, h45]
    unfold numS numL
    rw [hb]
    by_cases he : w.isEmpty = true
    · simp [he]
    · by_cases hd : dgs w = true
      · by_cases h8 : 8 < w.length
        · have e1 : ((w.isEmpty || !dgs w || decide (8 < w.length)) = true) := by simp [h8]
          rw [if_pos e1]
          by_cases h9 : 9 < w.length
          · rw [if_pos (by simp [h9])]
            rfl
          · rw [if_neg (by simp [he, hd]; omega)]
            split
            · rfl
            · rename_i h2
              cases w with
              | nil => simp at h8
              | cons c cs =>
                have hc := dgs_all hd c List.mem_cons_self
                have hc2 : c ≠ 48 := fun z => by
                  refine h2 ⟨by rw [z]; rfl, fun z2 => ?_⟩
                  rw [z2] at h8
                  simp at h8
                have low := dv_low (c := c) (cs := cs) (by omega)
                have hl : cs.length = 8 := by simp at h8 h9; omega
                rw [hl] at low
                rw [hv, if_neg (by omega)]
                rfl
        · have e1 : ¬ ((w.isEmpty || !dgs w || decide (8 < w.length)) = true) := by simp [he, hd]; omega
          have e2 : ¬ ((w.isEmpty || decide (9 < w.length) || !dgs w) = true) := by simp [he, hd]; omega
          rw [if_neg e1, if_neg e2]
          split
          · rfl
          · rw [hv]
            by_cases hq : (digitsVal w : Int) ≤ most
            · simp [Option.filter, hq]
            · simp [Option.filter, hq]
      · rw [if_pos (by simp [hd]), if_pos (by simp [hd])]
        rfl
theorem bare_digit {w : List Nat} (h : dgs w = true) : w.head? ≠ some 45 := fun z => by
  cases w with
  | nil => cases z
  | cons c cs =>
    simp at z
    subst z
    have := dgs_all h 45 List.mem_cons_self
    omega
/-- an amount -/
theorem num_amount (w : List Nat) : (numS w).filter (fun d => decide (-50000000 ≤ d) && decide (d ≤ 50000000)) =
    (numL (bare w) 50000000).bind fun v => if w.head? = some 45 then (if v = 0 then none else some (-v)) else some v := by
  rw [← num_same (bare w) 50000000 (by decide)]
  by_cases h45 : w.head? = some 45
  · have hb : bare w = w.drop 1 := by simp [bare, h45]
    have hw48 : w ≠ [48] := fun z => by rw [z] at h45; cases h45
    by_cases hd : dgs (bare w) = true
    · have hb2 : bare (bare w) = bare w := by
        rw [show bare (bare w) = if (bare w).head? = some 45 then (bare w).drop 1 else bare w from rfl, if_neg (bare_digit hd)]
      have hv2 : valS (bare w) = (digitsVal (bare w) : Int) := by simp [valS, bare_digit hd]
      have hv : valS w = -(digitsVal (bare w) : Int) := by simp only [valS, h45, if_true, hb]
      unfold numS
      rw [hb2, hv, hv2]
      by_cases h1 : ((bare w).isEmpty || !dgs (bare w) || decide (8 < (bare w).length)) = true
      · rw [if_pos h1, if_pos h1]
        rfl
      · rw [if_neg h1, if_neg h1]
        by_cases h2 : (bare w).head? = some 48
        · rw [if_pos ⟨h2, hw48⟩]
          by_cases h3 : bare w = [48]
          · rw [if_neg (fun z => z.2 h3), h3]
            simp [digitsVal, Option.filter, h45]
          · rw [if_pos ⟨h2, h3⟩]
            rfl
        · rw [if_neg (fun z => h2 z.1), if_neg (fun z => h2 z.1)]
          have hpos : 0 < digitsVal (bare w) := by
            cases hq : bare w with
            | nil => rw [hq] at h1; simp at h1
            | cons c cs =>
              rw [hq] at hd h2
              have hc := dgs_all hd c List.mem_cons_self
              have hc2 : c ≠ 48 := fun z => h2 (by rw [z]; rfl)
              have := dv_low (c := c) (cs := cs) (by omega)
              have p : 0 < 10 ^ cs.length := Nat.pos_of_ne_zero (by simp)
              omega
          by_cases h3 : (digitsVal (bare w) : Int) ≤ 50000000
          · have q1 : (-50000000 : Int) ≤ -(digitsVal (bare w) : Int) := by omega
            have q2 : -(digitsVal (bare w) : Int) ≤ 50000000 := by omega
            have q3 : (0 : Int) ≤ digitsVal (bare w) := by omega
            have q4 : ¬ ((digitsVal (bare w) : Int) = 0) := by omega
            simp only [Option.filter, q1, q2, q3, h3, decide_true, Bool.and_true, if_true, Option.bind_some, h45, if_neg q4]
          · have q1 : ¬ (-50000000 : Int) ≤ -(digitsVal (bare w) : Int) := by omega
            simp only [Option.filter, decide_eq_false q1, decide_eq_false h3, Bool.false_and, Bool.and_false, Bool.false_eq_true, if_false, Option.bind_none]
    · have e1 : numS w = none := by simp [numS, hd]
      rw [e1]
      have e2 : numS (bare w) = none ∨ (bare w).head? = some 45 := by
        by_cases h : (bare w).head? = some 45
        · exact .inr h
        · have hb2 : bare (bare w) = bare w := by
            rw [show bare (bare w) = if (bare w).head? = some 45 then (bare w).drop 1 else bare w from rfl, if_neg h]
          left
          unfold numS
          rw [hb2]
          simp [hd]
      rcases e2 with e2 | e2
      · rw [e2]
        rfl
      · rw [num_same (bare w) 50000000 (by decide), num_far e2]
        rfl
  · have hb : bare w = w := by simp [bare, h45]
    rw [hb]
    have hv : valS w = (digitsVal w : Int) := by simp [valS, h45]
    unfold numS
    rw [hb, hv]
    split
    · rfl
    · split
      · rfl
      · have q1 : (-50000000 : Int) ≤ (digitsVal w : Int) := by omega
        have q3 : (0 : Int) ≤ (digitsVal w : Int) := by omega
        by_cases h3 : (digitsVal w : Int) ≤ 50000000
        · simp only [Option.filter, q1, q3, h3, decide_true, Bool.and_true, if_true, Option.bind_some, h45, if_false]
        · simp only [Option.filter, decide_eq_false h3, Bool.and_false, Bool.false_eq_true, if_false, Option.bind_none]
end K25
set_option Elab.async false
set_option linter.all false
set_option maxRecDepth 100000
set_option maxHeartbeats 2000000
/-! M8: answers read from words. -/
namespace K25
open PySem L2 DL
inductive An where
  | w (s : List Nat)
  | n (i : Int)
  deriving DecidableEq
def An.d : An → DL.D
  | .w s => .str s
  | .n i => .int i
def optA : Option An → DL.D
  | some a => a.d
  | none => .non
def yes : List Nat := [121, 101, 115]
def no : List Nat := [110, 111]
def gap : List Nat := [103, 97, 112]
def clash : List Nat := [99, 108, 97, 115, 104]
def pays : List Nat := [112, 97, 121, 115]
def plainW : List (List Nat) := [yes, no, gap, clash]
/-- the answer that words tell -/
def ansS (ws : List (List Nat)) : Option An := match ws with
  | [x] => if x ∈ plainW then some (.w x) else none
  | [x, y] => if x = pays then ((numS y).filter fun d => decide (-50000000 ≤ d) && decide (d ≤ 50000000)).map .n else none
  | _ => none
def okW (ws : List (List Nat)) : Prop := ∀ x ∈ ws, okS x = true ∧ x.length ≤ 1000000
theorem fIn_words {x : List Nat} {S : Sto} : fIn (.str x) (.tup [.str yes, .str no, .str gap, .str clash]) S = .ok (.bl (decide (x ∈ plainW))) S := by
  unfold fIn
  simp only [vw_tup, flatD, List.all_cons, List.all_nil, Bool.and_self, and_self, if_true, memD, List.any_cons, List.any_nil, eqD]
  congr 2
  rw [Bool.eq_iff_iff]
  simp [plainW]
  constructor <;> (rintro (h | h | h | h) <;> simp [h])
theorem optA_nr (o : Option An) : nr 0 (optA o) = true := by
  cases o with
  | none => rfl
  | some a => cases a <;> rfl
theorem answer_ok (k : Nat) {ws : List (List Nat)} (h : okW ws) (S : Sto) : run tb P (k + 3) 8 [.lst (ws.map .str)] S = .ok (optA (ansS ws)) S := by
  refine run_of (d := d_8) (x := .ret (optA (ansS ws)) S) rfl rfl ?_ (fin_pl (optA_nr _))
  have hn : ∀ x, semS (.ret .non) { P with fn := run tb P (k + 2) } x S = .ret (optA none) S := fun x => s_ret0 (by simp [semE, optA])
  have op : okS pays = true := by decide
  match ws, h with
  | [], h =>
    refine ss_nx (s_if1 (by simp [startL, d_8, semB, semAll, semE, semEs, coF, biF])) ?_
    exact ss_ret (s_ifT (by simp [startL, d_8, semB, semAny, semE, semEs, coF, biF]) (ss_ret (hn _)))
  | [x], h =>
    have ein : fIn (.str x) (.tup [.str [121, 101, 115], .str [110, 111], .str [103, 97, 112], .str [99, 108, 97, 115, 104]]) S = .ok (.bl (decide (x ∈ plainW))) S := fIn_words
    by_cases hx : x ∈ plainW
    · have e : ansS [x] = some (.w x) := by simp [ansS, hx]
      rw [e]
      exact ss_ret (s_ifT (by simp [startL, d_8, semB, semAll, semE, semEs, coF, biF, ein, hx]) (ss_ret (s_ret0 (by simp [startL, d_8, semE, optA, An.d]))))
    · have e : ansS [x] = none := by simp [ansS, hx]
      rw [e]
      refine ss_nx (s_if1 (by simp [startL, d_8, semB, semAll, semE, semEs, coF, biF, ein, hx])) ?_
      exact ss_ret (s_ifT (by simp [startL, d_8, semB, semAny, semE, semEs, coF, biF]) (ss_ret (hn _)))
  | [x, y], h =>
    have hx := h x (by simp)
    have hy := h y (by simp)
    have ep : fNe (.str x) (.str [112, 97, 121, 115]) S = .ok (.bl (!(x == pays))) S := fNe_str hx.1 op
    refine ss_nx (s_if1 (by simp [startL, d_8, semB, semAll, semE, semEs, coF, biF])) ?_
    by_cases hp : x = pays
    · subst hp
      have e : ansS [pays, y] = ((numS y).filter fun d => decide (-50000000 ≤ d) && decide (d ≤ 50000000)).map .n := by simp [ansS]
      rw [e]
      refine ss_nx (s_if1 (by simp [startL, d_8, semB, semAny, semE, semEs, coF, biF, ep])) ?_
      refine ss_nx (s_asg0 (optI (numS y)) (by simp [startL, d_8, semE, semEs, number_ok (k + 1) hy.2 hy.1 S]) rfl) (ss_ret (s_ret0 ?_))
      cases hq : numS y with
      | none => simp [startL, d_8, semE, semB, semAll, coF, optI, optA, DL.isNon, Option.filter]
      | some v =>
        have ea := answer_int k v S
        cases hr : (decide (-50000000 ≤ v) && decide (v ≤ 50000000)) <;> simp [startL, d_8, semE, semB, semAll, semEs, coF, optI, optA, DL.isNon, Option.filter, ea, hr, An.d]
    · have e : ansS [x, y] = none := by simp [ansS, hp]
      rw [e]
      exact ss_ret (s_ifT (by simp [startL, d_8, semB, semAny, semE, semEs, coF, biF, ep, hp]) (ss_ret (hn _)))
  | x :: y :: z :: r, h =>
    have e : ansS (x :: y :: z :: r) = none := rfl
    rw [e]
    refine ss_nx (s_if1 ?_) (ss_ret (s_ifT ?_ (ss_ret (hn _))))
    · simp [startL, d_8, semB, semAll, semE, semEs, coF, biF]
      omega
    · simp [startL, d_8, semB, semAny, semE, semEs, coF, biF]
      omega
theorem okS_take {y : List Nat} (h : okS y = true) (n : Nat) : okS (y.take n) = true := by
  unfold okS at h ⊢
  rw [List.all_eq_true] at h ⊢
  exact fun c hc => h c (List.mem_of_mem_take hc)
theorem okS_drop {y : List Nat} (h : okS y = true) (n : Nat) : okS (y.drop n) = true := by
  unfold okS at h ⊢
  rw [List.all_eq_true] at h ⊢
  exact fun c hc => h c (List.mem_of_mem_drop hc)
theorem take1 (y : List Nat) : (y.take 1 == [45]) = (y.head? == some 45) := by
  cases y with
  | nil => rfl
  | cons c cs =>
    rw [Bool.eq_iff_iff]
    simp
theorem lanswer_ok (k : Nat) {ws : List (List Nat)} (h : okW ws) (S : Sto) : run tb P (k + 3) 18 [.lst (ws.map .str)] S = .ok (optA (ansS ws)) S := by
  refine run_of (d := d_18) (x := .ret (optA (ansS ws)) S) rfl rfl ?_ (fin_pl (optA_nr _))
  have hn : ∀ x, semS (.ret .non) { P with fn := run tb P (k + 2) } x S = .ret (optA none) S := fun x => s_ret0 (by simp [semE, optA])
  have op : okS pays = true := by decide
  have o45 : okS [45] = true := by decide
  match ws, h with
  | [], h =>
    refine ss_nx (s_if1 (by simp [startL, d_18, semB, semAll, semE, semEs, coF, biF])) ?_
    exact ss_nx (s_if1 (by simp [startL, d_18, semB, semAll, semE, semEs, coF, biF])) (ss_ret (hn _))
  | [x], h =>
    have ein : fIn (.str x) (.tup [.str [121, 101, 115], .str [110, 111], .str [103, 97, 112], .str [99, 108, 97, 115, 104]]) S = .ok (.bl (decide (x ∈ plainW))) S := fIn_words
    by_cases hx : x ∈ plainW
    · have e : ansS [x] = some (.w x) := by simp [ansS, hx]
      rw [e]
      exact ss_ret (s_ifT (by simp [startL, d_18, semB, semAll, semE, semEs, coF, biF, ein, hx]) (ss_ret (s_ret0 (by simp [startL, d_18, semE, optA, An.d]))))
    · have e : ansS [x] = none := by simp [ansS, hx]
      rw [e]
      refine ss_nx (s_if1 (by simp [startL, d_18, semB, semAll, semE, semEs, coF, biF, ein, hx])) ?_
      exact ss_nx (s_if1 (by simp [startL, d_18, semB, semAll, semE, semEs, coF, biF])) (ss_ret (hn _))
  | [x, y], h =>
    have hx := h x (by simp)
    have hy := h y (by simp)
    have ep : fEq (.str x) (.str [112, 97, 121, 115]) S = .ok (.bl (x == pays)) S := fEq_str hx.1 op
    refine ss_nx (s_if1 (by simp [startL, d_18, semB, semAll, semE, semEs, coF, biF])) ?_
    by_cases hp : x = pays
    · subst hp
      have e : ansS [pays, y] = ((numS y).filter fun d => decide (-50000000 ≤ d) && decide (d ≤ 50000000)).map .n := by simp [ansS]
      rw [e, num_amount]
      have e1 : fSl (.str y) none (some 1) S = .ok (.str (y.take 1)) S := by
        unfold fSl
        simp only [vw_str, hy.2, if_true]
        rw [show (some 1 : Option Int) = some ((1 : Nat) : Int) from rfl, cut_to]
      have e2 : fSl (.str y) (some 1) none S = .ok (.str (y.drop 1)) S := sl_from hy.2 1
      have e3 : fEq (.str (y.take 1)) (.str [45]) S = .ok (.bl (y.head? == some 45)) S := by rw [fEq_str (okS_take hy.1 1) o45, take1]
      have en : ∀ r : List Nat, okS r = true → r.length ≤ 1000000 → run tb P (k + 2) 17 [.str r, .int 50000000] S = .ok (optI (numL r 50000000)) S := fun r h1 h2 => lnumber_ok (k + 1) h2 h1 50000000 S
      by_cases hm : y.head? = some 45
      · have hb : bare y = y.drop 1 := by simp [bare, hm]
        have en2 := en (y.drop 1) (okS_drop hy.1 1) (by simp; omega)
        rw [hb]
        simp only [hm, if_true]
        have s1 : semS (.asg (.name 1) (.cmp .eq (.sl (.ix (.var 0) (.int 1)) .none (.some (.int 1))) (.str [45]))) { P with fn := run tb P (k + 2) } [some (.lst [.str pays, .str y]), none, none] S = .nx [some (.lst [.str pays, .str y]), some (.bl true), none] S :=
          s_asg0 (.bl true) (by simp [semE, semO, coF, e1, e3, hm]) rfl
        have s2 : semS (.asg (.name 2) (.call 17 (.cons (.ite (.var 1) (.sl (.ix (.var 0) (.int 1)) (.some (.int 1)) .none) (.ix (.var 0) (.int 1))) (.cons (.int 50000000) .nil)))) { P with fn := run tb P (k + 2) } [some (.lst [.str pays, .str y]), some (.bl true), none] S = .nx [some (.lst [.str pays, .str y]), some (.bl true), some (optI (numL (y.drop 1) 50000000))] S :=
          s_asg0 (optI (numL (y.drop 1) 50000000)) (by simp only [semE, semB, semEs, semO, List.getElem?_cons_succ, List.getElem?_cons_zero, bind_ok, truD_bl, if_true, fIx_lst, at_1, okO_some, e2, en2]) rfl
        have tp : semB { P with fn := run tb P (k + 2) } (.and (.cons (.cmp .eq (.blt .len (.cons (.var 0) .nil)) (.int 2)) (.cons (.cmp .eq (.ix (.var 0) (.int 0)) (.str [112, 97, 121, 115])) .nil))) [some (.lst [.str pays, .str y]), none, none] S = .ok true S := by
          simp [semB, semAll, semE, semEs, coF, biF, ep]
        cases hq : numL (y.drop 1) 50000000 with
        | none =>
          rw [hq] at s2
          exact ss_nx (s_ifT tp (ss_nx s1 (ss_nx s2 (ss_nx (s_if1 (by simp [semB, semAll, semE, coF, optI, DL.isNon])) ss0)))) (ss_ret (hn _))
        | some v =>
          rw [hq] at s2
          by_cases hv : v = 0
          · subst hv
            exact ss_nx (s_ifT tp (ss_nx s1 (ss_nx s2 (ss_nx (s_if1 (by simp [semB, semAll, semE, coF, optI, DL.isNon])) ss0)))) (ss_ret (hn _))
          · have e0 : (optA (Option.map An.n ((some v).bind fun v => if v = 0 then none else some (-v)))) = .int (-v) := by simp [hv, optA, An.d]
            rw [e0]
            exact ss_ret (s_ifT tp (ss_nx s1 (ss_nx s2 (ss_ret (s_ifT (by simp [semB, semAll, semE, coF, optI, DL.isNon, hv]) (ss_ret (s_ret0 (by simp [semE, semB, boF, optI]))))))))
      · have hb : bare y = y := by simp [bare, hm]
        have en2 := en y hy.1 hy.2
        have hmb : (y.head? == some 45) = false := by simpa using hm
        rw [hmb] at e3
        rw [hb]
        simp only [hm, if_false]
        have s1 : semS (.asg (.name 1) (.cmp .eq (.sl (.ix (.var 0) (.int 1)) .none (.some (.int 1))) (.str [45]))) { P with fn := run tb P (k + 2) } [some (.lst [.str pays, .str y]), none, none] S = .nx [some (.lst [.str pays, .str y]), some (.bl false), none] S :=
          s_asg0 (.bl false) (by simp [semE, semO, coF, e1, e3]) rfl
        have s2 : semS (.asg (.name 2) (.call 17 (.cons (.ite (.var 1) (.sl (.ix (.var 0) (.int 1)) (.some (.int 1)) .none) (.ix (.var 0) (.int 1))) (.cons (.int 50000000) .nil)))) { P with fn := run tb P (k + 2) } [some (.lst [.str pays, .str y]), some (.bl false), none] S = .nx [some (.lst [.str pays, .str y]), some (.bl false), some (optI (numL y 50000000))] S :=
          s_asg0 (optI (numL y 50000000)) (by simp [semE, semB, semEs, semO, en2]) rfl
        have tp : semB { P with fn := run tb P (k + 2) } (.and (.cons (.cmp .eq (.blt .len (.cons (.var 0) .nil)) (.int 2)) (.cons (.cmp .eq (.ix (.var 0) (.int 0)) (.str [112, 97, 121, 115])) .nil))) [some (.lst [.str pays, .str y]), none, none] S = .ok true S := by
          simp [semB, semAll, semE, semEs, coF, biF, ep]
        cases hq : numL y 50000000 with
        | none =>
          rw [hq] at s2
          exact ss_nx (s_ifT tp (ss_nx s1 (ss_nx s2 (ss_nx (s_if1 (by simp [semB, semAll, semE, coF, optI, DL.isNon])) ss0)))) (ss_ret (hn _))
        | some v =>
          rw [hq] at s2
          have e0 : (optA (Option.map An.n ((some v).bind fun v => some v))) = .int v := by simp [optA, An.d]
          rw [e0]
          exact ss_ret (s_ifT tp (ss_nx s1 (ss_nx s2 (ss_ret (s_ifT (by simp [semB, semAll, semE, coF, optI, DL.isNon]) (ss_ret (s_ret0 (by simp [semE, semB, boF, optI]))))))))
    · have e : ansS [x, y] = none := by simp [ansS, hp]
      rw [e]
      exact ss_nx (s_if1 (by simp [startL, d_18, semB, semAll, semE, semEs, coF, biF, ep, hp])) (ss_ret (hn _))
  | x :: y :: z :: r, h =>
    have e : ansS (x :: y :: z :: r) = none := rfl
    rw [e]
    refine ss_nx (s_if1 ?_) (ss_nx (s_if1 ?_) (ss_ret (hn _)))
    · simp [startL, d_18, semB, semAll, semE, semEs, coF, biF]
      omega
    · simp [startL, d_18, semB, semAll, semE, semEs, coF, biF]
      omega
end K25
set_option Elab.async false
set_option linter.all false
set_option maxRecDepth 100000
set_option maxHeartbeats 2000000
/-! M9: whether a day follows. -/
namespace K25
open PySem L2 DL
/-- what stands last begins with p -/
def LastP (items : List DL.D) (p : Option Int) : Prop := (items = [] ∧ p = none) ∨ ∃ q r, items.getLast? = some (.tup (.int q :: r)) ∧ p = some q
def folS (w : List Nat) (p : Option Int) : Option Int := match numL w 19999 with
  | none => none
  | some d => match p with
    | none => if d = 0 then some d else none
    | some q => if q < d then some d else none
theorem truD_ref {S : Sto} {i : Nat} {items : List DL.D} (h : S[i]? = some (.lst items)) : truD (.ref i) S = .ok (!items.isEmpty) S := by
  unfold truD
  rw [vw_ref h]
theorem follows_ok (k : Nat) {w : List Nat} (hw : okS w = true) (hl : w.length ≤ 1000000) {S : Sto} {i : Nat} {items : List DL.D} {p : Option Int} (hS : S[i]? = some (.lst items)) (hp : LastP items p) :
    run tb P (k + 2) 7 [.str w, .ref i] S = .ok (.bl (folS w p).isSome) S := by
  refine run_of (d := d_7) (x := .ret (.bl (folS w p).isSome) S) rfl rfl ?_ (fin_pl rfl)
  have hnum := num_same w 19999 (by decide)
  have hn := number_ok k hl hw S
  refine ss_nx (s_asg0 (optI (numS w)) (by simp [startL, d_7, semE, semEs, hn]) rfl) ?_
  cases hq : numS w with
  | none =>
    rw [hq] at hnum
    have e : folS w p = none := by simp [folS, ← hnum]
    rw [e]
    exact ss_ret (s_ifT (by simp [startL, d_7, semB, semAny, semE, coF, optI, DL.isNon]) (ss_ret (s_ret0 (by simp [semE]))))
  | some d =>
    rw [hq] at hnum
    by_cases h0 : 0 ≤ d
    · by_cases h1 : d ≤ 19999
      · have e : numL w 19999 = some d := by rw [← hnum]; simp [Option.filter, h0, h1]
        refine ss_nx (s_if1 (by simp [startL, d_7, semB, semAny, semE, coF, optI, DL.isNon, gcL, h0, h1])) (ss_ret (s_ret0 ?_))
        have ht := truD_ref hS
        rcases hp with ⟨rfl, rfl⟩ | ⟨q, r, hlast, rfl⟩
        · simp [startL, d_7, semE, semB, coF, optI, ht, folS, e]
          by_cases hz : d = 0 <;> simp [hz]
        · have hne : items.isEmpty = false := by
            cases items with
            | nil => simp at hlast
            | cons => rfl
          simp [startL, d_7, semE, semB, coF, optI, ht, hne, folS, e, hS, hlast]
          by_cases hz : q < d <;> simp [hz]
      · have e : folS w p = none := by simp [folS, ← hnum, Option.filter, h1]
        rw [e]
        exact ss_ret (s_ifT (by simp [startL, d_7, semB, semAny, semE, coF, optI, DL.isNon, gcL, h0, h1]) (ss_ret (s_ret0 (by simp [semE]))))
    · have e : folS w p = none := by simp [folS, ← hnum, Option.filter, h0]
      rw [e]
      exact ss_ret (s_ifT (by simp [startL, d_7, semB, semAny, semE, coF, optI, DL.isNon, gcL, h0]) (ss_ret (s_ret0 (by simp [semE]))))
end K25
set_option Elab.async false
set_option linter.all false
set_option maxRecDepth 100000
set_option maxHeartbeats 2000000
/-! M10: what kind of line words make. -/
namespace K25
open PySem L2 DL
def knownW : List Nat := [107, 110, 111, 119, 110]
def isKn (ws : List (List Nat)) : Bool := match ws with
  | [a, b] => a == knownW && !(b == [])
  | _ => false
def isSt (ws : List (List Nat)) : Bool := match ws with
  | a :: b :: c :: d :: r => a == [] && b == [] && !decide ([] ∈ c :: d :: r)
  | _ => false
theorem known_ok {Q : Par} {ws : List (List Nat)} (h : okW ws) {r : DL.Loc} {i : Nat} {S : Sto} (hr : r[i]? = some (some (.lst (ws.map .str)))) :
    semE Q (.and (.cons (.cmp .eq (.blt .len (.cons (.var i) .nil)) (.int 2)) (.cons (.cmp .eq (.ix (.var i) (.int 0)) (.str [107, 110, 111, 119, 110])) (.cons (.cmp .ne (.ix (.var i) (.int 1)) (.str [])) .nil)))) r S = .ok (.bl (isKn ws)) S := by
  have ok : okS knownW = true := by decide
  have o0 : okS [] = true := by decide
  match ws, h with
  | [], h => simp [semE, semAnd, semEs, coF, biF, hr, isKn]
  | [a], h => simp [semE, semAnd, semEs, coF, biF, hr, isKn]
  | [a, b], h =>
    have e1 : fEq (.str a) (.str [107, 110, 111, 119, 110]) S = .ok (.bl (a == knownW)) S := fEq_str (h a (by simp)).1 ok
    have e2 : fNe (.str b) (.str []) S = .ok (.bl (!(b == []))) S := fNe_str (h b (by simp)).1 o0
    cases hq : (a == knownW) <;> simp [semE, semAnd, semEs, coF, biF, hr, isKn, e1, e2, hq]
  | a :: b :: c :: l, h =>
    have : ((l.length : Int) + 1 + 1 + 1 == 2) = false := by
      rw [beq_eq_false_iff_ne]
      omega
    simp [semE, semAnd, semEs, coF, biF, hr, isKn, this]
theorem notin_nil {l : List (List Nat)} {S : Sto} : fNotIn (.str []) (.lst (l.map .str)) S = .ok (.bl (!decide (([] : List Nat) ∈ l))) S := by
  unfold fNotIn
  have f : (l.map DL.D.str).all flatD = true := by
    rw [List.all_eq_true]
    intro d hd
    obtain ⟨x, _, rfl⟩ := List.mem_map.mp hd
    rfl
  simp only [vw_lst, f, flatD, and_self, if_true]
  congr 3
  unfold memD
  rw [Bool.eq_iff_iff]
  simp [eqD]
theorem okDs_words {ws : List (List Nat)} (h : okW ws) : okDs 59 (ws.map .str) = true := by
  induction ws with
  | nil => rfl
  | cons a ws ih =>
    have ha := (h a (by simp)).1
    have := ih fun x hx => h x (List.mem_cons_of_mem _ hx)
    simp [okDs, okD, ha, this]
theorem slL_to {S : Sto} {ds : List DL.D} (k : Nat) : fSl (.lst ds) none (some (k : Int)) S = .ok (.lst (ds.take k)) S := by
  unfold fSl
  simp only [vw_lst, cut_to]
theorem slL_from {S : Sto} {ds : List DL.D} (k : Nat) : fSl (.lst ds) (some (k : Int)) none S = .ok (.lst (ds.drop k)) S := by
  unfold fSl
  simp only [vw_lst, cut_from]
theorem stretch_of {Q : Par} {ws : List (List Nat)} (h : okW ws) {r : DL.Loc} {i : Nat} {S : Sto} (hr : r[i]? = some (some (.lst (ws.map .str)))) {T : Ex} (hT : semE Q T r S = .ok (.bl (decide (3 < ws.length))) S) :
    semE Q (.and (.cons T (.cons (.cmp .eq (.sl (.var i) .none (.some (.int 2))) (.lst (.cons (.str []) (.cons (.str []) .nil)))) (.cons (.cmp .notIn (.str []) (.sl (.var i) (.some (.int 2)) .none)) .nil)))) r S = .ok (.bl (isSt ws)) S := by
  by_cases h3 : 3 < ws.length
  · match ws, h, h3 with
    | a :: b :: c :: d :: l, h, h3 =>
      have e1 : fSl (.lst ((a :: b :: c :: d :: l).map .str)) none (some 2) S = .ok (.lst [.str a, .str b]) S := slL_to 2
      have e2 : fSl (.lst ((a :: b :: c :: d :: l).map .str)) (some 2) none S = .ok (.lst ((c :: d :: l).map .str)) S := slL_from 2
      have ha := (h a (by simp)).1
      have hb := (h b (by simp)).1
      have e3 : fEq (.lst [.str a, .str b]) (.lst [.str [], .str []]) S = .ok (.bl (a == [] && b == [])) S := by
        rw [fEq_pl (by simp [okD, okDs, ha, hb]) (by simp [okD, okDs, okS]) rfl rfl]
        simp [eqD, eqDs]
      have e4 : fNotIn (.str []) (.lst ((c :: d :: l).map .str)) S = .ok (.bl (!decide (([] : List Nat) ∈ c :: d :: l))) S := notin_nil
      have f1 : semE Q (.cmp .eq (.sl (.var i) .none (.some (.int 2))) (.lst (.cons (.str []) (.cons (.str []) .nil)))) r S = .ok (.bl (a == [] && b == [])) S := by
        simp only [semE, semEs, semO, hr, bind_ok, e1, coF, e3]
      have f2 : semE Q (.cmp .notIn (.str []) (.sl (.var i) (.some (.int 2)) .none)) r S = .ok (.bl (!decide (([] : List Nat) ∈ c :: d :: l))) S := by
        simp only [semE, semEs, semO, hr, bind_ok, e2, coF, e4]
      have hs : isSt (a :: b :: c :: d :: l) = ((a == [] && b == []) && !decide (([] : List Nat) ∈ c :: d :: l)) := rfl
      rw [hs]
      simp only [semE, semAnd] at f1 f2 hT ⊢
      rw [hT]
      simp only [h3, decide_true, bind_ok, truD_bl, if_true]
      rw [f1]
      cases hq : (a == [] && b == []) with
      | true =>
        simp only [bind_ok, truD_bl, if_true] at f2 ⊢
        rw [f2]
        rfl
      | false => rfl
  · have hs : isSt ws = false := by
      match ws, h3 with
      | [], _ => rfl
      | [_], _ => rfl
      | [_, _], _ => rfl
      | [_, _, _], _ => rfl
      | _ :: _ :: _ :: _ :: _, h3 => exact absurd (by simp) h3
    rw [hs]
    simp only [semE, semAnd]
    rw [hT]
    simp only [h3, decide_false, bind_ok, truD_bl]
    rfl
end K25
set_option Elab.async false
set_option linter.all false
set_option maxRecDepth 100000
set_option maxHeartbeats 2000000
/-! M11: rows in the store. -/
namespace K25
open PySem L2 DL
abbrev Row := List (Int × An)
def rowI (r : Row) : List DL.D := r.map fun p => .tup [.int p.1, p.2.d]
def okA : An → Prop
  | .w s => s ∈ plainW
  | .n _ => True
def okR (r : Row) : Prop := ∀ p ∈ r, okA p.2
theorem an_eq (a b : An) : eqD a.d b.d = decide (a = b) := by
  cases a <;> cases b <;> simp only [An.d, eqD, An.n.injEq, An.w.injEq, reduceCtorEq, decide_false] <;> first | rfl | (rw [Bool.eq_iff_iff]; simp)
theorem an_ok {a : An} (h : okA a) (n : Nat) : okD n a.d = true := by
  cases a with
  | n i => cases n <;> rfl
  | w s =>
    have : okS s = true := by
      simp only [okA, plainW, List.mem_cons, List.not_mem_nil, or_false] at h
      rcases h with rfl | rfl | rfl | rfl <;> decide
    cases n <;> simpa [An.d, okD] using this
theorem row_eq : ∀ a b : Row, eqDs (rowI a) (rowI b) = decide (a = b)
  | [], [] => rfl
  | [], _ :: _ => rfl
  | _ :: _, [] => rfl
  | (i, x) :: a, (j, y) :: b => by
    have ih := row_eq a b
    simp only [rowI] at ih
    simp only [rowI, List.map_cons, eqDs, eqD, an_eq, ih]
    rw [Bool.eq_iff_iff]
    simp
theorem row_ok {r : Row} (h : okR r) (n : Nat) : okDs (n + 1) (rowI r) = true := by
  induction r with
  | nil => rfl
  | cons p r ih =>
    have h1 := an_ok (h p List.mem_cons_self) n
    have h2 := ih fun q hq => h q (List.mem_cons_of_mem _ hq)
    simp only [rowI] at h2
    simp [rowI, okDs, okD, h1, h2]
theorem row_last {r : Row} : LastP (rowI r) (r.getLast?.map (·.1)) := by
  cases hq : r.getLast? with
  | none =>
    rw [List.getLast?_eq_none_iff] at hq
    subst hq
    exact .inl ⟨rfl, rfl⟩
  | some p => exact .inr ⟨p.1, [p.2.d], by simp [rowI, hq], rfl⟩
/-- two rows of the store -/
theorem fEq_rows {S : Sto} {i j : Nat} {a b : Row} (ha : okR a) (hb : okR b) (hi : S[i]? = some (.lst (rowI a))) (hj : S[j]? = some (.lst (rowI b))) : fEq (.ref i) (.ref j) S = .ok (.bl (decide (a = b))) S := by
  unfold fEq
  rw [vw_ref hi, vw_ref hj]
  rw [if_pos ⟨by simp only [okD]; exact row_ok ha 58, by simp only [okD]; exact row_ok hb 58⟩]
  simp only [eqD, row_eq]
end K25
set_option Elab.async false
set_option linter.all false
set_option maxRecDepth 100000
set_option maxHeartbeats 2000000
/-! M12: what is wrong with a line. -/
namespace K25
open PySem L2 DL
def badday : List Nat := [98, 97, 100, 32, 100, 97, 121]
def badans : List Nat := [98, 97, 100, 32, 97, 110, 115, 119, 101, 114]
def noknown : List Nat := [110, 111, 32, 107, 110, 111, 119, 110]
def nostretch : List Nat := [110, 111, 32, 115, 116, 114, 101, 116, 99, 104]
def same : List Nat := [115, 97, 109, 101]
/-- what is wrong with a stretch after the row r -/
def faultR (r : Row) (ws : List (List Nat)) : List Nat :=
  if (folS (ws.getD 2 []) (r.getLast?.map (·.1))).isSome then
    match ansS (ws.drop 3) with
    | none => badans
    | some a => if r.getLast?.map (·.2) = some a then same else []
  else badday
/-- what is wrong with a line after the last row -/
def faultS (last : Option (Int × Row)) (ws : List (List Nat)) : List Nat := match last with
  | none => if isKn ws then (if (folS (ws.getD 1 []) none).isSome then [] else badday) else noknown
  | some (k, r) =>
    if isKn ws then (if r = [] then nostretch else if (folS (ws.getD 1 []) (some k)).isSome then [] else badday)
    else if isSt ws then faultR r ws else nostretch
/-- the list at i ends in the row -/
def HeadP (S : Sto) (i : Nat) (last : Option (Int × Row)) : Prop := (last = none ∧ S[i]? = some (.lst [])) ∨ ∃ k r items pl j, last = some (k, r) ∧ S[i]? = some (.lst items) ∧ items.getLast? = some (.tup [.int k, .int pl, .ref j]) ∧ S[j]? = some (.lst (rowI r)) ∧ okR r
theorem kn_two {ws : List (List Nat)} (h : isKn ws = true) : ∃ b, ws = [knownW, b] := by
  match ws, h with
  | [a, b], h =>
    simp [isKn] at h
    exact ⟨b, by rw [h.1]⟩
theorem fault_none (k : Nat) {ws : List (List Nat)} (h : okW ws) {S : Sto} {i : Nat} (hS : S[i]? = some (.lst [])) :
    run tb P (k + 4) 6 [.ref i, .lst (ws.map .str)] S = .ok (.str (faultS none ws)) S := by
  refine run_of (d := d_6) (x := .ret (.str (faultS none ws)) S) rfl rfl ?_ (fin_pl rfl)
  refine ss_nx (s_asg0 (.bl (isKn ws)) (known_ok h (by simp [startL, d_6])) rfl) ?_
  refine ss_nx (s_asg0 (.bl (isSt ws)) (stretch_of h (by simp [startL, d_6]) (by simp [startL, d_6, semE, semEs, coF, biF]; omega)) rfl) ?_
  have ht := truD_ref hS
  cases hk : isKn ws with
  | false =>
    have e : faultS none ws = noknown := by simp [faultS, hk]
    rw [e]
    exact ss_ret (s_ifT (by simp [startL, d_6, semB, semE, ht]) (ss_ret (s_ifT (by simp [startL, d_6, semB, semE, hk]) (ss_ret (s_ret0 (by simp [semE, noknown]))))))
  | true =>
    obtain ⟨b, rfl⟩ := kn_two hk
    have hb := h b (by simp)
    have hf := follows_ok (k + 1) hb.1 hb.2 hS (.inl ⟨rfl, rfl⟩)
    have e : faultS none [knownW, b] = if (folS b none).isSome then [] else badday := by simp [faultS, hk]
    rw [e]
    refine ss_nx (s_ifT (by simp [startL, d_6, semB, semE, ht]) (ss_nx (s_if1 (by simp [startL, d_6, semB, semE, hk])) rfl)) ?_
    refine ss_ret (s_ifT (by simp [startL, d_6, semB, semE, hk]) (ss_ret (s_ret0 ?_)))
    cases hq : (folS b none).isSome <;> simp [startL, d_6, semE, semEs, semB, hf, hq, badday]
end K25
set_option Elab.async false
set_option linter.all false
set_option maxRecDepth 100000
set_option maxHeartbeats 2000000
/-! M13: what is wrong with a later line. -/
namespace K25
open PySem L2 DL
theorem an_okS {ws : List (List Nat)} {a : An} (h : ansS ws = some a) : okA a := by
  match ws with
  | [] => simp [ansS] at h
  | [x] =>
    by_cases hx : x ∈ plainW
    · simp [ansS, hx] at h
      subst h
      exact hx
    · simp [ansS, hx] at h
  | [x, y] =>
    by_cases hx : x = pays
    · simp only [ansS, hx, if_true, Option.map_eq_some_iff] at h
      obtain ⟨n, _, rfl⟩ := h
      trivial
    · simp [ansS, hx] at h
  | _ :: _ :: _ :: _ => simp [ansS] at h
theorem an_vw (a : An) (S : Sto) : vw S a.d = a.d := by cases a <;> rfl
theorem fEq_an {a b : An} (ha : okA a) (hb : okA b) (S : Sto) : fEq a.d b.d S = .ok (.bl (decide (a = b))) S := by
  rw [fEq_pl (an_ok ha _) (an_ok hb _) (an_vw a S) (an_vw b S), an_eq]
theorem st_not {ws : List (List Nat)} (h : isSt ws = true) : isKn ws = false ∧ ∃ a b c r, ws = a :: b :: c :: r := by
  match ws, h with
  | a :: b :: c :: d :: r, _ => exact ⟨rfl, a, b, c, d :: r, rfl⟩
theorem fault_some (k : Nat) {ws : List (List Nat)} (h : okW ws) {S : Sto} {i j : Nat} {k0 pl : Int} {r : Row} {items : List DL.D} (hS : S[i]? = some (.lst items)) (hl : items.getLast? = some (.tup [.int k0, .int pl, .ref j])) (hj : S[j]? = some (.lst (rowI r))) (hr : okR r) :
    run tb P (k + 4) 6 [.ref i, .lst (ws.map .str)] S = .ok (.str (faultS (some (k0, r)) ws)) S := by
  refine run_of (d := d_6) (x := .ret (.str (faultS (some (k0, r)) ws)) S) rfl rfl ?_ (fin_pl rfl)
  refine ss_nx (s_asg0 (.bl (isKn ws)) (known_ok h (by simp [startL, d_6])) rfl) ?_
  refine ss_nx (s_asg0 (.bl (isSt ws)) (stretch_of h (by simp [startL, d_6]) (by simp [startL, d_6, semE, semEs, coF, biF]; omega)) rfl) ?_
  have ht := truD_ref hS
  have hne : items.isEmpty = false := by
    cases items with
    | nil => simp at hl
    | cons => rfl
  have hrt := truD_ref hj
  have hn0 : rowI [] = [] := rfl
  have hre : (rowI r).isEmpty = decide (r = []) := by cases r <;> simp [rowI]
  cases hk : isKn ws with
  | true =>
    obtain ⟨b, rfl⟩ := kn_two hk
    have hb := h b (by simp)
    have hf := follows_ok (k + 1) hb.1 hb.2 hS (.inr ⟨k0, [.int pl, .ref j], hl, rfl⟩)
    have hs : isSt [knownW, b] = false := rfl
    by_cases he : r = []
    · have e : faultS (some (k0, r)) [knownW, b] = nostretch := by simp [faultS, hk, he]
      rw [e]
      refine ss_ret (s_ifF (by simp [startL, d_6, semB, semE, ht, hne]) (ss_ret (s_ifT (by simp [startL, d_6, semB, semAll, semE, semAnd, coF, hk, hs, hS, hl, hrt, he, hn0]) (ss_ret (s_ret0 (by simp [semE, nostretch]))))))
    · have e : faultS (some (k0, r)) [knownW, b] = if (folS b (some k0)).isSome then [] else badday := by simp [faultS, hk, he]
      rw [e]
      refine ss_nx (s_ifF (by simp [startL, d_6, semB, semE, ht, hne]) (ss_nx (s_if1 (by simp [startL, d_6, semB, semAll, semE, semAnd, coF, hk, hs, hS, hl, hrt, hre, he])) rfl)) ?_
      refine ss_ret (s_ifT (by simp [startL, d_6, semB, semE, hk]) (ss_ret (s_ret0 ?_)))
      cases hq : (folS b (some k0)).isSome <;> simp [startL, d_6, semE, semEs, semB, hf, hq, badday]
  | false =>
    cases hs : isSt ws with
    | false =>
      have e : faultS (some (k0, r)) ws = nostretch := by simp [faultS, hk, hs]
      rw [e]
      refine ss_ret (s_ifF (by simp [startL, d_6, semB, semE, ht, hne]) (ss_ret (s_ifT (by simp [startL, d_6, semB, semAll, semE, semAnd, coF, hk, hs]) (ss_ret (s_ret0 (by simp [semE, nostretch]))))))
    | true =>
      obtain ⟨-, a, b, c, w, rfl⟩ := st_not hs
      have hc := h c (by simp)
      have hw : okW w := fun x hx => h x (by simp [hx])
      have hf := follows_ok (k + 1) hc.1 hc.2 hj row_last
      have ha := answer_ok k hw S
      have e2 : fSl (.lst (.str a :: .str b :: .str c :: w.map .str)) (some 3) none S = .ok (.lst (w.map .str)) S := slL_from (ds := .str a :: .str b :: .str c :: w.map .str) 3
      have e : faultS (some (k0, r)) (a :: b :: c :: w) = if (folS c (r.getLast?.map (·.1))).isSome then (match ansS w with | none => badans | some a => if r.getLast?.map (·.2) = some a then same else []) else badday := by
        simp [faultS, hk, hs, faultR] <;> rfl
      rw [e]
      refine ss_nx (s_ifF (by simp [startL, d_6, semB, semE, ht, hne]) (ss_nx (s_if1 (by simp [startL, d_6, semB, semAll, semE, semAnd, coF, hk, hs])) rfl)) ?_
      refine ss_nx (s_if1 (by simp [startL, d_6, semB, semE, hk])) ?_
      refine ss_nx (s_asg0 (.ref j) (by simp [startL, d_6, semE, coF, hS, hl]) rfl) ?_
      cases hq : (folS c (r.getLast?.map (·.1))).isSome with
      | false =>
        rw [hq] at hf
        exact ss_ret (s_ifT (by simp [startL, d_6, semB, semE, semEs, coF, hf]) (ss_ret (s_ret0 (by simp [semE, badday]))))
      | true =>
        rw [hq] at hf
        refine ss_nx (s_if1 (by simp [startL, d_6, semB, semE, semEs, coF, hf])) ?_
        refine ss_nx (s_asg0 (optA (ansS w)) (by simp [startL, d_6, semE, semEs, semO, coF, e2, ha]) rfl) ?_
        cases hA : ansS w with
        | none => exact ss_ret (s_ifT (by simp [startL, d_6, semB, semE, semEs, coF, optA, DL.isNon]) (ss_ret (s_ret0 (by simp [semE, badans]))))
        | some x =>
          refine ss_nx (s_if1 (by cases x <;> simp [startL, d_6, semB, semE, semEs, coF, optA, An.d, DL.isNon])) (ss_ret (s_ret0 ?_))
          cases hq2 : r.getLast? with
          | none =>
            rw [List.getLast?_eq_none_iff] at hq2
            subst hq2
            simp [startL, d_6, semE, semB, semAll, semAnd, coF, hrt, hn0]
          | some p =>
            have hne2 : r ≠ [] := by
              rintro rfl
              simp at hq2
            have hl2 : (rowI r).getLast? = some (.tup [.int p.1, p.2.d]) := by simp [rowI, hq2]
            have hp : okA p.2 := (hr p (List.mem_of_getLast? hq2))
            have he := fEq_an hp (an_okS hA) S
            have hre2 : (rowI r).isEmpty = false := by simp [hre, hne2]
            by_cases hx : p.2 = x
            · rw [hx] at he
              simp [startL, d_6, semE, semB, semAll, semAnd, coF, hrt, hre2, hj, hl2, optA, he, hx, same]
            · simp [startL, d_6, semE, semB, semAll, semAnd, coF, hrt, hre2, hj, hl2, optA, he, hx, same]
end K25
set_option Elab.async false
set_option linter.all false
set_option maxRecDepth 100000
set_option maxHeartbeats 2000000
/-! M14: the end of a row. -/
namespace K25
open PySem L2 DL
theorem end_short (k : Nat) {S : Sto} {i : Nat} {items : List DL.D} (hS : S[i]? = some (.lst items)) (hl : items.length ≤ 1) :
    run tb P (k + 1) 5 [.ref i] S = .ok .non S := by
  refine run_of (d := d_5) (x := .nx [some (.ref i)] S) rfl rfl ?_ (by simp [DL.finish, okPre_refl])
  have : ¬ (1 : Int) < (items.length : Int) := by omega
  refine ss_nx (s_if1 ?_) ss0
  simp [startL, d_5, semB, semAll, semE, semEs, coF, biF, hS, gcM, this]
end K25
set_option Elab.async false
set_option linter.all false
set_option maxRecDepth 100000
set_option maxHeartbeats 2000000
/-! M15: what is read, and how it stands in the store. -/
namespace K25
open PySem L2 DL
/-- a part of a map that is read: its known day, its place, its row -/
structure Ent where
  k : Int
  p : Int
  r : Row
abbrev Gi := Nat → Ent → DL.D
def itR : Gi := fun b e => .tup [.int e.k, .int e.p, .ref b]
def itL : Gi := fun b e => .lst [.int e.k, .ref b]
def its (g : Gi) : Nat → List Ent → List DL.D
  | _, [] => []
  | b, e :: es => g b e :: its g (b + 1) es
theorem its_app {g : Gi} : ∀ {b : Nat} {xs ys : List Ent}, its g b (xs ++ ys) = its g b xs ++ its g (b + xs.length) ys
  | b, [], ys => by simp [its]
  | b, x :: xs, ys => by
    simp only [List.cons_append, its, its_app (xs := xs), List.length_cons]
    rw [show b + 1 + xs.length = b + (xs.length + 1) by omega]
@[simp] theorem its_len {g : Gi} : ∀ {b : Nat} {xs : List Ent}, (its g b xs).length = xs.length
  | _, [] => rfl
  | b, x :: xs => by simp [its, its_len]
theorem its_snoc {g : Gi} {b : Nat} {xs : List Ent} {e : Ent} : its g b (xs ++ [e]) = its g b xs ++ [g (b + xs.length) e] := by
  rw [its_app]
  rfl
theorem its_last {g : Gi} {b : Nat} {xs : List Ent} {e : Ent} : (its g b (xs ++ [e])).getLast? = some (g (b + xs.length) e) := by
  rw [its_snoc]
  simp
def rws (st : List Ent) : Sto := st.map fun e => .lst (rowI e.r)
def SX (S0 : Sto) (g : Gi) (M : Sto) (st : List Ent) : Sto := S0 ++ .lst (its g (S0.length + 1 + M.length) st) :: (M ++ rws st)
section
variable {S0 M : Sto} {g : Gi} {st pre post : List Ent} {e : Ent}
theorem SX_hd : (SX S0 g M st)[S0.length]? = some (.lst (its g (S0.length + 1 + M.length) st)) := by simp [SX]
theorem SX_mid {o : Ob} : (SX S0 g [o] st)[S0.length + 1]? = some o := by simp [SX]
theorem SX_len : (SX S0 g M st).length = S0.length + 1 + M.length + st.length := by
  simp [SX, rws]
  omega
theorem SX_row : (SX S0 g M (pre ++ e :: post))[S0.length + 1 + M.length + pre.length]? = some (.lst (rowI e.r)) := by
  unfold SX
  rw [List.getElem?_append_right (by omega), show S0.length + 1 + M.length + pre.length - S0.length = (M.length + pre.length) + 1 by omega, List.getElem?_cons_succ, List.getElem?_append_right (by omega), show M.length + pre.length - M.length = pre.length by omega]
  simp [rws]
theorem SX_push {k p : Int} : (SX S0 g M st ++ [Ob.lst []]).set S0.length (.lst (its g (S0.length + 1 + M.length) st ++ [g (SX S0 g M st).length ⟨k, p, []⟩])) = SX S0 g M (st ++ [⟨k, p, []⟩]) := by
  rw [SX_len]
  unfold SX
  rw [List.append_assoc, List.set_append_right _ _ (Nat.le_refl _), Nat.sub_self, its_snoc]
  simp [rws, rowI]
theorem SX_setM {o o2 : Ob} : (SX S0 g [o] st).set (S0.length + 1) o2 = SX S0 g [o2] st := by
  unfold SX
  rw [List.set_append_right _ _ (by omega), show S0.length + 1 - S0.length = 0 + 1 by omega]
  simp
theorem its_same {e2 : Ent} (hk : e2.k = e.k) (hp : e2.p = e.p) (hg : g = itR ∨ g = itL) {b : Nat} : its g b (pre ++ [e2]) = its g b (pre ++ [e]) := by
  rw [its_snoc, its_snoc]
  rcases hg with rfl | rfl <;> simp [itR, itL, hk, hp]
theorem SX_add {r : Row} (hg : g = itR ∨ g = itL) : (SX S0 g M (pre ++ [e])).set (S0.length + 1 + M.length + pre.length) (.lst (rowI r)) = SX S0 g M (pre ++ [{ e with r := r }]) := by
  unfold SX
  rw [its_same (e := e) (e2 := { e with r := r }) rfl rfl hg]
  rw [List.set_append_right _ _ (by omega), show S0.length + 1 + M.length + pre.length - S0.length = (M.length + pre.length) + 1 by omega, List.set_cons_succ, List.set_append_right _ _ (by omega), show M.length + pre.length - M.length = pre.length by omega]
  simp [rws]
theorem SX_pre {st2 : List Ent} : ∃ T, SX S0 g M st = S0 ++ T := ⟨_, rfl⟩
end
/-! ### what the two readers do, line by line -/
def lastS (st : List Ent) : Option (Int × Row) := st.getLast?.map fun e => (e.k, e.r)
def sameE (st : List Ent) : Bool := match st.reverse with
  | a :: b :: _ => decide (a.r ≠ []) && decide (a.r = b.r)
  | _ => false
def placeE (st : List Ent) : Int := match st.getLast? with
  | some e => e.p
  | none => 0
/-- the last row grows -/
def growE (st : List Ent) (x : Int × An) : List Ent := match st.getLast? with
  | some e => st.dropLast ++ [{ e with r := e.r ++ [x] }]
  | none => []
def dayN (w : List Nat) : Int := (numL w 19999).getD 0
def ansV (ws : List (List Nat)) : An := (ansS ws).getD (.n 0)
inductive Rd1 where
  | go (st : List Ent)
  | no (p : Int) (f : List Nat)
def stepS (st : List Ent) (n : Nat) (ws : List (List Nat)) : Rd1 :=
  if (faultS (lastS st) ws ≠ [] ∨ isKn ws = true) ∧ sameE st = true then .no (placeE st) same
  else if faultS (lastS st) ws ≠ [] then .no ((n : Int) + 1) (faultS (lastS st) ws)
  else if isKn ws then .go (st ++ [⟨dayN (ws.getD 1 []), (n : Int) + 1, []⟩])
  else .go (growE st (dayN (ws.getD 2 []), ansV (ws.drop 3)))
def goS : List (List (List Nat)) → Nat → List Ent → Rd1
  | [], _, st => .go st
  | l :: ls, n, st => match stepS st n l with
    | .go st2 => goS ls (n + 1) st2
    | .no p f => .no p f
def ends : List Nat := [101, 110, 100, 115]
def endS (last : List Nat) (st : List Ent) : Rd1 :=
  if sameE st = true then .no (placeE st) same
  else if last ≠ [] ∨ st = [] ∨ (st.getLast?.map fun e => e.r) = some [] then .no 0 ends
  else .go st
/-- x.split(c) -/
def splC (c : Nat) : List Nat → List (List Nat)
  | [] => [[]]
  | d :: r => if d = c then [] :: splC c r else match splC c r with
    | [] => [[d]]
    | p :: ps => (d :: p) :: ps
def readS (x : List Nat) : Rd1 := match goS ((splC 10 x).dropLast.map (splC 32)) 0 [] with
  | .go st => endS ((splC 10 x).getLast?.getD []) st
  | .no p f => .no p f
theorem splC_ne (c : Nat) : ∀ x, splC c x ≠ []
  | [] => by simp [splC]
  | d :: r => by
    rw [splC]
    split
    · simp
    · split <;> simp
theorem splC_hd (c : Nat) (x : List Nat) : ∃ p ps, splC c x = p :: ps := List.exists_cons_of_ne_nil (splC_ne c x)
theorem splC_spl (c : Nat) : ∀ (x acc : List Nat), TL.spl [c] 0 acc x = (match splC c x with
    | [] => [acc]
    | p :: ps => (acc ++ p) :: ps)
  | [], acc => by simp [TL.spl_nil, splC]
  | d :: r, acc => by
    rw [splC]
    by_cases h : d = c
    · subst h
      rw [if_pos rfl, TL.spl_hit (show TL.pre [d] (d :: r) = true from TL.pre_self [d] r)]
      have := splC_spl d r []
      simp only [List.length_singleton, Nat.sub_self, List.append_nil]
      rw [this]
      obtain ⟨p, ps, e⟩ := splC_hd d r
      rw [e]
      simp
    · rw [if_neg h, TL.spl_miss (TL.pre_of_head [] r h), splC_spl c r]
      obtain ⟨p, ps, e⟩ := splC_hd c r
      rw [e]
      simp
theorem splC_txt {c : Nat} (hc : c < 256) (x : List Nat) : (Txt.split (strO x) (strO [c])).map strL = (splC c x).map DL.D.str := by
  have e := TL.split_spl (strO x) (strO [c]) (by simp [TL.tl, strO]) (TL.kind_ok (by simp [strO, hc]))
  have e2 : (Txt.split (strO x) (strO [c])).map TL.tl = splC c x := by
    rw [e]
    have := splC_spl c x []
    obtain ⟨p, ps, q⟩ := splC_hd c x
    rw [q] at this ⊢
    simpa [TL.tl, strO] using this
  rw [← e2, List.map_map]
  rfl
theorem splC_mem {c : Nat} : ∀ {x p : List Nat}, p ∈ splC c x → (∀ d ∈ p, d ∈ x) ∧ p.length ≤ x.length ∧ c ∉ p
  | [], p, h => by
    simp [splC] at h
    subst h
    simp
  | d :: r, p, h => by
    rw [splC] at h
    obtain ⟨q, qs, e⟩ := splC_hd c r
    by_cases hd : d = c
    · rw [if_pos hd] at h
      rcases List.mem_cons.mp h with rfl | h
      · simp
      · obtain ⟨h1, h2, h3⟩ := splC_mem h
        exact ⟨fun y hy => List.mem_cons_of_mem _ (h1 y hy), by simp; omega, h3⟩
    · rw [if_neg hd, e] at h
      rcases List.mem_cons.mp h with rfl | h
      · obtain ⟨h1, h2, h3⟩ := splC_mem (c := c) (x := r) (p := q) (by rw [e]; simp)
        refine ⟨fun y hy => ?_, by simp; omega, by simp [h3, Ne.symm hd]⟩
        rcases List.mem_cons.mp hy with rfl | hy
        · simp
        · exact List.mem_cons_of_mem _ (h1 y hy)
      · obtain ⟨h1, h2, h3⟩ := splC_mem (c := c) (x := r) (p := p) (by rw [e]; simp [h])
        exact ⟨fun y hy => List.mem_cons_of_mem _ (h1 y hy), by simp; omega, h3⟩
theorem splC_len {c : Nat} : ∀ {x : List Nat}, (splC c x).length ≤ x.length + 1
  | [] => by simp [splC]
  | d :: r => by
    rw [splC]
    have := splC_len (c := c) (x := r)
    obtain ⟨q, qs, e⟩ := splC_hd c r
    split
    · simp; omega
    · rw [e] at this ⊢
      simp at this ⊢
      omega
theorem splC_app {c : Nat} {r : List Nat} : ∀ {p : List Nat}, c ∉ p → splC c (p ++ c :: r) = p :: splC c r
  | [], _ => by simp [splC]
  | d :: p, h => by
    simp at h
    rw [List.cons_append, splC, if_neg (Ne.symm h.1), splC_app h.2]
theorem splC_last {c : Nat} : ∀ {p : List Nat}, c ∉ p → splC c p = [p]
  | [], _ => by simp [splC]
  | d :: p, h => by
    simp at h
    rw [splC, if_neg (Ne.symm h.1), splC_last h.2]
theorem fSplit_ok {c : Nat} (hc : c < 256) {x : List Nat} (hl : x.length ≤ 1000000) {S : Sto} : fSplit (.str x) [.str [c]] S = .ok (.lst ((splC c x).map .str)) S := by
  unfold fSplit
  rw [← splC_txt hc]
  simp [hl]
theorem okS_of {x y : List Nat} (h : okS x = true) (hy : ∀ d ∈ y, d ∈ x) : okS y = true := by
  unfold okS at h ⊢
  rw [List.all_eq_true] at h ⊢
  exact fun d hd => h d (hy d hd)
theorem splC_okW {c : Nat} {x : List Nat} (h : okS x = true) (hl : x.length ≤ 1000000) : okW (splC c x) := fun p hp => by
  obtain ⟨h1, h2, _⟩ := splC_mem hp
  exact ⟨okS_of h h1, by omega⟩
theorem sameE_two {pre : List Ent} {a b : Ent} : sameE (pre ++ [a, b]) = (decide (b.r ≠ []) && decide (b.r = a.r)) := by simp [sameE]
theorem snoc_cases (st : List Ent) : st = [] ∨ (∃ e, st = [e]) ∨ ∃ pre a b, st = pre ++ [a, b] := by
  rcases List.eq_nil_or_concat st with rfl | ⟨l, b, rfl⟩
  · exact .inl rfl
  · rcases List.eq_nil_or_concat l with rfl | ⟨pre, a, rfl⟩
    · exact .inr (.inl ⟨b, rfl⟩)
    · exact .inr (.inr ⟨pre, a, b, by simp⟩)
/-- what a state of n lines keeps -/
structure OkE (n : Nat) (st : List Ent) : Prop where
  l : st.length ≤ n
  r : ∀ e ∈ st, e.r.length ≤ n ∧ okR e.r ∧ e.p.natAbs ≤ n
theorem at_last2 {α : Type} {xs : List α} {a b : α} : atI (xs ++ [a, b]) (-2) = some a := by
  unfold atI ixN
  simp
  rw [if_pos (by omega)]
  simp only [Option.bind_some]
  rw [show ((-2 : Int) + (xs.length + 2)).toNat = xs.length by omega]
  simp
end K25
set_option Elab.async false
set_option linter.all false
set_option maxRecDepth 100000
set_option maxHeartbeats 2000000
/-! M16: the end of a row of two. -/
namespace K25
open PySem L2 DL
theorem s_rais {x : Nat} {es : Exs} {P : Par} {r : DL.Loc} {S S2 : Sto} {ds fs : List DL.D} (h : semEs P es r S = .ok ds S2) (h2 : P.mke x ds = some fs) : semS (.rais x es) P r S = .err x fs S2 := by
  have e : semS (.rais x es) P r S = (semEs P es r S).to fun ds S1 => match P.mke x ds with
    | some fs => .err x fs S1
    | none => .bad := by
    simp only [semS] <;> rfl
  rw [e, h, to_ok, h2]
theorem run_err {tb : Nat → Option Df} {P : Par} {k f x : Nat} {d : Df} {ds fs : List DL.D} {S S2 S3 : Sto} (h : tb f = some d) (hl : ds.length = d.ps.length) (hx : semSs d.ast { P with fn := run tb P k } (startL d.N.length ds) S = .err x fs S2) (hf : finish S (.err x fs S2) = .err x fs S3) : run tb P (k + 1) f ds S = .err x fs S3 := by
  rw [run_succ h hl, hx, hf]
theorem fin_err {S T : Sto} {x : Nat} {fs : List DL.D} (h : nrs 0 fs = true) : finish S (.err x fs (S ++ T)) = .err x fs S := by
  unfold DL.finish
  simp only [nrs_mono (Nat.zero_le _) fs h, okPre_app, and_self, if_true]
  rw [List.take_left]
theorem fin_err0 {S : Sto} {x : Nat} {fs : List DL.D} (h : nrs 0 fs = true) : finish S (.err x fs S) = .err x fs S := by
  have := fin_err (S := S) (T := []) (x := x) h
  simpa using this
theorem mk_err {p : Int} {f : List Nat} (hp : p.natAbs < 1000000000) (hf : f.length ≤ 1000) : P.mke 0 [.int p, .str f] = some [.str f, .int p] := by
  show mkD .pr [.int p, .str f] = _
  simp [mkD, hp, hf]
theorem end_two (k : Nat) {S : Sto} {i ja jb : Nat} {X : List DL.D} {ka pa kb pb : Int} {a b : Row} (hS : S[i]? = some (.lst (X ++ [.tup [.int ka, .int pa, .ref ja], .tup [.int kb, .int pb, .ref jb]])))
    (hja : S[ja]? = some (.lst (rowI a))) (hjb : S[jb]? = some (.lst (rowI b))) (ha : okR a) (hb : okR b) (hp : pb.natAbs < 1000000000) :
    run tb P (k + 1) 5 [.ref i] S = if (decide (b ≠ []) && decide (b = a)) = true then .err 0 [.str same, .int pb] S else .ok .non S := by
  have hl : (1 : Int) < ((X ++ [DL.D.tup [.int ka, .int pa, .ref ja], .tup [.int kb, .int pb, .ref jb]]).length : Int) := by
    rw [List.length_append]
    simp
    omega
  generalize hit : X ++ [DL.D.tup [.int ka, .int pa, .ref ja], .tup [.int kb, .int pb, .ref jb]] = items at *
  have e1 : atI items (-1) = some (.tup [.int kb, .int pb, .ref jb]) := by rw [at_last, ← hit]; simp
  have e2 : atI items (-2) = some (.tup [.int ka, .int pa, .ref ja]) := by rw [← hit]; exact at_last2
  have f := fEq_rows hb ha hjb hja
  have ht := truD_ref hjb
  have hbe : (!(rowI b).isEmpty) = decide (b ≠ []) := by cases b <;> simp [rowI]
  rw [hbe] at ht
  have tst : semB { P with fn := run tb P k } (.and (.cons (.cmp .gt (.blt .len (.cons (.var 0) .nil)) (.int 1)) (.cons (.ix (.ix (.var 0) (.neg (.int 1))) (.int 2)) (.cons (.cmp .eq (.ix (.ix (.var 0) (.neg (.int 1))) (.int 2)) (.ix (.ix (.var 0) (.neg (.int 2))) (.int 2))) .nil)))) [some (.ref i)] S = .ok (decide (b ≠ []) && decide (b = a)) S := by
    have g : fGt (.int (items.length : Int)) (.int 1) S = .ok (.bl true) S := by rw [fGt_int, decide_eq_true hl]
    have g1 : fIx (.ref i) (.int (-1)) S = .ok (.tup [.int kb, .int pb, .ref jb]) S := by rw [fIx_ref, hS]; simp only [e1, okO_some]
    have g2 : fIx (.ref i) (.int (-2)) S = .ok (.tup [.int ka, .int pa, .ref ja]) S := by rw [fIx_ref, hS]; simp only [e2, okO_some]
    have gl : fLen [.ref i] S = .ok (.int (items.length : Int)) S := by rw [fLen_ref, hS]
    cases hd : decide (b ≠ []) with
    | true =>
      rw [hd] at ht
      simp only [semB, semAll, semE, semEs, coF, biF, List.getElem?_cons_zero, bind_ok, gl, g, toB_bl, if_true, fNeg_int, g1, fIx_tup, at_2, List.getElem?_cons_succ, okO_some, ht, g2, f, Bool.true_and]
      cases decide (b = a) <;> rfl
    | false =>
      rw [hd] at ht
      simp only [semB, semAll, semE, semEs, coF, biF, List.getElem?_cons_zero, bind_ok, gl, g, toB_bl, if_true, fNeg_int, g1, fIx_tup, at_2, List.getElem?_cons_succ, okO_some, ht, g2, f, Bool.false_and, Bool.false_eq_true, if_false]
  by_cases hc : (decide (b ≠ []) && decide (b = a)) = true
  · rw [if_pos hc]
    rw [hc] at tst
    refine run_err (d := d_5) (S2 := S) rfl rfl ?_ (fin_err0 (by simp [nrs, nr]))
    refine ss_err (s_ifT tst (ss_err (s_rais (ds := [.int pb, .str same]) ?_ (mk_err hp (by decide)))))
    have g1 : fIx (.ref i) (.int (-1)) S = .ok (.tup [.int kb, .int pb, .ref jb]) S := by rw [fIx_ref, hS]; simp only [e1, okO_some]
    simp [startL, d_5, semE, semEs, g1, same]
  · rw [if_neg hc]
    have hc' : (decide (b ≠ []) && decide (b = a)) = false := by simpa using hc
    rw [hc'] at tst
    exact run_of (d := d_5) (x := .nx [some (.ref i)] S) rfl rfl (ss_nx (s_if1 tst) ss0) (by simp [DL.finish, okPre_refl])
/-- what the end of a row says -/
theorem end_ok (k : Nat) {S0 M : Sto} {st : List Ent} {n : Nat} (ho : OkE n st) (hn : n ≤ 900000) :
    run tb P (k + 1) 5 [.ref S0.length] (SX S0 itR M st) = if sameE st = true then .err 0 [.str same, .int (placeE st)] (SX S0 itR M st) else .ok .non (SX S0 itR M st) := by
  rcases snoc_cases st with rfl | ⟨e, rfl⟩ | ⟨pre, a, b, rfl⟩
  · exact end_short k SX_hd (by simp)
  · exact end_short k SX_hd (by simp)
  · have ha := ho.r a (by simp)
    have hb := ho.r b (by simp)
    have h1 := SX_row (S0 := S0) (M := M) (g := itR) (pre := pre) (e := a) (post := [b])
    have h2 := SX_row (S0 := S0) (M := M) (g := itR) (pre := pre ++ [a]) (e := b) (post := [])
    rw [List.append_assoc, List.singleton_append] at h2
    have h0 := SX_hd (S0 := S0) (M := M) (g := itR) (st := pre ++ [a, b])
    have e : its itR (S0.length + 1 + M.length) (pre ++ [a, b]) = its itR (S0.length + 1 + M.length) pre ++ [.tup [.int a.k, .int a.p, .ref (S0.length + 1 + M.length + pre.length)], .tup [.int b.k, .int b.p, .ref (S0.length + 1 + M.length + (pre ++ [a]).length)]] := by
      rw [its_app]
      simp [its, itR]
      omega
    rw [e] at h0
    rw [end_two k h0 h1 h2 ha.2.1 hb.2.1 (by omega), sameE_two]
    simp [placeE]
end K25
set_option Elab.async false
set_option linter.all false
set_option maxRecDepth 100000
set_option maxHeartbeats 2000000
/-! M17: a line as the law reads it. -/
namespace K25
open PySem L2 DL
def stretchW : List Nat := [115, 116, 114, 101, 116, 99, 104]
def bothW : List Nat := [98, 111, 116, 104]
def dueW : Option (Int × Row) → List Nat
  | none => knownW
  | some (_, []) => stretchW
  | some (_, _ :: _) => bothW
def lineR (last : Option (Int × Row)) (ws : List (List Nat)) : DL.D :=
  if faultS last ws ≠ [] then .str (faultS last ws)
  else if isKn ws then .lst [.str knownW, .int (dayN (ws.getD 1 []))]
  else .lst [.str stretchW, .int (dayN (ws.getD 2 [])), (ansV (ws.drop 3)).d]
theorem okDs_all {n : Nat} {ds : List DL.D} : okDs n ds = true ↔ ∀ d ∈ ds, okD n d = true := by
  induction ds with
  | nil => simp [okDs]
  | cons d ds ih => simp [okDs, ih]
/-- two lists against the empty one -/
theorem nil_eq {S : Sto} {i : Nat} {items : List DL.D} (hS : S[i]? = some (.lst items)) (hok : okDs 59 (items.map (dv 8 S)) = true) : fEq (.ref i) (.lst []) S = .ok (.bl (items.isEmpty)) S ∧ fNe (.ref i) (.lst []) S = .ok (.bl (!items.isEmpty)) S := by
  have e0 : vw S (.ref i) = .lst items := vw_ref hS
  have e1 : dv 9 S (.ref i) = .lst (items.map (dv 8 S)) := by simp only [dv, hS]
  have e2 : dv 9 S (.lst []) = .lst [] := rfl
  have e3 : okD 60 (.lst (items.map (dv 8 S))) = true := by simpa only [okD] using hok
  have e4 : okD 60 (.lst []) = true := rfl
  have e5 : eqD (.lst items) (.lst []) = items.isEmpty := by cases items <;> rfl
  have e6 : eqD (.lst (items.map (dv 8 S))) (.lst []) = items.isEmpty := by cases items <;> rfl
  constructor
  · unfold fEq
    rw [e0, e1, e2, e6, vw_lst, e5]
    split
    · rfl
    · rw [if_pos ⟨e3, e4⟩]
  · unfold fNe
    rw [e0, e1, e2, e6, vw_lst, e5]
    split
    · rfl
    · rw [if_pos ⟨e3, e4⟩]
theorem row_dv {S : Sto} {n : Nat} : ∀ {r : Row}, (rowI r).map (dv n S) = rowI r
  | [] => rfl
  | (i, a) :: r => by
    have := row_dv (S := S) (n := n) (r := r)
    simp only [rowI] at this
    simp only [rowI, List.map_cons, this, List.cons.injEq, and_true]
    cases n with
    | zero => rfl
    | succ n =>
      simp only [dv, List.map_cons, List.map_nil]
      cases n <;> cases a <;> rfl
theorem row_nil {S : Sto} {i : Nat} {r : Row} (hS : S[i]? = some (.lst (rowI r))) (hr : okR r) : fEq (.ref i) (.lst []) S = .ok (.bl (decide (r = []))) S ∧ fNe (.ref i) (.lst []) S = .ok (.bl (!decide (r = []))) S := by
  have h := nil_eq hS (by rw [row_dv]; exact row_ok hr 58)
  have e : (rowI r).isEmpty = decide (r = []) := by cases r <;> simp [rowI]
  rw [e] at h
  exact h
/-- the list at i ends in the row, the law's way -/
structure HeadL (S : Sto) (i : Nat) (k : Int) (r : Row) (items : List DL.D) (j : Nat) : Prop where
  hS : S[i]? = some (.lst items)
  hl : items.getLast? = some (.lst [.int k, .ref j])
  hj : S[j]? = some (.lst (rowI r))
  hr : okR r
  ok : okDs 59 (items.map (dv 8 S)) = true
theorem HeadL.ne {S : Sto} {i : Nat} {k : Int} {r : Row} {items : List DL.D} {j : Nat} (h : HeadL S i k r items j) : items.isEmpty = false := by
  have := h.hl
  cases items with
  | nil => simp at this
  | cons => rfl
theorem due_eq {a b : List Nat} {S : Sto} (ha : okS a = true) (hb : okS b = true) : fEq (.str a) (.str b) S = .ok (.bl (a == b)) S := fEq_str ha hb
theorem geLen {Q : Par} {ws : List (List Nat)} {r : DL.Loc} {i : Nat} {S : Sto} (hr : r[i]? = some (some (.lst (ws.map .str)))) : semE Q (.cmp .ge (.blt .len (.cons (.var i) .nil)) (.int 4)) r S = .ok (.bl (decide (3 < ws.length))) S := by
  simp [semE, semEs, coF, biF, hr]
  omega
theorem line_none (k : Nat) {ln : List Nat} (hl : ln.length ≤ 1000000) (ho : okS ln = true) {S : Sto} {i : Nat} (hS : S[i]? = some (.lst [])) :
    run tb P (k + 4) 19 [.str ln, .ref i, .str knownW] S = .ok (lineR none (splC 32 ln)) S := by
  have h := splC_okW (c := 32) ho hl
  have e0 := fSplit_ok (c := 32) (by decide) hl (S := S)
  generalize splC 32 ln = ws at *
  have dk : fEq (.str knownW) (.str [107, 110, 111, 119, 110]) S = .ok (.bl true) S := by rw [fEq_str (by decide) (by decide)]; rfl
  have ds : fEq (.str knownW) (.str [115, 116, 114, 101, 116, 99, 104]) S = .ok (.bl false) S := by rw [fEq_str (by decide) (by decide)]; rfl
  refine run_of (d := d_19) (x := .ret (lineR none ws) S) rfl rfl ?_ (fin_pl ?_)
  · refine ss_nx (s_asg0 (.lst (ws.map .str)) (by simp [startL, d_19, semE, semEs, mtF, mtT, e0]) rfl) ?_
    refine ss_nx (s_asg0 (.bl (isKn ws)) (known_ok h (by simp [startL, d_19])) rfl) ?_
    refine ss_nx (s_asg0 (.bl (isSt ws)) (stretch_of h (by simp [startL, d_19]) (geLen (by simp [startL, d_19]))) rfl) ?_
    cases hk : isKn ws with
    | false =>
      have e : lineR none ws = .str noknown := by simp [lineR, faultS, hk, noknown]
      rw [e]
      exact ss_ret (s_ifT (by simp [startL, d_19, semB, semAll, semE, coF, dk]) (ss_ret (s_ret0 (by simp [semE, noknown]))))
    | true =>
      obtain ⟨b, rfl⟩ := kn_two hk
      have hs : isSt [knownW, b] = false := rfl
      rw [hs]
      refine ss_nx (s_if1 (by simp [startL, d_19, semB, semAll, semE, coF, dk])) ?_
      refine ss_nx (s_if1 (by simp [startL, d_19, semB, semAll, semAny, semE, coF, ds])) ?_
      have hb := h b (by simp)
      have en : run tb P (k + 3) 17 [.str b, .int 19999] S = .ok (optI (numL b 19999)) S := lnumber_ok (k + 2) hb.2 hb.1 19999 S
      refine ss_nx (s_asg0 (optI (numL b 19999)) (by simp [startL, d_19, semE, semB, semEs, en]) rfl) ?_
      cases hq : numL b 19999 with
      | none =>
        have e : lineR none [knownW, b] = .str badday := by simp [lineR, faultS, hk, folS, hq, badday]
        rw [e]
        exact ss_ret (s_ifT (by simp [startL, d_19, semB, semE, coF, optI, DL.isNon]) (ss_ret (s_ret0 (by simp [semE, badday]))))
      | some d =>
        refine ss_nx (s_if1 (by simp [startL, d_19, semB, semE, coF, optI, DL.isNon])) ?_
        have n1 := nil_eq hS rfl
        refine ss_ret (s_ifT (by simp [startL, d_19, semB, semE]) (ss_ret (s_ret0 ?_)))
        by_cases hd : d = 0
        · subst hd
          have e : lineR none [knownW, b] = .lst [.str knownW, .int 0] := by simp [lineR, faultS, hk, folS, hq, dayN]
          rw [e]
          simp [startL, d_19, semE, semEs, semB, semAny, semAll, coF, optI, n1.1, n1.2, knownW]
        · have e : lineR none [knownW, b] = .str badday := by simp [lineR, faultS, hk, folS, hq, badday, hd]
          rw [e]
          simp [startL, d_19, semE, semEs, semB, semAny, semAll, coF, optI, n1.1, n1.2, badday, hd]
  · unfold lineR
    split
    · rfl
    · split
      · rfl
      · cases ansV (ws.drop 3) <;> rfl
end K25
set_option Elab.async false
set_option linter.all false
set_option maxRecDepth 100000
set_option maxHeartbeats 4000000
/-! M18: a later line as the law reads it. -/
namespace K25
open PySem L2 DL
theorem due_ok {k0 : Int} {r : Row} {S : Sto} : fEq (.str (dueW (some (k0, r)))) (.str [107, 110, 111, 119, 110]) S = .ok (.bl false) S ∧ fEq (.str (dueW (some (k0, r)))) (.str [115, 116, 114, 101, 116, 99, 104]) S = .ok (.bl (decide (r = []))) S := by
  have h1 : okS stretchW = true := by decide
  have h2 : okS bothW = true := by decide
  cases r with
  | nil =>
    refine ⟨?_, ?_⟩
    · show fEq (.str stretchW) _ S = _
      rw [fEq_str h1 (by decide)]
      rfl
    · show fEq (.str stretchW) _ S = _
      rw [fEq_str h1 (by decide)]
      rfl
  | cons p r =>
    refine ⟨?_, ?_⟩
    · show fEq (.str bothW) _ S = _
      rw [fEq_str h2 (by decide)]
      rfl
    · show fEq (.str bothW) _ S = _
      rw [fEq_str h2 (by decide)]
      rfl
theorem lineR_nr (last : Option (Int × Row)) (ws : List (List Nat)) : nr 0 (lineR last ws) = true := by
  unfold lineR
  split
  · rfl
  · split
    · rfl
    · cases ansV (ws.drop 3) <;> rfl
theorem line_some (k : Nat) {ln : List Nat} (hl : ln.length ≤ 1000000) (ho : okS ln = true) {S : Sto} {i j : Nat} {k0 : Int} {r : Row} {items : List DL.D} (hd : HeadL S i k0 r items j) :
    run tb P (k + 4) 19 [.str ln, .ref i, .str (dueW (some (k0, r)))] S = .ok (lineR (some (k0, r)) (splC 32 ln)) S := by
  have h := splC_okW (c := 32) ho hl
  have e0 := fSplit_ok (c := 32) (by decide) hl (S := S)
  generalize splC 32 ln = ws at *
  have dd := due_ok (k0 := k0) (r := r) (S := S)
  generalize hdu : dueW (some (k0, r)) = due at *
  obtain ⟨dk, ds⟩ := dd
  have n1 := nil_eq hd.hS hd.ok
  rw [hd.ne] at n1
  refine run_of (d := d_19) (x := .ret (lineR (some (k0, r)) ws) S) rfl rfl ?_ (fin_pl (lineR_nr _ _))
  refine ss_nx (s_asg0 (.lst (ws.map .str)) (by simp [startL, d_19, semE, semEs, mtF, mtT, e0]) rfl) ?_
  refine ss_nx (s_asg0 (.bl (isKn ws)) (known_ok h (by simp [startL, d_19])) rfl) ?_
  refine ss_nx (s_asg0 (.bl (isSt ws)) (stretch_of h (by simp [startL, d_19]) (geLen (by simp [startL, d_19]))) rfl) ?_
  refine ss_nx (s_if1 (by simp [startL, d_19, semB, semAll, semE, coF, dk])) ?_
  cases hk : isKn ws with
  | true =>
    obtain ⟨b, rfl⟩ := kn_two hk
    have hs : isSt [knownW, b] = false := rfl
    rw [hs]
    by_cases he : r = []
    · have e : lineR (some (k0, r)) [knownW, b] = .str nostretch := by simp [lineR, faultS, hk, he, nostretch]
      rw [e]
      rw [he] at ds
      exact ss_ret (s_ifT (by simp [startL, d_19, semB, semAll, semAny, semE, coF, ds]) (ss_ret (s_ret0 (by simp [semE, nostretch]))))
    · have ds2 : fEq (.str due) (.str [115, 116, 114, 101, 116, 99, 104]) S = .ok (.bl false) S := by rw [ds]; simp [he]
      refine ss_nx (s_if1 (by simp [startL, d_19, semB, semAll, semAny, semE, coF, ds2])) ?_
      have hb := h b (by simp)
      have en : run tb P (k + 3) 17 [.str b, .int 19999] S = .ok (optI (numL b 19999)) S := lnumber_ok (k + 2) hb.2 hb.1 19999 S
      refine ss_nx (s_asg0 (optI (numL b 19999)) (by simp [startL, d_19, semE, semB, semEs, en]) rfl) ?_
      cases hq : numL b 19999 with
      | none =>
        have e : lineR (some (k0, r)) [knownW, b] = .str badday := by simp [lineR, faultS, hk, he, folS, hq, badday]
        rw [e]
        exact ss_ret (s_ifT (by simp [startL, d_19, semB, semE, coF, optI, DL.isNon]) (ss_ret (s_ret0 (by simp [semE, badday]))))
      | some d =>
        refine ss_nx (s_if1 (by simp [startL, d_19, semB, semE, coF, optI, DL.isNon])) ?_
        refine ss_ret (s_ifT (by simp [startL, d_19, semB, semE]) (ss_ret (s_ret0 ?_)))
        by_cases hd2 : k0 < d
        · have e : lineR (some (k0, r)) [knownW, b] = .lst [.str knownW, .int d] := by simp [lineR, faultS, hk, he, folS, hq, dayN, hd2]
          rw [e]
          have : ¬ d ≤ k0 := by omega
          simp [startL, d_19, semE, semEs, semB, semAny, semAll, coF, optI, n1.1, n1.2, knownW, hd.hS, hd.hl, this]
        · have e : lineR (some (k0, r)) [knownW, b] = .str badday := by simp [lineR, faultS, hk, he, folS, hq, badday, hd2]
          rw [e]
          have : d ≤ k0 := by omega
          simp [startL, d_19, semE, semEs, semB, semAny, semAll, coF, optI, n1.1, n1.2, badday, hd.hS, hd.hl, this]
  | false =>
    cases hs : isSt ws with
    | false =>
      have e : lineR (some (k0, r)) ws = .str nostretch := by simp [lineR, faultS, hk, hs, nostretch]
      rw [e]
      refine ss_ret (s_ifT ?_ (ss_ret (s_ret0 (by simp [semE, nostretch]))))
      cases hr : decide (r = []) with
      | true => rw [hr] at ds; simp [startL, d_19, semB, semAll, semAny, semE, coF, ds]
      | false => rw [hr] at ds; simp [startL, d_19, semB, semAll, semAny, semE, coF, ds]
    | true =>
      obtain ⟨-, a, b, c, w, rfl⟩ := st_not hs
      have hc := h c (by simp)
      have hw : okW w := fun x hx => h x (by simp [hx])
      refine ss_nx (s_if1 ?_) ?_
      · cases hr : decide (r = []) with
        | true => rw [hr] at ds; simp [startL, d_19, semB, semAll, semAny, semE, coF, ds]
        | false => rw [hr] at ds; simp [startL, d_19, semB, semAll, semAny, semE, coF, ds]
      have en : run tb P (k + 3) 17 [.str c, .int 19999] S = .ok (optI (numL c 19999)) S := lnumber_ok (k + 2) hc.2 hc.1 19999 S
      refine ss_nx (s_asg0 (optI (numL c 19999)) (by simp [startL, d_19, semE, semB, semEs, en]) rfl) ?_
      cases hq : numL c 19999 with
      | none =>
        have e : lineR (some (k0, r)) (a :: b :: c :: w) = .str badday := by simp [lineR, faultS, hk, hs, faultR, folS, hq, badday]
        rw [e]
        exact ss_ret (s_ifT (by simp [startL, d_19, semB, semE, coF, optI, DL.isNon]) (ss_ret (s_ret0 (by simp [semE, badday]))))
      | some d =>
        refine ss_nx (s_if1 (by simp [startL, d_19, semB, semE, coF, optI, DL.isNon])) ?_
        refine ss_nx (s_if1 (by simp [startL, d_19, semB, semE])) ?_
        refine ss_nx (s_asg0 (.ref j) (by simp [startL, d_19, semE, coF, hd.hS, hd.hl]) rfl) ?_
        have rn := row_nil hd.hj hd.hr
        have ha := lanswer_ok k hw S
        have e2 : fSl (.lst (.str a :: .str b :: .str c :: w.map .str)) (some 3) none S = .ok (.lst (w.map .str)) S := slL_from (ds := .str a :: .str b :: .str c :: w.map .str) 3
        cases hq2 : r.getLast? with
        | none =>
          rw [List.getLast?_eq_none_iff] at hq2
          subst hq2
          by_cases hd0 : d = 0
          · subst hd0
            refine ss_nx (s_if1 (by simp [startL, d_19, semB, semAny, semAll, semE, semEs, coF, optI, rn.1, rn.2])) ?_
            refine ss_nx (s_asg0 (optA (ansS w)) (by simp [startL, d_19, semE, semEs, semO, coF, e2, ha]) rfl) ?_
            cases hA : ansS w with
            | none =>
              have e : lineR (some (k0, [])) (a :: b :: c :: w) = .str badans := by simp [lineR, faultS, hk, hs, faultR, folS, hq, hA, badans]
              rw [e]
              exact ss_ret (s_ifT (by simp [startL, d_19, semB, semE, semEs, coF, optA, DL.isNon]) (ss_ret (s_ret0 (by simp [semE, badans]))))
            | some x =>
              have e : lineR (some (k0, [])) (a :: b :: c :: w) = .lst [.str stretchW, .int 0, x.d] := by simp [lineR, faultS, hk, hs, faultR, folS, hq, hA, dayN, ansV]
              rw [e]
              refine ss_nx (s_if1 (by cases x <;> simp [startL, d_19, semB, semE, semEs, coF, optA, An.d, DL.isNon])) ?_
              refine ss_nx (s_if1 (by simp [startL, d_19, semB, semAll, semE, semEs, coF, rn.2])) ?_
              exact ss_ret (s_ret0 (by simp [startL, d_19, semE, semEs, optI, optA, stretchW]))
          · have e : lineR (some (k0, [])) (a :: b :: c :: w) = .str badday := by simp [lineR, faultS, hk, hs, faultR, folS, hq, hd0, badday]
            rw [e]
            exact ss_ret (s_ifT (by simp [startL, d_19, semB, semAny, semAll, semE, semEs, coF, optI, rn.1, rn.2, hd0]) (ss_ret (s_ret0 (by simp [semE, badday]))))
        | some p =>
          have hne2 : r ≠ [] := by
            rintro rfl
            simp at hq2
          have hl2 : (rowI r).getLast? = some (.tup [.int p.1, p.2.d]) := by simp [rowI, hq2]
          have hp : okA p.2 := (hd.hr p (List.mem_of_getLast? hq2))
          simp only [hne2, decide_false, Bool.not_false] at rn
          by_cases hd0 : p.1 < d
          · have hd1 : ¬ d ≤ p.1 := by omega
            refine ss_nx (s_if1 (by simp [startL, d_19, semB, semAny, semAll, semE, semEs, coF, optI, rn.1, rn.2, hd.hj, hl2, hd1])) ?_
            refine ss_nx (s_asg0 (optA (ansS w)) (by simp [startL, d_19, semE, semEs, semO, coF, e2, ha]) rfl) ?_
            cases hA : ansS w with
            | none =>
              have e : lineR (some (k0, r)) (a :: b :: c :: w) = .str badans := by simp [lineR, faultS, hk, hs, faultR, folS, hq, hA, badans, hq2, hd0]
              rw [e]
              exact ss_ret (s_ifT (by simp [startL, d_19, semB, semE, semEs, coF, optA, DL.isNon]) (ss_ret (s_ret0 (by simp [semE, badans]))))
            | some x =>
              refine ss_nx (s_if1 (by cases x <;> simp [startL, d_19, semB, semE, semEs, coF, optA, An.d, DL.isNon])) ?_
              have he := fEq_an hp (an_okS hA) S
              by_cases hx : p.2 = x
              · have e : lineR (some (k0, r)) (a :: b :: c :: w) = .str same := by simp [lineR, faultS, hk, hs, faultR, folS, hq, hA, same, hq2, hd0, hx]
                rw [e]
                rw [hx] at he hl2
                exact ss_ret (s_ifT (by simp [startL, d_19, semB, semAll, semE, semEs, coF, rn.2, hd.hj, hl2, optA, he]) (ss_ret (s_ret0 (by simp [semE, same]))))
              · have e : lineR (some (k0, r)) (a :: b :: c :: w) = .lst [.str stretchW, .int d, x.d] := by simp [lineR, faultS, hk, hs, faultR, folS, hq, hA, hq2, hd0, hx, dayN, ansV]
                rw [e]
                refine ss_nx (s_if1 (by simp [startL, d_19, semB, semAll, semE, semEs, coF, rn.2, hd.hj, hl2, optA, he, hx])) ?_
                exact ss_ret (s_ret0 (by simp [startL, d_19, semE, semEs, optI, optA, stretchW]))
          · have e : lineR (some (k0, r)) (a :: b :: c :: w) = .str badday := by simp [lineR, faultS, hk, hs, faultR, folS, hq, badday, hq2, hd0]
            rw [e]
            have hd1 : d ≤ p.1 := by omega
            exact ss_ret (s_ifT (by simp [startL, d_19, semB, semAny, semAll, semE, semEs, coF, optI, rn.1, rn.2, hd.hj, hl2, hd1]) (ss_ret (s_ret0 (by simp [semE, badday]))))
end K25
set_option Elab.async false
set_option linter.all false
set_option maxRecDepth 100000
set_option maxHeartbeats 4000000
/-! M19: read_map, one line. -/
namespace K25
open PySem L2 DL
theorem s_exprE {e : Ex} {P : Par} {r : DL.Loc} {S S2 : Sto} {x : Nat} {fs : List DL.D} (h : semE P e r S = .err x fs S2) : semS (.expr e) P r S = .err x fs S2 := by
  have e' : semS (.expr e) P r S = (semE P e r S).to fun _ S1 => .nx r S1 := by simp only [semS]
  rw [e', h, to_err]
theorem faultR_ok (r : Row) (ws : List (List Nat)) : okS (faultR r ws) = true ∧ (faultR r ws).length ≤ 1000 := by
  unfold faultR
  repeat' split
  all_goals decide
theorem faultS_ok (last : Option (Int × Row)) (ws : List (List Nat)) : okS (faultS last ws) = true ∧ (faultS last ws).length ≤ 1000 := by
  unfold faultS
  repeat' split
  all_goals first | exact faultR_ok _ _ | decide
theorem folS_num {w : List Nat} {p : Option Int} (h : (folS w p).isSome = true) : ∃ d, numL w 19999 = some d := by
  cases hq : numL w 19999 with
  | none => simp [folS, hq] at h
  | some d => exact ⟨d, rfl⟩
/-- a line without fault -/
theorem fault_nil {last : Option (Int × Row)} {ws : List (List Nat)} (h : faultS last ws = []) :
    (isKn ws = true ∧ ∃ d, numL (ws.getD 1 []) 19999 = some d) ∨ (isKn ws = false ∧ isSt ws = true ∧ (∃ k r, last = some (k, r)) ∧ (∃ d, numL (ws.getD 2 []) 19999 = some d) ∧ ∃ a, ansS (ws.drop 3) = some a) := by
  unfold faultS at h
  cases last with
  | none =>
    dsimp only at h
    split at h
    · rename_i hk
      split at h
      · rename_i hf
        exact .inl ⟨hk, folS_num hf⟩
      · exact absurd h (by decide)
    · exact absurd h (by decide)
  | some q =>
    obtain ⟨k, r⟩ := q
    dsimp only at h
    split at h
    · rename_i hk
      split at h
      · exact absurd h (by decide)
      · split at h
        · rename_i hf
          exact .inl ⟨hk, folS_num hf⟩
        · exact absurd h (by decide)
    · rename_i hk
      split at h
      · rename_i hs
        unfold faultR at h
        split at h
        · rename_i hf
          split at h
          · exact absurd h (by decide)
          · rename_i a ha
            exact .inr ⟨by simpa using hk, hs, ⟨k, r, rfl⟩, folS_num hf, a, ha⟩
        · exact absurd h (by decide)
      · exact absurd h (by decide)
theorem num_int {w : List Nat} {m d : Int} (h : numL w m = some d) (S : Sto) : fInt [.str w] S = .ok (.int d) S := by
  unfold numL at h
  split at h
  · cases h
  · rename_i h1
    simp only [Bool.or_eq_true, not_or, decide_eq_true_eq, Bool.not_eq_true', Bool.not_eq_true] at h1
    obtain ⟨⟨h2, h3⟩, h4⟩ := h1
    have h4 : dgs w = true := by simpa using h4
    split at h
    · cases h
    · split at h
      · simp only [Option.some.injEq] at h
        subst h
        have hh : w.head? ≠ some 45 := by
          cases w with
          | nil => simp
          | cons c cs =>
            have := dgs_all h4 c (by simp)
            simp
            omega
        have hb : bare w = w := by simp [bare, hh]
        refine int_of (by rw [hb]; exact h4) (by rw [hb]; rintro rfl; simp at h2) (by rw [hb]; omega)
      · cases h
theorem fault_ok (k : Nat) {ws : List (List Nat)} (h : okW ws) {S0 : Sto} {st : List Ent} {n : Nat} (ho : OkE n st) :
    run tb P (k + 4) 6 [.ref S0.length, .lst (ws.map .str)] (SX S0 itR [] st) = .ok (.str (faultS (lastS st) ws)) (SX S0 itR [] st) := by
  rcases List.eq_nil_or_concat st with rfl | ⟨pre, e, rfl⟩
  · exact fault_none k h SX_hd
  · rw [List.concat_eq_append] at *
    have := fault_some k h (SX_hd (S0 := S0) (M := []) (g := itR) (st := pre ++ [e])) its_last (SX_row (S0 := S0) (M := []) (g := itR) (pre := pre) (e := e) (post := [])) (ho.r e (by simp)).2.1
    rw [this]
    simp [lastS]
theorem OkE.push {n : Nat} {st : List Ent} (ho : OkE n st) {d : Int} : OkE (n + 1) (st ++ [⟨d, (n : Int) + 1, []⟩]) := by
  refine ⟨by have := ho.l; simp; omega, fun e he => ?_⟩
  rcases List.mem_append.mp he with he | he
  · have := ho.r e he
    exact ⟨by omega, this.2.1, by omega⟩
  · simp only [List.mem_singleton] at he
    subst he
    exact ⟨by simp, fun p hp => by simp at hp, by simp; omega⟩
theorem OkE.grow {n : Nat} {pre : List Ent} {e : Ent} (ho : OkE n (pre ++ [e])) {d : Int} {a : An} (ha : okA a) : OkE (n + 1) (pre ++ [{ e with r := e.r ++ [(d, a)] }]) := by
  refine ⟨by have := ho.l; simp at this ⊢; omega, fun e2 he => ?_⟩
  rcases List.mem_append.mp he with he | he
  · have := ho.r e2 (List.mem_append_left _ he)
    exact ⟨by omega, this.2.1, by omega⟩
  · simp only [List.mem_singleton] at he
    subst he
    have := ho.r e (by simp)
    refine ⟨by simp; omega, fun p hp => ?_, by dsimp only; omega⟩
    rcases List.mem_append.mp hp with hp | hp
    · exact this.2.1 p hp
    · rw [List.mem_singleton.mp hp]
      exact ha
theorem OkE.up {n m : Nat} {st : List Ent} (ho : OkE n st) (h : n ≤ m) : OkE m st := ⟨by have := ho.l; omega, fun e he => by have := ho.r e he; exact ⟨by omega, this.2.1, by omega⟩⟩
theorem st_not0 {ws : List (List Nat)} (h : isSt ws = true) : ∃ b c r, ws = [] :: b :: c :: r := by
  match ws, h with
  | a :: b :: c :: d :: r, h =>
    simp only [isSt, Bool.and_eq_true, beq_iff_eq] at h
    exact ⟨b, c, d :: r, by rw [h.1.1]⟩
def rbody : Sms := match a_read_map with
  | .cons _ (.cons _ (.cons (.forr _ _ b) _)) => b
  | _ => .nil
theorem map_step (k : Nat) {S0 : Sto} {st : List Ent} {n : Nat} {ln : List Nat} (ho : OkE n st) (hn : n ≤ 900000) (hs : okS ln = true) (hl : ln.length ≤ 1000000) (a0 a1 x5 x6 x7 x8 x9 : Option DL.D) :
    (∀ p f, stepS st n (splC 32 ln) = .no p f → semSs rbody { P with fn := run tb P (k + 4) } [a0, a1, some (.ref S0.length), some (.int (n : Nat)), some (.str ln), x5, x6, x7, x8, x9] (SX S0 itR [] st) = .err 0 [.str f, .int p] (SX S0 itR [] st)) ∧
    (∀ st2, stepS st n (splC 32 ln) = .go st2 → OkE (n + 1) st2 ∧ ∃ y5 y6, semSs rbody { P with fn := run tb P (k + 4) } [a0, a1, some (.ref S0.length), some (.int (n : Nat)), some (.str ln), x5, x6, x7, x8, x9] (SX S0 itR [] st) = .nx [a0, a1, some (.ref S0.length), some (.int (n : Nat)), some (.str ln), y5, y6, x7, x8, x9] (SX S0 itR [] st2)) := by
  have h := splC_okW (c := 32) hs hl
  have e0 := fSplit_ok (c := 32) (by decide) hl (S := SX S0 itR [] st)
  generalize splC 32 ln = ws at *
  have ef := fault_ok k h (S0 := S0) ho
  have fo := faultS_ok (lastS st) ws
  have e5 := end_ok (k + 3) (S0 := S0) (M := []) ho hn
  have start : ∀ x, semSs (match rbody with
      | .cons _ (.cons _ b) => b
      | _ => .nil) { P with fn := run tb P (k + 4) } [a0, a1, some (.ref S0.length), some (.int (n : Nat)), some (.str ln), some (.lst (ws.map .str)), some (.str (faultS (lastS st) ws)), x7, x8, x9] (SX S0 itR [] st) = x →
      semSs rbody { P with fn := run tb P (k + 4) } [a0, a1, some (.ref S0.length), some (.int (n : Nat)), some (.str ln), x5, x6, x7, x8, x9] (SX S0 itR [] st) = x := fun x hx => by
    refine ss_nx (s_asg0 (.lst (ws.map .str)) (by simp [semE, semEs, mtF, mtT, e0]) rfl) ?_
    exact ss_nx (s_asg0 (.str (faultS (lastS st) ws)) (by simp [semE, semEs, ef]) rfl) hx
  generalize hf : faultS (lastS st) ws = f at *
  by_cases hf0 : f = []
  · subst hf0
    have ne0 : fNe (.str []) (.str []) (SX S0 itR [] st) = .ok (.bl false) (SX S0 itR [] st) := by rw [fNe_str (by decide) (by decide)]; rfl
    rcases fault_nil hf with ⟨hk, d, hd⟩ | ⟨hk, hst, ⟨k1, r1, hlast⟩, ⟨d, hd⟩, a, ha⟩
    · obtain ⟨b, rfl⟩ := kn_two hk
      have hd : numL b 19999 = some d := hd
      have eq1 : ∀ S, fEq (.str knownW) (.str [107, 110, 111, 119, 110]) S = .ok (.bl true) S := fun S => by rw [fEq_str (by decide) (by decide)]; rfl
      have c3 : semB { P with fn := run tb P (k + 4) } (.or (.cons (.cmp .ne (.var 6) (.str [])) (.cons (.cmp .eq (.ix (.var 5) (.int 0)) (.str [107, 110, 111, 119, 110])) .nil))) [a0, a1, some (.ref S0.length), some (.int (n : Nat)), some (.str ln), some (.lst ([knownW, b].map .str)), some (.str []), x7, x8, x9] (SX S0 itR [] st) = .ok true (SX S0 itR [] st) := by
        simp [semB, semAny, semE, coF, ne0, eq1]
      by_cases hsm : sameE st = true
      · rw [if_pos hsm] at e5
        have es : stepS st n [knownW, b] = .no (placeE st) same := by unfold stepS; rw [if_pos ⟨.inr hk, hsm⟩]
        rw [es]
        refine ⟨fun p f q => ?_, fun st2 q => by cases q⟩
        cases q
        refine start _ (ss_err (s_ifT c3 (ss_err (s_exprE ?_))))
        simp [semE, semEs, e5]
      · rw [if_neg hsm] at e5
        have es : stepS st n [knownW, b] = .go (st ++ [⟨d, (n : Int) + 1, []⟩]) := by
          unfold stepS
          rw [if_neg (fun q => hsm q.2), if_neg (by rw [hf]; simp), if_pos hk]
          simp [dayN, hd]
        rw [es]
        refine ⟨fun p f q => (by cases q), fun st2 q => ?_⟩
        cases q
        refine ⟨ho.push, some (.lst ([knownW, b].map .str)), some (.str []), start _ ?_⟩
        refine ss_nx (s_ifT c3 (ss_nx (s_expr (d := .non) (S2 := SX S0 itR [] st) (by simp [semE, semEs, e5])) ss0)) ?_
        refine ss_nx (s_if1 (by simp [semB, semE, coF, ne0])) ?_
        refine ss_nx (s_ifT (by simp [semB, semE, coF, eq1]) (ss_nx (s_expr (d := .non) (S2 := SX S0 itR [] (st ++ [⟨d, (n : Int) + 1, []⟩])) ?_) ss0)) ss0
        have hi := num_int hd (SX S0 itR [] st)
        have hh := SX_hd (S0 := S0) (M := []) (g := itR) (st := st)
        have hh2 : (SX S0 itR [] st ++ [Ob.lst []])[S0.length]? = some (.lst (its itR (S0.length + 1 + ([] : Sto).length) st)) := by
          rw [List.getElem?_append_left (by rw [SX_len]; omega)]
          exact hh
        have hlen : (its itR (S0.length + 1 + ([] : Sto).length) st).length < 1000000 := by
          have := ho.l
          rw [its_len]
          omega
        have ap : fAppend (.ref S0.length) [.tup [.int d, .int ((n : Int) + 1), .ref (SX S0 itR [] st).length]] (SX S0 itR [] st ++ [Ob.lst []]) = .ok .non (SX S0 itR [] (st ++ [⟨d, (n : Int) + 1, []⟩])) := by
          rw [fAppend_ref, hh2]
          dsimp only
          rw [if_pos hlen, ← SX_push]
          rfl
        have mo : mtOk .append (.ref S0.length) (SX S0 itR [] st) = true := by rw [mtOk_ref, hh]; rfl
        simp [semE, semEs, mo, hi, boF, biF, mtF, ap]
    · obtain ⟨b, c, w, rfl⟩ := st_not0 hst
      have hd : numL c 19999 = some d := hd
      have ha : ansS w = some a := ha
      have eq1 : ∀ S, fEq (.str []) (.str [107, 110, 111, 119, 110]) S = .ok (.bl false) S := fun S => by rw [fEq_str (by decide) (by decide)]; rfl
      rcases List.eq_nil_or_concat st with rfl | ⟨pre, e, rfl⟩
      · simp [lastS] at hlast
      rw [List.concat_eq_append] at *
      have es : stepS (pre ++ [e]) n ([] :: b :: c :: w) = .go (pre ++ [{ e with r := e.r ++ [(d, a)] }]) := by
        unfold stepS
        rw [if_neg (by rw [hf, hk]; simp), if_neg (by rw [hf]; simp), if_neg (by rw [hk]; simp)]
        simp [growE, dayN, hd, ansV, ha]
      rw [es]
      refine ⟨fun p f q => (by cases q), fun st2 q => ?_⟩
      cases q
      refine ⟨ho.grow (an_okS ha), some (.lst (([] :: b :: c :: w).map .str)), some (.str []), start _ ?_⟩
      refine ss_nx (s_if1 (by simp [semB, semAny, semE, coF, ne0, eq1])) ?_
      refine ss_nx (s_if1 (by simp [semB, semE, coF, ne0])) ?_
      refine ss_nx (s_ifF (by simp [semB, semE, coF, eq1]) (ss_nx (s_expr (d := .non) (S2 := SX S0 itR [] (pre ++ [{ e with r := e.r ++ [(d, a)] }])) ?_) ss0)) ss0
      have hw : okW w := fun x hx => h x (by simp [hx])
      have hi := num_int hd (SX S0 itR [] (pre ++ [e]))
      have hh := SX_hd (S0 := S0) (M := []) (g := itR) (st := pre ++ [e])
      have hlast2 : (its itR (S0.length + 1 + ([] : Sto).length) (pre ++ [e])).getLast? = _ := its_last
      have hr := SX_row (S0 := S0) (M := []) (g := itR) (pre := pre) (e := e) (post := [])
      have an := answer_ok (k + 1) hw (SX S0 itR [] (pre ++ [e]))
      rw [ha] at an
      have e2 : fSl (.lst (.str [] :: .str b :: .str c :: w.map .str)) (some 3) none (SX S0 itR [] (pre ++ [e])) = .ok (.lst (w.map .str)) (SX S0 itR [] (pre ++ [e])) := slL_from (ds := .str [] :: .str b :: .str c :: w.map .str) 3
      have hlen : (rowI e.r).length < 1000000 := by
        have := (ho.r e (by simp)).1
        simp [rowI]
        omega
      have ap : fAppend (.ref (S0.length + 1 + ([] : Sto).length + pre.length)) [.tup [.int d, a.d]] (SX S0 itR [] (pre ++ [e])) = .ok .non (SX S0 itR [] (pre ++ [{ e with r := e.r ++ [(d, a)] }])) := by
        rw [fAppend_ref, hr]
        dsimp only
        rw [if_pos hlen, ← SX_add (e := e) (r := e.r ++ [(d, a)]) (.inl rfl), show rowI (e.r ++ [(d, a)]) = rowI e.r ++ [.tup [.int d, a.d]] by simp [rowI]]
      have mo : mtOk .append (.ref (S0.length + 1 + ([] : Sto).length + pre.length)) (SX S0 itR [] (pre ++ [e])) = true := by rw [mtOk_ref, hr]; rfl
      have g1 : semE { P with fn := run tb P (k + 4) } (.ix (.ix (.var 2) (.neg (.int 1))) (.int 2)) [a0, a1, some (.ref S0.length), some (.int (n : Nat)), some (.str ln), some (.lst (([] :: b :: c :: w).map .str)), some (.str []), x7, x8, x9] (SX S0 itR [] (pre ++ [e])) = .ok (.ref (S0.length + 1 + ([] : Sto).length + pre.length)) (SX S0 itR [] (pre ++ [e])) := by
        simp only [semE, List.getElem?_cons_succ, List.getElem?_cons_zero, bind_ok, fNeg_int, fIx_ref, hh, at_last, hlast2, okO_some, itR, fIx_tup, at_2]
      rw [semE]
      dsimp only
      rw [g1]
      simp only [bind_ok, mo, if_true]
      simp [semE, semEs, semO, hi, biF, mtF, e2, an, optA]
      simpa using ap
  · have ne0 : fNe (.str f) (.str []) (SX S0 itR [] st) = .ok (.bl true) (SX S0 itR [] st) := by
      rw [fNe_str fo.1 (by decide)]
      simp [hf0]
    have c3 : semB { P with fn := run tb P (k + 4) } (.or (.cons (.cmp .ne (.var 6) (.str [])) (.cons (.cmp .eq (.ix (.var 5) (.int 0)) (.str [107, 110, 111, 119, 110])) .nil))) [a0, a1, some (.ref S0.length), some (.int (n : Nat)), some (.str ln), some (.lst (ws.map .str)), some (.str f), x7, x8, x9] (SX S0 itR [] st) = .ok true (SX S0 itR [] st) := by
      simp [semB, semAny, semE, coF, ne0]
    by_cases hsm : sameE st = true
    · rw [if_pos hsm] at e5
      have es : stepS st n ws = .no (placeE st) same := by unfold stepS; rw [if_pos ⟨.inl (by rw [hf]; exact hf0), hsm⟩]
      rw [es]
      refine ⟨fun p f q => ?_, fun st2 q => by cases q⟩
      cases q
      refine start _ (ss_err (s_ifT c3 (ss_err (s_exprE ?_))))
      simp [semE, semEs, e5]
    · rw [if_neg hsm] at e5
      have es : stepS st n ws = .no ((n : Int) + 1) f := by
        unfold stepS
        rw [if_neg (fun q => hsm q.2), if_pos (by rw [hf]; exact hf0), hf]
      rw [es]
      refine ⟨fun p f q => ?_, fun st2 q => by cases q⟩
      cases q
      refine start _ ?_
      refine ss_nx (s_ifT c3 (ss_nx (s_expr (d := .non) (S2 := SX S0 itR [] st) (by simp [semE, semEs, e5])) ss0)) ?_
      refine ss_err (s_ifT (by simp [semB, semE, coF, ne0]) (ss_err (s_rais (ds := [.int ((n : Int) + 1), .str f]) ?_ (mk_err (by omega) fo.2))))
      simp [semE, semEs, boF]
end K25
set_option Elab.async false
set_option linter.all false
set_option maxRecDepth 100000
set_option maxHeartbeats 4000000
/-! M20: read_map. -/
namespace K25
open PySem L2 DL
theorem s_for {t : Tg} {it : DL.Itr} {b : Sms} {P : Par} {r : DL.Loc} {S S2 : Sto} {w : List DL.D × Gd} {x : Rs} (h : semI P it r S = .ok w S2) (h2 : forG w.2 t (semSs b P) w.1 r S2 = x) : semS (.forr t it b) P r S = x := by
  have e : semS (.forr t it b) P r S = (semI P it r S).to fun w S1 => forG w.2 t (semSs b P) w.1 r S1 := by simp only [semS]
  rw [e, h, to_ok, h2]
theorem cut_init {α : Type} (w : List α) : cut w none (some (-1)) = w.dropLast := by
  unfold cut
  rw [HT.sIx_none]
  show (w.drop 0).take ((if (-1 : Int) < 0 then ((-1 : Int) + (w.length : Int)).toNat else min (-1 : Int).toNat w.length) - 0) = _
  rw [if_pos (by decide), List.drop_zero, List.dropLast_eq_take]
  congr 1
  omega
theorem slL_init {S : Sto} {ds : List DL.D} : fSl (.lst ds) none (some (-1)) S = .ok (.lst ds.dropLast) S := by
  unfold fSl
  simp only [vw_lst, cut_init]
theorem its_mem {g : Gi} : ∀ {b : Nat} {st : List Ent} {d : DL.D}, d ∈ its g b st → ∃ pre e post, st = pre ++ e :: post ∧ d = g (b + pre.length) e
  | b, [], d, h => by simp [its] at h
  | b, e :: st, d, h => by
    rcases List.mem_cons.mp h with rfl | h
    · exact ⟨[], e, st, rfl, rfl⟩
    · obtain ⟨pre, e2, post, rfl, rfl⟩ := its_mem h
      exact ⟨e :: pre, e2, post, rfl, by simp only [List.length_cons]; congr 1; omega⟩
theorem its_fm {g : Gi} {f : DL.D → Option DL.D} {h : Ent → DL.D} : ∀ {b : Nat} {st : List Ent}, (∀ pre e post, st = pre ++ e :: post → f (g (b + pre.length) e) = some (h e)) → (its g b st).filterMap f = st.map h
  | b, [], _ => rfl
  | b, e :: st, q => by
    have h1 := q [] e st rfl
    simp only [List.length_nil, Nat.add_zero] at h1
    rw [its, List.filterMap_cons, h1, List.map_cons, its_fm fun pre e2 post z => by
      have := q (e :: pre) e2 post (by rw [z]; rfl)
      rw [← this]
      simp only [List.length_cons]
      congr 2
      omega]
def rowD (e : Ent) : DL.D := .tup [.int e.k, .tup (rowI e.r)]
def mapD (st : List Ent) : DL.D := .tup (st.map rowD)
theorem rowI_nr (r : Row) : nrs 0 (rowI r) = true := by
  rw [nrs_all]
  intro d hd
  obtain ⟨p, _, rfl⟩ := List.mem_map.mp hd
  cases hq : p.2 <;> simp [nr, nrs, An.d, hq]
theorem mapD_nr (st : List Ent) : nr 0 (mapD st) = true := by
  simp only [mapD, nr]
  rw [nrs_all]
  intro d hd
  obtain ⟨e, _, rfl⟩ := List.mem_map.mp hd
  simp [rowD, nr, nrs, rowI_nr]
theorem enum_cons {n : Nat} {d : DL.D} {ds : List DL.D} : enumD (n : Int) (d :: ds) = .tup [.int (n : Int), d] :: enumD ((n + 1 : Nat) : Int) ds := by
  simp only [enumD]
  norm_cast
theorem map_loop (k : Nat) {S0 : Sto} (a0 a1 x7 x8 x9 : Option DL.D) : ∀ (ls : List (List Nat)) (n : Nat) (st : List Ent) (x3 x4 x5 x6 : Option DL.D), OkE n st → n + ls.length ≤ 900000 → (∀ l ∈ ls, okS l = true ∧ l.length ≤ 1000000) →
    (∀ p f, goS (ls.map (splC 32)) n st = .no p f → ∃ T, forG none (.tup (.cons (.name 3) (.cons (.name 4) .nil))) (semSs rbody { P with fn := run tb P (k + 4) }) (enumD (n : Int) (ls.map .str)) [a0, a1, some (.ref S0.length), x3, x4, x5, x6, x7, x8, x9] (SX S0 itR [] st) = .err 0 [.str f, .int p] (S0 ++ T)) ∧
    (∀ st2, goS (ls.map (splC 32)) n st = .go st2 → OkE (n + ls.length) st2 ∧ ∃ y3 y4 y5 y6, forG none (.tup (.cons (.name 3) (.cons (.name 4) .nil))) (semSs rbody { P with fn := run tb P (k + 4) }) (enumD (n : Int) (ls.map .str)) [a0, a1, some (.ref S0.length), x3, x4, x5, x6, x7, x8, x9] (SX S0 itR [] st) = .nx [a0, a1, some (.ref S0.length), y3, y4, y5, y6, x7, x8, x9] (SX S0 itR [] st2))
  | [], n, st, x3, x4, x5, x6, ho, hn, hl => by
    refine ⟨fun p f q => (by cases q), fun st2 q => ?_⟩
    cases q
    exact ⟨by simpa using ho, x3, x4, x5, x6, by simp [enumD]⟩
  | l :: ls, n, st, x3, x4, x5, x6, ho, hn, hl => by
    have h1 := hl l (by simp)
    have hn2 : n + 1 + ls.length ≤ 900000 := by simp at hn; omega
    obtain ⟨s1, s2⟩ := map_step k (S0 := S0) (ln := l) ho (by omega) h1.1 h1.2 a0 a1 x5 x6 x7 x8 x9
    have hu : ∀ bb, forG none (.tup (.cons (.name 3) (.cons (.name 4) .nil))) bb (enumD (n : Int) ((l :: ls).map .str)) [a0, a1, some (.ref S0.length), x3, x4, x5, x6, x7, x8, x9] (SX S0 itR [] st) =
        (bb [a0, a1, some (.ref S0.length), some (.int (n : Nat)), some (.str l), x5, x6, x7, x8, x9] (SX S0 itR [] st)).turn (forG none (.tup (.cons (.name 3) (.cons (.name 4) .nil))) bb (enumD ((n + 1 : Nat) : Int) (ls.map .str))) := fun bb => by
      rw [List.map_cons, enum_cons, forG_cons]
      rfl
    rw [List.map_cons, goS]
    cases hq : stepS st n (splC 32 l) with
    | no p f =>
      refine ⟨fun p2 f2 q => ?_, fun st2 q => by cases q⟩
      cases q
      obtain ⟨T, hT⟩ := SX_pre (S0 := S0) (M := []) (g := itR) (st := st) (st2 := st)
      refine ⟨T, ?_⟩
      rw [hu, s1 p f hq, ← hT]
      rfl
    | go st1 =>
      obtain ⟨ho1, y5, y6, e1⟩ := s2 st1 hq
      obtain ⟨i1, i2⟩ := map_loop k (S0 := S0) a0 a1 x7 x8 x9 ls (n + 1) st1 (some (.int (n : Nat))) (some (.str l)) y5 y6 ho1 hn2 (fun l2 h2 => hl l2 (List.mem_cons_of_mem _ h2))
      rw [hu, e1]
      refine ⟨i1, fun st2 q => ?_⟩
      obtain ⟨h2, y⟩ := i2 st2 q
      exact ⟨by rw [List.length_cons, show n + (ls.length + 1) = n + 1 + ls.length by omega]; exact h2, y⟩
theorem comp_map {Q : Par} {S0 : Sto} {st : List Ent} (hl : st.length ≤ 1000000) (a0 a1 x3 x4 x5 x6 x7 x8 x9 : Option DL.D) :
    semE Q (.comp false [7, 8, 9] (.tup (.cons (.var 7) (.cons (.blt .tuple (.cons (.var 9) .nil)) .nil))) (.tup (.cons (.name 7) (.cons (.name 8) (.cons (.name 9) .nil)))) (.plain (.var 2)) .none) [a0, a1, some (.ref S0.length), x3, x4, x5, x6, x7, x8, x9] (SX S0 itR [] st) = .ok (.lst (st.map rowD)) (SX S0 itR [] st) := by
  have hh := SX_hd (S0 := S0) (M := []) (g := itR) (st := st)
  have hI : semI Q (.plain (.var 2)) [a0, a1, some (.ref S0.length), x3, x4, x5, x6, x7, x8, x9] (SX S0 itR [] st) = .ok (its itR (S0.length + 1 + ([] : Sto).length) st, some (S0.length, its itR (S0.length + 1 + ([] : Sto).length) st)) (SX S0 itR [] st) := by
    simp only [semI, semE, List.getElem?_cons_succ, List.getElem?_cons_zero, bind_ok, walk, hh]
  have eC : ∀ (g' : DL.D → Sto → Re (Option DL.D)) (f : DL.D → Option DL.D), (∀ d ∈ its itR (S0.length + 1 + ([] : Sto).length) st, g' d (SX S0 itR [] st) = .ok (f d) (SX S0 itR [] st)) → compG (some (S0.length, its itR (S0.length + 1 + ([] : Sto).length) st)) g' (its itR (S0.length + 1 + ([] : Sto).length) st) (SX S0 itR [] st) = .ok ((its itR (S0.length + 1 + ([] : Sto).length) st).filterMap f) (SX S0 itR [] st) := fun g' f hg => compG_map (gd := some _) hh hg
  simp only [semE, hI, bind_ok, its_len, hl, if_true]
  rw [eC _ (fun d => match d with
    | .tup [.int a, .int p, .ref j] => match (SX S0 itR [] st)[j]? with
      | some (.lst ds) => some (.tup [.int a, .tup ds])
      | _ => none
    | _ => none)]
  · rw [its_fm (h := rowD) fun pre e post z => by
      subst z
      have := SX_row (S0 := S0) (M := []) (g := itR) (pre := pre) (e := e) (post := post)
      simp only [itR, this, rowD]]
    simp [pushD]
  · intro d hd
    obtain ⟨pre, e, post, rfl, rfl⟩ := its_mem hd
    have hr := SX_row (S0 := S0) (M := []) (g := itR) (pre := pre) (e := e) (post := post)
    have ft : fTuple [.ref (S0.length + 1 + ([] : Sto).length + pre.length)] (SX S0 itR [] (pre ++ e :: post)) = .ok (.tup (rowI e.r)) (SX S0 itR [] (pre ++ e :: post)) := by
      unfold fTuple
      dsimp only
      rw [vw_ref hr]
    simp only [itR, hr, asg, asgs, wipeL, List.set_cons_succ, List.set_cons_zero, Option.bind_some, semC, bind_ok, if_true, semEs, semE, List.getElem?_cons_succ, List.getElem?_cons_zero, biF, ft]
    rfl
end K25
set_option Elab.async false
set_option linter.all false
set_option maxRecDepth 100000
set_option maxHeartbeats 4000000
/-! M21: read_map, whole. -/
namespace K25
open PySem L2 DL
theorem stepS_no {st : List Ent} {n : Nat} {ws : List (List Nat)} {p : Int} {f : List Nat} (h : stepS st n ws = .no p f) : okS f = true ∧ f.length ≤ 1000 := by
  unfold stepS at h
  split at h
  · cases h
    decide
  · split at h
    · cases h
      exact faultS_ok _ _
    · split at h <;> cases h
theorem goS_no {p : Int} {f : List Nat} : ∀ {ls : List (List (List Nat))} {n : Nat} {st : List Ent}, goS ls n st = .no p f → okS f = true ∧ f.length ≤ 1000
  | [], n, st, h => by cases h
  | l :: ls, n, st, h => by
    rw [goS] at h
    split at h
    · exact goS_no h
    · rename_i h2
      cases h
      exact stepS_no h2
theorem readS_no {x : List Nat} {p : Int} {f : List Nat} (h : readS x = .no p f) : okS f = true ∧ f.length ≤ 1000 := by
  unfold readS at h
  split at h
  · unfold endS at h
    split at h
    · cases h
      decide
    · split at h <;> cases h
      decide
  · rename_i h2
    cases h
    exact goS_no h2
theorem all_last {all : List (List Nat)} (h : all ≠ []) : all.getLast? = some (all.getLast?.getD []) := by
  rcases List.eq_nil_or_concat all with rfl | ⟨l, b, rfl⟩
  · exact absurd rfl h
  · simp
/-- the text does not end as it should -/
def badEnd (last : List Nat) (st : List Ent) : Bool := decide (last ≠ []) || decide (st.length = 0) || decide (st.getLast?.map (fun e => e.r) = some [])
theorem endS_eq {last : List Nat} {st : List Ent} : endS last st = if sameE st = true then .no (placeE st) same else if badEnd last st = true then .no 0 ends else .go st := by
  unfold endS badEnd
  simp only [Bool.or_eq_true, decide_eq_true_eq, List.length_eq_zero_iff, or_assoc]
theorem map_end {Q : Par} {S0 : Sto} {st : List Ent} {all : List (List Nat)} {last : List Nat} (hl : all.getLast? = some last) (ho : okS last = true) (a0 x3 x4 x5 x6 x7 x8 x9 : Option DL.D) :
    semB Q (.or (.cons (.cmp .ne (.ix (.var 1) (.neg (.int 1))) (.str [])) (.cons (.not (.var 2)) (.cons (.not (.ix (.ix (.var 2) (.neg (.int 1))) (.int 2))) .nil)))) [a0, some (.lst (all.map .str)), some (.ref S0.length), x3, x4, x5, x6, x7, x8, x9] (SX S0 itR [] st) = .ok (badEnd last st) (SX S0 itR [] st) := by
  have e1 : fIx (.lst (all.map .str)) (.int (-1)) (SX S0 itR [] st) = .ok (.str last) (SX S0 itR [] st) := by
    rw [fIx_lst, at_last, List.getLast?_map, hl]
    rfl
  have e2 : fNe (.str last) (.str []) (SX S0 itR [] st) = .ok (.bl (!(last == []))) (SX S0 itR [] st) := fNe_str ho (by decide)
  have hh := SX_hd (S0 := S0) (M := []) (g := itR) (st := st)
  have ht := truD_ref hh
  by_cases hl0 : last = []
  · subst hl0
    rcases List.eq_nil_or_concat st with rfl | ⟨pre, e, rfl⟩
    · have e3 : (its itR (S0.length + 1 + ([] : Sto).length) []).isEmpty = true := rfl
      rw [e3] at ht
      simp [semB, semAny, semE, coF, e1, e2, ht, badEnd]
    · rw [List.concat_eq_append] at *
      have hr := SX_row (S0 := S0) (M := []) (g := itR) (pre := pre) (e := e) (post := [])
      have hrt := truD_ref hr
      have e3 : (its itR (S0.length + 1 + ([] : Sto).length) (pre ++ [e])).isEmpty = false := by rw [its_snoc]; simp
      rw [e3] at ht
      have g1 : fIx (.ref S0.length) (.int (-1)) (SX S0 itR [] (pre ++ [e])) = .ok (itR (S0.length + 1 + ([] : Sto).length + pre.length) e) (SX S0 itR [] (pre ++ [e])) := by rw [fIx_ref, hh]; simp only [at_last, its_last, okO_some]
      have e4 : (!(rowI e.r).isEmpty) = !decide (e.r = []) := by cases e.r <;> simp [rowI]
      rw [e4] at hrt
      have e5 : badEnd [] (pre ++ [e]) = decide (e.r = []) := by simp [badEnd]
      rw [e5]
      simp only [semB, semAny, semE, coF, List.getElem?_cons_succ, List.getElem?_cons_zero, bind_ok, fNeg_int, e1, e2, toB_bl, ht, g1, itR, fIx_tup, at_2, okO_some, hrt]
      cases decide (e.r = []) <;> rfl
  · have e5 : badEnd last st = true := by simp [badEnd, hl0]
    rw [e5]
    have e6 : (last == []) = false := by simpa using hl0
    rw [e6] at e2
    simp only [semB, semAny, semE, coF, List.getElem?_cons_succ, List.getElem?_cons_zero, bind_ok, fNeg_int, e1, e2, toB_bl]
    rfl
theorem map_ok (k : Nat) {x : List Nat} (hl : x.length ≤ 800000) (hs : okS x = true) (S0 : Sto) :
    (∀ p f, readS x = .no p f → run tb P (k + 5) 4 [.str x] S0 = .err 0 [.str f, .int p] S0) ∧
    (∀ st, readS x = .go st → run tb P (k + 5) 4 [.str x] S0 = .ok (mapD st) S0 ∧ OkE 900000 st ∧ st ≠ []) := by
  have e0 := fSplit_ok (c := 10) (by decide) (show x.length ≤ 1000000 by omega) (S := S0)
  have hall := splC_ne 10 x
  have hlen := splC_len (c := 10) (x := x)
  have hw : ∀ l ∈ splC 10 x, okS l = true ∧ l.length ≤ 1000000 := splC_okW hs (by omega)
  unfold readS
  generalize splC 10 x = all at *
  have hlast := all_last hall
  generalize all.getLast?.getD [] = last at *
  have hlo : okS last = true := (hw last (List.mem_of_getLast? hlast)).1
  have hI : semI { P with fn := run tb P (k + 4) } (.enum (.sl (.var 1) .none (.some (.neg (.int 1))))) [some (.str x), some (.lst (all.map .str)), some (.ref S0.length), none, none, none, none, none, none, none] (SX S0 itR [] []) = .ok (enumD ((0 : Nat) : Int) (all.dropLast.map .str), none) (SX S0 itR [] []) := by
    simp only [semI, semE, semO, List.getElem?_cons_succ, List.getElem?_cons_zero, bind_ok, fNeg_int, slL_init, List.map_dropLast]
    rfl
  obtain ⟨l1, l2⟩ := map_loop k (S0 := S0) (some (.str x)) (some (.lst (all.map .str))) none none none all.dropLast 0 [] none none none none ⟨by simp, fun e he => by simp at he⟩ (by simp; omega) (fun l hl => hw l (List.dropLast_subset _ hl))
  have start : ∀ z, semSs (match a_read_map with
      | .cons _ (.cons _ b) => b
      | _ => .nil) { P with fn := run tb P (k + 4) } [some (.str x), some (.lst (all.map .str)), some (.ref S0.length), none, none, none, none, none, none, none] (SX S0 itR [] []) = z →
      semSs d_4.ast { P with fn := run tb P (k + 4) } (startL d_4.N.length [.str x]) S0 = z := fun z hz => by
    refine ss_nx (s_asg0 (.lst (all.map .str)) (by simp [startL, d_4, semE, semEs, mtF, mtT, e0]) rfl) ?_
    exact ss_nx (s_asg (d := .ref S0.length) (S2 := SX S0 itR [] []) (by simp [semE, semEs]; rfl) rfl) hz
  cases hg : goS (all.dropLast.map (splC 32)) 0 [] with
  | no p f =>
    refine ⟨fun p2 f2 q => ?_, fun st q => by cases q⟩
    cases q
    obtain ⟨T, e1⟩ := l1 p f hg
    exact run_err (d := d_4) rfl rfl (start _ (ss_err (s_for hI e1))) (fin_err (by simp [nrs, nr]))
  | go st =>
    obtain ⟨ho, y3, y4, y5, y6, e1⟩ := l2 st hg
    have ho := ho.up (show 0 + all.dropLast.length ≤ 900000 by simp; omega)
    have e5 := end_ok (k + 3) (S0 := S0) (M := []) ho (Nat.le_refl _)
    have eE := map_end (Q := { P with fn := run tb P (k + 4) }) (S0 := S0) (st := st) hlast hlo (some (.str x)) y3 y4 y5 y6 none none none
    dsimp only
    rw [endS_eq]
    obtain ⟨T, hT⟩ := SX_pre (S0 := S0) (M := []) (g := itR) (st := st) (st2 := st)
    by_cases hsm : sameE st = true
    · rw [if_pos hsm] at e5 ⊢
      refine ⟨fun p2 f2 q => ?_, fun st q => by cases q⟩
      cases q
      refine run_err (d := d_4) rfl rfl (start _ (ss_nx (s_for hI e1) (ss_err (s_exprE (S2 := SX S0 itR [] st) ?_)))) (by rw [hT]; exact fin_err (by simp [nrs, nr]))
      simp [semE, semEs, e5]
    · rw [if_neg hsm] at e5 ⊢
      have st5 : semS (.expr (.call 5 (.cons (.var 2) .nil))) { P with fn := run tb P (k + 4) } [some (.str x), some (.lst (all.map .str)), some (.ref S0.length), y3, y4, y5, y6, none, none, none] (SX S0 itR [] st) = .nx _ (SX S0 itR [] st) := s_expr (d := .non) (by simp [semE, semEs, e5])
      by_cases hb : badEnd last st = true
      · rw [if_pos hb]
        rw [hb] at eE
        have mkE : P.mke 0 [.int 0, .str ends] = some [.str ends, .int 0] := mk_err (by decide) (by decide)
        refine ⟨fun p2 f2 q => ?_, fun st q => by cases q⟩
        cases q
        refine run_err (d := d_4) rfl rfl (start _ (ss_nx (s_for hI e1) (ss_nx st5 (ss_err (s_ifT eE (ss_err (s_rais (ds := [.int 0, .str ends]) (S2 := SX S0 itR [] st) (by simp [semE, semEs, ends]) mkE))))))) (by rw [hT]; exact fin_err (by simp [nrs, nr]))
      · rw [if_neg hb]
        have hb2 : badEnd last st = false := by simpa using hb
        rw [hb2] at eE
        refine ⟨fun p2 f2 q => (by cases q), fun st2 q => ?_⟩
        cases q
        refine ⟨?_, ho, ?_⟩
        · have hc := comp_map (Q := { P with fn := run tb P (k + 4) }) (S0 := S0) (st := st) (by have := ho.l; omega) (some (.str x)) (some (.lst (all.map .str))) y3 y4 y5 y6 none none none
          refine run_of (d := d_4) (x := .ret (mapD st) (SX S0 itR [] st)) rfl rfl (start _ (ss_nx (s_for hI e1) (ss_nx st5 (ss_nx (s_if1 eE) (ss_ret (s_ret0 ?_)))))) (by rw [hT]; exact fin_plT (mapD_nr st))
          rw [semE]
          simp only [semEs]
          rw [hc]
          rfl
        · rintro rfl
          simp [badEnd] at hb2
end K25
set_option Elab.async false
set_option linter.all false
set_option maxRecDepth 100000
set_option maxHeartbeats 4000000
/-! M22: the law's own reader, one line. -/
namespace K25
open PySem L2 DL
theorem dv_ref {S : Sto} {j n : Nat} {ds : List DL.D} (h : S[j]? = some (.lst ds)) : dv (n + 1) S (.ref j) = .lst (ds.map (dv n S)) := by
  show (match S[j]? with
    | some (.lst ds) => DL.D.lst (ds.map (dv n S))
    | _ => .ref j) = _
  rw [h]
theorem its_dv {S0 M : Sto} {n : Nat} {st : List Ent} (ho : OkE n st) : okDs 59 ((its itL (S0.length + 1 + M.length) st).map (dv 8 (SX S0 itL M st))) = true := by
  rw [okDs_all]
  intro d hd
  obtain ⟨d0, h0, rfl⟩ := List.mem_map.mp hd
  obtain ⟨pre, e, post, rfl, rfl⟩ := its_mem h0
  have hr := SX_row (S0 := S0) (M := M) (g := itL) (pre := pre) (e := e) (post := post)
  have hk := row_ok (ho.r e (by simp)).2.1 56
  have h1 : dv 8 (SX S0 itL M (pre ++ e :: post)) (itL (S0.length + 1 + M.length + pre.length) e) = .lst [.int e.k, .lst (rowI e.r)] := by
    have h2 : dv 7 (SX S0 itL M (pre ++ e :: post)) (.ref (S0.length + 1 + M.length + pre.length)) = .lst (rowI e.r) := by
      rw [dv_ref hr (n := 6), row_dv]
    show DL.D.lst [.int e.k, dv 7 (SX S0 itL M (pre ++ e :: post)) (.ref (S0.length + 1 + M.length + pre.length))] = _
    rw [h2]
  rw [h1]
  simp only [okD, okDs, hk, Bool.and_self]
theorem law_line (k : Nat) {ln : List Nat} (hl : ln.length ≤ 1000000) (hs : okS ln = true) {S0 M : Sto} {n : Nat} {st : List Ent} (ho : OkE n st) :
    run tb P (k + 4) 19 [.str ln, .ref S0.length, .str (dueW (lastS st))] (SX S0 itL M st) = .ok (lineR (lastS st) (splC 32 ln)) (SX S0 itL M st) := by
  rcases List.eq_nil_or_concat st with rfl | ⟨pre, e, rfl⟩
  · exact line_none k hl hs SX_hd
  · rw [List.concat_eq_append] at *
    have hd : HeadL (SX S0 itL M (pre ++ [e])) S0.length e.k e.r (its itL (S0.length + 1 + M.length) (pre ++ [e])) (S0.length + 1 + M.length + pre.length) :=
      ⟨SX_hd, its_last, SX_row (post := []), (ho.r e (by simp)).2.1, its_dv ho⟩
    have := line_some k hl hs hd
    have e1 : lastS (pre ++ [e]) = some (e.k, e.r) := by simp [lastS]
    rw [e1]
    exact this
def plL (st : List Ent) : Sto := [.lst (st.map fun e => .int e.p)]
/-- is the last row a row of answers -/
def full (st : List Ent) : Bool := match st.getLast? with
  | some e => decide (e.r ≠ [])
  | none => false
theorem due_full (st : List Ent) (S : Sto) : fEq (.str (dueW (lastS st))) (.str [98, 111, 116, 104]) S = .ok (.bl (full st)) S ∧ fNe (.str (dueW (lastS st))) (.str [98, 111, 116, 104]) S = .ok (.bl (!full st)) S := by
  have h0 : okS knownW = true := by decide
  have h1 : okS stretchW = true := by decide
  have h2 : okS bothW = true := by decide
  unfold lastS full
  cases st.getLast? with
  | none => exact ⟨by show fEq (.str knownW) _ S = _; rw [fEq_str h0 (by decide)]; rfl, by show fNe (.str knownW) _ S = _; rw [fNe_str h0 (by decide)]; rfl⟩
  | some e =>
    obtain ⟨k, p, r⟩ := e
    cases r with
    | nil => exact ⟨by show fEq (.str stretchW) _ S = _; rw [fEq_str h1 (by decide)]; rfl, by show fNe (.str stretchW) _ S = _; rw [fNe_str h1 (by decide)]; rfl⟩
    | cons q r => exact ⟨by show fEq (.str bothW) _ S = _; rw [fEq_str h2 (by decide)]; rfl, by show fNe (.str bothW) _ S = _; rw [fNe_str h2 (by decide)]; rfl⟩
/-- are the last rows the same, the law's way -/
theorem same_two {Q : Par} {S0 M : Sto} {pre : List Ent} {a b : Ent} {n : Nat} (ho : OkE n (pre ++ [a, b])) {r : DL.Loc} (h1 : r[1]? = some (some (.ref S0.length))) :
    semE Q (.ix (.ix (.var 1) (.neg (.int 1))) (.int 1)) r (SX S0 itL M (pre ++ [a, b])) = .ok (.ref (S0.length + 1 + M.length + (pre.length + 1))) (SX S0 itL M (pre ++ [a, b])) ∧
    semE Q (.ix (.ix (.var 1) (.neg (.int 2))) (.int 1)) r (SX S0 itL M (pre ++ [a, b])) = .ok (.ref (S0.length + 1 + M.length + pre.length)) (SX S0 itL M (pre ++ [a, b])) ∧
    fEq (.ref (S0.length + 1 + M.length + (pre.length + 1))) (.ref (S0.length + 1 + M.length + pre.length)) (SX S0 itL M (pre ++ [a, b])) = .ok (.bl (decide (b.r = a.r))) (SX S0 itL M (pre ++ [a, b])) := by
  have ha := ho.r a (by simp)
  have hb := ho.r b (by simp)
  have r1 := SX_row (S0 := S0) (M := M) (g := itL) (pre := pre) (e := a) (post := [b])
  have r2 := SX_row (S0 := S0) (M := M) (g := itL) (pre := pre ++ [a]) (e := b) (post := [])
  rw [List.append_assoc, List.singleton_append, List.length_append, List.length_singleton] at r2
  have h0 := SX_hd (S0 := S0) (M := M) (g := itL) (st := pre ++ [a, b])
  have e : its itL (S0.length + 1 + M.length) (pre ++ [a, b]) = its itL (S0.length + 1 + M.length) pre ++ [.lst [.int a.k, .ref (S0.length + 1 + M.length + pre.length)], .lst [.int b.k, .ref (S0.length + 1 + M.length + (pre.length + 1))]] := by
    rw [its_app]
    simp [its, itL]
    omega
  rw [e] at h0
  have g1 : atI (its itL (S0.length + 1 + M.length) pre ++ [DL.D.lst [.int a.k, .ref (S0.length + 1 + M.length + pre.length)], .lst [.int b.k, .ref (S0.length + 1 + M.length + (pre.length + 1))]]) (-1) = some (.lst [.int b.k, .ref (S0.length + 1 + M.length + (pre.length + 1))]) := by rw [at_last]; simp
  refine ⟨?_, ?_, fEq_rows hb.2.1 ha.2.1 r2 r1⟩
  · simp only [semE, h1, bind_ok, fNeg_int, fIx_ref, h0, g1, okO_some, fIx_lst, at_1, List.getElem?_cons_succ, List.getElem?_cons_zero]
  · simp only [semE, h1, bind_ok, fNeg_int, fIx_ref, h0, at_last2, okO_some, fIx_lst, at_1, List.getElem?_cons_succ, List.getElem?_cons_zero]
theorem len_rows {Q : Par} {S0 M : Sto} {st : List Ent} {r : DL.Loc} (h1 : r[1]? = some (some (.ref S0.length))) : semB Q (.cmp .gt (.blt .len (.cons (.var 1) .nil)) (.int 1)) r (SX S0 itL M st) = .ok (decide (1 < st.length)) (SX S0 itL M st) := by
  have h0 := SX_hd (S0 := S0) (M := M) (g := itL) (st := st)
  simp only [semB, semE, semEs, h1, bind_ok, biF, fLen_ref, h0, its_len, coF, fGt_int, toB_bl]
  congr 1
  simp
  omega
theorem place_last {Q : Par} {S0 : Sto} {st : List Ent} {r : DL.Loc} (h2 : r[2]? = some (some (.ref (S0.length + 1)))) (hne : st ≠ []) : semE Q (.ix (.var 2) (.neg (.int 1))) r (SX S0 itL (plL st) st) = .ok (.int (placeE st)) (SX S0 itL (plL st) st) := by
  rcases List.eq_nil_or_concat st with rfl | ⟨pre, e, rfl⟩
  · exact absurd rfl hne
  · rw [List.concat_eq_append] at *
    have hm := SX_mid (S0 := S0) (g := itL) (st := pre ++ [e]) (o := .lst ((pre ++ [e]).map fun e => .int e.p))
    simp only [semE, h2, bind_ok, fNeg_int, fIx_ref, plL, hm, at_last, List.getLast?_map]
    simp [placeE]
/-- the first test of a line, and the test behind the lines -/
theorem same_line {Q : Par} {S0 M : Sto} {st : List Ent} {n : Nat} (ho : OkE n st) {r : DL.Loc} (h1 : r[1]? = some (some (.ref S0.length))) (h3 : r[3]? = some (some (.str (dueW (lastS st))))) {t : Ex} {g : Bool} (ht : semB Q t r (SX S0 itL M st) = .ok g (SX S0 itL M st)) :
    semB Q (.and (.cons (.cmp .gt (.blt .len (.cons (.var 1) .nil)) (.int 1)) (.cons (.cmp .eq (.var 3) (.str [98, 111, 116, 104])) (.cons t (.cons (.cmp .eq (.ix (.ix (.var 1) (.neg (.int 1))) (.int 1)) (.ix (.ix (.var 1) (.neg (.int 2))) (.int 1))) .nil))))) r (SX S0 itL M st) = .ok (sameE st && g) (SX S0 itL M st) := by
  have hd := (due_full st (SX S0 itL M st)).1
  have c1 := len_rows (Q := Q) (S0 := S0) (M := M) (st := st) h1
  have c2 : semB Q (.cmp .eq (.var 3) (.str [98, 111, 116, 104])) r (SX S0 itL M st) = .ok (full st) (SX S0 itL M st) := by
    simp only [semB, semE, h3, bind_ok, coF, hd, toB_bl]
  rw [semB]
  simp only [semAll]
  rw [c1]
  rcases snoc_cases st with rfl | ⟨e, rfl⟩ | ⟨pre, a, b, rfl⟩
  · rfl
  · rfl
  · have hl : decide (1 < (pre ++ [a, b]).length) = true := by simp
    rw [hl]
    simp only [bind_ok, if_true]
    rw [c2]
    have hf : full (pre ++ [a, b]) = decide (b.r ≠ []) := by simp [full]
    rw [sameE_two, hf]
    cases hb : decide (b.r ≠ []) with
    | false => rfl
    | true =>
      simp only [bind_ok, if_true]
      rw [ht]
      obtain ⟨g1, g2, g3⟩ := same_two (Q := Q) ho h1
      cases g with
      | false => simp
      | true =>
        have c4 : semB Q (.cmp .eq (.ix (.ix (.var 1) (.neg (.int 1))) (.int 1)) (.ix (.ix (.var 1) (.neg (.int 2))) (.int 1))) r (SX S0 itL M (pre ++ [a, b])) = .ok (decide (b.r = a.r)) (SX S0 itL M (pre ++ [a, b])) := by
          rw [semB]
          dsimp only
          rw [g1]
          simp only [bind_ok]
          rw [g2]
          simp only [bind_ok, coF, g3, toB_bl]
        simp only [bind_ok, if_true]
        rw [c4]
        cases decide (b.r = a.r) <;> rfl
end K25
set_option Elab.async false
set_option linter.all false
set_option maxRecDepth 100000
set_option maxHeartbeats 4000000
/-! M23: the law's own reader, a line's step. -/
namespace K25
open PySem L2 DL
def lbody : Sms := match a_law_read_u with
  | .cons _ (.cons _ (.cons _ (.cons (.forr _ _ b) _))) => b
  | _ => .nil
theorem sameE_ne {st : List Ent} (h : sameE st = true) : st ≠ [] := by
  rintro rfl
  exact absurd h (by decide)
theorem law_step (k : Nat) {S0 : Sto} {st : List Ent} {n : Nat} {ln : List Nat} {all : List (List Nat)} (ho : OkE n st) (hn : n ≤ 900000) (hs : okS ln = true) (hl : ln.length ≤ 1000000) (hat : all[n]? = some ln) (a0 x6 x7 x8 : Option DL.D) :
    (∀ p f, stepS st n (splC 32 ln) = .no p f → semSs lbody { P with fn := run tb P (k + 4) } [a0, some (.ref S0.length), some (.ref (S0.length + 1)), some (.str (dueW (lastS st))), some (.lst (all.map .str)), some (.int (n : Nat)), x6, x7, x8] (SX S0 itL (plL st) st) = .ret (.tup [.int p, .str f]) (SX S0 itL (plL st) st)) ∧
    (∀ st2, stepS st n (splC 32 ln) = .go st2 → OkE (n + 1) st2 ∧ ∃ y6, semSs lbody { P with fn := run tb P (k + 4) } [a0, some (.ref S0.length), some (.ref (S0.length + 1)), some (.str (dueW (lastS st))), some (.lst (all.map .str)), some (.int (n : Nat)), x6, x7, x8] (SX S0 itL (plL st) st) = .nx [a0, some (.ref S0.length), some (.ref (S0.length + 1)), some (.str (dueW (lastS st2))), some (.lst (all.map .str)), some (.int (n : Nat)), y6, x7, x8] (SX S0 itL (plL st2) st2)) := by
  have h := splC_okW (c := 32) hs hl
  have el := law_line k hl hs (S0 := S0) (M := plL st) ho
  generalize splC 32 ln = ws at *
  have fo := faultS_ok (lastS st) ws
  have eat : fIx (.lst (all.map .str)) (.int (n : Nat)) (SX S0 itL (plL st) st) = .ok (.str ln) (SX S0 itL (plL st) st) := by
    rw [fIx_lst, at_nat, List.getElem?_map, hat]
    rfl
  have start : ∀ x, semSs (match lbody with
      | .cons _ b => b
      | _ => .nil) { P with fn := run tb P (k + 4) } [a0, some (.ref S0.length), some (.ref (S0.length + 1)), some (.str (dueW (lastS st))), some (.lst (all.map .str)), some (.int (n : Nat)), some (lineR (lastS st) ws), x7, x8] (SX S0 itL (plL st) st) = x →
      semSs lbody { P with fn := run tb P (k + 4) } [a0, some (.ref S0.length), some (.ref (S0.length + 1)), some (.str (dueW (lastS st))), some (.lst (all.map .str)), some (.int (n : Nat)), x6, x7, x8] (SX S0 itL (plL st) st) = x := fun x hx =>
    ss_nx (s_asg0 (lineR (lastS st) ws) (by simp only [semE, semEs, List.getElem?_cons_succ, List.getElem?_cons_zero, bind_ok, eat, el]) rfl) hx
  have pl : ∀ v, sameE st = true → semE { P with fn := run tb P (k + 4) } (.tup (.cons (.ix (.var 2) (.neg (.int 1))) (.cons (.str [115, 97, 109, 101]) .nil))) [a0, some (.ref S0.length), some (.ref (S0.length + 1)), some (.str (dueW (lastS st))), some (.lst (all.map .str)), some (.int (n : Nat)), v, x7, x8] (SX S0 itL (plL st) st) = .ok (.tup [.int (placeE st), .str same]) (SX S0 itL (plL st) st) := fun v hsm => by
    rw [semE]
    simp only [semEs]
    rw [place_last rfl (sameE_ne hsm)]
    simp [semE, same]
  by_cases hf0 : faultS (lastS st) ws = []
  · rcases fault_nil hf0 with ⟨hk, d, hd⟩ | ⟨hk, hst, ⟨k1, r1, hlast⟩, ⟨d, hd⟩, a, ha⟩
    · obtain ⟨b, rfl⟩ := kn_two hk
      have hd : numL b 19999 = some d := hd
      have eL : lineR (lastS st) [knownW, b] = .lst [.str knownW, .int d] := by simp [lineR, hf0, hk, dayN, hd]
      rw [eL] at start
      have nst : ∀ S, fNe (.str knownW) (.str [115, 116, 114, 101, 116, 99, 104]) S = .ok (.bl true) S := fun S => by rw [fNe_str (by decide) (by decide)]; rfl
      have eq1 : ∀ S, fEq (.str knownW) (.str [107, 110, 111, 119, 110]) S = .ok (.bl true) S := fun S => by rw [fEq_str (by decide) (by decide)]; rfl
      have c1 := same_line (Q := { P with fn := run tb P (k + 4) }) (S0 := S0) (M := plL st) ho (r := [a0, some (.ref S0.length), some (.ref (S0.length + 1)), some (.str (dueW (lastS st))), some (.lst (all.map .str)), some (.int (n : Nat)), some (.lst [.str knownW, .int d]), x7, x8]) rfl rfl (t := .cmp .ne (.ix (.var 6) (.int 0)) (.str [115, 116, 114, 101, 116, 99, 104])) (g := true) (by simp [semB, semE, coF, nst])
      rw [Bool.and_true] at c1
      by_cases hsm : sameE st = true
      · have es : stepS st n [knownW, b] = .no (placeE st) same := by unfold stepS; rw [if_pos ⟨.inr hk, hsm⟩]
        rw [es]
        refine ⟨fun p f q => ?_, fun st2 q => by cases q⟩
        cases q
        rw [hsm] at c1
        exact start _ (ss_ret (s_ifT c1 (ss_ret (s_ret0 (pl _ hsm)))))
      · have es : stepS st n [knownW, b] = .go (st ++ [⟨d, (n : Int) + 1, []⟩]) := by
          unfold stepS
          rw [if_neg (fun q => hsm q.2), if_neg (by rw [hf0]; simp), if_pos hk]
          simp [dayN, hd]
        rw [es]
        refine ⟨fun p f q => (by cases q), fun st2 q => ?_⟩
        cases q
        have hsm2 : sameE st = false := by simpa using hsm
        rw [hsm2] at c1
        refine ⟨ho.push, some (.lst [.str knownW, .int d]), start _ ?_⟩
        refine ss_nx (s_if1 c1) ?_
        refine ss_nx (s_if1 (by simp [semB, semE])) ?_
        have hh := SX_hd (S0 := S0) (M := plL st) (g := itL) (st := st)
        have hh2 : (SX S0 itL (plL st) st ++ [Ob.lst []])[S0.length]? = some (.lst (its itL (S0.length + 1 + (plL st).length) st)) := by
          rw [List.getElem?_append_left (by rw [SX_len]; omega)]
          exact hh
        have hlen : (its itL (S0.length + 1 + (plL st).length) st).length < 1000000 := by
          have := ho.l
          rw [its_len]
          omega
        have ap : fAppend (.ref S0.length) [.lst [.int d, .ref (SX S0 itL (plL st) st).length]] (SX S0 itL (plL st) st ++ [Ob.lst []]) = .ok .non (SX S0 itL (plL st) (st ++ [⟨d, (n : Int) + 1, []⟩])) := by
          rw [fAppend_ref, hh2]
          dsimp only
          rw [if_pos hlen, ← SX_push]
          rfl
        have mo : mtOk .append (.ref S0.length) (SX S0 itL (plL st) st) = true := by rw [mtOk_ref, hh]; rfl
        have hm := SX_mid (S0 := S0) (g := itL) (st := st ++ [⟨d, (n : Int) + 1, []⟩]) (o := .lst (st.map fun e => .int e.p))
        have ap2 : fAppend (.ref (S0.length + 1)) [.int ((n : Int) + 1)] (SX S0 itL (plL st) (st ++ [⟨d, (n : Int) + 1, []⟩])) = .ok .non (SX S0 itL (plL (st ++ [⟨d, (n : Int) + 1, []⟩])) (st ++ [⟨d, (n : Int) + 1, []⟩])) := by
          unfold plL
          rw [fAppend_ref, hm]
          dsimp only
          rw [if_pos (by have := ho.l; simp; omega), SX_setM]
          simp
        have mo2 : mtOk .append (.ref (S0.length + 1)) (SX S0 itL (plL st) (st ++ [⟨d, (n : Int) + 1, []⟩])) = true := by
          unfold plL
          rw [mtOk_ref, hm]
          rfl
        have ed : dueW (lastS (st ++ [⟨d, (n : Int) + 1, []⟩])) = stretchW := by simp [lastS, dueW]
        rw [ed]
        refine ss_nx (s_ifT (by simp [semB, semE, coF, eq1]) (ss_nx (s_expr (d := .non) (S2 := SX S0 itL (plL st) (st ++ [⟨d, (n : Int) + 1, []⟩])) (by simp [semE, semEs, mo, mtF, ap])) (ss_nx (s_expr (d := .non) (S2 := SX S0 itL (plL (st ++ [⟨d, (n : Int) + 1, []⟩])) (st ++ [⟨d, (n : Int) + 1, []⟩])) (by simp [semE, semEs, mo2, mtF, boF, ap2])) (ss_nx (s_asg0 (.str stretchW) (by simp [semE, stretchW]) rfl) ss0)))) ss0
    · obtain ⟨b, c, w, rfl⟩ := st_not0 hst
      have hd : numL c 19999 = some d := hd
      have ha : ansS w = some a := ha
      have eL : lineR (lastS st) ([] :: b :: c :: w) = .lst [.str stretchW, .int d, a.d] := by simp [lineR, hf0, hk, dayN, hd, ansV, ha]
      rw [eL] at start
      have nst : ∀ S, fNe (.str stretchW) (.str [115, 116, 114, 101, 116, 99, 104]) S = .ok (.bl false) S := fun S => by rw [fNe_str (by decide) (by decide)]; rfl
      have eq1 : ∀ S, fEq (.str stretchW) (.str [107, 110, 111, 119, 110]) S = .ok (.bl false) S := fun S => by rw [fEq_str (by decide) (by decide)]; rfl
      have c1 := same_line (Q := { P with fn := run tb P (k + 4) }) (S0 := S0) (M := plL st) ho (r := [a0, some (.ref S0.length), some (.ref (S0.length + 1)), some (.str (dueW (lastS st))), some (.lst (all.map .str)), some (.int (n : Nat)), some (.lst [.str stretchW, .int d, a.d]), x7, x8]) rfl rfl (t := .cmp .ne (.ix (.var 6) (.int 0)) (.str [115, 116, 114, 101, 116, 99, 104])) (g := false) (by simp [semB, semE, coF, nst])
      rw [Bool.and_false] at c1
      rcases List.eq_nil_or_concat st with rfl | ⟨pre, e, rfl⟩
      · simp [lastS] at hlast
      rw [List.concat_eq_append] at *
      have es : stepS (pre ++ [e]) n ([] :: b :: c :: w) = .go (pre ++ [{ e with r := e.r ++ [(d, a)] }]) := by
        unfold stepS
        rw [if_neg (by rw [hf0, hk]; simp), if_neg (by rw [hf0]; simp), if_neg (by rw [hk]; simp)]
        simp [growE, dayN, hd, ansV, ha]
      rw [es]
      refine ⟨fun p f q => (by cases q), fun st2 q => ?_⟩
      cases q
      refine ⟨ho.grow (an_okS ha), some (.lst [.str stretchW, .int d, a.d]), start _ ?_⟩
      refine ss_nx (s_if1 c1) ?_
      refine ss_nx (s_if1 (by simp [semB, semE])) ?_
      have hh := SX_hd (S0 := S0) (M := plL (pre ++ [e])) (g := itL) (st := pre ++ [e])
      have hlast2 : (its itL (S0.length + 1 + (plL (pre ++ [e])).length) (pre ++ [e])).getLast? = _ := its_last
      have hr := SX_row (S0 := S0) (M := plL (pre ++ [e])) (g := itL) (pre := pre) (e := e) (post := [])
      have hlen : (rowI e.r).length < 1000000 := by
        have := (ho.r e (by simp)).1
        simp [rowI]
        omega
      have epl : plL (pre ++ [{ e with r := e.r ++ [(d, a)] }]) = plL (pre ++ [e]) := by simp [plL]
      have ap : fAppend (.ref (S0.length + 1 + (plL (pre ++ [e])).length + pre.length)) [.tup [.int d, a.d]] (SX S0 itL (plL (pre ++ [e])) (pre ++ [e])) = .ok .non (SX S0 itL (plL (pre ++ [e])) (pre ++ [{ e with r := e.r ++ [(d, a)] }])) := by
        rw [fAppend_ref, hr]
        dsimp only
        rw [if_pos hlen, ← SX_add (e := e) (r := e.r ++ [(d, a)]) (.inr rfl), show rowI (e.r ++ [(d, a)]) = rowI e.r ++ [.tup [.int d, a.d]] by simp [rowI]]
      have mo : mtOk .append (.ref (S0.length + 1 + (plL (pre ++ [e])).length + pre.length)) (SX S0 itL (plL (pre ++ [e])) (pre ++ [e])) = true := by rw [mtOk_ref, hr]; rfl
      have g1 : semE { P with fn := run tb P (k + 4) } (.ix (.ix (.var 1) (.neg (.int 1))) (.int 1)) [a0, some (.ref S0.length), some (.ref (S0.length + 1)), some (.str (dueW (lastS (pre ++ [e])))), some (.lst (all.map .str)), some (.int (n : Nat)), some (.lst [.str stretchW, .int d, a.d]), x7, x8] (SX S0 itL (plL (pre ++ [e])) (pre ++ [e])) = .ok (.ref (S0.length + 1 + (plL (pre ++ [e])).length + pre.length)) (SX S0 itL (plL (pre ++ [e])) (pre ++ [e])) := by
        simp only [semE, List.getElem?_cons_succ, List.getElem?_cons_zero, bind_ok, fNeg_int, fIx_ref, hh, at_last, hlast2, okO_some, itL, fIx_lst, at_1]
      have ed : dueW (lastS (pre ++ [{ e with r := e.r ++ [(d, a)] }])) = bothW := by
        simp only [lastS, List.getLast?_append, List.getLast?_singleton, Option.some_or, Option.map_some]
        cases e.r <;> rfl
      rw [ed, epl]
      refine ss_nx (s_ifF (by simp [semB, semE, coF, eq1]) (ss_nx (s_expr (d := .non) (S2 := SX S0 itL (plL (pre ++ [e])) (pre ++ [{ e with r := e.r ++ [(d, a)] }])) ?_) (ss_nx (s_asg0 (.str bothW) (by simp [semE, bothW]) rfl) ss0))) ss0
      rw [semE]
      dsimp only
      rw [g1]
      simp only [bind_ok, mo, if_true, semE, semEs, List.getElem?_cons_succ, List.getElem?_cons_zero, fIx_lst, at_1, at_2, okO_some, mtF, ap]
  · have eL : lineR (lastS st) ws = .str (faultS (lastS st) ws) := by simp [lineR, hf0]
    rw [eL] at start
    generalize hf : faultS (lastS st) ws = f at *
    obtain ⟨c, cs, rfl⟩ := List.exists_cons_of_ne_nil hf0
    have oc : okS [c] = true := okS_of fo.1 (by simp)
    have fl : (c :: cs).length ≤ 1000000 := by omega
    have nst : fNe (.str [c]) (.str [115, 116, 114, 101, 116, 99, 104]) (SX S0 itL (plL st) st) = .ok (.bl true) (SX S0 itL (plL st) st) := by rw [fNe_str oc (by decide)]; simp
    have ei : fIx (.str (c :: cs)) (.int 0) (SX S0 itL (plL st) st) = .ok (.str [c]) (SX S0 itL (plL st) st) := by rw [fIx_str fl]; simp
    have c1 := same_line (Q := { P with fn := run tb P (k + 4) }) (S0 := S0) (M := plL st) ho (r := [a0, some (.ref S0.length), some (.ref (S0.length + 1)), some (.str (dueW (lastS st))), some (.lst (all.map .str)), some (.int (n : Nat)), some (.str (c :: cs)), x7, x8]) rfl rfl (t := .cmp .ne (.ix (.var 6) (.int 0)) (.str [115, 116, 114, 101, 116, 99, 104])) (g := true) (by simp only [semB, semE, coF, List.getElem?_cons_succ, List.getElem?_cons_zero, bind_ok, ei, nst, toB_bl])
    rw [Bool.and_true] at c1
    by_cases hsm : sameE st = true
    · have es : stepS st n ws = .no (placeE st) same := by unfold stepS; rw [if_pos ⟨.inl (by rw [hf]; exact hf0), hsm⟩]
      rw [es]
      refine ⟨fun p f q => ?_, fun st2 q => by cases q⟩
      cases q
      rw [hsm] at c1
      exact start _ (ss_ret (s_ifT c1 (ss_ret (s_ret0 (pl _ hsm)))))
    · have es : stepS st n ws = .no ((n : Int) + 1) (c :: cs) := by
        unfold stepS
        rw [if_neg (fun q => hsm q.2), if_pos (by rw [hf]; exact hf0), hf]
      rw [es]
      refine ⟨fun p f q => ?_, fun st2 q => by cases q⟩
      cases q
      have hsm2 : sameE st = false := by simpa using hsm
      rw [hsm2] at c1
      exact start _ (ss_nx (s_if1 c1) (ss_ret (s_ifT (by simp [semB, semE]) (ss_ret (s_ret0 (by simp [semE, semEs, boF]))))))
end K25
set_option Elab.async false
set_option linter.all false
set_option maxRecDepth 100000
set_option maxHeartbeats 4000000
/-! M24: the law's own reader, whole. -/
namespace K25
open PySem L2 DL
theorem range_cons {n m : Nat} : rangeD (n : Int) (m + 1) = .int (n : Int) :: rangeD ((n + 1 : Nat) : Int) m := by
  simp only [rangeD]
  norm_cast
theorem law_loop (k : Nat) {S0 : Sto} {all : List (List Nat)} (hw : ∀ l ∈ all, okS l = true ∧ l.length ≤ 1000000) (a0 x7 x8 : Option DL.D) : ∀ (ls : List (List Nat)) (n : Nat) (st : List Ent) (x5 x6 : Option DL.D), OkE n st → n + ls.length ≤ 900000 → (∃ t, all.drop n = ls ++ t) →
    (∀ p f, goS (ls.map (splC 32)) n st = .no p f → ∃ T, forG none (.name 5) (semSs lbody { P with fn := run tb P (k + 4) }) (rangeD (n : Int) ls.length) [a0, some (.ref S0.length), some (.ref (S0.length + 1)), some (.str (dueW (lastS st))), some (.lst (all.map .str)), x5, x6, x7, x8] (SX S0 itL (plL st) st) = .ret (.tup [.int p, .str f]) (S0 ++ T)) ∧
    (∀ st2, goS (ls.map (splC 32)) n st = .go st2 → OkE (n + ls.length) st2 ∧ ∃ y5 y6, forG none (.name 5) (semSs lbody { P with fn := run tb P (k + 4) }) (rangeD (n : Int) ls.length) [a0, some (.ref S0.length), some (.ref (S0.length + 1)), some (.str (dueW (lastS st))), some (.lst (all.map .str)), x5, x6, x7, x8] (SX S0 itL (plL st) st) = .nx [a0, some (.ref S0.length), some (.ref (S0.length + 1)), some (.str (dueW (lastS st2))), some (.lst (all.map .str)), y5, y6, x7, x8] (SX S0 itL (plL st2) st2))
  | [], n, st, x5, x6, ho, hn, hd => by
    refine ⟨fun p f q => (by cases q), fun st2 q => ?_⟩
    cases q
    exact ⟨by simpa using ho, x5, x6, by simp [rangeD]⟩
  | l :: ls, n, st, x5, x6, ho, hn, ⟨t, hd⟩ => by
    have hat : all[n]? = some l := by
      have := congrArg List.head? hd
      simpa [List.head?_drop] using this
    have h1 := hw l (List.mem_of_getElem? hat)
    have hn2 : n + 1 + ls.length ≤ 900000 := by simp at hn; omega
    have hd2 : all.drop (n + 1) = ls ++ t := by
      rw [← List.tail_drop, hd]
      rfl
    obtain ⟨s1, s2⟩ := law_step k (S0 := S0) ho (by omega) h1.1 h1.2 hat a0 x6 x7 x8
    have hu : ∀ bb, forG none (.name 5) bb (rangeD (n : Int) (l :: ls).length) [a0, some (.ref S0.length), some (.ref (S0.length + 1)), some (.str (dueW (lastS st))), some (.lst (all.map .str)), x5, x6, x7, x8] (SX S0 itL (plL st) st) =
        (bb [a0, some (.ref S0.length), some (.ref (S0.length + 1)), some (.str (dueW (lastS st))), some (.lst (all.map .str)), some (.int (n : Nat)), x6, x7, x8] (SX S0 itL (plL st) st)).turn (forG none (.name 5) bb (rangeD ((n + 1 : Nat) : Int) ls.length)) := fun bb => by
      rw [List.length_cons, range_cons, forG_cons]
      rfl
    rw [List.map_cons, goS]
    cases hq : stepS st n (splC 32 l) with
    | no p f =>
      refine ⟨fun p2 f2 q => ?_, fun st2 q => by cases q⟩
      cases q
      obtain ⟨T, hT⟩ := SX_pre (S0 := S0) (M := plL st) (g := itL) (st := st) (st2 := st)
      refine ⟨T, ?_⟩
      rw [hu, s1 p f hq, ← hT]
      rfl
    | go st1 =>
      obtain ⟨ho1, y6, e1⟩ := s2 st1 hq
      obtain ⟨i1, i2⟩ := law_loop k (S0 := S0) hw a0 x7 x8 ls (n + 1) st1 (some (.int (n : Nat))) y6 ho1 hn2 ⟨t, hd2⟩
      rw [hu, e1]
      refine ⟨i1, fun st2 q => ?_⟩
      obtain ⟨h2, y⟩ := i2 st2 q
      exact ⟨by rw [List.length_cons, show n + (ls.length + 1) = n + 1 + ls.length by omega]; exact h2, y⟩
theorem comp_map2 {Q : Par} {S0 : Sto} {st : List Ent} (hl : st.length ≤ 1000000) (a0 x2 x3 x4 x5 x6 x7 x8 : Option DL.D) :
    semE Q (.comp false [7, 8] (.tup (.cons (.var 7) (.cons (.blt .tuple (.cons (.var 8) .nil)) .nil))) (.tup (.cons (.name 7) (.cons (.name 8) .nil))) (.plain (.var 1)) .none) [a0, some (.ref S0.length), x2, x3, x4, x5, x6, x7, x8] (SX S0 itL (plL st) st) = .ok (.lst (st.map rowD)) (SX S0 itL (plL st) st) := by
  have hh := SX_hd (S0 := S0) (M := plL st) (g := itL) (st := st)
  have hI : semI Q (.plain (.var 1)) [a0, some (.ref S0.length), x2, x3, x4, x5, x6, x7, x8] (SX S0 itL (plL st) st) = .ok (its itL (S0.length + 1 + (plL st).length) st, some (S0.length, its itL (S0.length + 1 + (plL st).length) st)) (SX S0 itL (plL st) st) := by
    simp only [semI, semE, List.getElem?_cons_succ, List.getElem?_cons_zero, bind_ok, walk, hh]
  have eC : ∀ (g' : DL.D → Sto → Re (Option DL.D)) (f : DL.D → Option DL.D), (∀ d ∈ its itL (S0.length + 1 + (plL st).length) st, g' d (SX S0 itL (plL st) st) = .ok (f d) (SX S0 itL (plL st) st)) → compG (some (S0.length, its itL (S0.length + 1 + (plL st).length) st)) g' (its itL (S0.length + 1 + (plL st).length) st) (SX S0 itL (plL st) st) = .ok ((its itL (S0.length + 1 + (plL st).length) st).filterMap f) (SX S0 itL (plL st) st) := fun g' f hg => compG_map (gd := some _) hh hg
  simp only [semE, hI, bind_ok, its_len, hl, if_true]
  rw [eC _ (fun d => match d with
    | .lst [.int a, .ref j] => match (SX S0 itL (plL st) st)[j]? with
      | some (.lst ds) => some (.tup [.int a, .tup ds])
      | _ => none
    | _ => none)]
  · rw [its_fm (h := rowD) fun pre e post z => by
      have := SX_row (S0 := S0) (M := plL st) (g := itL) (pre := pre) (e := e) (post := post)
      rw [← z] at this
      simp only [itL, this, rowD]]
    simp [pushD]
  · intro d hd
    obtain ⟨pre, e, post, z, rfl⟩ := its_mem hd
    have hr := SX_row (S0 := S0) (M := plL st) (g := itL) (pre := pre) (e := e) (post := post)
    rw [← z] at hr
    have ft : fTuple [.ref (S0.length + 1 + (plL st).length + pre.length)] (SX S0 itL (plL st) st) = .ok (.tup (rowI e.r)) (SX S0 itL (plL st) st) := by
      unfold fTuple
      dsimp only
      rw [vw_ref hr]
    simp only [itL, hr, asg, asgs, wipeL, List.set_cons_succ, List.set_cons_zero, Option.bind_some, semC, bind_ok, if_true, semEs, semE, List.getElem?_cons_succ, List.getElem?_cons_zero, biF, ft]
    rfl
/-- the test behind the lines -/
theorem same_end {Q : Par} {S0 M : Sto} {st : List Ent} {n : Nat} (ho : OkE n st) {r : DL.Loc} (h1 : r[1]? = some (some (.ref S0.length))) (h3 : r[3]? = some (some (.str (dueW (lastS st))))) :
    semB Q (.and (.cons (.cmp .eq (.var 3) (.str [98, 111, 116, 104])) (.cons (.cmp .gt (.blt .len (.cons (.var 1) .nil)) (.int 1)) (.cons (.cmp .eq (.ix (.ix (.var 1) (.neg (.int 1))) (.int 1)) (.ix (.ix (.var 1) (.neg (.int 2))) (.int 1))) .nil)))) r (SX S0 itL M st) = .ok (sameE st) (SX S0 itL M st) := by
  have hd := (due_full st (SX S0 itL M st)).1
  have c1 := len_rows (Q := Q) (S0 := S0) (M := M) (st := st) h1
  have c2 : semB Q (.cmp .eq (.var 3) (.str [98, 111, 116, 104])) r (SX S0 itL M st) = .ok (full st) (SX S0 itL M st) := by
    simp only [semB, semE, h3, bind_ok, coF, hd, toB_bl]
  rw [semB]
  simp only [semAll]
  rw [c2]
  rcases snoc_cases st with rfl | ⟨e, rfl⟩ | ⟨pre, a, b, rfl⟩
  · rfl
  · cases hf : full [e] with
    | false => rfl
    | true =>
      simp only [bind_ok, if_true]
      rw [c1]
      rfl
  · have hf : full (pre ++ [a, b]) = decide (b.r ≠ []) := by simp [full]
    rw [sameE_two, hf]
    cases hb : decide (b.r ≠ []) with
    | false => rfl
    | true =>
      have hl : decide (1 < (pre ++ [a, b]).length) = true := by simp
      rw [hl] at c1
      simp only [bind_ok, if_true]
      rw [c1]
      obtain ⟨g1, g2, g3⟩ := same_two (Q := Q) ho h1
      have c4 : semB Q (.cmp .eq (.ix (.ix (.var 1) (.neg (.int 1))) (.int 1)) (.ix (.ix (.var 1) (.neg (.int 2))) (.int 1))) r (SX S0 itL M (pre ++ [a, b])) = .ok (decide (b.r = a.r)) (SX S0 itL M (pre ++ [a, b])) := by
        rw [semB]
        dsimp only
        rw [g1]
        simp only [bind_ok]
        rw [g2]
        simp only [bind_ok, coF, g3, toB_bl]
      simp only [bind_ok, if_true]
      rw [c4]
      cases decide (b.r = a.r) <;> rfl
theorem badEnd_full {last : List Nat} {st : List Ent} : badEnd last st = (!full st || decide (last ≠ [])) := by
  unfold badEnd full
  rcases List.eq_nil_or_concat st with rfl | ⟨pre, e, rfl⟩
  · simp
  · rw [List.concat_eq_append]
    rw [Bool.eq_iff_iff]
    simp
    constructor <;> (intro h; rcases h with h | h <;> simp [h])
theorem law_end {Q : Par} {S0 M : Sto} {st : List Ent} {all : List (List Nat)} {last : List Nat} (hl : all.getLast? = some last) (ho : okS last = true) {r : DL.Loc} (h3 : r[3]? = some (some (.str (dueW (lastS st))))) (h4 : r[4]? = some (some (.lst (all.map .str)))) :
    semB Q (.or (.cons (.cmp .ne (.var 3) (.str [98, 111, 116, 104])) (.cons (.cmp .ne (.ix (.var 4) (.neg (.int 1))) (.str [])) .nil))) r (SX S0 itL M st) = .ok (badEnd last st) (SX S0 itL M st) := by
  have e1 : fIx (.lst (all.map .str)) (.int (-1)) (SX S0 itL M st) = .ok (.str last) (SX S0 itL M st) := by
    rw [fIx_lst, at_last, List.getLast?_map, hl]
    rfl
  have e2 : fNe (.str last) (.str []) (SX S0 itL M st) = .ok (.bl (!(last == []))) (SX S0 itL M st) := fNe_str ho (by decide)
  have hd := (due_full st (SX S0 itL M st)).2
  rw [badEnd_full]
  simp only [semB, semAny, semE, h3, h4, bind_ok, coF, hd, toB_bl, fNeg_int, e1, e2]
  cases full st with
  | false => rfl
  | true =>
    simp
    cases last <;> rfl
theorem s_par {i j : Nat} {a b : Ex} {P : Par} {r : DL.Loc} {S S2 : Sto} {d1 d2 : DL.D} (h : semEs P (.cons a (.cons b .nil)) r S = .ok [d1, d2] S2) : semS (.par i j a b) P r S = .nx ((r.set i (some d1)).set j (some d2)) S2 := by
  rw [semS]
  dsimp only
  rw [h]
  rfl
theorem all_init {all : List (List Nat)} {last : List Nat} (h : all.getLast? = some last) : all = all.dropLast ++ [last] := by
  rcases List.eq_nil_or_concat all with rfl | ⟨l, b, rfl⟩
  · simp at h
  · simp at h
    simp [h]
theorem lread_ok (k : Nat) {x : List Nat} (hl : x.length ≤ 800000) (hs : okS x = true) (S0 : Sto) :
    (∀ p f, readS x = .no p f → run tb P (k + 5) 20 [.str x] S0 = .ok (.tup [.int p, .str f]) S0) ∧
    (∀ st, readS x = .go st → run tb P (k + 5) 20 [.str x] S0 = .ok (mapD st) S0) := by
  have e0 : ∀ S, fSplit (.str x) [.str [10]] S = .ok (.lst ((splC 10 x).map .str)) S := fun S => fSplit_ok (c := 10) (by decide) (show x.length ≤ 1000000 by omega) (S := S)
  have hall := splC_ne 10 x
  have hlen := splC_len (c := 10) (x := x)
  have hw : ∀ l ∈ splC 10 x, okS l = true ∧ l.length ≤ 1000000 := splC_okW hs (by omega)
  unfold readS
  generalize splC 10 x = all at *
  have hlast := all_last hall
  generalize all.getLast?.getD [] = last at *
  have hlo : okS last = true := (hw last (List.mem_of_getLast? hlast)).1
  have hdl : all.dropLast.length = all.length - 1 := by simp
  have hpos : 0 < all.length := List.length_pos_iff.mpr hall
  have hI : semI { P with fn := run tb P (k + 4) } (.range1 (.bin .sub (.blt .len (.cons (.var 4) .nil)) (.int 1))) [some (.str x), some (.ref S0.length), some (.ref (S0.length + 1)), some (.str (dueW (lastS []))), some (.lst (all.map .str)), none, none, none, none] (SX S0 itL (plL []) []) = .ok (rangeD ((0 : Nat) : Int) all.dropLast.length, none) (SX S0 itL (plL []) []) := by
    simp only [semI, semE, semEs, List.getElem?_cons_succ, List.getElem?_cons_zero, bind_ok, biF, fLen_lst, boF, fSub_int, List.length_map]
    rw [if_pos (by omega), hdl]
    congr 3
    omega
  obtain ⟨l1, l2⟩ := law_loop k (S0 := S0) hw (some (.str x)) none none all.dropLast 0 [] none none ⟨by simp, fun e he => by simp at he⟩ (by omega) ⟨[last], by
    rw [List.drop_zero]
    exact all_init hlast⟩
  have start : ∀ z, semSs (match a_law_read_u with
      | .cons _ (.cons _ (.cons _ b)) => b
      | _ => .nil) { P with fn := run tb P (k + 4) } [some (.str x), some (.ref S0.length), some (.ref (S0.length + 1)), some (.str (dueW (lastS []))), some (.lst (all.map .str)), none, none, none, none] (SX S0 itL (plL []) []) = z →
      semSs d_20.ast { P with fn := run tb P (k + 4) } (startL d_20.N.length [.str x]) S0 = z := fun z hz => by
    refine ss_nx (s_par (d1 := .ref S0.length) (d2 := .ref (S0.length + 1)) (S2 := SX S0 itL (plL []) []) ?_) ?_
    · simp [semE, semEs, SX, its, plL, rws]
    · refine ss_nx (s_asg0 (.str knownW) (by simp [semE, knownW]) rfl) ?_
      exact ss_nx (s_asg0 (.lst (all.map .str)) (by simp [startL, d_20, semE, semEs, mtF, mtT, e0]) rfl) hz
  cases hg : goS (all.dropLast.map (splC 32)) 0 [] with
  | no p f =>
    refine ⟨fun p2 f2 q => ?_, fun st q => by cases q⟩
    cases q
    obtain ⟨T, e1⟩ := l1 p f hg
    exact run_of (d := d_20) (x := .ret (.tup [.int p, .str f]) (S0 ++ T)) rfl rfl (start _ (ss_ret (s_for hI e1))) (fin_plT (by simp [nrs, nr]))
  | go st =>
    obtain ⟨ho, y5, y6, e1⟩ := l2 st hg
    have eS := same_end (Q := { P with fn := run tb P (k + 4) }) (S0 := S0) (M := plL st) ho (r := [some (.str x), some (.ref S0.length), some (.ref (S0.length + 1)), some (.str (dueW (lastS st))), some (.lst (all.map .str)), y5, y6, none, none]) rfl rfl
    have eE := law_end (Q := { P with fn := run tb P (k + 4) }) (S0 := S0) (M := plL st) (st := st) hlast hlo (r := [some (.str x), some (.ref S0.length), some (.ref (S0.length + 1)), some (.str (dueW (lastS st))), some (.lst (all.map .str)), y5, y6, none, none]) rfl rfl
    dsimp only
    rw [endS_eq]
    obtain ⟨T, hT⟩ := SX_pre (S0 := S0) (M := plL st) (g := itL) (st := st) (st2 := st)
    by_cases hsm : sameE st = true
    · rw [if_pos hsm]
      rw [hsm] at eS
      refine ⟨fun p2 f2 q => ?_, fun st q => by cases q⟩
      cases q
      refine run_of (d := d_20) (x := .ret (.tup [.int (placeE st), .str same]) (SX S0 itL (plL st) st)) rfl rfl (start _ (ss_nx (s_for hI e1) (ss_ret (s_ifT eS (ss_ret (s_ret0 ?_)))))) (by rw [hT]; exact fin_plT (by simp [nrs, nr]))
      rw [semE]
      simp only [semEs]
      rw [place_last rfl (sameE_ne hsm)]
      simp [semE, same]
    · rw [if_neg hsm]
      have hsm2 : sameE st = false := by simpa using hsm
      rw [hsm2] at eS
      by_cases hb : badEnd last st = true
      · rw [if_pos hb]
        rw [hb] at eE
        refine ⟨fun p2 f2 q => ?_, fun st q => by cases q⟩
        cases q
        exact run_of (d := d_20) (x := .ret (.tup [.int 0, .str ends]) (SX S0 itL (plL st) st)) rfl rfl (start _ (ss_nx (s_for hI e1) (ss_nx (s_if1 eS) (ss_ret (s_ifT eE (ss_ret (s_ret0 (by simp [semE, semEs, ends])))))))) (by rw [hT]; exact fin_plT (by simp [nrs, nr]))
      · rw [if_neg hb]
        have hb2 : badEnd last st = false := by simpa using hb
        rw [hb2] at eE
        refine ⟨fun p2 f2 q => (by cases q), fun st2 q => ?_⟩
        cases q
        have hc := comp_map2 (Q := { P with fn := run tb P (k + 4) }) (S0 := S0) (st := st) (by have := ho.l; omega) (some (.str x)) (some (.ref (S0.length + 1))) (some (.str (dueW (lastS st)))) (some (.lst (all.map .str))) y5 y6 none none
        refine run_of (d := d_20) (x := .ret (mapD st) (SX S0 itL (plL st) st)) rfl rfl (start _ (ss_nx (s_for hI e1) (ss_nx (s_if1 eS) (ss_nx (s_if1 eE) (ss_ret (s_ret0 ?_)))))) (by rw [hT]; exact fin_plT (mapD_nr st))
        rw [semE]
        simp only [semEs]
        rw [hc]
        rfl
/-! ### what is told of a text -/
def goodW : List Nat := [103, 111, 111, 100]
def badW : List Nat := [98, 97, 100]
theorem s_try {h : Str} {i : Option Nat} {b su : Sms} {P : Par} {r : DL.Loc} {S : Sto} {x : Rs} (h1 : tryR (semSs b P r S) (P.exm h) i (fun a dd x => semSs su { P with ex := some (a, dd, x) }) = x) : semS (.trys h i b su) P r S = x := by
  rw [← h1]
  simp only [semS]
theorem s_retE {e : Ex} {P : Par} {r : DL.Loc} {S S2 : Sto} {x : Nat} {fs : List DL.D} (h : semE P e r S = .err x fs S2) : semS (.ret e) P r S = .err x fs S2 := by
  have e' : semS (.ret e) P r S = (semE P e r S).to fun d S1 => .ret d S1 := by simp only [semS]
  rw [e', h, to_err]
theorem isx_1 : P.isx 0 "LawError" = some true := by simp [P]
theorem isx_2 : P.isx 0 "ValueError" = some true := by simp [P]
theorem isx_3 : P.isx 0 "BadEntry" = some false := by
  have h1 : ("BadEntry" : Str) ≠ "LawError" := by decide
  have h2 : ("BadEntry" : Str) ≠ "ValueError" := by decide
  simp [P, h1, h2]
theorem exm_1 : P.exm "BadText" 0 = some true := by simp [P]
theorem fld_place {a dd : Nat} {f : List Nat} {p : Int} {S : Sto} : fFld (some (a, dd, 0)) P.xf "place" (.exn a dd 0 [.str f, .int p]) S = .ok (.int p) S := by
  have h1 : (("place" : Str) == "reason") = false := by decide
  simp [fFld, P, List.lookup, h1]
theorem fld_reason {a dd : Nat} {f : List Nat} {p : Int} {S : Sto} : fFld (some (a, dd, 0)) P.xf "reason" (.exn a dd 0 [.str f, .int p]) S = .ok (.str f) S := by
  simp [fFld, P, List.lookup]
theorem told_ok (k : Nat) {x : List Nat} (hl : x.length ≤ 800000) (hs : okS x = true) (S0 : Sto) :
    (∀ p f, readS x = .no p f → run tb P (k + 6) 21 [.str x] S0 = .ok (.lst [.str badW, .tup [.int p, .str f]]) S0) ∧
    (∀ st, readS x = .go st → run tb P (k + 6) 21 [.str x] S0 = .ok (.lst [.str goodW, mapD st]) S0) := by
  obtain ⟨m1, m2⟩ := map_ok k hl hs S0
  constructor
  · intro p f h
    have e := m1 p f h
    refine run_of (d := d_21) (x := .ret (.lst [.str badW, .tup [.int p, .str f]]) S0) rfl rfl ?_ (fin_pl (by simp [nr, nrs]))
    refine ss_ret (s_try ?_)
    rw [show semSs _ { P with fn := run tb P (k + 5) } (startL d_21.N.length [.str x]) S0 = .err 0 [.str f, .int p] S0 from ss_err (s_retE (by simp [startL, d_21, semE, semEs, e]))]
    show (match P.exm "BadText" 0 with
      | some true => anyA fun a dd => retOnly (semSs _ { P with fn := run tb P (k + 5), ex := some (a, dd, 0) } (excL (some 1) (.exn a dd 0 [.str f, .int p])) S0)
      | some false => .err 0 [.str f, .int p] S0
      | none => .bad) = _
    rw [exm_1]
    refine anyA_eq fun a dd => ?_
    rw [show semSs _ { P with fn := run tb P (k + 5), ex := some (a, dd, 0) } (excL (some 1) (.exn a dd 0 [.str f, .int p])) S0 = .ret (.lst [.str badW, .tup [.int p, .str f]]) S0 from ?_]
    · rfl
    · refine ss_ret (s_ifT ?_ (ss_ret (s_ret0 ?_)))
      · simp [semB, semAll, semE, excL, fIsx, isx_1, isx_2, isx_3]
      · simp [semE, semEs, excL, fld_place, fld_reason, badW]
  · intro st h
    have e := (m2 st h).1
    refine run_of (d := d_21) (x := .ret (.lst [.str goodW, mapD st]) S0) rfl rfl ?_ (fin_pl (by simp [nr, nrs, mapD_nr]))
    refine ss_ret (s_try ?_)
    rw [show semSs _ { P with fn := run tb P (k + 5) } (startL d_21.N.length [.str x]) S0 = .ret (.lst [.str goodW, mapD st]) S0 from ss_ret (s_ret0 (by simp [startL, d_21, semE, semEs, e, goodW]))]
    rfl
end K25
set_option Elab.async false
set_option linter.all false
set_option maxRecDepth 100000
set_option maxHeartbeats 4000000
/-! M25: a drawn row. -/
namespace K25
open PySem L2 DL
theorem Bx.lt {S : Sto} {b : Nat} (h : Bx S b) : b < S.length := by
  obtain ⟨dg, a, e⟩ := h
  exact (List.getElem?_eq_some_iff.mp e).1
theorem Bx.app {S T : Sto} {b : Nat} (h : Bx S b) : Bx (S ++ T) b := by
  obtain ⟨dg, a, e⟩ := h
  exact ⟨dg, a, by rw [List.getElem?_append_left (List.getElem?_eq_some_iff.mp e).1]; exact e⟩
theorem Bs.finT {S S2 T : Sto} {b : Nat} {d : DL.D} (h : Bs S S2 b) (hd : nr 0 d = true) : DL.finish S (.ret d (S2 ++ T)) = .ok d S2 := by
  have hl := h.len
  obtain ⟨dg, a, rfl⟩ := h
  have hp : okPre S (S.set b (.lst [.lst (dg.map .int), .int a]) ++ T) := by
    have := okPre_set (S := S) (b := b) (o := .lst [.lst (dg.map .int), .int a]) (by simp [nrO, nrs, nr, nrs_ints])
    refine ⟨by simp, fun j o hj e => ?_⟩
    rw [List.getElem?_append_left (by simpa using hj)] at e
    exact this.2 j o hj e
  unfold DL.finish
  simp only [thaw_pl hd, hp, if_true]
  rw [← hl, List.take_left]
def ans12 : List An := [.w yes, .w no, .w gap, .w clash, .n 0, .n 5, .n (-7), .n 100, .n 9999999, .n 10000000, .n 50000000, .n (-50000000)]
/-- rows that are drawn -/
inductive RowG : Row → Prop where
  | nil : RowG []
  | one {a : An} : a ∈ ans12 → RowG [(0, a)]
  | snoc {r : Row} {d e : Int} {a c : An} : RowG (r ++ [(d, a)]) → d < e → e < 20000 → a ≠ c → c ∈ ans12 → RowG (r ++ [(d, a)] ++ [(e, c)])
theorem ans_ok {a : An} (h : a ∈ ans12) : okA a := by
  simp only [ans12, List.mem_cons, List.not_mem_nil, or_false] at h
  rcases h with rfl | rfl | rfl | rfl | rfl | rfl | rfl | rfl | rfl | rfl | rfl | rfl
  all_goals first | trivial | (simp [okA, plainW])
theorem RowG.ok {r : Row} (h : RowG r) : okR r := by
  induction h with
  | nil => exact fun p hp => by simp at hp
  | one h =>
    intro p hp
    rw [List.mem_singleton.mp hp]
    exact ans_ok h
  | snoc h1 h2 h3 h4 h5 ih =>
    intro p hp
    rcases List.mem_append.mp hp with hp | hp
    · exact ih p hp
    · rw [List.mem_singleton.mp hp]
      exact ans_ok h5
theorem RowG.last {r : Row} (h : RowG r) : ∀ p ∈ r, p.2 ∈ ans12 ∧ 0 ≤ p.1 ∧ p.1 < 20000 := by
  induction h with
  | nil => exact fun p hp => by simp at hp
  | one h =>
    intro p hp
    rw [List.mem_singleton.mp hp]
    exact ⟨h, by simp, by simp⟩
  | snoc h1 h2 h3 h4 h5 ih =>
    intro p hp
    rcases List.mem_append.mp hp with hp | hp
    · exact ih p hp
    · rw [List.mem_singleton.mp hp]
      have := ih _ (List.mem_append_right _ (List.mem_singleton.mpr rfl))
      exact ⟨h5, by dsimp only at this ⊢; omega, h3⟩
theorem RowG.grow {r : Row} {p : Int × An} (h : RowG r) (hl : r.getLast? = some p) {d : Int} {a : An} (h1 : p.1 < d) (h2 : d < 20000) (h3 : p.2 ≠ a) (h4 : a ∈ ans12) : RowG (r ++ [(d, a)]) := by
  rcases List.eq_nil_or_concat r with rfl | ⟨r0, q, rfl⟩
  · simp at hl
  · simp at hl
    subst hl
    rw [List.concat_eq_append] at h ⊢
    exact h.snoc h1 h2 h3 h4
theorem fNe_an {a b : An} (ha : okA a) (hb : okA b) (S : Sto) : fNe a.d b.d S = .ok (.bl (!decide (a = b))) S := by
  rw [fNe_pl (an_ok ha _) (an_ok hb _) (an_vw a S) (an_vw b S), an_eq]
theorem lrow_ok (k : Nat) {S : Sto} {b : Nat} (hb : Bx S b) : ∃ r S2, RowG r ∧ r ≠ [] ∧ r.length ≤ 3 ∧ Bs S S2 b ∧ run tb P (k + 3) 15 [.ref b, .int 3] S = .ok (.tup (rowI r)) S2 := by
  obtain ⟨v, S0', hv0, hv3, hbs, hdr⟩ := draw_ok (k + 1) (many := 3) (hb.app (T := [.lst []])) (by decide)
  obtain ⟨S1, rfl, hbs1⟩ := hbs.app hb.lt
  have hI : semI { P with fn := run tb P (k + 2) } (.range1 (.bin .add (.int 1) (.call 12 (.cons (.var 0) (.cons (.var 1) .nil))))) [some (.ref b), some (.int 3), some (.ref S.length), some (.int 0), none, none] (S ++ [.lst []]) = .ok (rangeD 0 (1 + v).toNat, none) (S1 ++ [.lst []]) := by
    have : (1 + v).natAbs < 4611686018427387904 := by omega
    simp [semI, semE, semEs, hdr, boF, this]
  have key := forG_inv (gd := none) (t := .name 4) (its := rangeD 0 (1 + v).toNat) (r := [some (.ref b), some (.int 3), some (.ref S.length), some (.int 0), none, none]) (S := S1 ++ [.lst []])
    (b := semSs (match a_law_row_u with
      | .cons _ (.cons _ (.cons (.forr _ _ bb) _)) => bb
      | _ => .nil) { P with fn := run tb P (k + 2) })
    (fun i rr SS => ∃ (S2 : Sto) (r : Row) (d : Int) (x4 x5 : Option DL.D), Bs S S2 b ∧ rr = [some (.ref b), some (.int 3), some (.ref S.length), some (.int d), x4, x5] ∧ SS = S2 ++ [.lst (rowI r)] ∧ RowG r ∧ r.length ≤ i ∧ (r = [] → d = 0 ∧ i = 0) ∧ ∀ p, r.getLast? = some p → p.1 < d)
    ⟨S1, [], 0, none, none, hbs1, rfl, rfl, .nil, by simp, fun _ => ⟨rfl, rfl⟩, fun p hp => by simp at hp⟩ (fun _ _ _ _ _ => trivial) ?_
  · obtain ⟨r3, S3, e, S2, r, d, x4, x5, hbs2, rfl, rfl, hg, hlen, hnil, hlast⟩ := key
    rw [rangeD_length] at hlen hnil
    refine ⟨r, S2, hg, fun z => by have := (hnil z).2; omega, by omega, hbs2, ?_⟩
    refine run_of (d := d_15) (x := .ret (.tup (rowI r)) (S2 ++ [.lst (rowI r)])) rfl rfl ?_ (hbs2.finT (by simp [nr, rowI_nr]))
    refine ss_nx (s_asg (d := .ref S.length) (S2 := S ++ [.lst []]) (by simp [semE, semEs]) rfl) ?_
    refine ss_nx (s_asg0 (.int 0) (by simp [semE]) rfl) ?_
    refine ss_nx (s_for hI e) (ss_ret (s_ret0 ?_))
    have : (S2 ++ [Ob.lst (rowI r)])[S.length]? = some (.lst (rowI r)) := by rw [← hbs2.len]; simp
    simp [semE, semEs, biF, fTuple, vw_ref this]
  · rintro i rr SS d0 hd0 ⟨S2, r, d, x4, x5, hbs2, rfl, rfl, hg, hlen, hnil, hlast⟩
    refine ⟨_, rfl, ?_⟩
    have hat : (S2 ++ [Ob.lst (rowI r)])[S.length]? = some (.lst (rowI r)) := by rw [← hbs2.len]; simp
    obtain ⟨y, SP, hy, hbp, hp⟩ := pick_ok k (ds := ans12.map An.d) ((hbs2.bx hb).app (T := [.lst (rowI r)])) (by decide) (by decide)
    obtain ⟨a, ha, rfl⟩ := List.mem_map.mp hy
    obtain ⟨S3, rfl, hbs3⟩ := hbp.app (hbs2.bx hb).lt
    have hbs3 := hbs2.trans hbs3
    have hat3 : (S3 ++ [Ob.lst (rowI r)])[S.length]? = some (.lst (rowI r)) := by rw [← hbs3.len]; simp
    have st1 : semS (.asg (.name 5) (.call 13 (.cons (.var 0) (.cons (.lst (.cons (.str [121, 101, 115]) (.cons (.str [110, 111]) (.cons (.str [103, 97, 112]) (.cons (.str [99, 108, 97, 115, 104]) (.cons (.int 0) (.cons (.int 5) (.cons (.neg (.int 7)) (.cons (.int 100) (.cons (.int 9999999) (.cons (.int 10000000) (.cons (.int 50000000) (.cons (.neg (.int 50000000)) .nil))))))))))))) .nil)))) { P with fn := run tb P (k + 2) } [some (.ref b), some (.int 3), some (.ref S.length), some (.int d), some d0, x5] (S2 ++ [.lst (rowI r)]) = .nx [some (.ref b), some (.int 3), some (.ref S.length), some (.int d), some d0, some a.d] (S3 ++ [.lst (rowI r)]) := by
      refine s_asg (d := a.d) ?_ rfl
      simp only [semE, semEs, List.getElem?_cons_zero, bind_ok, fNeg_int]
      exact hp
    -- the last statement, for any row
    have fin : ∀ r' : Row, ∃ v2 S4, 0 ≤ v2 ∧ Bs S S4 b ∧ semS (.asg (.name 3) (.bin .add (.bin .add (.var 3) (.int 1)) (.call 13 (.cons (.var 0) (.cons (.lst (.cons (.int 0) (.cons (.int 3) (.cons (.int 30) (.cons (.int 9000) (.cons (.int 19995) .nil)))))) .nil))))) { P with fn := run tb P (k + 2) } [some (.ref b), some (.int 3), some (.ref S.length), some (.int d), some d0, some a.d] (S3 ++ [.lst (rowI r')]) = .nx [some (.ref b), some (.int 3), some (.ref S.length), some (.int (d + 1 + v2)), some d0, some a.d] (S4 ++ [.lst (rowI r')]) := fun r' => by
      obtain ⟨y, SP, hy, hbp, hp⟩ := pick_ok k (ds := [.int 0, .int 3, .int 30, .int 9000, .int 19995]) ((hbs3.bx hb).app (T := [.lst (rowI r')])) (by decide) (by decide)
      obtain ⟨S4, rfl, hbs4⟩ := hbp.app (hbs3.bx hb).lt
      have hy2 : ∃ v2 : Int, y = .int v2 ∧ 0 ≤ v2 := by
        simp only [List.mem_cons, List.not_mem_nil, or_false] at hy
        rcases hy with rfl | rfl | rfl | rfl | rfl
        all_goals exact ⟨_, rfl, by decide⟩
      obtain ⟨v2, rfl, hv2⟩ := hy2
      refine ⟨v2, S4, hv2, hbs3.trans hbs4, s_asg (d := .int (d + 1 + v2)) ?_ rfl⟩
      simp only [semE, semEs, List.getElem?_cons_zero, List.getElem?_cons_succ, bind_ok, boF, fAdd_int]
      rw [hp]
      rfl
    have rn := row_nil hat3 hg.ok
    by_cases hc : d < 20000 ∧ (r = [] ∨ ∀ p, r.getLast? = some p → p.2 ≠ a)
    · have cond : semB { P with fn := run tb P (k + 2) } (.and (.cons (.cmp .lt (.var 3) (.int 20000)) (.cons (.or (.cons (.cmp .eq (.var 2) (.lst .nil)) (.cons (.cmp .ne (.ix (.ix (.var 2) (.neg (.int 1))) (.int 1)) (.var 5)) .nil))) .nil))) [some (.ref b), some (.int 3), some (.ref S.length), some (.int d), some d0, some a.d] (S3 ++ [.lst (rowI r)]) = .ok true (S3 ++ [.lst (rowI r)]) := by
        cases hq : r.getLast? with
        | none =>
          rw [List.getLast?_eq_none_iff] at hq
          have rn1 := rn.1
          rw [show decide (r = []) = true by simpa using hq] at rn1
          simp only [semB, semAll, semAny, semE, semEs, coF, List.getElem?_cons_zero, List.getElem?_cons_succ, bind_ok, fLt_int, hc.1, decide_true, toB_bl, if_true, rn1]
        | some p =>
          have hne : r ≠ [] := by rintro rfl; simp at hq
          have h2 := (hc.2.resolve_left hne) p hq
          have hl2 : (rowI r).getLast? = some (.tup [.int p.1, p.2.d]) := by simp [rowI, hq]
          have fn := fNe_an (hg.ok p (List.mem_of_getLast? hq)) (ans_ok ha) (S3 ++ [Ob.lst (rowI r)])
          have hne2 : decide (r = []) = false := by simpa using hne
          rw [hne2] at rn
          have g1 : fIx (.ref S.length) (.int (-1)) (S3 ++ [Ob.lst (rowI r)]) = .ok (.tup [.int p.1, p.2.d]) (S3 ++ [Ob.lst (rowI r)]) := by rw [fIx_ref, hat3]; simp only [at_last, hl2, okO_some]
          have h3 : decide (p.2 = a) = false := by simpa using h2
          rw [h3] at fn
          simp only [semB, semAll, semAny, semE, semEs, coF, List.getElem?_cons_zero, List.getElem?_cons_succ, bind_ok, fLt_int, hc.1, decide_true, toB_bl, if_true, rn.1, Bool.false_eq_true, if_false, fNeg_int, g1, fIx_tup, at_1, okO_some, fn, Bool.not_false]
      obtain ⟨v2, S4, hv2, hbs4, st3⟩ := fin (r ++ [(d, a)])
      have hlr : (rowI r).length < 1000000 := by
        have := (range_item hd0).1
        simp [rowI]
        omega
      have ap : fAppend (.ref S.length) [.tup [.int d, a.d]] (S3 ++ [.lst (rowI r)]) = .ok .non (S3 ++ [.lst (rowI (r ++ [(d, a)]))]) := by
        rw [fAppend_ref, hat3]
        dsimp only
        rw [if_pos hlr, ← hbs3.len, set_end]
        simp [rowI]
      have mo : mtOk .append (.ref S.length) (S3 ++ [.lst (rowI r)]) = true := by rw [mtOk_ref, hat3]; rfl
      have st2 : semS (.ifs (.and (.cons (.cmp .lt (.var 3) (.int 20000)) (.cons (.or (.cons (.cmp .eq (.var 2) (.lst .nil)) (.cons (.cmp .ne (.ix (.ix (.var 2) (.neg (.int 1))) (.int 1)) (.var 5)) .nil))) .nil))) (.cons (.expr (.mth .append (.var 2) (.cons (.tup (.cons (.var 3) (.cons (.var 5) .nil))) .nil)))
  .nil) .nil) { P with fn := run tb P (k + 2) } [some (.ref b), some (.int 3), some (.ref S.length), some (.int d), some d0, some a.d] (S3 ++ [.lst (rowI r)]) = .nx [some (.ref b), some (.int 3), some (.ref S.length), some (.int d), some d0, some a.d] (S3 ++ [.lst (rowI (r ++ [(d, a)]))]) :=
        s_ifT cond (ss_nx (s_expr (d := .non) (S2 := S3 ++ [.lst (rowI (r ++ [(d, a)]))]) (by simp only [semE, semEs, List.getElem?_cons_zero, List.getElem?_cons_succ, bind_ok, mo, if_true, mtF, ap])) ss0)
      refine ⟨_, _, .inl (ss_nx st1 (ss_nx st2 (ss_nx st3 ss0))), S4, r ++ [(d, a)], d + 1 + v2, some d0, some a.d, hbs4, rfl, rfl, ?_, by simp; omega, fun z => by simp at z, fun p hp => ?_⟩
      · cases hq : r.getLast? with
        | none =>
          rw [List.getLast?_eq_none_iff] at hq
          subst hq
          rw [(hnil rfl).1]
          exact .one ha
        | some p =>
          have hne : r ≠ [] := by rintro rfl; simp at hq
          exact hg.grow hq (hlast p hq) hc.1 ((hc.2.resolve_left hne) p hq) ha
      · simp at hp
        subst hp
        show d < d + 1 + v2
        omega
    · have hne : r ≠ [] := by
        rintro rfl
        exact hc ⟨by rw [(hnil rfl).1]; decide, .inl rfl⟩
      obtain ⟨r0, p, rfl⟩ := (List.eq_nil_or_concat r).resolve_left hne
      rw [List.concat_eq_append] at *
      have hq : (r0 ++ [p]).getLast? = some p := by simp
      have hl2 : (rowI (r0 ++ [p])).getLast? = some (.tup [.int p.1, p.2.d]) := by simp [rowI]
      have fn := fNe_an (hg.ok p (List.mem_of_getLast? hq)) (ans_ok ha) (S3 ++ [Ob.lst (rowI (r0 ++ [p]))])
      have hne2 : decide (r0 ++ [p] = []) = false := by simp
      rw [hne2] at rn
      have g1 : fIx (.ref S.length) (.int (-1)) (S3 ++ [Ob.lst (rowI (r0 ++ [p]))]) = .ok (.tup [.int p.1, p.2.d]) (S3 ++ [Ob.lst (rowI (r0 ++ [p]))]) := by rw [fIx_ref, hat3]; simp only [at_last, hl2, okO_some]
      have cond : semB { P with fn := run tb P (k + 2) } (.and (.cons (.cmp .lt (.var 3) (.int 20000)) (.cons (.or (.cons (.cmp .eq (.var 2) (.lst .nil)) (.cons (.cmp .ne (.ix (.ix (.var 2) (.neg (.int 1))) (.int 1)) (.var 5)) .nil))) .nil))) [some (.ref b), some (.int 3), some (.ref S.length), some (.int d), some d0, some a.d] (S3 ++ [.lst (rowI (r0 ++ [p]))]) = .ok false (S3 ++ [.lst (rowI (r0 ++ [p]))]) := by
        by_cases hd : d < 20000
        · have h3 : p.2 = a := Classical.byContradiction fun z => hc ⟨hd, .inr fun q hq2 => by rw [hq] at hq2; cases hq2; exact z⟩
          have h3 : decide (p.2 = a) = true := by simpa using h3
          rw [h3] at fn
          simp only [semB, semAll, semAny, semE, semEs, coF, List.getElem?_cons_zero, List.getElem?_cons_succ, bind_ok, fLt_int, hd, decide_true, toB_bl, if_true, rn.1, Bool.false_eq_true, if_false, fNeg_int, g1, fIx_tup, at_1, okO_some, fn, Bool.not_true]
        · simp only [semB, semAll, semE, coF, List.getElem?_cons_zero, List.getElem?_cons_succ, bind_ok, fLt_int, hd, decide_false, toB_bl, Bool.false_eq_true, if_false]
      obtain ⟨v2, S4, hv2, hbs4, st3⟩ := fin (r0 ++ [p])
      refine ⟨_, _, .inl (ss_nx st1 (ss_nx (s_if1 cond) (ss_nx st3 ss0))), S4, r0 ++ [p], d + 1 + v2, some d0, some a.d, hbs4, rfl, rfl, hg, by omega, fun z => absurd z hne, fun p2 hp => ?_⟩
      have := hlast p2 hp
      omega
end K25
set_option Elab.async false
set_option linter.all false
set_option maxRecDepth 100000
set_option maxHeartbeats 4000000
/-! M26: the lines of a map. -/
namespace K25
open PySem L2 DL
theorem digS_nat (n : Nat) : digS (n : Int) = TL.numL n := TL.tl_num n
theorem numL_head : ∀ (n : Nat), 0 < n → (TL.numL n).head? ≠ some 48 := by
  intro n
  induction n using Nat.strongRecOn with
  | _ n ih =>
    intro hp
    by_cases h : n < 10
    · rw [TL.numL_lt h]
      simp
      omega
    · rw [TL.numL_step (by omega)]
      have := ih (n / 10) (by omega) (by omega)
      have hne := TL.numL_ne (n / 10)
      cases hq : TL.numL (n / 10) with
      | nil => exact absurd hq hne
      | cons c cs =>
        rw [hq] at this
        simpa using this
/-- a day's figures -/
structure DayF (d : Int) : Prop where
  len : (digS d).length ≤ 5
  ne : digS d ≠ []
  ok : okS (digS d) = true
  n10 : 10 ∉ digS d
  n32 : 32 ∉ digS d
  num : numL (digS d) 19999 = some d
  small : d.natAbs < 20000
theorem day_f {d : Int} (h0 : 0 ≤ d) (h1 : d < 20000) : DayF d := by
  obtain ⟨n, rfl⟩ : ∃ n : Nat, d = n := ⟨d.toNat, by omega⟩
  have hn : n < 20000 := by omega
  have hd := TL.numL_digits n
  have hl : (TL.numL n).length ≤ 5 := TL.numL_len (by decide) (by omega)
  have hne := TL.numL_ne n
  have hdg : dgs (TL.numL n) = true := by
    unfold dgs
    rw [List.all_eq_true]
    intro c hc
    have := hd c hc
    simp
    omega
  refine ⟨by rw [digS_nat]; exact hl, by rw [digS_nat]; exact hne, ?_, by rw [digS_nat]; exact TL.numL_free (by omega), by rw [digS_nat]; exact TL.numL_free (by omega), ?_, by omega⟩
  · rw [digS_nat]
    unfold okS
    rw [List.all_eq_true]
    intro c hc
    have := hd c hc
    simp
    omega
  · rw [digS_nat]
    have hv : valS (TL.numL n) = n := by
      unfold valS
      rw [if_neg, TL.numL_val]
      intro z
      have hm : 45 ∈ TL.numL n := List.mem_of_head? z
      have := hd 45 hm
      omega
    unfold numL
    rw [if_neg, if_neg, hv, if_pos (by omega)]
    · rintro ⟨h1, h2⟩
      by_cases hz : n = 0
      · subst hz
        exact h2 (by rw [TL.numL_lt (by decide)])
      · exact numL_head n (by omega) h1
    · simp only [Bool.or_eq_true, decide_eq_true_eq, hdg, Bool.not_true, List.isEmpty_iff, hne, Bool.false_eq_true, or_false, false_or]
      omega
/-! ### answers -/
def paysW : List Nat := [112, 97, 121, 115, 32]
def shA : An → List Nat
  | .w s => s
  | .n i => paysW ++ digS i
def shW : An → List (List Nat)
  | .w s => [s]
  | .n i => [pays, digS i]
def ansOk (a : An) : Bool := decide ((shA a).length ≤ 20) && okS (shA a) && decide (10 ∉ shA a) && decide (splC 32 (shA a) = shW a) && decide (ansS (shW a) = some a) && decide ([] ∉ shW a)
theorem ans_all : ans12.all ansOk = true := by decide +kernel
theorem ans_nat : ans12.all (fun a => match a with | .n i => decide (i.natAbs ≤ 50000000) | .w _ => true) = true := by decide
structure AnF (a : An) : Prop where
  len : (shA a).length ≤ 20
  ok : okS (shA a) = true
  n10 : 10 ∉ shA a
  spl : splC 32 (shA a) = shW a
  ans : ansS (shW a) = some a
  ne : [] ∉ shW a
theorem an_f {a : An} (h : a ∈ ans12) : AnF a := by
  have := List.all_eq_true.mp ans_all a h
  simp only [ansOk, Bool.and_eq_true, decide_eq_true_eq] at this
  obtain ⟨⟨⟨⟨⟨h1, h2⟩, h3⟩, h4⟩, h5⟩, h6⟩ := this
  exact ⟨h1, h2, h3, h4, h5, h6⟩
theorem an_n {i : Int} (h : An.n i ∈ ans12) : i.natAbs ≤ 50000000 := by
  have := List.all_eq_true.mp ans_nat _ h
  simpa using this
/-! ### lines -/
def kLine (k : Int) : List Nat := knownW ++ 32 :: digS k
def sLine (p : Int × An) : List Nat := [32, 32] ++ (digS p.1 ++ 32 :: shA p.2)
def rowLs (e : Int × Row) : List (List Nat) := kLine e.1 :: e.2.map sLine
def mapLs (m : List (Int × Row)) : List (List Nat) := m.flatMap rowLs
def joinN (ls : List (List Nat)) : List Nat := ls.flatMap fun l => l ++ [10]
theorem joinN_app (a b : List (List Nat)) : joinN (a ++ b) = joinN a ++ joinN b := by simp [joinN]
theorem split_joinN : ∀ {ls : List (List Nat)}, (∀ l ∈ ls, 10 ∉ l) → splC 10 (joinN ls) = ls ++ [[]]
  | [], _ => by simp [joinN, splC]
  | l :: ls, h => by
    have h1 := h l (by simp)
    have ih := split_joinN (ls := ls) fun x hx => h x (List.mem_cons_of_mem _ hx)
    have e : joinN (l :: ls) = l ++ 10 :: joinN ls := by simp [joinN]
    rw [e, splC_app h1, ih]
    rfl
theorem joinN_len {c : Nat} : ∀ {ls : List (List Nat)}, (∀ l ∈ ls, l.length ≤ c) → (joinN ls).length ≤ (c + 1) * ls.length
  | [], _ => by simp [joinN]
  | l :: ls, h => by
    have h1 := h l (by simp)
    have ih := joinN_len (c := c) (ls := ls) fun x hx => h x (List.mem_cons_of_mem _ hx)
    have e : joinN (l :: ls) = l ++ 10 :: joinN ls := by simp [joinN]
    rw [e, List.length_append, List.length_cons, List.length_cons, Nat.mul_add]
    omega
theorem okS_app {a b : List Nat} (ha : okS a = true) (hb : okS b = true) : okS (a ++ b) = true := by
  unfold okS at *
  rw [List.all_append, ha, hb]
  rfl
theorem okS_cons {c : Nat} {b : List Nat} (hc : c < 1114112) (hb : okS b = true) : okS (c :: b) = true := by
  unfold okS at *
  simp only [List.all_cons, hc, decide_true, Bool.true_and]
  exact hb
theorem joinN_ok : ∀ {ls : List (List Nat)}, (∀ l ∈ ls, okS l = true) → okS (joinN ls) = true
  | [], _ => rfl
  | l :: ls, h => by
    have e : joinN (l :: ls) = l ++ 10 :: joinN ls := by simp [joinN]
    rw [e]
    exact okS_app (h l (by simp)) (okS_cons (by decide) (joinN_ok fun x hx => h x (List.mem_cons_of_mem _ hx)))
/-- maps that are drawn -/
inductive MapG : List (Int × Row) → Prop where
  | one {r : Row} : RowG r → r ≠ [] → r.length ≤ 3 → MapG [(0, r)]
  | snoc {m : List (Int × Row)} {k k2 : Int} {r r2 : Row} : MapG (m ++ [(k, r)]) → k < k2 → k2 < 20000 → r2 ≠ r → RowG r2 → r2 ≠ [] → r2.length ≤ 3 → MapG (m ++ [(k, r)] ++ [(k2, r2)])
theorem MapG.all {m : List (Int × Row)} (h : MapG m) : ∀ e ∈ m, 0 ≤ e.1 ∧ e.1 < 20000 ∧ RowG e.2 ∧ e.2 ≠ [] ∧ e.2.length ≤ 3 := by
  induction h with
  | one h1 h2 h3 =>
    intro e he
    rw [List.mem_singleton.mp he]
    exact ⟨by simp, by simp, h1, h2, h3⟩
  | snoc h h1 h2 h3 h4 h5 h6 ih =>
    intro e he
    rcases List.mem_append.mp he with he | he
    · exact ih e he
    · rw [List.mem_singleton.mp he]
      have := (ih _ (List.mem_append_right _ (List.mem_singleton.mpr rfl))).1
      exact ⟨by dsimp only at this ⊢; omega, h2, h4, h5, h6⟩
/-- what the lines of a drawn map are like -/
theorem line_f {m : List (Int × Row)} (h : ∀ e ∈ m, 0 ≤ e.1 ∧ e.1 < 20000 ∧ RowG e.2) : ∀ l ∈ mapLs m, l.length ≤ 40 ∧ okS l = true ∧ 10 ∉ l := by
  intro l hl
  obtain ⟨e, he, hl⟩ := List.mem_flatMap.mp hl
  obtain ⟨h0, h1, hr⟩ := h e he
  rcases List.mem_cons.mp hl with rfl | hl
  · have f := day_f h0 h1
    refine ⟨?_, okS_app (by decide) (okS_cons (by decide) f.ok), ?_⟩
    · have := f.len
      simp [kLine, knownW]
      omega
    · have := f.n10
      simp [kLine, knownW, this]
  · obtain ⟨p, hp, rfl⟩ := List.mem_map.mp hl
    obtain ⟨h2, h3, h4⟩ := hr.last p hp
    have f := day_f h3 h4
    have g := an_f h2
    refine ⟨?_, okS_app (by decide) (okS_app f.ok (okS_cons (by decide) g.ok)), ?_⟩
    · have := f.len
      have := g.len
      simp [sLine]
      omega
    · have := f.n10
      have := g.n10
      simp [sLine, *]
theorem flat_len {α β : Type} {f : α → List β} {c : Nat} : ∀ {l : List α}, (∀ x ∈ l, (f x).length ≤ c) → (l.flatMap f).length ≤ c * l.length
  | [], _ => by simp
  | x :: l, h => by
    have h1 := h x (by simp)
    have ih := flat_len (f := f) (c := c) (l := l) fun y hy => h y (List.mem_cons_of_mem _ hy)
    rw [List.flatMap_cons, List.length_append, List.length_cons, Nat.mul_add]
    omega
theorem mapLs_len {m : List (Int × Row)} (h : ∀ e ∈ m, e.2.length ≤ 3) : (mapLs m).length ≤ 4 * m.length := flat_len fun e he => by
  have := h e he
  simp [rowLs]
  omega
end K25
set_option Elab.async false
set_option linter.all false
set_option maxRecDepth 100000
set_option maxHeartbeats 4000000
/-! M27: the text of a drawn map, read. -/
namespace K25
open PySem L2 DL
theorem split_k {k : Int} (f : DayF k) : splC 32 (kLine k) = [knownW, digS k] := by
  unfold kLine
  rw [splC_app (by decide), splC_last f.n32]
theorem split_s {p : Int × An} (f : DayF p.1) (g : AnF p.2) : splC 32 (sLine p) = [] :: [] :: digS p.1 :: shW p.2 := by
  show splC 32 (32 :: 32 :: (digS p.1 ++ 32 :: shA p.2)) = _
  rw [splC, if_pos rfl, splC, if_pos rfl, splC_app f.n32, g.spl]
theorem goS_app : ∀ {a b : List (List (List Nat))} {n : Nat} {st : List Ent}, goS (a ++ b) n st = match goS a n st with
    | .go st2 => goS b (n + a.length) st2
    | .no p f => .no p f
  | [], b, n, st => by simp [goS]
  | x :: a, b, n, st => by
    rw [List.cons_append, goS, goS]
    cases stepS st n x with
    | no p f => rfl
    | go st1 =>
      dsimp only
      rw [goS_app, List.length_cons, show n + (a.length + 1) = n + 1 + a.length by omega]
theorem shW_two (a : An) : ∃ y l, shW a = y :: l := by
  cases a with
  | w s => exact ⟨s, [], rfl⟩
  | n i => exact ⟨pays, [digS i], rfl⟩
theorem step_s {pre : List Ent} {k p : Int} {r : Row} {n : Nat} {d : Int} {a : An} (f : DayF d) (g : AnF a) (h : (r = [] ∧ d = 0) ∨ ∃ q, r.getLast? = some q ∧ q.1 < d ∧ q.2 ≠ a) :
    stepS (pre ++ [⟨k, p, r⟩]) n ([] :: [] :: digS d :: shW a) = .go (pre ++ [⟨k, p, r ++ [(d, a)]⟩]) := by
  have hl : lastS (pre ++ [⟨k, p, r⟩]) = some (k, r) := by simp [lastS]
  have hk : isKn ([] :: [] :: digS d :: shW a) = false := by
    obtain ⟨y, l, e⟩ := shW_two a
    rw [e]
    rfl
  have hs : isSt ([] :: [] :: digS d :: shW a) = true := by
    have h1 := g.ne
    obtain ⟨y, l, e⟩ := shW_two a
    rw [e] at h1 ⊢
    have h2 := f.ne
    simp only [List.mem_cons, not_or] at h1
    simp [isSt, h1, Ne.symm h2]
  have hf : faultS (some (k, r)) ([] :: [] :: digS d :: shW a) = [] := by
    have e1 : ansS (List.drop 3 ([] :: [] :: digS d :: shW a)) = some a := g.ans
    have e2 : (([] :: [] :: digS d :: shW a : List (List Nat))).getD 2 [] = digS d := rfl
    simp only [faultS, hk, hs, faultR, e1, e2]
    rcases h with ⟨rfl, rfl⟩ | ⟨q, hq, h1, h2⟩
    · simp [folS, f.num]
    · simp [folS, f.num, hq, h1, h2]
  unfold stepS
  rw [hl, hf, hk, if_neg (by simp), if_neg (by simp), if_neg (by simp)]
  have e2 : (([] :: [] :: digS d :: shW a : List (List Nat))).getD 2 [] = digS d := rfl
  have e1 : List.drop 3 ([] :: [] :: digS d :: shW a) = shW a := rfl
  rw [e2, e1]
  simp [growE, dayN, f.num, ansV, g.ans]
theorem step_k {st : List Ent} {n : Nat} {k : Int} (f : DayF k) (hs : sameE st = false) (h : (st = [] ∧ k = 0) ∨ ∃ k0 r, lastS st = some (k0, r) ∧ r ≠ [] ∧ k0 < k) :
    stepS st n [knownW, digS k] = .go (st ++ [⟨k, (n : Int) + 1, []⟩]) := by
  have hk : isKn [knownW, digS k] = true := by simp [isKn, f.ne]
  have hf : faultS (lastS st) [knownW, digS k] = [] := by
    rcases h with ⟨rfl, rfl⟩ | ⟨k0, r, hl, h1, h2⟩
    · have : lastS [] = none := rfl
      simp [this, faultS, hk, folS, f.num]
    · rw [hl]
      simp [faultS, hk, h1, folS, f.num, h2]
  unfold stepS
  rw [hf, hk, hs, if_neg (by simp), if_neg (by simp), if_pos rfl]
  simp [dayN, f.num]
theorem go_row {r : Row} (h : RowG r) : ∀ {n : Nat} {pre : List Ent} {k p : Int}, goS ((r.map sLine).map (splC 32)) n (pre ++ [⟨k, p, []⟩]) = .go (pre ++ [⟨k, p, r⟩]) := by
  induction h with
  | nil => intros; rfl
  | one ha =>
    intro n pre k p
    have f := day_f (d := 0) (by decide) (by decide)
    have g := an_f ha
    simp only [List.map_cons, List.map_nil, goS]
    rw [split_s f g, step_s f g (.inl ⟨rfl, rfl⟩)]
    rfl
  | @snoc r d e a c h1 h2 h3 h4 h5 ih =>
    intro n pre k p
    have q := h1.last _ (List.mem_append_right _ (List.mem_singleton.mpr rfl))
    have f := day_f (by dsimp only at q; omega) h3
    have g := an_f h5
    rw [List.map_append, List.map_append, goS_app, ih]
    simp only [List.map_cons, List.map_nil, goS]
    rw [split_s f g, step_s f g (.inr ⟨(d, a), by simp, h2, h4⟩)]
theorem go_map {m : List (Int × Row)} (h : MapG m) : ∃ st, goS ((mapLs m).map (splC 32)) 0 [] = .go st ∧ st.map (fun e => (e.k, e.r)) = m ∧ sameE st = false ∧ st ≠ [] ∧ ∀ e ∈ st, e.r ≠ [] := by
  induction h with
  | one h1 h2 h3 =>
    have f := day_f (d := 0) (by decide) (by decide)
    refine ⟨[⟨0, 1, _⟩], ?_, rfl, rfl, by simp, fun e he => by rw [List.mem_singleton.mp he]; exact h2⟩
    simp only [mapLs, rowLs, List.flatMap_cons, List.flatMap_nil, List.append_nil, List.map_cons, goS]
    rw [split_k f, step_k f rfl (.inl ⟨rfl, rfl⟩)]
    exact go_row h1 (pre := [])
  | @snoc m k k2 r r2 h h1 h2 h3 h4 h5 h6 ih =>
    obtain ⟨st, e1, e2, e3, e4, e5⟩ := ih
    obtain ⟨pre, e, rfl⟩ := (List.eq_nil_or_concat st).resolve_left e4
    rw [List.concat_eq_append] at *
    have e2' := e2
    rw [List.map_append, List.map_cons, List.map_nil] at e2
    have e6 := List.append_inj' e2 rfl
    have e7 : e.k = k ∧ e.r = r := by
      have := e6.2
      simpa using this
    have hk0 := (h.all _ (List.mem_append_right _ (List.mem_singleton.mpr rfl))).1
    have f := day_f (d := k2) (by dsimp only at hk0; omega) h2
    refine ⟨pre ++ [e] ++ [⟨k2, ((0 + (List.map (splC 32) (mapLs (m ++ [(k, r)]))).length : Nat) : Int) + 1, r2⟩], ?_, ?_, ?_, by simp, fun x hx => ?_⟩
    · have : mapLs (m ++ [(k, r)] ++ [(k2, r2)]) = mapLs (m ++ [(k, r)]) ++ rowLs (k2, r2) := by simp [mapLs]
      rw [this, List.map_append, goS_app, e1]
      simp only [rowLs, List.map_cons, goS]
      rw [split_k f, step_k f e3 (.inr ⟨e.k, e.r, by simp [lastS], e5 e (by simp), by rw [e7.1]; exact h1⟩)]
      exact go_row h4
    · rw [List.map_append, e2']
      rfl
    · rw [List.append_assoc, List.singleton_append, sameE_two]
      have : r2 ≠ e.r := by rw [e7.2]; exact h3
      simp [this]
    · rcases List.mem_append.mp hx with hx | hx
      · exact e5 x hx
      · rw [List.mem_singleton.mp hx]
        exact h5
/-- the plain value of a map -/
def mapM (m : List (Int × Row)) : DL.D := .tup (m.map fun e => .tup [.int e.1, .tup (rowI e.2)])
theorem read_map {m : List (Int × Row)} (h : MapG m) : ∃ st, readS (joinN (mapLs m)) = .go st ∧ mapD st = mapM m := by
  obtain ⟨st, e1, e2, e3, e4, e5⟩ := go_map h
  have hl : ∀ l ∈ mapLs m, 10 ∉ l := fun l hl => (line_f (fun e he => let q := h.all e he; ⟨q.1, q.2.1, q.2.2.1⟩) l hl).2.2
  refine ⟨st, ?_, ?_⟩
  · unfold readS
    rw [split_joinN hl, List.dropLast_concat, e1]
    dsimp only
    rw [endS_eq, e3, if_neg (by simp)]
    have : badEnd ((mapLs m ++ [[]]).getLast?.getD []) st = false := by
      obtain ⟨pre, e, rfl⟩ := (List.eq_nil_or_concat st).resolve_left e4
      have := e5 e (by simp)
      simp [badEnd, this]
    rw [this, if_neg (by simp)]
  · rw [← e2]
    simp only [mapD, mapM, List.map_map]
    rfl
end K25
set_option Elab.async false
set_option linter.all false
set_option maxRecDepth 100000
set_option maxHeartbeats 4000000
/-! M28: the texts that are written. -/
namespace K25
open PySem L2 DL
theorem forG_list {α : Type} {gd : Gd} {t : Tg} {b : MS} {e : α → DL.D} {m : List α} (Inv : List α → DL.Loc → Sto → Prop) (hg : ∀ l r S, Inv l r S → gdOk gd S)
    (hs : ∀ pre x post r S, m = pre ++ x :: post → Inv pre r S → ∃ r2, asg t (e x) r = some r2 ∧ ∃ r3 S3, b r2 S = .nx r3 S3 ∧ Inv (pre ++ [x]) r3 S3) : ∀ (post pre : List α) (r : DL.Loc) (S : Sto), m = pre ++ post → Inv pre r S → ∃ r3 S3, forG gd t b (post.map e) r S = .nx r3 S3 ∧ Inv m r3 S3
  | [], pre, r, S, h, hi => by
    rw [List.append_nil] at h
    subst h
    refine ⟨r, S, ?_, hi⟩
    have := hg _ r S hi
    simp [forG, this]
  | x :: post, pre, r, S, h, hi => by
    obtain ⟨r2, h1, r3, S3, h2, h3⟩ := hs pre x post r S h hi
    obtain ⟨r4, S4, h4, h5⟩ := forG_list Inv hg hs post (pre ++ [x]) r3 S3 (by rw [h]; simp) h3
    refine ⟨r4, S4, ?_, h5⟩
    have hg' := hg _ r S hi
    rw [List.map_cons]
    simp only [forG, hg', if_true, asgS, h1, seq_nx]
    rw [h2, turn_nx, h4]
theorem log_small {n : Nat} (h : n ≤ 50000000) : n.log2 < 1920 := by
  by_cases h0 : n = 0
  · subst h0
    decide
  · have : n.log2 < 26 := (Nat.log2_lt h0).mpr (by omega)
    omega
theorem fStr_i {i : Int} (h : i.natAbs ≤ 50000000) {S : Sto} : fStr [.int i] S = .ok (.str (digS i)) S := by
  unfold fStr
  dsimp only
  rw [if_pos (log_small h)]
theorem fFmt_i {i : Int} (h : i.natAbs ≤ 50000000) {S : Sto} : fFmt (.int i) S = .ok (.str (digS i)) S := by
  unfold fFmt
  dsimp only
  rw [if_pos (log_small h)]
theorem an_shown {Q : Par} {r : DL.Loc} {S : Sto} {a : An} (ha : a ∈ ans12) (h : r[5]? = some (some a.d)) : semE Q (.ite (.not (.isi (.var 5) "str")) (.bin .add (.str [112, 97, 121, 115, 32]) (.blt .str (.cons (.var 5) .nil))) (.var 5)) r S = .ok (.str (shA a)) S := by
  cases a with
  | w s => simp [semE, semB, h, An.d, shA]
  | n i =>
    have hl := (an_f ha).len
    have hi := an_n ha
    simp only [shA, List.length_append] at hl
    have e := fStr_i hi (S := S)
    have e2 : fAdd (.str [112, 97, 121, 115, 32]) (.str (digS i)) S = .ok (.str (paysW ++ digS i)) S := fAdd_str (by simp [paysW] at hl ⊢; omega)
    simp [semE, semB, semEs, h, An.d, shA, biF, boF, e, e2]
/-- the lines of a row, one behind the other -/
theorem text_row {Q : Par} {S : Sto} {x0 x2 x3 x4 x5 : Option DL.D} {r : Row} (hr : RowG r) (hl : r.length ≤ 3) {T0 : List Nat} (hT : T0.length ≤ 100000) (h3 : x3 = some (.tup (rowI r))) :
    ∃ y4 y5, semS (.forr (.tup (.cons (.name 4) (.cons (.name 5) .nil))) (.plain (.var 3)) (.cons (.asg (.name 1) (.bin .add (.bin .add (.bin .add (.bin .add (.bin .add (.var 1) (.str [32, 32])) (.blt .str (.cons (.var 4) .nil))) (.str [32])) (.ite (.not (.isi (.var 5) "str")) (.bin .add (.str [112, 97, 121, 115, 32]) (.blt .str (.cons (.var 5) .nil))) (.var 5))) (.str [10])))
  .nil)) Q [x0, some (.str T0), x2, x3, x4, x5] S = .nx [x0, some (.str (T0 ++ joinN (r.map sLine))), x2, x3, y4, y5] S := by
  subst h3
  have key := forG_list (gd := none) (t := .tup (.cons (.name 4) (.cons (.name 5) .nil))) (b := semSs (.cons (.asg (.name 1) (.bin .add (.bin .add (.bin .add (.bin .add (.bin .add (.var 1) (.str [32, 32])) (.blt .str (.cons (.var 4) .nil))) (.str [32])) (.ite (.not (.isi (.var 5) "str")) (.bin .add (.str [112, 97, 121, 115, 32]) (.blt .str (.cons (.var 5) .nil))) (.var 5))) (.str [10])))
  .nil) Q) (e := fun p : Int × An => DL.D.tup [.int p.1, p.2.d]) (m := r)
    (fun pre rr SS => ∃ y4 y5, rr = [x0, some (.str (T0 ++ joinN (pre.map sLine))), x2, some (.tup (rowI r)), y4, y5] ∧ SS = S) (fun _ _ _ _ => trivial) ?_ r [] [x0, some (.str T0), x2, some (.tup (rowI r)), x4, x5] S rfl ⟨x4, x5, by simp [joinN], rfl⟩
  · obtain ⟨r3, S3, e, y4, y5, rfl, rfl⟩ := key
    exact ⟨y4, y5, s_for (w := (rowI r, none)) (by simp [semI, semE, walk]) e⟩
  · rintro pre p post rr SS hm ⟨y4, y5, rfl, rfl⟩
    refine ⟨_, rfl, ?_⟩
    have hp : p ∈ r := by rw [hm]; simp
    obtain ⟨h2, h3, h4⟩ := hr.last p hp
    have f := day_f h3 h4
    have g := an_f h2
    have hpl : pre.length ≤ 3 := by
      rw [hm] at hl
      simp at hl
      omega
    have hjl : (joinN (pre.map sLine)).length ≤ 41 * 3 := by
      have := joinN_len (c := 40) (ls := pre.map sLine) (fun l hl2 => by
        obtain ⟨q, hq, rfl⟩ := List.mem_map.mp hl2
        obtain ⟨h2, h3, h4⟩ := hr.last q (by rw [hm]; simp [hq])
        have f := (day_f h3 h4).len
        have g := (an_f h2).len
        simp [sLine]
        omega)
      rw [List.length_map] at this
      omega
    have hfl := f.len
    have hgl := g.len
    have es := fStr_i (i := p.1) (by have := f.small; omega) (S := SS)
    have ej : joinN ((pre ++ [p]).map sLine) = joinN (pre.map sLine) ++ (sLine p ++ [10]) := by simp [joinN]
    generalize joinN (pre.map sLine) = J at *
    have a1 : fAdd (.str (T0 ++ J)) (.str [32, 32]) SS = .ok (.str (T0 ++ J ++ [32, 32])) SS := fAdd_str (by simp; omega)
    have a2 : fAdd (.str (T0 ++ J ++ [32, 32])) (.str (digS p.1)) SS = .ok (.str (T0 ++ J ++ [32, 32] ++ digS p.1)) SS := fAdd_str (by simp; omega)
    have a3 : fAdd (.str (T0 ++ J ++ [32, 32] ++ digS p.1)) (.str [32]) SS = .ok (.str (T0 ++ J ++ [32, 32] ++ digS p.1 ++ [32])) SS := fAdd_str (by simp; omega)
    have a4 : fAdd (.str (T0 ++ J ++ [32, 32] ++ digS p.1 ++ [32])) (.str (shA p.2)) SS = .ok (.str (T0 ++ J ++ [32, 32] ++ digS p.1 ++ [32] ++ shA p.2)) SS := fAdd_str (by simp; omega)
    have a5 : fAdd (.str (T0 ++ J ++ [32, 32] ++ digS p.1 ++ [32] ++ shA p.2)) (.str [10]) SS = .ok (.str (T0 ++ J ++ [32, 32] ++ digS p.1 ++ [32] ++ shA p.2 ++ [10])) SS := fAdd_str (by simp; omega)
    have an := an_shown (Q := Q) (r := [x0, some (.str (T0 ++ J)), x2, some (.tup (rowI r)), some (.int p.1), some p.2.d]) (S := SS) h2 rfl
    refine ⟨_, _, ss_nx (s_asg0 (.str (T0 ++ J ++ [32, 32] ++ digS p.1 ++ [32] ++ shA p.2 ++ [10])) ?_ rfl) ss0, some (.int p.1), some p.2.d, ?_, rfl⟩
    · show semE Q _ [x0, some (.str (T0 ++ J)), x2, some (.tup (rowI r)), some (.int p.1), some p.2.d] SS = _
      have e4 : semE Q (.bin .add (.bin .add (.bin .add (.var 1) (.str [32, 32])) (.blt .str (.cons (.var 4) .nil))) (.str [32])) [x0, some (.str (T0 ++ J)), x2, some (.tup (rowI r)), some (.int p.1), some p.2.d] SS = .ok (.str (T0 ++ J ++ [32, 32] ++ digS p.1 ++ [32])) SS := by
        simp only [semE, semEs, List.getElem?_cons_zero, List.getElem?_cons_succ, bind_ok, boF, biF, es, a1, a2, a3]
      have e5 : semE Q (.bin .add (.bin .add (.bin .add (.bin .add (.var 1) (.str [32, 32])) (.blt .str (.cons (.var 4) .nil))) (.str [32])) (.ite (.not (.isi (.var 5) "str")) (.bin .add (.str [112, 97, 121, 115, 32]) (.blt .str (.cons (.var 5) .nil))) (.var 5))) [x0, some (.str (T0 ++ J)), x2, some (.tup (rowI r)), some (.int p.1), some p.2.d] SS = .ok (.str (T0 ++ J ++ [32, 32] ++ digS p.1 ++ [32] ++ shA p.2)) SS := by
        rw [semE]
        dsimp only
        rw [e4]
        simp only [bind_ok]
        rw [an]
        simp only [bind_ok, boF, a4]
      rw [semE]
      dsimp only
      rw [e5]
      simp only [bind_ok, semE, boF, a5]
    · rw [ej]
      simp [sLine]
def mapE (e : Int × Row) : DL.D := .tup [.int e.1, .tup (rowI e.2)]
theorem ltext_ok (k : Nat) {m : List (Int × Row)} (hm : ∀ e ∈ m, 0 ≤ e.1 ∧ e.1 < 20000 ∧ RowG e.2 ∧ e.2 ≠ [] ∧ e.2.length ≤ 3) (hml : m.length ≤ 10) {S : Sto} {i : Nat} (hS : S[i]? = some (.lst (m.map mapE))) :
    run tb P (k + 1) 16 [.ref i] S = .ok (.str (joinN (mapLs m))) S := by
  have key := forG_list (gd := some (i, m.map mapE)) (t := .tup (.cons (.name 2) (.cons (.name 3) .nil))) (b := semSs (match a_law_text_u with
      | .cons _ (.cons (.forr _ _ b) _) => b
      | _ => .nil) { P with fn := run tb P k }) (e := mapE) (m := m)
    (fun pre rr SS => ∃ y2 y3 y4 y5, rr = [some (.ref i), some (.str (joinN (mapLs pre))), y2, y3, y4, y5] ∧ SS = S) (fun _ _ _ ⟨_, _, _, _, _, h⟩ => by rw [h]; exact hS) ?_ m [] [some (.ref i), some (.str []), none, none, none, none] S rfl ⟨none, none, none, none, by simp [joinN, mapLs], rfl⟩
  · obtain ⟨r3, S3, e, y2, y3, y4, y5, rfl, rfl⟩ := key
    refine run_of (d := d_16) (x := .ret (.str (joinN (mapLs m))) S3) rfl rfl ?_ (fin_pl rfl)
    refine ss_nx (s_asg0 (.str []) (by simp [semE]) rfl) ?_
    refine ss_nx (s_for (w := (m.map mapE, some (i, m.map mapE))) (S2 := S3) ?_ e) (ss_ret (s_ret0 (by simp [semE])))
    simp [semI, semE, startL, d_16, walk, hS]
  · rintro pre p post rr SS he ⟨y2, y3, y4, y5, rfl, rfl⟩
    refine ⟨_, rfl, ?_⟩
    have hp := hm p (by rw [he]; simp)
    have f := day_f hp.1 hp.2.1
    have hpl : pre.length ≤ 10 := by
      rw [he] at hml
      simp at hml
      omega
    have hpm : ∀ e ∈ pre, 0 ≤ e.1 ∧ e.1 < 20000 ∧ RowG e.2 ∧ e.2 ≠ [] ∧ e.2.length ≤ 3 := fun e h => hm e (by rw [he]; simp [h])
    have hjl : (joinN (mapLs pre)).length ≤ 41 * 40 := by
      have h1 := joinN_len (c := 40) (ls := mapLs pre) (fun l hl => (line_f (fun e h => let q := hpm e h; ⟨q.1, q.2.1, q.2.2.1⟩) l hl).1)
      have h2 := mapLs_len (m := pre) fun e h => (hpm e h).2.2.2.2
      omega
    have hfl := f.len
    have es := fStr_i (i := p.1) (by have := f.small; omega) (S := SS)
    have ej : joinN (mapLs (pre ++ [p])) = joinN (mapLs pre) ++ (kLine p.1 ++ [10]) ++ joinN (p.2.map sLine) := by
      simp [mapLs, rowLs, joinN]
    generalize joinN (mapLs pre) = J at *
    have a1 : fAdd (.str J) (.str [107, 110, 111, 119, 110, 32]) SS = .ok (.str (J ++ [107, 110, 111, 119, 110, 32])) SS := fAdd_str (by simp; omega)
    have a2 : fAdd (.str (J ++ [107, 110, 111, 119, 110, 32])) (.str (digS p.1)) SS = .ok (.str (J ++ [107, 110, 111, 119, 110, 32] ++ digS p.1)) SS := fAdd_str (by simp; omega)
    have a3 : fAdd (.str (J ++ [107, 110, 111, 119, 110, 32] ++ digS p.1)) (.str [10]) SS = .ok (.str (J ++ (kLine p.1 ++ [10]))) SS := by
      rw [fAdd_str (by simp; omega)]
      simp [kLine, knownW]
    obtain ⟨z4, z5, e2⟩ := text_row (Q := { P with fn := run tb P k }) (S := SS) (x0 := some (.ref i)) (x2 := some (.int p.1)) (x3 := some (.tup (rowI p.2))) (x4 := y4) (x5 := y5) hp.2.2.1 hp.2.2.2.2 (T0 := J ++ (kLine p.1 ++ [10])) (by simp [kLine, knownW]; omega) rfl
    refine ⟨_, _, ss_nx (s_asg0 (.str (J ++ (kLine p.1 ++ [10]))) (by simp only [semE, semEs, List.getElem?_cons_zero, List.getElem?_cons_succ, List.set_cons_zero, List.set_cons_succ, bind_ok, boF, biF, es, a1, a2, a3]) rfl) (ss_nx e2 ss0), some (.int p.1), some (.tup (rowI p.2)), z4, z5, ?_, rfl⟩
    rw [ej]
end K25
set_option Elab.async false
set_option linter.all false
set_option maxRecDepth 100000
set_option maxHeartbeats 4000000
/-! M29: show_map. -/
namespace K25
open PySem L2 DL
theorem shown_ok (k : Nat) {a : An} (ha : a ∈ ans12) {S : Sto} : run tb P (k + 1) 3 [a.d] S = .ok (.str (shA a)) S := by
  refine run_of (d := d_3) (x := .ret (.str (shA a)) S) rfl rfl ?_ (fin_pl rfl)
  refine ss_ret (s_ret0 ?_)
  cases a with
  | w s => simp [startL, d_3, semE, semB, An.d, shA]
  | n i =>
    have hl := (an_f ha).len
    have hi := an_n ha
    simp only [shA, List.length_append] at hl
    have e := fFmt_i hi (S := S)
    have e2 : fCat [[112, 97, 121, 115, 32], digS i] S = .ok (.str (paysW ++ digS i)) S := by
      unfold fCat
      rw [if_pos (by simp [paysW] at hl ⊢; omega)]
      simp [paysW]
    have hd : (digS i).length ≤ 100000 := by omega
    simp [startL, d_3, semE, semB, semJ, An.d, shA, e, e2, hd]
theorem strs_map : ∀ ls : List (List Nat), strsD (ls.map .str) = some ls
  | [] => rfl
  | l :: ls => by simp [strsD, strs_map ls]
theorem join_nil : ∀ ls : List (List Nat), joinS [] ls = ls.flatten
  | [] => rfl
  | [x] => by simp [joinS]
  | x :: y :: r => by
    rw [joinS, join_nil (y :: r)]
    simp
def nl (l : List Nat) : List Nat := l ++ [10]
theorem flat_nl (ls : List (List Nat)) : (ls.map nl).flatten = joinN ls := by
  simp only [joinN, List.flatMap]
  rfl
/-- a text more -/
theorem app_str {Q : Par} {S : Sto} {r : DL.Loc} {L : List (List Nat)} {e : Ex} {l : List Nat} (hr : r[1]? = some (some (.ref S.length))) (hl : L.length < 1000000) (he : semE Q e r (S ++ [.lst (L.map .str)]) = .ok (.str l) (S ++ [.lst (L.map .str)])) :
    semS (.expr (.mth .append (.var 1) (.cons e .nil))) Q r (S ++ [.lst (L.map .str)]) = .nx r (S ++ [.lst ((L ++ [l]).map .str)]) := by
  have hat : (S ++ [Ob.lst (L.map .str)])[S.length]? = some (.lst (L.map .str)) := by simp
  have ap : fAppend (.ref S.length) [.str l] (S ++ [.lst (L.map .str)]) = .ok .non (S ++ [.lst ((L ++ [l]).map .str)]) := by
    rw [fAppend_ref, hat]
    dsimp only
    rw [if_pos (by simpa using hl), set_end]
    simp
  have mo : mtOk .append (.ref S.length) (S ++ [.lst (L.map .str)]) = true := by rw [mtOk_ref, hat]; rfl
  refine s_expr (d := .non) ?_
  rw [semE]
  dsimp only
  rw [semE]
  dsimp only
  rw [hr]
  simp only [bind_ok, mo, if_true, semEs]
  rw [he]
  simp only [bind_ok, mtF, ap]
theorem show_row (k : Nat) {S : Sto} {x0 x2 x4 x5 : Option DL.D} {r : Row} (hr : RowG r) (hl : r.length ≤ 3) {L : List (List Nat)} (hL : L.length ≤ 100000) :
    ∃ y4 y5, semS (.forr (.tup (.cons (.name 4) (.cons (.name 5) .nil))) (.plain (.var 3)) (.cons (.expr (.mth .append (.var 1) (.cons (.joi (.cons (.str [32, 32]) (.cons (.fmt (.var 4)) (.cons (.str [32]) (.cons (.fmt (.call 3 (.cons (.var 5) .nil))) (.cons (.str [10]) .nil)))))) .nil)))
  .nil)) { P with fn := run tb P (k + 1) } [x0, some (.ref S.length), x2, some (.tup (rowI r)), x4, x5] (S ++ [.lst (L.map .str)]) = .nx [x0, some (.ref S.length), x2, some (.tup (rowI r)), y4, y5] (S ++ [.lst ((L ++ (r.map sLine).map nl).map .str)]) := by
  have key := forG_list (gd := none) (t := .tup (.cons (.name 4) (.cons (.name 5) .nil))) (b := semSs (.cons (.expr (.mth .append (.var 1) (.cons (.joi (.cons (.str [32, 32]) (.cons (.fmt (.var 4)) (.cons (.str [32]) (.cons (.fmt (.call 3 (.cons (.var 5) .nil))) (.cons (.str [10]) .nil)))))) .nil)))
  .nil) { P with fn := run tb P (k + 1) }) (e := fun p : Int × An => DL.D.tup [.int p.1, p.2.d]) (m := r)
    (fun pre rr SS => ∃ y4 y5, rr = [x0, some (.ref S.length), x2, some (.tup (rowI r)), y4, y5] ∧ SS = S ++ [.lst ((L ++ (pre.map sLine).map nl).map .str)]) (fun _ _ _ _ => trivial) ?_ r [] [x0, some (.ref S.length), x2, some (.tup (rowI r)), x4, x5] (S ++ [.lst (L.map .str)]) rfl ⟨x4, x5, rfl, by simp⟩
  · obtain ⟨r3, S3, e, y4, y5, rfl, rfl⟩ := key
    exact ⟨y4, y5, s_for (w := (rowI r, none)) (by simp [semI, semE, walk]) e⟩
  · rintro pre p post rr SS hm ⟨y4, y5, rfl, hSS⟩
    refine ⟨_, rfl, ?_⟩
    have hp : p ∈ r := by rw [hm]; simp
    obtain ⟨h2, h3, h4⟩ := hr.last p hp
    have f := day_f h3 h4
    have g := an_f h2
    have hpl : pre.length ≤ 3 := by
      rw [hm] at hl
      simp at hl
      omega
    have hfl := f.len
    have hgl := g.len
    have es := fFmt_i (i := p.1) (by have := f.small; omega) (S := SS)
    have sh := shown_ok k h2 (S := SS)
    have hc : fCat [[32, 32], digS p.1, [32], shA p.2, [10]] SS = .ok (.str (nl (sLine p))) SS := by
      unfold fCat
      rw [if_pos (by simp; omega)]
      simp [nl, sLine]
    have ff : fFmt (.str (shA p.2)) SS = .ok (.str (shA p.2)) SS := by
      unfold fFmt
      dsimp only
      rw [if_pos (by omega)]
    have hd : (digS p.1).length ≤ 100000 := by omega
    have hd2 : (shA p.2).length ≤ 100000 := by omega
    have ee : semE { P with fn := run tb P (k + 1) } (.joi (.cons (.str [32, 32]) (.cons (.fmt (.var 4)) (.cons (.str [32]) (.cons (.fmt (.call 3 (.cons (.var 5) .nil))) (.cons (.str [10]) .nil)))))) [x0, some (.ref S.length), x2, some (.tup (rowI r)), some (.int p.1), some p.2.d] SS = .ok (.str (nl (sLine p))) SS := by
      simp [semE, semEs, semJ, es, sh, ff, hd, hd2, hc]
    subst hSS
    exact ⟨_, _, ss_nx (app_str rfl (by simp; omega) ee) ss0, some (.int p.1), some p.2.d, rfl, by simp⟩
theorem show_ok (k : Nat) {m : List (Int × Row)} (hm : ∀ e ∈ m, 0 ≤ e.1 ∧ e.1 < 20000 ∧ RowG e.2 ∧ e.2 ≠ [] ∧ e.2.length ≤ 3) (hml : m.length ≤ 10) {S : Sto} :
    run tb P (k + 2) 2 [mapM m] S = .ok (.str (joinN (mapLs m))) S := by
  have key := forG_list (gd := none) (t := .tup (.cons (.name 2) (.cons (.name 3) .nil))) (b := semSs (match a_show_map with
      | .cons _ (.cons (.forr _ _ b) _) => b
      | _ => .nil) { P with fn := run tb P (k + 1) }) (e := mapE) (m := m)
    (fun pre rr SS => ∃ y2 y3 y4 y5, rr = [some (mapM m), some (.ref S.length), y2, y3, y4, y5] ∧ SS = S ++ [.lst (((mapLs pre).map nl).map .str)]) (fun _ _ _ _ => trivial) ?_ m [] [some (mapM m), some (.ref S.length), none, none, none, none] (S ++ [.lst []]) rfl ⟨none, none, none, none, rfl, by simp [mapLs]⟩
  · obtain ⟨r3, S3, e, y2, y3, y4, y5, rfl, rfl⟩ := key
    have hat : (S ++ [Ob.lst (((mapLs m).map nl).map .str)])[S.length]? = some (.lst (((mapLs m).map nl).map .str)) := by simp
    have hjl : (((mapLs m).map nl).map (·.length)).sum ≤ 1000000 := by
      have h1 := joinN_len (c := 40) (ls := mapLs m) (fun l hl => (line_f (fun e h => let q := hm e h; ⟨q.1, q.2.1, q.2.2.1⟩) l hl).1)
      have h2 := mapLs_len (m := m) fun e h => (hm e h).2.2.2.2
      have h3 : (((mapLs m).map nl).map (·.length)).sum = (joinN (mapLs m)).length := by
        rw [← flat_nl, List.length_flatten]
      rw [h3]
      omega
    refine run_of (d := d_2) (x := .ret (.str (joinN (mapLs m))) (S ++ [.lst (((mapLs m).map nl).map .str)])) rfl rfl ?_ (fin_plT rfl)
    refine ss_nx (s_asg (d := .ref S.length) (S2 := S ++ [.lst []]) (by simp [semE, semEs]) rfl) ?_
    refine ss_nx (s_for (w := (m.map mapE, none)) (S2 := S ++ [Ob.lst []]) (r := [some (mapM m), some (.ref S.length), none, none, none, none]) ?_ e) (ss_ret (s_ret0 ?_))
    · simp only [semI, semE, List.getElem?_cons_zero, bind_ok, walk, mapM]
      rfl
    · have hj : fJoin (.str []) [.ref S.length] (S ++ [.lst (((mapLs m).map nl).map .str)]) = .ok (.str (joinN (mapLs m))) (S ++ [.lst (((mapLs m).map nl).map .str)]) := by
        unfold fJoin
        dsimp only
        rw [vw_ref hat]
        dsimp only
        rw [strs_map]
        dsimp only
        rw [if_pos (by simpa using hjl), join_nil, flat_nl]
      simp only [semE, semEs, List.getElem?_cons_succ, List.getElem?_cons_zero, bind_ok, mtOk_str, mtT, mtF, hj]
      rfl
  · rintro pre p post rr SS he ⟨y2, y3, y4, y5, rfl, hSS⟩
    refine ⟨_, rfl, ?_⟩
    have hp := hm p (by rw [he]; simp)
    have f := day_f hp.1 hp.2.1
    have hpl : pre.length ≤ 10 := by
      rw [he] at hml
      simp at hml
      omega
    have hlen := mapLs_len (m := pre) fun e h => (hm e (by rw [he]; simp [h])).2.2.2.2
    have hfl := f.len
    have es := fFmt_i (i := p.1) (by have := f.small; omega) (S := SS)
    have hc : fCat [[107, 110, 111, 119, 110, 32], digS p.1, [10]] SS = .ok (.str (nl (kLine p.1))) SS := by
      unfold fCat
      rw [if_pos (by simp; omega)]
      simp [nl, kLine, knownW]
    have hd : (digS p.1).length ≤ 100000 := by omega
    have ee : semE { P with fn := run tb P (k + 1) } (.joi (.cons (.str [107, 110, 111, 119, 110, 32]) (.cons (.fmt (.var 2)) (.cons (.str [10]) .nil)))) [some (mapM m), some (.ref S.length), some (.int p.1), some (.tup (rowI p.2)), y4, y5] SS = .ok (.str (nl (kLine p.1))) SS := by
      simp [semE, semEs, semJ, es, hd, hc]
    subst hSS
    obtain ⟨z4, z5, e2⟩ := show_row k (S := S) (x0 := some (mapM m)) (x2 := some (.int p.1)) (x4 := y4) (x5 := y5) hp.2.2.1 hp.2.2.2.2 (L := (mapLs pre).map nl ++ [nl (kLine p.1)]) (by simp; omega)
    refine ⟨_, _, ss_nx (app_str rfl (by simp; omega) ee) (ss_nx e2 ss0), some (.int p.1), some (.tup (rowI p.2)), z4, z5, rfl, ?_⟩
    simp [mapLs, rowLs]
end K25
set_option Elab.async false
set_option linter.all false
set_option maxRecDepth 100000
set_option maxHeartbeats 4000000
/-! M30: a changed text. -/
namespace K25
open PySem L2 DL
def W1 : List (List Nat) := [[107, 110, 111, 119, 110, 32, 48], [107, 110, 111, 119, 110, 32, 55], [107, 110, 111, 119, 110, 32, 120], [107, 110, 111, 119, 110], [107, 110, 111, 119, 110, 32, 48, 55], [32, 32, 48, 32, 121, 101, 115], [32, 32, 53, 32, 110, 111], [32, 32, 53, 32, 32, 110, 111], [32, 32, 48, 53, 32, 110, 111], [32, 32, 50, 48, 48, 48, 48, 32, 110, 111]]
def W2 : List (List Nat) := [[32, 32, 57, 32, 112, 97, 121, 115, 32, 51], [32, 32, 57, 32, 112, 97, 121, 115, 32, 53, 48, 48, 48, 48, 48, 48, 48], [32, 32, 57, 32, 112, 97, 121, 115, 32, 53, 48, 48, 48, 48, 48, 48, 49], [32, 32, 57, 32, 112, 97, 121, 115, 32, 45, 53, 48, 48, 48, 48, 48, 48, 49], [32, 32, 57, 32, 112, 97, 121, 115, 32, 49, 50, 51, 52, 53, 54, 55, 56, 57], [32, 32, 57, 32, 112, 97, 121, 115, 32, 45, 48], [32, 32, 57, 32, 112, 97, 121, 115], [32, 32, 57, 32, 109, 97, 121, 98, 101], [], [32, 32], [121, 101, 115], [32, 53, 32, 110, 111], [107, 110, 111, 119, 110, 32, 53, 32, 54]]
def okL (L : List (List Nat)) : Prop := L.length ≤ 200 ∧ ∀ l ∈ L, okS l = true ∧ l.length ≤ 40
theorem W_ok : ∀ l ∈ W1 ++ W2, okS l = true ∧ l.length ≤ 40 := by
  have : (W1 ++ W2).all (fun l => okS l && decide (l.length ≤ 40)) = true := by decide
  intro l hl
  have := List.all_eq_true.mp this l hl
  simpa using this
theorem cut_map {α β : Type} {f : α → β} {xs : List α} {lo hi : Option Int} : cut (xs.map f) lo hi = (cut xs lo hi).map f := by
  unfold cut
  rw [List.length_map, List.map_take, List.map_drop]
theorem cut_sub {α : Type} {xs : List α} {lo hi : Option Int} : ∀ x ∈ cut xs lo hi, x ∈ xs := fun x hx => List.mem_of_mem_drop (List.mem_of_mem_take hx)
theorem cut_len {α : Type} {xs : List α} {lo hi : Option Int} : (cut xs lo hi).length ≤ xs.length := by
  unfold cut
  rw [List.length_take, List.length_drop]
  omega
theorem slM {S : Sto} {L : List (List Nat)} {lo hi : Option Int} : fSl (.lst (L.map .str)) lo hi S = .ok (.lst ((cut L lo hi).map .str)) S := by
  unfold fSl
  simp only [vw_lst, cut_map]
theorem addM {S : Sto} {A B : List (List Nat)} (h : A.length + B.length ≤ 1000000) : fAdd (.lst (A.map .str)) (.lst (B.map .str)) S = .ok (.lst ((A ++ B).map .str)) S := by
  rw [fAdd_lst (by simpa using h), List.map_append]
theorem okL_add {A B C : List (List Nat)} (hA : A.length ≤ 50) (hB : B.length ≤ 50) (hC : C.length ≤ 50) (h : ∀ l ∈ A ++ B ++ C, okS l = true ∧ l.length ≤ 40) : okL (A ++ B ++ C) := ⟨by simp; omega, h⟩
theorem fm_nl : ∀ L : List (List Nat), (L.map DL.D.str).filterMap (fun d => match d with | .str s => some (DL.D.str (s ++ [10])) | _ => none) = (L.map nl).map .str
  | [] => rfl
  | l :: L => by
    rw [List.map_cons, List.filterMap_cons]
    dsimp only
    rw [fm_nl L]
    rfl
theorem joined {Q : Par} {S : Sto} {L : List (List Nat)} (h : okL L) {r : DL.Loc} (h1 : r[1]? = some (some (.lst (L.map .str)))) (hl : r.length = 8) :
    semE Q (.mth .join (.str []) (.cons (.comp false [5] (.bin .add (.var 5) (.str [10])) (.name 5) (.plain (.var 1)) .none) .nil)) r S = .ok (.str (joinN L)) S := by
  have hI : semI Q (.plain (.var 1)) r S = .ok (L.map .str, none) S := by simp [semI, semE, walk, h1]
  have eC : ∀ (g' : DL.D → Sto → Re (Option DL.D)) (f : DL.D → Option DL.D), (∀ d ∈ L.map DL.D.str, g' d S = .ok (f d) S) → compG none g' (L.map DL.D.str) S = .ok ((L.map DL.D.str).filterMap f) S := fun g' f hg => compG_map (gd := none) trivial hg
  have hL : L.length ≤ 1000000 := by have := h.1; omega
  have ec : semE Q (.comp false [5] (.bin .add (.var 5) (.str [10])) (.name 5) (.plain (.var 1)) .none) r S = .ok (.lst ((L.map nl).map .str)) S := by
    simp only [semE, hI, bind_ok, List.length_map, hL, if_true]
    rw [eC _ (fun d => match d with
      | .str s => some (DL.D.str (s ++ [10]))
      | _ => none), fm_nl]
    · simp [pushD]
    · intro d hd
      obtain ⟨l, hl2, rfl⟩ := List.mem_map.mp hd
      have a1 : fAdd (.str l) (.str [10]) S = .ok (.str (l ++ [10])) S := fAdd_str (by have := (h.2 l hl2).2; simp; omega)
      have g5 : ((wipeL r [5]).set 5 (some (DL.D.str l)))[5]? = some (some (.str l)) := by
        rw [List.getElem?_set_self]
        simp [wipeL, hl]
      simp only [asg, semC, bind_ok, if_true, semE, g5, boF, a1]
      rfl
  have hs : ((L.map nl).map (·.length)).sum ≤ 1000000 := by
    have h2 := joinN_len (c := 40) (ls := L) (fun l hl => (h.2 l hl).2)
    have h3 : ((L.map nl).map (·.length)).sum = (joinN L).length := by rw [← flat_nl, List.length_flatten]
    have := h.1
    omega
  have hj : fJoin (.str []) [.lst ((L.map nl).map .str)] S = .ok (.str (joinN L)) S := by
    unfold fJoin
    dsimp only
    rw [vw_lst]
    dsimp only
    rw [strs_map]
    dsimp only
    rw [if_pos (by simpa using hs), join_nil, flat_nl]
  rw [semE]
  simp only [semEs]
  have e0 : semE Q (.str []) r S = .ok (.str []) S := by simp only [semE]
  have e1 : mtOk .join (.str []) S = true := rfl
  rw [e0]
  simp only [bind_ok, e1, if_true]
  rw [ec]
  simp only [bind_ok, mtF, hj]
theorem joined_len {L : List (List Nat)} (h : okL L) : (joinN L).length ≤ 10000 := by
  have h2 := joinN_len (c := 40) (ls := L) (fun l hl => (h.2 l hl).2)
  have := h.1
  omega
theorem joined_ok {L : List (List Nat)} (h : okL L) : okS (joinN L) = true := joinN_ok fun l hl => (h.2 l hl).1
/-- the starts of rows -/
theorem starts_ok {Q : Par} {S : Sto} {L : List (List Nat)} (h : okL L) {l0 : List Nat} {L1 : List (List Nat)} (hL : L = l0 :: L1) (h0 : l0.take 5 = knownW) {r : DL.Loc} (h1 : r[1]? = some (some (.lst (L.map .str)))) (hl : r.length = 8) :
    ∃ l i, semE Q (.comp false [7] (.var 7) (.name 7) (.range1 (.blt .len (.cons (.var 1) .nil))) (.some (.cmp .eq (.sl (.ix (.var 1) (.var 7)) .none (.some (.int 5))) (.str [107, 110, 111, 119, 110])))) r S = .ok (.lst l) S ∧ l.getLast? = some (.int i) := by
  have hn : L.length < 4611686018427387904 := by have := h.1; omega
  have hI : semI Q (.range1 (.blt .len (.cons (.var 1) .nil))) r S = .ok (rangeD 0 L.length, none) S := by simp [semI, semE, semEs, biF, h1, hn]
  have eC : ∀ (g' : DL.D → Sto → Re (Option DL.D)) (f : DL.D → Option DL.D), (∀ d ∈ rangeD 0 L.length, g' d S = .ok (f d) S) → compG none g' (rangeD 0 L.length) S = .ok ((rangeD 0 L.length).filterMap f) S := fun g' f hg => compG_map (gd := none) trivial hg
  have hL2 : L.length ≤ 1000000 := by have := h.1; omega
  refine ⟨(rangeD 0 L.length).filterMap fun d => match d with
      | .int i => if ((L.getD i.toNat []).take 5 == knownW) = true then some d else none
      | _ => none, ?_⟩
  have ec : semE Q (.comp false [7] (.var 7) (.name 7) (.range1 (.blt .len (.cons (.var 1) .nil))) (.some (.cmp .eq (.sl (.ix (.var 1) (.var 7)) .none (.some (.int 5))) (.str [107, 110, 111, 119, 110])))) r S = .ok (.lst ((rangeD 0 L.length).filterMap fun d => match d with
      | .int i => if ((L.getD i.toNat []).take 5 == knownW) = true then some d else none
      | _ => none)) S := by
    simp only [semE, hI, bind_ok, rangeD_length, hL2, if_true]
    rw [eC]
    · simp only [bind_ok, pushD]
      rfl
    · intro d hd
      obtain ⟨i, hi⟩ := List.getElem?_of_mem hd
      obtain ⟨hi2, rfl⟩ := range_item hi
      have g7 : ((wipeL r [7]).set 7 (some (DL.D.int (i : Nat))))[7]? = some (some (.int (i : Nat))) := by
        rw [List.getElem?_set_self]
        simp [wipeL, hl]
      have g1 : ((wipeL r [7]).set 7 (some (DL.D.int (i : Nat))))[1]? = some (some (.lst (L.map .str))) := by
        rw [List.getElem?_set_ne (by decide)]
        simp only [wipeL]
        rw [List.getElem?_set_ne (by decide)]
        exact h1
      have e1 : fIx (.lst (L.map .str)) (.int (i : Nat)) S = .ok (.str L[i]) S := by
        rw [fIx_lst, at_nat, List.getElem?_map, List.getElem?_eq_getElem hi2]
        rfl
      have hm := h.2 L[i] (List.getElem_mem hi2)
      have e2 : fSl (.str L[i]) none (some 5) S = .ok (.str (L[i].take 5)) S := by
        unfold fSl
        simp only [vw_str]
        rw [if_pos (by omega), show (some 5 : Option Int) = some ((5 : Nat) : Int) from rfl, cut_to]
      have e3 : fEq (.str (L[i].take 5)) (.str [107, 110, 111, 119, 110]) S = .ok (.bl (L[i].take 5 == knownW)) S := fEq_str (okS_of hm.1 fun d hd => List.mem_of_mem_take hd) (by decide)
      have e4 : L.getD i [] = L[i] := by simp [hi2]
      simp only [asg, semC, semB, semE, semO, g1, g7, bind_ok, e1, e2, coF, e3, toB_bl, Int.toNat_natCast, e4]
      cases (L[i].take 5 == knownW) <;> rfl
  have hmem : DL.D.int 0 ∈ (rangeD 0 L.length).filterMap fun d => match d with
      | .int i => if ((L.getD i.toNat []).take 5 == knownW) = true then some d else none
      | _ => none := by
    rw [List.mem_filterMap]
    refine ⟨.int 0, ?_, ?_⟩
    · subst hL
      simp [rangeD]
    · subst hL
      simp [h0]
  obtain ⟨l, q, e⟩ := (List.eq_nil_or_concat ((rangeD 0 L.length).filterMap fun d => match d with
      | .int i => if ((L.getD i.toNat []).take 5 == knownW) = true then some d else none
      | _ => none)).resolve_left (fun z => by rw [z] at hmem; simp at hmem)
  have hq : q ∈ (rangeD 0 L.length).filterMap fun d => match d with
      | .int i => if ((L.getD i.toNat []).take 5 == knownW) = true then some d else none
      | _ => none := by rw [e]; simp
  obtain ⟨d, hd, hd2⟩ := List.mem_filterMap.mp hq
  obtain ⟨i, hi⟩ := List.getElem?_of_mem hd
  obtain ⟨hi2, rfl⟩ := range_item hi
  refine ⟨(i : Nat), ec, ?_⟩
  rw [e]
  dsimp only at hd2
  split at hd2
  · cases hd2
    simp
  · cases hd2
end K25
set_option Elab.async false
set_option linter.all false
set_option maxRecDepth 100000
set_option maxHeartbeats 4000000
/-! M31: a changed text, whole. -/
namespace K25
open PySem L2 DL
def crest : Sms := match a_law_changed_u with
  | .cons _ (.cons _ (.cons _ (.cons _ r))) => r
  | _ => .nil
theorem changed_core (k : Nat) {S : Sto} {b : Nat} (hb : Bx S b) {ls : List (List Nat)} {l0 : List Nat} {L1 : List (List Nat)} (hne : ls = l0 :: L1) (h0 : l0.take 5 = knownW) (hls : ls.length ≤ 40) (hl : ∀ l ∈ ls, okS l = true ∧ l.length ≤ 40) {n : Nat} (hn : n < ls.length) {kd : Int} (hk0 : 0 ≤ kd) (hk7 : kd < 7) :
    ∃ x S2, okS x = true ∧ x.length ≤ 800000 ∧ Bs S S2 b ∧ semSs crest { P with fn := run tb P (k + 2) } [some (.ref b), some (.lst (ls.map .str)), some (.int (n : Nat)), some (.int kd), some (.lst ((W1 ++ W2).map .str)), none, none, none] S = .ret (.str x) S2 := by
  have okls : okL ls := ⟨by omega, hl⟩
  have tail : ∀ (L : List (List Nat)) (r : DL.Loc) (S : Sto), okL L → r[1]? = some (some (.lst (L.map .str))) → r.length = 8 → semSs (match a_law_changed_u with
      | .cons _ (.cons _ (.cons _ (.cons _ (.cons _ r)))) => r
      | _ => .nil) { P with fn := run tb P (k + 2) } r S = .ret (.str (joinN L)) S := fun L r S h h1 h2 => ss_ret (s_ret0 (joined h h1 h2))
  have big : ∀ L, okL L → (joinN L).length ≤ 800000 := fun L h => by have := joined_len h; omega
  have hc1 : (cut ls none (some (n : Int))).length ≤ 40 := Nat.le_trans cut_len hls
  have hcs : ∀ {lo hi : Option Int}, ∀ l ∈ cut ls lo hi, okS l = true ∧ l.length ≤ 40 := fun l h => hl l (cut_sub l h)
  have cases7 : kd = 0 ∨ kd = 1 ∨ kd = 2 ∨ kd = 3 ∨ kd = 4 ∨ kd = 5 ∨ kd = 6 := by omega
  rcases cases7 with rfl | rfl | h23
  · have hL : okL (cut ls none (some (n : Int)) ++ cut ls (some ((n : Int) + 1)) none) := by
      have := okL_add (A := cut ls none (some (n : Int))) (B := []) (C := cut ls (some ((n : Int) + 1)) none) (by omega) (by simp) (Nat.le_trans cut_len (by omega)) (fun l h => by
        simp only [List.append_nil, List.mem_append] at h
        rcases h with h | h
        · exact hcs l h
        · exact hcs l h)
      simpa using this
    refine ⟨_, S, joined_ok hL, big _ hL, .refl hb, ss_nx (s_ifT (by simp [semB, semE, coF]) (ss_nx (s_asg0 (.lst ((cut ls none (some (n : Int)) ++ cut ls (some ((n : Int) + 1)) none).map .str)) ?_ rfl) ss0)) (tail _ _ _ hL rfl rfl)⟩
    have a1 := addM (S := S) (A := cut ls none (some (n : Int))) (B := cut ls (some ((n : Int) + 1)) none) (by have := hL.1; simp at this; omega)
    simp only [semE, semO, List.getElem?_cons_zero, List.getElem?_cons_succ, bind_ok, slM, boF, fAdd_int, a1]
  · have hm := hl ls[n] (List.getElem_mem hn)
    have hL : okL (cut ls none (some (n : Int)) ++ [ls[n]] ++ cut ls (some (n : Int)) none) := okL_add (by omega) (by simp) (Nat.le_trans cut_len (by omega)) (fun l h => by
        simp only [List.mem_append, List.mem_singleton] at h
        rcases h with (h | rfl) | h
        · exact hcs l h
        · exact hm
        · exact hcs l h)
    refine ⟨_, S, joined_ok hL, big _ hL, .refl hb, ss_nx (s_ifF (by simp [semB, semE, coF]) (ss_nx (s_ifT (by simp [semB, semE, coF]) (ss_nx (s_asg0 (.lst ((cut ls none (some (n : Int)) ++ [ls[n]] ++ cut ls (some (n : Int)) none).map .str)) ?_ rfl) ss0)) ss0)) (tail _ _ _ hL rfl rfl)⟩
    have e1 : fIx (.lst (ls.map .str)) (.int (n : Nat)) S = .ok (.str ls[n]) S := by
      rw [fIx_lst, at_nat, List.getElem?_map, List.getElem?_eq_getElem hn]
      rfl
    have a1 : fAdd (.lst ((cut ls none (some (n : Int))).map .str)) (.lst [.str ls[n]]) S = .ok (.lst ((cut ls none (some (n : Int)) ++ [ls[n]]).map .str)) S := addM (B := [ls[n]]) (by simp; omega)
    have a2 := addM (S := S) (A := cut ls none (some (n : Int)) ++ [ls[n]]) (B := cut ls (some (n : Int)) none) (by have := hL.1; simp at this ⊢; omega)
    simp only [semE, semEs, semO, List.getElem?_cons_zero, List.getElem?_cons_succ, bind_ok, slM, boF, e1, a1, a2]
  · have c0 : semB { P with fn := run tb P (k + 2) } (.cmp .eq (.var 3) (.int 0)) [some (.ref b), some (.lst (ls.map .str)), some (.int (n : Nat)), some (.int kd), some (.lst ((W1 ++ W2).map .str)), none, none, none] S = .ok false S := by
      have : (kd == 0) = false := by simp; omega
      simp [semB, semE, coF, this]
    have c1 : semB { P with fn := run tb P (k + 2) } (.cmp .eq (.var 3) (.int 1)) [some (.ref b), some (.lst (ls.map .str)), some (.int (n : Nat)), some (.int kd), some (.lst ((W1 ++ W2).map .str)), none, none, none] S = .ok false S := by
      have : (kd == 1) = false := by simp; omega
      simp [semB, semE, coF, this]
    by_cases hk4 : kd < 4
    · have c2 : semB { P with fn := run tb P (k + 2) } (.cmp .lt (.var 3) (.int 4)) [some (.ref b), some (.lst (ls.map .str)), some (.int (n : Nat)), some (.int kd), some (.lst ((W1 ++ W2).map .str)), none, none, none] S = .ok true S := by
        simp [semB, semE, coF, hk4]
      obtain ⟨y, S3, hy, hbs, hp⟩ := pick_ok k (ds := (W1 ++ W2).map .str) hb (by decide) (by decide)
      obtain ⟨w, hw, rfl⟩ := List.mem_map.mp hy
      have hwo := W_ok w hw
      have hL : okL (cut ls none (some (n : Int)) ++ [w] ++ cut ls (some ((n : Int) + (if (kd == 2) = true then 1 else 0))) none) := okL_add (by omega) (by simp) (Nat.le_trans cut_len (by omega)) (fun l h => by
        simp only [List.mem_append, List.mem_singleton] at h
        rcases h with (h | rfl) | h
        · exact hcs l h
        · exact hwo
        · exact hcs l h)
      refine ⟨_, S3, joined_ok hL, big _ hL, hbs, ss_nx (s_ifF c0 (ss_nx (s_ifF c1 (ss_nx (s_ifT c2 (ss_nx (s_asg (d := .lst ((cut ls none (some (n : Int)) ++ [w] ++ cut ls (some ((n : Int) + (if (kd == 2) = true then 1 else 0))) none).map .str)) ?_ rfl) ss0)) ss0)) ss0)) (tail _ _ _ hL rfl rfl)⟩
      have a1 : fAdd (.lst ((cut ls none (some (n : Int))).map .str)) (.lst [.str w]) S3 = .ok (.lst ((cut ls none (some (n : Int)) ++ [w]).map .str)) S3 := addM (B := [w]) (by simp; omega)
      have a2 := addM (S := S3) (A := cut ls none (some (n : Int)) ++ [w]) (B := cut ls (some ((n : Int) + (if (kd == 2) = true then 1 else 0))) none) (by have := hL.1; simp at this ⊢; omega)
      simp only [semE, semEs, semO, List.getElem?_cons_zero, List.getElem?_cons_succ, bind_ok, slM]
      rw [hp]
      simp only [bind_ok, boF, a1, coF, fEq_int, biF, fInt_bl, fAdd_int, slM, a2]
    · have c2 : semB { P with fn := run tb P (k + 2) } (.cmp .lt (.var 3) (.int 4)) [some (.ref b), some (.lst (ls.map .str)), some (.int (n : Nat)), some (.int kd), some (.lst ((W1 ++ W2).map .str)), none, none, none] S = .ok false S := by
        simp [semB, semE, coF, hk4]
      have h456 : kd = 4 ∨ kd = 5 ∨ kd = 6 := by omega
      rcases h456 with rfl | rfl | rfl
      · obtain ⟨v, S3, h1, h2, hbs, hr⟩ := draw_ok (k + 1) (many := 9) hb (by decide)
        have hjl := joined_len okls
        refine ⟨cut (joinN ls) none (some (-1 - v)), S3, okS_of (joined_ok okls) cut_sub, by have := cut_len (xs := joinN ls) (lo := none) (hi := some (-1 - v)); omega, hbs, ss_ret (s_ifF c0 (ss_ret (s_ifF c1 (ss_ret (s_ifF c2 (ss_ret (s_ifT (by simp [semB, semE, coF]) (ss_ret (s_ret ?_)))))))))⟩
        have ej := joined (Q := { P with fn := run tb P (k + 2) }) (S := S) okls (r := [some (.ref b), some (.lst (ls.map .str)), some (.int (n : Nat)), some (.int 4), some (.lst ((W1 ++ W2).map .str)), none, none, none]) rfl rfl
        rw [semE]
        dsimp only
        rw [ej]
        have es : fSl (.str (joinN ls)) none (some (-1 - v)) S3 = .ok (.str (cut (joinN ls) none (some (-1 - v)))) S3 := by
          unfold fSl
          simp only [vw_str]
          rw [if_pos (by omega)]
        simp only [bind_ok, semO, semE, semEs, fNeg_int, List.getElem?_cons_zero, hr, boF, fSub_int, es]
      · obtain ⟨l, i, e1, e2⟩ := starts_ok (Q := { P with fn := run tb P (k + 2) }) (S := S) okls hne h0 (r := [some (.ref b), some (.lst (ls.map .str)), some (.int (n : Nat)), some (.int 5), some (.lst ((W1 ++ W2).map .str)), none, none, none]) rfl rfl
        have hL : okL (ls ++ [[107, 110, 111, 119, 110, 32, 49, 57, 57, 57, 57]] ++ cut ls (some (i + 1)) none) := okL_add (by omega) (by simp) (Nat.le_trans cut_len (by omega)) (fun l h => by
          simp only [List.mem_append, List.mem_singleton] at h
          rcases h with (h | rfl) | h
          · exact hl l h
          · decide
          · exact hcs l h)
        refine ⟨_, S, joined_ok hL, big _ hL, .refl hb, ss_nx (s_ifF c0 (ss_nx (s_ifF c1 (ss_nx (s_ifF c2 (ss_nx (s_ifF (by simp [semB, semE, coF]) (ss_nx (s_ifT (by simp [semB, semE, coF]) (ss_nx (s_asg0 (.lst l) e1 rfl) (ss_nx (s_asg0 (.lst ((ls ++ [[107, 110, 111, 119, 110, 32, 49, 57, 57, 57, 57]] ++ cut ls (some (i + 1)) none).map .str)) ?_ rfl) ss0))) ss0)) ss0)) ss0)) ss0)) (tail _ _ _ hL rfl rfl)⟩
        have a1 : fAdd (.lst (ls.map .str)) (.lst [.str [107, 110, 111, 119, 110, 32, 49, 57, 57, 57, 57]]) S = .ok (.lst ((ls ++ [[107, 110, 111, 119, 110, 32, 49, 57, 57, 57, 57]]).map .str)) S := addM (B := [[107, 110, 111, 119, 110, 32, 49, 57, 57, 57, 57]]) (by simp; omega)
        have a2 := addM (S := S) (A := ls ++ [[107, 110, 111, 119, 110, 32, 49, 57, 57, 57, 57]]) (B := cut ls (some (i + 1)) none) (by have := hL.1; simp at this ⊢; omega)
        simp only [semE, semEs, semO, List.getElem?_cons_zero, List.getElem?_cons_succ, List.set_cons_zero, List.set_cons_succ, bind_ok, boF, a1, fNeg_int, fIx_lst, at_last, e2, okO_some, fAdd_int, slM, a2]
      · exact ⟨_, S, joined_ok okls, big _ okls, .refl hb, ss_nx (s_ifF c0 (ss_nx (s_ifF c1 (ss_nx (s_ifF c2 (ss_nx (s_ifF (by simp [semB, semE, coF]) (ss_nx (s_ifF (by simp [semB, semE, coF]) ss0) ss0)) ss0)) ss0)) ss0)) (tail _ _ _ okls rfl rfl)⟩
theorem changed_ok (k : Nat) {S : Sto} {b : Nat} (hb : Bx S b) {ls : List (List Nat)} {l0 : List Nat} {L1 : List (List Nat)} (hne : ls = l0 :: L1) (h0 : l0.take 5 = knownW) (hls : ls.length ≤ 40) (hl : ∀ l ∈ ls, okS l = true ∧ l.length ≤ 40) :
    ∃ x S2, okS x = true ∧ x.length ≤ 800000 ∧ Bs S S2 b ∧ run tb P (k + 3) 22 [.ref b, .lst (ls.map .str)] S = .ok (.str x) S2 := by
  have hp : 0 < ls.length := by rw [hne]; simp
  obtain ⟨v, S1, hv0, hv1, hbs1, hr1⟩ := draw_ok (k + 1) (many := 900) hb (by decide)
  obtain ⟨kd, S2, hk0, hk1, hbs2, hr2⟩ := draw_ok (k + 1) (many := 7) (hbs1.bx hb) (by decide)
  obtain ⟨n, hm, hlt⟩ : ∃ n : Nat, v % (ls.length : Int) = (n : Int) ∧ n < ls.length := by
    have a := Int.emod_nonneg v (b := (ls.length : Int)) (by omega)
    have b := Int.emod_lt_of_pos v (b := (ls.length : Int)) (by omega)
    exact ⟨(v % (ls.length : Int)).toNat, by omega, by omega⟩
  obtain ⟨x, S3, h1, h2, hbs3, e⟩ := changed_core k ((hbs1.trans hbs2).bx hb) hne h0 hls hl hlt hk0 hk1
  have hbs := (hbs1.trans hbs2).trans hbs3
  refine ⟨x, S3, h1, h2, hbs, run_of (d := d_22) (x := .ret (.str x) S3) rfl rfl ?_ (hbs.fin rfl)⟩
  refine ss_nx (s_asg (d := .int (n : Nat)) (S2 := S1) ?_ rfl) ?_
  · have hmod : fMod (.int v) (.int (ls.length : Int)) S1 = .ok (.int (n : Nat)) S1 := by rw [fMod_int (by omega), hm]
    simp only [startL, d_22, semE, semEs, List.map_cons, List.map_nil, List.cons_append, List.getElem?_cons_zero, List.getElem?_cons_succ, bind_ok, hr1, biF, fInt_int, fLen_lst, boF, List.length_map, hmod]
  refine ss_nx (s_asg (d := .int kd) (S2 := S2) ?_ rfl) ?_
  · show semE _ _ [some (.ref b), some (.lst (ls.map .str)), some (.int (n : Nat)), none, none, none, none, none] S1 = _
    simp only [semE, semEs, List.getElem?_cons_zero, bind_ok, hr2]
  refine ss_nx (s_asg0 (.lst (W1.map .str)) (by simp only [semE, semEs, bind_ok]; rfl) rfl) ?_
  refine ss_nx (s_asg0 (.lst ((W1 ++ W2).map .str)) ?_ rfl) e
  have a1 := addM (S := S2) (A := W1) (B := W2) (by decide)
  show semE _ _ [some (.ref b), some (.lst (ls.map .str)), some (.int (n : Nat)), some (.int kd), some (.lst (W1.map .str)), none, none, none] S2 = _
  simp only [semE, semEs, bind_ok, List.getElem?_cons_zero, List.getElem?_cons_succ, boF]
  exact a1
end K25
set_option Elab.async false
set_option linter.all false
set_option maxRecDepth 100000
set_option maxHeartbeats 4000000
/-! M32: a turn's map, and the plain values compared. -/
namespace K25
open PySem L2 DL
theorem MapG.ne {m : List (Int × Row)} (h : MapG m) : m ≠ [] := by
  cases h <;> simp
theorem pln_an {a : An} (h : okA a) (n : Nat) : pln n a.d = true := by
  cases a with
  | n i => cases n <;> rfl
  | w s =>
    simp only [okA, plainW, List.mem_cons, List.not_mem_nil, or_false] at h
    rcases h with rfl | rfl | rfl | rfl
    all_goals (cases n <;> rfl)
theorem pln_int (n : Nat) (i : Int) : pln n (.int i) = true := by cases n <;> rfl
theorem pln_row {r : Row} (h : okR r) (hl : r.length ≤ 1000000) (n : Nat) : pln (n + 2) (.tup (rowI r)) = true := by
  rw [pln]
  simp only [Bool.and_eq_true, decide_eq_true_eq]
  refine ⟨by simpa [rowI] using hl, ?_⟩
  rw [plns_all]
  intro d hd
  obtain ⟨p, hp, rfl⟩ := List.mem_map.mp hd
  rw [pln]
  simp only [Bool.and_eq_true, decide_eq_true_eq]
  exact ⟨by simp, by simp [plns, pln_int, pln_an (h p hp)]⟩
theorem pln_map {st : List Ent} {k : Nat} (ho : OkE k st) (hk : k ≤ 900000) (n : Nat) : pln (n + 4) (mapD st) = true := by
  rw [mapD, pln]
  simp only [Bool.and_eq_true, decide_eq_true_eq]
  refine ⟨by have := ho.l; simp; omega, ?_⟩
  rw [plns_all]
  intro d hd
  obtain ⟨e, he, rfl⟩ := List.mem_map.mp hd
  have := ho.r e he
  rw [rowD, pln]
  simp only [Bool.and_eq_true, decide_eq_true_eq]
  exact ⟨by simp, by simp [plns, pln_int, pln_row this.2.1 (by omega)]⟩
theorem okD_row {e : Ent} (h : okR e.r) : okD 59 (rowD e) = true := by
  simp only [rowD, okD, okDs, row_ok h 56, Bool.and_self]
theorem okD_mapE {e : Int × Row} (h : okR e.2) : okD 59 (mapE e) = true := by
  simp only [mapE, okD, okDs, row_ok h 56, Bool.and_self]
theorem okD_map {st : List Ent} {k : Nat} (ho : OkE k st) : okD 60 (mapD st) = true := by
  simp only [mapD, okD]
  rw [okDs_all]
  intro d hd
  obtain ⟨e, he, rfl⟩ := List.mem_map.mp hd
  exact okD_row (ho.r e he).2.1
theorem nil_pl {S : Sto} {i : Nat} {items : List DL.D} (hS : S[i]? = some (.lst items)) (hok : okDs 59 items = true) : fEq (.ref i) (.lst []) S = .ok (.bl (items.isEmpty)) S := by
  unfold fEq
  rw [vw_ref hS, if_pos ⟨by simpa only [okD] using hok, rfl⟩]
  cases items <;> rfl
theorem fNe_row {a b : Row} (ha : okR a) (hb : okR b) {S : Sto} : fNe (.tup (rowI a)) (.tup (rowI b)) S = .ok (.bl (!decide (a = b))) S := by
  rw [fNe_pl (by simp only [okD]; exact row_ok ha 58) (by simp only [okD]; exact row_ok hb 58) rfl rfl]
  simp only [eqD, row_eq]
def inner : Sms := match a_law with
  | .cons _ (.cons (.forr _ _ (.cons _ (.cons _ (.cons (.forr _ _ b) _)))) _) => b
  | _ => .nil
/-- the map of a turn, part by part -/
theorem parts_ok (k : Nat) {S1 : Sto} (hb : Bx S1 0) (n : Nat) (hn : 0 < n) (hn3 : n ≤ 3) (x0 x2 x5 x6 x7 x8 x9 : Option DL.D) :
    ∃ S2 m d y5 y9, Bs S1 S2 0 ∧ MapG m ∧ m.length ≤ 3 ∧ forG none (.name 5) (semSs inner { P with fn := run tb P (k + 3) }) (rangeD 0 n) [x0, some (.ref 0), x2, some (.ref S1.length), some (.int 0), x5, x6, x7, x8, x9] (S1 ++ [.lst []]) = .nx [x0, some (.ref 0), x2, some (.ref S1.length), some (.int d), y5, x6, x7, x8, y9] (S2 ++ [.lst (m.map mapE)]) := by
  have key := forG_inv (gd := none) (t := .name 5) (its := rangeD 0 n) (r := [x0, some (.ref 0), x2, some (.ref S1.length), some (.int 0), x5, x6, x7, x8, x9]) (S := S1 ++ [.lst []])
    (b := semSs inner { P with fn := run tb P (k + 3) })
    (fun i rr SS => ∃ (S2 : Sto) (m : List (Int × Row)) (d : Int) (y5 y9 : Option DL.D), Bs S1 S2 0 ∧ rr = [x0, some (.ref 0), x2, some (.ref S1.length), some (.int d), y5, x6, x7, x8, y9] ∧ SS = S2 ++ [.lst (m.map mapE)] ∧ ((m = [] ∧ d = 0 ∧ i = 0) ∨ (MapG m ∧ ∀ e, m.getLast? = some e → e.1 < d)) ∧ m.length ≤ i ∧ d ≤ 31 * i ∧ 0 ≤ d)
    ⟨S1, [], 0, x5, x9, .refl hb, rfl, rfl, .inl ⟨rfl, rfl, rfl⟩, by simp, by simp, by simp⟩ (fun _ _ _ _ _ => trivial) ?_
  · obtain ⟨r3, S3, e, S2, m, d, y5, y9, hbs, rfl, rfl, hm, hl, _, _⟩ := key
    rw [rangeD_length] at hm hl
    refine ⟨S2, m, d, y5, y9, hbs, ?_, by omega, e⟩
    rcases hm with ⟨_, _, h⟩ | h
    · omega
    · exact h.1
  · rintro i rr SS d0 hd0 ⟨S2, m, d, y5, y9, hbs2, rfl, rfl, hm, hl, hdi, hd0'⟩
    refine ⟨_, rfl, ?_⟩
    have hi := (range_item hd0).1
    obtain ⟨r, S', hg, hrne, hrl, hbsr, hr⟩ := lrow_ok k ((hbs2.bx hb).app (T := [.lst (m.map mapE)]))
    obtain ⟨S3, rfl, hbs3⟩ := hbsr.app (hbs2.bx hb).lt
    have hbs3 := hbs2.trans hbs3
    have hat3 : (S3 ++ [Ob.lst (m.map mapE)])[S1.length]? = some (.lst (m.map mapE)) := by rw [← hbs3.len]; simp
    have st1 : semS (.asg (.name 9) (.call 15 (.cons (.var 1) (.cons (.int 3) .nil)))) { P with fn := run tb P (k + 3) } [x0, some (.ref 0), x2, some (.ref S1.length), some (.int d), some d0, x6, x7, x8, y9] (S2 ++ [.lst (m.map mapE)]) = .nx [x0, some (.ref 0), x2, some (.ref S1.length), some (.int d), some d0, x6, x7, x8, some (.tup (rowI r))] (S3 ++ [.lst (m.map mapE)]) := by
      refine s_asg (d := .tup (rowI r)) ?_ rfl
      simp only [semE, semEs, List.getElem?_cons_zero, List.getElem?_cons_succ, bind_ok]
      exact hr
    have fin : ∀ m' : List (Int × Row), ∃ v2 S4, 0 ≤ v2 ∧ v2 < 30 ∧ Bs S1 S4 0 ∧ semS (.asg (.name 4) (.bin .add (.bin .add (.var 4) (.int 1)) (.call 12 (.cons (.var 1) (.cons (.int 30) .nil))))) { P with fn := run tb P (k + 3) } [x0, some (.ref 0), x2, some (.ref S1.length), some (.int d), some d0, x6, x7, x8, some (.tup (rowI r))] (S3 ++ [.lst (m'.map mapE)]) = .nx [x0, some (.ref 0), x2, some (.ref S1.length), some (.int (d + 1 + v2)), some d0, x6, x7, x8, some (.tup (rowI r))] (S4 ++ [.lst (m'.map mapE)]) := fun m' => by
      obtain ⟨v2, SP, h1, h2, hbp, hp⟩ := draw_ok (k + 2) (many := 30) ((hbs3.bx hb).app (T := [.lst (m'.map mapE)])) (by decide)
      obtain ⟨S4, rfl, hbs4⟩ := hbp.app (hbs3.bx hb).lt
      refine ⟨v2, S4, h1, h2, hbs3.trans hbs4, s_asg (d := .int (d + 1 + v2)) ?_ rfl⟩
      simp only [semE, semEs, List.getElem?_cons_zero, List.getElem?_cons_succ, bind_ok, boF, fAdd_int]
      rw [hp]
      rfl
    have hmr : ∀ e ∈ m, okR e.2 := by
      rcases hm with ⟨rfl, _, _⟩ | h
      · exact fun e he => by simp at he
      · exact fun e he => ((h.1.all e he).2.2.1).ok
    have rn := nil_pl hat3 (by rw [okDs_all]; intro x hx; obtain ⟨e, he, rfl⟩ := List.mem_map.mp hx; exact okD_mapE (hmr e he))
    have step : ∀ c m', semB { P with fn := run tb P (k + 3) } (.or (.cons (.cmp .eq (.var 3) (.lst .nil)) (.cons (.cmp .ne (.ix (.ix (.var 3) (.neg (.int 1))) (.int 1)) (.var 9)) .nil))) [x0, some (.ref 0), x2, some (.ref S1.length), some (.int d), some d0, x6, x7, x8, some (.tup (rowI r))] (S3 ++ [.lst (m.map mapE)]) = .ok c (S3 ++ [.lst (m.map mapE)]) → m' = (if c then m ++ [(d, r)] else m) → ∃ v2 S4, 0 ≤ v2 ∧ v2 < 30 ∧ Bs S1 S4 0 ∧ semSs inner { P with fn := run tb P (k + 3) } [x0, some (.ref 0), x2, some (.ref S1.length), some (.int d), some d0, x6, x7, x8, y9] (S2 ++ [.lst (m.map mapE)]) = .nx [x0, some (.ref 0), x2, some (.ref S1.length), some (.int (d + 1 + v2)), some d0, x6, x7, x8, some (.tup (rowI r))] (S4 ++ [.lst (m'.map mapE)]) := by
      intro c m' hc hm'
      obtain ⟨v2, S4, h1, h2, h3, st3⟩ := fin m'
      refine ⟨v2, S4, h1, h2, h3, ss_nx st1 (ss_nx ?_ (ss_nx st3 ss0))⟩
      cases c with
      | false =>
        subst hm'
        exact s_if1 hc
      | true =>
        subst hm'
        have ap : fAppend (.ref S1.length) [.tup [.int d, .tup (rowI r)]] (S3 ++ [.lst (m.map mapE)]) = .ok .non (S3 ++ [.lst ((m ++ [(d, r)]).map mapE)]) := by
          rw [fAppend_ref, hat3]
          dsimp only
          rw [if_pos (by simp; omega), ← hbs3.len, set_end]
          simp [mapE]
        have mo : mtOk .append (.ref S1.length) (S3 ++ [.lst (m.map mapE)]) = true := by rw [mtOk_ref, hat3]; rfl
        exact s_ifT hc (ss_nx (s_expr (d := .non) (S2 := S3 ++ [Ob.lst ((m ++ [(d, r)]).map mapE)]) (by simp only [semE, semEs, List.getElem?_cons_zero, List.getElem?_cons_succ, bind_ok, mo, if_true, mtF, ap])) ss0)
    rcases hm with ⟨rfl, rfl, rfl⟩ | ⟨hm, hml⟩
    · obtain ⟨v2, S4, h1, h2, h3, e⟩ := step true [(0, r)] (by simp only [semB, semAny, semE, semEs, List.getElem?_cons_zero, List.getElem?_cons_succ, bind_ok, coF, rn, toB_bl]; rfl) rfl
      refine ⟨_, _, .inl e, S4, [(0, r)], 0 + 1 + v2, some d0, some (.tup (rowI r)), h3, rfl, rfl, .inr ⟨.one hg hrne hrl, fun e he => ?_⟩, by simp, by omega, by omega⟩
      simp at he
      subst he
      show (0 : Int) < 0 + 1 + v2
      omega
    · obtain ⟨m0, e0, rfl⟩ := (List.eq_nil_or_concat m).resolve_left hm.ne
      rw [List.concat_eq_append] at *
      obtain ⟨k0, r0⟩ := e0
      have hk0 := hml (k0, r0) (by simp)
      have hr0 := hmr (k0, r0) (by simp)
      have ie : (List.map mapE (m0 ++ [(k0, r0)])).isEmpty = false := by simp
      rw [ie] at rn
      have g1 : fIx (.ref S1.length) (.int (-1)) (S3 ++ [Ob.lst ((m0 ++ [(k0, r0)]).map mapE)]) = .ok (.tup [.int k0, .tup (rowI r0)]) (S3 ++ [Ob.lst ((m0 ++ [(k0, r0)]).map mapE)]) := by
        rw [fIx_ref, hat3]
        simp only [at_last, List.getLast?_map, List.getLast?_append, List.getLast?_singleton, Option.some_or, Option.map_some, mapE, okO_some]
      have fn := fNe_row hr0 hg.ok (S := S3 ++ [Ob.lst ((m0 ++ [(k0, r0)]).map mapE)])
      have hc : semB { P with fn := run tb P (k + 3) } (.or (.cons (.cmp .eq (.var 3) (.lst .nil)) (.cons (.cmp .ne (.ix (.ix (.var 3) (.neg (.int 1))) (.int 1)) (.var 9)) .nil))) [x0, some (.ref 0), x2, some (.ref S1.length), some (.int d), some d0, x6, x7, x8, some (.tup (rowI r))] (S3 ++ [.lst ((m0 ++ [(k0, r0)]).map mapE)]) = .ok (!decide (r0 = r)) (S3 ++ [.lst ((m0 ++ [(k0, r0)]).map mapE)]) := by
        simp only [semB, semAny, semE, semEs, List.getElem?_cons_zero, List.getElem?_cons_succ, bind_ok, coF, rn, toB_bl, Bool.false_eq_true, if_false, fNeg_int, g1, fIx_tup, at_1, okO_some, fn]
        cases decide (r0 = r) <;> rfl
      by_cases hrr : r0 = r
      · rw [show (!decide (r0 = r)) = false by simp [hrr]] at hc
        obtain ⟨v2, S4, h1, h2, h3, e⟩ := step false _ hc rfl
        refine ⟨_, _, .inl e, S4, m0 ++ [(k0, r0)], d + 1 + v2, some d0, some (.tup (rowI r)), h3, rfl, rfl, .inr ⟨hm, fun e he => ?_⟩, by omega, by omega, by omega⟩
        have := hml e he
        omega
      · rw [show (!decide (r0 = r)) = true by simp [hrr]] at hc
        obtain ⟨v2, S4, h1, h2, h3, e⟩ := step true _ hc rfl
        refine ⟨_, _, .inl e, S4, m0 ++ [(k0, r0)] ++ [(d, r)], d + 1 + v2, some d0, some (.tup (rowI r)), h3, rfl, rfl, .inr ⟨hm.snoc hk0 (by omega) (Ne.symm hrr) hg hrne hrl, fun e he => ?_⟩, by simp at hl ⊢; omega, by omega, by omega⟩
        simp at he
        subst he
        show d < d + 1 + v2
        omega
end K25
set_option Elab.async false
set_option linter.all false
set_option maxRecDepth 100000
set_option maxHeartbeats 4000000
/-! M33: the law's turns. -/
namespace K25
open PySem L2 DL
def turnB : Sms := match a_law with
  | .cons _ (.cons (.forr _ _ b) _) => b
  | _ => .nil
theorem s_notCall {Q : Par} {f : Nat} {es : Exs} {r : DL.Loc} {S S2 : Sto} (h : semE Q (.call f es) r S = .ok (.bl true) S2) : semB Q (.not (.call f es)) r S = .ok false S2 := by
  rw [semB]
  have e : semB Q (.call f es) r S = (semE Q (.call f es) r S).bind truD := by simp only [semB, semE]
  dsimp only
  rw [e, h]
  rfl
theorem turn_ok (S : Sto) (hb : Bx S 0) (x0 x2 x3 x4 x5 x6 x7 x8 x9 : Option DL.D) :
    ∃ S2 y3 y4 y5 y6 y7 y8 y9, Bx S2 0 ∧ semSs turnB { P with fn := run tb P 6 } [x0, some (.ref 0), x2, x3, x4, x5, x6, x7, x8, x9] S = .nx [x0, some (.ref 0), x2, y3, y4, y5, y6, y7, y8, y9] S2 := by
  -- the map is drawn
  obtain ⟨v, S', hv0, hv3, hbs, hdr⟩ := draw_ok 5 (many := 3) (hb.app (T := [.lst []])) (by decide)
  obtain ⟨S1, rfl, hbs1⟩ := hbs.app hb.lt
  have hb1 := hbs1.bx hb
  obtain ⟨S2, m, d, y5, y9, hbs2, hm, hml, hf⟩ := parts_ok 3 hb1 (1 + v).toNat (by omega) (by omega) x0 x2 x5 x6 x7 x8 x9
  have hb2 := hbs2.bx hb1
  have hI : semI { P with fn := run tb P 6 } (.range1 (.bin .add (.int 1) (.call 12 (.cons (.var 1) (.cons (.int 3) .nil))))) [x0, some (.ref 0), x2, some (.ref S.length), some (.int 0), x5, x6, x7, x8, x9] (S ++ [.lst []]) = .ok (rangeD 0 (1 + v).toNat, none) (S1 ++ [.lst []]) := by
    have : (1 + v).natAbs < 4611686018427387904 := by omega
    simp [semI, semE, semEs, hdr, boF, this]
  have hall := hm.all
  have hat : (S2 ++ [Ob.lst (m.map mapE)])[S1.length]? = some (.lst (m.map mapE)) := by rw [← hbs2.len]; simp
  have hlen : S.length = S1.length := hbs1.len.symm
  have hlf := line_f (m := m) fun e h => let q := hall e h; ⟨q.1, q.2.1, q.2.2.1⟩
  have hll : (mapLs m).length ≤ 40 := by
    have := mapLs_len (m := m) fun e h => (hall e h).2.2.2.2
    omega
  have hTl : (joinN (mapLs m)).length ≤ 800000 := by
    have := joinN_len (c := 40) (ls := mapLs m) (fun l hl => (hlf l hl).1)
    omega
  have hTo : okS (joinN (mapLs m)) = true := joinN_ok fun l hl => (hlf l hl).2.1
  have hsp : splC 10 (joinN (mapLs m)) = mapLs m ++ [[]] := split_joinN fun l hl => (hlf l hl).2.2
  obtain ⟨st, hrd, hst⟩ := read_map hm
  -- its text, and the law's text with one change
  have eT := ltext_ok 5 hall (by omega) hat
  have ft : fTuple [.ref S1.length] (S2 ++ [Ob.lst (m.map mapE)]) = .ok (mapM m) (S2 ++ [Ob.lst (m.map mapE)]) := by
    unfold fTuple
    dsimp only
    rw [vw_ref hat]
    rfl
  have eShow := show_ok 4 hall (by omega) (S := S2 ++ [Ob.lst (m.map mapE)])
  have eTold := (told_ok 0 hTl hTo (S2 ++ [Ob.lst (m.map mapE)])).2 st hrd
  have hok := ((map_ok 1 hTl hTo (S2 ++ [Ob.lst (m.map mapE)])).2 st hrd).2
  rw [hst] at eTold
  have eL1 := like_self (S2 ++ [Ob.lst (m.map mapE)]) 5 (.str (joinN (mapLs m))) (by simp [pln, hTo]; omega)
  have eL2 := like_self (S2 ++ [Ob.lst (m.map mapE)]) 5 (mapM m) (by rw [← hst]; exact pln_map hok.1 (Nat.le_refl _) 1)
  have eSpl := fSplit_ok (c := 10) (by decide) (show (joinN (mapLs m)).length ≤ 1000000 by omega) (S := S2 ++ [Ob.lst (m.map mapE)])
  obtain ⟨e0, m1, rfl⟩ := List.exists_cons_of_ne_nil hm.ne
  have hhd : mapLs (e0 :: m1) = kLine e0.1 :: (e0.2.map sLine ++ mapLs m1) := by simp [mapLs, rowLs]
  obtain ⟨x, S3, hxo, hxl, hbs3, eC⟩ := changed_ok 3 (hb2.app (T := [.lst ((e0 :: m1).map mapE)])) hhd (by simp [kLine, knownW]) hll (fun l hl => ⟨(hlf l hl).2.1, (hlf l hl).1⟩)
  obtain ⟨S4, rfl, hbs4⟩ := hbs3.app hb2.lt
  have hb4 := hbs4.bx hb2
  generalize hTT : joinN (mapLs (e0 :: m1)) = TT at *
  have front : ∀ z, semSs (match turnB with
      | .cons _ (.cons _ (.cons _ (.cons _ (.cons _ (.cons _ b))))) => b
      | _ => .nil) { P with fn := run tb P 6 } [x0, some (.ref 0), x2, some (.ref S1.length), some (.int d), y5, some (.str x), x7, x8, y9] (S4 ++ [.lst ((e0 :: m1).map mapE)]) = z →
      semSs turnB { P with fn := run tb P 6 } [x0, some (.ref 0), x2, x3, x4, x5, x6, x7, x8, x9] S = z := fun z hz => by
    refine ss_nx (s_asg (d := .ref S.length) (S2 := S ++ [Ob.lst []]) (by simp [semE, semEs]) rfl) ?_
    refine ss_nx (s_asg0 (.int 0) (by simp [semE]) rfl) ?_
    refine ss_nx (s_for hI (by rw [show S.length = S1.length from hlen]; exact hf)) ?_
    refine ss_nx (s_asg0 (.str TT) (by simp only [semE, semEs, List.getElem?_cons_zero, List.getElem?_cons_succ, bind_ok, eT]) rfl) ?_
    refine ss_nx (s_if1 ?_) ?_
    · have c1 : semB { P with fn := run tb P 6 } (.not (.call 14 (.cons (.call 2 (.cons (.blt .tuple (.cons (.var 3) .nil)) .nil)) (.cons (.var 6) .nil)))) [x0, some (.ref 0), x2, some (.ref S1.length), some (.int d), y5, some (.str TT), x7, x8, y9] (S2 ++ [.lst ((e0 :: m1).map mapE)]) = .ok false (S2 ++ [.lst ((e0 :: m1).map mapE)]) := by
        refine s_notCall ?_
        simp only [semE, semEs, List.getElem?_cons_zero, List.getElem?_cons_succ, bind_ok, biF, ft, eShow, eL1]
      have c2 : semB { P with fn := run tb P 6 } (.not (.call 14 (.cons (.ix (.call 21 (.cons (.var 6) .nil)) (.int 1)) (.cons (.blt .tuple (.cons (.var 3) .nil)) .nil)))) [x0, some (.ref 0), x2, some (.ref S1.length), some (.int d), y5, some (.str TT), x7, x8, y9] (S2 ++ [.lst ((e0 :: m1).map mapE)]) = .ok false (S2 ++ [.lst ((e0 :: m1).map mapE)]) := by
        refine s_notCall ?_
        simp only [semE, semEs, List.getElem?_cons_zero, List.getElem?_cons_succ, bind_ok, biF, ft, eTold, fIx_lst, at_1, okO_some, eL2]
      rw [semB]
      simp only [semAny]
      rw [show ([x0, some (.ref 0), x2, some (.ref S1.length), some (.int d), y5, x6, x7, x8, y9] : DL.Loc).set 6 (some (.str TT)) = [x0, some (.ref 0), x2, some (.ref S1.length), some (.int d), y5, some (.str TT), x7, x8, y9] from rfl]
      rw [c1]
      simp only [bind_ok, Bool.false_eq_true, if_false]
      rw [c2]
      rfl
    · refine ss_nx (s_asg (d := .str x) (S2 := S4 ++ [Ob.lst ((e0 :: m1).map mapE)]) ?_ rfl) hz
      show semE _ _ [x0, some (.ref 0), x2, some (.ref S1.length), some (.int d), y5, some (.str TT), x7, x8, y9] _ = _
      have md : (splC 10 TT).map DL.D.str = (mapLs (e0 :: m1)).map .str ++ [.str []] := by rw [hsp]; simp
      simp only [semE, semEs, semO, List.getElem?_cons_zero, List.getElem?_cons_succ, bind_ok, mtOk_str, mtT, mtF, beq_self_eq_true, if_true, eSpl, fNeg_int, slL_init, md, List.dropLast_concat]
      exact eC
  -- the changed text is read
  have eR := lread_ok 1 hxl hxo (S4 ++ [Ob.lst ((e0 :: m1).map mapE)])
  have eTd := told_ok 0 hxl hxo (S4 ++ [Ob.lst ((e0 :: m1).map mapE)])
  have good_ne : fNe (.str goodW) (.str [103, 111, 111, 100]) (S4 ++ [Ob.lst ((e0 :: m1).map mapE)]) = .ok (.bl false) (S4 ++ [Ob.lst ((e0 :: m1).map mapE)]) := by rw [fNe_str (by decide) (by decide)]; rfl
  have bad_ne : fNe (.str badW) (.str [98, 97, 100]) (S4 ++ [Ob.lst ((e0 :: m1).map mapE)]) = .ok (.bl false) (S4 ++ [Ob.lst ((e0 :: m1).map mapE)]) := by rw [fNe_str (by decide) (by decide)]; rfl
  generalize hSS : S4 ++ [Ob.lst ((e0 :: m1).map mapE)] = SS at *
  have hbS : Bx SS 0 := by rw [← hSS]; exact hb4.app
  cases hrx : readS x with
  | no p f =>
    have h7 := eR.1 p f hrx
    have h8 := eTd.1 p f hrx
    have hfo := readS_no hrx
    have eL := like_self SS 5 (.tup [.int p, .str f]) (by simp [pln, plns, hfo.1]; omega)
    have n1 : fNe (.tup [.int p, .str f]) (.tup []) SS = .ok (.bl true) SS := by
      rw [fNe_pl (by simp [okD, okDs, hfo.1]) (by simp [okD, okDs]) rfl rfl]
      simp [eqD, eqDs]
    refine ⟨SS, some (.ref S1.length), some (.int d), y5, some (.str x), some (.tup [.int p, .str f]), some (.lst [.str badW, .tup [.int p, .str f]]), y9, hbS, front _ ?_⟩
    refine ss_nx (s_asg0 (.tup [.int p, .str f]) (by simp only [semE, semEs, List.getElem?_cons_zero, List.getElem?_cons_succ, bind_ok, h7]) rfl) ?_
    refine ss_nx (s_asg0 (.lst [.str badW, .tup [.int p, .str f]]) (by
      show semE _ _ [x0, some (.ref 0), x2, some (.ref S1.length), some (.int d), y5, some (.str x), some (.tup [.int p, .str f]), x8, y9] SS = _
      simp only [semE, semEs, List.getElem?_cons_zero, List.getElem?_cons_succ, bind_ok, h8]) rfl) ?_
    refine ss_nx (s_if1 ?_) ss0
    show semB _ _ [x0, some (.ref 0), x2, some (.ref S1.length), some (.int d), y5, some (.str x), some (.tup [.int p, .str f]), some (.lst [.str badW, .tup [.int p, .str f]]), y9] SS = _
    have c2 : semB { P with fn := run tb P 6 } (.not (.call 14 (.cons (.ix (.var 8) (.int 1)) (.cons (.var 7) .nil)))) [x0, some (.ref 0), x2, some (.ref S1.length), some (.int d), y5, some (.str x), some (.tup [.int p, .str f]), some (.lst [.str badW, .tup [.int p, .str f]]), y9] SS = .ok false SS := by
      refine s_notCall ?_
      simp only [semE, semEs, List.getElem?_cons_zero, List.getElem?_cons_succ, bind_ok, fIx_lst, at_1, okO_some, eL]
    rw [semB]
    simp only [semAny]
    rw [show semB { P with fn := run tb P 6 } (.cmp .ne (.ix (.var 8) (.int 0)) (.ite (.and (.cons (.cmp .ne (.var 7) (.tup .nil)) (.cons (.isi (.ix (.var 7) (.int 0)) "tuple") .nil))) (.str [103, 111, 111, 100]) (.str [98, 97, 100]))) [x0, some (.ref 0), x2, some (.ref S1.length), some (.int d), y5, some (.str x), some (.tup [.int p, .str f]), some (.lst [.str badW, .tup [.int p, .str f]]), y9] SS = .ok false SS by
      simp only [semB, semAll, semE, semEs, List.getElem?_cons_zero, List.getElem?_cons_succ, bind_ok, fIx_lst, at_0, okO_some, coF, n1, toB_bl, if_true, fIx_tup, i_int_tuple, truD_bl, Bool.false_eq_true, if_false, bad_ne]]
    simp only [bind_ok, Bool.false_eq_true, if_false]
    rw [c2]
    rfl
  | go st2 =>
    have h7 := eR.2 st2 hrx
    have h8 := eTd.2 st2 hrx
    obtain ⟨ho2, hne2⟩ := ((map_ok 1 hxl hxo SS).2 st2 hrx).2
    have eL := like_self SS 5 (mapD st2) (pln_map ho2 (Nat.le_refl _) 1)
    have n1 : fNe (mapD st2) (.tup []) SS = .ok (.bl true) SS := by
      rw [fNe_pl (okD_map ho2) (by simp [okD, okDs]) rfl rfl]
      obtain ⟨e, st3, rfl⟩ := List.exists_cons_of_ne_nil hne2
      simp [mapD, eqD, eqDs]
    have n2 : ∃ ds, fIx (mapD st2) (.int 0) SS = .ok (.tup ds) SS := by
      obtain ⟨e, st3, rfl⟩ := List.exists_cons_of_ne_nil hne2
      exact ⟨_, by simp only [mapD, fIx_tup, at_0, List.map_cons, List.getElem?_cons_zero, okO_some]; rfl⟩
    obtain ⟨ds, n2⟩ := n2
    generalize mapD st2 = MD at *
    refine ⟨SS, some (.ref S1.length), some (.int d), y5, some (.str x), some MD, some (.lst [.str goodW, MD]), y9, hbS, front _ ?_⟩
    refine ss_nx (s_asg0 MD (by simp only [semE, semEs, List.getElem?_cons_zero, List.getElem?_cons_succ, bind_ok, h7]) rfl) ?_
    refine ss_nx (s_asg0 (.lst [.str goodW, MD]) (by
      show semE _ _ [x0, some (.ref 0), x2, some (.ref S1.length), some (.int d), y5, some (.str x), some MD, x8, y9] SS = _
      simp only [semE, semEs, List.getElem?_cons_zero, List.getElem?_cons_succ, bind_ok, h8]) rfl) ?_
    refine ss_nx (s_if1 ?_) ss0
    show semB _ _ [x0, some (.ref 0), x2, some (.ref S1.length), some (.int d), y5, some (.str x), some MD, some (.lst [.str goodW, MD]), y9] SS = _
    have c2 : semB { P with fn := run tb P 6 } (.not (.call 14 (.cons (.ix (.var 8) (.int 1)) (.cons (.var 7) .nil)))) [x0, some (.ref 0), x2, some (.ref S1.length), some (.int d), y5, some (.str x), some MD, some (.lst [.str goodW, MD]), y9] SS = .ok false SS := by
      refine s_notCall ?_
      simp only [semE, semEs, List.getElem?_cons_zero, List.getElem?_cons_succ, bind_ok, fIx_lst, at_1, okO_some, eL]
    rw [semB]
    simp only [semAny]
    rw [show semB { P with fn := run tb P 6 } (.cmp .ne (.ix (.var 8) (.int 0)) (.ite (.and (.cons (.cmp .ne (.var 7) (.tup .nil)) (.cons (.isi (.ix (.var 7) (.int 0)) "tuple") .nil))) (.str [103, 111, 111, 100]) (.str [98, 97, 100]))) [x0, some (.ref 0), x2, some (.ref S1.length), some (.int d), y5, some (.str x), some MD, some (.lst [.str goodW, MD]), y9] SS = .ok false SS by
      simp only [semB, semAll, semE, semEs, List.getElem?_cons_zero, List.getElem?_cons_succ, bind_ok, fIx_lst, at_0, okO_some, coF, n1, toB_bl, if_true, n2, i_tup_tuple, truD_bl, Bool.false_eq_true, if_false, good_ne]]
    simp only [bind_ok, Bool.false_eq_true, if_false]
    rw [c2]
    rfl
theorem law_ok (ns : List Int) : run tb P 7 23 [.scr ns] [] = .ok (.bl true) [] := by
  obtain ⟨dg, hdg⟩ := digits_ok 4 ns []
  have key := forG_inv (gd := none) (t := .name 2) (its := rangeD 0 4) (r := [some (.scr ns), some (.ref 0), none, none, none, none, none, none, none, none]) (S := [.lst [.lst (dg.map .int), .int 0]])
    (b := semSs turnB { P with fn := run tb P 6 })
    (fun i rr SS => ∃ x2 x3 x4 x5 x6 x7 x8 x9, Bx SS 0 ∧ rr = [some (.scr ns), some (.ref 0), x2, x3, x4, x5, x6, x7, x8, x9])
    ⟨none, none, none, none, none, none, none, none, ⟨dg, 0, rfl⟩, rfl⟩ (fun _ _ _ _ _ => trivial) ?_
  · obtain ⟨r3, S3, e, x2, x3, x4, x5, x6, x7, x8, x9, hb, rfl⟩ := key
    refine run_of (d := d_23) (x := .ret (.bl true) S3) rfl rfl ?_ ?_
    · refine ss_nx (s_asg (d := .ref 0) (S2 := [.lst [.lst (dg.map .int), .int 0]]) ?_ rfl) ?_
      · simp only [startL, d_23, semE, semEs, List.map_cons, List.map_nil, List.cons_append, List.getElem?_cons_zero, bind_ok, hdg]
        rfl
      · refine ss_nx (s_for (w := (rangeD 0 4, none)) (S2 := [Ob.lst [.lst (dg.map .int), .int 0]]) (by simp [semI, semE]) e) (ss_ret (s_ret0 (by simp [semE])))
    · unfold DL.finish
      simp [thaw, nr, okPre]
  · rintro i rr SS d hd ⟨x2, x3, x4, x5, x6, x7, x8, x9, hb, rfl⟩
    refine ⟨_, rfl, ?_⟩
    obtain ⟨S2, y3, y4, y5, y6, y7, y8, y9, hb2, e⟩ := turn_ok SS hb (some (.scr ns)) (some d) x3 x4 x5 x6 x7 x8 x9
    exact ⟨_, _, .inl e, some d, y3, y4, y5, y6, y7, y8, y9, hb2, rfl⟩
end K25
open PySem PySem.W PyProof.Rows
theorem PySem.Challenge.cw_bothdays_k25_maps_texts_holds : PySem.Challenge.rw_bothdays_k25_maps_texts.Holds := by
  exact k25_of (D := 7) (by decide) fun ns _ => K25.law_ok ns
