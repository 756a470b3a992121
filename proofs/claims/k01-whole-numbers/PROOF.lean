import PyProof.Rows.All
import Wide.All
import OpenK.AllK
import Wide.FinOn
import HandS.ForMost
import HandS.ForExc
import HandS.Wide
import HandS.Gcd
import HandS.IsInst
import HandS.Evl
import HandS.TupMul
import HandS.TupAny
import HandS.Walk
import HandS.Star
import PySem.Challenge.RW_ballgrids_k01_whole_numbers
set_option Elab.async false
set_option linter.all false
set_option maxRecDepth 100000
set_option maxHeartbeats 4000000
set_option exponentiation.threshold 20000
namespace PD
open PySem PySem.Spec PyProof.Rows L2
/-! A layer of plain data over the hand layer: what a piece of text does, told by data and by slots, with no heap in sight. -/
/-! ### data -/
inductive D where
  | non
  | bl (b : Bool)
  | int (i : Int)
  | str (x : Str)
  | tup (xs : List D)
  | lst (xs : List D)
  | dic (kvs : List (Key × D))
  /-- the script -/
  | scr (ns : List Int)
mutual
inductive R (K : PySem.W.Frag) (H : Hp) : V → D → Prop
  | non : R K H .non .non
  | bl (b : Bool) : R K H (.bl b) (.bl b)
  | int (i : Int) : R K H (.int i) (.int i)
  | str (x : Str) : R K H (.str x) (.str x)
  | tup {a : Addr} {xs : List V} {ds : List D} (h : SqT K H a xs) (hs : Rs K H xs ds) : R K H (.ref a) (.tup ds)
  | lst {a : Addr} {xs : List V} {ds : List D} (h : H a = some (.lst xs)) (hs : Rs K H xs ds) : R K H (.ref a) (.lst ds)
  | dic {a : Addr} {kvs : List (Key × V)} {kds : List (Key × D)} (h : H a = some (.dK kvs)) (hs : Rk K H kvs kds) : R K H (.ref a) (.dic kds)
  | scr {a : Addr} {ns : List Int} (h : SqL K H a (ns.map V.int)) : R K H (.ref a) (.scr ns)
inductive Rs (K : PySem.W.Frag) (H : Hp) : List V → List D → Prop
  | nil : Rs K H [] []
  | cons {v : V} {d : D} {vs : List V} {ds : List D} (h : R K H v d) (t : Rs K H vs ds) : Rs K H (v :: vs) (d :: ds)
inductive Rk (K : PySem.W.Frag) (H : Hp) : List (Key × V) → List (Key × D) → Prop
  | nil : Rk K H [] []
  | cons {k : Key} {v : V} {d : D} {vs : List (Key × V)} {ds : List (Key × D)} (h : R K H v d) (t : Rk K H vs ds) : Rk K H ((k, v) :: vs) ((k, d) :: ds)
end
/-- all that stands in the one stands in the other -/
def Sub (H H' : Hp) : Prop := ∀ a o, H a = some o → H' a = some o
theorem Sub.refl (H : Hp) : Sub H H := fun _ _ h => h
theorem Sub.trans {H H1 H2 : Hp} (a : Sub H H1) (b : Sub H1 H2) : Sub H H2 := fun x o h => b x o (a x o h)
theorem Sub.rd {H H' : Hp} {a : Addr} {u : HO} (e : Sub H H') (h : Rd H a u) : Rd H' a u := by
  rcases h with h | ⟨o, h⟩
  · exact .inl (e a _ h)
  · exact .inr ⟨o, e a _ h⟩
theorem Sub.sl {K : PySem.W.Frag} {H H' : Hp} {a : Addr} {xs : List V} (e : Sub H H') (h : SqL K H a xs) : SqL K H' a xs := by
  rcases h with h | h
  · exact .inl (e.rd h)
  · exact .inr h
theorem Sub.st {K : PySem.W.Frag} {H H' : Hp} {a : Addr} {xs : List V} (e : Sub H H') (h : SqT K H a xs) : SqT K H' a xs := by
  rcases h with h | h
  · exact .inl (e.rd h)
  · exact .inr h
section
variable {K : PySem.W.Frag} {H H' : Hp}
mutual
theorem R.mono (e : Sub H H') : ∀ {v : V} {d : D}, R K H v d → R K H' v d
  | _, _, .non => .non
  | _, _, .bl b => .bl b
  | _, _, .int i => .int i
  | _, _, .str x => .str x
  | _, _, .tup h hs => .tup (e.st h) (Rs.mono e hs)
  | _, _, .lst h hs => .lst (e _ _ h) (Rs.mono e hs)
  | _, _, .dic h hs => .dic (e _ _ h) (Rk.mono e hs)
  | _, _, .scr h => .scr (e.sl h)
theorem Rs.mono (e : Sub H H') : ∀ {v : List V} {d : List D}, Rs K H v d → Rs K H' v d
  | _, _, .nil => .nil
  | _, _, .cons h t => .cons (R.mono e h) (Rs.mono e t)
theorem Rk.mono (e : Sub H H') : ∀ {v : List (Key × V)} {d : List (Key × D)}, Rk K H v d → Rk K H' v d
  | _, _, .nil => .nil
  | _, _, .cons h t => .cons (R.mono e h) (Rk.mono e t)
end
theorem Rs.length : ∀ {vs : List V} {ds : List D}, Rs K H vs ds → vs.length = ds.length
  | _, _, .nil => rfl
  | _, _, .cons _ t => congrArg (· + 1) t.length
theorem Rs.get : ∀ {vs : List V} {ds : List D} {i : Nat} {d : D}, Rs K H vs ds → ds[i]? = some d → ∃ v, vs[i]? = some v ∧ R K H v d
  | _, _, _, _, .nil, h => by simp at h
  | _, _, 0, _, .cons r _, h => by simp at h; subst h; exact ⟨_, rfl, r⟩
  | _, _, i + 1, d, .cons _ t, h => by
    obtain ⟨v, a, b⟩ := Rs.get (i := i) t (by simpa using h)
    exact ⟨v, by simpa using a, b⟩
theorem Rs.getV : ∀ {vs : List V} {ds : List D} {i : Nat} {v : V}, Rs K H vs ds → vs[i]? = some v → ∃ d, ds[i]? = some d ∧ R K H v d
  | _, _, _, _, .nil, h => by simp at h
  | _, _, 0, _, .cons r _, h => by simp at h; subst h; exact ⟨_, rfl, r⟩
  | _, _, i + 1, v, .cons _ t, h => by
    obtain ⟨d, a, b⟩ := Rs.getV (i := i) t (by simpa using h)
    exact ⟨d, by simpa using a, b⟩
theorem Rs.app : ∀ {vs ws : List V} {ds es : List D}, Rs K H vs ds → Rs K H ws es → Rs K H (vs ++ ws) (ds ++ es)
  | _, _, _, _, .nil, h => h
  | _, _, _, _, .cons a t, h => .cons a (t.app h)
theorem Rs.take : ∀ (n : Nat) {vs : List V} {ds : List D}, Rs K H vs ds → Rs K H (vs.take n) (ds.take n)
  | 0, _, _, _ => .nil
  | _ + 1, _, _, .nil => .nil
  | n + 1, _, _, .cons a t => .cons a (t.take n)
theorem Rs.drop : ∀ (n : Nat) {vs : List V} {ds : List D}, Rs K H vs ds → Rs K H (vs.drop n) (ds.drop n)
  | 0, _, _, h => h
  | _ + 1, _, _, .nil => .nil
  | n + 1, _, _, .cons _ t => t.drop n
theorem Rs.set : ∀ (n : Nat) {vs : List V} {ds : List D} {v : V} {d : D}, Rs K H vs ds → R K H v d → Rs K H (vs.set n v) (ds.set n d)
  | _, _, _, _, _, .nil, _ => .nil
  | 0, _, _, _, _, .cons _ t, r => .cons r t
  | n + 1, _, _, _, _, .cons a t, r => .cons a (t.set n r)
theorem Rs.erase : ∀ (n : Nat) {vs : List V} {ds : List D}, Rs K H vs ds → Rs K H (vs.eraseIdx n) (ds.eraseIdx n)
  | _, _, _, .nil => .nil
  | 0, _, _, .cons _ t => t
  | n + 1, _, _, .cons a t => .cons a (t.erase n)
theorem Rs.rev {vs : List V} {ds : List D} (h : Rs K H vs ds) : Rs K H vs.reverse ds.reverse := by
  induction vs generalizing ds with
  | nil => cases h; exact .nil
  | cons v vs ih =>
    cases h with
    | cons a t => rw [List.reverse_cons, List.reverse_cons]; exact (ih t).app (.cons a .nil)
theorem Rs.ints : ∀ {vs : List V} {ns : List Int}, Rs K H vs (ns.map D.int) → vs = ns.map V.int
  | _, [], .nil => rfl
  | _, n :: ns, .cons a t => by
    cases a
    rw [t.ints]
    rfl
theorem Rs.bls : ∀ {vs : List V} {ns : List Bool}, Rs K H vs (ns.map D.bl) → vs = ns.map V.bl
  | _, [], .nil => rfl
  | _, n :: ns, .cons a t => by
    cases a
    rw [t.bls]
    rfl
theorem Rs.of_ints : ∀ (ns : List Int), Rs K H (ns.map V.int) (ns.map D.int)
  | [] => .nil
  | n :: ns => .cons (.int n) (Rs.of_ints ns)
end
/-! ### what a body may touch -/
/-- the bag of draws: a list of three ints, whatever they are -/
def BagAt (H : Hp) (a : Addr) : Prop := ∃ x y z : Int, H a = some (.lst [.int x, .int y, .int z])
/-- O: what data may not reach (the callers' own lists, the bags); F: this body's own lists; B: the bags -/
structure Cf where
  O : Addr → Bool
  F : Addr → Bool
  B : Addr → Bool
abbrev Cf.P (c : Cf) : Addr → Bool := fun a => c.O a || c.F a
def hid (P : Addr → Bool) (H : Hp) : Hp := fun a => if P a = true then none else H a
theorem hid_some {P : Addr → Bool} {H : Hp} {a : Addr} {o : HO} : hid P H a = some o ↔ P a = false ∧ H a = some o := by
  unfold hid
  cases h : P a <;> simp
theorem hid_sub (P : Addr → Bool) (H : Hp) : Sub (hid P H) H := fun _ _ h => (hid_some.mp h).2
structure Hk (c : Cf) (H : Hp) : Prop where
  bo : ∀ a, c.B a = true → c.O a = true
  bag : ∀ a, c.B a = true → BagAt H a
  al : ∀ a, c.P a = true → ∃ o, H a = some o
  fo : ∀ a, c.F a = true → c.O a = false
/-- all but the bags stands as it stood -/
structure Ext (B : Addr → Bool) (H H' : Hp) : Prop where
  keep : ∀ a o, B a = false → H a = some o → H' a = some o
  bag : (∀ a, B a = true → BagAt H a) → ∀ a, B a = true → BagAt H' a
  al : ∀ a o, H a = some o → ∃ o', H' a = some o'
theorem Ext.refl (B : Addr → Bool) (H : Hp) : Ext B H H := ⟨fun _ _ _ h => h, fun h => h, fun _ o h => ⟨o, h⟩⟩
theorem Ext.trans {B : Addr → Bool} {H H1 H2 : Hp} (a : Ext B H H1) (b : Ext B H1 H2) : Ext B H H2 :=
  ⟨fun x o n h => b.keep x o n (a.keep x o n h), fun h => b.bag (a.bag h), fun x o h => let ⟨o', h'⟩ := a.al x o h; b.al x o' h'⟩
theorem Ext.new {B : Addr → Bool} {H : Hp} {p : Addr} {o : HO} (h : H p = none) (hb : ∀ a, B a = true → BagAt H a) : Ext B H (upd H p o) := by
  refine ⟨fun a u _ e => by rw [upd_ne (ne_of_none e h)]; exact e, fun hB a ha => ?_, fun a u e => ⟨u, by rw [upd_ne (ne_of_none e h)]; exact e⟩⟩
  obtain ⟨x, y, z, e⟩ := hB a ha
  exact ⟨x, y, z, by rw [upd_ne (ne_of_none e h)]; exact e⟩
section
variable {K : PySem.W.Frag} {c : Cf} {H H' : Hp}
theorem Hk.fresh (k : Hk c H) {p : Addr} (h : H p = none) : c.P p = false := by
  cases e : c.P p with
  | false => rfl
  | true =>
    obtain ⟨o, q⟩ := k.al p e
    rw [h] at q
    cases q
theorem Hk.nob (k : Hk c H) {a : Addr} (h : c.P a = false) : c.B a = false := by
  cases e : c.B a with
  | false => rfl
  | true =>
    have q := k.bo a e
    simp [Cf.P, q] at h
theorem Hk.ext (k : Hk c H) (e : Ext c.B H H') : Hk c H' := ⟨k.bo, e.bag k.bag, fun a h => let ⟨o, q⟩ := k.al a h; e.al a o q, k.fo⟩
theorem Hk.sub (k : Hk c H) (e : Ext c.B H H') : Sub (hid c.P H) (hid c.P H') := fun a o h => by
  obtain ⟨h1, h2⟩ := hid_some.mp h
  exact hid_some.mpr ⟨h1, e.keep a o (k.nob h1) h2⟩
theorem Hk.new (k : Hk c H) {p : Addr} {o : HO} (h : H p = none) : hid c.P (upd H p o) p = some o := hid_some.mpr ⟨k.fresh h, upd_same⟩
end
/-! ### slots -/
inductive Sl where
  | val (d : D)
  | own (d : D)
  | bag
abbrev Ev := List (Option Sl)
def OwnAt (K : PySem.W.Frag) (c : Cf) (H : Hp) (a : Addr) : D → Prop
  | .lst ds => ∃ xs, H a = some (.lst xs) ∧ Rs K (hid c.P H) xs ds
  | .dic ds => ∃ xs, H a = some (.dK xs) ∧ Rk K (hid c.P H) xs ds
  | _ => False
structure Rep (K : PySem.W.Frag) (c : Cf) (H : Hp) (σ : L2.St) (ρ : Ev) : Prop where
  le : ρ.length ≤ σ.length
  val : ∀ (i : Nat) d, ρ[i]? = some (some (.val d)) → ∃ v, σ[i]? = some (some v) ∧ R K (hid c.P H) v d
  own : ∀ (i : Nat) d, ρ[i]? = some (some (.own d)) → ∃ a, σ[i]? = some (some (.ref a)) ∧ c.F a = true ∧ OwnAt K c H a d
  bag : ∀ (i : Nat), ρ[i]? = some (some .bag) → ∃ a, σ[i]? = some (some (.ref a)) ∧ c.B a = true
  sep : ∀ (i j : Nat) d e a, ρ[i]? = some (some (.own d)) → ρ[j]? = some (some (.own e)) → σ[i]? = some (some (.ref a)) → σ[j]? = some (some (.ref a)) → i = j
section
variable {K : PySem.W.Frag} {c : Cf} {H H' : Hp} {σ : L2.St} {ρ : Ev}
theorem OwnAt.ext (k : Hk c H) (e : Ext c.B H H') {a : Addr} {d : D} (ha : c.F a = true) (h : OwnAt K c H a d) : OwnAt K c H' a d := by
  have nb : c.B a = false := by
    cases q : c.B a with
    | false => rfl
    | true =>
      have h1 := k.bo a q
      rw [k.fo a ha] at h1
      cases h1
  cases d <;> first
    | exact h.elim
    | (obtain ⟨xs, h1, h2⟩ := h; exact ⟨xs, e.keep a _ nb h1, h2.mono (k.sub e)⟩)
theorem Rep.ext (r : Rep K c H σ ρ) (k : Hk c H) (e : Ext c.B H H') : Rep K c H' σ ρ :=
  ⟨r.le, fun i d h => let ⟨v, a, b⟩ := r.val i d h; ⟨v, a, b.mono (k.sub e)⟩, fun i d h => let ⟨a, x, y, z⟩ := r.own i d h; ⟨a, x, y, z.ext k e y⟩, r.bag, r.sep⟩
theorem set_cases {α : Type} {l : List α} {i j : Nat} {x y : α} (h : (l.set i x)[j]? = some y) : (i = j ∧ i < l.length ∧ y = x) ∨ (i ≠ j ∧ l[j]? = some y) := by
  by_cases e : i = j
  · subst e
    by_cases hl : i < l.length
    · rw [List.getElem?_set_self hl] at h
      exact .inl ⟨rfl, hl, (Option.some.inj h).symm⟩
    · rw [List.getElem?_eq_none (by simpa using hl)] at h
      cases h
  · rw [List.getElem?_set_ne e] at h
    exact .inr ⟨e, h⟩
theorem Rep.set (r : Rep K c H σ ρ) {i : Nat} {v : V} {d : D} (h : R K (hid c.P H) v d) : Rep K c H (σ.set i (some v)) (ρ.set i (some (.val d))) := by
  refine ⟨by simpa using r.le, fun j e hj => ?_, fun j e hj => ?_, fun j hj => ?_, fun j l e e' a hj hl h1 h2 => ?_⟩
  · rcases set_cases hj with ⟨rfl, hl, q⟩ | ⟨ne, q⟩
    · cases q
      exact ⟨v, List.getElem?_set_self (Nat.lt_of_lt_of_le hl r.le), h⟩
    · rw [List.getElem?_set_ne ne]
      exact r.val j e q
  · rcases set_cases hj with ⟨rfl, hl, q⟩ | ⟨ne, q⟩
    · cases q
    · rw [List.getElem?_set_ne ne]
      exact r.own j e q
  · rcases set_cases hj with ⟨rfl, hl, q⟩ | ⟨ne, q⟩
    · cases q
    · rw [List.getElem?_set_ne ne]
      exact r.bag j q
  · rcases set_cases hj with ⟨rfl, _, q⟩ | ⟨ne, q⟩
    · cases q
    · rcases set_cases hl with ⟨rfl, _, q'⟩ | ⟨ne', q'⟩
      · cases q'
      · rw [List.getElem?_set_ne ne] at h1
        rw [List.getElem?_set_ne ne'] at h2
        exact r.sep j l e e' a q q' h1 h2
end
/-! ### expressions by data -/
/-- an exception: its class and what it keeps -/
structure Exc where
  cls : Addr
  pay : Option (Str × D)
def XRep (K : PySem.W.Frag) (H : Hp) (x : Exc) (dx : Option Addr) : Prop := match x.pay with
  | none => dx = none
  | some (f, d) => ∃ e v, dx = some e ∧ H e = some (.xd [(f, v)]) ∧ R K H v d
abbrev ED := Exc → Prop
abbrev DTE := ED → Ev → (D → Prop) → Prop
abbrev DTT := ED → Ev → (Bool → Prop) → Prop
abbrev DTX := ED → Ev → (Sl → Prop) → Prop
abbrev DTA := ED → Ev → (List Sl → Prop) → Prop
/-- what a body does to the heap: its own lists and the bags may change, what is new may become its own, or a bag -/
structure Step (c c' : Cf) (H H' : Hp) : Prop where
  o : ∀ a, c.O a = true → c'.O a = true
  o' : ∀ a, c'.O a = true → c.O a = true ∨ H a = none
  b : ∀ a, c.B a = true → c'.B a = true
  b' : ∀ a, c'.B a = true → c.B a = true ∨ H a = none
  f : ∀ a, c'.F a = true → c.F a = true ∨ H a = none
  keep : ∀ a o, c.B a = false → c.F a = false → H a = some o → H' a = some o
  al : ∀ a o, H a = some o → ∃ o', H' a = some o'
theorem Step.of {c : Cf} {H H' : Hp} (e : Ext c.B H H') : Step c c H H' := ⟨fun _ h => h, fun _ h => .inl h, fun _ h => h, fun _ h => .inl h, fun _ h => .inl h, fun a o h _ => e.keep a o h, e.al⟩
theorem Step.refl (c : Cf) (H : Hp) : Step c c H H := .of (Ext.refl _ _)
theorem al_back {H H' : Hp} {a : Addr} (al : ∀ a o, H a = some o → ∃ o', H' a = some o') (h : H' a = none) : H a = none := by
  cases e : H a with
  | none => rfl
  | some o =>
    obtain ⟨o', q⟩ := al a o e
    rw [h] at q
    cases q
theorem or_false {p q : Addr → Bool} {H : Hp} {a : Addr} {o : HO} (h : ∀ a, q a = true → p a = true ∨ H a = none) (hp : p a = false) (e : H a = some o) : q a = false := by
  cases z : q a with
  | false => rfl
  | true =>
    rcases h a z with y | y
    · rw [hp] at y
      cases y
    · rw [e] at y
      cases y
theorem Step.trans {c c1 c2 : Cf} {H H1 H2 : Hp} (x : Step c c1 H H1) (y : Step c1 c2 H1 H2) : Step c c2 H H2 where
  o := fun a h => y.o a (x.o a h)
  o' := fun a h => (y.o' a h).elim (x.o' a) fun h => .inr (al_back x.al h)
  b := fun a h => y.b a (x.b a h)
  b' := fun a h => (y.b' a h).elim (x.b' a) fun h => .inr (al_back x.al h)
  f := fun a h => (y.f a h).elim (x.f a) fun h => .inr (al_back x.al h)
  keep := fun a o hb hf h => y.keep a o (or_false x.b' hb h) (or_false x.f hf h) (x.keep a o hb hf h)
  al := fun a o h => let ⟨o', h'⟩ := x.al a o h; y.al a o' h'
/-- data that stood apart from the body's own lists stands behind a step -/
theorem Step.sub {c c' : Cf} {H H' : Hp} (x : Step c c' H H') (k : Hk c H) : Sub (hid c.P H) (hid c'.P H') := fun a o h => by
  obtain ⟨h1, h2⟩ := hid_some.mp h
  have hb := k.nob h1
  have ho : c.O a = false ∧ c.F a = false := by simpa [Cf.P] using h1
  refine hid_some.mpr ⟨?_, x.keep a o hb ho.2 h2⟩
  simp [Cf.P, or_false x.o' ho.1 h2, or_false x.f ho.2 h2]
def Exs (K : PySem.W.Frag) (EX : XK) (c : Cf) (H : Hp) (Ed : ED) : Prop := ∀ x dx c2 H2, Ed x → Step c c2 H H2 → Hk c2 H2 → XRep K (hid c2.P H2) x dx → EX (.ref x.cls) dx H2
theorem Exs.step {K : PySem.W.Frag} {EX : XK} {c c' : Cf} {H H' : Hp} {Ed : ED} (h : Exs K EX c H Ed) (e : Step c c' H H') : Exs K EX c' H' Ed := fun x dx c2 H2 a b k r => h x dx c2 H2 a (e.trans b) k r
theorem Exs.ext {K : PySem.W.Frag} {EX : XK} {c : Cf} {H H' : Hp} {Ed : ED} (h : Exs K EX c H Ed) (e : Ext c.B H H') : Exs K EX c H' Ed := h.step (.of e)
def SlR' (K : PySem.W.Frag) (c : Cf) (H : Hp) (v : V) : Sl → Prop
  | .val d => R K (hid c.P H) v d
  | .bag => ∃ a, v = .ref a ∧ c.B a = true
  | .own _ => False
inductive As (K : PySem.W.Frag) (c : Cf) (H : Hp) : List V → List Sl → Prop
  | nil : As K c H [] []
  | cons {v : V} {s : Sl} {vs : List V} {ss : List Sl} (h : SlR' K c H v s) (t : As K c H vs ss) : As K c H (v :: vs) (s :: ss)
structure St0 (K : PySem.W.Frag) (EX : XK) (c : Cf) (H : Hp) (σ : L2.St) (ρ : Ev) (Ed : ED) : Prop where
  r : Rep K c H σ ρ
  k : Hk c H
  x : Exs K EX c H Ed
theorem St0.ext {K : PySem.W.Frag} {EX : XK} {c : Cf} {H H' : Hp} {σ : L2.St} {ρ : Ev} {Ed : ED} (s : St0 K EX c H σ ρ Ed) (e : Ext c.B H H') : St0 K EX c H' σ ρ Ed := ⟨s.r.ext s.k e, s.k.ext e, s.x.ext e⟩
def tD (K : PySem.W.Frag) (EX : XK) (T : DTE) : TE := fun σ H Q => ∃ c ρ Kd Ed, St0 K EX c H σ ρ Ed ∧ T Ed ρ Kd ∧ ∀ d v H', Kd d → Ext c.B H H' → R K (hid c.P H') v d → Q v H'
def tT (K : PySem.W.Frag) (EX : XK) (T : DTT) : TT := fun σ H Q => ∃ c ρ Kd Ed, St0 K EX c H σ ρ Ed ∧ T Ed ρ Kd ∧ ∀ b H', Kd b → Ext c.B H H' → Q b H'
def tX (K : PySem.W.Frag) (EX : XK) (T : DTX) : TE := fun σ H Q => ∃ c ρ Kd Ed, St0 K EX c H σ ρ Ed ∧ T Ed ρ Kd ∧ ∀ s v H', Kd s → Ext c.B H H' → SlR' K c H' v s → Q v H'
def tA (K : PySem.W.Frag) (EX : XK) (T : DTA) : TA := fun σ H Q => ∃ c ρ Kd Ed, St0 K EX c H σ ρ Ed ∧ T Ed ρ Kd ∧ ∀ ss vs H', Kd ss → Ext c.B H H' → As K c H' vs ss → Q vs H'
abbrev PDe (X : Cx) (EX : XK) (e : Expr) (T : DTE) : Prop := PE X e (tD X.K EX T)
abbrev PDt (X : Cx) (EX : XK) (e : Expr) (T : DTT) : Prop := PT X e (tT X.K EX T)
abbrev PDw (X : Cx) (EX : XK) (e : Expr) (T : DTT) : Prop := PW X e (tT X.K EX T)
abbrev PDx (X : Cx) (EX : XK) (e : Expr) (T : DTX) : Prop := PE X e (tX X.K EX T)
abbrev PDa (X : Cx) (EX : XK) (es : List Expr) (T : DTA) : Prop := PA X es (tA X.K EX T)
theorem peW {X : Cx} {e : Expr} {t t' : TE} (h : PE X e t) (w : ∀ σ H Q, t' σ H Q → t σ H Q) : PE X e t' := ⟨fun pins s σ H Q I q => h.run pins s σ H Q I (w σ H Q q)⟩
theorem ptW {X : Cx} {e : Expr} {t t' : TT} (h : PT X e t) (w : ∀ σ H Q, t' σ H Q → t σ H Q) : PT X e t' := ⟨fun pins s σ H Q I q => h.run pins s σ H Q I (w σ H Q q)⟩
theorem pwW {X : Cx} {e : Expr} {t t' : TT} (h : PW X e t) (w : ∀ σ H Q, t' σ H Q → t σ H Q) : PW X e t' := ⟨fun wh pins s σ H Q I q => h.run wh pins s σ H Q I (w σ H Q q)⟩
theorem paW {X : Cx} {es : List Expr} {t t' : TA} (h : PA X es t) (w : ∀ σ H Q, t' σ H Q → t σ H Q) : PA X es t' := ⟨fun pos pins s σ H Q I q => h.run pos pins s σ H Q I (w σ H Q q)⟩
section
variable {X : Cx} {EX : XK} {a b e : Expr} {Ta Tb T : DTE} {pos : Pos}
/-! names and constants -/
def dVar (i : Nat) : DTE := fun _ ρ K => match ρ[i]? with
  | some (some (.val d)) => K d
  | _ => False
theorem d_var (i : Nat) {x : Str} (hN : X.N[i]? = some x := by rfl) (hv : Vis X.env.scope x := by first | exact Or.inl rfl | exact Or.inr (Or.inl rfl) | exact Or.inr (Or.inr rfl)) (hd : (x == ("__debug__" : Str)) = false := by decide)
    (hcd : (x == ("__classdict__" : Str)) = false := by decide) : PDe X EX (.Name x pos) (dVar i) := by
  refine peW (pe_var hN hv hd hcd) fun σ H Q h => ?_
  obtain ⟨c, ρ, Kd, Ed, s, h, q⟩ := h
  unfold dVar at h
  split at h
  · rename_i d e
    obtain ⟨v, e1, r⟩ := s.r.val i d e
    exact ⟨v, e1, q d v H h (Ext.refl _ _) r⟩
  · exact h.elim
def xVar (i : Nat) : DTX := fun _ ρ K => match ρ[i]? with
  | some (some (.val d)) => K (.val d)
  | some (some .bag) => K .bag
  | _ => False
theorem x_var (i : Nat) {x : Str} (hN : X.N[i]? = some x := by rfl) (hv : Vis X.env.scope x := by first | exact Or.inl rfl | exact Or.inr (Or.inl rfl) | exact Or.inr (Or.inr rfl)) (hd : (x == ("__debug__" : Str)) = false := by decide)
    (hcd : (x == ("__classdict__" : Str)) = false := by decide) : PDx X EX (.Name x pos) (xVar i) := by
  refine peW (pe_var hN hv hd hcd) fun σ H Q h => ?_
  obtain ⟨c, ρ, Kd, Ed, s, h, q⟩ := h
  unfold xVar at h
  split at h
  · rename_i d e
    obtain ⟨v, e1, r⟩ := s.r.val i d e
    exact ⟨v, e1, q (.val d) v H h (Ext.refl _ _) r⟩
  · rename_i e
    obtain ⟨v, e1, r⟩ := s.r.bag i e
    exact ⟨_, e1, q .bag _ H h (Ext.refl _ _) ⟨v, rfl, r⟩⟩
  · exact h.elim
def xVal (T : DTE) : DTX := fun E ρ K => T E ρ fun d => K (.val d)
theorem x_val (h : PDe X EX e T) : PDx X EX e (xVal T) := peW h fun σ H Q h => by
  obtain ⟨c, ρ, Kd, Ed, s, h, q⟩ := h
  exact ⟨c, ρ, fun d => Kd (.val d), Ed, s, h, fun d v H' k x r => q _ v H' k x r⟩
def dC (d : D) : DTE := fun _ _ K => K d
theorem d_c {v : V} {d : D} (h : PE X e (tC v)) (r : ∀ K H, R K H v d) : PDe X EX e (dC d) := peW h fun σ H Q h => by
  obtain ⟨c, ρ, Kd, Ed, s, h, q⟩ := h
  exact q d v H h (Ext.refl _ _) (r _ _)
theorem d_int {i : Int} {j : Nat} : PDe X EX (.Constant (.int i) j pos) (dC (.int i)) := d_c pe_int fun _ _ => .int i
theorem d_bl {i : Bool} {j : Nat} : PDe X EX (.Constant (.bool i) j pos) (dC (.bl i)) := d_c pe_bl fun _ _ => .bl i
theorem d_non {j : Nat} : PDe X EX (.Constant .none j pos) (dC .non) := d_c pe_non fun _ _ => .non
theorem d_str {i : Str} {j : Nat} : PDe X EX (.Constant (.str i) j pos) (dC (.str i)) := d_c pe_str fun _ _ => .str i
/-- an int constant of the module -/
theorem d_globI {x : Str} {i : Int} {u : Value} (hg : Gl X x) (hm : X.mg x = some u) (hr : RelV (.int i) u) (hd : (x == ("__debug__" : Str)) = false := by decide) : PDe X EX (.Name x pos) (dC (.int i)) := d_c (pe_glob hg hm hr hd) fun _ _ => .int i
/-! two-place operations -/
/-- r, by data: f -/
def OpD (K : PySem.W.Frag) (f : D → D → (D → Prop) → Prop) (r : R2) : Prop := ∀ (c : Cf) (H : Hp) (x y : V) (d1 d2 : D) (k : D → Prop) (Q : VK), Hk c H → R K (hid c.P H) x d1 → R K (hid c.P H) y d2 → f d1 d2 k →
  (∀ d v H', k d → Ext c.B H H' → R K (hid c.P H') v d → Q v H') → r x y H Q
def dOp (f : D → D → (D → Prop) → Prop) (Ta Tb : DTE) : DTE := fun E ρ K => Ta E ρ fun x => Tb E ρ fun y => f x y K
theorem two {f : D → D → (D → Prop) → Prop} {r : R2} (hf : OpD X.K f r) {σ : L2.St} {H : Hp} {Q : VK} (h : tD X.K EX (dOp f Ta Tb) σ H Q) : tD X.K EX Ta σ H fun x H1 => tD X.K EX Tb σ H1 fun y H2 => r x y H2 Q := by
  obtain ⟨c, ρ, Kd, Ed, s, h, q⟩ := h
  refine ⟨c, ρ, _, Ed, s, h, fun d v H1 k e r1 => ?_⟩
  have s1 := s.ext e
  refine ⟨c, ρ, _, Ed, s1, k, fun d2 v2 H2 k2 e2 r2 => ?_⟩
  have s2 := s1.ext e2
  exact hf c H2 v v2 d d2 Kd Q s2.k (r1.mono (s1.k.sub e2)) r2 k2 fun d3 v3 H3 k3 e3 r3 => q d3 v3 H3 k3 ((e.trans e2).trans e3) r3
theorem d_op {op : Operator} {r : R2} {f : D → D → (D → Prop) → Prop} (ho : OpR X (binaryOp op) r) (hf : OpD X.K f r) (ha : PDe X EX a Ta) (hb : PDe X EX b Tb) : PDe X EX (.BinOp a op b pos) (dOp f Ta Tb) :=
  peW (pe_op ho ha hb) fun _ _ _ h => two hf h
theorem d_cmp {op : CmpOp} {r : R2} {f : D → D → (D → Prop) → Prop} (ho : OpR X (compareOp op) r) (hf : OpD X.K f r) (ha : PDe X EX a Ta) (hb : PDe X EX b Tb) (hm : behindInMarks op b = false) : PDe X EX (.Compare a [op] [b] pos) (dOp f Ta Tb) :=
  peW (pe_cmpR ho ha hb hm) fun _ _ _ h => two hf h
end

/-! a tuple times at most 0, and times 1 -/
theorem tup_mul0 (l : Addr) (items : Array Value) (n : Nat) (dd : Option Addr) (sl : Array (Option Value)) (x : Int) (u : Tok) (c0 : (decide (x < -(2 ^ 63)) || decide (x ≥ 2 ^ 63)) = false) (c1 : (items.isEmpty || x == 1) = false) (c2 : (decide (x ≤ 0) || items.isEmpty) = true) :
    Meets (Builtin.«tuple.__mul__» ⟨[.ref l, .int x u], []⟩) (fun _ R s => s.heap.get? l = some { cls := .type "tuple", dict := dd, data := .seq items n, slots := sl } ∧
      R (.ok (.ret (Value.ref s.heap.objs.size))) { s with heap := s.heap.push { cls := Value.type "tuple", data := Data.seq #[] }, toks := s.toks }) :=
  .of_wp fun prog w A R s h => by
    obtain ⟨hp, g, d, tk, os⟩ := s
    obtain ⟨hl, h⟩ := h
    have f1 := AutoSeq1.idx_int
    wp_walk using wpAny_loadPart' hl
    repeat (first
      | (refine wpAny_ite_false (decide_eq_false (by rw [c0]; exact Bool.false_ne_true)) ?_; wp_walk using wpAny_loadPart' hl)
      | (refine wpAny_ite_false (decide_eq_false (by rw [c1]; exact Bool.false_ne_true)) ?_; wp_walk using wpAny_loadPart' hl)
      | (refine wpAny_ite_true (decide_eq_true (by rw [c2])) ?_; wp_walk using wpAny_loadPart' hl)
      | (refine wpAny_ite_false (decide_eq_false (Nat.not_lt.mpr (Nat.zero_le _))) ?_; wp_walk using wpAny_loadPart' hl))
    exact ⟨_, rfl, h⟩
theorem tup_mul1 (l : Addr) (items : Array Value) (n : Nat) (dd : Option Addr) (sl : Array (Option Value)) (x : Int) (u : Tok) (c0 : (decide (x < -(2 ^ 63)) || decide (x ≥ 2 ^ 63)) = false) (c1 : (items.isEmpty || x == 1) = true) :
    Meets (Builtin.«tuple.__mul__» ⟨[.ref l, .int x u], []⟩) (fun _ R s => s.heap.get? l = some { cls := .type "tuple", dict := dd, data := .seq items n, slots := sl } ∧
      R (.ok (.ret (Value.ref l))) s) :=
  .of_wp fun prog w A R s h => by
    obtain ⟨hp, g, d, tk, os⟩ := s
    obtain ⟨hl, h⟩ := h
    have f1 := AutoSeq1.idx_int
    wp_walk using wpAny_loadPart' hl
    repeat (first
      | (refine wpAny_ite_false (decide_eq_false (by rw [c0]; exact Bool.false_ne_true)) ?_; wp_walk using wpAny_loadPart' hl)
      | (refine wpAny_ite_true (decide_eq_true (by rw [c1])) ?_; wp_walk using wpAny_loadPart' hl))
    exact ⟨_, rfl, h⟩
def rRep0 (K : PySem.W.Frag) : R2 := fun x y H Q => ∃ l k xs, x = .ref l ∧ y = .int k ∧ SqT K H l xs ∧ xs ≠ [] ∧ -(2 ^ 62) ≤ k ∧ k ≤ 0 ∧ ∀ p, H p = none → Q (.ref p) (upd H p (.tup []))
def rRep1 (K : PySem.W.Frag) : R2 := fun x y H Q => ∃ l k xs, x = .ref l ∧ y = .int k ∧ SqT K H l xs ∧ -(2 ^ 62) ≤ k ∧ k ≤ 2 ^ 62 ∧ (xs = [] ∨ k = 1) ∧ Q (.ref l) H
section
variable {X : Cx}
theorem op_rep0 : OpR X (binaryOp .Mult) (rRep0 X.K) := by
  intro pins s σ H x y v u Q I rx ry h
  obtain ⟨l, k, xs, rfl, rfl, hT, hne, h1, h2, q⟩ := h
  cases rx
  obtain ⟨t, rfl⟩ := ry
  obtain ⟨its, r, ⟨⟨cls, dd, data, sl⟩, ho, hc, n, hd⟩, hs⟩ := I.tuple hT
  simp only at hc hd
  subst hc hd
  have hi : its.toArray.isEmpty = false := by
    cases its with
    | nil =>
      cases r
      exact absurd rfl hne
    | cons a b => rfl
  have c0 : (decide (k < -(2 ^ 63)) || decide (k ≥ 2 ^ 63)) = false := by
    rw [decide_eq_false (by omega), decide_eq_false (by omega)] <;> rfl
  have c1 : (its.toArray.isEmpty || k == 1) = false := by
    rw [hi, Bool.false_or]
    exact beq_eq_false_iff_ne.mpr (by omega)
  have c2 : (decide (k ≤ 0) || its.toArray.isEmpty) = true := by
    rw [decide_eq_true h2, Bool.true_or]
  refine wpAny_binaryOp_repeat_ref (T := "tuple") (U := "int") (by decide) ⟨_, ho, rfl⟩ (fun s' => typeIs_int s' k t) noFill_tuple_mul F.fills_int_mul F.slot_int_rmul repeat_tuple F.slot_int_index.lookup
    (call_meets F.slot_int_rmul (typeIs_int s k t) F.entry_int_rmul (F.args_int_rmul_2 _ _) (int_rmul_tuple k t l its.toArray n dd sl)
      ⟨ho, rfl, ⟨_, ho, rfl⟩, call_meets F.slot_tuple_mul ⟨_, ho, rfl⟩ F.entry_tuple_mul (F.args_tuple_mul_2 _ _) (tup_mul0 l its.toArray n dd sl k t c0 c1 c2) ⟨ho, ?_⟩⟩)
  refine ⟨.ref s.heap.objs.size, _, I.laid (t' := s.toks) (o := .tup []) (fun b ob q => Heap.get?_push_of_some _ q) (Nat.le_refl _) ?_, rfl, q _ (I.hok.fresh (Nat.le_refl _))⟩
  exact ⟨Nat.zero_le _, [], .nil, IsTup.new _ _⟩
theorem op_rep1 : OpR X (binaryOp .Mult) (rRep1 X.K) := by
  intro pins s σ H x y v u Q I rx ry h
  obtain ⟨l, k, xs, rfl, rfl, hT, h1, h2, h3, q⟩ := h
  cases rx
  obtain ⟨t, rfl⟩ := ry
  obtain ⟨its, r, ⟨⟨cls, dd, data, sl⟩, ho, hc, n, hd⟩, hs⟩ := I.tuple hT
  simp only at hc hd
  subst hc hd
  have c0 : (decide (k < -(2 ^ 63)) || decide (k ≥ 2 ^ 63)) = false := by
    rw [decide_eq_false (by omega), decide_eq_false (by omega)] <;> rfl
  have c1 : (its.toArray.isEmpty || k == 1) = true := by
    rcases h3 with rfl | rfl
    · cases r
      rfl
    · simp
  exact wpAny_binaryOp_repeat_ref (T := "tuple") (U := "int") (by decide) ⟨_, ho, rfl⟩ (fun s' => typeIs_int s' k t) noFill_tuple_mul F.fills_int_mul F.slot_int_rmul repeat_tuple F.slot_int_index.lookup
    (call_meets F.slot_int_rmul (typeIs_int s k t) F.entry_int_rmul (F.args_int_rmul_2 _ _) (int_rmul_tuple k t l its.toArray n dd sl)
      ⟨ho, rfl, ⟨_, ho, rfl⟩, call_meets F.slot_tuple_mul ⟨_, ho, rfl⟩ F.entry_tuple_mul (F.args_tuple_mul_2 _ _) (tup_mul1 l its.toArray n dd sl k t c0 c1) ⟨ho, ⟨.ref l, H, I, rfl, q⟩⟩⟩)
end

/-! ### operators -/
section
variable {X : Cx} {K : PySem.W.Frag}
theorem szL {n : Nat} (h : n ≤ 1000000) : n ≤ sizeLine := Nat.le_trans h (by decide)
/-- a new object that shows data -/
theorem newLst {c : Cf} {H : Hp} {p : Addr} {xs : List V} {ds : List D} (k : Hk c H) (hp : H p = none) (r : Rs K (hid c.P H) xs ds) : R K (hid c.P (upd H p (.lst xs))) (.ref p) (.lst ds) :=
  .lst (k.new hp) (r.mono (k.sub (Ext.new hp k.bag)))
theorem newTup {c : Cf} {H : Hp} {p : Addr} {xs : List V} {ds : List D} (k : Hk c H) (hp : H p = none) (r : Rs K (hid c.P H) xs ds) : R K (hid c.P (upd H p (.tup xs))) (.ref p) (.tup ds) :=
  .tup (SqT.of (k.new hp)) (r.mono (k.sub (Ext.new hp k.bag)))
theorem hidT {P : Addr → Bool} {H : Hp} {a : Addr} {xs : List V} (h : SqT K (hid P H) a xs) : SqT K H a xs := (hid_sub P H).st h
theorem hidL {P : Addr → Bool} {H : Hp} {a : Addr} {xs : List V} (h : SqL K (hid P H) a xs) : SqL K H a xs := (hid_sub P H).sl h
theorem hidG {P : Addr → Bool} {H : Hp} {a : Addr} {o : HO} (h : hid P H a = some o) : H a = some o := hid_sub P H _ _ h
def fAdd (x y : D) (k : D → Prop) : Prop := match x, y with
  | .int i, .int j => k (.int (i + j))
  | .lst a, .lst b => a.length + b.length ≤ 1000000 ∧ k (.lst (a ++ b))
  | .tup a, .tup b => a.length + b.length ≤ 1000000 ∧ k (.tup (a ++ b))
  | .str a, .str b => a.length + b.length ≤ 1000000 ∧ k (.str (a ++ b))
  | _, _ => False
abbrev rAdd (K : PySem.W.Frag) : R2 := fun x y H Q => (rI0 (fun i j => .int (i + j)) x y H Q ∨ (rCat x y H Q ∨ (rCatA K x y H Q ∨ (∃ i j, x = .str i ∧ y = .str j ∧ i.length + j.length ≤ sizeLine ∧ Q (.str (i ++ j)) H))))
theorem op_addA : OpR X (binaryOp .Add) (rAdd X.K) := op_add.or (op_cat.or (op_catA.or op_add_str))
theorem od_add : OpD K fAdd (rAdd K) := fun c H x y d1 d2 k Q hk r1 r2 h q => by
  unfold fAdd at h
  split at h
  · cases r1
    cases r2
    exact .inl ⟨_, _, rfl, rfl, q _ _ _ h (Ext.refl _ _) (.int _)⟩
  · obtain ⟨hl, h⟩ := h
    cases r1 with
    | lst h1 s1 =>
      cases r2 with
      | lst h2 s2 =>
        refine .inr (.inl ⟨_, _, _, _, rfl, rfl, hidG h1, hidG h2, by rw [s1.length, s2.length]; exact szL hl, fun p hp => ?_⟩)
        exact q _ _ _ h (Ext.new hp hk.bag) (newLst hk hp (s1.app s2))
  · obtain ⟨hl, h⟩ := h
    cases r1 with
    | tup h1 s1 =>
      cases r2 with
      | tup h2 s2 =>
        refine .inr (.inr (.inl ⟨_, _, _, _, rfl, rfl, hidT h1, hidT h2, by rw [s1.length, s2.length]; exact szL hl, fun e => ?_, fun e e2 => ?_, fun e e2 p hp => ?_⟩))
        · subst e
          cases s1
          exact q _ _ _ h (Ext.refl _ _) (.tup h2 s2)
        · subst e2
          cases s2
          rw [List.append_nil] at h
          exact q _ _ _ h (Ext.refl _ _) (.tup h1 s1)
        · exact q _ _ _ h (Ext.new hp hk.bag) (newTup hk hp (s1.app s2))
  · obtain ⟨hl, h⟩ := h
    cases r1
    cases r2
    exact .inr (.inr (.inr ⟨_, _, rfl, rfl, szL hl, q _ _ _ h (Ext.refl _ _) (.str _)⟩))
  · exact h.elim
def fInt2 (C : Int → Int → Prop) (g : Int → Int → Int) (x y : D) (k : D → Prop) : Prop := match x, y with
  | .int i, .int j => C i j ∧ k (.int (g i j))
  | _, _ => False
theorem od_int2 {C : Int → Int → Prop} {g : Int → Int → Int} : OpD K (fInt2 C g) (rI C fun i j => .int (g i j)) := fun c H x y d1 d2 k Q hk r1 r2 h q => by
  unfold fInt2 at h
  split at h
  · cases r1
    cases r2
    exact ⟨_, _, rfl, rfl, h.1, q _ _ _ h.2 (Ext.refl _ _) (.int _)⟩
  · exact h.elim
def fSub (x y : D) (k : D → Prop) : Prop := match x, y with
  | .int i, .int j => k (.int (i - j))
  | _, _ => False
theorem od_sub : OpD K fSub (rI0 fun i j => .int (i - j)) := fun c H x y d1 d2 k Q hk r1 r2 h q => by
  unfold fSub at h
  split at h
  · cases r1
    cases r2
    exact ⟨_, _, rfl, rfl, q _ _ _ h (Ext.refl _ _) (.int _)⟩
  · exact h.elim
/-- one of both is small, or the two sizes together are below the line -/
def MulOk (i j : Int) : Prop := CMul i j ∨ i.natAbs.log2 + j.natAbs.log2 < 100000000
theorem MulOk.ok {i j : Int} (h : MulOk i j) : IntMulOk i j := by
  rcases h with h | h
  · exact h.ok
  have b : ∀ x : Int, Builtin.Int.intBits x ≤ x.natAbs.log2 + 1 := fun x => by
    unfold Builtin.Int.intBits
    split <;> omega
  have h1 := b i
  have h2 := b j
  have e : bitsLine = 134217728 := by decide
  unfold IntMulOk
  intro z
  rw [Bool.and_eq_true] at z
  have z2 := z.2
  unfold Builtin.Int.intTooBig at z2
  have z3 := of_decide_eq_true z2
  rw [e] at z3
  omega
theorem log_lt {i : Int} {m : Nat} (h : i.natAbs < 2 ^ m) : i.natAbs.log2 ≤ m := by
  cases m with
  | zero =>
    have e : i.natAbs = 0 := by simpa using h
    rw [e]
    decide
  | succ m => exact Nat.le_of_lt (PySem.Flt.log2_lt_of (Nat.succ_pos m) h)
theorem mul_ok {i j : Int} {m n : Nat} (h1 : i.natAbs < 2 ^ m) (h2 : j.natAbs < 2 ^ n) (h : m + n < 100000000) : MulOk i j := .inr (by
  have a := log_lt h1
  have b := log_lt h2
  omega)
theorem mul_okL {i j : Int} (h1 : -(2 ^ 64) < i) (h2 : i < 2 ^ 64) : MulOk i j := .inl (.inl ⟨h1, h2⟩)
theorem mul_okR {i j : Int} (h1 : -(2 ^ 64) < j) (h2 : j < 2 ^ 64) : MulOk i j := .inl (.inr ⟨h1, h2⟩)
theorem op_mulB : OpR X (binaryOp .Mult) (rI MulOk fun i j => .int (i * j)) := opI fun _ _ _ _ _ _ _ hc q => mul_int q hc.ok
/-- // and % by any divisor but 0; the divisor of // below 2 ^ 9000 -/
def DivOk (_ j : Int) : Prop := j ≠ 0 ∧ j.natAbs.log2 < 9000
theorem op_fdivB : OpR X (binaryOp .FloorDiv) (rI DivOk fun i j => .int (i.fdiv j)) := opI fun i j _ _ _ _ _ hc q => floordiv_int hc.1 q (.inl (PyProof.noPylong_of_log2 hc.2))
def PowOk (i j : Int) : Prop := 0 ≤ j ∧ (Builtin.Int.intBits i : Int) * j ≤ 2 ^ 27
theorem op_powB : OpR X (binaryOp .Pow) (rI PowOk fun i j => .int (i ^ j.toNat)) := opI fun i j _ _ _ _ _ hc q => pow_int hc.1 hc.2 q
/-- comparisons of ints -/
def fCmp (g : Int → Int → Bool) (x y : D) (k : D → Prop) : Prop := match x, y with
  | .int i, .int j => k (.bl (g i j))
  | _, _ => False
theorem od_cmp {g : Int → Int → Bool} : OpD K (fCmp g) (rI0 fun i j => .bl (g i j)) := fun c H x y d1 d2 k Q hk r1 r2 h q => by
  unfold fCmp at h
  split at h
  · cases r1
    cases r2
    exact ⟨_, _, rfl, rfl, q _ _ _ h (Ext.refl _ _) (.bl _)⟩
  · exact h.elim
end
/-! ### data that == reads -/
mutual
def D.py : D → PyData
  | .non => .none
  | .bl b => .bool b
  | .int i => .int i
  | .str x => .str x
  | .tup xs => .tuple (pys xs)
  | .lst xs => .list (pys xs)
  | .dic _ => .none
  | .scr ns => .list (ns.map PyData.int)
def pys : List D → List PyData
  | [] => []
  | x :: xs => x.py :: pys xs
end
mutual
/-- without dicts, of a depth of at most n -/
def D.flat : Nat → D → Bool
  | _, .non => true
  | _, .bl _ => true
  | _, .int _ => true
  | _, .str x => PyData.strOk x
  | n + 1, .tup xs => flats n xs
  | n + 1, .lst xs => flats n xs
  | _, _ => false
def flats : Nat → List D → Bool
  | _, [] => true
  | n, x :: xs => D.flat n x && flats n xs
end
section
variable {K : PySem.W.Frag} {H : Hp}
mutual
theorem R.dp : ∀ {d : D} {v : V} {n : Nat}, R K H v d → D.flat n d = true → Dp K H v d.py ∧ d.py.canLay0 = true ∧ d.py.depth ≤ n
  | .non, _, _, r, _ => by cases r; exact ⟨.non, by simp [D.py, PyData.canLay0], by simp [D.py, PyData.depth]⟩
  | .bl b, _, _, r, _ => by cases r; exact ⟨.bl b, by simp [D.py, PyData.canLay0], by simp [D.py, PyData.depth]⟩
  | .int b, _, _, r, _ => by cases r; exact ⟨.int b, by simp [D.py, PyData.canLay0], by simp [D.py, PyData.depth]⟩
  | .str b, _, _, r, h => by cases r; exact ⟨.str b, by simpa [D.py, PyData.canLay0, D.flat] using h, by simp [D.py, PyData.depth]⟩
  | .tup xs, _, 0, r, h => by simp [D.flat] at h
  | .tup xs, _, n + 1, r, h => by
    cases r with
    | tup q s =>
      have h' : flats n xs = true := by simpa [D.flat] using h
      obtain ⟨a, b, e⟩ := Rs.dp s h'
      exact ⟨.tup q a, by simp [D.py, PyData.canLay0]; exact b, by simp [D.py, PyData.depth]; exact e⟩
  | .lst xs, _, 0, r, h => by simp [D.flat] at h
  | .lst xs, _, n + 1, r, h => by
    cases r with
    | lst q s =>
      have h' : flats n xs = true := by simpa [D.flat] using h
      obtain ⟨a, b, e⟩ := Rs.dp s h'
      exact ⟨.lst (SqL.of q) a, by simp [D.py, PyData.canLay0]; exact b, by simp [D.py, PyData.depth]; exact e⟩
  | .dic _, _, _, _, h => by simp [D.flat] at h
  | .scr _, _, _, _, h => by simp [D.flat] at h
theorem Rs.dp : ∀ {ds : List D} {vs : List V} {n : Nat}, Rs K H vs ds → flats n ds = true → DpAll K H vs (pys ds) ∧ PyData.canLayAll0 (pys ds) = true ∧ PyData.depthAll (pys ds) ≤ n
  | [], _, _, r, _ => by cases r; exact ⟨.nil, by simp [pys, PyData.canLayAll0], by simp [pys, PyData.depthAll]⟩
  | d :: ds, _, n, r, h => by
    cases r with
    | cons a s =>
      have h' : D.flat n d = true ∧ flats n ds = true := by simpa [flats] using h
      obtain ⟨a1, b1, e1⟩ := R.dp a h'.1
      obtain ⟨a2, b2, e2⟩ := Rs.dp s h'.2
      exact ⟨.cons a1 a2, by simp [pys, PyData.canLayAll0, b1, b2], by simp only [pys, PyData.depthAll]; omega⟩
end
end
theorem shaped_of {d : D} (h : d.py.canLay0 = true) (h2 : d.py.depth ≤ 64) : SeqAt.shaped d.py = true := by
  show (d.py.canLay0 && decide (d.py.depth ≤ 64)) = true
  rw [Bool.and_eq_true]
  exact ⟨h, decide_eq_true h2⟩
/-- == as Python has it: True is 1 -/
def D.eqv (x y : D) : Bool := PyData.eqv x.py y.py
def fEq (x y : D) (k : D → Prop) : Prop := match x, y with
  | .int a, .int b => k (.bl (decide (a = b)))
  | .str a, .str b => k (.bl (decide (a = b)))
  | x, y => D.flat 64 x = true ∧ D.flat 64 y = true ∧ k (.bl (x.eqv y))
def fNe (x y : D) (k : D → Prop) : Prop := match x, y with
  | .int a, .int b => k (.bl (!decide (a = b)))
  | .str a, .str b => k (.bl (!decide (a = b)))
  | x, y => D.flat 64 x = true ∧ D.flat 64 y = true ∧ k (.bl (!x.eqv y))
section
variable {K : PySem.W.Frag}
abbrev rEqA (K : PySem.W.Frag) : R2 := fun x y H Q => L2.rEq x y H Q ∨ rEqD K x y H Q
abbrev rNeA (K : PySem.W.Frag) : R2 := fun x y H Q => L2.rNe x y H Q ∨ rNeD K x y H Q
theorem op_eqA {X : Cx} (hu : X.A.units + 64 < cLine) : OpR X (compareOp .Eq) (rEqA X.K) := op_eq.or (op_eqD hu)
theorem op_neA {X : Cx} (hu : X.A.units + 64 < cLine) : OpR X (compareOp .NotEq) (rNeA X.K) := op_ne.or (op_neD hu)
theorem dec_inj {α : Type} {f : α → V} (hf : ∀ a b, f a = f b → a = b) [DecidableEq α] (a b : α) : decide (f a = f b) = decide (a = b) := by
  by_cases e : a = b
  · simp [e]
  · rw [decide_eq_false e, decide_eq_false fun z => e (hf a b z)]
theorem od_eq : OpD K fEq (rEqA K) := fun c H x y d1 d2 k Q hk r1 r2 h q => by
  unfold fEq at h
  split at h
  · cases r1
    cases r2
    exact .inl ⟨rfl, by rw [dec_inj (f := V.int) (fun a b z => by cases z; rfl)]; exact q _ _ _ h (Ext.refl _ _) (.bl _)⟩
  · cases r1
    cases r2
    exact .inl ⟨rfl, by rw [dec_inj (f := V.str) (fun a b z => by cases z; rfl)]; exact q _ _ _ h (Ext.refl _ _) (.bl _)⟩
  · obtain ⟨a1, b1, e1⟩ := (r1.mono (hid_sub _ _)).dp h.1
    obtain ⟨a2, b2, e2⟩ := (r2.mono (hid_sub _ _)).dp h.2.1
    exact .inr ⟨_, _, a1, a2, shaped_of b1 e1, shaped_of b2 e2, q _ _ _ h.2.2 (Ext.refl _ _) (.bl _)⟩
theorem od_ne : OpD K fNe (rNeA K) := fun c H x y d1 d2 k Q hk r1 r2 h q => by
  unfold fNe at h
  split at h
  · cases r1
    cases r2
    exact .inl ⟨rfl, by rw [dec_inj (f := V.int) (fun a b z => by cases z; rfl)]; exact q _ _ _ h (Ext.refl _ _) (.bl _)⟩
  · cases r1
    cases r2
    exact .inl ⟨rfl, by rw [dec_inj (f := V.str) (fun a b z => by cases z; rfl)]; exact q _ _ _ h (Ext.refl _ _) (.bl _)⟩
  · obtain ⟨a1, b1, e1⟩ := (r1.mono (hid_sub _ _)).dp h.1
    obtain ⟨a2, b2, e2⟩ := (r2.mono (hid_sub _ _)).dp h.2.1
    exact .inr ⟨_, _, a1, a2, shaped_of b1 e1, shaped_of b2 e2, q _ _ _ h.2.2 (Ext.refl _ _) (.bl _)⟩
/-! in, not in: flat values in a list or a tuple -/
def D.flat1 : D → Bool
  | .non => true | .bl _ => true | .int _ => true | .str _ => true | _ => false
def D.eqv1 : D → D → Bool
  | .non, .non => true
  | .bl a, .bl b => a == b
  | .bl a, .int b => (if a then 1 else 0) == b
  | .int a, .bl b => a == (if b then 1 else 0)
  | .int a, .int b => a == b
  | .str a, .str b => a == b
  | _, _ => false
theorem flat1_V {H : Hp} {v : V} {d : D} (r : R K H v d) (h : d.flat1 = true) : flatV v = true := by
  cases r <;> first
    | rfl
    | exact absurd (show false = true from h) Bool.false_ne_true
theorem eqv1_V {H : Hp} {v w : V} {d e : D} (r : R K H v d) (s : R K H w e) (h : d.flat1 = true) (h2 : e.flat1 = true) : eqV v w = d.eqv1 e := by
  cases r <;> first
    | exact absurd (show false = true from h) Bool.false_ne_true
    | (cases s <;> first
        | rfl
        | exact absurd (show false = true from h2) Bool.false_ne_true)
theorem flats1_V {H : Hp} : ∀ {vs : List V} {ds : List D}, Rs K H vs ds → ds.all D.flat1 = true → vs.all flatV = true
  | _, _, .nil, _ => rfl
  | _, _, .cons a t, h => by
    rw [List.all_cons, Bool.and_eq_true] at h ⊢
    exact ⟨flat1_V a h.1, flats1_V t h.2⟩
theorem inV_D {H : Hp} {v : V} {d : D} (r : R K H v d) (hd : d.flat1 = true) : ∀ {vs : List V} {ds : List D}, Rs K H vs ds → ds.all D.flat1 = true → inV v vs = ds.any fun e => e.eqv1 d
  | _, _, .nil, _ => rfl
  | _, _, .cons a t, h => by
    rw [List.all_cons, Bool.and_eq_true] at h
    have ih := inV_D r hd t h.2
    unfold inV at ih ⊢
    rw [List.any_cons, List.any_cons, ih, eqv1_V a r h.1 hd]
def fIn (neg : Bool) (x y : D) (k : D → Prop) : Prop := match y with
  | .lst ds => x.flat1 = true ∧ ds.all D.flat1 = true ∧ k (.bl (if neg then !(ds.any fun e => e.eqv1 x) else ds.any fun e => e.eqv1 x))
  | .tup ds => x.flat1 = true ∧ ds.all D.flat1 = true ∧ k (.bl (if neg then !(ds.any fun e => e.eqv1 x) else ds.any fun e => e.eqv1 x))
  | _ => False
theorem od_in {neg : Bool} : OpD K (fIn neg) (rIn K neg) := fun c H x y d1 d2 k Q hk r1 r2 h q => by
  unfold fIn at h
  split at h
  · obtain ⟨h1, h2, h⟩ := h
    cases r2 with
    | lst a s => exact ⟨_, _, rfl, .inl (SqL.of (hidG a)), flat1_V r1 h1, flats1_V s h2, by rw [inV_D r1 h1 s h2]; exact q _ _ _ h (Ext.refl _ _) (.bl _)⟩
  · obtain ⟨h1, h2, h⟩ := h
    cases r2 with
    | tup a s => exact ⟨_, _, rfl, .inr (hidT a), flat1_V r1 h1, flats1_V s h2, by rw [inV_D r1 h1 s h2]; exact q _ _ _ h (Ext.refl _ _) (.bl _)⟩
  · exact h.elim
/-! is None -/
def fIsN (neg : Bool) (x y : D) (k : D → Prop) : Prop := match y with
  | .non => k (.bl (match x with | .non => !neg | _ => neg))
  | _ => False
theorem od_isN : OpD K (fIsN false) (fun x y H Q => y = .non ∧ Q (.bl (decide (x = .non))) H) := fun c H x y d1 d2 k Q hk r1 r2 h q => by
  unfold fIsN at h
  split at h
  · cases r2
    refine ⟨rfl, q _ _ _ h (Ext.refl _ _) ?_⟩
    cases r1 <;> exact .bl _
  · exact h.elim
theorem od_notN : OpD K (fIsN true) (fun x y H Q => y = .non ∧ Q (.bl (!decide (x = .non))) H) := fun c H x y d1 d2 k Q hk r1 r2 h q => by
  unfold fIsN at h
  split at h
  · cases r2
    refine ⟨rfl, q _ _ _ h (Ext.refl _ _) ?_⟩
    cases r1 <;> exact .bl _
  · exact h.elim
/-! repetition -/
def fRep (x y : D) (k : D → Prop) : Prop := match x, y with
  | .int i, .int j => MulOk i j ∧ k (.int (i * j))
  | .lst xs, .int n => -(2 ^ 62) ≤ n ∧ n ≤ 1000000 ∧ xs.length * n.toNat ≤ 1000000 ∧ k (.lst (List.replicate n.toNat xs).flatten)
  | .tup xs, .int n => -(2 ^ 62) ≤ n ∧ n ≤ 1000 ∧ xs.length ≤ 1000 ∧ k (.tup (List.replicate n.toNat xs).flatten)
  | _, _ => False
abbrev rMulA (K : PySem.W.Frag) : R2 := fun x y H Q => (rI MulOk (fun i j => .int (i * j)) x y H Q ∨ (rRep x y H Q ∨ (rRepT K x y H Q ∨ (rRep0 K x y H Q ∨ rRep1 K x y H Q))))
theorem op_mulA {X : Cx} : OpR X (binaryOp .Mult) (rMulA X.K) := op_mulB.or (op_rep.or (op_repT.or (op_rep0.or op_rep1)))
theorem Rs.rep {H : Hp} {vs : List V} {ds : List D} (h : Rs K H vs ds) : ∀ n : Nat, Rs K H (List.replicate n vs).flatten (List.replicate n ds).flatten
  | 0 => .nil
  | n + 1 => by
    rw [List.replicate_succ, List.replicate_succ, List.flatten_cons, List.flatten_cons]
    exact h.app (h.rep n)
theorem od_mul : OpD K fRep (rMulA K) := fun c H x y d1 d2 k Q hk r1 r2 h q => by
  unfold fRep at h
  split at h
  · cases r1
    cases r2
    exact .inl ⟨_, _, rfl, rfl, h.1, q _ _ _ h.2 (Ext.refl _ _) (.int _)⟩
  · obtain ⟨h1, h2, h3, h⟩ := h
    cases r2
    cases r1 with
    | lst a s =>
      refine .inr (.inl ⟨_, _, _, rfl, rfl, hidG a, by omega, by omega, by rw [s.length]; exact szL h3, fun p hp => ?_⟩)
      exact q _ _ _ h (Ext.new hp hk.bag) (newLst hk hp (s.rep _))
  · obtain ⟨h1, h2, h3, h⟩ := h
    cases r2
    rename_i xs n
    cases r1 with
    | tup a s =>
      have nil : ∀ {us : List V} {ds : List D} {H : Hp}, Rs K H us ds → us = [] → ds = [] := fun {us ds H} r e => by
        subst e
        cases r
        rfl
      by_cases e1 : xs = []
      · have es : (List.replicate n.toNat xs).flatten = xs := by rw [e1]; simp
        rw [es] at h
        refine .inr (.inr (.inr (.inr ⟨_, _, _, rfl, rfl, hidT a, h1, by omega, .inl ?_, q _ _ _ h (Ext.refl _ _) (.tup a s)⟩)))
        subst e1
        cases s
        rfl
      · by_cases e2 : n = 1
        · have es : (List.replicate n.toNat xs).flatten = xs := by rw [e2]; simp
          rw [es] at h
          exact .inr (.inr (.inr (.inr ⟨_, _, _, rfl, rfl, hidT a, h1, by omega, .inr e2, q _ _ _ h (Ext.refl _ _) (.tup a s)⟩)))
        · by_cases e3 : n ≤ 0
          · have es : (List.replicate n.toNat xs).flatten = [] := by rw [Int.toNat_of_nonpos e3]; rfl
            rw [es] at h
            refine .inr (.inr (.inr (.inl ⟨_, _, _, rfl, rfl, hidT a, fun e => e1 (nil s e), h1, e3, fun p hp => ?_⟩)))
            exact q _ _ _ h (Ext.new hp hk.bag) (newTup hk hp .nil)
          · refine .inr (.inr (.inl ⟨_, _, _, rfl, rfl, hidT a, fun e => e1 (nil s e), by omega, h2, by rw [s.length]; exact h3, fun p hp => ?_⟩))
            exact q _ _ _ h (Ext.new hp hk.bag) (newTup hk hp (s.rep _))
  · exact h.elim
end
/-! ### one-place operations, tests -/
section
variable {X : Cx} {EX : XK} {a b e c : Expr} {Ta Tb T : DTE} {Tt Tu : DTT} {pos : Pos} {rest : List Expr}
def dNeg (T : DTE) : DTE := fun E ρ K => T E ρ fun d => match d with
  | .int i => K (.int (-i))
  | _ => False
theorem d_neg (h : PDe X EX a T) : PDe X EX (.UnaryOp .USub a pos) (dNeg T) := peW (pe_un un_neg h) fun σ H Q h => by
  obtain ⟨c, ρ, Kd, Ed, s, h, q⟩ := h
  refine ⟨c, ρ, _, Ed, s, h, fun d v H1 k e r => ?_⟩
  cases r <;> first
    | exact k.elim
    | exact ⟨_, rfl, q _ _ _ k e (.int _)⟩
def dTest (T : DTE) : DTT := fun E ρ K => T E ρ fun d => match d with
  | .bl b => K b
  | _ => False
theorem t_of {σ : L2.St} {H : Hp} {Q : Bool → Hp → Prop} (h : tT X.K EX (dTest T) σ H Q) : tD X.K EX T σ H fun x H1 => ∃ c, x = .bl c ∧ Q c H1 := by
  obtain ⟨c, ρ, Kd, Ed, s, h, q⟩ := h
  refine ⟨c, ρ, _, Ed, s, h, fun d v H1 k e r => ?_⟩
  cases r <;> first
    | exact k.elim
    | exact ⟨_, rfl, q _ _ k e⟩
/-- an expression that is a bool, as a test -/
theorem t_val (h : PDe X EX e T) (he : ∀ whole, isTrue e X.env whole = (do let v ← whole; standAt e.pos; holding [v] (truthy v)) := by intro _; rfl) : PDt X EX e (dTest T) := ptW (pt_val h he) fun _ _ _ h => t_of h
theorem two_t {f : D → D → (D → Prop) → Prop} {r : R2} (hf : OpD X.K f r) {σ : L2.St} {H : Hp} {Q : Bool → Hp → Prop} (h : tT X.K EX (dTest (dOp f Ta Tb)) σ H Q) : tTest (tOp r (tD X.K EX Ta) (tD X.K EX Tb)) σ H Q := by
  have h2 := t_of h
  exact two hf h2
theorem t_cmp {op : CmpOp} {r : R2} {f : D → D → (D → Prop) → Prop} (ho : OpR X (compareOp op) r) (hf : OpD X.K f r) (ha : PDe X EX a Ta) (hb : PDe X EX b Tb) (hm : behindInMarks op b = false) : PDt X EX (.Compare a [op] [b] pos) (dTest (dOp f Ta Tb)) :=
  ptW (pt_cmpR ho ha hb hm) fun _ _ _ h => two_t hf h
/-- a value's truth -/
def dTru (T : DTE) : DTT := fun E ρ K => T E ρ fun d => match d with
  | .non => K false
  | .bl b => K b
  | .int i => K (i != 0)
  | .tup xs => K (!xs.isEmpty)
  | .lst xs => K (!xs.isEmpty)
  | _ => False
theorem isE {K : PySem.W.Frag} {H : Hp} {vs : List V} {ds : List D} (r : Rs K H vs ds) : (!vs.isEmpty) = !ds.isEmpty := by cases r <;> rfl
theorem t_tru (h : PDe X EX a T) (he : ∀ whole, isTrue a X.env whole = (do let v ← whole; standAt a.pos; holding [v] (truthy v)) := by intro _; rfl) : PDt X EX a (dTru T) := ptW (pt_truth h he) fun σ H Q h => by
  obtain ⟨c, ρ, Kd, Ed, s, h, q⟩ := h
  refine ⟨c, ρ, _, Ed, s, h, fun d v H1 k e r => ?_⟩
  cases r with
  | non => exact ⟨_, rfl, q _ _ k e⟩
  | bl b => exact ⟨_, rfl, q _ _ k e⟩
  | int i => exact ⟨_, rfl, q _ _ k e⟩
  | str x => exact k.elim
  | tup h1 hs => exact ⟨_, .inr (.inl ⟨_, hidT h1, rfl⟩), by rw [isE hs]; exact q _ _ k e⟩
  | lst h1 hs => exact ⟨_, .inl ⟨_, SqL.of (hidG h1), rfl⟩, by rw [isE hs]; exact q _ _ k e⟩
  | dic _ _ => exact k.elim
  | scr _ => exact k.elim
def dAnd (T U : DTT) : DTT := fun E ρ K => T E ρ fun c => (c = true → U E ρ K) ∧ (c = false → K false)
def dOr (T U : DTT) : DTT := fun E ρ K => T E ρ fun c => (c = true → K true) ∧ (c = false → U E ρ K)
def dNot (T : DTT) : DTT := fun E ρ K => T E ρ fun c => K (!c)
theorem w_and1 (h : PDt X EX a Tt) : PDw X EX (.BoolOp .And [a] pos) Tt := pw_and1 h
theorem w_or1 (h : PDt X EX a Tt) : PDw X EX (.BoolOp .Or [a] pos) Tt := pw_or1 h
theorem w_and (ha : PDt X EX a Tt) (hb : PDw X EX (.BoolOp .And (b :: rest) pos) Tu) : PDw X EX (.BoolOp .And (a :: b :: rest) pos) (dAnd Tt Tu) := pwW (pw_and ha hb) fun σ H Q h => by
  obtain ⟨c, ρ, Kd, Ed, s, h, q⟩ := h
  refine ⟨c, ρ, _, Ed, s, h, fun d H1 k e => ?_⟩
  cases d with
  | true => exact iteT ⟨c, ρ, Kd, Ed, s.ext e, k.1 rfl, fun d2 H2 k2 e2 => q d2 H2 k2 (e.trans e2)⟩
  | false => exact iteF (q _ _ (k.2 rfl) e)
theorem w_or (ha : PDt X EX a Tt) (hb : PDw X EX (.BoolOp .Or (b :: rest) pos) Tu) : PDw X EX (.BoolOp .Or (a :: b :: rest) pos) (dOr Tt Tu) := pwW (pw_or ha hb) fun σ H Q h => by
  obtain ⟨c, ρ, Kd, Ed, s, h, q⟩ := h
  refine ⟨c, ρ, _, Ed, s, h, fun d H1 k e => ?_⟩
  cases d with
  | true => exact iteT (q _ _ (k.1 rfl) e)
  | false => exact iteF ⟨c, ρ, Kd, Ed, s.ext e, k.2 rfl, fun d2 H2 k2 e2 => q d2 H2 k2 (e.trans e2)⟩
theorem t_w (h : PDw X EX e Tt) : PDt X EX e Tt := h.pt
theorem t_not (h : PDt X EX a Tt) : PDt X EX (.UnaryOp .Not a pos) (dNot Tt) := ptW (pt_not h) fun σ H Q h => by
  obtain ⟨c, ρ, Kd, Ed, s, h, q⟩ := h
  exact ⟨c, ρ, _, Ed, s, h, fun d H1 k e => q _ _ k e⟩
/-! as values (bools but for the last one) -/
def dAndV (T U : DTE) : DTE := fun E ρ K => T E ρ fun d => match d with
  | .bl c => (c = true → U E ρ K) ∧ (c = false → K (.bl false))
  | _ => False
def dOrV (T U : DTE) : DTE := fun E ρ K => T E ρ fun d => match d with
  | .bl c => (c = true → K (.bl true)) ∧ (c = false → U E ρ K)
  | _ => False
def dNotV (T : DTE) : DTE := fun E ρ K => T E ρ fun d => match d with
  | .bl c => K (.bl (!c))
  | _ => False
theorem d_one {op} (h : PDe X EX a T) : PDe X EX (.BoolOp op [a] pos) T := pe_one h
theorem d_and (ha : PDe X EX a Ta) (hb : PDe X EX (.BoolOp .And (b :: rest) pos) Tb) : PDe X EX (.BoolOp .And (a :: b :: rest) pos) (dAndV Ta Tb) := peW (pe_and ha hb) fun σ H Q h => by
  obtain ⟨c, ρ, Kd, Ed, s, h, q⟩ := h
  refine ⟨c, ρ, _, Ed, s, h, fun d v H1 k e r => ?_⟩
  cases r with
  | bl b =>
    cases b with
    | true => exact ⟨_, rfl, iteT ⟨c, ρ, Kd, Ed, s.ext e, k.1 rfl, fun d2 v2 H2 k2 e2 r2 => q d2 v2 H2 k2 (e.trans e2) r2⟩⟩
    | false => exact ⟨_, rfl, iteF (q _ _ _ (k.2 rfl) e (.bl _))⟩
  | _ => exact k.elim
theorem d_or (ha : PDe X EX a Ta) (hb : PDe X EX (.BoolOp .Or (b :: rest) pos) Tb) : PDe X EX (.BoolOp .Or (a :: b :: rest) pos) (dOrV Ta Tb) := peW (pe_or ha hb) fun σ H Q h => by
  obtain ⟨c, ρ, Kd, Ed, s, h, q⟩ := h
  refine ⟨c, ρ, _, Ed, s, h, fun d v H1 k e r => ?_⟩
  cases r with
  | bl b =>
    cases b with
    | true => exact ⟨_, rfl, iteT (q _ _ _ (k.1 rfl) e (.bl _))⟩
    | false => exact ⟨_, rfl, iteF ⟨c, ρ, Kd, Ed, s.ext e, k.2 rfl, fun d2 v2 H2 k2 e2 r2 => q d2 v2 H2 k2 (e.trans e2) r2⟩⟩
  | _ => exact k.elim
theorem d_not (h : PDe X EX a T) : PDe X EX (.UnaryOp .Not a pos) (dNotV T) := peW (pe_not h) fun σ H Q h => by
  obtain ⟨c, ρ, Kd, Ed, s, h, q⟩ := h
  refine ⟨c, ρ, _, Ed, s, h, fun d v H1 k e r => ?_⟩
  cases r <;> first
    | exact k.elim
    | exact ⟨_, rfl, q _ _ _ k e (.bl _)⟩
def dIf (Tt : DTT) (Ta Tb : DTE) : DTE := fun E ρ K => Tt E ρ fun c => (c = true → Ta E ρ K) ∧ (c = false → Tb E ρ K)
theorem d_if (hc : PDt X EX c Tt) (ha : PDe X EX a Ta) (hb : PDe X EX b Tb) : PDe X EX (.IfExp c a b pos) (dIf Tt Ta Tb) := peW (pe_ifExp hc ha hb) fun σ H Q h => by
  obtain ⟨c, ρ, Kd, Ed, s, h, q⟩ := h
  refine ⟨c, ρ, _, Ed, s, h, fun d H1 k e => ?_⟩
  cases d with
  | true => exact iteT ⟨c, ρ, Kd, Ed, s.ext e, k.1 rfl, fun d2 v2 H2 k2 e2 r2 => q d2 v2 H2 k2 (e.trans e2) r2⟩
  | false => exact iteF ⟨c, ρ, Kd, Ed, s.ext e, k.2 rfl, fun d2 v2 H2 k2 e2 r2 => q d2 v2 H2 k2 (e.trans e2) r2⟩
/-! a < b < c -/
def dChain (f g : D → D → (D → Prop) → Prop) (Ta Tb Tc : DTE) : DTE := fun E ρ K => Ta E ρ fun x => Tb E ρ fun y => f x y fun z => match z with
  | .bl k => (k = true → Tc E ρ fun w => g y w K) ∧ (k = false → K (.bl false))
  | _ => False
theorem chained {f g : D → D → (D → Prop) → Prop} {r r' : R2} {Tc : DTE} (hf : OpD X.K f r) (hg : OpD X.K g r') {σ : L2.St} {H : Hp} {Q : VK} (h : tD X.K EX (dChain f g Ta Tb Tc) σ H Q) :
    tChain r r' (tD X.K EX Ta) (tD X.K EX Tb) (tD X.K EX Tc) σ H Q := by
  obtain ⟨c, ρ, Kd, Ed, s, h, q⟩ := h
  refine ⟨c, ρ, _, Ed, s, h, fun d v H1 k e r1 => ?_⟩
  have s1 := s.ext e
  refine ⟨c, ρ, _, Ed, s1, k, fun d2 v2 H2 k2 e2 r2 => ?_⟩
  have s2 := s1.ext e2
  refine hf c H2 v v2 d d2 _ _ s2.k (r1.mono (s1.k.sub e2)) r2 k2 fun d3 v3 H3 k3 e3 r3 => ?_
  have s3 := s2.ext e3
  cases r3 with
  | bl b =>
    cases b with
    | true =>
      refine ⟨_, rfl, iteT ⟨c, ρ, _, Ed, s3, k3.1 rfl, fun d4 v4 H4 k4 e4 r4 => ?_⟩⟩
      exact hg c H4 v2 v4 d2 d4 _ _ (s3.ext e4).k ((r2.mono (s2.k.sub e3)).mono (s3.k.sub e4)) r4 k4 fun d5 v5 H5 k5 e5 r5 => q _ _ _ k5 ((((e.trans e2).trans e3).trans e4).trans e5) r5
    | false => exact ⟨_, rfl, iteF (q _ _ _ (k3.2 rfl) ((e.trans e2).trans e3) (.bl _))⟩
  | _ => exact k3.elim
theorem d_chain {op op' : CmpOp} {r r' : R2} {f g : D → D → (D → Prop) → Prop} {Tc : DTE} (ho : OpR X (compareOp op) r) (ho' : OpR X (compareOp op') r') (hf : OpD X.K f r) (hg : OpD X.K g r') (ha : PDe X EX a Ta) (hb : PDe X EX b Tb) (hc : PDe X EX c Tc)
    (hm : lastMarks [op, op'] [b, c] = false := by with_unfolding_all rfl) : PDe X EX (.Compare a [op, op'] [b, c] pos) (dChain f g Ta Tb Tc) := peW (pe_chain ho ho' ha hb hc hm) fun _ _ _ h => chained hf hg h
theorem t_chain {op op' : CmpOp} {r r' : R2} {f g : D → D → (D → Prop) → Prop} {Tc : DTE} (ho : OpR X (compareOp op) r) (ho' : OpR X (compareOp op') r') (hf : OpD X.K f r) (hg : OpD X.K g r') (ha : PDe X EX a Ta) (hb : PDe X EX b Tb) (hc : PDe X EX c Tc)
    (hm : lastMarks [op, op'] [b, c] = false := by with_unfolding_all rfl) : PDt X EX (.Compare a [op, op'] [b, c] pos) (dTest (dChain f g Ta Tb Tc)) := ptW (pt_chain ho ho' ha hb hc hm) fun _ _ _ h => chained hf hg (t_of h)
end

/-! ### lists of values, arguments -/
abbrev DTV := ED → Ev → (List D → Prop) → Prop
def tV (K : PySem.W.Frag) (EX : XK) (T : DTV) : TA := fun σ H Q => ∃ c ρ Kd Ed, St0 K EX c H σ ρ Ed ∧ T Ed ρ Kd ∧ ∀ ds vs H', Kd ds → Ext c.B H H' → Rs K (hid c.P H') vs ds → Q vs H'
abbrev PDv (X : Cx) (EX : XK) (es : List Expr) (T : DTV) : Prop := PA X es (tV X.K EX T)
section
variable {X : Cx} {EX : XK} {e : Expr} {es : List Expr} {T : DTE} {Tv : DTV} {Tx : DTX} {Ta : DTA} {pos : Pos}
def vNil : DTV := fun _ _ K => K []
def vCons (T : DTE) (Tv : DTV) : DTV := fun E ρ K => T E ρ fun d => Tv E ρ fun ds => K (d :: ds)
theorem v_nil : PDv X EX [] vNil := paW pa_nil fun σ H Q h => by
  obtain ⟨c, ρ, Kd, Ed, s, h, q⟩ := h
  exact q _ _ _ h (Ext.refl _ _) .nil
theorem v_cons (h : PDe X EX e T) (hr : PDv X EX es Tv) (hs : starEach (e :: es) X.env = (false, eval e X.env) :: starEach es X.env := by rfl) : PDv X EX (e :: es) (vCons T Tv) := paW (pa_cons h hr hs) fun σ H Q h => by
  obtain ⟨c, ρ, Kd, Ed, s, h, q⟩ := h
  refine ⟨c, ρ, _, Ed, s, h, fun d v H1 k e r => ⟨c, ρ, _, Ed, s.ext e, k, fun ds vs H2 k2 e2 r2 => ?_⟩⟩
  exact q _ _ _ k2 (e.trans e2) (.cons (r.mono ((s.ext e).k.sub e2)) r2)
def aNil : DTA := fun _ _ K => K []
def aCons (T : DTX) (Ta : DTA) : DTA := fun E ρ K => T E ρ fun d => Ta E ρ fun ds => K (d :: ds)
theorem a_nil : PDa X EX [] aNil := paW pa_nil fun σ H Q h => by
  obtain ⟨c, ρ, Kd, Ed, s, h, q⟩ := h
  exact q _ _ _ h (Ext.refl _ _) .nil
theorem slr_ext {K : PySem.W.Frag} {c : Cf} {H H' : Hp} {v : V} {s : Sl} (k : Hk c H) (e : Ext c.B H H') (h : SlR' K c H v s) : SlR' K c H' v s := by
  cases s with
  | val d => exact R.mono (k.sub e) h
  | own d => exact h
  | bag => exact h
theorem a_cons (h : PDx X EX e Tx) (hr : PDa X EX es Ta) (hs : starEach (e :: es) X.env = (false, eval e X.env) :: starEach es X.env := by rfl) : PDa X EX (e :: es) (aCons Tx Ta) := paW (pa_cons h hr hs) fun σ H Q h => by
  obtain ⟨c, ρ, Kd, Ed, s, h, q⟩ := h
  refine ⟨c, ρ, _, Ed, s, h, fun d v H1 k e r => ⟨c, ρ, _, Ed, s.ext e, k, fun ds vs H2 k2 e2 r2 => ?_⟩⟩
  exact q _ _ _ k2 (e.trans e2) (.cons (slr_ext (s.ext e).k e2 r) r2)
/-! ### displays -/
def dTup (Tv : DTV) : DTE := fun E ρ K => Tv E ρ fun ds => ds.length ≤ 1000000 ∧ K (.tup ds)
def dLst (Tv : DTV) : DTE := fun E ρ K => Tv E ρ fun ds => ds.length ≤ 1000000 ∧ K (.lst ds)
theorem d_tup {x1} (h : PDv X EX es Tv) : PDe X EX (.Tuple es x1 pos) (dTup Tv) := peW (pe_tup h) fun σ H Q h => by
  obtain ⟨c, ρ, Kd, Ed, s, h, q⟩ := h
  refine ⟨c, ρ, _, Ed, s, h, fun ds vs H1 k e r => ⟨by rw [r.length]; exact szL k.1, fun p hp => ?_⟩⟩
  exact q _ _ _ k.2 (e.trans (Ext.new hp (s.ext e).k.bag)) (newTup (s.ext e).k hp r)
theorem d_lst (h : PDv X EX es Tv) : PDe X EX (.List es pos) (dLst Tv) := peW (pe_lst h) fun σ H Q h => by
  obtain ⟨c, ρ, Kd, Ed, s, h, q⟩ := h
  refine ⟨c, ρ, _, Ed, s, h, fun ds vs H1 k e r => ⟨by rw [r.length]; exact szL k.1, fun p hp => ?_⟩⟩
  exact q _ _ _ k.2 (e.trans (Ext.new hp (s.ext e).k.bag)) (newLst (s.ext e).k hp r)
def dDic0 : DTE := fun _ _ K => K (.dic [])
theorem d_dic0 : PDe X EX (.Dict [] [] pos) dDic0 := peW pe_dnewK fun σ H Q h => by
  obtain ⟨c, ρ, Kd, Ed, s, h, q⟩ := h
  exact fun p hp => q _ _ _ h (Ext.new hp s.k.bag) (.dic (s.k.new hp) .nil)
/-! ### built-ins by name -/
def CalD (K : PySem.W.Frag) (f : List D → (D → Prop) → Prop) (r : List V → Hp → VK → Prop) : Prop := ∀ (c : Cf) (H : Hp) (xs : List V) (ds : List D) (k : D → Prop) (Q : VK), Hk c H → Rs K (hid c.P H) xs ds → f ds k →
  (∀ d v H', k d → Ext c.B H H' → R K (hid c.P H') v d → Q v H') → r xs H Q
def dCB (f : List D → (D → Prop) → Prop) (Tv : DTV) : DTE := fun E ρ K => Tv E ρ fun ds => f ds K
theorem cb_of {f : List D → (D → Prop) → Prop} {r : List V → Hp → VK → Prop} (hf : CalD X.K f r) {σ : L2.St} {H : Hp} {Q : VK} (h : tD X.K EX (dCB f Tv) σ H Q) : tCB r (tV X.K EX Tv) σ H Q := by
  obtain ⟨c, ρ, Kd, Ed, s, h, q⟩ := h
  refine ⟨c, ρ, _, Ed, s, h, fun ds vs H1 k e r => ?_⟩
  exact hf c H1 vs ds Kd Q (s.ext e).k r k fun d v H2 k2 e2 r2 => q _ _ _ k2 (e.trans e2) r2
variable {x : Str} {id T0 : String} {p : Pos} {f : List D → (D → Prop) → Prop} {r : List V → Hp → VK → Prop}
theorem d_callB (hc : CallR X (.builtin id) r) (hf : CalD X.K f r) (hm : X.mg x = none) (hv : bootBuiltins x = some (.builtin id)) (ha : PDv X EX (e :: es) Tv) (hg : Gl X x := by rfl) (hn : x ≠ "__name__" := by decide) (hdb : (x == ("__debug__" : Str)) = false := by decide)
    (he : starEach (e :: es) X.env = (false, eval e X.env) :: starEach es X.env := by rfl) (hpl : (backTo pos (starEach es X.env)).any (·.1) = false := by rfl) : PDe X EX (.Call (.Name x p) (e :: es) [] pos) (dCB f Tv) :=
  peW (pe_callB hc hg hm hv ha hn hdb he hpl) fun _ _ _ h => cb_of hf h
theorem d_callTy (hc : CallR X (.type T0) r) (hf : CalD X.K f r) (hm : X.mg x = none) (hv : bootBuiltins x = some (.type T0)) (ha : PDv X EX (e :: es) Tv) (hg : Gl X x := by rfl) (hn : x ≠ "__name__" := by decide) (hdb : (x == ("__debug__" : Str)) = false := by decide)
    (he : starEach (e :: es) X.env = (false, eval e X.env) :: starEach es X.env := by rfl) (hpl : (backTo pos (starEach es X.env)).any (·.1) = false := by rfl) : PDe X EX (.Call (.Name x p) (e :: es) [] pos) (dCB f Tv) :=
  peW (pe_callTy hc hg hm hv ha hn hdb he hpl) fun _ _ _ h => cb_of hf h
/-- a module's name for a built-in function -/
theorem d_callF (hc : CallR X (.builtin id) r) (hf : CalD X.K f r) (hm : X.mg x = some (.builtin id)) (ha : PDv X EX (e :: es) Tv) (hg : Gl X x := by rfl) (hdb : (x == ("__debug__" : Str)) = false := by decide)
    (he : starEach (e :: es) X.env = (false, eval e X.env) :: starEach es X.env := by rfl) (hpl : (backTo pos (starEach es X.env)).any (·.1) = false := by rfl) : PDe X EX (.Call (.Name x p) (e :: es) [] pos) (dCB f Tv) :=
  peW (pe_callBfun hc hg hm ha hdb he hpl) fun _ _ _ h => cb_of hf h
end
section
variable {K : PySem.W.Frag}
def fLen (ds : List D) (k : D → Prop) : Prop := match ds with
  | [.lst xs] => k (.int xs.length)
  | [.tup xs] => k (.int xs.length)
  | [.scr ns] => k (.int ns.length)
  | [.str x] => x.length ≤ 1000000 ∧ k (.int x.length)
  | _ => False
theorem cd_len : CalD K fLen (fun xs H Q => ∃ x n, xs = [x] ∧ LenV K x H n ∧ Q (.int n) H) := fun c H xs ds k Q hk r h q => by
  unfold fLen at h
  split at h
  · cases r with
    | cons a t =>
      cases t
      cases a with
      | lst a s => exact ⟨_, _, rfl, .inl ⟨_, SqL.of (hidG a), rfl⟩, by rw [s.length]; exact q _ _ _ h (Ext.refl _ _) (.int _)⟩
  · cases r with
    | cons a t =>
      cases t
      cases a with
      | tup a s => exact ⟨_, _, rfl, .inr ⟨_, hidT a, rfl⟩, by rw [s.length]; exact q _ _ _ h (Ext.refl _ _) (.int _)⟩
  · cases r with
    | cons a t =>
      cases t
      cases a with
      | scr a => exact ⟨_, _, rfl, .inl ⟨_, hidL a, rfl⟩, by rw [List.length_map]; exact q _ _ _ h (Ext.refl _ _) (.int _)⟩
  · cases r with
    | cons a t =>
      cases t
      cases a
      exact ⟨_, _, rfl, ⟨szL h.1, rfl⟩, q _ _ _ h.2 (Ext.refl _ _) (.int _)⟩
  · exact h.elim
def fAbs (ds : List D) (k : D → Prop) : Prop := match ds with
  | [.int i] => k (.int (if i < 0 then -i else i))
  | _ => False
theorem cd_abs : CalD K fAbs (fun xs H Q => ∃ i, xs = [.int i] ∧ Q (.int (if i < 0 then -i else i)) H) := fun c H xs ds k Q hk r h q => by
  unfold fAbs at h
  split at h
  · cases r with
    | cons a t =>
      cases t
      cases a
      exact ⟨_, rfl, q _ _ _ h (Ext.refl _ _) (.int _)⟩
  · exact h.elim
def f2I (g : Int → Int → Int) (ds : List D) (k : D → Prop) : Prop := match ds with
  | [.int i, .int j] => k (.int (g i j))
  | _ => False
theorem cd_2I {g : Int → Int → Int} : CalD K (f2I g) (fun xs H Q => ∃ i j, xs = [.int i, .int j] ∧ Q (.int (g i j)) H) := fun c H xs ds k Q hk r h q => by
  unfold f2I at h
  split at h
  · cases r with
    | cons a t =>
      cases t with
      | cons b t =>
        cases t
        cases a
        cases b
        exact ⟨_, _, rfl, q _ _ _ h (Ext.refl _ _) (.int _)⟩
  · exact h.elim
def fInt (ds : List D) (k : D → Prop) : Prop := match ds with
  | [.int i] => k (.int i)
  | [.bl b] => k (.int (if b then 1 else 0))
  | _ => False
theorem cd_int : CalD K fInt (fun xs H Q => (∃ i, xs = [.int i] ∧ Q (.int i) H) ∨ ∃ k, xs = [.bl k] ∧ Q (.int (if k then 1 else 0)) H) := fun c H xs ds k Q hk r h q => by
  unfold fInt at h
  split at h
  · cases r with
    | cons a t =>
      cases t
      cases a
      exact .inl ⟨_, rfl, q _ _ _ h (Ext.refl _ _) (.int _)⟩
  · cases r with
    | cons a t =>
      cases t
      cases a
      exact .inr ⟨_, rfl, q _ _ _ h (Ext.refl _ _) (.int _)⟩
  · exact h.elim
/-- the intsD of a list of data, where all of them are intsD -/
def intsD : List D → Option (List Int)
  | [] => some []
  | .int i :: ds => (intsD ds).map (i :: ·)
  | _ :: _ => none
theorem ints_eq : ∀ {ds : List D} {ns : List Int}, intsD ds = some ns → ds = ns.map D.int
  | [], ns, h => by cases h; rfl
  | d :: ds, ns, h => by
    cases d <;> first
      | (exfalso; simp [intsD] at h; done)
      | skip
    simp only [intsD, Option.map_eq_some_iff] at h
    obtain ⟨ms, h1, rfl⟩ := h
    rw [ints_eq h1]
    rfl
theorem ints_map : ∀ ns : List Int, intsD (ns.map D.int) = some ns
  | [] => rfl
  | n :: ns => by simp [intsD, ints_map ns]
def blsD : List D → Option (List Bool)
  | [] => some []
  | .bl i :: ds => (blsD ds).map (i :: ·)
  | _ :: _ => none
theorem bls_eq : ∀ {ds : List D} {ns : List Bool}, blsD ds = some ns → ds = ns.map D.bl
  | [], ns, h => by cases h; rfl
  | d :: ds, ns, h => by
    cases d <;> first
      | (exfalso; simp [blsD] at h; done)
      | skip
    simp only [blsD, Option.map_eq_some_iff] at h
    obtain ⟨ms, h1, rfl⟩ := h
    rw [bls_eq h1]
    rfl
theorem bls_map : ∀ ns : List Bool, blsD (ns.map D.bl) = some ns
  | [] => rfl
  | n :: ns => by simp [blsD, bls_map ns]
def fSum (ds : List D) (k : D → Prop) : Prop := match ds with
  | [.lst xs] => (match intsD xs with | some ns => k (.int ns.sum) | none => False)
  | _ => False
theorem cd_sum : CalD K fSum (rSum K) := fun c H xs ds k Q hk r h q => by
  unfold fSum at h
  split at h
  · split at h
    · rename_i xs ns e
      have e2 := ints_eq e
      subst e2
      cases r with
      | cons a t =>
        cases t
        cases a with
        | lst a s =>
          have e3 := s.ints
          subst e3
          exact ⟨_, _, rfl, SqL.of (hidG a), q _ _ _ h (Ext.refl _ _) (.int _)⟩
    · exact h.elim
  · exact h.elim
def fAllB (g : List Bool → Bool) (ds : List D) (k : D → Prop) : Prop := match ds with
  | [.lst xs] => (match blsD xs with | some ns => k (.bl (g ns)) | none => False)
  | _ => False
theorem cd_allB {g : List Bool → Bool} : CalD K (fAllB g) (fun vs H Q => ∃ (a : Addr) (bs : List Bool), vs = [V.ref a] ∧ SqL K H a (bs.map V.bl) ∧ Q (.bl (g bs)) H) := fun c H xs ds k Q hk r h q => by
  unfold fAllB at h
  split at h
  · split at h
    · rename_i xs ns e
      have e2 := bls_eq e
      subst e2
      cases r with
      | cons a t =>
        cases t
        cases a with
        | lst a s =>
          have e3 := s.bls
          subst e3
          exact ⟨_, _, rfl, SqL.of (hidG a), q _ _ _ h (Ext.refl _ _) (.bl _)⟩
    · exact h.elim
  · exact h.elim
def fTuple (ds : List D) (k : D → Prop) : Prop := match ds with
  | [.lst xs] => k (.tup xs)
  | [.tup xs] => k (.tup xs)
  | _ => False
theorem cd_tuple : CalD K fTuple (fun xs H Q => ∃ p ys, xs = [.ref p] ∧ ((SqL K H p ys ∧ ∀ l, H l = none → Q (.ref l) (upd H l (.tup ys))) ∨ (SqT K H p ys ∧ Q (.ref p) H))) := fun c H xs ds k Q hk r h q => by
  unfold fTuple at h
  split at h
  · cases r with
    | cons a t =>
      cases t
      cases a with
      | lst a s => exact ⟨_, _, rfl, .inl ⟨SqL.of (hidG a), fun l hl => q _ _ _ h (Ext.new hl hk.bag) (newTup hk hl s)⟩⟩
  · cases r with
    | cons a t =>
      cases t
      cases a with
      | tup a s => exact ⟨_, _, rfl, .inr ⟨hidT a, q _ _ _ h (Ext.refl _ _) (.tup a s)⟩⟩
  · exact h.elim
def fList (ds : List D) (k : D → Prop) : Prop := match ds with
  | [.lst xs] => k (.lst xs)
  | [.tup xs] => k (.lst xs)
  | _ => False
theorem cd_list : CalD K fList (fun xs H Q => ∃ p ys, xs = [.ref p] ∧ (SqL K H p ys ∨ SqT K H p ys) ∧ ∀ l, H l = none → Q (.ref l) (upd H l (.lst ys))) := fun c H xs ds k Q hk r h q => by
  unfold fList at h
  split at h
  · cases r with
    | cons a t =>
      cases t
      cases a with
      | lst a s => exact ⟨_, _, rfl, .inl (SqL.of (hidG a)), fun l hl => q _ _ _ h (Ext.new hl hk.bag) (newLst hk hl s)⟩
  · cases r with
    | cons a t =>
      cases t
      cases a with
      | tup a s => exact ⟨_, _, rfl, .inr (hidT a), fun l hl => q _ _ _ h (Ext.new hl hk.bag) (newLst hk hl s)⟩
  · exact h.elim
def fGcd (ds : List D) (k : D → Prop) : Prop := match ds with
  | [.int a, .int b] => k (.int ((Nat.gcd a.natAbs b.natAbs : Nat) : Int))
  | _ => False
theorem cd_gcd : CalD K fGcd rGcd := fun c H xs ds k Q hk r h q => by
  unfold fGcd at h
  split at h
  · cases r with
    | cons a t =>
      cases t with
      | cons b t =>
        cases t
        cases a
        cases b
        exact ⟨_, _, rfl, q _ _ _ h (Ext.refl _ _) (.int _)⟩
  · exact h.elim
end
/-! ### isinstance(x, T), T a built-in class -/
def D.tyn : D → String
  | .non => "NoneType" | .bl _ => "bool" | .int _ => "int" | .str _ => "str" | .tup _ => "tuple" | .lst _ => "list" | .dic _ => "dict" | .scr _ => "list"
def isiB (a b : String) : Bool := a == b || (a == "bool" && b == "int")
theorem isi_all : ∀ a ∈ ["NoneType", "bool", "int", "str", "tuple", "list", "dict"], ∀ b ∈ ["bool", "int", "str", "tuple", "list", "dict"], kitB a b = some (isiB a b) := by decide +kernel
theorem tyn_mem (d : D) : d.tyn ∈ ["NoneType", "bool", "int", "str", "tuple", "list", "dict"] := by cases d <;> simp [D.tyn]
theorem ty_of {K : PySem.W.Frag} {c : Cf} {H : Hp} {v : V} {d : D} (r : R K (hid c.P H) v d) (h : ∀ ns, d ≠ .scr ns) : TyX K H v (.type d.tyn) := by
  cases r with
  | non => exact .base .non
  | bl b => exact .base (.bl b)
  | int b => exact .base (.int b)
  | str b => exact .base (.str b)
  | tup a s =>
    rcases hidT a with (a | ⟨o, a⟩) | ⟨o, its, n, e, h1, _⟩
    · exact .base (.tup a)
    · exact .fTuple a
    · exact .kTuple e h1
  | lst a s => exact .base (.lst (hidG a))
  | dic a s => exact .base (.dK (hidG a))
  | scr a => exact absurd rfl (h _)
def D.noScr : D → Bool
  | .scr _ => false
  | _ => true
def dIsi (n : String) (T : DTE) : DTE := fun E ρ K => T E ρ fun d => d.noScr = true ∧ K (.bl (isiB d.tyn n))
section
variable {X : Cx} {EX : XK} {e : Expr} {T : DTE} {pos p p2 : Pos} {x : Str} {n : String}
theorem d_isi (h : PDe X EX e T) (hm : X.mg "isinstance" = none) (hm2 : X.mg x = none) (hv2 : bootBuiltins x = some (.type n)) (hn : n ∈ ["bool", "int", "str", "tuple", "list", "dict"] := by decide) (hg : Gl X "isinstance" := by rfl) (hg2 : Gl X x := by rfl)
    (hnn : x ≠ "__name__" := by decide) (hd : (x == ("__debug__" : Str)) = false := by decide)
    (he : starEach [e, .Name x p2] X.env = (false, eval e X.env) :: starEach [.Name x p2] X.env := by rfl) (hpl : (backTo pos (starEach [.Name x p2] X.env)).any (·.1) = false := by rfl) (hs1 : starEach [.Name x p2] X.env = (false, eval (.Name x p2) X.env) :: starEach [] X.env := by rfl) :
    PDe X EX (.Call (.Name "isinstance" p) [e, .Name x p2] [] pos) (dIsi n T) := by
  refine peW (pe_callB call_isi hg hm (by decide +kernel) (pa_cons h (pa_cons (pe_bltn (v := .ty n) hg2 hm2 hv2 rfl hnn hd) pa_nil hs1) he) (by decide) (by decide) he hpl) fun σ H Q h => ?_
  obtain ⟨c, ρ, Kd, Ed, s, h, q⟩ := h
  refine ⟨c, ρ, _, Ed, s, h, fun d v H1 k e r => ?_⟩
  refine ⟨_, _, _, _, _, rfl, .ty n, ty_of r (fun ns z => ?_), kit_ty (isi_all _ (tyn_mem d) n hn), q _ _ _ k.2 e (.bl _)⟩
  have k1 := k.1
  rw [z] at k1
  cases k1
end
/-! ### subscripts -/
section
variable {K : PySem.W.Frag}
def fIx (x y : D) (k : D → Prop) : Prop := match x, y with
  | .lst ds, .int i => (match atI ds i with | some d => k d | none => False)
  | .tup ds, .int i => (match atI ds i with | some d => k d | none => False)
  | .scr ns, .int i => (match atI ns i with | some d => k (.int d) | none => False)
  | .str z, .int i => z.length ≤ 1000000 ∧ (match atI z.cps.toList i with | some d => k (.str ⟨#[d]⟩) | none => False)
  | _, _ => False
theorem Rs.atI {H : Hp} {vs : List V} {ds : List D} {i : Int} {d : D} (r : Rs K H vs ds) (h : L2.atI ds i = some d) : ∃ v, L2.atI vs i = some v ∧ R K H v d := by
  unfold L2.atI at h ⊢
  rw [r.length]
  cases e : ixN ds.length i with
  | none => rw [e] at h; cases h
  | some j =>
    rw [e] at h
    obtain ⟨v, a, b⟩ := r.get (i := j) h
    exact ⟨v, a, b⟩
theorem od_ix : OpD K fIx (rIx K) := fun c H x y d1 d2 k Q hk r1 r2 h q => by
  unfold fIx at h
  split at h
  · split at h
    · rename_i d e
      cases r2
      cases r1 with
      | lst a s =>
        obtain ⟨v, e2, r⟩ := s.atI e
        exact .inl ⟨_, _, _, v, rfl, rfl, SqL.of (hidG a), e2, q _ _ _ h (Ext.refl _ _) r⟩
    · exact h.elim
  · split at h
    · rename_i d e
      cases r2
      cases r1 with
      | tup a s =>
        obtain ⟨v, e2, r⟩ := s.atI e
        exact .inr (.inl ⟨_, _, _, v, rfl, rfl, hidT a, e2, q _ _ _ h (Ext.refl _ _) r⟩)
    · exact h.elim
  · rename_i ns i
    split at h
    · rename_i d e
      cases r2
      cases r1 with
      | scr a =>
        refine .inl ⟨_, _, _, .int d, rfl, rfl, hidL a, ?_, q _ _ _ h (Ext.refl _ _) (.int _)⟩
        unfold L2.atI at e ⊢
        rw [List.length_map]
        cases e2 : ixN ns.length i with
        | none => rw [e2] at e; cases e
        | some j =>
          rw [e2] at e
          have e' : ns[j]? = some d := e
          show (ns.map V.int)[j]? = _
          rw [List.getElem?_map, e']
          rfl
    · exact h.elim
  · obtain ⟨h1, h⟩ := h
    split at h
    · rename_i d e
      cases r2
      cases r1
      exact .inr (.inr ⟨_, _, d, rfl, rfl, szL h1, e, q _ _ _ h (Ext.refl _ _) (.str _)⟩)
    · exact h.elim
  · exact h.elim
end
section
variable {X : Cx} {EX : XK} {a b e : Expr} {Ta Tb T : DTE} {pos p2 : Pos} {lo hi : Option Expr}
theorem d_ix (ha : PDe X EX a Ta) (hb : PDe X EX b Tb) (hs : PlainIx b := by exact fun _ _ => rfl) : PDe X EX (.Subscript a b pos) (dOp fIx Ta Tb) := peW (pe_ix ix_seq ha hb hs) fun _ _ _ h => two od_ix h
abbrev DTO := ED → Ev → (Option Int → Prop) → Prop
def tO (K : PySem.W.Frag) (EX : XK) (T : DTO) : TO := fun σ H Q => ∃ c ρ Kd Ed, St0 K EX c H σ ρ Ed ∧ T Ed ρ Kd ∧ ∀ o H', Kd o → Ext c.B H H' → Q o H'
abbrev PDo (X : Cx) (EX : XK) (e : Option Expr) (T : DTO) : Prop := PO X e (tO X.K EX T)
theorem poW {e : Option Expr} {t t' : TO} (h : PO X e t) (w : ∀ σ H Q, t' σ H Q → t σ H Q) : PO X e t' := ⟨fun pins s σ H Q I q => h.run pins s σ H Q I (w σ H Q q)⟩
def oNone : DTO := fun _ _ K => K none
def oSome (T : DTE) : DTO := fun E ρ K => T E ρ fun d => match d with | .int i => K (some i) | _ => False
theorem o_none : PDo X EX none oNone := poW po_none fun σ H Q h => by
  obtain ⟨c, ρ, Kd, Ed, s, h, q⟩ := h
  exact q _ _ h (Ext.refl _ _)
theorem o_some (h : PDe X EX e T) : PDo X EX (some e) (oSome T) := poW (po_some h) fun σ H Q h => by
  obtain ⟨c, ρ, Kd, Ed, s, h, q⟩ := h
  refine ⟨c, ρ, _, Ed, s, h, fun d v H1 k e r => ?_⟩
  cases r <;> first
    | exact k.elim
    | exact ⟨_, rfl, q _ _ k e⟩
def cutD {α : Type} (xs : List α) (lo hi : Option Int) : List α := (xs.drop (HT.sIx xs.length 0 lo)).take (HT.sIx xs.length xs.length hi - HT.sIx xs.length 0 lo)
theorem Rs.cut {K : PySem.W.Frag} {H : Hp} {vs : List V} {ds : List D} (r : Rs K H vs ds) (lo hi : Option Int) : Rs K H (cutV vs lo hi) (cutD ds lo hi) := by
  unfold cutV cutD
  rw [r.length]
  exact (r.drop _).take _
def fSl (x : D) (lo hi : Option Int) (k : D → Prop) : Prop := match x with
  | .lst ds => k (.lst (cutD ds lo hi))
  | .tup ds => k (.tup (cutD ds lo hi))
  | .scr ns => k (.lst ((cutD ns lo hi).map D.int))
  | _ => False
def dSl (T : DTE) (L U : DTO) : DTE := fun E ρ K => T E ρ fun d => L E ρ fun lo => U E ρ fun hi => fSl d lo hi K
theorem cut_map {α β : Type} (g : α → β) (xs : List α) (lo hi : Option Int) : cutD (xs.map g) lo hi = (cutD xs lo hi).map g := by
  unfold cutD
  rw [List.length_map, List.map_take, List.map_drop]
theorem d_slice {L U : DTO} (he : PDe X EX e T) (hl : PDo X EX lo L) (hu : PDo X EX hi U) : PDe X EX (.Subscript e (.Slice lo hi none p2) pos) (dSl T L U) :=
  peW (pe_slice (sl_list.or sl_tupA) he hl hu) fun σ H Q h => by
    obtain ⟨c, ρ, Kd, Ed, s, h, q⟩ := h
    refine ⟨c, ρ, _, Ed, s, h, fun d v H1 k e r => ⟨c, ρ, _, Ed, s.ext e, k, fun o1 H2 k2 e2 => ⟨c, ρ, _, Ed, (s.ext e).ext e2, k2, fun o2 H3 k3 e3 => ?_⟩⟩⟩
    have s2 := (s.ext e).ext e2
    have s3 := s2.ext e3
    have r3 := (r.mono ((s.ext e).k.sub e2)).mono (s2.k.sub e3)
    have e123 := (e.trans e2).trans e3
    unfold fSl at k3
    split at k3
    · rename_i ds
      cases r3 with
      | lst a t => exact .inl ⟨_, _, rfl, SqL.of (hidG a), fun p hp => q _ _ _ k3 (e123.trans (Ext.new hp s3.k.bag)) (newLst s3.k hp (t.cut o1 o2))⟩
    · rename_i ds
      cases r3 with
      | @tup a xs _ a1 t =>
        refine .inr ⟨_, _, rfl, hidT a1, fun z => ?_, fun z p hp => q _ _ _ k3 (e123.trans (Ext.new hp s3.k.bag)) (newTup s3.k hp (t.cut o1 o2))⟩
        have ec : cutD ds o1 o2 = ds := by
          unfold cutD
          rw [← t.length, z.1, z.2, List.drop_zero, Nat.sub_zero, t.length, List.take_length]
        rw [ec] at k3
        exact q _ _ _ k3 e123 (.tup a1 t)
    · cases r3 with
      | scr a =>
        refine .inl ⟨_, _, rfl, hidL a, fun p hp => q _ _ _ k3 (e123.trans (Ext.new hp s3.k.bag)) (newLst s3.k hp ?_)⟩
        have ec := cut_map V.int
        unfold cutD at ec
        unfold cutV
        rw [ec]
        exact Rs.of_ints _
    · exact k3.elim
end

/-- one more list is the body's own -/
def Cf.with (c : Cf) (p : Addr) : Cf := ⟨c.O, fun a => c.F a || decide (a = p), c.B⟩
theorem with_P (c : Cf) (p a : Addr) : (c.with p).P a = (c.P a || decide (a = p)) := by simp [Cf.with, Cf.P, Bool.or_assoc]
/-! ### statements -/
structure ES where
  nx : Ev → Prop
  rt : D → Prop
  /-- a new list is handed back -/
  rn : List D → Prop
  bk : Ev → Prop
  ct : Ev → Prop
  ex : ED
abbrev DTS := ES → Ev → Prop
structure EOk (K : PySem.W.Frag) (c : Cf) (H : Hp) (E : ES) (G : Ends) : Prop where
  nx : ∀ c' ρ' σ' H', E.nx ρ' → Step c c' H H' → Rep K c' H' σ' ρ' → Hk c' H' → G.nx σ' H'
  bk : ∀ c' ρ' σ' H', E.bk ρ' → Step c c' H H' → Rep K c' H' σ' ρ' → Hk c' H' → G.bk σ' H'
  ct : ∀ c' ρ' σ' H', E.ct ρ' → Step c c' H H' → Rep K c' H' σ' ρ' → Hk c' H' → G.ct σ' H'
  rt : ∀ c' d v H', E.rt d → Step c c' H H' → Hk c' H' → R K (hid c'.P H') v d → G.rt v H'
  rn : ∀ c' ds a xs H', E.rn ds → Step c c' H H' → Hk c' H' → H a = none → c'.P a = false → H' a = some (.lst xs) → Rs K (hid (c'.with a).P H') xs ds → G.rt (.ref a) H'
theorem EOk.step {K : PySem.W.Frag} {c c' : Cf} {H H' : Hp} {E : ES} {G : Ends} (h : EOk K c H E G) (s : Step c c' H H') : EOk K c' H' E G :=
  ⟨fun c2 ρ' σ' H2 a b => h.nx c2 ρ' σ' H2 a (s.trans b), fun c2 ρ' σ' H2 a b => h.bk c2 ρ' σ' H2 a (s.trans b), fun c2 ρ' σ' H2 a b => h.ct c2 ρ' σ' H2 a (s.trans b), fun c2 d v H2 a b => h.rt c2 d v H2 a (s.trans b), fun c2 ds x xs H2 a b k hn => h.rn c2 ds x xs H2 a (s.trans b) k (al_back s.al hn)⟩
def tS (K : PySem.W.Frag) (EX : XK) (T : DTS) : TS := fun G σ H => ∃ c ρ E, St0 K EX c H σ ρ E.ex ∧ T E ρ ∧ EOk K c H E G
abbrev PDs (X : Cx) (EX : XK) (st : Stmt) (T : DTS) : Prop := PS X st (tS X.K EX T)
abbrev PDb (X : Cx) (EX : XK) (st : List Stmt) (T : DTS) : Prop := PSs X st (tS X.K EX T)
theorem psW {X : Cx} {e : Stmt} {t t' : TS} (h : PS X e t) (w : ∀ G σ H, t' G σ H → t G σ H) : PS X e t' := ⟨fun pins s σ H Q I q => h.run pins s σ H Q I (w Q σ H q)⟩
theorem pssW {X : Cx} {e : List Stmt} {t t' : TS} (h : PSs X e t) (w : ∀ G σ H, t' G σ H → t G σ H) : PSs X e t' := ⟨fun pins s σ H Q I q => h.run pins s σ H Q I (w Q σ H q)⟩
abbrev DTG := D → Ev → (Ev → Prop) → Prop
abbrev DTGs := List D → Ev → (Ev → Prop) → Prop
/-- but for the slots of js -/
def Ag (js : List Nat) (σ σ' : L2.St) : Prop := σ'.length = σ.length ∧ ∀ j, j ∉ js → σ'[j]? = σ[j]?
theorem Ag.refl (js : List Nat) (σ : L2.St) : Ag js σ σ := ⟨rfl, fun _ _ => rfl⟩
theorem Ag.trans {js : List Nat} {σ σ1 σ2 : L2.St} (a : Ag js σ σ1) (b : Ag js σ1 σ2) : Ag js σ σ2 := ⟨b.1.trans a.1, fun j h => (b.2 j h).trans (a.2 j h)⟩
theorem Ag.mono {js ks : List Nat} {σ σ' : L2.St} (a : Ag js σ σ') (h : ∀ j ∈ js, j ∈ ks) : Ag ks σ σ' := ⟨a.1, fun j hj => a.2 j fun z => hj (h j z)⟩
def tG (K : PySem.W.Frag) (js : List Nat) (T : DTG) : TG := fun v σ H Q => ∃ c ρ k d, Rep K c H σ ρ ∧ Hk c H ∧ R K (hid c.P H) v d ∧ T d ρ k ∧ ∀ ρ' σ', k ρ' → Rep K c H σ' ρ' → Ag js σ σ' → Q σ' H
def tGs (K : PySem.W.Frag) (js : List Nat) (T : DTGs) : TGs := fun vs σ H Q => ∃ c ρ k ds, Rep K c H σ ρ ∧ Hk c H ∧ Rs K (hid c.P H) vs ds ∧ T ds ρ k ∧ ∀ ρ' σ', k ρ' → Rep K c H σ' ρ' → Ag js σ σ' → Q σ' H
abbrev PDg (X : Cx) (js : List Nat) (e : Expr) (T : DTG) : Prop := PG X e (tG X.K js T)
abbrev PDgs (X : Cx) (js : List Nat) (e : List Expr) (T : DTGs) : Prop := PGs X e (tGs X.K js T)
theorem pgW {X : Cx} {e : Expr} {t t' : TG} (h : PG X e t) (w : ∀ v σ H Q, t' v σ H Q → t v σ H Q) : PG X e t' := ⟨fun pins s σ H v u Q I r q => h.run pins s σ H v u Q I r (w v σ H Q q)⟩
theorem pgsW {X : Cx} {e : List Expr} {t t' : TGs} (h : PGs X e t) (w : ∀ v σ H Q, t' v σ H Q → t v σ H Q) : PGs X e t' := ⟨fun pins s σ H v u Q I r q => h.run pins s σ H v u Q I r (w v σ H Q q)⟩
section
variable {X : Cx} {EX : XK} {a b e c tg iter : Expr} {es : List Expr} {Ta Tb T : DTE} {Tt Tu : DTT} {Tv : DTV} {G : DTG} {Gs : DTGs} {pos pos' : Pos} {st : Stmt} {sts body els : List Stmt} {S U : DTS} {x : Str} {js ks : List Nat}
def gN (i : Nat) : DTG := fun d ρ k => k (ρ.set i (some (.val d)))
theorem g_name (i : Nat) (hN : X.N.Nodup) (hi : X.N[i]? = some x := by rfl) (hx : Loc X.env.scope x := by first | exact .inl rfl | exact .inr rfl) (hf : X.fn x = true ∨ X.env.scope.names.lookup x = some .local := by first | exact .inl rfl | exact .inr rfl | assumption) : PDg X [i] (.Name x pos) (gN i) :=
  pgW (pg_name hN hi hx hf) fun v σ H Q h => by
    obtain ⟨c, ρ, k, d, r, hk, rv, h, q⟩ := h
    exact q _ _ h (r.set rv) ⟨List.length_set, fun j hj => List.getElem?_set_ne fun z => hj (by simp [z])⟩
def gsN : DTGs := fun ds ρ k => match ds with
  | [] => k ρ
  | _ => False
def gsC (G : DTG) (Gs : DTGs) : DTGs := fun ds ρ k => match ds with
  | d :: ds => G d ρ fun ρ' => Gs ds ρ' k
  | _ => False
theorem gs_nil : PDgs X [] [] gsN := pgsW pgs_nil fun v σ H Q h => by
  obtain ⟨c, ρ, k, d, r, hk, rv, h, q⟩ := h
  cases rv with
  | nil => exact ⟨rfl, q _ _ h r (.refl _ _)⟩
  | cons _ _ => exact h.elim
theorem gs_cons (h1 : PDg X js e G) (h2 : PDgs X ks es Gs) (hs : (assignEach (e :: es) X.env).map (·.2) = assign e X.env :: (assignEach es X.env).map (·.2) := by rfl) : PDgs X (js ++ ks) (e :: es) (gsC G Gs) := pgsW (pgs_cons h1 h2 hs) fun v σ H Q h => by
  obtain ⟨c, ρ, k, d, r, hk, rv, h, q⟩ := h
  cases rv with
  | nil => exact h.elim
  | cons a t => exact ⟨_, _, rfl, c, ρ, _, _, r, hk, a, h, fun ρ' σ' k' r' g1 => ⟨c, ρ', k, _, r', hk, t, k', fun ρ2 σ2 k2 r2 g2 => q ρ2 σ2 k2 r2 ((g1.mono fun j h => List.mem_append_left _ h).trans (g2.mono fun j h => List.mem_append_right _ h))⟩⟩
def gT (n : Nat) (Gs : DTGs) : DTG := fun d ρ k => match d with
  | .tup ds => ds.length = n ∧ Gs ds ρ k
  | _ => False
theorem g_tup {kk n : Nat} (hc : X.calm = true) (h : PDgs X js es Gs) (hn : (assignEach es X.env).length = n := by rfl) (hst : (assignEach es X.env).findIdx? (·.1) = none := by rfl) : PDg X js (.Tuple es kk pos) (gT n Gs) :=
  pgW (pg_tup hc h hn hst) fun v σ H Q h => by
    obtain ⟨c, ρ, k, d, r, hk, rv, h, q⟩ := h
    cases rv with
    | tup a s => exact ⟨_, _, rfl, hidT a, s.length.trans h.1, c, ρ, k, _, r, hk, s, h.2, q⟩
    | _ => exact h.elim
/-! assignments -/
def sAsg (T : DTE) (G : DTG) : DTS := fun E ρ => T E.ex ρ fun d => G d ρ E.nx
theorem asg_of {σ : L2.St} {H : Hp} {D0 : Ends} (h : tS X.K EX (sAsg T G) D0 σ H) : tAsg (tD X.K EX T) (tG X.K js G) D0 σ H := by
  obtain ⟨c, ρ, E, s, h, q⟩ := h
  refine ⟨c, ρ, _, _, s, h, fun d v H1 k e r => ?_⟩
  have s1 := s.ext e
  exact ⟨c, ρ, _, d, s1.r, s1.k, r, k, fun ρ' σ' k' r' _ => q.nx c ρ' σ' H1 k' (.of e) r' s1.k⟩
theorem s_asg (he : PDe X EX e T) (hg : PDg X js tg G) (hs : swapsWithSole [tg] e pos.line X.env = pure false := by rfl) (hw : swappedStores [tg] e X.env = pure none := by rfl) (h1 : (assignEach [tg] X.env).map (·.2) = [assign tg X.env] := by rfl) : PDs X EX (.Assign [tg] e pos) (sAsg T G) :=
  psW (ps_asg he hg hs hw h1) fun _ _ _ h => asg_of h
theorem s_set (i : Nat) (hN : X.N.Nodup) (he : PDe X EX e T) (hi : X.N[i]? = some x := by rfl) (hx : Loc X.env.scope x := by first | exact .inl rfl | exact .inr rfl) (hs : swapsWith e (some (.Name x pos')) pos.line X.env = pure false := by rfl) (hf : X.fn x = true ∨ X.env.scope.names.lookup x = some .local := by first | exact .inl rfl | exact .inr rfl | assumption) :
    PDs X EX (.Assign [.Name x pos'] e pos) (sAsg T (gN i)) := psW (ps_set hN hi hx he hs hf) fun D0 σ H h => by
  obtain ⟨c, ρ, E, s, h, q⟩ := h
  refine ⟨c, ρ, _, _, s, h, fun d v H1 k e r => ?_⟩
  have s1 := s.ext e
  exact q.nx c _ _ H1 k (.of e) (s1.r.set r) s1.k
def sPar (i j : Nat) (Ta Tb : DTE) : DTS := fun E ρ => Ta E.ex ρ fun d => Tb E.ex ρ fun e => E.nx ((ρ.set i (some (.val d))).set j (some (.val e)))
theorem s_par (i j : Nat) {y : Str} {px py pt : Pos} {kt k2 : Nat} {pt2 : Pos} (hc : X.calm = true) (hN : X.N.Nodup) (ha : PDe X EX a Ta) (hb : PDe X EX b Tb) (hi : X.N[i]? = some x := by rfl) (hj : X.N[j]? = some y := by rfl) (hij : i ≠ j := by decide)
    (hx : X.env.scope.names.lookup x = some .local := by rfl) (hy : X.env.scope.names.lookup y = some .local := by rfl) (h1 : starEach [a, b] X.env = (false, eval a X.env) :: starEach [b] X.env := by rfl) (h2 : starEach [b] X.env = (false, eval b X.env) :: starEach [] X.env := by rfl)
    (hw : swappedStores [.Tuple [.Name x px, .Name y py] kt pt] (.Tuple [a, b] k2 pt2) X.env = pure (some [x, y]) := by rfl)
    (hs : swapsWithSole [.Tuple [.Name x px, .Name y py] kt pt] (.Tuple [a, b] k2 pt2) pos.line X.env = pure false := by rfl) :
    PDs X EX (.Assign [.Tuple [.Name x px, .Name y py] kt pt] (.Tuple [a, b] k2 pt2) pos) (sPar i j Ta Tb) := psW (ps_par hc hN hi hj hij hx hy (pa_cons ha (pa_cons hb pa_nil h2) h1) hw hs) fun D0 σ H h => by
  obtain ⟨c, ρ, E, s, h, q⟩ := h
  refine ⟨c, ρ, _, _, s, h, fun d v H1 k e r => ?_⟩
  have s1 := s.ext e
  refine ⟨c, ρ, _, _, s1, k, fun d2 v2 H2 k2 e2 r2 => ?_⟩
  have s2 := s1.ext e2
  exact ⟨_, _, rfl, q.nx c _ _ H2 k2 (.of (e.trans e2)) ((s2.r.set (r.mono (s1.k.sub e2))).set r2) s2.k⟩
def sRet (T : DTE) : DTS := fun E ρ => T E.ex ρ E.rt
theorem s_ret (h : PDe X EX e T) : PDs X EX (.Return (some e) pos) (sRet T) := psW (ps_ret h) fun D0 σ H h => by
  obtain ⟨c, ρ, E, s, h, q⟩ := h
  exact ⟨c, ρ, _, _, s, h, fun d v H1 k e r => q.rt c d v H1 k (.of e) (s.ext e).k r⟩
def sRetN : DTS := fun E _ => E.rt .non
theorem s_retN : PDs X EX (.Return none pos) sRetN := psW ps_retN fun D0 σ H h => by
  obtain ⟨c, ρ, E, s, h, q⟩ := h
  exact q.rt c .non _ H h (.refl _ _) s.k .non
def sDrop (T : DTE) : DTS := fun E ρ => T E.ex ρ fun _ => E.nx ρ
theorem s_expr (h : PDe X EX e T) (hs : swapsWith e none pos.line X.env = pure false := by rfl) : PDs X EX (.Expr e pos) (sDrop T) := psW (ps_expr h hs) fun D0 σ H h => by
  obtain ⟨c, ρ, E, s, h, q⟩ := h
  exact ⟨c, ρ, _, _, s, h, fun d v H1 k e r => q.nx c ρ σ H1 k (.of e) (s.ext e).r (s.ext e).k⟩
def sPass : DTS := fun E ρ => E.nx ρ
theorem s_pass : PDs X EX (.Pass pos) sPass := psW ps_pass fun D0 σ H h => by
  obtain ⟨c, ρ, E, s, h, q⟩ := h
  exact q.nx c ρ σ H h (.refl _ _) s.r s.k
def sBreak : DTS := fun E ρ => E.bk ρ
theorem s_break : PDs X EX (.Break pos) sBreak := psW ps_break fun D0 σ H h => by
  obtain ⟨c, ρ, E, s, h, q⟩ := h
  exact q.bk c ρ σ H h (.refl _ _) s.r s.k
def sCont : DTS := fun E ρ => E.ct ρ
theorem s_continue : PDs X EX (.Continue pos) sCont := psW ps_continue fun D0 σ H h => by
  obtain ⟨c, ρ, E, s, h, q⟩ := h
  exact q.ct c ρ σ H h (.refl _ _) s.r s.k
def sNever : DTS := fun _ _ => False
theorem s_never : PDs X EX st sNever := psW ps_never fun D0 σ H h => by
  obtain ⟨c, ρ, E, s, h, q⟩ := h
  exact h
theorem b_never : PDb X EX sts sNever := pssW pss_never fun D0 σ H h => by
  obtain ⟨c, ρ, E, s, h, q⟩ := h
  exact h
theorem b_nil : PDb X EX [] sPass := pssW pss_nil fun D0 σ H h => by
  obtain ⟨c, ρ, E, s, h, q⟩ := h
  exact q.nx c ρ σ H h (.refl _ _) s.r s.k
def sSeq (S U : DTS) : DTS := fun E ρ => S { E with nx := fun ρ' => U E ρ' } ρ
theorem b_cons (h1 : PDs X EX st S) (h2 : PDb X EX sts U) : PDb X EX (st :: sts) (sSeq S U) := pssW (pss_cons h1 h2) fun D0 σ H h => by
  obtain ⟨c, ρ, E, s, h, q⟩ := h
  refine ⟨c, ρ, { E with nx := fun ρ' => U E ρ' }, s, h, ⟨fun c' ρ' σ' H' k st r hk => ?_, q.bk, q.ct, q.rt, q.rn⟩⟩
  exact ⟨c', ρ', E, ⟨r, hk, s.x.step st⟩, k, q.step st⟩
theorem b_one (h1 : PDs X EX st S) : PDb X EX [st] S := pss_one h1
def sIf (Tt : DTT) (S U : DTS) : DTS := fun E ρ => Tt E.ex ρ fun k => (k = true → S E ρ) ∧ (k = false → U E ρ)
theorem s_if (hc : PDt X EX c Tt) (ha : PDb X EX body S) (hb : PDb X EX els U) : PDs X EX (.If c body els pos) (sIf Tt S U) := psW (ps_if hc ha hb) fun D0 σ H h => by
  obtain ⟨c, ρ, E, s, h, q⟩ := h
  refine ⟨c, ρ, _, _, s, h, fun d H1 k e => ?_⟩
  have s1 := s.ext e
  cases d with
  | true => exact iteT ⟨c, ρ, E, s1, k.1 rfl, q.step (.of e)⟩
  | false => exact iteF ⟨c, ρ, E, s1, k.2 rfl, q.step (.of e)⟩
/-! a while -/
def sWhile (Tt : DTT) (S : DTS) : DTS := fun E ρ => ∃ W : Nat → Ev → Prop, (∃ m, W m ρ) ∧ ∀ m ρ', W m ρ' → Tt E.ex ρ' fun k => (k = false → E.nx ρ') ∧
  (k = true → S { E with nx := fun ρ2 => ∃ m', m' < m ∧ W m' ρ2, ct := fun ρ2 => ∃ m', m' < m ∧ W m' ρ2, bk := E.nx } ρ')
theorem s_while (hp : PassesOwn (model X.prog X.w) X.A X.env X.xe) (hc : PDt X EX c Tt) (hb : PDb X EX body S) : PDs X EX (.While c body [] pos) (sWhile Tt S) := psW (ps_while hp hc hb) fun D0 σ H h => by
  obtain ⟨c, ρ, E, s, ⟨W, ⟨m0, w0⟩, turn⟩, q⟩ := h
  refine ⟨fun m σ' H' => ∃ c' ρ', W m ρ' ∧ Step c c' H H' ∧ Rep X.K c' H' σ' ρ' ∧ Hk c' H', ⟨m0, c, ρ, w0, .refl _ _, s.r, s.k⟩, ?_⟩
  rintro m σ' H' ⟨c', ρ', w1, st, r1, k1⟩
  have s1 : St0 X.K EX c' H' σ' ρ' E.ex := ⟨r1, k1, s.x.step st⟩
  refine ⟨c', ρ', _, _, s1, turn m ρ' w1, fun k H2 kk e => ?_⟩
  have s2 := s1.ext e
  have st2 := st.trans (.of e)
  cases k with
  | true =>
    refine iteT ⟨_, fun σ3 H3 h3 => h3, c', ρ', { E with nx := fun ρ2 => ∃ m', m' < m ∧ W m' ρ2, ct := fun ρ2 => ∃ m', m' < m ∧ W m' ρ2, bk := E.nx }, s2, kk.2 rfl, ⟨fun c4 ρ4 σ4 H4 h4 t4 r4 k4 => ?_, fun c4 ρ4 σ4 H4 h4 t4 r4 k4 => ?_, fun c4 ρ4 σ4 H4 h4 t4 r4 k4 => ?_, (q.step st2).rt, (q.step st2).rn⟩⟩
    · obtain ⟨m', l, w'⟩ : ∃ m', m' < m ∧ W m' ρ4 := h4
      exact ⟨m', l, c4, ρ4, w', st2.trans t4, r4, k4⟩
    · exact q.nx c4 ρ4 σ4 H4 h4 (st2.trans t4) r4 k4
    · obtain ⟨m', l, w'⟩ : ∃ m', m' < m ∧ W m' ρ4 := h4
      exact ⟨m', l, c4, ρ4, w', st2.trans t4, r4, k4⟩
  | false => exact iteF (q.nx c' ρ' σ' H2 (kk.1 rfl) st2 s2.r s2.k)
/-! what is walked -/
/-- from H on, J gives the data ds -/
structure WalkD (K : PySem.W.Frag) (c : Cf) (H : Hp) (ds : List D) (J : It) (G : Hp → Prop) (Y : Nat → Hp → V → Hp → Prop) : Prop where
  w : Walk J ds.length G Y
  g : ∀ c2 H2, Step c c2 H H2 → Hk c2 H2 → G H2
  y : ∀ (i : Nat) c2 H2 x H3, i < ds.length → Step c c2 H H2 → Hk c2 H2 → Y i H2 x H3 → ∃ d, ds[i]? = some d ∧ Ext c2.B H2 H3 ∧ R K (hid c2.P H3) x d
abbrev DTI := ED → Ev → (List D → Prop) → Prop
def tI (K : PySem.W.Frag) (EX : XK) (T : DTI) : TI := fun σ H Q => ∃ c ρ Kd Ed, St0 K EX c H σ ρ Ed ∧ T Ed ρ Kd ∧ ∀ ds H' J G Y, Kd ds → Ext c.B H H' → WalkD K c H' ds J G Y → Q J H'
abbrev PDi (X : Cx) (EX : XK) (tg e : Expr) (T : DTI) : Prop := PI X tg e (tI X.K EX T)
theorem piW {X : Cx} {tg e : Expr} {t t' : TI} (h : PI X tg e t) (w : ∀ σ H Q, t' σ H Q → t σ H Q) : PI X tg e t' := ⟨fun pins s σ H Q I q => h.run pins s σ H Q I (w σ H Q q)⟩
theorem walkL {K : PySem.W.Frag} {c : Cf} {H : Hp} {a : Addr} {xs : List V} {ds : List D} (k : Hk c H) (h : SqL K (hid c.P H) a xs) (r : Rs K (hid c.P H) xs ds) : WalkD K c H ds (Itl K a) (fun H => SqL K H a xs) (YAt xs) := by
  refine ⟨by rw [← r.length]; exact walk_list, fun c2 H2 s k2 => hidL ((s.sub k).sl h), fun i c2 H2 x H3 hi s k2 y => ?_⟩
  obtain ⟨rfl, y⟩ := y
  obtain ⟨d, e, rd⟩ := r.getV y
  exact ⟨d, e, Ext.refl _ _, rd.mono (s.sub k)⟩
theorem walkT {K : PySem.W.Frag} {c : Cf} {H : Hp} {a : Addr} {xs : List V} {ds : List D} (k : Hk c H) (h : SqT K (hid c.P H) a xs) (r : Rs K (hid c.P H) xs ds) : WalkD K c H ds (Itt K a) (fun H => SqT K H a xs) (YAt xs) := by
  refine ⟨by rw [← r.length]; exact walk_tup, fun c2 H2 s k2 => hidT ((s.sub k).st h), fun i c2 H2 x H3 hi s k2 y => ?_⟩
  obtain ⟨rfl, y⟩ := y
  obtain ⟨d, e, rd⟩ := r.getV y
  exact ⟨d, e, Ext.refl _ _, rd.mono (s.sub k)⟩
/-- a list or a tuple -/
def iSeq (T : DTE) : DTI := fun E ρ K => T E ρ fun d => match d with
  | .lst ds => K ds
  | .tup ds => K ds
  | .scr ns => K (ns.map D.int)
  | _ => False
def iAny (K : PySem.W.Frag) (tl : TE) : TI := fun σ H R => tl σ H fun x H1 => ∃ a, x = .ref a ∧ (((∃ xs, SqL K H1 a xs) ∧ R (Itl K a) H1) ∨ ((∃ xs, SqT K H1 a xs) ∧ R (Itt K a) H1))
theorem pi_any {tl : TE} (hl : PE X e tl) : PI X tg e (iAny X.K tl) := ⟨fun pins s σ H R0 I h => thn (hl.run pins s σ H _ I h) fun v s1 ⟨x, H1, I1, r1, q1⟩ => by
  obtain ⟨a, rfl, q1⟩ := q1
  cases r1
  have frs : ∀ b ∈ [s1.heap.objs.size], FpOk X pins H1 b := fun b hb => by
    have eb : b = s1.heap.objs.size := by simpa using hb
    rw [eb]; exact I1.fpOk (Nat.le_refl _) (I1.hok.fresh (Nat.le_refl _))
  rcases q1 with ⟨⟨xs, hq⟩, q⟩ | ⟨⟨xs, hq⟩, q⟩
  · obtain ⟨us, rv, pl, _⟩ := I1.list hq
    exact wpAny_pyIter_list pl.isList ⟨_, _, _, _, H1, rfl, I1.kept (t' := s1.toks) fun _ _ z => Heap.get?_push_of_some _ z, turn_list a _, ⟨_, Heap.get?_push_size _ rfl, rfl, rfl⟩, frs, q⟩
  · obtain ⟨us, rv, pl, _⟩ := I1.tuple hq
    exact wpAny_pyIter_tuple (show s1.heap.IsTuple a us.toArray from pl) ⟨_, _, _, _, H1, rfl, I1.kept (t' := s1.toks) fun _ _ z => Heap.get?_push_of_some _ z, turn_tuple a _, ⟨_, Heap.get?_push_size _ rfl, rfl, rfl⟩, frs, q⟩⟩
theorem i_seq (h : PDe X EX e T) : PDi X EX tg e (iSeq T) := piW (pi_any h) fun σ H Q h => by
  obtain ⟨c, ρ, Kd, Ed, s, h, q⟩ := h
  refine ⟨c, ρ, _, Ed, s, h, fun d v H1 k e r => ?_⟩
  have s1 := s.ext e
  cases r with
  | lst a t => exact ⟨_, rfl, .inl ⟨⟨_, SqL.of (hidG a)⟩, q _ _ _ _ _ k e (walkL s1.k (SqL.of a) t)⟩⟩
  | tup a t => exact ⟨_, rfl, .inr ⟨⟨_, hidT a⟩, q _ _ _ _ _ k e (walkT s1.k a t)⟩⟩
  | scr a => exact ⟨_, rfl, .inl ⟨⟨_, hidL a⟩, q _ _ _ _ _ k e (walkL s1.k a (Rs.of_ints _))⟩⟩
  | _ => exact k.elim
def rngD (lo : Int) (n : Nat) : List D := (List.range n).map fun i : Nat => .int (lo + i)
theorem walkR {K : PySem.W.Frag} {c : Cf} {H : Hp} {lo : Int} {n : Nat} : WalkD K c H (rngD lo n) (Itr lo n) (fun _ => True) (YFn fun i => .int (lo + i)) := by
  have hl : (rngD lo n).length = n := by simp [rngD]
  refine ⟨by rw [hl]; exact walk_range, fun _ _ _ _ => trivial, fun i c2 H2 x H3 hi s k2 y => ?_⟩
  obtain ⟨rfl, rfl⟩ := y
  rw [hl] at hi
  exact ⟨.int (lo + i), by simp [rngD, hi], Ext.refl _ _, .int _⟩
def iR1 (T : DTE) : DTI := fun E ρ K => T E ρ fun d => match d with
  | .int j => -(2 ^ 62) ≤ j ∧ j < 2 ^ 62 ∧ K (rngD 0 j.toNat)
  | _ => False
theorem i_range1 {p : Pos} (h : PDe X EX a T) (hm : X.mg "range" = none) (hg : Gl X "range" := by rfl) (hs : starEach [a] X.env = [(false, eval a X.env)] := by rfl) (hs' : starEach [a] X.env = (false, eval a X.env) :: starEach [] X.env := by rfl) : PDi X EX tg (.Call (.Name "range" p) [a] [] pos) (iR1 T) :=
  piW (pi_range1 hg hm (pa_cons h pa_nil hs') hs) fun σ H Q h => by
    obtain ⟨c, ρ, Kd, Ed, s, h, q⟩ := h
    refine ⟨c, ρ, _, Ed, s, h, fun d v H1 k e r => ?_⟩
    cases r with
    | int j => exact ⟨_, rfl, k.1, k.2.1, q _ _ _ _ _ k.2.2 e walkR⟩
    | _ => exact k.elim
/-! a for -/
def forD (G : DTG) (S : DTS) (E : ES) : List D → Ev → Prop
  | [], ρ => E.nx ρ
  | d :: ds, ρ => G d ρ fun ρ1 => S { E with nx := fun ρ2 => forD G S E ds ρ2, ct := fun ρ2 => forD G S E ds ρ2, bk := E.nx } ρ1
def sFor (I : DTI) (G : DTG) (S : DTS) : DTS := fun E ρ => I E.ex ρ fun ds => forD G S E ds ρ
theorem s_for {I : DTI} (hp : PassesOwn (model X.prog X.w) X.A X.env X.xe) (hc : X.calm = true) (hi : PDi X EX tg iter I) (hg : PDg X js tg G) (hb : PDb X EX body S) (hs : ∀ x, foldedSetIterable iter X.env x = pure x := by intro _; rfl) :
    PDs X EX (.For tg iter body [] pos) (sFor I G S) := psW (ps_for hp hc hi hg hb hs) fun D0 σ H h => by
  obtain ⟨c, ρ, E, s, h, q⟩ := h
  refine ⟨c, ρ, _, _, s, h, fun ds H1 J G0 Y k e w => ?_⟩
  have s1 := s.ext e
  refine for_it w.w (fun i σ' H' => ∃ c' ρ', forD G S E (ds.drop i) ρ' ∧ Step c c' H1 H' ∧ Rep X.K c' H' σ' ρ' ∧ Hk c' H') ⟨c, ρ, k, .refl _ _, s1.r, s1.k⟩ (fun i σ' H' _ ⟨c', ρ', _, st, _, hk⟩ => w.g c' H' st hk) ?_ ?_
  · rintro i x σ' H2 H3 hi ⟨c', ρ', hf, st, r2, k2⟩ y
    obtain ⟨d, e1, e3, rd⟩ := w.y i c' H2 x H3 hi st k2 y
    have ed : ds.drop i = d :: ds.drop (i + 1) := by
      obtain ⟨hl, e1⟩ := List.getElem?_eq_some_iff.mp e1
      rw [← e1]
      exact List.drop_eq_getElem_cons hl
    rw [ed] at hf
    have st3 := st.trans (Step.of e3)
    have k3 := k2.ext e3
    refine ⟨c', ρ', _, d, r2.ext k2 e3, k3, rd, hf, fun ρ4 σ4 h4 r4 _ => ⟨c', ρ4, { E with nx := fun ρ2 => forD G S E (ds.drop (i + 1)) ρ2, ct := fun ρ2 => forD G S E (ds.drop (i + 1)) ρ2, bk := E.nx }, ⟨r4, k3, (s1.x.step st).ext e3⟩, h4, ?_⟩⟩
    have q3 := (q.step (.of e)).step st3
    exact ⟨fun c5 ρ5 σ5 H5 h5 t5 r5 k5 => ⟨c5, ρ5, h5, st3.trans t5, r5, k5⟩, fun c5 ρ5 σ5 H5 h5 t5 r5 k5 => q3.nx c5 ρ5 σ5 H5 h5 t5 r5 k5, fun c5 ρ5 σ5 H5 h5 t5 r5 k5 => ⟨c5, ρ5, h5, st3.trans t5, r5, k5⟩, q3.rt, q3.rn⟩
  · rintro σ' H2 ⟨c', ρ', hf, st, r2, k2⟩
    rw [List.drop_length] at hf
    exact (q.step (.of e)).nx c' ρ' σ' H2 hf st r2 k2
end
/-! ### calls of defs -/
def Cf.cal (c : Cf) : Cf := ⟨c.P, fun _ => false, c.B⟩
theorem cal_P (c : Cf) : c.cal.P = c.P := funext fun a => by simp [Cf.cal, Cf.P]
theorem As.cal {K : PySem.W.Frag} {c : Cf} {H : Hp} : ∀ {vs : List V} {ss : List Sl}, As K c H vs ss → As K c.cal H vs ss
  | _, _, .nil => .nil
  | _, _, .cons (s := s) h t => .cons (by
      cases s with
      | val d => show R K (hid c.cal.P H) _ d; rw [cal_P]; exact h
      | own d => exact h
      | bag => exact h) t.cal
theorem Hk.cal {c : Cf} {H : Hp} (k : Hk c H) : Hk c.cal H := ⟨fun a h => by
    have q := k.bo a h
    show c.P a = true
    simp [Cf.P, q], k.bag, fun a h => by rw [cal_P] at h; exact k.al a h, fun a h => by cases h⟩
theorem Exs.cal {K : PySem.W.Frag} {EX : XK} {c : Cf} {H : Hp} {Ed : ED} (h : Exs K EX c H Ed) (k : Hk c H) : Exs K EX c.cal H Ed := fun x dx c2 H2 a st k2 r => by
  -- what was the caller's own is its own again
  have hcF : ∀ a, c.F a = true → c2.O a = true := fun a h => st.o a (by show (c.O a || c.F a) = true; rw [h]; simp)
  have hcO : ∀ a, c.O a = true → c2.O a = true := fun a h => st.o a (by show (c.O a || c.F a) = true; rw [h]; simp)
  have eP : (Cf.mk (fun a => c2.O a && !c.F a) (fun a => c.F a || c2.F a) c2.B).P = c2.P := funext fun a => by
    show ((c2.O a && !c.F a) || (c.F a || c2.F a)) = (c2.O a || c2.F a)
    cases e : c.F a with
    | true => rw [hcF a e]; simp
    | false => simp
  have hB : ∀ a, c.B a = true → c.F a = false := fun a h => by
    cases e : c.F a with
    | false => rfl
    | true =>
      have z := k.fo a e
      rw [k.bo a h] at z
      cases z
  refine h x dx ⟨fun a => c2.O a && !c.F a, fun a => c.F a || c2.F a, c2.B⟩ H2 a ⟨fun a h => ?_, fun a h => ?_, st.b, st.b', fun a h => ?_, fun a o hb _ he => st.keep a o hb rfl he, st.al⟩ ⟨fun a h => ?_, k2.bag, fun a h => ?_, fun a h => ?_⟩ (by rw [eP]; exact r)
  · show (c2.O a && !c.F a) = true
    rw [hcO a h]
    cases e : c.F a with
    | false => rfl
    | true =>
      have z := k.fo a e
      rw [h] at z
      cases z
  · obtain ⟨h1, h2⟩ := Bool.and_eq_true_iff.mp h
    rcases st.o' a h1 with z | z
    · have z' : (c.O a || c.F a) = true := z
      simp only [Bool.not_eq_true'] at h2
      rw [h2] at z'
      exact .inl (by simpa using z')
    · exact .inr z
  · rcases Bool.or_eq_true_iff.mp h with h | h
    · exact .inl h
    · rcases st.f a h with z | z
      · cases z
      · exact .inr z
  · show (c2.O a && !c.F a) = true
    rw [k2.bo a h]
    cases e : c.F a with
    | false => rfl
    | true =>
      rcases st.b' a h with z | z
      · rw [hB a z] at e
        cases e
      · obtain ⟨o, q⟩ := k.al a (by show (c.O a || c.F a) = true; rw [e]; simp)
        rw [z] at q
        cases q
  · rw [eP] at h
    exact k2.al a h
  · show (c2.O a && !c.F a) = false
    have h' : (c.F a || c2.F a) = true := h
    cases e : c.F a with
    | true => simp
    | false =>
      rw [e] at h'
      rw [k2.fo a (by simpa using h')]
      rfl
abbrev DSp := ED → List Sl → (D → Prop) → Prop
/-- a def's promise by data: n parameters -/
def spD (K : PySem.W.Frag) (n : Nat) (T : DSp) : Sp := fun vs H Q E => ∃ c ss Kd Ed, (∀ a, c.F a = false) ∧ ss.length = n ∧ As K c H vs ss ∧ Hk c H ∧ Exs K E c H Ed ∧ T Ed ss Kd ∧ ∀ d v H', Kd d → Ext c.B H H' → R K (hid c.P H') v d → Q v H'
theorem As.length {K : PySem.W.Frag} {c : Cf} {H : Hp} : ∀ {vs : List V} {ss : List Sl}, As K c H vs ss → vs.length = ss.length
  | _, _, .nil => rfl
  | _, _, .cons _ t => congrArg (· + 1) t.length
theorem spD_len {K : PySem.W.Frag} {n : Nat} {T : DSp} {vs : List V} {H : Hp} {Q : VK} {E : XK} (h : spD K n T vs H Q E) : vs.length = n := by
  obtain ⟨c, ss, Kd, Ed, _, hl, ha, _⟩ := h
  rw [ha.length, hl]
/-- a promise by positional values, kept where no repr is on its way -/
def FnG (P : Program) (w : World) (K : PySem.W.Frag) (mg : Str → Option Value) (base : Heap) (CX : CXT) (k : Nat) (f : Addr) (sp : Sp) : Prop :=
  ∀ (A : Around) (outer : List Env) (s : Shared) (H : Hp) (us : List Value) (vs : List V) (Q : VK) (E : XK), A.guards = some [] → Room k A → Env0 P w K mg base A outer s H → Vals vs us → sp vs H Q E →
    codeAny (model P w) A (.call (.ref f) ⟨us, []⟩) (CR CX outer P w H s Q E) s
theorem FnG.mono {P : Program} {w : World} {K : PySem.W.Frag} {mg : Str → Option Value} {base : Heap} {CX : CXT} {j k : Nat} {f : Addr} {sp : Sp} (F : FnG P w K mg base CX j f sp) (h : j ≤ k) : FnG P w K mg base CX k f sp :=
  fun A outer s H us vs Q E hg hr => F A outer s H us vs Q E hg (hr.mono h)
theorem run_g {X : Cx} {pins : List (Addr × Obj)} {σ : L2.St} {H : Hp} {s : Shared} {CX : CXT} {k : Nat} {f : Addr} {sp : Sp} {E : XK} {Q : VK} {us : List Value} {vs : List V} (F : FnG X.prog X.w X.K X.mg X.base CX k f sp) (hg : X.A.guards = some []) (hr : Room k X.A)
    (hx : Passes CX X E) (I : Inv X pins σ H s) (r : Vals vs us) (h : sp vs H Q E) : wpAny (model X.prog X.w) X.A (call (.ref f) us) (EP X pins σ Q) X.xe s := by
  refine wpAny_call (codeAny_mono (F X.A X.stack s H us vs Q E hg hr I.env0 r h) fun res s' hq => ?_)
  match res, hq with
  | .error e, hq => exact hx pins σ H s e s' I hq
  | .ok (.ret u), hq => exact I.after hq
  | .ok .next, hq => exact False.elim hq
  | .ok .brk, hq => exact False.elim hq
  | .ok .cont, hq => exact False.elim hq
/-- the def x of n parameters, at a level k -/
def Callee (P : Program) (w : World) (K : PySem.W.Frag) (mg : Str → Option Value) (base : Heap) (CX : CXT) (k : Nat) (x : Str) (n : Nat) (T : DSp) : Prop :=
  ∃ f, mg x = some (.ref f) ∧ PySem.W.keepIn K (.ref f) = true ∧ FnG P w K mg base CX k f (spD K n T)
def dCall (n : Nat) (T : DSp) (Ta : DTA) : DTE := fun E ρ K => Ta E ρ fun ss => ss.length = n ∧ T E ss K
theorem call_of {K : PySem.W.Frag} {EX : XK} {n : Nat} {T : DSp} {Ta : DTA} {σ : L2.St} {H : Hp} {Q : VK} (h : tD K EX (dCall n T Ta) σ H Q) : tA K EX Ta σ H fun vs H1 => spD K n T vs H1 Q EX := by
  obtain ⟨c, ρ, Kd, Ed, s, h, q⟩ := h
  refine ⟨c, ρ, _, Ed, s, h, fun ss vs H1 k e r => ?_⟩
  have s1 := s.ext e
  exact ⟨c.cal, ss, Kd, Ed, fun _ => rfl, k.1, r.cal, s1.k.cal, s1.x.cal s1.k, k.2, fun d v H2 k2 e2 r2 => q d v H2 k2 (e.trans e2) (by rw [← cal_P]; exact r2)⟩
theorem passN {X : Cx} {EX : XK} : Passes CX0 X EX := fun _ _ _ _ _ _ _ h => h.elim
theorem d_call {X : Cx} {EX : XK} {CX : CXT} {k n : Nat} {x : Str} {T : DSp} {Ta : DTA} {e : Expr} {es : List Expr} {p pos : Pos} (F : Callee X.prog X.w X.K X.mg X.base CX k x n T) (hgu : X.A.guards = some []) (hr : Room k X.A) (hx : Passes CX X EX) (ha : PDa X EX (e :: es) Ta) (hg : Gl X x := by rfl)
    (hdb : (x == ("__debug__" : Str)) = false := by decide) (he : starEach (e :: es) X.env = (false, eval e X.env) :: starEach es X.env := by rfl) (hpl : (backTo pos (starEach es X.env)).any (·.1) = false := by rfl) :
    PDe X EX (.Call (.Name x p) (e :: es) [] pos) (dCall n T Ta) := by
  obtain ⟨f, hm, hk, F⟩ := F
  refine ⟨fun pins s σ H Q I h => wpAny_Call_Name_kw (ld_glob I hg hm ?_ hdb)⟩
  exact PySem.W.callWith_K (h₀ := X.base) I.ok.mod.kin hk (thn (ha.run pos pins s σ H _ I (call_of h)) fun us s1 ⟨vs, H1, I1, r, q⟩ => ⟨I1.kIn, run_g F hgu hr hx I1 r q⟩) he hpl
/-! ### a def's body -/
def start0 (N : List Str) (ss : List Sl) : Ev := ss.map some ++ List.replicate (N.length - ss.length) none
theorem rep_start {K : PySem.W.Frag} {c : Cf} {H : Hp} {vs : List V} {ss : List Sl} (N : List Str) (a : As K c H vs ss) : Rep K c H (L2.start N vs) (start0 N ss) := by
  have hl := a.length
  have get : ∀ (vs : List V) (ss : List Sl), As K c H vs ss → ∀ (i : Nat) s, ss[i]? = some s → ∃ v, vs[i]? = some v ∧ SlR' K c H v s := by
    intro vs ss a
    induction a with
    | nil => intro i s h; simp at h
    | cons h t ih =>
      intro i s hs
      cases i with
      | zero => simp at hs; subst hs; exact ⟨_, rfl, h⟩
      | succ i => obtain ⟨v, e, r⟩ := ih i s (by simpa using hs); exact ⟨v, by simpa using e, r⟩
  have at_ : ∀ (i : Nat) s, (start0 N ss)[i]? = some (some s) → ∃ v, (L2.start N vs)[i]? = some (some v) ∧ SlR' K c H v s := by
    intro i s h
    unfold start0 at h
    by_cases hi : i < ss.length
    · rw [List.getElem?_append_left (by simpa using hi), List.getElem?_map] at h
      cases e : ss[i]? with
      | none => rw [e] at h; cases h
      | some s' =>
        rw [e] at h
        cases h
        obtain ⟨v, e1, r⟩ := get vs ss a i s e
        refine ⟨v, ?_, r⟩
        unfold L2.start
        rw [List.getElem?_append_left (by simp; omega), List.getElem?_map, e1]
        rfl
    · rw [List.getElem?_append_right (by simpa using hi), List.getElem?_replicate] at h
      split at h <;> cases h
  refine ⟨by simp [L2.start, start0, hl], fun i d h => at_ i _ h, fun i d h => ?_, fun i h => ?_, fun i j d e x h _ _ _ => ?_⟩
  · obtain ⟨v, _, r⟩ := at_ i _ h
    exact r.elim
  · obtain ⟨v, e, a, rfl, hb⟩ := at_ i _ h
    exact ⟨a, e, hb⟩
  · obtain ⟨v, _, r⟩ := at_ i _ h
    exact r.elim
def endsOf (Kd : D → Prop) (Ed : ED) : ES := ⟨fun _ => Kd .non, Kd, fun ds => Kd (.lst ds), fun _ => False, fun _ => False, Ed⟩
section
variable {P : Program} {w : World} {K : PySem.W.Frag} {mg : Str → Option Value} {base : Heap}
theorem ext_end {c c' : Cf} {H H' : Hp} (hF : ∀ a, c.F a = false) (st : Step c c' H H') (k : Hk c' H') : Ext c.B H H' := ⟨fun a o hb h => st.keep a o hb (hF a) h, fun _ a h => k.bag a (st.b a h), st.al⟩
theorem sub_end {c c' : Cf} {H H' : Hp} (hF : ∀ a, c.F a = false) (st : Step c c' H H') : Sub (hid c'.P H') (hid c.P H') := fun a o h => by
  obtain ⟨h1, h2⟩ := hid_some.mp h
  refine hid_some.mpr ⟨?_, h2⟩
  have h3 : c'.O a = false ∧ c'.F a = false := by simpa [Cf.P] using h1
  have h4 : c.O a = false := by
    cases e : c.O a with
    | false => rfl
    | true =>
      have z := st.o a e
      rw [h3.1] at z
      cases z
  simp [Cf.P, h4, hF a]
theorem body_end {c : Cf} {H : Hp} {Kd : D → Prop} {Ed : ED} {Q : VK} (hF : ∀ a, c.F a = false) (q : ∀ d v H', Kd d → Ext c.B H H' → R K (hid c.P H') v d → Q v H') : EOk K c H (endsOf Kd Ed) { nx := fun _ H' => Q .non H', rt := Q } := by
  refine ⟨fun c' ρ' σ' H' h st r k => q .non .non H' h (ext_end hF st k) .non, fun _ _ _ _ h _ _ _ => h.elim, fun _ _ _ _ h _ _ _ => h.elim, fun c' d v H' h st k r => q d v H' h (ext_end hF st k) (r.mono (sub_end hF st)), fun c' ds a xs H' h st k hn hp ha r => ?_⟩
  refine q (.lst ds) (.ref a) H' h (ext_end hF st k) (.lst ?_ (r.mono fun b o hb => sub_end hF st b o ?_))
  · exact sub_end hF st a _ (hid_some.mpr ⟨hp, ha⟩)
  · obtain ⟨h1, h2⟩ := hid_some.mp hb
    rw [with_P, Bool.or_eq_false_iff] at h1
    exact hid_some.mpr ⟨h1.1, h2⟩
/-- a def that hands back a new list -/
abbrev DSn := ED → List Sl → (List D → Prop) → Prop
def spN (K : PySem.W.Frag) (n : Nat) (T : DSn) : Sp := fun vs H Q E => ∃ c ss Kd Ed, (∀ a, c.F a = false) ∧ ss.length = n ∧ As K c H vs ss ∧ Hk c H ∧ Exs K E c H Ed ∧ T Ed ss Kd ∧ ∀ ds a xs H', Kd ds → Ext c.B H H' → H a = none → H' a = some (.lst xs) → Rs K (hid (c.with a).P H') xs ds → Q (.ref a) H'
theorem spN_len {K : PySem.W.Frag} {n : Nat} {T : DSn} {vs : List V} {H : Hp} {Q : VK} {E : XK} (h : spN K n T vs H Q E) : vs.length = n := by
  obtain ⟨c, ss, Kd, Ed, _, hl, ha, _⟩ := h
  rw [ha.length, hl]
def endsN (Kd : List D → Prop) (Ed : ED) : ES := ⟨fun _ => False, fun _ => False, Kd, fun _ => False, fun _ => False, Ed⟩
theorem body_endN {c : Cf} {H : Hp} {Kd : List D → Prop} {Ed : ED} {Q : VK} (hF : ∀ a, c.F a = false) (q : ∀ ds a xs H', Kd ds → Ext c.B H H' → H a = none → H' a = some (.lst xs) → Rs K (hid (c.with a).P H') xs ds → Q (.ref a) H') : EOk K c H (endsN Kd Ed) { nx := fun _ H' => Q .non H', rt := Q } := by
  refine ⟨fun _ _ _ _ h _ _ _ => h.elim, fun _ _ _ _ h _ _ _ => h.elim, fun _ _ _ _ h _ _ _ => h.elim, fun _ _ _ _ h _ _ _ => h.elim, fun c' ds a xs H' h st k hn hp ha r => ?_⟩
  refine q ds a xs H' h (ext_end hF st k) hn ha (r.mono fun b o hb => ?_)
  obtain ⟨h1, h2⟩ := hid_some.mp hb
  rw [with_P, Bool.or_eq_false_iff] at h1
  obtain ⟨h3, _⟩ := hid_some.mp (sub_end hF st b o (hid_some.mpr ⟨h1.1, h2⟩))
  exact hid_some.mpr ⟨by rw [with_P, h3, h1.2]; rfl, h2⟩
/-- a def that raises nothing: its body B, by data -/
theorem fn_ok {x qual : Str} {st : Stmt} {f : Addr} {fd : FuncData} {N ps : List Str} {k n : Nat} {T : DSp} {Tb : DTS} (F : Fun K x qual st f fd) (S : FnScope N ps (defScope st)) (hn : ps.length = n)
    (hbi : ∀ (kV doc pm : Value) (an : Option Addr) (cdv ct : Value) (us : List Value), us.length = ps.length → bindArgs (PySem.W.fnOf x qual (defArgs st) (defBody st) (defScope st) .none kV doc pm an cdv ct) ⟨us, []⟩ = pure (ps.zip us))
    (body : ∀ (cdv : Value) (A : Around) (outer : List Env) (s : Shared) (H : Hp) (E : XK), (A.deeper (envOfC qual (defScope st) s.heap.objs.size f cdv)).guards = some [] → Room k (A.deeper (envOfC qual (defScope st) s.heap.objs.size f cdv)) →
      PDb (cxOf CX0 P w K mg base N qual (defScope st) f cdv A outer s H E).nox E0 (defBody st) Tb)
    (read : ∀ Ed ss Kd, ss.length = n → T Ed ss Kd → Tb (endsOf Kd fun _ => False) (start0 N ss)) : FnG P w K mg base CX0 (k + 1) f (spD K n T) := by
  intro A outer s H us vs Q E hg hr e0 r h
  obtain ⟨oc, od, kV, doc, pm, an, cdv, ct, osl, rfl, lk, hcd⟩ := F.ex
  have hl : vs.length = ps.length := (spD_len h).trans hn.symm
  refine StX.run_bnd lk hcd S hr e0 (G := fun xs H2 => xs = vs ∧ H2 = H) (fun A' Ex Q' hq => ?_) fun s2 H2 xs ⟨e1, e2⟩ hr' => ?_
  · rw [hbi kV doc pm an cdv ct us (by rw [← r.length]; exact hl)]
    exact wpAny_pure (hq s H vs us e0 Un.refl rfl (fun _ _ z => z) r hl ⟨rfl, rfl⟩)
  · subst e1 e2
    obtain ⟨c, ss, Kd, Ed, hF, hl, ha, hk, hx, hT, q⟩ := h
    refine ⟨_, (body cdv A outer s2 H2 E hg hr').nox, ?_⟩
    exact ⟨c, _, _, ⟨rep_start N ha, hk, fun _ _ _ _ z _ _ _ => False.elim z⟩, read Ed ss Kd hl hT, body_end hF q⟩
theorem fn_okN {x qual : Str} {st : Stmt} {f : Addr} {fd : FuncData} {N ps : List Str} {k n : Nat} {T : DSn} {Tb : DTS} (F : Fun K x qual st f fd) (S : FnScope N ps (defScope st)) (hn : ps.length = n)
    (hbi : ∀ (kV doc pm : Value) (an : Option Addr) (cdv ct : Value) (us : List Value), us.length = ps.length → bindArgs (PySem.W.fnOf x qual (defArgs st) (defBody st) (defScope st) .none kV doc pm an cdv ct) ⟨us, []⟩ = pure (ps.zip us))
    (body : ∀ (cdv : Value) (A : Around) (outer : List Env) (s : Shared) (H : Hp) (E : XK), (A.deeper (envOfC qual (defScope st) s.heap.objs.size f cdv)).guards = some [] → Room k (A.deeper (envOfC qual (defScope st) s.heap.objs.size f cdv)) →
      PDb (cxOf CX0 P w K mg base N qual (defScope st) f cdv A outer s H E).nox E0 (defBody st) Tb)
    (read : ∀ Ed ss Kd, ss.length = n → T Ed ss Kd → Tb (endsN Kd fun _ => False) (start0 N ss)) : FnG P w K mg base CX0 (k + 1) f (spN K n T) := by
  intro A outer s H us vs Q E hg hr e0 r h
  obtain ⟨oc, od, kV, doc, pm, an, cdv, ct, osl, rfl, lk, hcd⟩ := F.ex
  have hl : vs.length = ps.length := (spN_len h).trans hn.symm
  refine StX.run_bnd lk hcd S hr e0 (G := fun xs H2 => xs = vs ∧ H2 = H) (fun A' Ex Q' hq => ?_) fun s2 H2 xs ⟨e1, e2⟩ hr' => ?_
  · rw [hbi kV doc pm an cdv ct us (by rw [← r.length]; exact hl)]
    exact wpAny_pure (hq s H vs us e0 Un.refl rfl (fun _ _ z => z) r hl ⟨rfl, rfl⟩)
  · subst e1 e2
    obtain ⟨c, ss, Kd, Ed, hF, hl, ha, hk, hx, hT, q⟩ := h
    refine ⟨_, (body cdv A outer s2 H2 E hg hr').nox, ?_⟩
    exact ⟨c, _, _, ⟨rep_start N ha, hk, fun _ _ _ _ z _ _ _ => False.elim z⟩, read Ed ss Kd hl hT, body_endN hF q⟩
/-- a def of n parameters that hands back a new list -/
def CalleeN (P : Program) (w : World) (K : PySem.W.Frag) (mg : Str → Option Value) (base : Heap) (CX : CXT) (k : Nat) (x : Str) (n : Nat) (T : DSn) : Prop :=
  ∃ f, mg x = some (.ref f) ∧ PySem.W.keepIn K (.ref f) = true ∧ FnG P w K mg base CX k f (spN K n T)
end

/-! ### comprehensions -/
def wipeD (ρ : Ev) : List Nat → Ev
  | [] => ρ
  | v :: vs => (wipeD ρ vs).set v none
section
variable {K : PySem.W.Frag} {c : Cf} {H : Hp} {σ : L2.St} {ρ : Ev}
theorem set_none {α : Type} {l : List (Option α)} {i j : Nat} {y : α} (h : (l.set i none)[j]? = some (some y)) : i ≠ j ∧ l[j]? = some (some y) := by
  rcases set_cases h with ⟨_, _, q⟩ | q
  · cases q
  · exact q
theorem Rep.unset (r : Rep K c H σ ρ) (i : Nat) : Rep K c H (σ.set i none) (ρ.set i none) := by
  refine ⟨by simpa using r.le, fun j d h => ?_, fun j d h => ?_, fun j h => ?_, fun j l d e a h h2 h3 h4 => ?_⟩
  · obtain ⟨ne, q⟩ := set_none h
    rw [List.getElem?_set_ne ne]
    exact r.val j d q
  · obtain ⟨ne, q⟩ := set_none h
    rw [List.getElem?_set_ne ne]
    exact r.own j d q
  · obtain ⟨ne, q⟩ := set_none h
    rw [List.getElem?_set_ne ne]
    exact r.bag j q
  · obtain ⟨ne, q⟩ := set_none h
    obtain ⟨ne2, q2⟩ := set_none h2
    rw [List.getElem?_set_ne ne] at h3
    rw [List.getElem?_set_ne ne2] at h4
    exact r.sep j l d e a q q2 h3 h4
theorem Rep.wipe (r : Rep K c H σ ρ) : ∀ vs : List Nat, Rep K c H (L2.wipe σ vs) (wipeD ρ vs)
  | [] => r
  | v :: vs => (r.wipe vs).unset v
end
theorem wipe_at (σ : L2.St) : ∀ (vs : List Nat) (j : Nat), (L2.wipe σ vs)[j]? = if j ∈ vs ∧ j < σ.length then some none else σ[j]?
  | [], j => by simp [L2.wipe]
  | v :: vs, j => by
    show ((L2.wipe σ vs).set v none)[j]? = _
    by_cases e : v = j
    · subst e
      by_cases hl : v < σ.length
      · rw [List.getElem?_set_self (by rw [wipe_length]; exact hl), if_pos ⟨List.mem_cons_self, hl⟩]
      · rw [if_neg (fun z => hl z.2), List.getElem?_eq_none (by rw [List.length_set, wipe_length]; omega), List.getElem?_eq_none (by omega)]
    · rw [List.getElem?_set_ne e, wipe_at σ vs j]
      have : (j ∈ v :: vs) = (j ∈ vs) := by simp [Ne.symm e]
      simp only [this]
theorem wipe_ag {σ σ' : L2.St} {js vs : List Nat} (a : Ag js (L2.wipe σ vs) σ') (h : ∀ j ∈ js, j ∈ vs) : L2.wipe σ' vs = L2.wipe σ vs := by
  have hl : σ'.length = σ.length := by rw [a.1, wipe_length]
  apply List.ext_getElem?
  intro j
  rw [wipe_at, wipe_at, hl]
  by_cases hj : j ∈ vs
  · by_cases hlt : j < σ.length
    · rw [if_pos ⟨hj, hlt⟩, if_pos ⟨hj, hlt⟩]
    · rw [if_neg (fun z => hlt z.2), if_neg (fun z => hlt z.2), List.getElem?_eq_none (by omega), List.getElem?_eq_none (by omega)]
  · rw [if_neg (fun z => hj z.1), if_neg (fun z => hj z.1), a.2 j fun z => hj (h j z), wipe_at, if_neg (fun z => hj z.1)]
abbrev noE : ED := fun _ => False
def lcD (G : DTG) (Tt : DTT) (Te : DTE) (ρ : Ev) (K : D → Prop) : List D → List D → Prop
  | [], acc => K (.lst acc)
  | d :: ds, acc => G d ρ fun ρ1 => Tt noE ρ1 fun k => (k = true → Te noE ρ1 fun y => lcD G Tt Te ρ K ds (acc ++ [y])) ∧ (k = false → lcD G Tt Te ρ K ds acc)
def dLc (I : DTI) (G : DTG) (Tt : DTT) (Te : DTE) (vs : List Nat) : DTE := fun E ρ K => I E ρ fun ds => ds.length ≤ 1000000 ∧ lcD G Tt Te (wipeD ρ vs) K ds []
theorem with_sub (c : Cf) (p : Addr) (H : Hp) : Sub (hid (c.with p).P H) (hid c.P H) := fun a o h => by
  obtain ⟨h1, h2⟩ := hid_some.mp h
  rw [with_P, Bool.or_eq_false_iff] at h1
  exact hid_some.mpr ⟨h1.1, h2⟩
/-- data of before stands apart from what is new -/
theorem sub_with {c : Cf} {H H' : Hp} {p : Addr} (k : Hk c H) (hp : H p = none) (e : ∀ a o, c.P a = false → H a = some o → H' a = some o) : Sub (hid c.P H) (hid (c.with p).P H') := fun a o h => by
  obtain ⟨h1, h2⟩ := hid_some.mp h
  refine hid_some.mpr ⟨?_, e a o h1 h2⟩
  rw [with_P, h1]
  exact decide_eq_false (ne_of_none h2 hp)
theorem Hk.with {c : Cf} {H : Hp} {p : Addr} {o : HO} (k : Hk c H) (hp : H p = none) : Hk (c.with p) (upd H p o) := by
  have e := Ext.new (o := o) hp k.bag
  refine ⟨k.bo, e.bag k.bag, fun a h => ?_, fun a h => ?_⟩
  · rw [with_P] at h
    rcases Bool.or_eq_true_iff.mp h with h | h
    · obtain ⟨u, q⟩ := k.al a h
      exact e.al a u q
    · rw [of_decide_eq_true h]
      exact ⟨_, upd_same⟩
  · rcases Bool.or_eq_true_iff.mp h with h | h
    · exact k.fo a h
    · rw [of_decide_eq_true h]
      have q := k.fresh hp
      simp only [Cf.P, Bool.or_eq_false_iff] at q
      exact q.1
/-- the body's own list at p is changed -/
theorem own_upd {c : Cf} {H : Hp} {p : Addr} {o : HO} (k : Hk c H) (hF : c.F p = true) : Hk c (upd H p o) ∧ Sub (hid c.P H) (hid c.P (upd H p o)) := by
  have nb : ∀ a, c.B a = true → a ≠ p := fun a h z => by
    have h1 := k.bo a h
    rw [z, k.fo p hF] at h1
    cases h1
  refine ⟨⟨k.bo, fun a h => ?_, fun a h => ?_, k.fo⟩, fun a u h => ?_⟩
  · obtain ⟨x, y, z, e⟩ := k.bag a h
    exact ⟨x, y, z, by rw [upd_ne (nb a h)]; exact e⟩
  · by_cases e : a = p
    · rw [e]; exact ⟨_, upd_same⟩
    · rw [upd_ne e]; exact k.al a h
  · obtain ⟨h1, h2⟩ := hid_some.mp h
    refine hid_some.mpr ⟨h1, ?_⟩
    rw [upd_ne]
    · exact h2
    · intro z
      rw [z] at h1
      simp [Cf.P, hF] at h1
section
variable {X : Cx} {EX : XK} {elt tg iter : Expr} {ifs : List Expr} {scope : Scope} {own : List (Str × Nat)} {pos : Pos} {I : DTI} {G : DTG} {Tt : DTT} {Te : DTE} {js : List Nat}
def dYes : DTT := fun _ _ K => K true
abbrev PDts (X : Cx) (EX : XK) (ifs : List Expr) (T : DTT) : Prop := PTs X ifs (tT X.K EX T)
theorem ts_nil : PDts X EX [] dYes := ⟨fun pins s σ H Q I0 h => pts_nil.run pins s σ H Q I0 (by
  obtain ⟨c, ρ, Kd, Ed, s, h, q⟩ := h
  exact q _ _ h (Ext.refl _ _))⟩
theorem ts_one {c : Expr} (h : PDt X EX c Tt) : PDts X EX [c] Tt := pts_one h
theorem lc_of (hj : ∀ j ∈ js, j ∈ own.map (·.2)) {σ : L2.St} {H : Hp} {Q : VK} (h : tD X.K EX (dLc I G Tt Te (own.map (·.2))) σ H Q) : tLc (tI X.K EX I) (tG X.K js G) (tT X.K E0 Tt) (tD X.K E0 Te) (own.map (·.2)) σ H Q := by
  obtain ⟨c, ρ, Kd, Ed, s, h, q⟩ := h
  refine ⟨c, ρ, _, Ed, s, h, fun ds H1 J G0 Y k e w D0 hD => ?_⟩
  obtain ⟨hlen, k⟩ := k
  have s1 := s.ext e
  have k1 := s1.k
  -- from H1 on: the block's own configuration has the new list, too
  have st1 : Step c (c.with D0) H1 (upd H1 D0 (.lst [])) := by
    have x := Ext.new (o := HO.lst []) hD k1.bag
    refine ⟨fun _ h => h, fun _ h => .inl h, fun _ h => h, fun _ h => .inl h, fun a h => ?_, fun a o hb _ he => x.keep a o hb he, x.al⟩
    rcases Bool.or_eq_true_iff.mp h with h | h
    · exact .inl h
    · rw [of_decide_eq_true h]
      exact .inr hD
  have r0 : Rep X.K (c.with D0) (upd H1 D0 (.lst [])) σ ρ := by
    have x := Ext.new (o := HO.lst []) hD k1.bag
    have sub : Sub (hid c.P H1) (hid (c.with D0).P (upd H1 D0 (.lst []))) := sub_with k1 hD fun a o hP he => x.keep a o (k1.nob hP) he
    refine ⟨s1.r.le, fun i d h => ?_, fun i d h => ?_, s1.r.bag, s1.r.sep⟩
    · obtain ⟨v, a, b⟩ := s1.r.val i d h
      exact ⟨v, a, b.mono sub⟩
    · obtain ⟨a, h1, h2, h3⟩ := s1.r.own i d h
      refine ⟨a, h1, by simp [Cf.with, h2], ?_⟩
      have na : a ≠ D0 := fun z => by
        have q := k1.fresh hD
        rw [← z] at q
        simp [Cf.P, h2] at q
      cases d <;> first
        | exact h3.elim
        | (obtain ⟨xs, h4, h5⟩ := h3; exact ⟨xs, by rw [upd_ne na]; exact h4, h5.mono sub⟩)
  refine lc_it w.w (fun i H' => ∃ acc accD, H' D0 = some (.lst acc) ∧ Rs X.K (hid (c.with D0).P H') acc accD ∧ acc.length ≤ i ∧ lcD G Tt Te (wipeD ρ (own.map (·.2))) Kd (ds.drop i) accD ∧
      Hk (c.with D0) H' ∧ Rep X.K (c.with D0) H' σ ρ ∧ Step c (c.with D0) H1 H' ∧ (∀ a o, c.B a = false → H1 a = some o → H' a = some o)) ?_ ?_ ?_ ?_
  · exact ⟨[], [], upd_same, .nil, Nat.le_refl _, k, k1.with hD, r0, st1, fun a o hb he => (Ext.new (o := HO.lst []) hD k1.bag).keep a o hb he⟩
  · rintro i H' _ ⟨acc, accD, _, _, _, _, hk, _, st, _⟩
    exact w.g _ _ st hk
  · rintro i x H2 H3 hi ⟨acc, accD, hA, rA, hL, hlc, hk2, r2, st, kp⟩ y
    obtain ⟨d, e1, e3, rd⟩ := w.y i _ H2 x H3 hi st hk2 y
    have ed : ds.drop i = d :: ds.drop (i + 1) := by
      obtain ⟨hl, e1⟩ := List.getElem?_eq_some_iff.mp e1
      rw [← e1]
      exact List.drop_eq_getElem_cons hl
    rw [ed] at hlc
    have k3 := hk2.ext e3
    have r3 := r2.ext hk2 e3
    have nbD : (c.with D0).B D0 = false := by
      have q := k1.nob (k1.fresh hD)
      exact q
    refine ⟨c.with D0, _, _, d, r3.wipe _, k3, rd, hlc, fun ρ4 σ4 h4 r4 ag => ⟨wipe_ag ag hj, ?_⟩⟩
    refine ⟨c.with D0, ρ4, _, noE, ⟨r4, k3, fun _ _ _ _ z _ _ _ => False.elim z⟩, h4, fun b H4 kb e4 => ?_⟩
    have k4 := k3.ext e4
    have e34 := e3.trans e4
    have keepD : ∀ {H5 : Hp}, Ext (c.with D0).B H2 H5 → H5 D0 = some (.lst acc) := fun ex => ex.keep D0 _ nbD hA
    have stx : ∀ {H5 : Hp}, Ext (c.with D0).B H2 H5 → Step c (c.with D0) H1 H5 := fun ex => st.trans (.of ex)
    cases b with
    | true =>
      refine iteT ⟨c.with D0, ρ4, _, noE, ⟨r4.ext k3 e4, k4, fun _ _ _ _ z _ _ _ => False.elim z⟩, kb.1 rfl, fun dy y5 H5 ky e5 r5 => ?_⟩
      have e345 := e34.trans e5
      have k5 := k4.ext e5
      have hF : (c.with D0).F D0 = true := by simp [Cf.with]
      obtain ⟨k6, sub6⟩ := own_upd (o := HO.lst (acc ++ [y5])) k5 hF
      refine ⟨acc, keepD e345, ?_, acc ++ [y5], accD ++ [dy], upd_same, ?_, ?_, ky, k6, ?_, ?_, ?_⟩
      · have hlt : acc.length < 1000000 := by omega
        exact Nat.lt_of_lt_of_le hlt (by decide)
      · exact ((rA.mono (hk2.sub e345)).app (.cons r5 .nil)).mono sub6
      · simp only [List.length_append, List.length_singleton]; omega
      · have r6 := (r2.ext hk2 e345)
        refine ⟨r6.le, fun i d h => ?_, fun i d h => ?_, r6.bag, r6.sep⟩
        · obtain ⟨v, a, b⟩ := r6.val i d h
          exact ⟨v, a, b.mono sub6⟩
        · obtain ⟨a, h1, h2, h3⟩ := r6.own i d h
          refine ⟨a, h1, h2, ?_⟩
          obtain ⟨a0, g1, g2, _⟩ := s1.r.own i d h
          have ea : a = a0 := by
            rw [h1] at g1
            cases g1
            rfl
          have na : a ≠ D0 := fun z => by
            have q := k1.fresh hD
            rw [← z, ea] at q
            simp [Cf.P, g2] at q
          cases d <;> first
            | exact h3.elim
            | (obtain ⟨xs, h4, h5⟩ := h3; exact ⟨xs, by rw [upd_ne na]; exact h4, h5.mono sub6⟩)
      · refine (stx e345).trans ⟨fun _ h => h, fun _ h => .inl h, fun _ h => h, fun _ h => .inl h, fun a h => .inl h, fun a o hb hf he => ?_, fun a o he => ?_⟩
        · rw [upd_ne]
          · exact he
          · intro z
            rw [z, hF] at hf
            cases hf
        · by_cases z : a = D0
          · rw [z]; exact ⟨_, upd_same⟩
          · rw [upd_ne z]; exact ⟨o, he⟩
      · intro a o hb he
        have h5 := e345.keep a o hb (kp a o hb he)
        rw [upd_ne (ne_of_none he hD)]
        exact h5
    | false =>
      refine iteF ⟨acc, accD, keepD e34, rA.mono (hk2.sub e34), by omega, kb.2 rfl, k4, r2.ext hk2 e34, stx e34, fun a o hb he => e34.keep a o hb (kp a o hb he)⟩
  · rintro H' ⟨acc, accD, hA, rA, hL, hlc, hk2, r2, st, kp⟩
    rw [List.drop_length] at hlc
    have ex : Ext c.B H1 H' := ⟨kp, fun _ => hk2.bag, st.al⟩
    refine q _ _ _ hlc (e.trans ex) (.lst (hid_some.mpr ⟨k1.fresh hD, hA⟩) (rA.mono (with_sub _ _ _)))
theorem d_lc (hc : X.calm = true) (hN : X.N.Nodup) (hi : PDi X EX tg iter I) (ok : BlkOk X.N X.env.scope scope own)
    (hg : ∀ (s : Shared) (H : Hp) (C : Addr) (cl : List (Str × Addr)) (fp : List Addr), PDg (X.blk s H scope (compEnvC scope cl C X.env) fp) js tg G) (ht : ∀ (s : Shared) (H : Hp) (C : Addr) (cl : List (Str × Addr)) (fp : List Addr), PDts (X.blk s H scope (compEnvC scope cl C X.env) fp) E0 ifs Tt)
    (he : ∀ (s : Shared) (H : Hp) (C : Addr) (cl : List (Str × Addr)) (fp : List Addr), PDe (X.blk s H scope (compEnvC scope cl C X.env) fp) E0 elt Te) (hj : ∀ j ∈ js, j ∈ own.map (·.2) := by decide) (hs : ∀ x, foldedSetIterable iter X.env x = pure x := by intro _; rfl) :
    PDe X EX (.ListComp elt [⟨tg, iter, ifs, 0⟩] scope pos) (dLc I G Tt Te (own.map (·.2))) := peW (pe_lc hc hN hi ok hg ht he hs) fun _ _ _ h => lc_of hj h
theorem s_setLc (i : Nat) {y : Str} {py spos : Pos} (hc : X.calm = true) (hN : X.N.Nodup) (hy : X.N[i]? = some y) (hyl : X.env.scope.names.lookup y = some .local)
    (hsw : swapsWith (.ListComp elt [⟨tg, iter, ifs, 0⟩] scope pos) (some (.Name y py)) spos.line X.env = pure true) (hi : PDi X EX tg iter I) (ok : BlkOk X.N X.env.scope scope own)
    (hg : ∀ (s : Shared) (H : Hp) (C : Addr) (cl : List (Str × Addr)) (fp : List Addr), PDg (X.blk s H scope (compEnvC scope cl C X.env) fp) js tg G) (ht : ∀ (s : Shared) (H : Hp) (C : Addr) (cl : List (Str × Addr)) (fp : List Addr), PDts (X.blk s H scope (compEnvC scope cl C X.env) fp) E0 ifs Tt)
    (he : ∀ (s : Shared) (H : Hp) (C : Addr) (cl : List (Str × Addr)) (fp : List Addr), PDe (X.blk s H scope (compEnvC scope cl C X.env) fp) E0 elt Te) (hj : ∀ j ∈ js, j ∈ own.map (·.2) := by decide) (hs : ∀ x, foldedSetIterable iter X.env x = pure x := by intro _; rfl) :
    PDs X EX (.Assign [.Name y py] (.ListComp elt [⟨tg, iter, ifs, 0⟩] scope pos) spos) (sAsg (dLc I G Tt Te (own.map (·.2))) (gN i)) := psW (ps_setLc hc hN hy hyl hsw hi ok hg ht he hs) fun D0 σ H h => by
  obtain ⟨c, ρ, E, s, h, q⟩ := h
  refine lc_of hj ⟨c, ρ, _, _, s, h, fun d v H1 k e r => ?_⟩
  have s1 := s.ext e
  exact q.nx c _ _ H1 k (.of e) (s1.r.set r) s1.k
end

/-! ### repr -/
def rRepr (K : PySem.W.Frag) : List V → Hp → VK → Prop := fun xs H Q => ∃ v d, xs = [v] ∧ Dp K H v d ∧ d.showable = true ∧ d.hasDict = false ∧ d.depth ≤ 64 ∧ d.shown.length ≤ sizeLine ∧ Q (.str d.shown) H
theorem call_repr {X : Cx} (hg : X.A.guards = some []) (hu : X.A.units + 70 < cLine) : CallR X (.builtin "repr") (rRepr X.K) := by
  intro pins s σ H xs us Q I r h
  obtain ⟨v, d, rfl, hd, hs, hn, hdp, hz, q⟩ := h
  obtain ⟨u, rfl, rx⟩ := vals1 r
  cases hd with
  | non => cases rx; exact PySem.P.repr_of_none ⟨.str _, H, I.tok _, ⟨_, rfl⟩, by simpa [PyData.shown] using q⟩
  | bl b => cases rx; exact PySem.P.repr_of_bool ⟨.str _, H, I.tok _, ⟨_, rfl⟩, by simpa [PyData.shown] using q⟩
  | int i =>
    obtain ⟨t, rfl⟩ := rx
    have h1 : i.natAbs.log2 < 1920 := by simpa [PyData.showable] using hs
    exact PySem.P.repr_of_int h1 ⟨.str _, H, I.tok _, ⟨_, rfl⟩, by simpa [PyData.shown] using q⟩
  | str x =>
    obtain ⟨t, rfl⟩ := rx
    exact PySem.P.repr_of_str ⟨.str _, H, I.tok _, ⟨_, rfl⟩, by simpa [PyData.shown] using q⟩ (by simpa [PyData.shown] using hz)
  | lst h1 h2 =>
    cases rx
    obtain ⟨as, rd⟩ := Dp.reads I _ _ _ (.lst h1 h2) rfl
    exact repr_of_reads' rd hs (PyData.noDict_hsm hn) hg (by omega) (fun _ _ e => e) (fun h' u tk hk => ⟨.str _, H, I.kept hk, ⟨_, rfl⟩, q⟩) hz
  | tup h1 h2 =>
    cases rx
    obtain ⟨as, rd⟩ := Dp.reads I _ _ _ (.tup h1 h2) rfl
    exact repr_of_reads' rd hs (PyData.noDict_hsm hn) hg (by omega) (fun _ _ e => e) (fun h' u tk hk => ⟨.str _, H, I.kept hk, ⟨_, rfl⟩, q⟩) hz
def fRepr (ds : List D) (k : D → Prop) : Prop := match ds with
  | [d] => D.flat 64 d = true ∧ d.py.showable = true ∧ d.py.shown.length ≤ 1000000 ∧ k (.str d.py.shown)
  | _ => False
theorem cd_repr {K : PySem.W.Frag} : CalD K fRepr (rRepr K) := fun c H xs ds k Q hk r h q => by
  unfold fRepr at h
  split at h
  · cases r with
    | cons a t =>
      cases t
      obtain ⟨h1, h2, h3, h⟩ := h
      obtain ⟨b1, b2, b3⟩ := (a.mono (hid_sub _ _)).dp h1
      exact ⟨_, _, rfl, b1, h2, PyData.hasDict_of_canLay _ b2, b3, szL h3, q _ _ _ h (Ext.refl _ _) (.str _)⟩
  · exact h.elim
/-! ### a def f( *v) -/
section
variable {P : Program} {w : World} {K : PySem.W.Frag} {mg : Str → Option Value} {base : Heap}
def slD : List Sl → List D
  | [] => []
  | .val d :: ss => d :: slD ss
  | _ :: ss => .non :: slD ss
def allVal : List Sl → Bool
  | [] => true
  | .val _ :: ss => allVal ss
  | _ => false
theorem as_rs {c : Cf} {H : Hp} : ∀ {vs : List V} {ss : List Sl}, As K c H vs ss → allVal ss = true → Rs K (hid c.P H) vs (slD ss)
  | _, _, .nil, _ => .nil
  | _, _, .cons (s := s) h t, e => by
    cases s with
    | val d => exact .cons h (as_rs t e)
    | own d => cases e
    | bag => cases e
theorem fn_star_ok {x qual : Str} {st : Stmt} {f : Addr} {fd : FuncData} {N : List Str} {pv : Str} {k n : Nat} {T : DSp} {Tb : DTS} (F : Fun K x qual st f fd) (S : FnScope N [pv] (defScope st)) (hn : n ≤ 1000)
    (hbi : ∀ (kV doc pm : Value) (an : Option Addr) (cdv ct : Value) (us : List Value), us.length = n → bindArgs (PySem.W.fnOf x qual (defArgs st) (defBody st) (defScope st) .none kV doc pm an cdv ct) ⟨us, []⟩ = (newTuple us >>= fun t => pure [(pv, t)]))
    (body : ∀ (cdv : Value) (A : Around) (outer : List Env) (s : Shared) (H : Hp) (E : XK), (A.deeper (envOfC qual (defScope st) s.heap.objs.size f cdv)).guards = some [] → Room k (A.deeper (envOfC qual (defScope st) s.heap.objs.size f cdv)) →
      PDb (cxOf CX0 P w K mg base N qual (defScope st) f cdv A outer s H E).nox E0 (defBody st) Tb)
    (read : ∀ Ed ss Kd, ss.length = n → T Ed ss Kd → allVal ss = true ∧ Tb (endsOf Kd fun _ => False) (start0 N [.val (.tup (slD ss))])) : FnG P w K mg base CX0 (k + 1) f (spD K n T) := by
  intro A outer s H us vs Q E hg hr e0 r h
  obtain ⟨oc, od, kV, doc, pm, an, cdv, ct, osl, rfl, lk, hcd⟩ := F.ex
  have hl : vs.length = n := spD_len h
  have hul : us.length = n := by rw [← r.length]; exact hl
  have hz : vs.length ≤ sizeLine := by rw [hl]; exact Nat.le_trans hn (by decide)
  have hnw : H s.heap.objs.size = Option.none := e0.hok.fresh (Nat.le_refl _)
  refine StX.run_bnd lk hcd S hr e0 (G := fun xs H2 => ∃ p, H p = Option.none ∧ xs = [V.ref p] ∧ H2 = upd H p (.tup vs)) (fun A' Ex Q' hq => ?_) fun s2 H2 xs ⟨p, hp, e1, e2⟩ hr' => ?_
  · rw [hbi kV doc pm an cdv ct us hul]
    refine wpAny_bind (wpAny_newTuple (wpAny_pure ?_) (by rw [hul, ← hl]; exact hz))
    have nw : ObjOk P w (upd H s.heap.objs.size (.tup vs)) (s.heap.push ({ cls := .type "tuple", data := .seq us.toArray } : Obj)) s.heap.objs.size (.tup vs) := ⟨hz, us, r, ⟨_, Heap.get?_push_size _ rfl, rfl, _, rfl⟩⟩
    exact hq _ (upd H s.heap.objs.size (.tup vs)) [V.ref s.heap.objs.size] [Value.ref s.heap.objs.size] (StX.env0_laid e0 nw) (StX.un_laid hnw) rfl (fun _ _ z => z.elim) (.cons rfl .nil) rfl ⟨_, hnw, rfl, rfl⟩
  · subst e1 e2
    obtain ⟨c, ss, Kd, Ed, hF, hl2, ha, hk, hx, hT, q⟩ := h
    obtain ⟨hv, rd⟩ := read Ed ss Kd hl2 hT
    refine ⟨_, (body cdv A outer s2 _ E hg hr').nox, ?_⟩
    have x := Ext.new (o := HO.tup vs) hp hk.bag
    refine ⟨c, _, _, ⟨rep_start N (.cons (s := .val (.tup (slD ss))) (newTup hk hp (as_rs ha hv)) .nil), hk.ext x, fun _ _ _ _ z _ _ _ => False.elim z⟩, rd, body_end hF fun d v H' a b r => q d v H' a (x.trans b) r⟩
end
/-! ### the law's end -/
theorem hid0 (H : Hp) : hid (Cf.mk (fun _ => false) (fun _ => false) (fun _ => false)).P H = H := funext fun _ => rfl
theorem law_end {P : Program} {w : World} {K : PySem.W.Frag} {mg mb : Str → Option Value} {k : Nat} {fa a : Addr} {T : DSp} {s₁ : Shared} {vs : List Value} {ns : List Int}
    (KX : K.In s₁.heap) (hns : s₁.heap.Ns mainGlobals mg) (hb : s₁.heap.Ns builtinsNs mb) (hbb : ∀ x : Str, x ≠ "__name__" → mb x = bootBuiltins x) (hlim : s₁.heap.NoLimit) (hg : s₁.gens = #[])
    (ha : s₁.heap.get? a = some { cls := .type "list", data := .seq vs.toArray }) (hi : IntsAre vs ns) (hl : ns.length ≤ sizeLine) (hr : Room k callerA)
    (F : ∀ base : Heap, K.In base → base.Ns mainGlobals mg → FnG P w K mg base CX0 k fa (spD K 1 T)) (hT : T noE [.val (.scr ns)] fun d => d = .bl true) :
    codeAny (model P w) callerA (.call (.ref fa) ⟨[.ref a], []⟩) (fun r s' => r = .ok (.ret (.bool true)) ∧ OldK s₁.heap s'.heap ∧ s'.os = s₁.os ∧ AllBare s'.gens) s₁ := by
  have lv := hi.length
  have key : ∀ H : Hp, Only H → SqL K H a (ns.map V.int) → HOk P w H s₁.heap → (∀ c, H c ≠ none → c = a ∧ K.lookup a = none) →
      codeAny (model P w) callerA (.call (.ref fa) ⟨[.ref a], []⟩) (fun r s' => r = .ok (.ret (.bool true)) ∧ OldK s₁.heap s'.heap ∧ s'.os = s₁.os ∧ AllBare s'.gens) s₁ := by
    intro H only sq ok just
    have off : ∀ {c : Addr}, c ≠ a → H c = none := fun {c} ne => by
      cases z : H c with
      | none => rfl
      | some u => exact absurd (just c (by rw [z]; simp)).1 ne
    have dicts : ∀ {c : Addr} {o : Obj} {es : Array DictEntry} {ep : Nat}, s₁.heap.get? c = some o → o.data = .dict es ep → c ≠ a := fun e d z => by
      subst z
      rw [ha] at e
      cases e
      cases (show Data.seq vs.toArray _ = Data.dict _ _ from d)
    have nsK : ∀ {c : Addr} {m : Str → Option Value}, s₁.heap.Ns c m → (L2.hidT s₁.heap H).Ns c m := fun ⟨o, es, ep, e, d, r⟩ => ⟨o, es, ep, hidT_get e (off (dicts e d)), d, r⟩
    have inK : K.In (L2.hidT s₁.heap H) := fun c o e => hidT_get (KX c o e) (by
      cases z : H c with
      | none => rfl
      | some u =>
        obtain ⟨z1, z2⟩ := just c (by rw [z]; simp)
        rw [z1, z2] at e
        cases e)
    have md : Mod K mg (L2.hidT s₁.heap H) := ⟨inK, nsK hns, ⟨mb, nsK hb, hbb⟩, let ⟨mc, x, y⟩ := hlim; ⟨mc, nsK x, y⟩⟩
    have e0 : Env0 P w K mg (L2.hidT s₁.heap H) callerA [] s₁ H := ⟨rfl, md, fun _ _ e => of_hidT e, Nat.le_of_eq (hidT_size _ _), trivial, fun _ z => (by cases z), ok, .of_eq hg⟩
    have promise : spD K 1 T [.ref a] H (fun v _ => v = .bl true) E0 :=
      ⟨⟨fun _ => false, fun _ => false, fun _ => false⟩, [.val (.scr ns)], fun d => d = .bl true, noE, fun _ => rfl, rfl, .cons (show R K (hid _ H) (.ref a) (.scr ns) by rw [hid0]; exact .scr sq) .nil,
        ⟨fun _ z => (by cases z), fun _ z => (by cases z), fun _ z => (by cases z), fun _ z => (by cases z)⟩, fun _ _ _ _ z _ _ _ => z.elim, hT, fun d v H' e _ r => by
          subst e
          cases r
          rfl⟩
    refine codeAny_mono (F _ inK (nsK hns) callerA [] s₁ H [.ref a] [.ref a] _ _ rfl hr e0 (.cons rfl .nil) promise) fun res s' z => ?_
    match res, z with
    | .error e, z => exact z.elim
    | .ok .next, z => exact False.elim z
    | .ok .brk, z => exact False.elim z
    | .ok .cont, z => exact False.elim z
    | .ok (.ret u), z =>
      obtain ⟨v, H', os, bare, un, ok', r', q⟩ := z
      have q' : v = .bl true := q
      subst q'
      cases (show u = Value.bool true from r')
      refine ⟨rfl, OldK.of_keep fun c o e => ?_, os, bare⟩
      rcases only c with z | ⟨ob, xs, z⟩
      · exact un.keep c o e z (fun y => by cases y) (fun y => by cases y)
      · have e1 := (ok c _ z).1
        have e2 := (ok' c _ (un.frzs c ob _ z)).1
        rw [e] at e1
        cases e1
        exact e2
  have rv := vals_ints hi
  cases hk : K.lookup a with
  | some o =>
    have e := KX a o hk
    rw [ha] at e
    cases e
    exact key (fun _ => none) (fun _ => .inl rfl) (.inr ⟨_, vs.toArray, _, hk, rfl, rfl, rfl, by rw [List.size_toArray, lv]; exact hl, by simpa using rv⟩) (fun _ _ z => (by cases z)) fun _ z => absurd rfl z
  | none =>
    have at_ : ∀ {c : Addr} {u : HO}, (if c = a then some (HO.frz { cls := .type "list", data := .seq vs.toArray } (.lst (ns.map V.int))) else none) = some u → c = a ∧ u = .frz { cls := .type "list", data := .seq vs.toArray } (.lst (ns.map V.int)) := fun {c u} z => by
      by_cases hc : c = a
      · rw [if_pos hc] at z
        exact ⟨hc, (Option.some.inj z).symm⟩
      · rw [if_neg hc] at z
        cases z
    refine key (fun c => if c = a then some (.frz { cls := .type "list", data := .seq vs.toArray } (.lst (ns.map V.int))) else none) (fun c => ?_) (.inl (.inr ⟨_, if_pos rfl⟩)) (fun c u z => ?_) fun c z => ⟨?_, hk⟩
    · by_cases hc : c = a
      · exact .inr ⟨_, _, if_pos hc⟩
      · exact .inl (if_neg hc)
    · obtain ⟨z1, z2⟩ := at_ z
      subst z1 z2
      exact ⟨ha, by rw [List.length_map]; exact hl, vs, _, rv, ha⟩
    · by_cases hc : c = a
      · exact hc
      · exact absurd (if_neg hc) z
theorem walk {l : PySem.W.OpenLaw} {n k : Nat} {q : Program} {loose : List Str} {XP : (Str → Option Value) → Heap → Prop} {YP : World → Heap → Prop} {d : DefRec} {K : Params → PySem.W.Frag} {T : DSp}
    (hn : l.most = some n) (hn2 : n ≤ sizeLine) (hdf : d.params.defaults = []) (hr : Room k callerA) (hY : ∀ (w : World) (h : Heap), YP w h → (K w.params).In h)
    (F : ∀ (w : World) (mg : Str → Option Value) (fa : Addr) (h : Heap), (K w.params).In h → h.Ns mainGlobals mg → mg d.name = some (.ref fa) →
      ∀ base : Heap, (K w.params).In base → base.Ns mainGlobals mg → FnG l.prog w (K w.params) mg base CX0 k fa (spD (K w.params) 1 T))
    (hT : ∀ ns : List Int, ns.length ≤ n → T noE [.val (.scr ns)] fun d => d = .bl true) :
    PySem.W.WalkO q loose XP YP l.row.toRowW d [] (fun f vs => PySem.call f vs) := by
  refine Att.attach_call hn hdf fun w s₀ s₁ mg mb fa o pm cd doc a vs ns G Y ho hd hcd hmg hobj hints hlen hg => ?_
  exact law_end (hY w _ Y) G.T.g G.T.b G.T.builtins G.T.nolimit hg hobj hints (Nat.le_trans hlen hn2) hr (F w mg fa _ (hY w _ Y) G.T.g hmg) (hT ns hlen)

/-! ### the bag of draws -/
section
variable {X : Cx} {EX : XK} {e : Expr} {T : DTE} {pos p2 p3 pos' : Pos} {x : Str}
/-- bag[k], k written: some int -/
def dBag (i k : Nat) : DTE := fun _ ρ K => match ρ[i]? with
  | some (some .bag) => k < 3 ∧ ∀ n : Int, K (.int n)
  | _ => False
theorem bag_at (a b c : Int) (k : Nat) (h : k < 3) : ∃ n : Int, atI [V.int a, V.int b, V.int c] (k : Int) = some (.int n) := by
  match k, h with
  | 0, _ => exact ⟨a, rfl⟩
  | 1, _ => exact ⟨b, rfl⟩
  | 2, _ => exact ⟨c, rfl⟩
theorem d_bag (i k : Nat) {j : Nat} (hN : X.N[i]? = some x := by rfl) (hv : Vis X.env.scope x := by first | exact Or.inl rfl | exact Or.inr (Or.inl rfl) | exact Or.inr (Or.inr rfl)) (hd : (x == ("__debug__" : Str)) = false := by decide) (hcd : (x == ("__classdict__" : Str)) = false := by decide) :
    PDe X EX (.Subscript (.Name x p2) (.Constant (.int (k : Int)) j p3) pos) (dBag i k) := peW (pe_ix ix_list (pe_var hN hv hd hcd) pe_int (fun _ _ => rfl)) fun σ H Q h => by
  obtain ⟨c, ρ, Kd, Ed, s, h, q⟩ := h
  unfold dBag at h
  split at h
  · rename_i eb
    obtain ⟨a, e1, hB⟩ := s.r.bag i eb
    obtain ⟨x1, y1, z1, hH⟩ := s.k.bag a hB
    obtain ⟨n, hn⟩ := bag_at x1 y1 z1 k h.1
    exact ⟨_, e1, _, _, _, _, rfl, rfl, SqL.of hH, hn, q _ _ H (h.2 n) (Ext.refl _ _) (.int _)⟩
  · exact h.elim
/-- bag[k] = an int -/
def sBag (i k : Nat) (T : DTE) : DTS := fun E ρ => T E.ex ρ fun d => match d, ρ[i]? with
  | .int _, some (some .bag) => k < 3 ∧ E.nx ρ
  | _, _ => False
theorem bag_set (a b c n : Int) (k : Nat) (h : k < 3) : ∃ x y z : Int, ([V.int a, V.int b, V.int c] : List V).set k (.int n) = [.int x, .int y, .int z] := by
  match k, h with
  | 0, _ => exact ⟨n, b, c, rfl⟩
  | 1, _ => exact ⟨a, n, c, rfl⟩
  | 2, _ => exact ⟨a, b, n, rfl⟩
theorem s_bag (i k : Nat) {j : Nat} (he : PDe X EX e T) (hN : X.N[i]? = some x := by rfl) (hv : Vis X.env.scope x := by first | exact Or.inl rfl | exact Or.inr (Or.inl rfl) | exact Or.inr (Or.inr rfl)) (hd : (x == ("__debug__" : Str)) = false := by decide) (hcd : (x == ("__classdict__" : Str)) = false := by decide)
    (hs : swapsWithSole [.Subscript (.Name x p2) (.Constant (.int (k : Int)) j p3) pos'] e pos.line X.env = pure false := by rfl) (hw : swappedStores [.Subscript (.Name x p2) (.Constant (.int (k : Int)) j p3) pos'] e X.env = pure none := by rfl)
    (h1 : (assignEach [.Subscript (.Name x p2) (.Constant (.int (k : Int)) j p3) pos'] X.env).map (·.2) = [assign (.Subscript (.Name x p2) (.Constant (.int (k : Int)) j p3) pos') X.env] := by rfl)
    (ha : ∀ v, assign (.Subscript (.Name x p2) (.Constant (.int (k : Int)) j p3) pos') X.env v = (do
      let ov ← holding [v] (eval (.Name x p2) X.env)
      let iv ← holding [v, ov] (eval (.Constant (.int (k : Int)) j p3) X.env)
      standAt pos'
      holding [v, ov, iv] (setItem ov iv v)
      release [v, ov, iv] []) := by intro _; rfl) :
    PDs X EX (.Assign [.Subscript (.Name x p2) (.Constant (.int (k : Int)) j p3) pos'] e pos) (sBag i k T) := psW (ps_asg he (pg_sub (pe_var hN hv hd hcd) pe_int set_list ha) hs hw h1) fun D0 σ H h => by
  obtain ⟨c, ρ, E, s, h, q⟩ := h
  refine ⟨c, ρ, _, _, s, h, fun d v H1 k1 e1 r => ?_⟩
  have s1 := s.ext e1
  split at k1
  · rename_i n eb
    cases r
    obtain ⟨a, ea, hB⟩ := s1.r.bag i eb
    obtain ⟨x1, y1, z1, hH⟩ := s1.k.bag a hB
    obtain ⟨x2, y2, z2, hs2⟩ := bag_set x1 y1 z1 n k k1.1
    have hO := s1.k.bo a hB
    refine ⟨_, ea, a, _, (k : Int), k, rfl, rfl, hH, Evl.ixN_nat (by simpa using k1.1), ?_⟩
    rw [hs2]
    have hk2 : Hk c (upd H1 a (.lst [.int x2, .int y2, .int z2])) := by
      refine ⟨s1.k.bo, fun b hb => ?_, fun b hb => ?_, s1.k.fo⟩
      · by_cases e : b = a
        · rw [e]; exact ⟨x2, y2, z2, upd_same⟩
        · obtain ⟨x3, y3, z3, h3⟩ := s1.k.bag b hb
          exact ⟨x3, y3, z3, by rw [upd_ne e]; exact h3⟩
      · by_cases e : b = a
        · rw [e]; exact ⟨_, upd_same⟩
        · rw [upd_ne e]; exact s1.k.al b hb
    have ex : Ext c.B H1 (upd H1 a (.lst [.int x2, .int y2, .int z2])) := by
      refine ⟨fun b o hb hh => ?_, fun _ => hk2.bag, fun b o hh => ?_⟩
      · rw [upd_ne]
        · exact hh
        · intro z
          rw [z, hB] at hb
          cases hb
      · by_cases e : b = a
        · rw [e]; exact ⟨_, upd_same⟩
        · rw [upd_ne e]; exact ⟨o, hh⟩
    exact q.nx c ρ σ _ k1.2 (.of (e1.trans ex)) (s1.r.ext s1.k ex) hk2
  · exact k1.elim
end
/-! ### a new list handed back; a new bag -/
section
variable {X : Cx} {EX : XK} {e : Expr} {es : List Expr} {T : DTE} {Tv : DTV} {pos p : Pos} {x : Str}
def sRetL (Tv : DTV) : DTS := fun E ρ => Tv E.ex ρ fun ds => ds.length ≤ 1000000 ∧ E.rn ds
theorem s_retL (h : PDv X EX es Tv) : PDs X EX (.Return (some (.List es pos)) p) (sRetL Tv) := psW (L2.ps_ret (pe_lst h)) fun D0 σ H h => by
  obtain ⟨c, ρ, E, s, h, q⟩ := h
  refine ⟨c, ρ, _, _, s, h, fun ds vs H1 k e r => ⟨by rw [r.length]; exact szL k.1, fun a ha => ?_⟩⟩
  have s1 := s.ext e
  have k1 := s1.k
  have x := Ext.new (o := HO.lst vs) ha k1.bag
  exact q.rn c ds a vs _ k.2 (.of (e.trans x)) (k1.ext x) (al_back e.al ha) (k1.fresh ha) upd_same (r.mono (sub_with k1 ha fun b o hb hh => x.keep b o (k1.nob hb) hh))
/-- x = f(..), f hands back a new list of three ints: a bag from now on -/
def sBagCall (i n : Nat) (T : DSn) (Ta : DTA) : DTS := fun E ρ => Ta E.ex ρ fun ss => ss.length = n ∧ T E.ex ss fun ds => match ds with
  | [.int _, .int _, .int _] => i < ρ.length ∧ E.nx (ρ.set i (some .bag))
  | _ => False
theorem s_bagCall (i : Nat) {CX : CXT} {k n : Nat} {f : Str} {T : DSn} {Ta : DTA} {pos' : Pos} (F : CalleeN X.prog X.w X.K X.mg X.base CX k f n T) (hgu : X.A.guards = some []) (hr : Room k X.A) (hx : Passes CX X EX) (hN : X.N.Nodup) (ha : PDa X EX (e :: es) Ta) (hg : Gl X f := by rfl)
    (hdb : (f == ("__debug__" : Str)) = false := by decide) (he : starEach (e :: es) X.env = (false, eval e X.env) :: starEach es X.env := by rfl) (hpl : (backTo pos (starEach es X.env)).any (·.1) = false := by rfl)
    (hi : X.N[i]? = some x := by rfl) (hxl : Loc X.env.scope x := by first | exact .inl rfl | exact .inr rfl) {spos : Pos} (hs : swapsWith (.Call (.Name f p) (e :: es) [] pos) (some (.Name x pos')) spos.line X.env = pure false := by rfl) (hf : X.fn x = true ∨ X.env.scope.names.lookup x = some .local := by first | exact .inl rfl | exact .inr rfl | assumption) :
    PDs X EX (.Assign [.Name x pos'] (.Call (.Name f p) (e :: es) [] pos) spos) (sBagCall i n T Ta) := by
  obtain ⟨fa, hm, hk, F⟩ := F
  have call : PE X (.Call (.Name f p) (e :: es) [] pos) (fun σ H Q => tA X.K EX Ta σ H fun vs H1 => spN X.K n T vs H1 Q EX) :=
    ⟨fun pins s σ H Q I h => wpAny_Call_Name_kw (ld_glob I hg hm (PySem.W.callWith_K (h₀ := X.base) I.ok.mod.kin hk (thn (ha.run pos pins s σ H _ I h) fun us s1 ⟨vs, H1, I1, r, q⟩ => ⟨I1.kIn, run_g F hgu hr hx I1 r q⟩) he hpl) hdb)⟩
  refine psW (ps_set hN hi hxl call hs hf) fun D0 σ H h => ?_
  obtain ⟨c, ρ, E, s, h, q⟩ := h
  refine ⟨c, ρ, _, _, s, h, fun ss vs H1 k e r => ?_⟩
  have s1 := s.ext e
  refine ⟨c.cal, ss, _, E.ex, fun _ => rfl, k.1, r.cal, s1.k.cal, s1.x.cal s1.k, k.2, fun ds a xs H2 kd e2 hn hl r2 => ?_⟩
  split at kd
  · rename_i x1 y1 z1
    have s2 := s1.ext e2
    have hnP : c.P a = false := s1.k.fresh hn
    have e3 : xs = [.int x1, .int y1, .int z1] := by
      cases r2 with
      | cons a1 t1 =>
        cases a1
        cases t1 with
        | cons a2 t2 =>
          cases a2
          cases t2 with
          | cons a3 t3 =>
            cases a3
            cases t3
            rfl
    subst e3
    have c' : ∃ c' : Cf, c' = ⟨fun b => c.O b || decide (b = a), c.F, fun b => c.B b || decide (b = a)⟩ := ⟨_, rfl⟩
    obtain ⟨c', hc'⟩ := c'
    have hP : c'.P = fun b => c.P b || decide (b = a) := by
      rw [hc']
      funext b
      show ((c.O b || decide (b = a)) || c.F b) = ((c.O b || c.F b) || decide (b = a))
      cases c.O b <;> cases c.F b <;> cases decide (b = a) <;> rfl
    have hFa : c.F a = false := by
      have z : (c.O a || c.F a) = false := hnP
      exact (Bool.or_eq_false_iff.mp z).2
    have or_a : ∀ {g : Addr → Bool} {b : Addr}, (g b || decide (b = a)) = true → g b = true ∨ b = a := fun h => (Bool.or_eq_true_iff.mp h).imp id of_decide_eq_true
    have st : Step c c' H1 H2 := by
      subst hc'
      refine ⟨fun b h => by simp [h], fun b h => (or_a h).imp id fun z => by rw [z]; exact hn, fun b h => by simp [h], fun b h => (or_a h).imp id fun z => by rw [z]; exact hn, fun b h => .inl h, fun b o hb _ hh => e2.keep b o hb hh, e2.al⟩
    have hk' : Hk c' H2 := by
      subst hc'
      refine ⟨fun b h => ?_, fun b h => ?_, fun b h => ?_, fun b h => ?_⟩
      · rcases or_a h with h | h
        · simp [s2.k.bo b h]
        · simp [h]
      · rcases or_a h with h | h
        · exact s2.k.bag b h
        · rw [h]; exact ⟨_, _, _, hl⟩
      · rw [hP] at h
        rcases or_a (g := c.P) h with h | h
        · exact s2.k.al b h
        · rw [h]; exact ⟨_, hl⟩
      · have z := s2.k.fo b h
        have hne : b ≠ a := fun w => by
          rw [w, hFa] at h
          cases h
        simp [z, hne]
    -- data of before the call stands apart from the new bag
    have rep : Rep X.K c' H2 (σ.set i (some (.ref a))) (ρ.set i (some .bag)) := by
      have sub1 : Sub (hid c.P H1) (hid c'.P H2) := st.sub s1.k
      have r1 := s1.r
      refine ⟨by simpa using r1.le, fun j d hj => ?_, fun j d hj => ?_, fun j hj => ?_, fun j l d d' b hj hl2 h1 h2 => ?_⟩
      · rcases set_cases hj with ⟨rfl, hl2, q⟩ | ⟨ne, q⟩
        · cases q
        · rw [List.getElem?_set_ne ne]
          obtain ⟨v, g1, g2⟩ := r1.val j d q
          exact ⟨v, g1, g2.mono sub1⟩
      · rcases set_cases hj with ⟨rfl, hl2, q⟩ | ⟨ne, q⟩
        · cases q
        · rw [List.getElem?_set_ne ne]
          obtain ⟨b, g1, g2, g3⟩ := r1.own j d q
          have nb : c.B b = false := by
            cases z : c.B b with
            | false => rfl
            | true =>
              have w := s1.k.bo b z
              rw [s1.k.fo b g2] at w
              cases w
          refine ⟨b, g1, by rw [hc']; exact g2, ?_⟩
          cases d <;> first
            | exact g3.elim
            | (obtain ⟨xs, g4, g5⟩ := g3; exact ⟨xs, e2.keep b _ nb g4, g5.mono sub1⟩)
      · rcases set_cases hj with ⟨rfl, hl2, q⟩ | ⟨ne, q⟩
        · exact ⟨a, List.getElem?_set_self (Nat.lt_of_lt_of_le hl2 r1.le), by rw [hc']; simp⟩
        · rw [List.getElem?_set_ne ne]
          obtain ⟨b, g1, g2⟩ := r1.bag j q
          exact ⟨b, g1, by rw [hc']; simp [g2]⟩
      · rcases set_cases hj with ⟨rfl, _, q⟩ | ⟨ne, q⟩
        · cases q
        · rcases set_cases hl2 with ⟨rfl, _, q'⟩ | ⟨ne', q'⟩
          · cases q'
          · rw [List.getElem?_set_ne ne] at h1
            rw [List.getElem?_set_ne ne'] at h2
            exact r1.sep j l d d' b q q' h1 h2
    exact q.nx c' _ _ H2 kd.2 ((Step.of e).trans st) rep hk'
  · exact kd.elim
end
/-! ### built-ins where they stand -/
theorem room_u {A : Around} {k : Nat} (hr : Room k A) : A.units + 70 < cLine := by
  have := hr.un
  omega
theorem bt_len : bootBuiltins "len" = some (.builtin "len") := by decide +kernel
theorem bt_abs : bootBuiltins "abs" = some (.builtin "abs") := by decide +kernel
theorem bt_sum : bootBuiltins "sum" = some (.builtin "sum") := by decide +kernel
theorem bt_all : bootBuiltins "all" = some (.builtin "all") := by decide +kernel
theorem bt_any : bootBuiltins "any" = some (.builtin "any") := by decide +kernel
theorem bt_repr : bootBuiltins "repr" = some (.builtin "repr") := by decide +kernel
theorem bt_max : bootBuiltins "max" = some (.builtin "max") := by decide +kernel
theorem bt_min : bootBuiltins "min" = some (.builtin "min") := by decide +kernel
theorem bt_sorted : bootBuiltins "sorted" = some (.builtin "sorted") := by decide +kernel
theorem bt_int : bootBuiltins "int" = some (.type "int") := by decide +kernel
theorem bt_bool : bootBuiltins "bool" = some (.type "bool") := by decide +kernel
theorem bt_str : bootBuiltins "str" = some (.type "str") := by decide +kernel
theorem bt_tuple : bootBuiltins "tuple" = some (.type "tuple") := by decide +kernel
theorem bt_list : bootBuiltins "list" = some (.type "list") := by decide +kernel
theorem bt_dict : bootBuiltins "dict" = some (.type "dict") := by decide +kernel

theorem at0 {α : Type} (x : α) (xs : List α) : atI (x :: xs) 0 = some x := atI_nat (xs := x :: xs) (j := 0) rfl
theorem at1 {α : Type} (x y : α) (xs : List α) : atI (x :: y :: xs) 1 = some y := atI_nat (xs := x :: y :: xs) (j := 1) rfl
theorem at2 {α : Type} (x y z : α) (xs : List α) : atI (x :: y :: z :: xs) 2 = some z := atI_nat (xs := x :: y :: z :: xs) (j := 2) rfl
local macro_rules | `(tactic| walk_at "pd") => `(tactic| simp only [sSeq, sAsg, sPar, sRet, sRetN, sDrop, sPass, sIf, sRetL, sBag, sBagCall, gN, gT, gsC, gsN, dVar, xVar, xVal, dC, dOp, dNeg, dTest, dTru, dAnd, dOr, dNot, dAndV, dOrV, dNotV, dIf, dChain, vNil, vCons, aNil, aCons, dTup, dLst, dDic0, dCB, dCall, dIsi, dSl, oNone, oSome, dBag,
  fAdd, fSub, fInt2, fCmp, fEq, fNe, fIn, fIsN, fRep, fLen, fAbs, f2I, fInt, fGcd, fTuple, fList, fIx, iSeq, iR1, dLc, dYes, endsOf, endsN, start0, List.map, List.append, List.replicate, List.length, List.cons_append, List.nil_append, List.set, List.getElem?_cons_zero, List.getElem?_cons_succ, Nat.reduceSub, Nat.reduceAdd, List.length_cons, List.length_nil, Nat.sub_self,
  decide_eq_true_eq, decide_eq_false_iff_not, Bool.false_eq_true, reduceCtorEq, true_and, and_true, if_true, if_false, forall_const, false_implies, implies_true, true_implies, List.getElem?_nil, at0, at1, at2, sFor, wipeD, Bool.not_eq_true', Bool.not_eq_false', Bool.not_true, Bool.not_false])
local macro_rules | `(tactic| walk_at "go") => `(tactic| repeat' (first | rfl | assumption | (refine And.intro ?_ ?_) | (intro e; first | (exact absurd e (by decide)) | (cases e; done) | (exact absurd e (by omega)) | skip)))
theorem lcD_map {i : Nat} {Te : DTE} {ρ : Ev} {K : D → Prop} (f : D → D) : ∀ (ds acc : List D), (∀ d ∈ ds, ∀ k : D → Prop, k (f d) → Te noE (ρ.set i (some (.val d))) k) → K (.lst (acc ++ ds.map f)) → lcD (gN i) dYes Te ρ K ds acc
  | [], acc, _, h => by unfold lcD; simpa using h
  | d :: ds, acc, ht, h => ⟨fun _ => ht d List.mem_cons_self _ (lcD_map f ds (acc ++ [f d]) (fun e he => ht e (List.mem_cons_of_mem _ he)) (by simpa using h)), fun e => by cases e⟩
theorem lcD_bl {i : Nat} {Te : DTE} {ρ : Ev} {K : D → Prop} {g : List Bool → Bool} (p : D → Bool) (ds : List D) (h : ∀ d ∈ ds, ∀ k : D → Prop, k (.bl (p d)) → Te noE (ρ.set i (some (.val d))) k) (hk : K (.bl (g (ds.map p)))) :
    lcD (gN i) dYes Te ρ (fun d => fAllB g [d] K) ds [] := by
  refine lcD_map (fun d => .bl (p d)) ds [] h ?_
  have e : blsD (ds.map fun d => D.bl (p d)) = some (ds.map p) := by
    have := bls_map (ds.map p)
    rw [List.map_map] at this
    exact this
  show (match blsD (ds.map fun d => D.bl (p d)) with | some ns => K (.bl (g ns)) | none => False)
  rw [e]
  exact hk
/-! ### what the defs promise -/
def big : Int := 1000000000000000000000000000000000000000000000000000000000000
def isW : D → Bool
  | .int _ => true
  | _ => false
def isI : D → Bool
  | .int i => decide (-1000000000000000000000000000000000000000000000000000000000000 < i) && decide (i < 1000000000000000000000000000000000000000000000000000000000000)
  | _ => false
def sp_is_whole : DSp := fun _ ss K => match ss with
  | [.val d] => d.noScr = true ∧ K (.bl (isW d))
  | _ => False
def sp_is_integer : DSp := fun _ ss K => match ss with
  | [.val d] => d.noScr = true ∧ K (.bl (isI d))
  | _ => False
/-- the greatest common divisor of some ints -/
def gcdF (f : Int) (ns : List Int) : Int := ns.foldl (fun a n => (Nat.gcd a.natAbs n.natAbs : Nat)) f
def seqI (d : D) : Option (List Int) := match d with
  | .tup xs => intsD xs
  | .lst xs => intsD xs
  | _ => none
def sp_divisor_of : DSp := fun _ ss K => match ss with
  | [.val d] => (match seqI d with | some ns => K (.int (gcdF 0 ns)) | none => False)
  | _ => False
def sp_common_divisor : DSp := fun _ ss K => match ss with
  | [.val (.tup xs)] => (match intsD xs with | some ns => 1 ≤ xs.length ∧ xs.length ≤ 100 ∧ xs.all isI = true ∧ K (.int (gcdF 0 ns)) | none => False)
  | _ => False
/-- the ratio of two ints -/
def low (a b : Int) : Int × Int := let g : Int := if 0 < b then (Nat.gcd a.natAbs b.natAbs : Nat) else -(Nat.gcd a.natAbs b.natAbs : Nat)
  (a.fdiv g, b.fdiv g)
abbrev rat (p : Int × Int) : D := .tup [.int p.1, .int p.2]
def sp_lowest_of : DSp := fun _ ss K => match ss with
  | [.val (.int a), .val (.int b)] => b ≠ 0 ∧ b.natAbs < 2 ^ 8000 ∧ K (rat (low a b))
  | _ => False
def isR (d : D) : Bool := match d with
  | .tup [.int a, .int b] => isI (.int a) && isI (.int b) && decide (0 < b) && decide (Nat.gcd a.natAbs b.natAbs = 1)
  | _ => false
def okR (d : D) : Bool := d.noScr && (match d with | .tup xs => xs.all D.noScr && decide (xs.length ≤ 1000) | _ => true)
def sp_is_ratio : DSp := fun _ ss K => match ss with
  | [.val d] => okR d = true ∧ K (.bl (isR d))
  | _ => False
def sp_require_ratios : DSp := fun _ ss K => match ss with
  | [.val d, .val e] => isR d = true ∧ isR e = true ∧ K .non
  | _ => False
def sp_lowest : DSp := fun _ ss K => match ss with
  | [.val (.int a), .val (.int b)] => isI (.int a) = true ∧ isI (.int b) = true ∧ b ≠ 0 ∧ K (rat (low a b))
  | _ => False
def cmpI (x y : Int) : Int := (if y < x then 1 else 0) - (if x < y then 1 else 0)
def small (n : Nat) (a : Int) : Prop := a.natAbs < 2 ^ n
def sp_compared_of : DSp := fun _ ss K => match ss with
  | [.val (.tup [.int a, .int b]), .val (.tup [.int c, .int d])] => small 1000 a ∧ small 1000 b ∧ small 1000 c ∧ small 1000 d ∧ K (.int (cmpI (a * d) (c * b)))
  | _ => False
def sp_compare : DSp := fun _ ss K => match ss with
  | [.val (.tup [.int a, .int b]), .val (.tup [.int c, .int d])] => isR (rat (a, b)) = true ∧ isR (rat (c, d)) = true ∧ K (.int (cmpI (a * d) (c * b)))
  | _ => False
def sp_plus_of : DSp := fun _ ss K => match ss with
  | [.val (.tup [.int a, .int b]), .val (.tup [.int c, .int d])] => small 1000 a ∧ small 1000 b ∧ small 1000 c ∧ small 1000 d ∧ b ≠ 0 ∧ d ≠ 0 ∧ K (rat (low (a * d + c * b) (b * d)))
  | _ => False
def sp_plus : DSp := fun _ ss K => match ss with
  | [.val (.tup [.int a, .int b]), .val (.tup [.int c, .int d])] => isR (rat (a, b)) = true ∧ isR (rat (c, d)) = true ∧ K (rat (low (a * d + c * b) (b * d)))
  | _ => False
def sp_minus : DSp := fun _ ss K => match ss with
  | [.val (.tup [.int a, .int b]), .val (.tup [.int c, .int d])] => isR (rat (a, b)) = true ∧ isR (rat (c, d)) = true ∧ K (rat (low (a * d - c * b) (b * d)))
  | _ => False
def sp_times_of : DSp := fun _ ss K => match ss with
  | [.val (.tup [.int a, .int b]), .val (.tup [.int c, .int d])] => small 1000 a ∧ small 1000 b ∧ small 1000 c ∧ small 1000 d ∧ b ≠ 0 ∧ d ≠ 0 ∧ K (rat (low (a * c) (b * d)))
  | _ => False
def sp_times : DSp := fun _ ss K => match ss with
  | [.val (.tup [.int a, .int b]), .val (.tup [.int c, .int d])] => isR (rat (a, b)) = true ∧ isR (rat (c, d)) = true ∧ K (rat (low (a * c) (b * d)))
  | _ => False
/-! the law's own -/
def sp_l_bag : DSn := fun _ ss K => match ss with
  | [.val (.scr ns), .val (.int i)] => 0 ≤ i ∧ i < 1000 ∧ ∀ x y z : Int, K [.int x, .int y, .int z]
  | _ => False
def sp_l_grab : DSp := fun _ ss K => match ss with
  | [.bag, .val (.int n)] => 0 < n ∧ n < 2 ^ 2000 ∧ ∀ r, 0 ≤ r → r < n → K (.int r)
  | _ => False
def sp_l_one_of : DSp := fun _ ss K => match ss with
  | [.bag, .val (.lst ds)] => ds ≠ [] ∧ ds.length ≤ 1000000 ∧ ∀ d ∈ ds, K d
  | _ => False
def sp_l_divisor : DSp := fun _ ss K => match ss with
  | [.val d] => (match seqI d with | some ns => K (.int (gcdF 0 ns)) | none => False)
  | _ => False
def sp_l_whole : DSp := fun _ ss K => match ss with
  | [.bag, .val (.int h)] => 0 ≤ h ∧ h < 2 ^ 1000 ∧ ∀ r, -h ≤ r → r ≤ h → K (.int r)
  | _ => False
def sp_l_is_short : DSp := fun _ ss K => match ss with
  | [.val d] => d.noScr = true ∧ K (.bl (isI d))
  | _ => False
def sp_l_is_ratio : DSp := fun _ ss K => match ss with
  | [.val d] => okR d = true ∧ K (.bl (isR d))
  | _ => False
/-- a ratio of two numbers of at most twenty digits -/
structure Rt (p : Int × Int) : Prop where
  lo : -(10 ^ 20) ≤ p.1
  hi : p.1 ≤ 10 ^ 20
  pos : 0 < p.2
  le : p.2 ≤ 10 ^ 20
  co : Nat.gcd p.1.natAbs p.2.natAbs = 1
def sp_l_ratio : DSp := fun _ ss K => match ss with
  | [.bag] => ∀ p : Int × Int, Rt p → K (rat p)
  | _ => False
def sp_l_lowered_pair : DSp := fun _ ss K => match ss with
  | [.val (.int a), .val (.int b)] => small 1000 a ∧ small 1000 b ∧ b ≠ 0 ∧ K (rat (low a b))
  | _ => False
def sp_l_judged : DSp := fun _ ss K => match ss with
  | [.bag] => K (.bl true)
  | _ => False
def sp_l_reckoned : DSp := fun _ ss K => match ss with
  | [.bag] => K (.bl true)
  | _ => False
def sp_l_lowered : DSp := fun _ ss K => match ss with
  | [.bag] => K (.bl true)
  | _ => False
def sp_law : DSp := fun _ ss K => match ss with
  | [.val (.scr ns)] => ns.length ≤ 63 ∧ K (.bl true)
  | _ => False
/-! ### the bodies -/
def tb_is_whole : DTS := sRet (dAndV (dIsi "int" (dVar 0)) (dNotV (dIsi "bool" (dVar 0))))
def N_is_whole : List Str := ["value"]

def tb_is_integer : DTS := sRet (dAndV (dCall 1 sp_is_whole (aCons (xVar 0) (aNil))) (dChain (fCmp fun i j => decide (i < j)) (fCmp fun i j => decide (i < j)) (dNeg (dC (.int (1000000000000000000000000000000000000000000000000000000000000)))) (dVar 0) (dC (.int (1000000000000000000000000000000000000000000000000000000000000)))))
def N_is_integer : List Str := ["value"]

def tb_divisor_of : DTS := sSeq (sAsg (dC (.int 0)) (gN 1)) (sSeq (sFor (iSeq (dVar 0)) (gN 2) (sAsg (dCB fGcd (vCons (dVar 1) (vCons (dVar 2) (vNil)))) (gN 1))) (sRet (dVar 1)))
def N_divisor_of : List Str := ["numbers", "found", "number"]

def tb_common_divisor : DTS := sSeq (sIf (dOr (dNot (dTru (dIsi "tuple" (dVar 0)))) (dNot (dTest (dChain (fCmp fun i j => decide (i ≤ j)) (fCmp fun i j => decide (i ≤ j)) (dC (.int 1)) (dCB fLen (vCons (dVar 0) (vNil))) (dC (.int (100))))))) (sNever) (sPass)) (sSeq (sIf (dNot (dTru (dCB (fAllB fun bs => bs.all id) (vCons (dLc (iSeq (dVar 0)) (gN 1) (dYes) (dCall 1 sp_is_integer (aCons (xVar 1) (aNil))) [1]) (vNil))))) (sNever) (sPass)) (sRet (dCall 1 sp_divisor_of (aCons (xVar 0) (aNil)))))
def N_common_divisor : List Str := ["numbers", "number"]

def tb_lowest_of : DTS := sSeq (sAsg (dIf (dTest (dOp (fCmp fun i j => decide (j < i)) (dVar 1) (dC (.int 0)))) (dCB fGcd (vCons (dVar 0) (vCons (dVar 1) (vNil)))) (dNeg (dCB fGcd (vCons (dVar 0) (vCons (dVar 1) (vNil)))))) (gN 2)) (sRet (dTup (vCons (dOp (fInt2 DivOk Int.fdiv) (dVar 0) (dVar 2)) (vCons (dOp (fInt2 DivOk Int.fdiv) (dVar 1) (dVar 2)) (vNil)))))
def N_lowest_of : List Str := ["top", "bottom", "divisor"]

def tb_is_ratio : DTS := sSeq (sIf (dOr (dNot (dTru (dIsi "tuple" (dVar 0)))) (dOr (dTest (dOp fNe (dCB fLen (vCons (dVar 0) (vNil))) (dC (.int (2))))) (dNot (dTru (dCB (fAllB fun bs => bs.all id) (vCons (dLc (iSeq (dVar 0)) (gN 1) (dYes) (dCall 1 sp_is_integer (aCons (xVar 1) (aNil))) [1]) (vNil))))))) (sRet (dC (.bl false))) (sPass)) (sRet (dAndV (dOp (fCmp fun i j => decide (j < i)) (dOp fIx (dVar 0) (dC (.int 1))) (dC (.int 0))) (dOp fEq (dCB fGcd (vCons (dOp fIx (dVar 0) (dC (.int 0))) (vCons (dOp fIx (dVar 0) (dC (.int 1))) (vNil)))) (dC (.int 1)))))
def N_is_ratio : List Str := ["value", "number"]

def tb_require_ratios : DTS := sFor (iSeq (dVar 0)) (gN 1) (sIf (dNot (dTru (dCall 1 sp_is_ratio (aCons (xVar 1) (aNil))))) (sNever) (sPass))
def N_require_ratios : List Str := ["values", "value"]

def tb_lowest : DTS := sSeq (sIf (dNot (dTru (dCall 1 sp_is_integer (aCons (xVar 0) (aNil))))) (sNever) (sPass)) (sSeq (sIf (dOr (dNot (dTru (dCall 1 sp_is_integer (aCons (xVar 1) (aNil))))) (dTest (dOp fEq (dVar 1) (dC (.int 0))))) (sNever) (sPass)) (sRet (dCall 2 sp_lowest_of (aCons (xVar 0) (aCons (xVar 1) (aNil))))))
def N_lowest : List Str := ["top", "bottom"]

def tb_compared_of : DTS := sSeq (sPar 2 3 (dOp fRep (dOp fIx (dVar 0) (dC (.int 0))) (dOp fIx (dVar 1) (dC (.int 1)))) (dOp fRep (dOp fIx (dVar 1) (dC (.int 0))) (dOp fIx (dVar 0) (dC (.int 1))))) (sRet (dOp fSub (dCB fInt (vCons (dOp (fCmp fun i j => decide (j < i)) (dVar 2) (dVar 3)) (vNil))) (dCB fInt (vCons (dOp (fCmp fun i j => decide (i < j)) (dVar 2) (dVar 3)) (vNil)))))
def N_compared_of : List Str := ["one", "other", "left", "right"]

def tb_compare : DTS := sSeq (sDrop (dCall 2 sp_require_ratios (aCons (xVar 0) (aCons (xVar 1) (aNil))))) (sRet (dCall 2 sp_compared_of (aCons (xVar 0) (aCons (xVar 1) (aNil)))))
def N_compare : List Str := ["one", "other"]

def tb_plus_of : DTS := sRet (dCall 2 sp_lowest_of (aCons (xVal (dOp fAdd (dOp fRep (dOp fIx (dVar 0) (dC (.int 0))) (dOp fIx (dVar 1) (dC (.int 1)))) (dOp fRep (dOp fIx (dVar 1) (dC (.int 0))) (dOp fIx (dVar 0) (dC (.int 1)))))) (aCons (xVal (dOp fRep (dOp fIx (dVar 0) (dC (.int 1))) (dOp fIx (dVar 1) (dC (.int 1))))) (aNil))))
def N_plus_of : List Str := ["one", "other"]

def tb_plus : DTS := sSeq (sDrop (dCall 2 sp_require_ratios (aCons (xVar 0) (aCons (xVar 1) (aNil))))) (sRet (dCall 2 sp_plus_of (aCons (xVar 0) (aCons (xVar 1) (aNil)))))
def N_plus : List Str := ["one", "other"]

def tb_minus : DTS := sSeq (sDrop (dCall 2 sp_require_ratios (aCons (xVar 0) (aCons (xVar 1) (aNil))))) (sRet (dCall 2 sp_plus_of (aCons (xVar 0) (aCons (xVal (dTup (vCons (dNeg (dOp fIx (dVar 1) (dC (.int 0)))) (vCons (dOp fIx (dVar 1) (dC (.int 1))) (vNil))))) (aNil)))))
def N_minus : List Str := ["one", "other"]

def tb_times_of : DTS := sRet (dCall 2 sp_lowest_of (aCons (xVal (dOp fRep (dOp fIx (dVar 0) (dC (.int 0))) (dOp fIx (dVar 1) (dC (.int 0))))) (aCons (xVal (dOp fRep (dOp fIx (dVar 0) (dC (.int 1))) (dOp fIx (dVar 1) (dC (.int 1))))) (aNil))))
def N_times_of : List Str := ["one", "other"]

def tb_times : DTS := sSeq (sDrop (dCall 2 sp_require_ratios (aCons (xVar 0) (aCons (xVar 1) (aNil))))) (sRet (dCall 2 sp_times_of (aCons (xVar 0) (aCons (xVar 1) (aNil)))))
def N_times : List Str := ["one", "other"]

def tb_l_bag : DTS := sSeq (sAsg (dIf (dTest (dOp (fCmp fun i j => decide (i < j)) (dVar 1) (dCB fLen (vCons (dVar 0) (vNil))))) (dOp fIx (dVar 0) (dVar 1)) (dOp fAdd (dOp fAdd (dCB fSum (vCons (dSl (dVar 0) (oNone) (oSome (dC (.int 1)))) (vNil))) (dOp fRep (dC (.int 151)) (dVar 1))) (dC (.int 89)))) (gN 2)) (sSeq (sAsg (dOp (fInt2 (fun _ j => j ≠ 0) Int.fmod) (dCB fInt (vCons (dCB fAbs (vCons (dVar 2) (vNil))) (vNil))) (dOp (fInt2 PowOk fun i j => i ^ j.toNat) (dOp (fInt2 PowOk fun i j => i ^ j.toNat) (dC (.int 10)) (dC (.int 45))) (dC (.int 13)))) (gN 3)) (sSeq (sAsg (dOp fAdd (dOp fAdd (dOp fAdd (dOp fRep (dOp (fInt2 (fun _ j => j ≠ 0) Int.fmod) (dCB fInt (vCons (dVar 3) (vNil))) (dC (.int 2305843009213693723))) (dC (.int 1000457))) (dOp fRep (dC (.int 9029)) (dVar 1))) (dOp fRep (dC (.int 53)) (dCB fInt (vCons (dOp (fCmp fun i j => decide (i < j)) (dVar 2) (dC (.int 0))) (vNil))))) (dC (.int 37))) (gN 4)) (sRetL (vCons (dCB (f2I fun i j => if j > i then j else i) (vCons (dC (.int 0)) (vCons (dOp fSub (dVar 3) (dOp (fInt2 PowOk fun i j => i ^ j.toNat) (dC (.int 10)) (dC (.int 18)))) (vNil)))) (vCons (dOp (fInt2 (fun _ j => j ≠ 0) Int.fmod) (dCB fInt (vCons (dVar 4) (vNil))) (dC (.int 2305843009213693951))) (vCons (dC (.int 0)) (vNil)))))))
def N_l_bag : List Str := ["_law_script", "_law_spot", "_law_cell", "_law_great", "_law_mixed"]

def tb_l_grab : DTS := sSeq (sIf (dTest (dOp (fCmp fun i j => decide (j < i)) (dBag 0 0) (dC (.int 0)))) (sSeq (sAsg (dOp (fInt2 (fun _ j => j ≠ 0) Int.fmod) (dCB fInt (vCons (dBag 0 0) (vNil))) (dVar 1)) (gN 4)) (sSeq (sBag 0 0 (dOp (fInt2 DivOk Int.fdiv) (dBag 0 0) (dVar 1))) (sRet (dVar 4)))) (sPass)) (sSeq (sBag 0 2 (dOp fAdd (dBag 0 2) (dC (.int 1)))) (sSeq (sAsg (dOp (fInt2 (fun _ j => j ≠ 0) Int.fmod) (dCB fInt (vCons (dOp fAdd (dBag 0 1) (dOp fRep (dC (.int 1048637)) (dBag 0 2))) (vNil))) (dC (.int 2305843009213693951))) (gN 2)) (sSeq (sAsg (dOp fAdd (dOp fRep (dOp (fInt2 (fun _ j => j ≠ 0) Int.fmod) (dCB fInt (vCons (dOp fRep (dVar 2) (dVar 2)) (vNil))) (dC (.int 2305843009213693723))) (dVar 2)) (dOp fRep (dC (.int 8161)) (dBag 0 2))) (gN 3)) (sRet (dOp (fInt2 (fun _ j => j ≠ 0) Int.fmod) (dCB fInt (vCons (dOp (fInt2 DivOk Int.fdiv) (dOp (fInt2 (fun _ j => j ≠ 0) Int.fmod) (dCB fInt (vCons (dVar 3) (vNil))) (dC (.int 2305843009213693921))) (dC (.int 16384))) (vNil))) (dVar 1))))))
def N_l_grab : List Str := ["_law_bag_here", "_law_total", "_law_one", "_law_two", "_law_found"]

def tb_l_one_of : DTS := sRet (dOp fIx (dVar 1) (dCall 2 sp_l_grab (aCons (xVar 0) (aCons (xVal (dCB fLen (vCons (dVar 1) (vNil)))) (aNil)))))
def N_l_one_of : List Str := ["_law_bag_here", "_law_items"]

def tb_l_divisor : DTS := sSeq (sAsg (dC (.int 0)) (gN 1)) (sSeq (sFor (iSeq (dVar 0)) (gN 2) (sSeq (sAsg (dCB fAbs (vCons (dVar 2) (vNil))) (gN 3)) (sWhile (dTest (dOp (fCmp fun i j => decide (j < i)) (dVar 3) (dC (.int 0)))) (sPar 1 3 (dVar 3) (dOp (fInt2 (fun _ j => j ≠ 0) Int.fmod) (dVar 1) (dVar 3)))))) (sRet (dVar 1)))
def N_l_divisor : List Str := ["_law_numbers", "_law_found", "_law_number", "_law_other"]

def tb_l_whole : DTS := sRet (dOp fSub (dCall 2 sp_l_grab (aCons (xVar 0) (aCons (xVal (dOp fAdd (dOp fRep (dC (.int 2)) (dVar 1)) (dC (.int 1)))) (aNil)))) (dVar 1))
def N_l_whole : List Str := ["_law_bag_here", "_law_high"]

def tb_l_is_short : DTS := sRet (dAndV (dIsi "int" (dVar 0)) (dAndV (dNotV (dIsi "bool" (dVar 0))) (dOp (fCmp fun i j => decide (i < j)) (dCB fAbs (vCons (dVar 0) (vNil))) (dOp (fInt2 PowOk fun i j => i ^ j.toNat) (dC (.int 10)) (dC (.int 60))))))
def N_l_is_short : List Str := ["_law_value"]

def tb_l_is_ratio : DTS := sSeq (sIf (dOr (dNot (dTru (dIsi "tuple" (dVar 0)))) (dOr (dTest (dOp fNe (dCB fLen (vCons (dVar 0) (vNil))) (dC (.int 2)))) (dOr (dNot (dTru (dCall 1 sp_l_is_short (aCons (xVal (dOp fIx (dVar 0) (dC (.int 0)))) (aNil))))) (dNot (dTru (dCall 1 sp_l_is_short (aCons (xVal (dOp fIx (dVar 0) (dC (.int 1)))) (aNil)))))))) (sRet (dC (.bl false))) (sPass)) (sRet (dAndV (dOp (fCmp fun i j => decide (j < i)) (dOp fIx (dVar 0) (dC (.int 1))) (dC (.int 0))) (dOp fEq (dCall 1 sp_l_divisor (aCons (xVar 0) (aNil))) (dC (.int 1)))))
def N_l_is_ratio : List Str := ["_law_value"]

def tb_l_ratio : DTS := sSeq (sAsg (dCall 2 sp_l_one_of (aCons (xVar 0) (aCons (xVal (dLst (vCons (dC (.int 3)) (vCons (dC (.int 12)) (vCons (dC (.int 1000)) (vCons (dOp (fInt2 PowOk fun i j => i ^ j.toNat) (dC (.int 10)) (dC (.int 20))) (vNil))))))) (aNil)))) (gN 1)) (sSeq (sPar 3 4 (dCall 2 sp_l_whole (aCons (xVar 0) (aCons (xVar 1) (aNil)))) (dOp fAdd (dC (.int 1)) (dCall 2 sp_l_grab (aCons (xVar 0) (aCons (xVar 1) (aNil)))))) (sSeq (sAsg (dCall 1 sp_l_divisor (aCons (xVal (dTup (vCons (dVar 3) (vCons (dVar 4) (vNil))))) (aNil))) (gN 2)) (sRet (dTup (vCons (dOp (fInt2 DivOk Int.fdiv) (dVar 3) (dVar 2)) (vCons (dOp (fInt2 DivOk Int.fdiv) (dVar 4) (dVar 2)) (vNil)))))))
def N_l_ratio : List Str := ["_law_bag_here", "_law_high", "_law_share", "_law_top", "_law_bottom"]

def tb_l_lowered_pair : DTS := sSeq (sAsg (dOp fRep (dCall 1 sp_l_divisor (aCons (xVal (dTup (vCons (dVar 0) (vCons (dVar 1) (vNil))))) (aNil))) (dIf (dTest (dOp (fCmp fun i j => decide (j < i)) (dVar 1) (dC (.int 0)))) (dC (.int 1)) (dNeg (dC (.int 1))))) (gN 2)) (sRet (dTup (vCons (dOp (fInt2 DivOk Int.fdiv) (dVar 0) (dVar 2)) (vCons (dOp (fInt2 DivOk Int.fdiv) (dVar 1) (dVar 2)) (vNil)))))
def N_l_lowered_pair : List Str := ["_law_top", "_law_bottom", "_law_share"]

def tb_l_judged : DTS := sSeq (sAsg (dCall 1 sp_l_ratio (aCons (xVar 0) (aNil))) (gT 2 (gsC (gN 3) (gsC (gN 4) (gsN))))) (sSeq (sAsg (dLst (vCons (dVar 3) (vCons (dTup (vCons (dVar 3) (vCons (dVar 4) (vNil)))) (vCons (dTup (vCons (dVar 4) (vCons (dVar 3) (vNil)))) (vCons (dTup (vCons (dOp fRep (dC (.int 2)) (dVar 3)) (vCons (dOp fRep (dC (.int 2)) (dVar 4)) (vNil)))) (vCons (dTup (vCons (dNeg (dVar 3)) (vCons (dNeg (dVar 4)) (vNil)))) (vCons (dLst (vCons (dVar 3) (vCons (dVar 4) (vNil)))) (vCons (dTup (vCons (dVar 3) (vNil))) (vCons (dTup (vCons (dVar 3) (vCons (dVar 4) (vCons (dC (.int 1)) (vNil))))) (vNil)))))))))) (gN 1)) (sSeq (sAsg (dOp fAdd (dVar 1) (dLst (vCons (dC (.bl true)) (vCons (dC (.bl false)) (vCons (dC .non) (vCons (dC (.str "3")) (vCons (dTup (vCons (dC (.bl true)) (vCons (dC (.int 2)) (vNil)))) (vCons (dTup (vCons (dC (.int 1)) (vCons (dC (.bl true)) (vNil)))) (vCons (dTup (vCons (dC (.int 0)) (vCons (dC (.int 1)) (vNil)))) (vCons (dTup (vCons (dC (.int 0)) (vCons (dC (.int 2)) (vNil)))) (vCons (dTup (vCons (dC (.int 0)) (vCons (dC (.int 0)) (vNil)))) (vCons (dTup (vCons (dC (.int 1)) (vCons (dC (.int 0)) (vNil)))) (vCons (dDic0) (vCons (dTup (vNil)) (vCons (dOp (fInt2 PowOk fun i j => i ^ j.toNat) (dC (.int 10)) (dC (.int 60))) (vCons (dOp fSub (dOp (fInt2 PowOk fun i j => i ^ j.toNat) (dC (.int 10)) (dC (.int 60))) (dC (.int 1))) (vNil))))))))))))))))) (gN 1)) (sSeq (sAsg (dOp fAdd (dVar 1) (dLst (vCons (dOp fSub (dC (.int 1)) (dOp (fInt2 PowOk fun i j => i ^ j.toNat) (dC (.int 10)) (dC (.int 60)))) (vCons (dNeg (dOp (fInt2 PowOk fun i j => i ^ j.toNat) (dC (.int 10)) (dC (.int 60)))) (vCons (dTup (vCons (dOp (fInt2 PowOk fun i j => i ^ j.toNat) (dC (.int 10)) (dC (.int 60))) (vCons (dC (.int 7)) (vNil)))) (vCons (dTup (vCons (dC (.int 1)) (vCons (dOp (fInt2 PowOk fun i j => i ^ j.toNat) (dC (.int 10)) (dC (.int 60))) (vNil)))) (vCons (dTup (vCons (dOp fSub (dOp (fInt2 PowOk fun i j => i ^ j.toNat) (dC (.int 10)) (dC (.int 60))) (dC (.int 1))) (vCons (dC (.int 1)) (vNil)))) (vCons (dTup (vCons (dTup (vCons (dC (.int 1)) (vCons (dC (.int 2)) (vNil)))) (vCons (dC (.int 1)) (vNil)))) (vCons (dTup (vCons (dC (.str "1")) (vCons (dC (.int 2)) (vNil)))) (vCons (dTup (vCons (dC .non) (vCons (dC (.int 1)) (vNil)))) (vNil))))))))))) (gN 1)) (sSeq (sFor (iSeq (dVar 1)) (gN 2) (sIf (dTest (dOp fNe (dCB fRepr (vCons (dLst (vCons (dCall 1 sp_is_integer (aCons (xVar 2) (aNil))) (vCons (dCall 1 sp_is_ratio (aCons (xVar 2) (aNil))) (vNil)))) (vNil))) (dCB fRepr (vCons (dLst (vCons (dCall 1 sp_l_is_short (aCons (xVar 2) (aNil))) (vCons (dCall 1 sp_l_is_ratio (aCons (xVar 2) (aNil))) (vNil)))) (vNil))))) (sRet (dC (.bl false))) (sPass))) (sRet (dC (.bl true)))))))
def N_l_judged : List Str := ["_law_bag_here", "_law_values", "_law_value", "_law_top", "_law_bottom"]

def tb_l_reckoned : DTS := sSeq (sPar 3 4 (dCall 1 sp_l_ratio (aCons (xVar 0) (aNil))) (dCall 1 sp_l_ratio (aCons (xVar 0) (aNil)))) (sSeq (sIf (dTest (dOp fEq (dCall 2 sp_l_grab (aCons (xVar 0) (aCons (xVal (dC (.int 4))) (aNil)))) (dC (.int 0)))) (sAsg (dVar 3) (gN 4)) (sPass)) (sSeq (sAsg (dTup (vCons (dVar 3) (vCons (dVar 4) (vNil)))) (gT 2 (gsC (gT 2 (gsC (gN 5) (gsC (gN 6) (gsN)))) (gsC (gT 2 (gsC (gN 7) (gsC (gN 8) (gsN)))) (gsN))))) (sSeq (sAsg (dIf (dTest (dOp fEq (dOp fRep (dVar 5) (dVar 8)) (dOp fRep (dVar 7) (dVar 6)))) (dC (.int 0)) (dIf (dTest (dOp (fCmp fun i j => decide (j < i)) (dOp fRep (dVar 5) (dVar 8)) (dOp fRep (dVar 7) (dVar 6)))) (dC (.int 1)) (dNeg (dC (.int 1))))) (gN 1)) (sSeq (sIf (dOr (dTest (dOp fNe (dCB fRepr (vCons (dCall 2 sp_compare (aCons (xVar 3) (aCons (xVar 4) (aNil)))) (vNil))) (dCB fRepr (vCons (dVar 1) (vNil))))) (dTest (dOp fNe (dCall 2 sp_compare (aCons (xVar 4) (aCons (xVar 3) (aNil)))) (dNeg (dVar 1))))) (sRet (dC (.bl false))) (sPass)) (sSeq (sAsg (dLst (vCons (dCall 2 sp_plus (aCons (xVar 3) (aCons (xVar 4) (aNil)))) (vCons (dCall 2 sp_minus (aCons (xVar 3) (aCons (xVar 4) (aNil)))) (vCons (dCall 2 sp_times (aCons (xVar 3) (aCons (xVar 4) (aNil)))) (vNil))))) (gN 2)) (sSeq (sIf (dTest (dOp fNe (dVar 2) (dLst (vCons (dCall 2 sp_l_lowered_pair (aCons (xVal (dOp fAdd (dOp fRep (dVar 5) (dVar 8)) (dOp fRep (dVar 7) (dVar 6)))) (aCons (xVal (dOp fRep (dVar 6) (dVar 8))) (aNil)))) (vCons (dCall 2 sp_l_lowered_pair (aCons (xVal (dOp fSub (dOp fRep (dVar 5) (dVar 8)) (dOp fRep (dVar 7) (dVar 6)))) (aCons (xVal (dOp fRep (dVar 6) (dVar 8))) (aNil)))) (vCons (dCall 2 sp_l_lowered_pair (aCons (xVal (dOp fRep (dVar 5) (dVar 7))) (aCons (xVal (dOp fRep (dVar 6) (dVar 8))) (aNil)))) (vNil))))))) (sRet (dC (.bl false))) (sPass)) (sRet (dAndV (dOp fEq (dCall 2 sp_plus (aCons (xVal (dOp fIx (dVar 2) (dC (.int 1)))) (aCons (xVar 4) (aNil)))) (dVar 3)) (dAndV (dOp fEq (dCall 2 sp_minus (aCons (xVal (dOp fIx (dVar 2) (dC (.int 0)))) (aCons (xVar 3) (aNil)))) (dVar 4)) (dOp fEq (dCall 2 sp_compare (aCons (xVal (dOp fIx (dVar 2) (dC (.int 1)))) (aCons (xVal (dTup (vCons (dC (.int 0)) (vCons (dC (.int 1)) (vNil))))) (aNil)))) (dVar 1)))))))))))
def N_l_reckoned : List Str := ["_law_bag_here", "_law_due", "_law_told", "_law_one", "_law_other", "_law_a", "_law_b", "_law_c", "_law_d"]

def tb_l_lowered : DTS := sSeq (sAsg (dCall 2 sp_l_one_of (aCons (xVar 0) (aCons (xVal (dLst (vCons (dC (.int 5)) (vCons (dC (.int 60)) (vCons (dOp (fInt2 PowOk fun i j => i ^ j.toNat) (dC (.int 10)) (dC (.int 25))) (vNil)))))) (aNil)))) (gN 1)) (sSeq (sAsg (dCall 2 sp_l_one_of (aCons (xVar 0) (aCons (xVal (dLst (vCons (dC (.int 1)) (vCons (dC (.int 1)) (vCons (dC (.int 2)) (vCons (dC (.int 6)) (vCons (dOp (fInt2 PowOk fun i j => i ^ j.toNat) (dC (.int 10)) (dC (.int 30))) (vNil)))))))) (aNil)))) (gN 2)) (sSeq (sAsg (dCB fTuple (vCons (dLc (iR1 (dCall 2 sp_l_one_of (aCons (xVar 0) (aCons (xVal (dLst (vCons (dC (.int 1)) (vCons (dC (.int 2)) (vCons (dC (.int 3)) (vCons (dC (.int 5)) (vCons (dC (.int 100)) (vNil)))))))) (aNil))))) (gN 6) (dYes) (dOp fRep (dVar 2) (dCall 2 sp_l_whole (aCons (xVar 0) (aCons (xVar 1) (aNil))))) [6]) (vNil))) (gN 3)) (sSeq (sIf (dOr (dTest (dOp fNe (dCall 1 sp_common_divisor (aCons (xVar 3) (aNil))) (dCall 1 sp_l_divisor (aCons (xVar 3) (aNil))))) (dTest (dOp fNe (dCall 1 sp_common_divisor (aCons (xVal (dOp fAdd (dVar 3) (dOp fRep (dTup (vCons (dC (.int 0)) (vNil))) (dOp fSub (dC (.int 100)) (dCB fLen (vCons (dVar 3) (vNil))))))) (aNil))) (dCall 1 sp_l_divisor (aCons (xVar 3) (aNil)))))) (sRet (dC (.bl false))) (sPass)) (sSeq (sPar 4 5 (dOp fRep (dVar 2) (dCall 2 sp_l_whole (aCons (xVar 0) (aCons (xVar 1) (aNil))))) (dOp fRep (dOp fRep (dVar 2) (dOp fAdd (dC (.int 1)) (dCall 2 sp_l_grab (aCons (xVar 0) (aCons (xVar 1) (aNil)))))) (dCall 2 sp_l_one_of (aCons (xVar 0) (aCons (xVal (dLst (vCons (dC (.int 1)) (vCons (dNeg (dC (.int 1))) (vNil))))) (aNil)))))) (sRet (dAndV (dOp fEq (dCall 2 sp_lowest (aCons (xVar 4) (aCons (xVar 5) (aNil)))) (dCall 2 sp_l_lowered_pair (aCons (xVar 4) (aCons (xVar 5) (aNil))))) (dAndV (dCall 1 sp_l_is_ratio (aCons (xVal (dCall 2 sp_lowest (aCons (xVar 4) (aCons (xVar 5) (aNil))))) (aNil))) (dOp fEq (dCall 2 sp_lowest (aCons (xVal (dC (.int 0))) (aCons (xVar 5) (aNil)))) (dTup (vCons (dC (.int 0)) (vCons (dC (.int 1)) (vNil))))))))))))
def N_l_lowered : List Str := ["_law_bag_here", "_law_high", "_law_share", "_law_numbers", "_law_top", "_law_bottom", "_law_turn"]

def tb_law : DTS := sSeq (sFor (iR1 (dCB (f2I fun i j => if j > i then j else i) (vCons (dC (.int 1)) (vCons (dCB (f2I fun i j => if j < i then j else i) (vCons (dC (.int 3)) (vCons (dCB fLen (vCons (dVar 0) (vNil))) (vNil)))) (vNil))))) (gN 1) (sSeq (sBagCall 3 2 sp_l_bag (aCons (xVar 0) (aCons (xVar 1) (aNil)))) (sSeq (sIf (dNot (dTru (dCall 1 sp_l_judged (aCons (xVar 3) (aNil))))) (sRet (dC (.bl false))) (sPass)) (sFor (iR1 (dC (.int 3))) (gN 4) (sIf (dOr (dNot (dTru (dCall 1 sp_l_reckoned (aCons (xVar 3) (aNil))))) (dNot (dTru (dCall 1 sp_l_lowered (aCons (xVar 3) (aNil)))))) (sRet (dC (.bl false))) (sPass)))))) (sSeq (sAsg (dLst (vCons (dCall 2 sp_lowest (aCons (xVal (dC (.int 6))) (aCons (xVal (dNeg (dC (.int 4)))) (aNil)))) (vCons (dCall 2 sp_compare (aCons (xVal (dTup (vCons (dC (.int 1)) (vCons (dC (.int 3)) (vNil))))) (aCons (xVal (dTup (vCons (dC (.int 1)) (vCons (dC (.int 2)) (vNil))))) (aNil)))) (vCons (dCall 2 sp_plus (aCons (xVal (dTup (vCons (dC (.int 1)) (vCons (dC (.int 2)) (vNil))))) (aCons (xVal (dTup (vCons (dC (.int 1)) (vCons (dC (.int 3)) (vNil))))) (aNil)))) (vCons (dCall 2 sp_times (aCons (xVal (dTup (vCons (dC (.int 2)) (vCons (dC (.int 3)) (vNil))))) (aCons (xVal (dTup (vCons (dC (.int 3)) (vCons (dC (.int 4)) (vNil))))) (aNil)))) (vCons (dCall 1 sp_common_divisor (aCons (xVal (dTup (vCons (dC (.int 0)) (vNil)))) (aNil))) (vNil))))))) (gN 2)) (sRet (dOp fEq (dVar 2) (dLst (vCons (dTup (vCons (dNeg (dC (.int 3))) (vCons (dC (.int 2)) (vNil)))) (vCons (dNeg (dC (.int 1))) (vCons (dTup (vCons (dC (.int 5)) (vCons (dC (.int 6)) (vNil)))) (vCons (dTup (vCons (dC (.int 1)) (vCons (dC (.int 2)) (vNil)))) (vCons (dC (.int 0)) (vNil))))))))))
def N_law : List Str := ["_law_script", "_law_spot", "_law_told", "_law_bag_here", "_law_turn"]

/-! ### the readings -/
local macro_rules | `(tactic| walk_at "ps") => `(tactic| simp only [sp_is_whole, sp_is_integer, sp_divisor_of, sp_common_divisor, sp_lowest_of, sp_is_ratio, sp_require_ratios, sp_lowest, sp_compared_of, sp_compare, sp_plus_of, sp_plus, sp_minus, sp_times_of, sp_times, sp_l_bag, sp_l_grab, sp_l_one_of, sp_l_divisor, sp_l_whole, sp_l_is_short, sp_l_is_ratio, sp_l_ratio, sp_l_lowered_pair, sp_l_judged, sp_l_reckoned, sp_l_lowered, sp_law, sSeq, sAsg, sPar, sRet, sRetN, sDrop, sPass, sIf, sRetL, sBag, sBagCall, gN, gT, gsC, gsN, dVar, xVar, xVal, dC, dOp, dNeg, dTest, dTru, dAnd, dOr, dNot, dAndV, dOrV, dNotV, dIf, dChain, vNil, vCons, aNil, aCons, dTup, dLst, dDic0, dCB, dCall, dIsi, dSl, oNone, oSome, dBag,
  fAdd, fSub, fInt2, fCmp, fEq, fNe, fIn, fIsN, fRep, fLen, fAbs, f2I, fInt, fGcd, fTuple, fList, fIx, iSeq, iR1, dLc, dYes, endsOf, endsN, start0, List.map, List.append, List.replicate, List.length, List.cons_append, List.nil_append, List.set, List.getElem?_cons_zero, List.getElem?_cons_succ, Nat.reduceSub, Nat.reduceAdd, List.length_cons, List.length_nil, Nat.sub_self,
  decide_eq_true_eq, decide_eq_false_iff_not, Bool.false_eq_true, reduceCtorEq, true_and, and_true, if_true, if_false, forall_const, false_implies, implies_true, true_implies, List.getElem?_nil, at0, at1, at2, sFor, wipeD, Bool.not_eq_true', Bool.not_eq_false', Bool.not_true, Bool.not_false])
theorem rd_is_whole : ∀ Ed ss Kd, ss.length = 1 → sp_is_whole Ed ss Kd → tb_is_whole (endsOf Kd noE) (start0 N_is_whole ss) := by
  intro Ed ss Kd hl h
  unfold sp_is_whole at h
  split at h
  · rename_i d
    obtain ⟨h1, h⟩ := h
    unfold tb_is_whole N_is_whole
    walk_at "pd"
    refine ⟨h1, fun e => ⟨h1, ?_⟩, fun e => ?_⟩
    · cases d <;> first | exact h | (simp [D.tyn, isiB] at e; done)
    · cases d <;> first | exact h | (simp [D.tyn, isiB] at e; done)
  · exact h.elim
theorem rd_is_integer : ∀ Ed ss Kd, ss.length = 1 → sp_is_integer Ed ss Kd → tb_is_integer (endsOf Kd noE) (start0 N_is_integer ss) := by
  intro Ed ss Kd hl h
  unfold sp_is_integer at h
  split at h
  · rename_i d
    obtain ⟨h1, h⟩ := h
    unfold tb_is_integer N_is_integer
    walk_at "pd"
    refine ⟨h1, fun e => ?_, fun e => ?_⟩
    · cases d <;> first
        | (simp [isW] at e; done)
        | skip
      rename_i i
      refine ⟨fun a => ?_, fun a => ?_⟩
      · have z : isI (.int i) = decide (i < 1000000000000000000000000000000000000000000000000000000000000) := by simp [isI, a]
        rw [z] at h
        exact h
      · have z : isI (.int i) = false := by simp [isI, a]
        rw [z] at h
        exact h
    · have z : isI d = false := by cases d <;> first | rfl | (simp [isW] at e; done)
      rw [z] at h
      exact h
  · exact h.elim
theorem gcd_loop (E : ES) (o : Option Sl) (d : D) : ∀ (ns : List Int) (f : Int) (o' : Option Sl), (∀ o2, E.nx [some (.val d), some (.val (.int (gcdF f ns))), o2]) →
    forD (gN 2) (sAsg (dCB fGcd (vCons (dVar 1) (vCons (dVar 2) (vNil)))) (gN 1)) E (ns.map D.int) [some (.val d), some (.val (.int f)), o']
  | [], f, o', h => h o'
  | n :: ns, f, o', h => by
    show forD _ _ _ (.int n :: ns.map D.int) _
    unfold forD
    walk_at "pd"
    exact gcd_loop E o d ns _ _ h
theorem rd_divisor_of : ∀ Ed ss Kd, ss.length = 1 → sp_divisor_of Ed ss Kd → tb_divisor_of (endsOf Kd noE) (start0 N_divisor_of ss) := by
  intro Ed ss Kd hl h
  unfold sp_divisor_of at h
  split at h
  · rename_i d
    split at h
    · rename_i ns hn
      unfold tb_divisor_of N_divisor_of
      walk_at "pd"
      cases d <;> first
        | (cases hn; done)
        | skip
      all_goals
        have e := ints_eq hn
        subst e
        refine gcd_loop _ none _ ns 0 none fun o2 => ?_
        walk_at "pd"
        exact h
    · exact h.elim
  · exact h.elim
theorem gcd_ne {a b : Int} (h : b ≠ 0) : Nat.gcd a.natAbs b.natAbs ≠ 0 := by
  intro e
  have := (Nat.gcd_eq_zero_iff.mp e).2
  omega
theorem gcd_le {a b : Int} (h : b ≠ 0) : Nat.gcd a.natAbs b.natAbs ≤ b.natAbs := Nat.le_of_dvd (by omega) (Nat.gcd_dvd_right _ _)
theorem rd_lowest_of : ∀ Ed ss Kd, ss.length = 2 → sp_lowest_of Ed ss Kd → tb_lowest_of (endsOf Kd noE) (start0 N_lowest_of ss) := by
  intro Ed ss Kd hl h
  unfold sp_lowest_of at h
  split at h
  · rename_i a b
    obtain ⟨h0, h1, h⟩ := h
    have g0 := gcd_ne (a := a) h0
    have g1 := gcd_le (a := a) h0
    have g2 : ((Nat.gcd a.natAbs b.natAbs : Nat) : Int).natAbs.log2 < 9000 := by
      have : ((Nat.gcd a.natAbs b.natAbs : Nat) : Int).natAbs < 2 ^ 8000 := by simpa using Nat.lt_of_le_of_lt g1 h1
      have := log_lt this
      omega
    unfold tb_lowest_of N_lowest_of
    walk_at "pd"
    refine ⟨fun hb => ?_, fun hb => ?_⟩
    · have e : low a b = (a.fdiv (Nat.gcd a.natAbs b.natAbs : Nat), b.fdiv (Nat.gcd a.natAbs b.natAbs : Nat)) := by simp [low, hb]
      rw [e] at h
      exact ⟨⟨by omega, g2⟩, ⟨by omega, g2⟩, by decide, h⟩
    · have e : low a b = (a.fdiv (-(Nat.gcd a.natAbs b.natAbs : Nat)), b.fdiv (-(Nat.gcd a.natAbs b.natAbs : Nat))) := by simp [low, hb]
      rw [e] at h
      exact ⟨⟨by omega, by rw [Int.natAbs_neg]; exact g2⟩, ⟨by omega, by rw [Int.natAbs_neg]; exact g2⟩, by decide, h⟩
  · exact h.elim

theorem isI_lt {a : Int} (h : isI (.int a) = true) : a.natAbs < 2 ^ 200 := by
  simp only [isI, Bool.and_eq_true, decide_eq_true_eq] at h
  have e : (2 : Nat) ^ 200 = 1606938044258990275541962092341162602522202993782792835301376 := by decide
  rw [e]
  omega
theorem noScr_isI {xs : List D} (h : xs.all isI = true) : ∀ d ∈ xs, d.noScr = true := fun d hd => by
  have := List.all_eq_true.mp h d hd
  cases d <;> first | rfl | (cases this; done)
theorem rd_common_divisor : ∀ Ed ss Kd, ss.length = 1 → sp_common_divisor Ed ss Kd → tb_common_divisor (endsOf Kd noE) (start0 N_common_divisor ss) := by
  intro Ed ss Kd hl h
  unfold sp_common_divisor at h
  split at h
  · rename_i xs
    split at h
    · rename_i ns hn
      obtain ⟨h1, h2, h3, h⟩ := h
      unfold tb_common_divisor N_common_divisor
      walk_at "pd"
      walk_at "go"
      · exact Nat.le_trans h2 (by decide)
      · refine lcD_bl isI xs (fun d hd k hk => ?_) ?_
        · walk_at "pd"
          exact ⟨noScr_isI h3 d hd, hk⟩
        · have e : (xs.map isI).all id = true := by simpa using h3
          show _
          rw [e]
          walk_at "go"
          show (match seqI (.tup xs) with | some ns => Kd (.int (gcdF 0 ns)) | none => False)
          show (match intsD xs with | some ns => Kd (.int (gcdF 0 ns)) | none => False)
          rw [hn]
          exact h
    · exact h.elim
  · exact h.elim
theorem isR_two {xs : List D} (h : xs.all isI = true) (hl : xs.length = 2) : ∃ a b : Int, xs = [.int a, .int b] := by
  match xs, hl with
  | [x, y], _ =>
    simp only [List.all_cons, List.all_nil, Bool.and_true, Bool.and_eq_true] at h
    cases x <;> first | (cases h.1; done) | skip
    cases y <;> first | (cases h.2; done) | skip
    exact ⟨_, _, rfl⟩
theorem isR_no {xs : List D} (h : xs.all isI = false ∨ xs.length ≠ 2) : isR (.tup xs) = false := by
  unfold isR
  split
  · rename_i a b e
    cases e
    rcases h with h | h
    · simp only [List.all_cons, List.all_nil, Bool.and_true] at h
      rw [h]
      simp
    · exact absurd rfl h
  · rfl
theorem rd_is_ratio : ∀ Ed ss Kd, ss.length = 1 → sp_is_ratio Ed ss Kd → tb_is_ratio (endsOf Kd noE) (start0 N_is_ratio ss) := by
  intro Ed ss Kd hl h
  unfold sp_is_ratio at h
  split at h
  · rename_i d
    obtain ⟨hk, h⟩ := h
    have hs : d.noScr = true := by
      simp only [okR, Bool.and_eq_true] at hk
      exact hk.1
    unfold tb_is_ratio N_is_ratio
    walk_at "pd"
    cases d with
    | tup xs =>
      have hx : (∀ d ∈ xs, d.noScr = true) ∧ xs.length ≤ 1000 := by
        simp only [okR, Bool.and_eq_true, decide_eq_true_eq] at hk
        exact ⟨List.all_eq_true.mp hk.2.1, hk.2.2⟩
      walk_at "go"
      · rename_i e
        rw [isR_no (.inr (by omega))] at h
        exact h
      · exact Nat.le_trans hx.2 (by decide)
      · rename_i e
        refine lcD_bl isI xs (fun d hd k hk => ?_) ?_
        · walk_at "pd"
          exact ⟨hx.1 d hd, hk⟩
        · have em : (xs.map isI).all id = xs.all isI := by simp
          rw [em]
          walk_at "pd"
          refine ⟨fun e2 => ?_, fun e2 => ?_⟩
          · rw [isR_no (.inl e2)] at h
            exact h
          · obtain ⟨a, b, rfl⟩ := isR_two e2 (by omega)
            have ea : isI (.int a) = true ∧ isI (.int b) = true := by
              simpa using e2
            have g1 : isR (.tup [.int a, .int b]) = (decide (0 < b) && decide (Nat.gcd a.natAbs b.natAbs = 1)) := by
              unfold isR
              simp [ea.1, ea.2]
            rw [g1] at h
            refine ⟨fun e3 => ?_, fun e3 => ?_⟩
            · rw [decide_eq_true e3, Bool.true_and] at h
              have e4 : (((Nat.gcd a.natAbs b.natAbs : Nat) : Int) = 1) = (Nat.gcd a.natAbs b.natAbs = 1) := by
                apply propext
                omega
              show Kd (.bl (decide (((Nat.gcd a.natAbs b.natAbs : Nat) : Int) = 1)))
              simp only [e4]
              exact h
            · rw [decide_eq_false e3, Bool.false_and] at h
              exact h
    | _ =>
      walk_at "go"
  · exact h.elim

theorem isR_shape {d : D} (h : isR d = true) : ∃ a b : Int, d = rat (a, b) ∧ isI (.int a) = true ∧ isI (.int b) = true ∧ 0 < b ∧ Nat.gcd a.natAbs b.natAbs = 1 := by
  unfold isR at h
  split at h
  · rename_i a b
    simp only [Bool.and_eq_true, decide_eq_true_eq] at h
    exact ⟨a, b, rfl, h.1.1.1, h.1.1.2, h.1.2, h.2⟩
  · cases h
theorem isR_ok {d : D} (h : isR d = true) : okR d = true := by
  obtain ⟨a, b, rfl, _⟩ := isR_shape h
  rfl
theorem rd_require_ratios : ∀ Ed ss Kd, ss.length = 2 → sp_require_ratios Ed ss Kd → allVal ss = true ∧ tb_require_ratios (endsOf Kd noE) (start0 N_require_ratios [.val (.tup (slD ss))]) := by
  intro Ed ss Kd hl h
  unfold sp_require_ratios at h
  split at h
  · rename_i d e
    obtain ⟨h1, h2, h⟩ := h
    refine ⟨rfl, ?_⟩
    unfold tb_require_ratios N_require_ratios
    simp only [slD]
    walk_at "pd"
    unfold forD
    walk_at "pd"
    refine ⟨isR_ok h1, ?_⟩
    rw [h1]
    refine ⟨fun z => (by cases z), fun _ => ?_⟩
    unfold forD
    walk_at "pd"
    refine ⟨isR_ok h2, ?_⟩
    rw [h2]
    refine ⟨fun z => (by cases z), fun _ => ?_⟩
    unfold forD
    exact h
  · exact h.elim
theorem rd_lowest : ∀ Ed ss Kd, ss.length = 2 → sp_lowest Ed ss Kd → tb_lowest (endsOf Kd noE) (start0 N_lowest ss) := by
  intro Ed ss Kd hl h
  unfold sp_lowest at h
  split at h
  · rename_i a b
    obtain ⟨h1, h2, h0, h⟩ := h
    unfold tb_lowest N_lowest
    walk_at "pd"
    have lt := isI_lt h2
    walk_at "ps"
    rw [h1, h2]
    walk_at "go"
    exact Nat.lt_of_lt_of_le lt (Nat.pow_le_pow_right (by decide) (by decide))
  · exact h.elim
theorem sm_mul {a b : Int} (h1 : small 1000 a) (h2 : small 1000 b) : MulOk a b := mul_ok h1 h2 (by decide)
theorem rd_compared_of : ∀ Ed ss Kd, ss.length = 2 → sp_compared_of Ed ss Kd → tb_compared_of (endsOf Kd noE) (start0 N_compared_of ss) := by
  intro Ed ss Kd hl h
  unfold sp_compared_of at h
  split at h
  · rename_i a b c d
    obtain ⟨h1, h2, h3, h4, h⟩ := h
    unfold tb_compared_of N_compared_of
    walk_at "pd"
    refine ⟨sm_mul h1 h4, sm_mul h3 h2, ?_⟩
    unfold cmpI at h
    simpa using h
  · exact h.elim
theorem rd_compare : ∀ Ed ss Kd, ss.length = 2 → sp_compare Ed ss Kd → tb_compare (endsOf Kd noE) (start0 N_compare ss) := by
  intro Ed ss Kd hl h
  unfold sp_compare at h
  split at h
  · rename_i a b c d
    obtain ⟨h1, h2, h⟩ := h
    unfold tb_compare N_compare
    walk_at "pd"
    refine ⟨h1, h2, ?_⟩
    obtain ⟨_, _, e, p1, p2, _⟩ := isR_shape h1
    cases e
    obtain ⟨_, _, e, p3, p4, _⟩ := isR_shape h2
    cases e
    have up : ∀ {x : Int}, isI (.int x) = true → small 1000 x := fun h => Nat.lt_of_lt_of_le (isI_lt h) (Nat.pow_le_pow_right (by decide) (by decide))
    exact ⟨up p1, up p2, up p3, up p4, h⟩
  · exact h.elim
theorem isI_small {x : Int} (h : isI (.int x) = true) : small 1000 x := Nat.lt_of_lt_of_le (isI_lt h) (Nat.pow_le_pow_right (by decide) (by decide))
theorem small_mul {m n : Nat} {a b : Int} (h1 : small m a) (h2 : small n b) : small (m + n) (a * b) := by
  unfold small at *
  rw [Int.natAbs_mul, Nat.pow_add]
  exact Nat.mul_lt_mul'' h1 h2
theorem rd_plus_of : ∀ Ed ss Kd, ss.length = 2 → sp_plus_of Ed ss Kd → tb_plus_of (endsOf Kd noE) (start0 N_plus_of ss) := by
  intro Ed ss Kd hl h
  unfold sp_plus_of at h
  split at h
  · rename_i a b c d
    obtain ⟨h1, h2, h3, h4, b0, d0, h⟩ := h
    unfold tb_plus_of N_plus_of
    walk_at "pd"
    refine ⟨sm_mul h1 h4, sm_mul h3 h2, sm_mul h2 h4, ?_⟩
    refine ⟨Int.mul_ne_zero b0 d0, Nat.lt_of_lt_of_le (small_mul h2 h4) (Nat.pow_le_pow_right (by decide) (by decide)), h⟩
  · exact h.elim
theorem rd_plus : ∀ Ed ss Kd, ss.length = 2 → sp_plus Ed ss Kd → tb_plus (endsOf Kd noE) (start0 N_plus ss) := by
  intro Ed ss Kd hl h
  unfold sp_plus at h
  split at h
  · rename_i a b c d
    obtain ⟨h1, h2, h⟩ := h
    unfold tb_plus N_plus
    walk_at "pd"
    refine ⟨h1, h2, ?_⟩
    obtain ⟨_, _, e, p1, p2, p0, _⟩ := isR_shape h1
    cases e
    obtain ⟨_, _, e, p3, p4, q0, _⟩ := isR_shape h2
    cases e
    exact ⟨isI_small p1, isI_small p2, isI_small p3, isI_small p4, by omega, by omega, h⟩
  · exact h.elim
theorem rd_minus : ∀ Ed ss Kd, ss.length = 2 → sp_minus Ed ss Kd → tb_minus (endsOf Kd noE) (start0 N_minus ss) := by
  intro Ed ss Kd hl h
  unfold sp_minus at h
  split at h
  · rename_i a b c d
    obtain ⟨h1, h2, h⟩ := h
    unfold tb_minus N_minus
    walk_at "pd"
    refine ⟨h1, h2, by decide, ?_⟩
    obtain ⟨_, _, e, p1, p2, p0, _⟩ := isR_shape h1
    cases e
    obtain ⟨_, _, e, p3, p4, q0, _⟩ := isR_shape h2
    cases e
    have p3' : small 1000 (-c) := by
      have := isI_small p3
      unfold small at *
      rw [Int.natAbs_neg]
      exact this
    refine ⟨isI_small p1, isI_small p2, p3', isI_small p4, by omega, by omega, ?_⟩
    have e : a * d + -c * b = a * d - c * b := by rw [Int.neg_mul]; omega
    rw [e]
    exact h
  · exact h.elim
theorem rd_times_of : ∀ Ed ss Kd, ss.length = 2 → sp_times_of Ed ss Kd → tb_times_of (endsOf Kd noE) (start0 N_times_of ss) := by
  intro Ed ss Kd hl h
  unfold sp_times_of at h
  split at h
  · rename_i a b c d
    obtain ⟨h1, h2, h3, h4, b0, d0, h⟩ := h
    unfold tb_times_of N_times_of
    walk_at "pd"
    refine ⟨sm_mul h1 h3, sm_mul h2 h4, ?_⟩
    refine ⟨Int.mul_ne_zero b0 d0, Nat.lt_of_lt_of_le (small_mul h2 h4) (Nat.pow_le_pow_right (by decide) (by decide)), h⟩
  · exact h.elim
theorem rd_times : ∀ Ed ss Kd, ss.length = 2 → sp_times Ed ss Kd → tb_times (endsOf Kd noE) (start0 N_times ss) := by
  intro Ed ss Kd hl h
  unfold sp_times at h
  split at h
  · rename_i a b c d
    obtain ⟨h1, h2, h⟩ := h
    unfold tb_times N_times
    walk_at "pd"
    refine ⟨h1, h2, ?_⟩
    obtain ⟨_, _, e, p1, p2, p0, _⟩ := isR_shape h1
    cases e
    obtain ⟨_, _, e, p3, p4, q0, _⟩ := isR_shape h2
    cases e
    exact ⟨isI_small p1, isI_small p2, isI_small p3, isI_small p4, by omega, by omega, h⟩
  · exact h.elim
/-! the law's own -/
theorem rd_l_grab : ∀ Ed ss Kd, ss.length = 2 → sp_l_grab Ed ss Kd → tb_l_grab (endsOf Kd noE) (start0 N_l_grab ss) := by
  intro Ed ss Kd hl h
  unfold sp_l_grab at h
  split at h
  · rename_i n
    obtain ⟨h0, h1, h⟩ := h
    have hn : n ≠ 0 := by omega
    have hd : DivOk 0 n := ⟨hn, by
      have : n.natAbs < 2 ^ 2000 := by
        have e : (n.natAbs : Int) = n := by omega
        have : ((n.natAbs : Nat) : Int) < ((2 ^ 2000 : Nat) : Int) := by rw [e]; exact_mod_cast h1
        exact_mod_cast this
      have := log_lt this
      omega⟩
    have hm : ∀ x : Int, 0 ≤ x.fmod n ∧ x.fmod n < n := fun x => by
      rw [Int.fmod_eq_emod_of_nonneg x (by omega)]
      exact ⟨Int.emod_nonneg _ hn, Int.emod_lt_of_pos _ h0⟩
    unfold tb_l_grab N_l_grab
    walk_at "pd"
    refine ⟨by decide, fun a => ⟨fun _ => ⟨by decide, fun x => ⟨hn, by decide, fun y => ⟨hd, by decide, h _ (hm x).1 (hm x).2⟩⟩⟩, fun _ => ⟨by decide, by decide, by decide, fun x => ⟨by decide, fun y => ⟨mul_okL (by decide) (by decide), by decide, ?_⟩⟩⟩⟩⟩
    have p1 : ∀ w : Int, -(2 ^ 64) < w.fmod 2305843009213693951 ∧ w.fmod 2305843009213693951 < 2 ^ 64 := fun w => by
      rw [Int.fmod_eq_emod_of_nonneg w (by decide)]
      omega
    have p2 : ∀ w : Int, -(2 ^ 64) < w.fmod 2305843009213693723 ∧ w.fmod 2305843009213693723 < 2 ^ 64 := fun w => by
      rw [Int.fmod_eq_emod_of_nonneg w (by decide)]
      omega
    refine ⟨mul_okL (p1 _).1 (p1 _).2, by decide, mul_okL (p2 _).1 (p2 _).2, by decide, fun w => ⟨mul_okL (by decide) (by decide), by decide, ?_, hn, h _ (hm _).1 (hm _).2⟩⟩
    exact ⟨by decide, by decide⟩
  · exact h.elim
theorem rd_l_one_of : ∀ Ed ss Kd, ss.length = 2 → sp_l_one_of Ed ss Kd → tb_l_one_of (endsOf Kd noE) (start0 N_l_one_of ss) := by
  intro Ed ss Kd hl h
  unfold sp_l_one_of at h
  split at h
  · rename_i ds
    obtain ⟨h0, h1, h⟩ := h
    have hp : 0 < ds.length := List.length_pos_iff.mpr h0
    unfold tb_l_one_of N_l_one_of
    walk_at "pd"
    refine ⟨by omega, ?_, fun r hr0 hr1 => ?_⟩
    · have : (ds.length : Int) ≤ 1000000 := by omega
      exact Int.lt_of_le_of_lt this (by decide)
    · obtain ⟨j, rfl⟩ : ∃ j : Nat, r = (j : Int) := ⟨r.toNat, by omega⟩
      have hj : j < ds.length := by omega
      show (match atI ds (j : Int) with | some d => Kd d | none => False)
      rw [atI_nat (v := ds[j]) (List.getElem?_eq_getElem hj)]
      exact h _ (List.getElem_mem hj)
  · exact h.elim

theorem gcd_step {x y : Int} (hx : 0 ≤ x) (hy : 0 < y) : Nat.gcd y.natAbs (x.fmod y).natAbs = Nat.gcd x.natAbs y.natAbs := by
  rw [Int.fmod_eq_emod_of_nonneg x (by omega), Int.natAbs_emod_of_nonneg hx, Nat.gcd_comm x.natAbs y.natAbs, Nat.gcd_rec y.natAbs x.natAbs, Nat.gcd_comm]
theorem euclid (E : ES) (d : D) (o2 : Option Sl) (f n : Int) (h0 : 0 ≤ f) (hE : ∀ o3, E.nx [some (.val d), some (.val (.int (Nat.gcd f.natAbs n.natAbs : Nat))), o2, o3]) :
    sWhile (dTest (dOp (fCmp fun i j => decide (j < i)) (dVar 3) (dC (.int 0)))) (sPar 1 3 (dVar 3) (dOp (fInt2 (fun _ j => j ≠ 0) Int.fmod) (dVar 1) (dVar 3))) E
      [some (.val d), some (.val (.int f)), o2, some (.val (.int (if n < 0 then -n else n)))] := by
  refine ⟨fun m ρ => ∃ x y : Int, ρ = [some (.val d), some (.val (.int x)), o2, some (.val (.int y))] ∧ 0 ≤ x ∧ 0 ≤ y ∧ m = y.toNat ∧ Nat.gcd x.natAbs y.natAbs = Nat.gcd f.natAbs n.natAbs, ⟨_, f, _, rfl, h0, by split <;> omega, rfl, ?_⟩, ?_⟩
  · split
    · rw [Int.natAbs_neg]
    · rfl
  · rintro m ρ ⟨x, y, rfl, hx, hy, rfl, hg⟩
    walk_at "pd"
    refine ⟨fun h => ?_, fun h => ⟨by omega, ?_⟩⟩
    · have ey : y = 0 := by omega
      subst ey
      have : Nat.gcd f.natAbs n.natAbs = x.natAbs := by rw [← hg]; simp
      have ex : ((Nat.gcd f.natAbs n.natAbs : Nat) : Int) = x := by omega
      have z := hE (some (.val (.int 0)))
      rw [ex] at z
      exact z
    · have hm0 : 0 ≤ x.fmod y := by rw [Int.fmod_eq_emod_of_nonneg x hy]; exact Int.emod_nonneg _ (by omega)
      have hm1 : x.fmod y < y := by rw [Int.fmod_eq_emod_of_nonneg x hy]; exact Int.emod_lt_of_pos _ h
      exact ⟨(x.fmod y).toNat, by omega, y, x.fmod y, rfl, hy, hm0, rfl, by rw [gcd_step hx h]; exact hg⟩
theorem div_loop (E : ES) (d : D) : ∀ (ns : List Int) (f : Int) (o2 o3 : Option Sl), 0 ≤ f → (∀ o2 o3, E.nx [some (.val d), some (.val (.int (gcdF f ns))), o2, o3]) →
    forD (gN 2) (sSeq (sAsg (dCB fAbs (vCons (dVar 2) (vNil))) (gN 3)) (sWhile (dTest (dOp (fCmp fun i j => decide (j < i)) (dVar 3) (dC (.int 0)))) (sPar 1 3 (dVar 3) (dOp (fInt2 (fun _ j => j ≠ 0) Int.fmod) (dVar 1) (dVar 3))))) E (ns.map D.int) [some (.val d), some (.val (.int f)), o2, o3]
  | [], f, o2, o3, _, h => h o2 o3
  | n :: ns, f, o2, o3, h0, h => by
    show forD _ _ _ (.int n :: ns.map D.int) _
    unfold forD
    walk_at "pd"
    refine euclid _ d _ f n h0 fun o3 => ?_
    exact div_loop E d ns _ _ _ (Int.natCast_nonneg _) h
theorem rd_l_divisor : ∀ Ed ss Kd, ss.length = 1 → sp_l_divisor Ed ss Kd → tb_l_divisor (endsOf Kd noE) (start0 N_l_divisor ss) := by
  intro Ed ss Kd hl h
  unfold sp_l_divisor at h
  split at h
  · rename_i d
    split at h
    · rename_i ns hn
      unfold tb_l_divisor N_l_divisor
      walk_at "pd"
      cases d <;> first
        | (cases hn; done)
        | skip
      all_goals
        have e := ints_eq hn
        subst e
        refine div_loop _ _ ns 0 none none (Int.le_refl 0) fun o2 o3 => ?_
        walk_at "pd"
        exact h
    · exact h.elim
  · exact h.elim
theorem rd_l_whole : ∀ Ed ss Kd, ss.length = 2 → sp_l_whole Ed ss Kd → tb_l_whole (endsOf Kd noE) (start0 N_l_whole ss) := by
  intro Ed ss Kd hl h
  unfold sp_l_whole at h
  split at h
  · rename_i n
    obtain ⟨h0, h1, h⟩ := h
    unfold tb_l_whole N_l_whole
    walk_at "ps"
    refine ⟨mul_okL (by decide) (by decide), by omega, ?_, fun r h2 h3 => h _ (by omega) (by omega)⟩
    have e1 : (2 : Int) * 2 ^ 1000 + 1 < 2 ^ 2000 := by decide +kernel
    omega
  · exact h.elim
theorem isI_int {d : D} (h : isI d = true) : ∃ a, d = .int a := by
  cases d <;> first | (cases h; done) | exact ⟨_, rfl⟩
theorem isI_abs (i : Int) : isI (.int i) = decide ((if i < 0 then -i else i) < 1000000000000000000000000000000000000000000000000000000000000) := by
  show (decide (-1000000000000000000000000000000000000000000000000000000000000 < i) && decide (i < 1000000000000000000000000000000000000000000000000000000000000)) = _
  rw [← Bool.decide_and]
  congr 1
  apply propext
  split <;> omega
theorem rd_l_is_short : ∀ Ed ss Kd, ss.length = 1 → sp_l_is_short Ed ss Kd → tb_l_is_short (endsOf Kd noE) (start0 N_l_is_short ss) := by
  intro Ed ss Kd hl h
  unfold sp_l_is_short at h
  split at h
  · rename_i d
    obtain ⟨h1, h⟩ := h
    unfold tb_l_is_short N_l_is_short
    walk_at "ps"
    cases d with
    | int i =>
      rw [isI_abs] at h
      walk_at "go"
      all_goals first
        | exact ⟨by decide, by decide⟩
        | decide
    | scr ns => cases h1
    | _ => walk_at "go"
  · exact h.elim
theorem rd_l_is_ratio : ∀ Ed ss Kd, ss.length = 1 → sp_l_is_ratio Ed ss Kd → tb_l_is_ratio (endsOf Kd noE) (start0 N_l_is_ratio ss) := by
  intro Ed ss Kd hl h
  unfold sp_l_is_ratio at h
  split at h
  · rename_i d
    obtain ⟨hk, h⟩ := h
    unfold tb_l_is_ratio N_l_is_ratio
    walk_at "ps"
    cases d with
    | tup xs =>
      walk_at "go"
      · rename_i e
        rw [isR_no (.inr (by omega))] at h
        exact h
      · rename_i e
        match xs, (show xs.length = 2 by omega) with
        | [x, y], _ =>
          have hn : x.noScr = true ∧ y.noScr = true := by
            simp only [okR, Bool.and_eq_true, List.all_cons, List.all_nil, Bool.and_true] at hk
            exact hk.2.1
          walk_at "ps"
          refine ⟨hn.1, fun e2 => ?_, fun e2 => ⟨hn.2, fun e3 => ?_, fun e3 => ?_⟩⟩
          · rw [isR_no (.inl (by simp [e2]))] at h
            exact h
          · rw [isR_no (.inl (by simp [e3]))] at h
            exact h
          · obtain ⟨a, rfl⟩ := isI_int e2
            obtain ⟨b, rfl⟩ := isI_int e3
            have g1 : isR (.tup [.int a, .int b]) = (decide (0 < b) && decide (Nat.gcd a.natAbs b.natAbs = 1)) := by
              unfold isR
              simp [e2, e3]
            rw [g1] at h
            walk_at "ps"
            refine ⟨fun e4 => ?_, fun e4 => ?_⟩
            · rw [decide_eq_true e4, Bool.true_and] at h
              have e5 : seqI (.tup [.int a, .int b]) = some [a, b] := rfl
              rw [e5]
              have e6 : gcdF 0 [a, b] = (Nat.gcd a.natAbs b.natAbs : Nat) := by simp [gcdF]
              show Kd (.bl (decide (gcdF 0 [a, b] = 1)))
              rw [e6]
              have e7 : (((Nat.gcd a.natAbs b.natAbs : Nat) : Int) = 1) = (Nat.gcd a.natAbs b.natAbs = 1) := by
                apply propext
                omega
              simp only [e7]
              exact h
            · rw [decide_eq_false e4, Bool.false_and] at h
              exact h
    | _ => walk_at "go"
  · exact h.elim

theorem log_small {n : Nat} {x : Int} (h : small n x) (hn : n < 9000) : x.natAbs.log2 < 9000 := Nat.lt_of_le_of_lt (log_lt h) hn
theorem bag_tail {Kd : List D → Prop} (d i : Int) (h0 : 0 ≤ i) (h1 : i < 1000) (h : ∀ (x y z : Int), Kd [D.int x, D.int y, D.int z]) (T : DTS)
    (hT : T = sSeq (sAsg (dOp (fInt2 (fun _ j => j ≠ 0) Int.fmod) (dCB fInt (vCons (dCB fAbs (vCons (dVar 2) (vNil))) (vNil))) (dOp (fInt2 PowOk fun i j => i ^ j.toNat) (dOp (fInt2 PowOk fun i j => i ^ j.toNat) (dC (.int 10)) (dC (.int 45))) (dC (.int 13)))) (gN 3)) (sSeq (sAsg (dOp fAdd (dOp fAdd (dOp fAdd (dOp fRep (dOp (fInt2 (fun _ j => j ≠ 0) Int.fmod) (dCB fInt (vCons (dVar 3) (vNil))) (dC (.int 2305843009213693723))) (dC (.int 1000457))) (dOp fRep (dC (.int 9029)) (dVar 1))) (dOp fRep (dC (.int 53)) (dCB fInt (vCons (dOp (fCmp fun i j => decide (i < j)) (dVar 2) (dC (.int 0))) (vNil))))) (dC (.int 37))) (gN 4)) (sRetL (vCons (dCB (f2I fun i j => if j > i then j else i) (vCons (dC (.int 0)) (vCons (dOp fSub (dVar 3) (dOp (fInt2 PowOk fun i j => i ^ j.toNat) (dC (.int 10)) (dC (.int 18)))) (vNil)))) (vCons (dOp (fInt2 (fun _ j => j ≠ 0) Int.fmod) (dCB fInt (vCons (dVar 4) (vNil))) (dC (.int 2305843009213693951))) (vCons (dC (.int 0)) (vNil))))))) (o : Sl) :
    T (endsN Kd noE) [some o, some (.val (.int i)), some (.val (.int d)), none, none] := by
  rw [hT]
  walk_at "pd"
  have p2 : ∀ w : Int, -(2 ^ 64) < w.fmod 2305843009213693723 ∧ w.fmod 2305843009213693723 < 2 ^ 64 := fun w => by
    rw [Int.fmod_eq_emod_of_nonneg w (by decide)]
    omega
  have P : ∀ (a b : Int), 0 ≤ b → (Builtin.Int.intBits a : Int) * b ≤ 2 ^ 27 → PowOk a b := fun a b x y => ⟨x, y⟩
  refine ⟨⟨by decide, by decide +kernel⟩, ⟨by decide, by decide +kernel⟩, by decide +kernel, by decide, mul_okL (p2 _).1 (p2 _).2, mul_okL (by decide) (by decide), mul_okL (by decide) (by decide), ⟨by decide, by decide +kernel⟩, by decide, by decide, h _ _ _⟩
theorem rd_l_bag : ∀ Ed ss Kd, ss.length = 2 → sp_l_bag Ed ss Kd → tb_l_bag (endsN Kd noE) (start0 N_l_bag ss) := by
  intro Ed ss Kd hl h
  unfold sp_l_bag at h
  split at h
  · rename_i ns i
    obtain ⟨h0, h1, h⟩ := h
    unfold tb_l_bag N_l_bag
    generalize hT : sSeq (sAsg (dOp (fInt2 (fun _ j => j ≠ 0) Int.fmod) _ _) (gN 3)) _ = T
    walk_at "pd"
    refine ⟨fun e => ?_, fun e => ?_⟩
    · obtain ⟨j, rfl⟩ : ∃ j : Nat, i = (j : Int) := ⟨i.toNat, by omega⟩
      have hj : j < ns.length := by omega
      rw [atI_nat (v := ns[j]) (List.getElem?_eq_getElem hj)]
      exact bag_tail _ _ h0 h1 h T hT.symm _
    · show (match intsD ((cutD ns none (some 1)).map D.int) with | some ms => _ | none => False)
      rw [ints_map]
      exact ⟨mul_okL (by decide) (by decide), bag_tail _ _ h0 h1 h T hT.symm _⟩
  · exact h.elim
theorem low_div {a b : Int} (hb : 0 < b) : low a b = (a.fdiv (Nat.gcd a.natAbs b.natAbs : Nat), b.fdiv (Nat.gcd a.natAbs b.natAbs : Nat)) := by
  unfold low
  simp only [if_pos hb]
theorem gcd_ne' {a b : Int} (h : b ≠ 0) : Nat.gcd a.natAbs b.natAbs ≠ 0 := by
  intro e
  have := (Nat.gcd_eq_zero_iff.mp e).2
  omega
theorem low_spec {a b : Int} (hb : b ≠ 0) : ∃ g : Int, g ≠ 0 ∧ a = g * (low a b).1 ∧ b = g * (low a b).2 ∧ g.natAbs = Nat.gcd a.natAbs b.natAbs ∧ 0 < (low a b).2 ∧ Nat.gcd (low a b).1.natAbs (low a b).2.natAbs = 1 := by
  have hg := gcd_ne' (a := a) hb
  obtain ⟨x, hx⟩ : ((Nat.gcd a.natAbs b.natAbs : Nat) : Int) ∣ a := by
    rw [Int.ofNat_dvd_left]
    exact Nat.gcd_dvd_left _ _
  obtain ⟨y, hy⟩ : ((Nat.gcd a.natAbs b.natAbs : Nat) : Int) ∣ b := by
    rw [Int.ofNat_dvd_left]
    exact Nat.gcd_dvd_right _ _
  have h1 : Nat.gcd x.natAbs y.natAbs = 1 := by
    have e1 : a.natAbs = Nat.gcd a.natAbs b.natAbs * x.natAbs := by
      have := congrArg Int.natAbs hx
      rw [Int.natAbs_mul, Int.natAbs_natCast] at this
      exact this
    have e2 : b.natAbs = Nat.gcd a.natAbs b.natAbs * y.natAbs := by
      have := congrArg Int.natAbs hy
      rw [Int.natAbs_mul, Int.natAbs_natCast] at this
      exact this
    have e3 : Nat.gcd a.natAbs b.natAbs = Nat.gcd a.natAbs b.natAbs * Nat.gcd x.natAbs y.natAbs := by
      have z := Nat.gcd_mul_left (Nat.gcd a.natAbs b.natAbs) x.natAbs y.natAbs
      rw [← e1, ← e2] at z
      exact z
    have e4 : Nat.gcd a.natAbs b.natAbs * Nat.gcd x.natAbs y.natAbs = Nat.gcd a.natAbs b.natAbs * 1 := by omega
    exact Nat.eq_of_mul_eq_mul_left (Nat.pos_of_ne_zero hg) e4
  generalize hG : Nat.gcd a.natAbs b.natAbs = G at *
  have G0 : (0 : Int) < (G : Int) := by omega
  by_cases hp : 0 < b
  · have e : low a b = (x, y) := by
      rw [low_div hp, hG, hx, hy, Int.fdiv_eq_ediv_of_nonneg _ (by omega), Int.fdiv_eq_ediv_of_nonneg _ (by omega), Int.mul_ediv_cancel_left _ (by omega), Int.mul_ediv_cancel_left _ (by omega)]
    rw [e]
    refine ⟨G, by omega, hx, hy, by omega, ?_, h1⟩
    have : 0 < (G : Int) * y := by rw [← hy]; exact hp
    exact Int.pos_of_mul_pos_right this G0 
  · have e : low a b = (-x, -y) := by
      have hx' : a = -(G : Int) * -x := by rw [Int.neg_mul_neg]; exact hx
      have hy' : b = -(G : Int) * -y := by rw [Int.neg_mul_neg]; exact hy
      unfold low
      simp only [if_neg hp, hG]
      conv => lhs; rw [hx', hy']
      rw [Int.mul_fdiv_cancel_left _ (by omega), Int.mul_fdiv_cancel_left _ (by omega)]
    rw [e]
    refine ⟨-G, by omega, by rw [Int.neg_mul_neg]; exact hx, by rw [Int.neg_mul_neg]; exact hy, by omega, ?_, by rw [Int.natAbs_neg, Int.natAbs_neg]; exact h1⟩
    have : (G : Int) * y < 0 := by rw [← hy]; omega
    have : y < 0 := by
      refine Int.not_le.mp fun z => ?_
      have := Int.mul_nonneg (Int.le_of_lt G0) z
      omega
    show 0 < -y
    omega
theorem gcdF2 (a b : Int) : gcdF 0 [a, b] = (Nat.gcd a.natAbs b.natAbs : Nat) := by simp [gcdF]
theorem fdiv_ex {g x : Int} (hg : g ≠ 0) : (g * x).fdiv g = x := Int.mul_fdiv_cancel_left _ hg
theorem gcd_small {n : Nat} {a b : Int} (hb : b ≠ 0) (h : small n b) : small n ((Nat.gcd a.natAbs b.natAbs : Nat) : Int) := by
  unfold small at *
  rw [Int.natAbs_natCast]
  exact Nat.lt_of_le_of_lt (Nat.gcd_le_right _ (by omega)) h
theorem pow_10 (n : Nat) : (10 : Int) ^ (Int.toNat (n : Int)) = 10 ^ n := rfl
theorem low_rt {a b : Int} (h1 : -(10 ^ 20) ≤ a) (h2 : a ≤ 10 ^ 20) (h3 : 0 < b) (h4 : b ≤ 10 ^ 20) : Rt (low a b) := by
  obtain ⟨g, hg, e1, e2, e3, e4, e5⟩ := low_spec (a := a) (b := b) (by omega)
  have hg1 : 1 ≤ g.natAbs := by omega
  have l1 : (low a b).1.natAbs ≤ a.natAbs := by
    have := congrArg Int.natAbs e1
    rw [Int.natAbs_mul] at this
    rw [this]
    exact Nat.le_mul_of_pos_left _ hg1
  have l2 : (low a b).2.natAbs ≤ b.natAbs := by
    have := congrArg Int.natAbs e2
    rw [Int.natAbs_mul] at this
    rw [this]
    exact Nat.le_mul_of_pos_left _ hg1
  exact ⟨by omega, by omega, e4, by omega, e5⟩
theorem divOk_gcd {n : Nat} {a b x : Int} (hb : b ≠ 0) (h : small n b) (hn : n < 9000) : DivOk x ((Nat.gcd a.natAbs b.natAbs : Nat) : Int) :=
  ⟨by have := gcd_ne' (a := a) hb; omega, log_small (gcd_small hb h) hn⟩
theorem divOk_neg {x g : Int} (h : DivOk x g) : DivOk x (g * -1) := ⟨by have := h.1; omega, by
  rw [Int.natAbs_mul]
  show (g.natAbs * 1).log2 < 9000
  rw [Nat.mul_one]
  exact h.2⟩
theorem p2le {m n : Nat} (h : m ≤ n) : (2 : Int) ^ m ≤ 2 ^ n := by
  have := Nat.pow_le_pow_right (show 2 > 0 by decide) h
  exact_mod_cast this
theorem e20 : (10 : Int) ^ (20 : Nat) = 100000000000000000000 := by decide
def rngB (lo hi : Int) : D → Bool
  | .int n => decide (lo ≤ n) && decide (n ≤ hi)
  | _ => false
theorem int_in {lo hi : Int} {ds : List D} {d : D} (h : ds.all (rngB lo hi) = true) (hd : d ∈ ds) : ∃ n, d = .int n ∧ lo ≤ n ∧ n ≤ hi := by
  have z := List.all_eq_true.mp h d hd
  cases d <;> first | (cases z; done) | skip
  have y := Bool.and_eq_true_iff.mp (show (decide _ && decide _) = true from z)
  exact ⟨_, rfl, of_decide_eq_true y.1, of_decide_eq_true y.2⟩
theorem rd_l_ratio : ∀ Ed ss Kd, ss.length = 1 → sp_l_ratio Ed ss Kd → tb_l_ratio (endsOf Kd noE) (start0 N_l_ratio ss) := by
  intro Ed ss Kd hl h
  unfold sp_l_ratio at h
  split at h
  · unfold tb_l_ratio N_l_ratio
    walk_at "ps"
    refine ⟨⟨by decide, by decide +kernel⟩, by decide, by simp, by decide, fun d hd => ?_⟩
    obtain ⟨n, rfl, n1, n2⟩ := int_in (lo := 1) (hi := 10 ^ 20) (by decide +kernel) hd
    have c1 : ∀ m : Nat, 100 ≤ m → n < 2 ^ m := fun m hm => Int.lt_of_le_of_lt n2 (Int.lt_of_lt_of_le (by decide : (10 : Int) ^ 20 < 2 ^ 100) (p2le hm))
    refine ⟨by omega, c1 _ (by decide), fun r r1 r2 => ⟨by omega, c1 _ (by decide), fun s s1 s2 => ⟨by decide, ?_⟩⟩⟩
    show (match some [r, 1 + s] with | some ns => _ | none => False)
    simp only [gcdF2]
    have hs : small 100 (1 + s) := by
      unfold small
      have := c1 100 (Nat.le_refl _)
      omega
    have hb : (1 + s) ≠ 0 := by omega
    refine ⟨divOk_gcd hb hs (by decide), divOk_gcd hb hs (by decide), by decide, ?_⟩
    have e := low_div (a := r) (b := 1 + s) (by omega)
    have z := h (low r (1 + s)) (low_rt (by omega) (by omega) (by omega) (by omega))
    rw [e] at z
    exact z
  · exact h.elim
theorem rd_l_lowered_pair : ∀ Ed ss Kd, ss.length = 2 → sp_l_lowered_pair Ed ss Kd → tb_l_lowered_pair (endsOf Kd noE) (start0 N_l_lowered_pair ss) := by
  intro Ed ss Kd hl h
  unfold sp_l_lowered_pair at h
  split at h
  · rename_i a b
    obtain ⟨h0, h1, h2, h⟩ := h
    unfold tb_l_lowered_pair N_l_lowered_pair
    walk_at "ps"
    refine ⟨by decide, ?_⟩
    show (match some [a, b] with | some ns => _ | none => False)
    simp only [gcdF2]
    have dk : ∀ x : Int, DivOk x ((Nat.gcd a.natAbs b.natAbs : Nat) : Int) := fun x => divOk_gcd h2 h1 (by decide)
    refine ⟨fun e => ?_, fun e => ?_⟩
    · rw [Int.mul_one]
      refine ⟨mul_okR (by decide) (by decide), dk _, dk _, by decide, ?_⟩
      rw [low_div e] at h
      exact h
    · refine ⟨mul_okR (by decide) (by decide), divOk_neg (dk _), divOk_neg (dk _), by decide, ?_⟩
      have z : low a b = (a.fdiv (((Nat.gcd a.natAbs b.natAbs : Nat) : Int) * -1), b.fdiv (((Nat.gcd a.natAbs b.natAbs : Nat) : Int) * -1)) := by
        have e1 : ((Nat.gcd a.natAbs b.natAbs : Nat) : Int) * -1 = -((Nat.gcd a.natAbs b.natAbs : Nat) : Int) := by omega
        rw [e1]
        unfold low
        simp only [if_neg e]
      rw [z] at h
      exact h
  · exact h.elim

/-! judged -/
theorem rep2 (x y : Bool) {k : D → Prop} (h : k (.str (D.lst [.bl x, .bl y]).py.shown)) : fRepr [.lst [.bl x, .bl y]] k :=
  ⟨rfl, by cases x <;> cases y <;> rfl, by cases x <;> cases y <;> exact of_decide_eq_true rfl, h⟩
theorem judged_loop (E : ES) (b : Sl) (l p q : D) (hE : ∀ o, E.nx [some b, some (.val l), o, some (.val p), some (.val q)]) : ∀ (ds : List D), (∀ d ∈ ds, okR d = true) → ∀ o,
    forD (gN 2) (sIf (dTest (dOp fNe (dCB fRepr (vCons (dLst (vCons (dCall 1 sp_is_integer (aCons (xVar 2) aNil)) (vCons (dCall 1 sp_is_ratio (aCons (xVar 2) aNil)) vNil))) vNil)) (dCB fRepr (vCons (dLst (vCons (dCall 1 sp_l_is_short (aCons (xVar 2) aNil)) (vCons (dCall 1 sp_l_is_ratio (aCons (xVar 2) aNil)) vNil))) vNil)))) (sRet (dC (D.bl false))) sPass)
      E ds [some b, some (.val l), o, some (.val p), some (.val q)]
  | [], _, o => hE o
  | d :: ds, h, o => by
    have hd := h d List.mem_cons_self
    have hn : d.noScr = true := by
      unfold okR at hd
      exact (Bool.and_eq_true_iff.mp hd).1
    unfold forD
    walk_at "ps"
    refine ⟨hn, hd, by decide, rep2 _ _ ⟨hn, hd, by decide, rep2 _ _ ?_⟩⟩
    refine ⟨fun e => ?_, fun e => ?_⟩
    · exact absurd e (by simp)
    · exact judged_loop E b l p q hE ds (fun d' h' => h d' (List.mem_cons_of_mem _ h')) _
theorem seq_g {A B : DTS} {E : ES} {ρ : Ev} (h : ∀ T : DTS, B = T → sSeq A T E ρ) : sSeq A B E ρ := h B rfl
theorem rd_l_judged : ∀ Ed ss Kd, ss.length = 1 → sp_l_judged Ed ss Kd → tb_l_judged (endsOf Kd noE) (start0 N_l_judged ss) := by
  intro Ed ss Kd hl h
  unfold sp_l_judged at h
  split at h
  · unfold tb_l_judged N_l_judged
    have pw : PowOk 10 60 := ⟨by decide, by decide +kernel⟩
    generalize hT : sSeq (sAsg (dOp fAdd _ _) _) _ = T
    walk_at "ps"
    intro p hp
    refine ⟨by decide, by decide, mul_okL (by decide) (by decide), mul_okL (by decide) (by decide), by decide, by decide, by decide, by decide, by decide, by decide, ?_⟩
    generalize hv1 : D.int p.1 = v1
    generalize hl1 : ([v1, _, _, _, _, _, _, _] : List D) = l1
    have n1 : l1.length = 8 := by rw [← hl1]; rfl
    have a1 : l1.all okR = true := by rw [← hl1, ← hv1]; rfl
    clear hl1
    subst hT
    refine seq_g fun T hT => ?_
    walk_at "ps"
    rw [n1]
    refine ⟨by decide, by decide, by decide, by decide, by decide, by decide, by decide, pw, pw, by decide, by decide, ?_⟩
    generalize hl2 : l1 ++ _ = l2
    have n2 : l2.length = 22 := by rw [← hl2, List.length_append, n1]; rfl
    have a2 : l2.all okR = true := by
      rw [← hl2, List.all_append, a1]
      simp [okR, D.noScr]
    clear hl2
    subst hT
    refine seq_g fun T hT => ?_
    walk_at "ps"
    rw [n2]
    refine ⟨pw, pw, pw, by decide, pw, by decide, pw, by decide, by decide, by decide, by decide, by decide, by decide, by decide, ?_⟩
    generalize hl3 : l2 ++ _ = l3
    have a3 : l3.all okR = true := by
      rw [← hl3, List.all_append, a2]
      simp [okR, D.noScr]
    clear hl3
    subst hT
    generalize hU : (sRet (dC (D.bl true)) : DTS) = U
    walk_at "ps"
    refine judged_loop _ _ _ _ _ (fun o => ?_) _ (fun d hd => List.all_eq_true.mp a3 d hd) none
    subst hU
    exact h
  · exact h.elim

/-- a ratio of numbers of at most N -/
structure RtN (N : Int) (p : Int × Int) : Prop where
  lo : -N ≤ p.1
  hi : p.1 ≤ N
  pos : 0 < p.2
  le : p.2 ≤ N
  co : Nat.gcd p.1.natAbs p.2.natAbs = 1
theorem Rt.n {p : Int × Int} (h : Rt p) : RtN (10 ^ 20) p := ⟨h.lo, h.hi, h.pos, h.le, h.co⟩
theorem low_rn {N a b : Int} (h1 : -N ≤ a) (h2 : a ≤ N) (h3 : 0 < b) (h4 : b ≤ N) : RtN N (low a b) := by
  obtain ⟨g, hg, e1, e2, e3, e4, e5⟩ := low_spec (a := a) (b := b) (by omega)
  have hg1 : 1 ≤ g.natAbs := by omega
  have l1 : (low a b).1.natAbs ≤ a.natAbs := by
    have := congrArg Int.natAbs e1
    rw [Int.natAbs_mul] at this
    rw [this]
    exact Nat.le_mul_of_pos_left _ hg1
  have l2 : (low a b).2.natAbs ≤ b.natAbs := by
    have := congrArg Int.natAbs e2
    rw [Int.natAbs_mul] at this
    rw [this]
    exact Nat.le_mul_of_pos_left _ hg1
  exact ⟨by omega, by omega, e4, by omega, e5⟩
theorem RtN.isR {N : Int} {p : Int × Int} (h : RtN N p) (hN : N < 10 ^ 60) : isR (rat p) = true := by
  have hi : ∀ x : Int, -N ≤ x → x ≤ N → isI (.int x) = true := fun x h1 h2 => by
    show (decide _ && decide _) = true
    rw [decide_eq_true (by omega), decide_eq_true (by omega)]
    rfl
  have h1 := hi p.1 h.lo h.hi
  have h2 := hi p.2 (by have := h.pos; have := h.le; omega) h.le
  show (isI (.int p.1) && isI (.int p.2) && decide (0 < p.2) && decide (Nat.gcd p.1.natAbs p.2.natAbs = 1)) = true
  rw [h1, h2, decide_eq_true h.pos, decide_eq_true h.co]
  rfl
theorem low_unique {x y a b : Int} (hy : y ≠ 0) (hb : 0 < b) (hc : Nat.gcd a.natAbs b.natAbs = 1) (e : x * b = a * y) : low x y = (a, b) := by
  obtain ⟨g, hg, e1, e2, e3, e4, e5⟩ := low_spec (a := x) (b := y) hy
  generalize low x y = p at *
  obtain ⟨u, v⟩ := p
  simp only at e1 e2 e4 e5 ⊢
  have k : u * b = a * v := by
    have : g * (u * b) = g * (a * v) := by
      rw [e1, e2] at e
      grind
    exact Int.eq_of_mul_eq_mul_left hg this
  have kn : u.natAbs * b.natAbs = a.natAbs * v.natAbs := by
    have := congrArg Int.natAbs k
    rwa [Int.natAbs_mul, Int.natAbs_mul] at this
  have d1 : v.natAbs ∣ b.natAbs := (Nat.Coprime.symm e5).dvd_of_dvd_mul_left ⟨a.natAbs, by rw [kn, Nat.mul_comm]⟩
  have d2 : b.natAbs ∣ v.natAbs := (Nat.Coprime.symm hc).dvd_of_dvd_mul_left ⟨u.natAbs, by rw [← kn, Nat.mul_comm]⟩
  have ev : v.natAbs = b.natAbs := Nat.dvd_antisymm d1 d2
  have ev' : v = b := by omega
  subst ev'
  have eu : u = a := Int.eq_of_mul_eq_mul_right (by omega) k
  rw [eu]
theorem mul_le_N {a b A B : Int} (h1 : -A ≤ a) (h2 : a ≤ A) (h3 : -B ≤ b) (h4 : b ≤ B) : -(A * B) ≤ a * b ∧ a * b ≤ A * B := by
  have hA : a.natAbs ≤ A.natAbs := by omega
  have hB : b.natAbs ≤ B.natAbs := by omega
  have h := Nat.mul_le_mul hA hB
  have e1 : (a * b).natAbs = a.natAbs * b.natAbs := Int.natAbs_mul _ _
  have e2 : (A * B).natAbs = A.natAbs * B.natAbs := Int.natAbs_mul _ _
  have hAB : 0 ≤ A * B := Int.mul_nonneg (by omega) (by omega)
  omega
theorem cmp_neg (x y : Int) : cmpI y x = -cmpI x y := by
  unfold cmpI
  split <;> split <;> omega
theorem cmp_due {x y due : Int} (h : (x = y ∧ due = 0) ∨ (y < x ∧ due = 1) ∨ (x < y ∧ due = -1)) : cmpI x y = due := by
  unfold cmpI
  split <;> split <;> omega
/-- the sum of the difference and the other -/
theorem back_plus {a b c d : Int} (hb : 0 < b) (hd : 0 < d) (hc : Nat.gcd a.natAbs b.natAbs = 1) : low ((low (a * d - c * b) (b * d)).1 * d + c * (low (a * d - c * b) (b * d)).2) ((low (a * d - c * b) (b * d)).2 * d) = (a, b) := by
  have hbd : 0 < b * d := Int.mul_pos hb hd
  obtain ⟨g, hg, e1, e2, e3, e4, e5⟩ := low_spec (a := a * d - c * b) (b := b * d) (by omega)
  generalize low (a * d - c * b) (b * d) = m at *
  obtain ⟨m1, m2⟩ := m
  simp only at *
  refine low_unique (Int.mul_ne_zero (by omega) (by omega)) hb hc ?_
  refine Int.eq_of_mul_eq_mul_left hg ?_
  grind
theorem back_minus {a b c d : Int} (hb : 0 < b) (hd : 0 < d) (hc : Nat.gcd c.natAbs d.natAbs = 1) : low ((low (a * d + c * b) (b * d)).1 * b - a * (low (a * d + c * b) (b * d)).2) ((low (a * d + c * b) (b * d)).2 * b) = (c, d) := by
  have hbd : 0 < b * d := Int.mul_pos hb hd
  obtain ⟨g, hg, e1, e2, e3, e4, e5⟩ := low_spec (a := a * d + c * b) (b := b * d) (by omega)
  generalize low (a * d + c * b) (b * d) = m at *
  obtain ⟨m1, m2⟩ := m
  simp only at *
  refine low_unique (Int.mul_ne_zero (by omega) (by omega)) hd hc ?_
  refine Int.eq_of_mul_eq_mul_left hg ?_
  grind
theorem sign_low {a b c d : Int} (hb : 0 < b) (hd : 0 < d) : cmpI ((low (a * d - c * b) (b * d)).1 * 1) (0 * (low (a * d - c * b) (b * d)).2) = cmpI (a * d) (c * b) := by
  have hbd : 0 < b * d := Int.mul_pos hb hd
  obtain ⟨g, hg, e1, e2, e3, e4, e5⟩ := low_spec (a := a * d - c * b) (b := b * d) (by omega)
  generalize low (a * d - c * b) (b * d) = m at *
  obtain ⟨m1, m2⟩ := m
  simp only at *
  have g0 : 0 < g := by
    refine Int.not_le.mp fun z => ?_
    have := Int.mul_nonneg (show 0 ≤ -g by omega) (Int.le_of_lt e4)
    rw [Int.neg_mul] at this
    omega
  rw [Int.mul_one, Int.zero_mul]
  refine cmp_due ?_
  rcases Int.lt_trichotomy m1 0 with h | h | h
  · have : g * m1 < 0 := Int.mul_neg_of_pos_of_neg g0 h
    refine .inr (.inr ⟨h, ?_⟩)
    exact cmp_due (.inr (.inr ⟨by omega, rfl⟩))
  · refine .inl ⟨h, ?_⟩
    rw [h, Int.mul_zero] at e1
    exact cmp_due (.inl ⟨by omega, rfl⟩)
  · have : 0 < g * m1 := Int.mul_pos g0 h
    refine .inr (.inl ⟨h, ?_⟩)
    exact cmp_due (.inr (.inl ⟨by omega, rfl⟩))

theorem flat_rat (p : Int × Int) : D.flat 64 (rat p) = true := rfl
theorem flat_rat3 (p q r : Int × Int) : D.flat 64 (.lst [rat p, rat q, rat r]) = true := rfl
theorem eqv_rat (p q : Int × Int) : D.eqv (rat p) (rat q) = decide (p = q) := by
  obtain ⟨a, b⟩ := p
  obtain ⟨c, d⟩ := q
  show PyData.eqv _ _ = _
  simp only [D.py, pys, PyData.eqv, PyData.eqvAll]
  by_cases h1 : a = c <;> by_cases h2 : b = d <;> simp [h1, h2]
theorem eqv_rat3 (p q r p' q' r' : Int × Int) : D.eqv (.lst [rat p, rat q, rat r]) (.lst [rat p', rat q', rat r']) = (decide (p = p') && (decide (q = q') && decide (r = r'))) := by
  have e : D.eqv (.lst [rat p, rat q, rat r]) (.lst [rat p', rat q', rat r']) = (D.eqv (rat p) (rat p') && (D.eqv (rat q) (rat q') && (D.eqv (rat r) (rat r') && true))) := by
    show PyData.eqv _ _ = _
    simp only [D.eqv, D.py, pys, PyData.eqv, PyData.eqvAll]
  rw [e, eqv_rat, eqv_rat, eqv_rat, Bool.and_true]
theorem repI {d : Int} {k : D → Prop} (h : k (.str (D.int d).py.shown)) (h1 : (D.int d).py.showable = true) (h2 : (D.int d).py.shown.length ≤ 1000000) : fRepr [.int d] k := ⟨rfl, h1, h2, h⟩
theorem cmp_cases (x y : Int) : cmpI x y = 0 ∨ cmpI x y = 1 ∨ cmpI x y = -1 := by
  unfold cmpI
  split <;> split <;> omega
theorem repC {x y : Int} {k : D → Prop} (h : k (.str (D.int (cmpI x y)).py.shown)) : fRepr [.int (cmpI x y)] k := by
  rcases cmp_cases x y with e | e | e <;> rw [e] at h ⊢ <;> exact repI h (by decide +kernel) (by decide +kernel)
theorem RtN.small {N : Int} {p : Int × Int} (h : RtN N p) (hN : N < 10 ^ 60) : small 300 p.1 ∧ small 300 p.2 := by
  have e : ((2 : Nat) ^ 300 : Nat) > 10 ^ 60 := by decide +kernel
  have h1 := h.lo
  have h2 := h.hi
  have h3 := h.pos
  have h4 := h.le
  unfold PD.small
  omega
/-- the last part of reckoned -/
theorem reck_tail {a b c d due : Int} (hp : RtN (10 ^ 20) (a, b)) (hq : RtN (10 ^ 20) (c, d)) (hdue : cmpI (a * d) (c * b) = due) {Kd : D → Prop} (h : Kd (.bl true)) (T : DTS)
    (hT : T = sSeq (sAsg (dLst (vCons (dCall 2 sp_plus (aCons (xVar 3) (aCons (xVar 4) (aNil)))) (vCons (dCall 2 sp_minus (aCons (xVar 3) (aCons (xVar 4) (aNil)))) (vCons (dCall 2 sp_times (aCons (xVar 3) (aCons (xVar 4) (aNil)))) (vNil))))) (gN 2)) (sSeq (sIf (dTest (dOp fNe (dVar 2) (dLst (vCons (dCall 2 sp_l_lowered_pair (aCons (xVal (dOp fAdd (dOp fRep (dVar 5) (dVar 8)) (dOp fRep (dVar 7) (dVar 6)))) (aCons (xVal (dOp fRep (dVar 6) (dVar 8))) (aNil)))) (vCons (dCall 2 sp_l_lowered_pair (aCons (xVal (dOp fSub (dOp fRep (dVar 5) (dVar 8)) (dOp fRep (dVar 7) (dVar 6)))) (aCons (xVal (dOp fRep (dVar 6) (dVar 8))) (aNil)))) (vCons (dCall 2 sp_l_lowered_pair (aCons (xVal (dOp fRep (dVar 5) (dVar 7))) (aCons (xVal (dOp fRep (dVar 6) (dVar 8))) (aNil)))) (vNil))))))) (sRet (dC (.bl false))) (sPass)) (sRet (dAndV (dOp fEq (dCall 2 sp_plus (aCons (xVal (dOp fIx (dVar 2) (dC (.int 1)))) (aCons (xVar 4) (aNil)))) (dVar 3)) (dAndV (dOp fEq (dCall 2 sp_minus (aCons (xVal (dOp fIx (dVar 2) (dC (.int 0)))) (aCons (xVar 3) (aNil)))) (dVar 4)) (dOp fEq (dCall 2 sp_compare (aCons (xVal (dOp fIx (dVar 2) (dC (.int 1)))) (aCons (xVal (dTup (vCons (dC (.int 0)) (vCons (dC (.int 1)) (vNil))))) (aNil)))) (dVar 1))))))) :
    T (endsOf Kd noE) [some .bag, some (.val (.int due)), none, some (.val (rat (a, b))), some (.val (rat (c, d))), some (.val (.int a)), some (.val (.int b)), some (.val (.int c)), some (.val (.int d))] := by
  have hb := hp.pos
  have hd := hq.pos
  simp only at hb hd
  have hbd : 0 < b * d := Int.mul_pos hb hd
  have i1 := hp.isR (by decide)
  have i2 := hq.isR (by decide)
  have B1 := mul_le_N hp.lo hp.hi (show -(10 ^ 20) ≤ d by omega) hq.le
  have B2 := mul_le_N hq.lo hq.hi (show -(10 ^ 20) ≤ b by omega) hp.le
  have B3 := mul_le_N hp.lo hp.hi hq.lo hq.hi
  have B4 := mul_le_N (show -(10 ^ 20) ≤ b by omega) hp.le (show -(10 ^ 20) ≤ d by omega) hq.le
  simp only at B1 B2 B3 B4
  have r1 : RtN (10 ^ 41) (low (a * d + c * b) (b * d)) := low_rn (by omega) (by omega) hbd (by omega)
  have r2 : RtN (10 ^ 41) (low (a * d - c * b) (b * d)) := low_rn (by omega) (by omega) hbd (by omega)
  have j1 := r1.isR (by decide)
  have j2 := r2.isR (by decide)
  have bp := back_plus (a := a) (b := b) (c := c) (d := d) hb hd hp.co
  have bm := back_minus (a := a) (b := b) (c := c) (d := d) hb hd hq.co
  have sl := sign_low (a := a) (b := b) (c := c) (d := d) hb hd
  rw [hdue] at sl
  rw [hT]
  clear hT T
  have sm : ∀ x : Int, -(10 ^ 20) ≤ x → x ≤ 10 ^ 20 → small 100 x := fun x h1 h2 => by
    unfold PD.small
    omega
  have mk : ∀ x y : Int, -(10 ^ 20) ≤ x → x ≤ 10 ^ 20 → -(10 ^ 20) ≤ y → y ≤ 10 ^ 20 → MulOk x y := fun x y h1 h2 h3 h4 => mul_ok (sm x h1 h2) (sm y h3 h4) (by decide)
  have la := hp.lo
  have ua := hp.hi
  have lc := hq.lo
  have uc := hq.hi
  have ub := hp.le
  have ud := hq.le
  simp only at la ua lc uc ub ud
  have m1 := mk a d la ua (by omega) ud
  have m2 := mk c b lc uc (by omega) ub
  have m3 := mk b d (by omega) ub (by omega) ud
  have m4 := mk a c la ua lc uc
  have sb : ∀ x : Int, -(10 ^ 41) ≤ x → x ≤ 10 ^ 41 → small 1000 x := fun x h1 h2 => by
    have e : ((2 : Nat) ^ 1000 : Nat) > 10 ^ 42 := by decide +kernel
    unfold PD.small
    omega
  have s1 := sb (a * d + c * b) (by omega) (by omega)
  have s2 := sb (b * d) (by omega) (by omega)
  have s3 := sb (a * d - c * b) (by omega) (by omega)
  have s4 := sb (a * c) (by omega) (by omega)
  have nz : b * d ≠ 0 := by omega
  have z1 : isR (rat (0, 1)) = true := by decide +kernel
  walk_at "ps"
  refine ⟨i1, i2, i1, i2, i1, i2, by decide, m1, m2, m3, s1, s2, nz, m1, m2, m3, s3, s2, nz, m4, m3, s4, s2, nz, by decide, rfl, rfl, fun e => ?_, fun _ => ?_⟩
  · rw [eqv_rat3] at e
    simp at e
  · rw [bp, bm, sl]
    simp only [eqv_rat, decide_true]
    walk_at "go"
    all_goals first | decide | rfl | skip
    all_goals trace_state

theorem seq_gg {A B : DTS} {E : ES} {ρ : Ev} (h : ∀ T : DTS, T = B → sSeq A T E ρ) : sSeq A B E ρ := h B rfl
theorem reck_mid {p q : Int × Int} (hp : Rt p) (hq : Rt q) {Kd : D → Prop} (h : Kd (.bl true)) (T : DTS) (T2 : DTS)
    (hT2 : ∀ due, cmpI (p.1 * q.2) (q.1 * p.2) = due → T2 (endsOf Kd noE) [some .bag, some (.val (.int due)), none, some (.val (rat p)), some (.val (rat q)), some (.val (.int p.1)), some (.val (.int p.2)), some (.val (.int q.1)), some (.val (.int q.2))])
    (hT : T = sSeq (sAsg (dTup (vCons (dVar 3) (vCons (dVar 4) (vNil)))) (gT 2 (gsC (gT 2 (gsC (gN 5) (gsC (gN 6) (gsN)))) (gsC (gT 2 (gsC (gN 7) (gsC (gN 8) (gsN)))) (gsN))))) (sSeq (sAsg (dIf (dTest (dOp fEq (dOp fRep (dVar 5) (dVar 8)) (dOp fRep (dVar 7) (dVar 6)))) (dC (.int 0)) (dIf (dTest (dOp (fCmp fun i j => decide (j < i)) (dOp fRep (dVar 5) (dVar 8)) (dOp fRep (dVar 7) (dVar 6)))) (dC (.int 1)) (dNeg (dC (.int 1))))) (gN 1)) (sSeq (sIf (dOr (dTest (dOp fNe (dCB fRepr (vCons (dCall 2 sp_compare (aCons (xVar 3) (aCons (xVar 4) (aNil)))) (vNil))) (dCB fRepr (vCons (dVar 1) (vNil))))) (dTest (dOp fNe (dCall 2 sp_compare (aCons (xVar 4) (aCons (xVar 3) (aNil)))) (dNeg (dVar 1))))) (sRet (dC (.bl false))) (sPass)) T2))) :
    T (endsOf Kd noE) [some .bag, none, none, some (.val (rat p)), some (.val (rat q)), none, none, none, none] := by
  have i1 := hp.n.isR (by decide)
  have i2 := hq.n.isR (by decide)
  obtain ⟨a, b⟩ := p
  obtain ⟨c, d⟩ := q
  have la := hp.lo
  have ua := hp.hi
  have lc := hq.lo
  have uc := hq.hi
  have ub := hp.le
  have ud := hq.le
  have hb := hp.pos
  have hd := hq.pos
  simp only at la ua lc uc ub ud hb hd hT2
  have sm : ∀ x : Int, -(10 ^ 20) ≤ x → x ≤ 10 ^ 20 → small 100 x := fun x h1 h2 => by
    unfold PD.small
    omega
  have m1 : MulOk a d := mul_ok (sm a la ua) (sm d (by omega) ud) (by decide)
  have m2 : MulOk c b := mul_ok (sm c lc uc) (sm b (by omega) ub) (by decide)
  rw [hT]
  walk_at "ps"
  have e0 : a * d = c * b → cmpI (a * d) (c * b) = 0 := fun e => cmp_due (.inl ⟨e, rfl⟩)
  have e1 : c * b < a * d → cmpI (a * d) (c * b) = 1 := fun e => cmp_due (.inr (.inl ⟨e, rfl⟩))
  have e2 : ¬a * d = c * b → ¬c * b < a * d → cmpI (a * d) (c * b) = -1 := fun e e' => cmp_due (.inr (.inr ⟨by omega, rfl⟩))
  have n := cmp_neg (a * d) (c * b)
  refine ⟨by decide, m1, m2, fun e => ?_, fun e => ⟨m1, m2, fun e' => ?_, fun e' => ?_⟩⟩
  · have k := e0 e
    rw [k] at n
    refine ⟨i1, i2, ?_⟩
    rw [k, n]
    exact repI (repI ⟨fun z => absurd rfl z, fun _ => ⟨i2, i1, fun z => absurd rfl z, fun _ => hT2 _ k⟩⟩ (by decide +kernel) (by decide +kernel)) (by decide +kernel) (by decide +kernel)
  · have k := e1 e'
    rw [k] at n
    refine ⟨i1, i2, ?_⟩
    rw [k, n]
    exact repI (repI ⟨fun z => absurd rfl z, fun _ => ⟨i2, i1, fun z => absurd rfl z, fun _ => hT2 _ k⟩⟩ (by decide +kernel) (by decide +kernel)) (by decide +kernel) (by decide +kernel)
  · have k := e2 e e'
    rw [k] at n
    refine ⟨i1, i2, ?_⟩
    rw [k, n]
    exact repI (repI ⟨fun z => absurd rfl z, fun _ => ⟨i2, i1, fun z => absurd rfl z, fun _ => hT2 _ k⟩⟩ (by decide +kernel) (by decide +kernel)) (by decide +kernel) (by decide +kernel)
theorem rd_l_reckoned : ∀ Ed ss Kd, ss.length = 1 → sp_l_reckoned Ed ss Kd → tb_l_reckoned (endsOf Kd noE) (start0 N_l_reckoned ss) := by
  intro Ed ss Kd hl h
  unfold sp_l_reckoned at h
  split at h
  · unfold tb_l_reckoned N_l_reckoned
    generalize hT : sSeq (sAsg (dTup _) _) _ = T
    have key : ∀ p q, Rt p → Rt q → T (endsOf Kd noE) [some .bag, none, none, some (.val (rat p)), some (.val (rat q)), none, none, none, none] := fun p q hp hq =>
      reck_mid hp hq h T _ (fun due hdue => reck_tail hp.n hq.n hdue h _ rfl) hT.symm
    clear hT
    walk_at "ps"
    intro p hp q hq
    refine ⟨by decide, by decide, fun r h1 h2 => ⟨fun e => key p p hp hp, fun e => key p q hp hq⟩⟩
  · exact h.elim

theorem lcD_inv {i : Nat} {Te : DTE} {ρ : Ev} {K : D → Prop} (P : D → Prop) : ∀ (ds acc : List D), (∀ d ∈ ds, ∀ k : D → Prop, (∀ v, P v → k v) → Te noE (ρ.set i (some (.val d))) k) → (∀ vs : List D, vs.length = acc.length + ds.length → (∀ v ∈ vs, v ∈ acc ∨ P v) → K (.lst vs)) → lcD (gN i) dYes Te ρ K ds acc
  | [], acc, _, h => by unfold lcD; exact h acc (by simp) fun v hv => .inl hv
  | d :: ds, acc, ht, h => ⟨fun _ => ht d List.mem_cons_self _ fun v hv => lcD_inv P ds (acc ++ [v]) (fun e he => ht e (List.mem_cons_of_mem _ he)) fun vs hl hm => h vs (by simp only [List.length_append, List.length_cons, List.length_nil] at hl ⊢; omega) fun u hu => by
      rcases hm u hu with z | z
      · rcases List.mem_append.mp z with z | z
        · exact .inl z
        · cases List.mem_singleton.mp z
          exact .inr hv
      · exact .inr z, fun e => by cases e⟩
theorem gcdF_zeros : ∀ (m : Nat) (f : Int), 0 ≤ f → gcdF f (List.replicate m 0) = f
  | 0, f, _ => rfl
  | m + 1, f, h => by
    show gcdF (Nat.gcd f.natAbs 0 : Nat) (List.replicate m 0) = f
    rw [Nat.gcd_zero_right]
    have e : ((f.natAbs : Nat) : Int) = f := by omega
    rw [e]
    exact gcdF_zeros m f h
theorem gcdF_nn : ∀ (ns : List Int) (f : Int), 0 ≤ f → 0 ≤ gcdF f ns
  | [], f, h => h
  | n :: ns, f, h => gcdF_nn ns _ (Int.natCast_nonneg _)
theorem gcdF_app (ns ms : List Int) (f : Int) : gcdF f (ns ++ ms) = gcdF (gcdF f ns) ms := List.foldl_append
theorem isI_ints : ∀ {vs : List D}, (∀ v ∈ vs, isI v = true) → ∃ ns : List Int, vs = ns.map D.int
  | [], _ => ⟨[], rfl⟩
  | v :: vs, h => by
    obtain ⟨a, rfl⟩ := isI_int (h v List.mem_cons_self)
    obtain ⟨ns, rfl⟩ := isI_ints fun v' h' => h v' (List.mem_cons_of_mem _ h')
    exact ⟨a :: ns, rfl⟩
theorem low_rn2 {N a b : Int} (h1 : -N ≤ a) (h2 : a ≤ N) (h3 : b ≠ 0) (h4 : -N ≤ b) (h5 : b ≤ N) : RtN N (low a b) := by
  obtain ⟨g, hg, e1, e2, e3, e4, e5⟩ := low_spec (a := a) (b := b) h3
  have hg1 : 1 ≤ g.natAbs := by omega
  have l1 : (low a b).1.natAbs ≤ a.natAbs := by
    have := congrArg Int.natAbs e1
    rw [Int.natAbs_mul] at this
    rw [this]
    exact Nat.le_mul_of_pos_left _ hg1
  have l2 : (low a b).2.natAbs ≤ b.natAbs := by
    have := congrArg Int.natAbs e2
    rw [Int.natAbs_mul] at this
    rw [this]
    exact Nat.le_mul_of_pos_left _ hg1
  exact ⟨by omega, by omega, e4, by omega, e5⟩
theorem low_zero {b : Int} (h : b ≠ 0) : low 0 b = (0, 1) := low_unique h (by decide) (by decide) (by omega)
theorem rd_l_lowered : ∀ Ed ss Kd, ss.length = 1 → sp_l_lowered Ed ss Kd → tb_l_lowered (endsOf Kd noE) (start0 N_l_lowered ss) := by
  intro Ed ss Kd hl h
  unfold sp_l_lowered at h
  split at h
  · unfold tb_l_lowered N_l_lowered
    refine seq_gg fun T hT => ?_
    walk_at "ps"
    refine ⟨⟨by decide, by decide +kernel⟩, by decide, by simp, by decide, fun d hd => ?_⟩
    obtain ⟨hi, rfl, n1, n2⟩ := int_in (lo := 1) (hi := 10 ^ 25) (by decide +kernel) hd
    clear hd
    subst hT
    refine seq_gg fun T hT => ?_
    walk_at "ps"
    refine ⟨⟨by decide, by decide +kernel⟩, by decide, by simp, by decide, fun d hd => ?_⟩
    obtain ⟨sh, rfl, p1, p2⟩ := int_in (lo := 1) (hi := 10 ^ 30) (by decide +kernel) hd
    clear hd
    have sm : ∀ x : Int, -(10 ^ 60) ≤ x → x ≤ 10 ^ 60 → small 300 x := fun x h1 h2 => by
      unfold PD.small
      omega
    have mk : ∀ x y : Int, -(10 ^ 60) ≤ x → x ≤ 10 ^ 60 → -(10 ^ 60) ≤ y → y ≤ 10 ^ 60 → MulOk x y := fun x y h1 h2 h3 h4 => mul_ok (sm x h1 h2) (sm y h3 h4) (by decide)
    have c1 : ∀ m : Nat, 100 ≤ m → hi < 2 ^ m := fun m hm => Int.lt_of_le_of_lt n2 (Int.lt_of_lt_of_le (by decide : (10 : Int) ^ 25 < 2 ^ 100) (p2le hm))
    subst hT
    refine seq_gg fun T hT => ?_
    walk_at "ps"
    refine ⟨by decide, by simp, by decide, fun d hd => ?_⟩
    obtain ⟨n, rfl, q1, q2⟩ := int_in (lo := 1) (hi := 100) (by decide +kernel) hd
    clear hd
    have hr : (rngD 0 n.toNat).length = n.toNat := by simp [rngD]
    refine ⟨by omega, by omega, by omega, lcD_inv (fun v => isI v = true) _ _ (fun d hd k hk => ?_) fun vs hl hm => ?_⟩
    · walk_at "ps"
      refine ⟨by omega, c1 _ (by decide), fun r r1 r2 => ?_⟩
      have B := mul_le_N (show -(10 ^ 30) ≤ sh by omega) p2 (show -(10 ^ 25) ≤ r by omega) (show r ≤ 10 ^ 25 by omega)
      refine ⟨mk _ _ (by omega) (by omega) (by omega) (by omega), hk _ ?_⟩
      show (decide _ && decide _) = true
      rw [decide_eq_true (by omega), decide_eq_true (by omega)]
      rfl
    · subst hT
      have hal : ∀ v ∈ vs, isI v = true := fun v hv => by
        rcases hm v hv with z | z
        · cases z
        · exact z
      have hle : 1 ≤ vs.length ∧ vs.length ≤ 100 := by
        rw [hl, hr]
        simp only [List.length_nil]
        omega
      obtain ⟨ns, rfl⟩ := isI_ints hal
      have ez : (List.replicate (100 - ((ns.map D.int).length : Int)).toNat [D.int 0]).flatten = (List.replicate (100 - ((ns.map D.int).length : Int)).toNat (0 : Int)).map D.int := by
        generalize (100 - ((ns.map D.int).length : Int)).toNat = m
        induction m with
        | zero => rfl
        | succ m ih =>
          rw [List.replicate_succ, List.replicate_succ, List.flatten_cons, ih]
          rfl
      refine seq_gg fun T hT => ?_
      walk_at "ps"
      rw [ez, ← List.map_append]
      simp only [show seqI (.tup (ns.map D.int)) = some ns from ints_map ns, ints_map, List.all_append, List.length_map, List.length_append, List.length_replicate, gcdF_app, gcdF_zeros _ _ (gcdF_nn ns 0 (Int.le_refl 0))]
      rw [List.length_map] at hle
      have a1 : (ns.map D.int).all isI = true := List.all_eq_true.mpr hal
      have a2 : ((ns ++ List.replicate (100 - (ns.length : Int)).toNat (0 : Int)).map D.int).all isI = true := by
        rw [List.map_append, List.all_append, a1, Bool.true_and]
        refine List.all_eq_true.mpr fun v hv => ?_
        obtain ⟨x, hx, rfl⟩ := List.mem_map.mp hv
        have := (List.mem_replicate.mp hx).2
        subst this
        decide
      refine ⟨hle.1, hle.2, a1, fun z => absurd trivial z, fun _ => ⟨by decide, by omega, by omega, by decide, by omega, by omega, by omega, a2, fun z => absurd trivial z, fun _ => ?_⟩⟩
      subst hT
      walk_at "ps"
      refine ⟨by omega, c1 _ (by decide), fun r r1 r2 => ?_⟩
      have B := mul_le_N (show -(10 ^ 30) ≤ sh by omega) p2 (show -(10 ^ 25) ≤ r by omega) (show r ≤ 10 ^ 25 by omega)
      refine ⟨mk _ _ (by omega) (by omega) (by omega) (by omega), by omega, c1 _ (by decide), fun u u1 u2 => ?_⟩
      have C := mul_le_N (show -(10 ^ 30) ≤ sh by omega) p2 (show -(10 ^ 25) ≤ 1 + u by omega) (show 1 + u ≤ 10 ^ 25 by omega)
      have C0 : 0 < sh * (1 + u) := Int.mul_pos (by omega) (by omega)
      refine ⟨mk _ _ (by omega) (by omega) (by omega) (by omega), by decide, by simp, by decide, fun d hd => ?_⟩
      obtain ⟨sg, rfl, hsg⟩ : ∃ sg, d = .int sg ∧ (sg = 1 ∨ sg = -1) := by
        rcases List.mem_cons.mp hd with rfl | hd
        · exact ⟨_, rfl, .inl rfl⟩
        · exact ⟨_, List.mem_singleton.mp hd, .inr rfl⟩
      clear hd
      have em : sh * (1 + u) * sg = sh * (1 + u) ∨ sh * (1 + u) * sg = -(sh * (1 + u)) := by
        rcases hsg with rfl | rfl
        · exact .inl (Int.mul_one _)
        · exact .inr (by omega)
      have mo : MulOk (sh * (1 + u)) sg := by
        rcases hsg with rfl | rfl <;> exact mul_okR (by decide) (by decide)
      dsimp only
      generalize sh * (1 + u) * sg = bt at *
      generalize sh * (1 + u) = bq at *
      generalize sh * r = tp at *
      have b0 : bt ≠ 0 := by omega
      have b1 : -(10 ^ 55) ≤ bt := by omega
      have b2 : bt ≤ 10 ^ 55 := by omega
      have t1 : -(10 ^ 55) ≤ tp := by omega
      have t2 : tp ≤ 10 ^ 55 := by omega
      have iI : ∀ x : Int, -(10 ^ 55) ≤ x → x ≤ 10 ^ 55 → isI (.int x) = true := fun x h1 h2 => by
        show (decide _ && decide _) = true
        rw [decide_eq_true (by omega), decide_eq_true (by omega)]
        rfl
      have i1 := iI tp t1 t2
      have i2 := iI bt b1 b2
      have i0 := iI 0 (by decide) (by decide)
      have rn := (low_rn2 t1 t2 b0 b1 b2).isR (by decide)
      have e0 := low_zero b0
      have sb : ∀ x : Int, -(10 ^ 55) ≤ x → x ≤ 10 ^ 55 → small 1000 x := fun x h1 h2 => by
        unfold PD.small
        have e : ((2 : Nat) ^ 1000 : Nat) > 10 ^ 56 := by decide +kernel
        omega
      have s1 := sb tp t1 t2
      have s2 := sb bt b1 b2
      rw [e0]
      refine ⟨mo, i1, i2, b0, s1, s2, b0, rfl, rfl, fun _ => ⟨i1, i2, b0, rfl, fun _ => ⟨i0, i2, b0, by decide, rfl, rfl, ?_⟩, fun z => ?_⟩, fun z => ?_⟩
      · have e1 : D.eqv (rat (0, 1)) (.tup [.int 0, .int 1]) = true := by
          have := eqv_rat (0, 1) (0, 1)
          simpa using this
        rw [e1]
        exact h
      · rw [rn] at z
        cases z
      · rw [eqv_rat] at z
        simp at z
  · exact h.elim

theorem forD_inv {G : DTG} {S : DTS} {E : ES} (Inv : Ev → Prop) (hE : ∀ ρ, Inv ρ → E.nx ρ) : ∀ (ds : List D) (ρ : Ev), Inv ρ →
    (∀ d ∈ ds, ∀ ρ, Inv ρ → ∀ nx : Ev → Prop, (∀ ρ', Inv ρ' → nx ρ') → G d ρ fun ρ1 => S { E with nx := nx, ct := nx, bk := E.nx } ρ1) → forD G S E ds ρ
  | [], ρ, h, _ => hE ρ h
  | d :: ds, ρ, h, hs => by
    unfold forD
    exact hs d List.mem_cons_self ρ h _ fun ρ' h' => forD_inv Inv hE ds ρ' h' fun e he => hs e (List.mem_cons_of_mem _ he)
theorem rngD_mem {lo : Int} {n : Nat} {d : D} (h : d ∈ rngD lo n) : ∃ i : Nat, d = .int (lo + i) ∧ i < n := by
  unfold rngD at h
  obtain ⟨i, hi, rfl⟩ := List.mem_map.mp h
  exact ⟨i, rfl, List.mem_range.mp hi⟩
theorem rd_law : ∀ Ed ss Kd, ss.length = 1 → sp_law Ed ss Kd → tb_law (endsOf Kd noE) (start0 N_law ss) := by
  intro Ed ss Kd hl h
  unfold sp_law at h
  split at h
  · rename_i ns
    obtain ⟨hn, h⟩ := h
    unfold tb_law N_law
    refine seq_gg fun T hT => ?_
    generalize hF : sFor (iR1 (dC (D.int 3))) _ _ = F
    generalize hS : sSeq (sBagCall _ _ _ _) _ = S
    walk_at "ps"
    have hlen : ∀ x : Int, 0 ≤ x → x ≤ 63 → 0 ≤ (if (if x < 3 then x else 3) > 1 then (if x < 3 then x else 3) else 1) ∧ (if (if x < 3 then x else 3) > 1 then (if x < 3 then x else 3) else 1) ≤ 3 := fun x h1 h2 => by
      split <;> split <;> omega
    have hl2 := hlen ns.length (by omega) (by omega)
    generalize (if (if (ns.length : Int) < 3 then (ns.length : Int) else 3) > 1 then (if (ns.length : Int) < 3 then (ns.length : Int) else 3) else 1) = n at *
    refine ⟨by omega, by omega, forD_inv (fun ρ => ∃ o1 o3 o4, ρ = [some (.val (.scr ns)), o1, none, o3, o4]) ?_ _ _ ⟨_, _, _, rfl⟩ ?_⟩
    · rintro ρ ⟨o1, o3, o4, rfl⟩
      subst hT
      walk_at "ps"
      show isI (.int 6) = true ∧ _
      clear hF hS
      refine ⟨by decide, by decide, by decide, by decide, by decide, by decide +kernel, by decide +kernel, by decide, by decide, by decide +kernel, by decide +kernel, by decide, by decide, by decide +kernel, by decide +kernel, by decide, ?_⟩
      show (match some [(0 : Int)] with | some ms => _ | none => False)
      have e1 : low 6 (-4) = (-3, 2) := by decide +kernel
      have e2 : low (1 * 3 + 1 * 2) (2 * 3) = (5, 6) := by decide +kernel
      have e3 : low (2 * 3) (3 * 4) = (1, 2) := by decide +kernel
      have e4 : cmpI (1 * 2) (1 * 3) = -1 := by decide +kernel
      have e5 : gcdF 0 [0] = 0 := by decide +kernel
      simp only [e1, e2, e3, e4, e5]
      have e6 : D.eqv (D.lst [rat (-3, 2), D.int (-1), rat (5, 6), rat (1, 2), D.int 0]) (D.lst [D.tup [D.int (-3), D.int 2], D.int (-1), D.tup [D.int 5, D.int 6], D.tup [D.int 1, D.int 2], D.int 0]) = true := by
        simp [D.eqv, D.py, pys, PyData.eqv, PyData.eqvAll]
      rw [e6]
      exact ⟨by decide, by decide, by decide, by decide, by decide, by decide, by decide, by decide, rfl, rfl, h⟩
    · rintro d hd ρ ⟨o1, o3, o4, rfl⟩ nx hnx
      obtain ⟨i, rfl, hi⟩ := rngD_mem hd
      subst hS
      walk_at "ps"
      refine ⟨by omega, by omega, by decide, ?_⟩
      subst hF
      generalize hR : sIf _ (sRet _) _ = R
      walk_at "ps"
      refine ⟨by decide, by decide, ?_⟩
      refine forD_inv (fun ρ => ∃ o1 o4, ρ = [some (.val (.scr ns)), o1, none, some .bag, o4]) ?_ _ _ ⟨_, _, rfl⟩ ?_
      · rintro ρ ⟨o1, o4, rfl⟩
        exact hnx _ ⟨_, _, _, rfl⟩
      · rintro d hd ρ ⟨o1, o4, rfl⟩ nx2 hnx2
        subst hR
        walk_at "ps"
        exact hnx2 _ ⟨_, _, rfl⟩
  · exact h.elim

/-! ### the places of the text -/
def top (i : Nat) : Stmt := PySem.Challenge.pw_ballgrids_k01_whole_numbers.main.body.getD i (.Pass ⟨0, 0, 0, 0⟩)
abbrev s_l_bag : Stmt := top 25
abbrev s_l_grab : Stmt := top 26
abbrev s_l_one_of : Stmt := top 27
abbrev s_l_whole : Stmt := top 29
abbrev s_l_divisor : Stmt := top 28
abbrev s_l_ratio : Stmt := top 32
abbrev s_is_whole : Stmt := top 9
abbrev s_is_integer : Stmt := top 10
abbrev s_is_ratio : Stmt := top 14
abbrev s_l_is_short : Stmt := top 30
abbrev s_l_is_ratio : Stmt := top 31
abbrev s_l_judged : Stmt := top 34
abbrev s_require_ratios : Stmt := top 15
abbrev s_compared_of : Stmt := top 17
abbrev s_compare : Stmt := top 18
abbrev s_lowest_of : Stmt := top 13
abbrev s_times_of : Stmt := top 22
abbrev s_times : Stmt := top 23
abbrev s_plus_of : Stmt := top 19
abbrev s_minus : Stmt := top 21
abbrev s_plus : Stmt := top 20
abbrev s_l_lowered_pair : Stmt := top 33
abbrev s_l_reckoned : Stmt := top 35
abbrev s_divisor_of : Stmt := top 11
abbrev s_common_divisor : Stmt := top 12
abbrev s_lowest : Stmt := top 16
abbrev s_l_lowered : Stmt := top 36
abbrev s_law : Stmt := top 37
theorem sc_l_bag : FnScope N_l_bag ["_law_script", "_law_spot"] (defScope s_l_bag) := ⟨rfl, rfl, rfl, by decide +kernel, rfl, by decide +kernel, by decide +kernel⟩
theorem sc_l_grab : FnScope N_l_grab ["_law_bag_here", "_law_total"] (defScope s_l_grab) := ⟨rfl, rfl, rfl, by decide +kernel, rfl, by decide +kernel, by decide +kernel⟩
theorem sc_l_one_of : FnScope N_l_one_of ["_law_bag_here", "_law_items"] (defScope s_l_one_of) := ⟨rfl, rfl, rfl, by decide +kernel, rfl, by decide +kernel, by decide +kernel⟩
theorem sc_l_whole : FnScope N_l_whole ["_law_bag_here", "_law_high"] (defScope s_l_whole) := ⟨rfl, rfl, rfl, by decide +kernel, rfl, by decide +kernel, by decide +kernel⟩
theorem sc_l_divisor : FnScope N_l_divisor ["_law_numbers"] (defScope s_l_divisor) := ⟨rfl, rfl, rfl, by decide +kernel, rfl, by decide +kernel, by decide +kernel⟩
theorem sc_l_ratio : FnScope N_l_ratio ["_law_bag_here"] (defScope s_l_ratio) := ⟨rfl, rfl, rfl, by decide +kernel, rfl, by decide +kernel, by decide +kernel⟩
theorem sc_is_whole : FnScope N_is_whole ["value"] (defScope s_is_whole) := ⟨rfl, rfl, rfl, by decide +kernel, rfl, by decide +kernel, by decide +kernel⟩
theorem sc_is_integer : FnScope N_is_integer ["value"] (defScope s_is_integer) := ⟨rfl, rfl, rfl, by decide +kernel, rfl, by decide +kernel, by decide +kernel⟩
theorem sc_is_ratio : FnScope N_is_ratio ["value"] (defScope s_is_ratio) := ⟨rfl, rfl, rfl, by decide +kernel, rfl, by decide +kernel, by decide +kernel⟩
theorem sc_l_is_short : FnScope N_l_is_short ["_law_value"] (defScope s_l_is_short) := ⟨rfl, rfl, rfl, by decide +kernel, rfl, by decide +kernel, by decide +kernel⟩
theorem sc_l_is_ratio : FnScope N_l_is_ratio ["_law_value"] (defScope s_l_is_ratio) := ⟨rfl, rfl, rfl, by decide +kernel, rfl, by decide +kernel, by decide +kernel⟩
theorem sc_l_judged : FnScope N_l_judged ["_law_bag_here"] (defScope s_l_judged) := ⟨rfl, rfl, rfl, by decide +kernel, rfl, by decide +kernel, by decide +kernel⟩
theorem sc_require_ratios : FnScope N_require_ratios ["values"] (defScope s_require_ratios) := ⟨rfl, rfl, rfl, by decide +kernel, rfl, by decide +kernel, by decide +kernel⟩
theorem sc_compared_of : FnScope N_compared_of ["one", "other"] (defScope s_compared_of) := ⟨rfl, rfl, rfl, by decide +kernel, rfl, by decide +kernel, by decide +kernel⟩
theorem sc_compare : FnScope N_compare ["one", "other"] (defScope s_compare) := ⟨rfl, rfl, rfl, by decide +kernel, rfl, by decide +kernel, by decide +kernel⟩
theorem sc_lowest_of : FnScope N_lowest_of ["top", "bottom"] (defScope s_lowest_of) := ⟨rfl, rfl, rfl, by decide +kernel, rfl, by decide +kernel, by decide +kernel⟩
theorem sc_times_of : FnScope N_times_of ["one", "other"] (defScope s_times_of) := ⟨rfl, rfl, rfl, by decide +kernel, rfl, by decide +kernel, by decide +kernel⟩
theorem sc_times : FnScope N_times ["one", "other"] (defScope s_times) := ⟨rfl, rfl, rfl, by decide +kernel, rfl, by decide +kernel, by decide +kernel⟩
theorem sc_plus_of : FnScope N_plus_of ["one", "other"] (defScope s_plus_of) := ⟨rfl, rfl, rfl, by decide +kernel, rfl, by decide +kernel, by decide +kernel⟩
theorem sc_minus : FnScope N_minus ["one", "other"] (defScope s_minus) := ⟨rfl, rfl, rfl, by decide +kernel, rfl, by decide +kernel, by decide +kernel⟩
theorem sc_plus : FnScope N_plus ["one", "other"] (defScope s_plus) := ⟨rfl, rfl, rfl, by decide +kernel, rfl, by decide +kernel, by decide +kernel⟩
theorem sc_l_lowered_pair : FnScope N_l_lowered_pair ["_law_top", "_law_bottom"] (defScope s_l_lowered_pair) := ⟨rfl, rfl, rfl, by decide +kernel, rfl, by decide +kernel, by decide +kernel⟩
theorem sc_l_reckoned : FnScope N_l_reckoned ["_law_bag_here"] (defScope s_l_reckoned) := ⟨rfl, rfl, rfl, by decide +kernel, rfl, by decide +kernel, by decide +kernel⟩
theorem sc_divisor_of : FnScope N_divisor_of ["numbers"] (defScope s_divisor_of) := ⟨rfl, rfl, rfl, by decide +kernel, rfl, by decide +kernel, by decide +kernel⟩
theorem sc_common_divisor : FnScope N_common_divisor ["numbers"] (defScope s_common_divisor) := ⟨rfl, rfl, rfl, by decide +kernel, rfl, by decide +kernel, by decide +kernel⟩
theorem sc_lowest : FnScope N_lowest ["top", "bottom"] (defScope s_lowest) := ⟨rfl, rfl, rfl, by decide +kernel, rfl, by decide +kernel, by decide +kernel⟩
theorem sc_l_lowered : FnScope N_l_lowered ["_law_bag_here"] (defScope s_l_lowered) := ⟨rfl, rfl, rfl, by decide +kernel, rfl, by decide +kernel, by decide +kernel⟩
theorem sc_law : FnScope N_law ["_law_script"] (defScope s_law) := ⟨rfl, rfl, rfl, by decide +kernel, rfl, by decide +kernel, by decide +kernel⟩
/-- what the module's own names hold -/
structure Blt (mg : Str → Option Value) : Prop where
  b_abs : mg "abs" = none
  b_all : mg "all" = none
  b_bool : mg "bool" = none
  b_int : mg "int" = none
  b_isinstance : mg "isinstance" = none
  b_len : mg "len" = none
  b_max : mg "max" = none
  b_min : mg "min" = none
  b_range : mg "range" = none
  b_repr : mg "repr" = none
  b_sum : mg "sum" = none
  b_tuple : mg "tuple" = none
  f_gcd : mg "gcd" = some (.builtin "math.gcd")
  c_BEYOND : ∃ t, mg "BEYOND" = some (.int (1000000000000000000000000000000000000000000000000000000000000) t)
  c_MAX_NUMBERS : ∃ t, mg "MAX_NUMBERS" = some (.int (100) t)
  c_PAIR : ∃ t, mg "PAIR" = some (.int (2) t)
section
variable {P : Program} {w : World} {K : PySem.W.Frag} {mg : Str → Option Value} {base : Heap}
theorem ok_l_bag (bl : Blt mg) {f : Addr} {fd : FuncData} (F : Fun K "_law_bag" "_law_bag" s_l_bag f fd) : FnG P w K mg base CX0 1 f (spN K 2 sp_l_bag) :=
  fn_okN F sc_l_bag rfl (fun _ _ _ _ _ _ us hl => match us, hl with | [_, _], _ => rfl) (fun cdv A outer s H E hg hr => b_cons (s_set 2 sc_l_bag.nd (d_if (t_cmp op_lt od_cmp (d_var 1) (d_callB call_len cd_len bl.b_len bt_len (v_cons (d_var 0) (v_nil))) (nomark _)) (d_ix (d_var 0) (d_var 1)) (d_op op_addA od_add (d_op op_addA od_add (d_callB (cr_sum rfl) cd_sum bl.b_sum bt_sum (v_cons (d_slice (d_var 0) (o_none) (o_some (d_int))) (v_nil))) (d_op op_mulA od_mul (d_int) (d_var 1))) (d_int)))) (b_cons (s_set 3 sc_l_bag.nd (d_op op_modN od_int2 (d_callTy call_int1 cd_int bl.b_int bt_int (v_cons (d_callB call_abs cd_abs bl.b_abs bt_abs (v_cons (d_var 2) (v_nil))) (v_nil))) (d_op op_powB od_int2 (d_op op_powB od_int2 (d_int) (d_int)) (d_int)))) (b_cons (s_set 4 sc_l_bag.nd (d_op op_addA od_add (d_op op_addA od_add (d_op op_addA od_add (d_op op_mulA od_mul (d_op op_modN od_int2 (d_callTy call_int1 cd_int bl.b_int bt_int (v_cons (d_var 3) (v_nil))) (d_int)) (d_int)) (d_op op_mulA od_mul (d_int) (d_var 1))) (d_op op_mulA od_mul (d_int) (d_callTy call_int1 cd_int bl.b_int bt_int (v_cons (d_cmp op_lt od_cmp (d_var 2) (d_int) (nomark _)) (v_nil))))) (d_int))) (b_one (s_retL (v_cons (d_callB (call_max2 rfl) cd_2I bl.b_max bt_max (v_cons (d_int) (v_cons (d_op op_sub od_sub (d_var 3) (d_op op_powB od_int2 (d_int) (d_int))) (v_nil)))) (v_cons (d_op op_modN od_int2 (d_callTy call_int1 cd_int bl.b_int bt_int (v_cons (d_var 4) (v_nil))) (d_int)) (v_cons (d_int) (v_nil))))))))) rd_l_bag
theorem ok_l_grab (bl : Blt mg) {f : Addr} {fd : FuncData} (F : Fun K "_law_grab" "_law_grab" s_l_grab f fd) : FnG P w K mg base CX0 1 f (spD K 2 sp_l_grab) :=
  fn_ok F sc_l_grab rfl (fun _ _ _ _ _ _ us hl => match us, hl with | [_, _], _ => rfl) (fun cdv A outer s H E hg hr => b_cons (s_if (t_cmp op_gt od_cmp (d_bag 0 0) (d_int) (nomark _)) (b_cons (s_set 4 sc_l_grab.nd (d_op op_modN od_int2 (d_callTy call_int1 cd_int bl.b_int bt_int (v_cons (d_bag 0 0) (v_nil))) (d_var 1))) (b_cons (s_bag 0 0 (d_op op_fdivB od_int2 (d_bag 0 0) (d_var 1))) (b_one (s_ret (d_var 4))))) (b_nil)) (b_cons (s_bag 0 2 (d_op op_addA od_add (d_bag 0 2) (d_int))) (b_cons (s_set 2 sc_l_grab.nd (d_op op_modN od_int2 (d_callTy call_int1 cd_int bl.b_int bt_int (v_cons (d_op op_addA od_add (d_bag 0 1) (d_op op_mulA od_mul (d_int) (d_bag 0 2))) (v_nil))) (d_int))) (b_cons (s_set 3 sc_l_grab.nd (d_op op_addA od_add (d_op op_mulA od_mul (d_op op_modN od_int2 (d_callTy call_int1 cd_int bl.b_int bt_int (v_cons (d_op op_mulA od_mul (d_var 2) (d_var 2)) (v_nil))) (d_int)) (d_var 2)) (d_op op_mulA od_mul (d_int) (d_bag 0 2)))) (b_one (s_ret (d_op op_modN od_int2 (d_callTy call_int1 cd_int bl.b_int bt_int (v_cons (d_op op_fdivB od_int2 (d_op op_modN od_int2 (d_callTy call_int1 cd_int bl.b_int bt_int (v_cons (d_var 3) (v_nil))) (d_int)) (d_int)) (v_nil))) (d_var 1)))))))) rd_l_grab
theorem ok_l_one_of (bl : Blt mg) (c_l_grab : Callee P w K mg base CX0 1 "_law_grab" 2 sp_l_grab) {f : Addr} {fd : FuncData} (F : Fun K "_law_one_of" "_law_one_of" s_l_one_of f fd) : FnG P w K mg base CX0 2 f (spD K 2 sp_l_one_of) :=
  fn_ok F sc_l_one_of rfl (fun _ _ _ _ _ _ us hl => match us, hl with | [_, _], _ => rfl) (fun cdv A outer s H E hg hr => b_one (s_ret (d_ix (d_var 1) (d_call c_l_grab hg (hr.mono (by decide)) passN (a_cons (x_var 0) (a_cons (x_val (d_callB call_len cd_len bl.b_len bt_len (v_cons (d_var 1) (v_nil)))) (a_nil))))))) rd_l_one_of
theorem ok_l_whole (bl : Blt mg) (c_l_grab : Callee P w K mg base CX0 1 "_law_grab" 2 sp_l_grab) {f : Addr} {fd : FuncData} (F : Fun K "_law_whole" "_law_whole" s_l_whole f fd) : FnG P w K mg base CX0 2 f (spD K 2 sp_l_whole) :=
  fn_ok F sc_l_whole rfl (fun _ _ _ _ _ _ us hl => match us, hl with | [_, _], _ => rfl) (fun cdv A outer s H E hg hr => b_one (s_ret (d_op op_sub od_sub (d_call c_l_grab hg (hr.mono (by decide)) passN (a_cons (x_var 0) (a_cons (x_val (d_op op_addA od_add (d_op op_mulA od_mul (d_int) (d_var 1)) (d_int))) (a_nil)))) (d_var 1)))) rd_l_whole
theorem ok_l_divisor (bl : Blt mg) {f : Addr} {fd : FuncData} (F : Fun K "_law_divisor" "_law_divisor" s_l_divisor f fd) : FnG P w K mg base CX0 1 f (spD K 1 sp_l_divisor) :=
  fn_ok F sc_l_divisor rfl (fun _ _ _ _ _ _ us hl => match us, hl with | [_], _ => rfl) (fun cdv A outer s H E hg hr => b_cons (s_set 1 sc_l_divisor.nd (d_int)) (b_cons (s_for PassesOwn.never rfl (i_seq (d_var 0)) (g_name 2 sc_l_divisor.nd) (b_cons (s_set 3 sc_l_divisor.nd (d_callB call_abs cd_abs bl.b_abs bt_abs (v_cons (d_var 2) (v_nil)))) (b_one (s_while PassesOwn.never (t_cmp op_gt od_cmp (d_var 3) (d_int) (nomark _)) (b_one (s_par 1 3 rfl sc_l_divisor.nd (d_var 3) (d_op op_modN od_int2 (d_var 1) (d_var 3)) (hw := by rfl))))))) (b_one (s_ret (d_var 1))))) rd_l_divisor
theorem ok_l_ratio (bl : Blt mg) (c_l_one_of : Callee P w K mg base CX0 2 "_law_one_of" 2 sp_l_one_of) (c_l_whole : Callee P w K mg base CX0 2 "_law_whole" 2 sp_l_whole) (c_l_grab : Callee P w K mg base CX0 1 "_law_grab" 2 sp_l_grab) (c_l_divisor : Callee P w K mg base CX0 1 "_law_divisor" 1 sp_l_divisor) {f : Addr} {fd : FuncData} (F : Fun K "_law_ratio" "_law_ratio" s_l_ratio f fd) : FnG P w K mg base CX0 3 f (spD K 1 sp_l_ratio) :=
  fn_ok F sc_l_ratio rfl (fun _ _ _ _ _ _ us hl => match us, hl with | [_], _ => rfl) (fun cdv A outer s H E hg hr => b_cons (s_set 1 sc_l_ratio.nd (d_call c_l_one_of hg (hr.mono (by decide)) passN (a_cons (x_var 0) (a_cons (x_val (d_lst (v_cons (d_int) (v_cons (d_int) (v_cons (d_int) (v_cons (d_op op_powB od_int2 (d_int) (d_int)) (v_nil))))))) (a_nil))))) (b_cons (s_par 3 4 rfl sc_l_ratio.nd (d_call c_l_whole hg (hr.mono (by decide)) passN (a_cons (x_var 0) (a_cons (x_var 1) (a_nil)))) (d_op op_addA od_add (d_int) (d_call c_l_grab hg (hr.mono (by decide)) passN (a_cons (x_var 0) (a_cons (x_var 1) (a_nil))))) (hw := by rfl)) (b_cons (s_set 2 sc_l_ratio.nd (d_call c_l_divisor hg (hr.mono (by decide)) passN (a_cons (x_val (d_tup (v_cons (d_var 3) (v_cons (d_var 4) (v_nil))))) (a_nil)))) (b_one (s_ret (d_tup (v_cons (d_op op_fdivB od_int2 (d_var 3) (d_var 2)) (v_cons (d_op op_fdivB od_int2 (d_var 4) (d_var 2)) (v_nil))))))))) rd_l_ratio
theorem ok_is_whole (bl : Blt mg) {f : Addr} {fd : FuncData} (F : Fun K "is_whole" "is_whole" s_is_whole f fd) : FnG P w K mg base CX0 1 f (spD K 1 sp_is_whole) :=
  fn_ok F sc_is_whole rfl (fun _ _ _ _ _ _ us hl => match us, hl with | [_], _ => rfl) (fun cdv A outer s H E hg hr => b_one (s_ret (d_and (d_isi (d_var 0) bl.b_isinstance bl.b_int bt_int) (d_one (d_not (d_isi (d_var 0) bl.b_isinstance bl.b_bool bt_bool)))))) rd_is_whole
theorem ok_is_integer (bl : Blt mg) (c_is_whole : Callee P w K mg base CX0 1 "is_whole" 1 sp_is_whole) {f : Addr} {fd : FuncData} (F : Fun K "is_integer" "is_integer" s_is_integer f fd) : FnG P w K mg base CX0 2 f (spD K 1 sp_is_integer) :=
  fn_ok F sc_is_integer rfl (fun _ _ _ _ _ _ us hl => match us, hl with | [_], _ => rfl) (fun cdv A outer s H E hg hr => b_one (s_ret (d_and (d_call c_is_whole hg (hr.mono (by decide)) passN (a_cons (x_var 0) (a_nil))) (d_one (d_chain op_lt op_lt od_cmp od_cmp (d_neg (d_globI rfl bl.c_BEYOND.choose_spec ⟨_, rfl⟩)) (d_var 0) (d_globI rfl bl.c_BEYOND.choose_spec ⟨_, rfl⟩)))))) rd_is_integer
theorem ok_is_ratio (bl : Blt mg) (c_is_integer : Callee P w K mg base CX0 2 "is_integer" 1 sp_is_integer) {f : Addr} {fd : FuncData} (F : Fun K "is_ratio" "is_ratio" s_is_ratio f fd) : FnG P w K mg base CX0 3 f (spD K 1 sp_is_ratio) :=
  fn_ok F sc_is_ratio rfl (fun _ _ _ _ _ _ us hl => match us, hl with | [_], _ => rfl) (fun cdv A outer s H E hg hr => b_cons (s_if (t_w (w_or (t_not (t_tru (d_isi (d_var 0) bl.b_isinstance bl.b_tuple bt_tuple))) (w_or (t_cmp (op_neA hr.units) od_ne (d_callB call_len cd_len bl.b_len bt_len (v_cons (d_var 0) (v_nil))) (d_globI rfl bl.c_PAIR.choose_spec ⟨_, rfl⟩) (nomark _)) (w_or1 (t_not (t_tru (d_callB (cr_all rfl) cd_allB bl.b_all bt_all (v_cons (d_lc (own := [("number", 1)]) rfl sc_is_ratio.nd (i_seq (d_var 0)) (blkOk_by (own := [("number", 1)]) (N := N_is_ratio) (sc := defScope s_is_ratio) (by decide +kernel)) (fun _ _ _ _ _ => g_name 1 sc_is_ratio.nd) (fun _ _ _ _ _ => ts_nil) (fun _ _ _ _ _ => d_call c_is_integer hg (hr.mono (by decide)) passN (a_cons (x_var 1) (a_nil)))) (v_nil))))))))) (b_one (s_ret (d_bl))) (b_nil)) (b_one (s_ret (d_and (d_cmp op_gt od_cmp (d_ix (d_var 0) (d_int)) (d_int) (nomark _)) (d_one (d_cmp (op_eqA hr.units) od_eq (d_callF cr_gcd cd_gcd bl.f_gcd (v_cons (d_ix (d_var 0) (d_int)) (v_cons (d_ix (d_var 0) (d_int)) (v_nil)))) (d_int) (nomark _))))))) rd_is_ratio
theorem ok_l_is_short (bl : Blt mg) {f : Addr} {fd : FuncData} (F : Fun K "_law_is_short" "_law_is_short" s_l_is_short f fd) : FnG P w K mg base CX0 1 f (spD K 1 sp_l_is_short) :=
  fn_ok F sc_l_is_short rfl (fun _ _ _ _ _ _ us hl => match us, hl with | [_], _ => rfl) (fun cdv A outer s H E hg hr => b_one (s_ret (d_and (d_isi (d_var 0) bl.b_isinstance bl.b_int bt_int) (d_and (d_not (d_isi (d_var 0) bl.b_isinstance bl.b_bool bt_bool)) (d_one (d_cmp op_lt od_cmp (d_callB call_abs cd_abs bl.b_abs bt_abs (v_cons (d_var 0) (v_nil))) (d_op op_powB od_int2 (d_int) (d_int)) (nomark _))))))) rd_l_is_short
theorem ok_l_is_ratio (bl : Blt mg) (c_l_is_short : Callee P w K mg base CX0 1 "_law_is_short" 1 sp_l_is_short) (c_l_divisor : Callee P w K mg base CX0 1 "_law_divisor" 1 sp_l_divisor) {f : Addr} {fd : FuncData} (F : Fun K "_law_is_ratio" "_law_is_ratio" s_l_is_ratio f fd) : FnG P w K mg base CX0 2 f (spD K 1 sp_l_is_ratio) :=
  fn_ok F sc_l_is_ratio rfl (fun _ _ _ _ _ _ us hl => match us, hl with | [_], _ => rfl) (fun cdv A outer s H E hg hr => b_cons (s_if (t_w (w_or (t_not (t_tru (d_isi (d_var 0) bl.b_isinstance bl.b_tuple bt_tuple))) (w_or (t_cmp (op_neA hr.units) od_ne (d_callB call_len cd_len bl.b_len bt_len (v_cons (d_var 0) (v_nil))) (d_int) (nomark _)) (w_or (t_not (t_tru (d_call c_l_is_short hg (hr.mono (by decide)) passN (a_cons (x_val (d_ix (d_var 0) (d_int))) (a_nil))))) (w_or1 (t_not (t_tru (d_call c_l_is_short hg (hr.mono (by decide)) passN (a_cons (x_val (d_ix (d_var 0) (d_int))) (a_nil)))))))))) (b_one (s_ret (d_bl))) (b_nil)) (b_one (s_ret (d_and (d_cmp op_gt od_cmp (d_ix (d_var 0) (d_int)) (d_int) (nomark _)) (d_one (d_cmp (op_eqA hr.units) od_eq (d_call c_l_divisor hg (hr.mono (by decide)) passN (a_cons (x_var 0) (a_nil))) (d_int) (nomark _))))))) rd_l_is_ratio
theorem ok_l_judged (bl : Blt mg) (c_l_ratio : Callee P w K mg base CX0 3 "_law_ratio" 1 sp_l_ratio) (c_is_ratio : Callee P w K mg base CX0 3 "is_ratio" 1 sp_is_ratio) (c_is_integer : Callee P w K mg base CX0 2 "is_integer" 1 sp_is_integer) (c_l_is_ratio : Callee P w K mg base CX0 2 "_law_is_ratio" 1 sp_l_is_ratio) (c_l_is_short : Callee P w K mg base CX0 1 "_law_is_short" 1 sp_l_is_short) {f : Addr} {fd : FuncData} (F : Fun K "_law_judged" "_law_judged" s_l_judged f fd) : FnG P w K mg base CX0 4 f (spD K 1 sp_l_judged) :=
  fn_ok F sc_l_judged rfl (fun _ _ _ _ _ _ us hl => match us, hl with | [_], _ => rfl) (fun cdv A outer s H E hg hr => b_cons (s_asg (d_call c_l_ratio hg (hr.mono (by decide)) passN (a_cons (x_var 0) (a_nil))) (g_tup rfl (gs_cons (g_name 3 sc_l_judged.nd) (gs_cons (g_name 4 sc_l_judged.nd) (gs_nil))))) (b_cons (s_set 1 sc_l_judged.nd (d_lst (v_cons (d_var 3) (v_cons (d_tup (v_cons (d_var 3) (v_cons (d_var 4) (v_nil)))) (v_cons (d_tup (v_cons (d_var 4) (v_cons (d_var 3) (v_nil)))) (v_cons (d_tup (v_cons (d_op op_mulA od_mul (d_int) (d_var 3)) (v_cons (d_op op_mulA od_mul (d_int) (d_var 4)) (v_nil)))) (v_cons (d_tup (v_cons (d_neg (d_var 3)) (v_cons (d_neg (d_var 4)) (v_nil)))) (v_cons (d_lst (v_cons (d_var 3) (v_cons (d_var 4) (v_nil)))) (v_cons (d_tup (v_cons (d_var 3) (v_nil))) (v_cons (d_tup (v_cons (d_var 3) (v_cons (d_var 4) (v_cons (d_int) (v_nil))))) (v_nil))))))))))) (b_cons (s_set 1 sc_l_judged.nd (d_op op_addA od_add (d_var 1) (d_lst (v_cons (d_bl) (v_cons (d_bl) (v_cons (d_non) (v_cons (d_str) (v_cons (d_tup (v_cons (d_bl) (v_cons (d_int) (v_nil)))) (v_cons (d_tup (v_cons (d_int) (v_cons (d_bl) (v_nil)))) (v_cons (d_tup (v_cons (d_int) (v_cons (d_int) (v_nil)))) (v_cons (d_tup (v_cons (d_int) (v_cons (d_int) (v_nil)))) (v_cons (d_tup (v_cons (d_int) (v_cons (d_int) (v_nil)))) (v_cons (d_tup (v_cons (d_int) (v_cons (d_int) (v_nil)))) (v_cons (d_dic0) (v_cons (d_tup (v_nil)) (v_cons (d_op op_powB od_int2 (d_int) (d_int)) (v_cons (d_op op_sub od_sub (d_op op_powB od_int2 (d_int) (d_int)) (d_int)) (v_nil)))))))))))))))))) (b_cons (s_set 1 sc_l_judged.nd (d_op op_addA od_add (d_var 1) (d_lst (v_cons (d_op op_sub od_sub (d_int) (d_op op_powB od_int2 (d_int) (d_int))) (v_cons (d_neg (d_op op_powB od_int2 (d_int) (d_int))) (v_cons (d_tup (v_cons (d_op op_powB od_int2 (d_int) (d_int)) (v_cons (d_int) (v_nil)))) (v_cons (d_tup (v_cons (d_int) (v_cons (d_op op_powB od_int2 (d_int) (d_int)) (v_nil)))) (v_cons (d_tup (v_cons (d_op op_sub od_sub (d_op op_powB od_int2 (d_int) (d_int)) (d_int)) (v_cons (d_int) (v_nil)))) (v_cons (d_tup (v_cons (d_tup (v_cons (d_int) (v_cons (d_int) (v_nil)))) (v_cons (d_int) (v_nil)))) (v_cons (d_tup (v_cons (d_str) (v_cons (d_int) (v_nil)))) (v_cons (d_tup (v_cons (d_non) (v_cons (d_int) (v_nil)))) (v_nil)))))))))))) (b_cons (s_for PassesOwn.never rfl (i_seq (d_var 1)) (g_name 2 sc_l_judged.nd) (b_one (s_if (t_cmp (op_neA hr.units) od_ne (d_callB (call_repr hg (room_u hr)) cd_repr bl.b_repr bt_repr (v_cons (d_lst (v_cons (d_call c_is_integer hg (hr.mono (by decide)) passN (a_cons (x_var 2) (a_nil))) (v_cons (d_call c_is_ratio hg (hr.mono (by decide)) passN (a_cons (x_var 2) (a_nil))) (v_nil)))) (v_nil))) (d_callB (call_repr hg (room_u hr)) cd_repr bl.b_repr bt_repr (v_cons (d_lst (v_cons (d_call c_l_is_short hg (hr.mono (by decide)) passN (a_cons (x_var 2) (a_nil))) (v_cons (d_call c_l_is_ratio hg (hr.mono (by decide)) passN (a_cons (x_var 2) (a_nil))) (v_nil)))) (v_nil))) (nomark _)) (b_one (s_ret (d_bl))) (b_nil)))) (b_one (s_ret (d_bl)))))))) rd_l_judged
theorem ok_require_ratios (bl : Blt mg) (c_is_ratio : Callee P w K mg base CX0 3 "is_ratio" 1 sp_is_ratio) {f : Addr} {fd : FuncData} (F : Fun K "require_ratios" "require_ratios" s_require_ratios f fd) : FnG P w K mg base CX0 4 f (spD K 2 sp_require_ratios) :=
  fn_star_ok F sc_require_ratios (by decide) (fun _ _ _ _ _ _ us hl => match us, hl with | [_, _], _ => rfl) (fun cdv A outer s H E hg hr => b_one (s_for PassesOwn.never rfl (i_seq (d_var 0)) (g_name 1 sc_require_ratios.nd) (b_one (s_if (t_not (t_tru (d_call c_is_ratio hg (hr.mono (by decide)) passN (a_cons (x_var 1) (a_nil))))) (b_one (s_never)) (b_nil))))) rd_require_ratios
theorem ok_compared_of (bl : Blt mg) {f : Addr} {fd : FuncData} (F : Fun K "compared_of" "compared_of" s_compared_of f fd) : FnG P w K mg base CX0 1 f (spD K 2 sp_compared_of) :=
  fn_ok F sc_compared_of rfl (fun _ _ _ _ _ _ us hl => match us, hl with | [_, _], _ => rfl) (fun cdv A outer s H E hg hr => b_cons (s_par 2 3 rfl sc_compared_of.nd (d_op op_mulA od_mul (d_ix (d_var 0) (d_int)) (d_ix (d_var 1) (d_int))) (d_op op_mulA od_mul (d_ix (d_var 1) (d_int)) (d_ix (d_var 0) (d_int))) (hw := by rfl)) (b_one (s_ret (d_op op_sub od_sub (d_callTy call_int1 cd_int bl.b_int bt_int (v_cons (d_cmp op_gt od_cmp (d_var 2) (d_var 3) (nomark _)) (v_nil))) (d_callTy call_int1 cd_int bl.b_int bt_int (v_cons (d_cmp op_lt od_cmp (d_var 2) (d_var 3) (nomark _)) (v_nil))))))) rd_compared_of
theorem ok_compare (bl : Blt mg) (c_require_ratios : Callee P w K mg base CX0 4 "require_ratios" 2 sp_require_ratios) (c_compared_of : Callee P w K mg base CX0 1 "compared_of" 2 sp_compared_of) {f : Addr} {fd : FuncData} (F : Fun K "compare" "compare" s_compare f fd) : FnG P w K mg base CX0 5 f (spD K 2 sp_compare) :=
  fn_ok F sc_compare rfl (fun _ _ _ _ _ _ us hl => match us, hl with | [_, _], _ => rfl) (fun cdv A outer s H E hg hr => b_cons (s_expr (d_call c_require_ratios hg (hr.mono (by decide)) passN (a_cons (x_var 0) (a_cons (x_var 1) (a_nil))))) (b_one (s_ret (d_call c_compared_of hg (hr.mono (by decide)) passN (a_cons (x_var 0) (a_cons (x_var 1) (a_nil))))))) rd_compare
theorem ok_lowest_of (bl : Blt mg) {f : Addr} {fd : FuncData} (F : Fun K "lowest_of" "lowest_of" s_lowest_of f fd) : FnG P w K mg base CX0 1 f (spD K 2 sp_lowest_of) :=
  fn_ok F sc_lowest_of rfl (fun _ _ _ _ _ _ us hl => match us, hl with | [_, _], _ => rfl) (fun cdv A outer s H E hg hr => b_cons (s_set 2 sc_lowest_of.nd (d_if (t_cmp op_gt od_cmp (d_var 1) (d_int) (nomark _)) (d_callF cr_gcd cd_gcd bl.f_gcd (v_cons (d_var 0) (v_cons (d_var 1) (v_nil)))) (d_neg (d_callF cr_gcd cd_gcd bl.f_gcd (v_cons (d_var 0) (v_cons (d_var 1) (v_nil))))))) (b_one (s_ret (d_tup (v_cons (d_op op_fdivB od_int2 (d_var 0) (d_var 2)) (v_cons (d_op op_fdivB od_int2 (d_var 1) (d_var 2)) (v_nil))))))) rd_lowest_of
theorem ok_times_of (bl : Blt mg) (c_lowest_of : Callee P w K mg base CX0 1 "lowest_of" 2 sp_lowest_of) {f : Addr} {fd : FuncData} (F : Fun K "times_of" "times_of" s_times_of f fd) : FnG P w K mg base CX0 2 f (spD K 2 sp_times_of) :=
  fn_ok F sc_times_of rfl (fun _ _ _ _ _ _ us hl => match us, hl with | [_, _], _ => rfl) (fun cdv A outer s H E hg hr => b_one (s_ret (d_call c_lowest_of hg (hr.mono (by decide)) passN (a_cons (x_val (d_op op_mulA od_mul (d_ix (d_var 0) (d_int)) (d_ix (d_var 1) (d_int)))) (a_cons (x_val (d_op op_mulA od_mul (d_ix (d_var 0) (d_int)) (d_ix (d_var 1) (d_int)))) (a_nil)))))) rd_times_of
theorem ok_times (bl : Blt mg) (c_require_ratios : Callee P w K mg base CX0 4 "require_ratios" 2 sp_require_ratios) (c_times_of : Callee P w K mg base CX0 2 "times_of" 2 sp_times_of) {f : Addr} {fd : FuncData} (F : Fun K "times" "times" s_times f fd) : FnG P w K mg base CX0 5 f (spD K 2 sp_times) :=
  fn_ok F sc_times rfl (fun _ _ _ _ _ _ us hl => match us, hl with | [_, _], _ => rfl) (fun cdv A outer s H E hg hr => b_cons (s_expr (d_call c_require_ratios hg (hr.mono (by decide)) passN (a_cons (x_var 0) (a_cons (x_var 1) (a_nil))))) (b_one (s_ret (d_call c_times_of hg (hr.mono (by decide)) passN (a_cons (x_var 0) (a_cons (x_var 1) (a_nil))))))) rd_times
theorem ok_plus_of (bl : Blt mg) (c_lowest_of : Callee P w K mg base CX0 1 "lowest_of" 2 sp_lowest_of) {f : Addr} {fd : FuncData} (F : Fun K "plus_of" "plus_of" s_plus_of f fd) : FnG P w K mg base CX0 2 f (spD K 2 sp_plus_of) :=
  fn_ok F sc_plus_of rfl (fun _ _ _ _ _ _ us hl => match us, hl with | [_, _], _ => rfl) (fun cdv A outer s H E hg hr => b_one (s_ret (d_call c_lowest_of hg (hr.mono (by decide)) passN (a_cons (x_val (d_op op_addA od_add (d_op op_mulA od_mul (d_ix (d_var 0) (d_int)) (d_ix (d_var 1) (d_int))) (d_op op_mulA od_mul (d_ix (d_var 1) (d_int)) (d_ix (d_var 0) (d_int))))) (a_cons (x_val (d_op op_mulA od_mul (d_ix (d_var 0) (d_int)) (d_ix (d_var 1) (d_int)))) (a_nil)))))) rd_plus_of
theorem ok_minus (bl : Blt mg) (c_require_ratios : Callee P w K mg base CX0 4 "require_ratios" 2 sp_require_ratios) (c_plus_of : Callee P w K mg base CX0 2 "plus_of" 2 sp_plus_of) {f : Addr} {fd : FuncData} (F : Fun K "minus" "minus" s_minus f fd) : FnG P w K mg base CX0 5 f (spD K 2 sp_minus) :=
  fn_ok F sc_minus rfl (fun _ _ _ _ _ _ us hl => match us, hl with | [_, _], _ => rfl) (fun cdv A outer s H E hg hr => b_cons (s_expr (d_call c_require_ratios hg (hr.mono (by decide)) passN (a_cons (x_var 0) (a_cons (x_var 1) (a_nil))))) (b_one (s_ret (d_call c_plus_of hg (hr.mono (by decide)) passN (a_cons (x_var 0) (a_cons (x_val (d_tup (v_cons (d_neg (d_ix (d_var 1) (d_int))) (v_cons (d_ix (d_var 1) (d_int)) (v_nil))))) (a_nil))))))) rd_minus
theorem ok_plus (bl : Blt mg) (c_require_ratios : Callee P w K mg base CX0 4 "require_ratios" 2 sp_require_ratios) (c_plus_of : Callee P w K mg base CX0 2 "plus_of" 2 sp_plus_of) {f : Addr} {fd : FuncData} (F : Fun K "plus" "plus" s_plus f fd) : FnG P w K mg base CX0 5 f (spD K 2 sp_plus) :=
  fn_ok F sc_plus rfl (fun _ _ _ _ _ _ us hl => match us, hl with | [_, _], _ => rfl) (fun cdv A outer s H E hg hr => b_cons (s_expr (d_call c_require_ratios hg (hr.mono (by decide)) passN (a_cons (x_var 0) (a_cons (x_var 1) (a_nil))))) (b_one (s_ret (d_call c_plus_of hg (hr.mono (by decide)) passN (a_cons (x_var 0) (a_cons (x_var 1) (a_nil))))))) rd_plus
theorem ok_l_lowered_pair (bl : Blt mg) (c_l_divisor : Callee P w K mg base CX0 1 "_law_divisor" 1 sp_l_divisor) {f : Addr} {fd : FuncData} (F : Fun K "_law_lowered_pair" "_law_lowered_pair" s_l_lowered_pair f fd) : FnG P w K mg base CX0 2 f (spD K 2 sp_l_lowered_pair) :=
  fn_ok F sc_l_lowered_pair rfl (fun _ _ _ _ _ _ us hl => match us, hl with | [_, _], _ => rfl) (fun cdv A outer s H E hg hr => b_cons (s_set 2 sc_l_lowered_pair.nd (d_op op_mulA od_mul (d_call c_l_divisor hg (hr.mono (by decide)) passN (a_cons (x_val (d_tup (v_cons (d_var 0) (v_cons (d_var 1) (v_nil))))) (a_nil))) (d_if (t_cmp op_gt od_cmp (d_var 1) (d_int) (nomark _)) (d_int) (d_neg (d_int))))) (b_one (s_ret (d_tup (v_cons (d_op op_fdivB od_int2 (d_var 0) (d_var 2)) (v_cons (d_op op_fdivB od_int2 (d_var 1) (d_var 2)) (v_nil))))))) rd_l_lowered_pair
theorem ok_l_reckoned (bl : Blt mg) (c_l_ratio : Callee P w K mg base CX0 3 "_law_ratio" 1 sp_l_ratio) (c_l_grab : Callee P w K mg base CX0 1 "_law_grab" 2 sp_l_grab) (c_compare : Callee P w K mg base CX0 5 "compare" 2 sp_compare) (c_times : Callee P w K mg base CX0 5 "times" 2 sp_times) (c_minus : Callee P w K mg base CX0 5 "minus" 2 sp_minus) (c_plus : Callee P w K mg base CX0 5 "plus" 2 sp_plus) (c_l_lowered_pair : Callee P w K mg base CX0 2 "_law_lowered_pair" 2 sp_l_lowered_pair) {f : Addr} {fd : FuncData} (F : Fun K "_law_reckoned" "_law_reckoned" s_l_reckoned f fd) : FnG P w K mg base CX0 6 f (spD K 1 sp_l_reckoned) :=
  fn_ok F sc_l_reckoned rfl (fun _ _ _ _ _ _ us hl => match us, hl with | [_], _ => rfl) (fun cdv A outer s H E hg hr => b_cons (s_par 3 4 rfl sc_l_reckoned.nd (d_call c_l_ratio hg (hr.mono (by decide)) passN (a_cons (x_var 0) (a_nil))) (d_call c_l_ratio hg (hr.mono (by decide)) passN (a_cons (x_var 0) (a_nil))) (hw := by rfl)) (b_cons (s_if (t_cmp (op_eqA hr.units) od_eq (d_call c_l_grab hg (hr.mono (by decide)) passN (a_cons (x_var 0) (a_cons (x_val (d_int)) (a_nil)))) (d_int) (nomark _)) (b_one (s_set 4 sc_l_reckoned.nd (d_var 3))) (b_nil)) (b_cons (s_asg (d_tup (v_cons (d_var 3) (v_cons (d_var 4) (v_nil)))) (g_tup rfl (gs_cons (g_tup rfl (gs_cons (g_name 5 sc_l_reckoned.nd) (gs_cons (g_name 6 sc_l_reckoned.nd) (gs_nil)))) (gs_cons (g_tup rfl (gs_cons (g_name 7 sc_l_reckoned.nd) (gs_cons (g_name 8 sc_l_reckoned.nd) (gs_nil)))) (gs_nil))))) (b_cons (s_set 1 sc_l_reckoned.nd (d_if (t_cmp (op_eqA hr.units) od_eq (d_op op_mulA od_mul (d_var 5) (d_var 8)) (d_op op_mulA od_mul (d_var 7) (d_var 6)) (nomark _)) (d_int) (d_if (t_cmp op_gt od_cmp (d_op op_mulA od_mul (d_var 5) (d_var 8)) (d_op op_mulA od_mul (d_var 7) (d_var 6)) (nomark _)) (d_int) (d_neg (d_int))))) (b_cons (s_if (t_w (w_or (t_cmp (op_neA hr.units) od_ne (d_callB (call_repr hg (room_u hr)) cd_repr bl.b_repr bt_repr (v_cons (d_call c_compare hg (hr.mono (by decide)) passN (a_cons (x_var 3) (a_cons (x_var 4) (a_nil)))) (v_nil))) (d_callB (call_repr hg (room_u hr)) cd_repr bl.b_repr bt_repr (v_cons (d_var 1) (v_nil))) (nomark _)) (w_or1 (t_cmp (op_neA hr.units) od_ne (d_call c_compare hg (hr.mono (by decide)) passN (a_cons (x_var 4) (a_cons (x_var 3) (a_nil)))) (d_neg (d_var 1)) (nomark _))))) (b_one (s_ret (d_bl))) (b_nil)) (b_cons (s_set 2 sc_l_reckoned.nd (d_lst (v_cons (d_call c_plus hg (hr.mono (by decide)) passN (a_cons (x_var 3) (a_cons (x_var 4) (a_nil)))) (v_cons (d_call c_minus hg (hr.mono (by decide)) passN (a_cons (x_var 3) (a_cons (x_var 4) (a_nil)))) (v_cons (d_call c_times hg (hr.mono (by decide)) passN (a_cons (x_var 3) (a_cons (x_var 4) (a_nil)))) (v_nil)))))) (b_cons (s_if (t_cmp (op_neA hr.units) od_ne (d_var 2) (d_lst (v_cons (d_call c_l_lowered_pair hg (hr.mono (by decide)) passN (a_cons (x_val (d_op op_addA od_add (d_op op_mulA od_mul (d_var 5) (d_var 8)) (d_op op_mulA od_mul (d_var 7) (d_var 6)))) (a_cons (x_val (d_op op_mulA od_mul (d_var 6) (d_var 8))) (a_nil)))) (v_cons (d_call c_l_lowered_pair hg (hr.mono (by decide)) passN (a_cons (x_val (d_op op_sub od_sub (d_op op_mulA od_mul (d_var 5) (d_var 8)) (d_op op_mulA od_mul (d_var 7) (d_var 6)))) (a_cons (x_val (d_op op_mulA od_mul (d_var 6) (d_var 8))) (a_nil)))) (v_cons (d_call c_l_lowered_pair hg (hr.mono (by decide)) passN (a_cons (x_val (d_op op_mulA od_mul (d_var 5) (d_var 7))) (a_cons (x_val (d_op op_mulA od_mul (d_var 6) (d_var 8))) (a_nil)))) (v_nil))))) (nomark _)) (b_one (s_ret (d_bl))) (b_nil)) (b_one (s_ret (d_and (d_cmp (op_eqA hr.units) od_eq (d_call c_plus hg (hr.mono (by decide)) passN (a_cons (x_val (d_ix (d_var 2) (d_int))) (a_cons (x_var 4) (a_nil)))) (d_var 3) (nomark _)) (d_and (d_cmp (op_eqA hr.units) od_eq (d_call c_minus hg (hr.mono (by decide)) passN (a_cons (x_val (d_ix (d_var 2) (d_int))) (a_cons (x_var 3) (a_nil)))) (d_var 4) (nomark _)) (d_one (d_cmp (op_eqA hr.units) od_eq (d_call c_compare hg (hr.mono (by decide)) passN (a_cons (x_val (d_ix (d_var 2) (d_int))) (a_cons (x_val (d_tup (v_cons (d_int) (v_cons (d_int) (v_nil))))) (a_nil)))) (d_var 1) (nomark _)))))))))))))) rd_l_reckoned
theorem ok_divisor_of (bl : Blt mg) {f : Addr} {fd : FuncData} (F : Fun K "divisor_of" "divisor_of" s_divisor_of f fd) : FnG P w K mg base CX0 1 f (spD K 1 sp_divisor_of) :=
  fn_ok F sc_divisor_of rfl (fun _ _ _ _ _ _ us hl => match us, hl with | [_], _ => rfl) (fun cdv A outer s H E hg hr => b_cons (s_set 1 sc_divisor_of.nd (d_int)) (b_cons (s_for PassesOwn.never rfl (i_seq (d_var 0)) (g_name 2 sc_divisor_of.nd) (b_one (s_set 1 sc_divisor_of.nd (d_callF cr_gcd cd_gcd bl.f_gcd (v_cons (d_var 1) (v_cons (d_var 2) (v_nil))))))) (b_one (s_ret (d_var 1))))) rd_divisor_of
theorem ok_common_divisor (bl : Blt mg) (c_is_integer : Callee P w K mg base CX0 2 "is_integer" 1 sp_is_integer) (c_divisor_of : Callee P w K mg base CX0 1 "divisor_of" 1 sp_divisor_of) {f : Addr} {fd : FuncData} (F : Fun K "common_divisor" "common_divisor" s_common_divisor f fd) : FnG P w K mg base CX0 3 f (spD K 1 sp_common_divisor) :=
  fn_ok F sc_common_divisor rfl (fun _ _ _ _ _ _ us hl => match us, hl with | [_], _ => rfl) (fun cdv A outer s H E hg hr => b_cons (s_if (t_w (w_or (t_not (t_tru (d_isi (d_var 0) bl.b_isinstance bl.b_tuple bt_tuple))) (w_or1 (t_not (t_chain op_le op_le od_cmp od_cmp (d_int) (d_callB call_len cd_len bl.b_len bt_len (v_cons (d_var 0) (v_nil))) (d_globI rfl bl.c_MAX_NUMBERS.choose_spec ⟨_, rfl⟩)))))) (b_one (s_never)) (b_nil)) (b_cons (s_if (t_not (t_tru (d_callB (cr_all rfl) cd_allB bl.b_all bt_all (v_cons (d_lc (own := [("number", 1)]) rfl sc_common_divisor.nd (i_seq (d_var 0)) (blkOk_by (own := [("number", 1)]) (N := N_common_divisor) (sc := defScope s_common_divisor) (by decide +kernel)) (fun _ _ _ _ _ => g_name 1 sc_common_divisor.nd) (fun _ _ _ _ _ => ts_nil) (fun _ _ _ _ _ => d_call c_is_integer hg (hr.mono (by decide)) passN (a_cons (x_var 1) (a_nil)))) (v_nil))))) (b_one (s_never)) (b_nil)) (b_one (s_ret (d_call c_divisor_of hg (hr.mono (by decide)) passN (a_cons (x_var 0) (a_nil))))))) rd_common_divisor
theorem ok_lowest (bl : Blt mg) (c_is_integer : Callee P w K mg base CX0 2 "is_integer" 1 sp_is_integer) (c_lowest_of : Callee P w K mg base CX0 1 "lowest_of" 2 sp_lowest_of) {f : Addr} {fd : FuncData} (F : Fun K "lowest" "lowest" s_lowest f fd) : FnG P w K mg base CX0 3 f (spD K 2 sp_lowest) :=
  fn_ok F sc_lowest rfl (fun _ _ _ _ _ _ us hl => match us, hl with | [_, _], _ => rfl) (fun cdv A outer s H E hg hr => b_cons (s_if (t_not (t_tru (d_call c_is_integer hg (hr.mono (by decide)) passN (a_cons (x_var 0) (a_nil))))) (b_one (s_never)) (b_nil)) (b_cons (s_if (t_w (w_or (t_not (t_tru (d_call c_is_integer hg (hr.mono (by decide)) passN (a_cons (x_var 1) (a_nil))))) (w_or1 (t_cmp (op_eqA hr.units) od_eq (d_var 1) (d_int) (nomark _))))) (b_one (s_never)) (b_nil)) (b_one (s_ret (d_call c_lowest_of hg (hr.mono (by decide)) passN (a_cons (x_var 0) (a_cons (x_var 1) (a_nil)))))))) rd_lowest
theorem ok_l_lowered (bl : Blt mg) (c_l_one_of : Callee P w K mg base CX0 2 "_law_one_of" 2 sp_l_one_of) (c_l_whole : Callee P w K mg base CX0 2 "_law_whole" 2 sp_l_whole) (c_common_divisor : Callee P w K mg base CX0 3 "common_divisor" 1 sp_common_divisor) (c_l_divisor : Callee P w K mg base CX0 1 "_law_divisor" 1 sp_l_divisor) (c_l_grab : Callee P w K mg base CX0 1 "_law_grab" 2 sp_l_grab) (c_lowest : Callee P w K mg base CX0 3 "lowest" 2 sp_lowest) (c_l_lowered_pair : Callee P w K mg base CX0 2 "_law_lowered_pair" 2 sp_l_lowered_pair) (c_l_is_ratio : Callee P w K mg base CX0 2 "_law_is_ratio" 1 sp_l_is_ratio) {f : Addr} {fd : FuncData} (F : Fun K "_law_lowered" "_law_lowered" s_l_lowered f fd) : FnG P w K mg base CX0 4 f (spD K 1 sp_l_lowered) :=
  fn_ok F sc_l_lowered rfl (fun _ _ _ _ _ _ us hl => match us, hl with | [_], _ => rfl) (fun cdv A outer s H E hg hr => b_cons (s_set 1 sc_l_lowered.nd (d_call c_l_one_of hg (hr.mono (by decide)) passN (a_cons (x_var 0) (a_cons (x_val (d_lst (v_cons (d_int) (v_cons (d_int) (v_cons (d_op op_powB od_int2 (d_int) (d_int)) (v_nil)))))) (a_nil))))) (b_cons (s_set 2 sc_l_lowered.nd (d_call c_l_one_of hg (hr.mono (by decide)) passN (a_cons (x_var 0) (a_cons (x_val (d_lst (v_cons (d_int) (v_cons (d_int) (v_cons (d_int) (v_cons (d_int) (v_cons (d_op op_powB od_int2 (d_int) (d_int)) (v_nil)))))))) (a_nil))))) (b_cons (s_set 3 sc_l_lowered.nd (d_callTy call_tuple_of cd_tuple bl.b_tuple bt_tuple (v_cons (d_lc (own := [("_law_turn", 6)]) rfl sc_l_lowered.nd (i_range1 (d_call c_l_one_of hg (hr.mono (by decide)) passN (a_cons (x_var 0) (a_cons (x_val (d_lst (v_cons (d_int) (v_cons (d_int) (v_cons (d_int) (v_cons (d_int) (v_cons (d_int) (v_nil)))))))) (a_nil)))) bl.b_range) (blkOk_by (own := [("_law_turn", 6)]) (N := N_l_lowered) (sc := defScope s_l_lowered) (by decide +kernel)) (fun _ _ _ _ _ => g_name 6 sc_l_lowered.nd) (fun _ _ _ _ _ => ts_nil) (fun _ _ _ _ _ => d_op op_mulA od_mul (d_var 2) (d_call c_l_whole hg (hr.mono (by decide)) passN (a_cons (x_var 0) (a_cons (x_var 1) (a_nil)))))) (v_nil)))) (b_cons (s_if (t_w (w_or (t_cmp (op_neA hr.units) od_ne (d_call c_common_divisor hg (hr.mono (by decide)) passN (a_cons (x_var 3) (a_nil))) (d_call c_l_divisor hg (hr.mono (by decide)) passN (a_cons (x_var 3) (a_nil))) (nomark _)) (w_or1 (t_cmp (op_neA hr.units) od_ne (d_call c_common_divisor hg (hr.mono (by decide)) passN (a_cons (x_val (d_op op_addA od_add (d_var 3) (d_op op_mulA od_mul (d_tup (v_cons (d_int) (v_nil))) (d_op op_sub od_sub (d_int) (d_callB call_len cd_len bl.b_len bt_len (v_cons (d_var 3) (v_nil))))))) (a_nil))) (d_call c_l_divisor hg (hr.mono (by decide)) passN (a_cons (x_var 3) (a_nil))) (nomark _))))) (b_one (s_ret (d_bl))) (b_nil)) (b_cons (s_par 4 5 rfl sc_l_lowered.nd (d_op op_mulA od_mul (d_var 2) (d_call c_l_whole hg (hr.mono (by decide)) passN (a_cons (x_var 0) (a_cons (x_var 1) (a_nil))))) (d_op op_mulA od_mul (d_op op_mulA od_mul (d_var 2) (d_op op_addA od_add (d_int) (d_call c_l_grab hg (hr.mono (by decide)) passN (a_cons (x_var 0) (a_cons (x_var 1) (a_nil)))))) (d_call c_l_one_of hg (hr.mono (by decide)) passN (a_cons (x_var 0) (a_cons (x_val (d_lst (v_cons (d_int) (v_cons (d_neg (d_int)) (v_nil))))) (a_nil))))) (hw := by rfl)) (b_one (s_ret (d_and (d_cmp (op_eqA hr.units) od_eq (d_call c_lowest hg (hr.mono (by decide)) passN (a_cons (x_var 4) (a_cons (x_var 5) (a_nil)))) (d_call c_l_lowered_pair hg (hr.mono (by decide)) passN (a_cons (x_var 4) (a_cons (x_var 5) (a_nil)))) (nomark _)) (d_and (d_call c_l_is_ratio hg (hr.mono (by decide)) passN (a_cons (x_val (d_call c_lowest hg (hr.mono (by decide)) passN (a_cons (x_var 4) (a_cons (x_var 5) (a_nil))))) (a_nil))) (d_one (d_cmp (op_eqA hr.units) od_eq (d_call c_lowest hg (hr.mono (by decide)) passN (a_cons (x_val (d_int)) (a_cons (x_var 5) (a_nil)))) (d_tup (v_cons (d_int) (v_cons (d_int) (v_nil)))) (nomark _)))))))))))) rd_l_lowered
theorem ok_law (bl : Blt mg) (c_l_bag : CalleeN P w K mg base CX0 1 "_law_bag" 2 sp_l_bag) (c_l_judged : Callee P w K mg base CX0 4 "_law_judged" 1 sp_l_judged) (c_l_reckoned : Callee P w K mg base CX0 6 "_law_reckoned" 1 sp_l_reckoned) (c_l_lowered : Callee P w K mg base CX0 4 "_law_lowered" 1 sp_l_lowered) (c_common_divisor : Callee P w K mg base CX0 3 "common_divisor" 1 sp_common_divisor) (c_times : Callee P w K mg base CX0 5 "times" 2 sp_times) (c_plus : Callee P w K mg base CX0 5 "plus" 2 sp_plus) (c_compare : Callee P w K mg base CX0 5 "compare" 2 sp_compare) (c_lowest : Callee P w K mg base CX0 3 "lowest" 2 sp_lowest) {f : Addr} {fd : FuncData} (F : Fun K "law" "law" s_law f fd) : FnG P w K mg base CX0 7 f (spD K 1 sp_law) :=
  fn_ok F sc_law rfl (fun _ _ _ _ _ _ us hl => match us, hl with | [_], _ => rfl) (fun cdv A outer s H E hg hr => b_cons (s_for PassesOwn.never rfl (i_range1 (d_callB (call_max2 rfl) cd_2I bl.b_max bt_max (v_cons (d_int) (v_cons (d_callB (call_min2 rfl) cd_2I bl.b_min bt_min (v_cons (d_int) (v_cons (d_callB call_len cd_len bl.b_len bt_len (v_cons (d_var 0) (v_nil))) (v_nil)))) (v_nil)))) bl.b_range) (g_name 1 sc_law.nd) (b_cons (s_bagCall 3 c_l_bag hg (hr.mono (by decide)) passN sc_law.nd (a_cons (x_var 0) (a_cons (x_var 1) (a_nil)))) (b_cons (s_if (t_not (t_tru (d_call c_l_judged hg (hr.mono (by decide)) passN (a_cons (x_var 3) (a_nil))))) (b_one (s_ret (d_bl))) (b_nil)) (b_one (s_for PassesOwn.never rfl (i_range1 (d_int) bl.b_range) (g_name 4 sc_law.nd) (b_one (s_if (t_w (w_or (t_not (t_tru (d_call c_l_reckoned hg (hr.mono (by decide)) passN (a_cons (x_var 3) (a_nil))))) (w_or1 (t_not (t_tru (d_call c_l_lowered hg (hr.mono (by decide)) passN (a_cons (x_var 3) (a_nil)))))))) (b_one (s_ret (d_bl))) (b_nil)))))))) (b_cons (s_set 2 sc_law.nd (d_lst (v_cons (d_call c_lowest hg (hr.mono (by decide)) passN (a_cons (x_val (d_int)) (a_cons (x_val (d_neg (d_int))) (a_nil)))) (v_cons (d_call c_compare hg (hr.mono (by decide)) passN (a_cons (x_val (d_tup (v_cons (d_int) (v_cons (d_int) (v_nil))))) (a_cons (x_val (d_tup (v_cons (d_int) (v_cons (d_int) (v_nil))))) (a_nil)))) (v_cons (d_call c_plus hg (hr.mono (by decide)) passN (a_cons (x_val (d_tup (v_cons (d_int) (v_cons (d_int) (v_nil))))) (a_cons (x_val (d_tup (v_cons (d_int) (v_cons (d_int) (v_nil))))) (a_nil)))) (v_cons (d_call c_times hg (hr.mono (by decide)) passN (a_cons (x_val (d_tup (v_cons (d_int) (v_cons (d_int) (v_nil))))) (a_cons (x_val (d_tup (v_cons (d_int) (v_cons (d_int) (v_nil))))) (a_nil)))) (v_cons (d_call c_common_divisor hg (hr.mono (by decide)) passN (a_cons (x_val (d_tup (v_cons (d_int) (v_nil)))) (a_nil))) (v_nil)))))))) (b_one (s_ret (d_cmp (op_eqA hr.units) od_eq (d_var 2) (d_lst (v_cons (d_tup (v_cons (d_neg (d_int)) (v_cons (d_int) (v_nil)))) (v_cons (d_neg (d_int)) (v_cons (d_tup (v_cons (d_int) (v_cons (d_int) (v_nil)))) (v_cons (d_tup (v_cons (d_int) (v_cons (d_int) (v_nil)))) (v_cons (d_int) (v_nil))))))) (nomark _)))))) rd_law
end
/-! ### the facts of the top, and the head -/
theorem all_mk {P : Program} {w : World} {K : PySem.W.Frag} {h : Heap} {mg : Str → Option Value} {fa f0 f1 f2 f3 f4 f5 f6 f7 f8 f9 f10 f11 f12 f13 f14 f15 f16 f17 f18 f19 f20 f21 f22 f23 f24 f25 f26 f27 : Addr} (X : K.In h) (G : h.Ns mainGlobals mg) (hfa : mg "law" = some (.ref fa))
    {od0 an0 od1 an1 od2 an2 od3 an3 od4 an4 od5 an5 od6 an6 od7 an7 od8 an8 od9 an9 od10 an10 od11 an11 od12 an12 od13 an13 od14 an14 od15 an15 od16 an16 od17 an17 od18 an18 od19 an19 od20 an20 od21 an21 od22 an22 od23 an23 od24 an24 od25 an25 od26 an26 od27 an27 : Option Addr} {sl0 sl1 sl2 sl3 sl4 sl5 sl6 sl7 sl8 sl9 sl10 sl11 sl12 sl13 sl14 sl15 sl16 sl17 sl18 sl19 sl20 sl21 sl22 sl23 sl24 sl25 sl26 sl27 : Array (Option Value)} {oc0 kV0 dc0 pm0 cd0 ct0 oc1 kV1 dc1 pm1 cd1 ct1 oc2 kV2 dc2 pm2 cd2 ct2 oc3 kV3 dc3 pm3 cd3 ct3 oc4 kV4 dc4 pm4 cd4 ct4 oc5 kV5 dc5 pm5 cd5 ct5 oc6 kV6 dc6 pm6 cd6 ct6 oc7 kV7 dc7 pm7 cd7 ct7 oc8 kV8 dc8 pm8 cd8 ct8 oc9 kV9 dc9 pm9 cd9 ct9 oc10 kV10 dc10 pm10 cd10 ct10 oc11 kV11 dc11 pm11 cd11 ct11 oc12 kV12 dc12 pm12 cd12 ct12 oc13 kV13 dc13 pm13 cd13 ct13 oc14 kV14 dc14 pm14 cd14 ct14 oc15 kV15 dc15 pm15 cd15 ct15 oc16 kV16 dc16 pm16 cd16 ct16 oc17 kV17 dc17 pm17 cd17 ct17 oc18 kV18 dc18 pm18 cd18 ct18 oc19 kV19 dc19 pm19 cd19 ct19 oc20 kV20 dc20 pm20 cd20 ct20 oc21 kV21 dc21 pm21 cd21 ct21 oc22 kV22 dc22 pm22 cd22 ct22 oc23 kV23 dc23 pm23 cd23 ct23 oc24 kV24 dc24 pm24 cd24 ct24 oc25 kV25 dc25 pm25 cd25 ct25 oc26 kV26 dc26 pm26 cd26 ct26 oc27 kV27 dc27 pm27 cd27 ct27 : Value}
    {t_BEYOND t_MAX_NUMBERS t_PAIR : Tok}
    (a_l_bag : PySem.W.nsIn K mainGlobals "_law_bag" = some (some (.ref f0)))
    (l_l_bag : K.lookup f0 = some ⟨oc0, od0, .func (PySem.W.fnOf "_law_bag" "_law_bag" (defArgs s_l_bag) (defBody s_l_bag) (defScope s_l_bag) .none kV0 dc0 pm0 an0 cd0 ct0), sl0⟩)
    (k_l_bag : PySem.W.codeIn K cd0 "_law_bag" = true)
    (p_l_bag : PySem.W.keepIn K (.ref f0) = true)
    (a_l_grab : PySem.W.nsIn K mainGlobals "_law_grab" = some (some (.ref f1)))
    (l_l_grab : K.lookup f1 = some ⟨oc1, od1, .func (PySem.W.fnOf "_law_grab" "_law_grab" (defArgs s_l_grab) (defBody s_l_grab) (defScope s_l_grab) .none kV1 dc1 pm1 an1 cd1 ct1), sl1⟩)
    (k_l_grab : PySem.W.codeIn K cd1 "_law_grab" = true)
    (p_l_grab : PySem.W.keepIn K (.ref f1) = true)
    (a_l_one_of : PySem.W.nsIn K mainGlobals "_law_one_of" = some (some (.ref f2)))
    (l_l_one_of : K.lookup f2 = some ⟨oc2, od2, .func (PySem.W.fnOf "_law_one_of" "_law_one_of" (defArgs s_l_one_of) (defBody s_l_one_of) (defScope s_l_one_of) .none kV2 dc2 pm2 an2 cd2 ct2), sl2⟩)
    (k_l_one_of : PySem.W.codeIn K cd2 "_law_one_of" = true)
    (p_l_one_of : PySem.W.keepIn K (.ref f2) = true)
    (a_l_whole : PySem.W.nsIn K mainGlobals "_law_whole" = some (some (.ref f3)))
    (l_l_whole : K.lookup f3 = some ⟨oc3, od3, .func (PySem.W.fnOf "_law_whole" "_law_whole" (defArgs s_l_whole) (defBody s_l_whole) (defScope s_l_whole) .none kV3 dc3 pm3 an3 cd3 ct3), sl3⟩)
    (k_l_whole : PySem.W.codeIn K cd3 "_law_whole" = true)
    (p_l_whole : PySem.W.keepIn K (.ref f3) = true)
    (a_l_divisor : PySem.W.nsIn K mainGlobals "_law_divisor" = some (some (.ref f4)))
    (l_l_divisor : K.lookup f4 = some ⟨oc4, od4, .func (PySem.W.fnOf "_law_divisor" "_law_divisor" (defArgs s_l_divisor) (defBody s_l_divisor) (defScope s_l_divisor) .none kV4 dc4 pm4 an4 cd4 ct4), sl4⟩)
    (k_l_divisor : PySem.W.codeIn K cd4 "_law_divisor" = true)
    (p_l_divisor : PySem.W.keepIn K (.ref f4) = true)
    (a_l_ratio : PySem.W.nsIn K mainGlobals "_law_ratio" = some (some (.ref f5)))
    (l_l_ratio : K.lookup f5 = some ⟨oc5, od5, .func (PySem.W.fnOf "_law_ratio" "_law_ratio" (defArgs s_l_ratio) (defBody s_l_ratio) (defScope s_l_ratio) .none kV5 dc5 pm5 an5 cd5 ct5), sl5⟩)
    (k_l_ratio : PySem.W.codeIn K cd5 "_law_ratio" = true)
    (p_l_ratio : PySem.W.keepIn K (.ref f5) = true)
    (a_is_whole : PySem.W.nsIn K mainGlobals "is_whole" = some (some (.ref f6)))
    (l_is_whole : K.lookup f6 = some ⟨oc6, od6, .func (PySem.W.fnOf "is_whole" "is_whole" (defArgs s_is_whole) (defBody s_is_whole) (defScope s_is_whole) .none kV6 dc6 pm6 an6 cd6 ct6), sl6⟩)
    (k_is_whole : PySem.W.codeIn K cd6 "is_whole" = true)
    (p_is_whole : PySem.W.keepIn K (.ref f6) = true)
    (a_is_integer : PySem.W.nsIn K mainGlobals "is_integer" = some (some (.ref f7)))
    (l_is_integer : K.lookup f7 = some ⟨oc7, od7, .func (PySem.W.fnOf "is_integer" "is_integer" (defArgs s_is_integer) (defBody s_is_integer) (defScope s_is_integer) .none kV7 dc7 pm7 an7 cd7 ct7), sl7⟩)
    (k_is_integer : PySem.W.codeIn K cd7 "is_integer" = true)
    (p_is_integer : PySem.W.keepIn K (.ref f7) = true)
    (a_is_ratio : PySem.W.nsIn K mainGlobals "is_ratio" = some (some (.ref f8)))
    (l_is_ratio : K.lookup f8 = some ⟨oc8, od8, .func (PySem.W.fnOf "is_ratio" "is_ratio" (defArgs s_is_ratio) (defBody s_is_ratio) (defScope s_is_ratio) .none kV8 dc8 pm8 an8 cd8 ct8), sl8⟩)
    (k_is_ratio : PySem.W.codeIn K cd8 "is_ratio" = true)
    (p_is_ratio : PySem.W.keepIn K (.ref f8) = true)
    (a_l_is_short : PySem.W.nsIn K mainGlobals "_law_is_short" = some (some (.ref f9)))
    (l_l_is_short : K.lookup f9 = some ⟨oc9, od9, .func (PySem.W.fnOf "_law_is_short" "_law_is_short" (defArgs s_l_is_short) (defBody s_l_is_short) (defScope s_l_is_short) .none kV9 dc9 pm9 an9 cd9 ct9), sl9⟩)
    (k_l_is_short : PySem.W.codeIn K cd9 "_law_is_short" = true)
    (p_l_is_short : PySem.W.keepIn K (.ref f9) = true)
    (a_l_is_ratio : PySem.W.nsIn K mainGlobals "_law_is_ratio" = some (some (.ref f10)))
    (l_l_is_ratio : K.lookup f10 = some ⟨oc10, od10, .func (PySem.W.fnOf "_law_is_ratio" "_law_is_ratio" (defArgs s_l_is_ratio) (defBody s_l_is_ratio) (defScope s_l_is_ratio) .none kV10 dc10 pm10 an10 cd10 ct10), sl10⟩)
    (k_l_is_ratio : PySem.W.codeIn K cd10 "_law_is_ratio" = true)
    (p_l_is_ratio : PySem.W.keepIn K (.ref f10) = true)
    (a_l_judged : PySem.W.nsIn K mainGlobals "_law_judged" = some (some (.ref f11)))
    (l_l_judged : K.lookup f11 = some ⟨oc11, od11, .func (PySem.W.fnOf "_law_judged" "_law_judged" (defArgs s_l_judged) (defBody s_l_judged) (defScope s_l_judged) .none kV11 dc11 pm11 an11 cd11 ct11), sl11⟩)
    (k_l_judged : PySem.W.codeIn K cd11 "_law_judged" = true)
    (p_l_judged : PySem.W.keepIn K (.ref f11) = true)
    (a_require_ratios : PySem.W.nsIn K mainGlobals "require_ratios" = some (some (.ref f12)))
    (l_require_ratios : K.lookup f12 = some ⟨oc12, od12, .func (PySem.W.fnOf "require_ratios" "require_ratios" (defArgs s_require_ratios) (defBody s_require_ratios) (defScope s_require_ratios) .none kV12 dc12 pm12 an12 cd12 ct12), sl12⟩)
    (k_require_ratios : PySem.W.codeIn K cd12 "require_ratios" = true)
    (p_require_ratios : PySem.W.keepIn K (.ref f12) = true)
    (a_compared_of : PySem.W.nsIn K mainGlobals "compared_of" = some (some (.ref f13)))
    (l_compared_of : K.lookup f13 = some ⟨oc13, od13, .func (PySem.W.fnOf "compared_of" "compared_of" (defArgs s_compared_of) (defBody s_compared_of) (defScope s_compared_of) .none kV13 dc13 pm13 an13 cd13 ct13), sl13⟩)
    (k_compared_of : PySem.W.codeIn K cd13 "compared_of" = true)
    (p_compared_of : PySem.W.keepIn K (.ref f13) = true)
    (a_compare : PySem.W.nsIn K mainGlobals "compare" = some (some (.ref f14)))
    (l_compare : K.lookup f14 = some ⟨oc14, od14, .func (PySem.W.fnOf "compare" "compare" (defArgs s_compare) (defBody s_compare) (defScope s_compare) .none kV14 dc14 pm14 an14 cd14 ct14), sl14⟩)
    (k_compare : PySem.W.codeIn K cd14 "compare" = true)
    (p_compare : PySem.W.keepIn K (.ref f14) = true)
    (a_lowest_of : PySem.W.nsIn K mainGlobals "lowest_of" = some (some (.ref f15)))
    (l_lowest_of : K.lookup f15 = some ⟨oc15, od15, .func (PySem.W.fnOf "lowest_of" "lowest_of" (defArgs s_lowest_of) (defBody s_lowest_of) (defScope s_lowest_of) .none kV15 dc15 pm15 an15 cd15 ct15), sl15⟩)
    (k_lowest_of : PySem.W.codeIn K cd15 "lowest_of" = true)
    (p_lowest_of : PySem.W.keepIn K (.ref f15) = true)
    (a_times_of : PySem.W.nsIn K mainGlobals "times_of" = some (some (.ref f16)))
    (l_times_of : K.lookup f16 = some ⟨oc16, od16, .func (PySem.W.fnOf "times_of" "times_of" (defArgs s_times_of) (defBody s_times_of) (defScope s_times_of) .none kV16 dc16 pm16 an16 cd16 ct16), sl16⟩)
    (k_times_of : PySem.W.codeIn K cd16 "times_of" = true)
    (p_times_of : PySem.W.keepIn K (.ref f16) = true)
    (a_times : PySem.W.nsIn K mainGlobals "times" = some (some (.ref f17)))
    (l_times : K.lookup f17 = some ⟨oc17, od17, .func (PySem.W.fnOf "times" "times" (defArgs s_times) (defBody s_times) (defScope s_times) .none kV17 dc17 pm17 an17 cd17 ct17), sl17⟩)
    (k_times : PySem.W.codeIn K cd17 "times" = true)
    (p_times : PySem.W.keepIn K (.ref f17) = true)
    (a_plus_of : PySem.W.nsIn K mainGlobals "plus_of" = some (some (.ref f18)))
    (l_plus_of : K.lookup f18 = some ⟨oc18, od18, .func (PySem.W.fnOf "plus_of" "plus_of" (defArgs s_plus_of) (defBody s_plus_of) (defScope s_plus_of) .none kV18 dc18 pm18 an18 cd18 ct18), sl18⟩)
    (k_plus_of : PySem.W.codeIn K cd18 "plus_of" = true)
    (p_plus_of : PySem.W.keepIn K (.ref f18) = true)
    (a_minus : PySem.W.nsIn K mainGlobals "minus" = some (some (.ref f19)))
    (l_minus : K.lookup f19 = some ⟨oc19, od19, .func (PySem.W.fnOf "minus" "minus" (defArgs s_minus) (defBody s_minus) (defScope s_minus) .none kV19 dc19 pm19 an19 cd19 ct19), sl19⟩)
    (k_minus : PySem.W.codeIn K cd19 "minus" = true)
    (p_minus : PySem.W.keepIn K (.ref f19) = true)
    (a_plus : PySem.W.nsIn K mainGlobals "plus" = some (some (.ref f20)))
    (l_plus : K.lookup f20 = some ⟨oc20, od20, .func (PySem.W.fnOf "plus" "plus" (defArgs s_plus) (defBody s_plus) (defScope s_plus) .none kV20 dc20 pm20 an20 cd20 ct20), sl20⟩)
    (k_plus : PySem.W.codeIn K cd20 "plus" = true)
    (p_plus : PySem.W.keepIn K (.ref f20) = true)
    (a_l_lowered_pair : PySem.W.nsIn K mainGlobals "_law_lowered_pair" = some (some (.ref f21)))
    (l_l_lowered_pair : K.lookup f21 = some ⟨oc21, od21, .func (PySem.W.fnOf "_law_lowered_pair" "_law_lowered_pair" (defArgs s_l_lowered_pair) (defBody s_l_lowered_pair) (defScope s_l_lowered_pair) .none kV21 dc21 pm21 an21 cd21 ct21), sl21⟩)
    (k_l_lowered_pair : PySem.W.codeIn K cd21 "_law_lowered_pair" = true)
    (p_l_lowered_pair : PySem.W.keepIn K (.ref f21) = true)
    (a_l_reckoned : PySem.W.nsIn K mainGlobals "_law_reckoned" = some (some (.ref f22)))
    (l_l_reckoned : K.lookup f22 = some ⟨oc22, od22, .func (PySem.W.fnOf "_law_reckoned" "_law_reckoned" (defArgs s_l_reckoned) (defBody s_l_reckoned) (defScope s_l_reckoned) .none kV22 dc22 pm22 an22 cd22 ct22), sl22⟩)
    (k_l_reckoned : PySem.W.codeIn K cd22 "_law_reckoned" = true)
    (p_l_reckoned : PySem.W.keepIn K (.ref f22) = true)
    (a_divisor_of : PySem.W.nsIn K mainGlobals "divisor_of" = some (some (.ref f23)))
    (l_divisor_of : K.lookup f23 = some ⟨oc23, od23, .func (PySem.W.fnOf "divisor_of" "divisor_of" (defArgs s_divisor_of) (defBody s_divisor_of) (defScope s_divisor_of) .none kV23 dc23 pm23 an23 cd23 ct23), sl23⟩)
    (k_divisor_of : PySem.W.codeIn K cd23 "divisor_of" = true)
    (p_divisor_of : PySem.W.keepIn K (.ref f23) = true)
    (a_common_divisor : PySem.W.nsIn K mainGlobals "common_divisor" = some (some (.ref f24)))
    (l_common_divisor : K.lookup f24 = some ⟨oc24, od24, .func (PySem.W.fnOf "common_divisor" "common_divisor" (defArgs s_common_divisor) (defBody s_common_divisor) (defScope s_common_divisor) .none kV24 dc24 pm24 an24 cd24 ct24), sl24⟩)
    (k_common_divisor : PySem.W.codeIn K cd24 "common_divisor" = true)
    (p_common_divisor : PySem.W.keepIn K (.ref f24) = true)
    (a_lowest : PySem.W.nsIn K mainGlobals "lowest" = some (some (.ref f25)))
    (l_lowest : K.lookup f25 = some ⟨oc25, od25, .func (PySem.W.fnOf "lowest" "lowest" (defArgs s_lowest) (defBody s_lowest) (defScope s_lowest) .none kV25 dc25 pm25 an25 cd25 ct25), sl25⟩)
    (k_lowest : PySem.W.codeIn K cd25 "lowest" = true)
    (p_lowest : PySem.W.keepIn K (.ref f25) = true)
    (a_l_lowered : PySem.W.nsIn K mainGlobals "_law_lowered" = some (some (.ref f26)))
    (l_l_lowered : K.lookup f26 = some ⟨oc26, od26, .func (PySem.W.fnOf "_law_lowered" "_law_lowered" (defArgs s_l_lowered) (defBody s_l_lowered) (defScope s_l_lowered) .none kV26 dc26 pm26 an26 cd26 ct26), sl26⟩)
    (k_l_lowered : PySem.W.codeIn K cd26 "_law_lowered" = true)
    (p_l_lowered : PySem.W.keepIn K (.ref f26) = true)
    (a_law : PySem.W.nsIn K mainGlobals "law" = some (some (.ref f27)))
    (l_law : K.lookup f27 = some ⟨oc27, od27, .func (PySem.W.fnOf "law" "law" (defArgs s_law) (defBody s_law) (defScope s_law) .none kV27 dc27 pm27 an27 cd27 ct27), sl27⟩)
    (k_law : PySem.W.codeIn K cd27 "law" = true)
    (p_law : PySem.W.keepIn K (.ref f27) = true)
    (z_abs : PySem.W.nsIn K mainGlobals "abs" = some none)
    (z_all : PySem.W.nsIn K mainGlobals "all" = some none)
    (z_bool : PySem.W.nsIn K mainGlobals "bool" = some none)
    (z_int : PySem.W.nsIn K mainGlobals "int" = some none)
    (z_isinstance : PySem.W.nsIn K mainGlobals "isinstance" = some none)
    (z_len : PySem.W.nsIn K mainGlobals "len" = some none)
    (z_max : PySem.W.nsIn K mainGlobals "max" = some none)
    (z_min : PySem.W.nsIn K mainGlobals "min" = some none)
    (z_range : PySem.W.nsIn K mainGlobals "range" = some none)
    (z_repr : PySem.W.nsIn K mainGlobals "repr" = some none)
    (z_sum : PySem.W.nsIn K mainGlobals "sum" = some none)
    (z_tuple : PySem.W.nsIn K mainGlobals "tuple" = some none)
    (g_gcd : PySem.W.nsIn K mainGlobals "gcd" = some (some (.builtin "math.gcd")))
    (i_BEYOND : PySem.W.nsIn K mainGlobals "BEYOND" = some (some (.int (1000000000000000000000000000000000000000000000000000000000000) t_BEYOND)))
    (i_MAX_NUMBERS : PySem.W.nsIn K mainGlobals "MAX_NUMBERS" = some (some (.int (100) t_MAX_NUMBERS)))
    (i_PAIR : PySem.W.nsIn K mainGlobals "PAIR" = some (some (.int (2) t_PAIR)))
    : ∀ base : Heap, K.In base → base.Ns mainGlobals mg → FnG P w K mg base CX0 7 fa (spD K 1 sp_law) := by
  have e := hfa.symm.trans (PySem.W.mg_of X G a_law)
  cases e
  have bl : Blt mg := ⟨PySem.W.ns_none_of X G z_abs, PySem.W.ns_none_of X G z_all, PySem.W.ns_none_of X G z_bool, PySem.W.ns_none_of X G z_int, PySem.W.ns_none_of X G z_isinstance, PySem.W.ns_none_of X G z_len, PySem.W.ns_none_of X G z_max, PySem.W.ns_none_of X G z_min, PySem.W.ns_none_of X G z_range, PySem.W.ns_none_of X G z_repr, PySem.W.ns_none_of X G z_sum, PySem.W.ns_none_of X G z_tuple, PySem.W.mg_of X G g_gcd, ⟨_, PySem.W.mg_of X G i_BEYOND⟩, ⟨_, PySem.W.mg_of X G i_MAX_NUMBERS⟩, ⟨_, PySem.W.mg_of X G i_PAIR⟩⟩
  intro base _ _
  have F_l_bag := fun_mk (st := s_l_bag) l_l_bag k_l_bag p_l_bag
  have C_l_bag : CalleeN P w K mg base CX0 1 "_law_bag" 2 sp_l_bag := ⟨_, PySem.W.mg_of X G a_l_bag, p_l_bag, ok_l_bag bl  F_l_bag⟩
  have F_l_grab := fun_mk (st := s_l_grab) l_l_grab k_l_grab p_l_grab
  have C_l_grab : Callee P w K mg base CX0 1 "_law_grab" 2 sp_l_grab := ⟨_, PySem.W.mg_of X G a_l_grab, p_l_grab, ok_l_grab bl  F_l_grab⟩
  have F_l_one_of := fun_mk (st := s_l_one_of) l_l_one_of k_l_one_of p_l_one_of
  have C_l_one_of : Callee P w K mg base CX0 2 "_law_one_of" 2 sp_l_one_of := ⟨_, PySem.W.mg_of X G a_l_one_of, p_l_one_of, ok_l_one_of bl C_l_grab F_l_one_of⟩
  have F_l_whole := fun_mk (st := s_l_whole) l_l_whole k_l_whole p_l_whole
  have C_l_whole : Callee P w K mg base CX0 2 "_law_whole" 2 sp_l_whole := ⟨_, PySem.W.mg_of X G a_l_whole, p_l_whole, ok_l_whole bl C_l_grab F_l_whole⟩
  have F_l_divisor := fun_mk (st := s_l_divisor) l_l_divisor k_l_divisor p_l_divisor
  have C_l_divisor : Callee P w K mg base CX0 1 "_law_divisor" 1 sp_l_divisor := ⟨_, PySem.W.mg_of X G a_l_divisor, p_l_divisor, ok_l_divisor bl  F_l_divisor⟩
  have F_l_ratio := fun_mk (st := s_l_ratio) l_l_ratio k_l_ratio p_l_ratio
  have C_l_ratio : Callee P w K mg base CX0 3 "_law_ratio" 1 sp_l_ratio := ⟨_, PySem.W.mg_of X G a_l_ratio, p_l_ratio, ok_l_ratio bl C_l_one_of C_l_whole C_l_grab C_l_divisor F_l_ratio⟩
  have F_is_whole := fun_mk (st := s_is_whole) l_is_whole k_is_whole p_is_whole
  have C_is_whole : Callee P w K mg base CX0 1 "is_whole" 1 sp_is_whole := ⟨_, PySem.W.mg_of X G a_is_whole, p_is_whole, ok_is_whole bl  F_is_whole⟩
  have F_is_integer := fun_mk (st := s_is_integer) l_is_integer k_is_integer p_is_integer
  have C_is_integer : Callee P w K mg base CX0 2 "is_integer" 1 sp_is_integer := ⟨_, PySem.W.mg_of X G a_is_integer, p_is_integer, ok_is_integer bl C_is_whole F_is_integer⟩
  have F_is_ratio := fun_mk (st := s_is_ratio) l_is_ratio k_is_ratio p_is_ratio
  have C_is_ratio : Callee P w K mg base CX0 3 "is_ratio" 1 sp_is_ratio := ⟨_, PySem.W.mg_of X G a_is_ratio, p_is_ratio, ok_is_ratio bl C_is_integer F_is_ratio⟩
  have F_l_is_short := fun_mk (st := s_l_is_short) l_l_is_short k_l_is_short p_l_is_short
  have C_l_is_short : Callee P w K mg base CX0 1 "_law_is_short" 1 sp_l_is_short := ⟨_, PySem.W.mg_of X G a_l_is_short, p_l_is_short, ok_l_is_short bl  F_l_is_short⟩
  have F_l_is_ratio := fun_mk (st := s_l_is_ratio) l_l_is_ratio k_l_is_ratio p_l_is_ratio
  have C_l_is_ratio : Callee P w K mg base CX0 2 "_law_is_ratio" 1 sp_l_is_ratio := ⟨_, PySem.W.mg_of X G a_l_is_ratio, p_l_is_ratio, ok_l_is_ratio bl C_l_is_short C_l_divisor F_l_is_ratio⟩
  have F_l_judged := fun_mk (st := s_l_judged) l_l_judged k_l_judged p_l_judged
  have C_l_judged : Callee P w K mg base CX0 4 "_law_judged" 1 sp_l_judged := ⟨_, PySem.W.mg_of X G a_l_judged, p_l_judged, ok_l_judged bl C_l_ratio C_is_ratio C_is_integer C_l_is_ratio C_l_is_short F_l_judged⟩
  have F_require_ratios := fun_mk (st := s_require_ratios) l_require_ratios k_require_ratios p_require_ratios
  have C_require_ratios : Callee P w K mg base CX0 4 "require_ratios" 2 sp_require_ratios := ⟨_, PySem.W.mg_of X G a_require_ratios, p_require_ratios, ok_require_ratios bl C_is_ratio F_require_ratios⟩
  have F_compared_of := fun_mk (st := s_compared_of) l_compared_of k_compared_of p_compared_of
  have C_compared_of : Callee P w K mg base CX0 1 "compared_of" 2 sp_compared_of := ⟨_, PySem.W.mg_of X G a_compared_of, p_compared_of, ok_compared_of bl  F_compared_of⟩
  have F_compare := fun_mk (st := s_compare) l_compare k_compare p_compare
  have C_compare : Callee P w K mg base CX0 5 "compare" 2 sp_compare := ⟨_, PySem.W.mg_of X G a_compare, p_compare, ok_compare bl C_require_ratios C_compared_of F_compare⟩
  have F_lowest_of := fun_mk (st := s_lowest_of) l_lowest_of k_lowest_of p_lowest_of
  have C_lowest_of : Callee P w K mg base CX0 1 "lowest_of" 2 sp_lowest_of := ⟨_, PySem.W.mg_of X G a_lowest_of, p_lowest_of, ok_lowest_of bl  F_lowest_of⟩
  have F_times_of := fun_mk (st := s_times_of) l_times_of k_times_of p_times_of
  have C_times_of : Callee P w K mg base CX0 2 "times_of" 2 sp_times_of := ⟨_, PySem.W.mg_of X G a_times_of, p_times_of, ok_times_of bl C_lowest_of F_times_of⟩
  have F_times := fun_mk (st := s_times) l_times k_times p_times
  have C_times : Callee P w K mg base CX0 5 "times" 2 sp_times := ⟨_, PySem.W.mg_of X G a_times, p_times, ok_times bl C_require_ratios C_times_of F_times⟩
  have F_plus_of := fun_mk (st := s_plus_of) l_plus_of k_plus_of p_plus_of
  have C_plus_of : Callee P w K mg base CX0 2 "plus_of" 2 sp_plus_of := ⟨_, PySem.W.mg_of X G a_plus_of, p_plus_of, ok_plus_of bl C_lowest_of F_plus_of⟩
  have F_minus := fun_mk (st := s_minus) l_minus k_minus p_minus
  have C_minus : Callee P w K mg base CX0 5 "minus" 2 sp_minus := ⟨_, PySem.W.mg_of X G a_minus, p_minus, ok_minus bl C_require_ratios C_plus_of F_minus⟩
  have F_plus := fun_mk (st := s_plus) l_plus k_plus p_plus
  have C_plus : Callee P w K mg base CX0 5 "plus" 2 sp_plus := ⟨_, PySem.W.mg_of X G a_plus, p_plus, ok_plus bl C_require_ratios C_plus_of F_plus⟩
  have F_l_lowered_pair := fun_mk (st := s_l_lowered_pair) l_l_lowered_pair k_l_lowered_pair p_l_lowered_pair
  have C_l_lowered_pair : Callee P w K mg base CX0 2 "_law_lowered_pair" 2 sp_l_lowered_pair := ⟨_, PySem.W.mg_of X G a_l_lowered_pair, p_l_lowered_pair, ok_l_lowered_pair bl C_l_divisor F_l_lowered_pair⟩
  have F_l_reckoned := fun_mk (st := s_l_reckoned) l_l_reckoned k_l_reckoned p_l_reckoned
  have C_l_reckoned : Callee P w K mg base CX0 6 "_law_reckoned" 1 sp_l_reckoned := ⟨_, PySem.W.mg_of X G a_l_reckoned, p_l_reckoned, ok_l_reckoned bl C_l_ratio C_l_grab C_compare C_times C_minus C_plus C_l_lowered_pair F_l_reckoned⟩
  have F_divisor_of := fun_mk (st := s_divisor_of) l_divisor_of k_divisor_of p_divisor_of
  have C_divisor_of : Callee P w K mg base CX0 1 "divisor_of" 1 sp_divisor_of := ⟨_, PySem.W.mg_of X G a_divisor_of, p_divisor_of, ok_divisor_of bl  F_divisor_of⟩
  have F_common_divisor := fun_mk (st := s_common_divisor) l_common_divisor k_common_divisor p_common_divisor
  have C_common_divisor : Callee P w K mg base CX0 3 "common_divisor" 1 sp_common_divisor := ⟨_, PySem.W.mg_of X G a_common_divisor, p_common_divisor, ok_common_divisor bl C_is_integer C_divisor_of F_common_divisor⟩
  have F_lowest := fun_mk (st := s_lowest) l_lowest k_lowest p_lowest
  have C_lowest : Callee P w K mg base CX0 3 "lowest" 2 sp_lowest := ⟨_, PySem.W.mg_of X G a_lowest, p_lowest, ok_lowest bl C_is_integer C_lowest_of F_lowest⟩
  have F_l_lowered := fun_mk (st := s_l_lowered) l_l_lowered k_l_lowered p_l_lowered
  have C_l_lowered : Callee P w K mg base CX0 4 "_law_lowered" 1 sp_l_lowered := ⟨_, PySem.W.mg_of X G a_l_lowered, p_l_lowered, ok_l_lowered bl C_l_one_of C_l_whole C_common_divisor C_l_divisor C_l_grab C_lowest C_l_lowered_pair C_l_is_ratio F_l_lowered⟩
  have F_law := fun_mk (st := s_law) l_law k_law p_law
  exact ok_law (P := P) (w := w) (base := base) bl C_l_bag C_l_judged C_l_reckoned C_l_lowered C_common_divisor C_times C_plus C_compare C_lowest F_law
end PD
open PySem PySem.W PyProof.Rows
set_option maxRecDepth 100000 in
set_option maxHeartbeats 0 in
theorem PySem.Challenge.cw_ballgrids_k01_whole_numbers_holds : PySem.Challenge.rw_ballgrids_k01_whole_numbers.Holds := by
  w_on; o_law; k_head; (case hw => w_witness2)
  k_fill
  refine PD.walk (k := 7) (T := PD.sp_law) (l := PySem.Challenge.rw_ballgrids_k01_whole_numbers) rfl (by decide) rfl ⟨rfl, by decide, by decide⟩ (fun w h Y => PySem.W.kIn_of Y) ?F (fun ns hn => ⟨hn, rfl⟩)
  case F =>
    intro w mg fa h KX G hmg
    refine' PD.all_mk KX G hmg ?a_l_bag ?l_l_bag ?k_l_bag ?p_l_bag ?a_l_grab ?l_l_grab ?k_l_grab ?p_l_grab ?a_l_one_of ?l_l_one_of ?k_l_one_of ?p_l_one_of ?a_l_whole ?l_l_whole ?k_l_whole ?p_l_whole ?a_l_divisor ?l_l_divisor ?k_l_divisor ?p_l_divisor ?a_l_ratio ?l_l_ratio ?k_l_ratio ?p_l_ratio ?a_is_whole ?l_is_whole ?k_is_whole ?p_is_whole ?a_is_integer ?l_is_integer ?k_is_integer ?p_is_integer ?a_is_ratio ?l_is_ratio ?k_is_ratio ?p_is_ratio ?a_l_is_short ?l_l_is_short ?k_l_is_short ?p_l_is_short ?a_l_is_ratio ?l_l_is_ratio ?k_l_is_ratio ?p_l_is_ratio ?a_l_judged ?l_l_judged ?k_l_judged ?p_l_judged ?a_require_ratios ?l_require_ratios ?k_require_ratios ?p_require_ratios ?a_compared_of ?l_compared_of ?k_compared_of ?p_compared_of ?a_compare ?l_compare ?k_compare ?p_compare ?a_lowest_of ?l_lowest_of ?k_lowest_of ?p_lowest_of ?a_times_of ?l_times_of ?k_times_of ?p_times_of ?a_times ?l_times ?k_times ?p_times ?a_plus_of ?l_plus_of ?k_plus_of ?p_plus_of ?a_minus ?l_minus ?k_minus ?p_minus ?a_plus ?l_plus ?k_plus ?p_plus ?a_l_lowered_pair ?l_l_lowered_pair ?k_l_lowered_pair ?p_l_lowered_pair ?a_l_reckoned ?l_l_reckoned ?k_l_reckoned ?p_l_reckoned ?a_divisor_of ?l_divisor_of ?k_divisor_of ?p_divisor_of ?a_common_divisor ?l_common_divisor ?k_common_divisor ?p_common_divisor ?a_lowest ?l_lowest ?k_lowest ?p_lowest ?a_l_lowered ?l_l_lowered ?k_l_lowered ?p_l_lowered ?a_law ?l_law ?k_law ?p_law ?z_abs ?z_all ?z_bool ?z_int ?z_isinstance ?z_len ?z_max ?z_min ?z_range ?z_repr ?z_sum ?z_tuple ?g_gcd ?i_BEYOND ?i_MAX_NUMBERS ?i_PAIR
    (case a_l_bag => k_is)
    (case l_l_bag => k_is)
    (case k_l_bag => k_is)
    (case p_l_bag => k_is)
    (case a_l_grab => k_is)
    (case l_l_grab => k_is)
    (case k_l_grab => k_is)
    (case p_l_grab => k_is)
    (case a_l_one_of => k_is)
    (case l_l_one_of => k_is)
    (case k_l_one_of => k_is)
    (case p_l_one_of => k_is)
    (case a_l_whole => k_is)
    (case l_l_whole => k_is)
    (case k_l_whole => k_is)
    (case p_l_whole => k_is)
    (case a_l_divisor => k_is)
    (case l_l_divisor => k_is)
    (case k_l_divisor => k_is)
    (case p_l_divisor => k_is)
    (case a_l_ratio => k_is)
    (case l_l_ratio => k_is)
    (case k_l_ratio => k_is)
    (case p_l_ratio => k_is)
    (case a_is_whole => k_is)
    (case l_is_whole => k_is)
    (case k_is_whole => k_is)
    (case p_is_whole => k_is)
    (case a_is_integer => k_is)
    (case l_is_integer => k_is)
    (case k_is_integer => k_is)
    (case p_is_integer => k_is)
    (case a_is_ratio => k_is)
    (case l_is_ratio => k_is)
    (case k_is_ratio => k_is)
    (case p_is_ratio => k_is)
    (case a_l_is_short => k_is)
    (case l_l_is_short => k_is)
    (case k_l_is_short => k_is)
    (case p_l_is_short => k_is)
    (case a_l_is_ratio => k_is)
    (case l_l_is_ratio => k_is)
    (case k_l_is_ratio => k_is)
    (case p_l_is_ratio => k_is)
    (case a_l_judged => k_is)
    (case l_l_judged => k_is)
    (case k_l_judged => k_is)
    (case p_l_judged => k_is)
    (case a_require_ratios => k_is)
    (case l_require_ratios => k_is)
    (case k_require_ratios => k_is)
    (case p_require_ratios => k_is)
    (case a_compared_of => k_is)
    (case l_compared_of => k_is)
    (case k_compared_of => k_is)
    (case p_compared_of => k_is)
    (case a_compare => k_is)
    (case l_compare => k_is)
    (case k_compare => k_is)
    (case p_compare => k_is)
    (case a_lowest_of => k_is)
    (case l_lowest_of => k_is)
    (case k_lowest_of => k_is)
    (case p_lowest_of => k_is)
    (case a_times_of => k_is)
    (case l_times_of => k_is)
    (case k_times_of => k_is)
    (case p_times_of => k_is)
    (case a_times => k_is)
    (case l_times => k_is)
    (case k_times => k_is)
    (case p_times => k_is)
    (case a_plus_of => k_is)
    (case l_plus_of => k_is)
    (case k_plus_of => k_is)
    (case p_plus_of => k_is)
    (case a_minus => k_is)
    (case l_minus => k_is)
    (case k_minus => k_is)
    (case p_minus => k_is)
    (case a_plus => k_is)
    (case l_plus => k_is)
    (case k_plus => k_is)
    (case p_plus => k_is)
    (case a_l_lowered_pair => k_is)
    (case l_l_lowered_pair => k_is)
    (case k_l_lowered_pair => k_is)
    (case p_l_lowered_pair => k_is)
    (case a_l_reckoned => k_is)
    (case l_l_reckoned => k_is)
    (case k_l_reckoned => k_is)
    (case p_l_reckoned => k_is)
    (case a_divisor_of => k_is)
    (case l_divisor_of => k_is)
    (case k_divisor_of => k_is)
    (case p_divisor_of => k_is)
    (case a_common_divisor => k_is)
    (case l_common_divisor => k_is)
    (case k_common_divisor => k_is)
    (case p_common_divisor => k_is)
    (case a_lowest => k_is)
    (case l_lowest => k_is)
    (case k_lowest => k_is)
    (case p_lowest => k_is)
    (case a_l_lowered => k_is)
    (case l_l_lowered => k_is)
    (case k_l_lowered => k_is)
    (case p_l_lowered => k_is)
    (case a_law => k_is)
    (case l_law => k_is)
    (case k_law => k_is)
    (case p_law => k_is)
    (case z_abs => k_is)
    (case z_all => k_is)
    (case z_bool => k_is)
    (case z_int => k_is)
    (case z_isinstance => k_is)
    (case z_len => k_is)
    (case z_max => k_is)
    (case z_min => k_is)
    (case z_range => k_is)
    (case z_repr => k_is)
    (case z_sum => k_is)
    (case z_tuple => k_is)
    (case g_gcd => k_is)
    (case i_BEYOND => k_is)
    (case i_MAX_NUMBERS => k_is)
    (case i_PAIR => k_is)
