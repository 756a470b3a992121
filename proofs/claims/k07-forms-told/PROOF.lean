import PyProof.Rows.All
import Wide.All
import OpenK.AllK
import Wide.FinOn
import HandS.ForMost
import HandS.ForExc
import HandS.Wide
import HandS.Gcd
import HandS.IsInst
import HandS.Evl
import HandS.Slots
import HandS.TupMul
import HandS.TupAny
import HandS.Walk
import HandS.Star
import HandS.Zip
import HandS.Iter
import HandS.Zip0
import PyProof.EnumMake
import HandS.Style
import HandS.Text
import HandS.SlotsOwn
import HandS.Exc
import HandS.Property
import HandS.ExcOwn
import HandS.TryOnly
import KE.KOpsOwn
import KE.KCallOwn
import HandS.ClsMeth
import HandS.FStr
import HandS.Sort
import PySem.Challenge.RW_ballgrids_k07_forms_told
set_option Elab.async false
set_option linter.all false
set_option maxRecDepth 100000
set_option maxHeartbeats 4000000
set_option exponentiation.threshold 20000
namespace PD
open PySem PySem.Spec PyProof.Rows L2
/-! A layer of plain data over the hand layer: what a piece of text does, told by data and by slots, with no heap in sight. -/
/-! ### data -/
inductive D where
  | non
  | bl (b : Bool)
  | int (i : Int)
  | str (x : Str)
  | tup (xs : List D)
  | lst (xs : List D)
  | dic (kvs : List (Key × D))
  /-- the script -/
  | scr (ns : List Int)
  /-- an instance of a class with slots: its address, if it is told, and what its slots hold, as far as they are told -/
  | obj (C : Addr) (t : Option Addr) (ds : List (Option D))
  /-- a class of the text -/
  | cls (C : Addr)
  /-- a range as a value -/
  | rng (lo hi : Int)
mutual
inductive R (K : PySem.W.Frag) (H : Hp) : V → D → Prop
  | non : R K H .non .non
  | bl (b : Bool) : R K H (.bl b) (.bl b)
  | int (i : Int) : R K H (.int i) (.int i)
  | str (x : Str) : R K H (.str x) (.str x)
  | tup {a : Addr} {xs : List V} {ds : List D} (h : SqT K H a xs) (hs : Rs K H xs ds) : R K H (.ref a) (.tup ds)
  | lst {a : Addr} {xs : List V} {ds : List D} (h : H a = some (.lst xs)) (hs : Rs K H xs ds) : R K H (.ref a) (.lst ds)
  | dic {a : Addr} {kvs : List (Key × V)} {kds : List (Key × D)} (h : H a = some (.dK kvs)) (hs : Rk K H kvs kds) : R K H (.ref a) (.dic kds)
  | scr {a : Addr} {ns : List Int} (h : SqL K H a (ns.map V.int)) : R K H (.ref a) (.scr ns)
  | obj {a C dx : Addr} {t : Option Addr} {vs : List (Option V)} {ds : List (Option D)} (ht : ∀ y, t = some y → y = a) (h : SlX.Slt H a C dx vs) (hs : Ro K H vs ds) : R K H (.ref a) (.obj C t ds)
  | cls (C : Addr) : R K H (.ref C) (.cls C)
  | rng {a : Addr} {lo hi : Int} (h : H a = some (.rng lo hi)) : R K H (.ref a) (.rng lo hi)
inductive Ro (K : PySem.W.Frag) (H : Hp) : List (Option V) → List (Option D) → Prop
  | nil : Ro K H [] []
  | yes {v : V} {d : D} {vs : List (Option V)} {ds : List (Option D)} (h : R K H v d) (t : Ro K H vs ds) : Ro K H (some v :: vs) (some d :: ds)
  | no {o : Option V} {vs : List (Option V)} {ds : List (Option D)} (t : Ro K H vs ds) : Ro K H (o :: vs) (none :: ds)
inductive Rs (K : PySem.W.Frag) (H : Hp) : List V → List D → Prop
  | nil : Rs K H [] []
  | cons {v : V} {d : D} {vs : List V} {ds : List D} (h : R K H v d) (t : Rs K H vs ds) : Rs K H (v :: vs) (d :: ds)
inductive Rk (K : PySem.W.Frag) (H : Hp) : List (Key × V) → List (Key × D) → Prop
  | nil : Rk K H [] []
  | cons {k : Key} {v : V} {d : D} {vs : List (Key × V)} {ds : List (Key × D)} (h : R K H v d) (t : Rk K H vs ds) : Rk K H ((k, v) :: vs) ((k, d) :: ds)
end
/-- all that stands in the one stands in the other -/
def Sub (H H' : Hp) : Prop := ∀ a o, H a = some o → H' a = some o
theorem Sub.refl (H : Hp) : Sub H H := fun _ _ h => h
theorem Sub.trans {H H1 H2 : Hp} (a : Sub H H1) (b : Sub H1 H2) : Sub H H2 := fun x o h => b x o (a x o h)
theorem Sub.rd {H H' : Hp} {a : Addr} {u : HO} (e : Sub H H') (h : Rd H a u) : Rd H' a u := by
  rcases h with h | ⟨o, h⟩
  · exact .inl (e a _ h)
  · exact .inr ⟨o, e a _ h⟩
theorem Sub.sl {K : PySem.W.Frag} {H H' : Hp} {a : Addr} {xs : List V} (e : Sub H H') (h : SqL K H a xs) : SqL K H' a xs := by
  rcases h with h | h
  · exact .inl (e.rd h)
  · exact .inr h
theorem Sub.st {K : PySem.W.Frag} {H H' : Hp} {a : Addr} {xs : List V} (e : Sub H H') (h : SqT K H a xs) : SqT K H' a xs := by
  rcases h with h | h
  · exact .inl (e.rd h)
  · exact .inr h
theorem Sub.slt {H H' : Hp} {a C dx : Addr} {vs : List (Option V)} (e : Sub H H') (h : SlX.Slt H a C dx vs) : SlX.Slt H' a C dx vs := by
  rcases h with ⟨h1, h2⟩ | ⟨h1, h2⟩
  · exact .inl ⟨e _ _ h1, h2⟩
  · exact .inr ⟨e _ _ h1, e _ _ h2⟩
section
variable {K : PySem.W.Frag} {H H' : Hp}
mutual
theorem R.mono (e : Sub H H') : ∀ {v : V} {d : D}, R K H v d → R K H' v d
  | _, _, .non => .non
  | _, _, .bl b => .bl b
  | _, _, .int i => .int i
  | _, _, .str x => .str x
  | _, _, .tup h hs => .tup (e.st h) (Rs.mono e hs)
  | _, _, .lst h hs => .lst (e _ _ h) (Rs.mono e hs)
  | _, _, .dic h hs => .dic (e _ _ h) (Rk.mono e hs)
  | _, _, .scr h => .scr (e.sl h)
  | _, _, .obj ht h hs => .obj ht (e.slt h) (Ro.mono e hs)
  | _, _, .cls C => .cls C
  | _, _, .rng h => .rng (e _ _ h)
theorem Ro.mono (e : Sub H H') : ∀ {v : List (Option V)} {d : List (Option D)}, Ro K H v d → Ro K H' v d
  | _, _, .nil => .nil
  | _, _, .yes h t => .yes (R.mono e h) (Ro.mono e t)
  | _, _, .no t => .no (Ro.mono e t)
theorem Rs.mono (e : Sub H H') : ∀ {v : List V} {d : List D}, Rs K H v d → Rs K H' v d
  | _, _, .nil => .nil
  | _, _, .cons h t => .cons (R.mono e h) (Rs.mono e t)
theorem Rk.mono (e : Sub H H') : ∀ {v : List (Key × V)} {d : List (Key × D)}, Rk K H v d → Rk K H' v d
  | _, _, .nil => .nil
  | _, _, .cons h t => .cons (R.mono e h) (Rk.mono e t)
end
theorem Rs.length : ∀ {vs : List V} {ds : List D}, Rs K H vs ds → vs.length = ds.length
  | _, _, .nil => rfl
  | _, _, .cons _ t => congrArg (· + 1) t.length
theorem Rs.get : ∀ {vs : List V} {ds : List D} {i : Nat} {d : D}, Rs K H vs ds → ds[i]? = some d → ∃ v, vs[i]? = some v ∧ R K H v d
  | _, _, _, _, .nil, h => by simp at h
  | _, _, 0, _, .cons r _, h => by simp at h; subst h; exact ⟨_, rfl, r⟩
  | _, _, i + 1, d, .cons _ t, h => by
    obtain ⟨v, a, b⟩ := Rs.get (i := i) t (by simpa using h)
    exact ⟨v, by simpa using a, b⟩
theorem Rs.getV : ∀ {vs : List V} {ds : List D} {i : Nat} {v : V}, Rs K H vs ds → vs[i]? = some v → ∃ d, ds[i]? = some d ∧ R K H v d
  | _, _, _, _, .nil, h => by simp at h
  | _, _, 0, _, .cons r _, h => by simp at h; subst h; exact ⟨_, rfl, r⟩
  | _, _, i + 1, v, .cons _ t, h => by
    obtain ⟨d, a, b⟩ := Rs.getV (i := i) t (by simpa using h)
    exact ⟨d, by simpa using a, b⟩
theorem Rs.app : ∀ {vs ws : List V} {ds es : List D}, Rs K H vs ds → Rs K H ws es → Rs K H (vs ++ ws) (ds ++ es)
  | _, _, _, _, .nil, h => h
  | _, _, _, _, .cons a t, h => .cons a (t.app h)
theorem Rs.take : ∀ (n : Nat) {vs : List V} {ds : List D}, Rs K H vs ds → Rs K H (vs.take n) (ds.take n)
  | 0, _, _, _ => .nil
  | _ + 1, _, _, .nil => .nil
  | n + 1, _, _, .cons a t => .cons a (t.take n)
theorem Rs.drop : ∀ (n : Nat) {vs : List V} {ds : List D}, Rs K H vs ds → Rs K H (vs.drop n) (ds.drop n)
  | 0, _, _, h => h
  | _ + 1, _, _, .nil => .nil
  | n + 1, _, _, .cons _ t => t.drop n
theorem Rs.set : ∀ (n : Nat) {vs : List V} {ds : List D} {v : V} {d : D}, Rs K H vs ds → R K H v d → Rs K H (vs.set n v) (ds.set n d)
  | _, _, _, _, _, .nil, _ => .nil
  | 0, _, _, _, _, .cons _ t, r => .cons r t
  | n + 1, _, _, _, _, .cons a t, r => .cons a (t.set n r)
theorem Rs.erase : ∀ (n : Nat) {vs : List V} {ds : List D}, Rs K H vs ds → Rs K H (vs.eraseIdx n) (ds.eraseIdx n)
  | _, _, _, .nil => .nil
  | 0, _, _, .cons _ t => t
  | n + 1, _, _, .cons a t => .cons a (t.erase n)
theorem Rs.rev {vs : List V} {ds : List D} (h : Rs K H vs ds) : Rs K H vs.reverse ds.reverse := by
  induction vs generalizing ds with
  | nil => cases h; exact .nil
  | cons v vs ih =>
    cases h with
    | cons a t => rw [List.reverse_cons, List.reverse_cons]; exact (ih t).app (.cons a .nil)
theorem Rs.ints : ∀ {vs : List V} {ns : List Int}, Rs K H vs (ns.map D.int) → vs = ns.map V.int
  | _, [], .nil => rfl
  | _, n :: ns, .cons a t => by
    cases a
    rw [t.ints]
    rfl
theorem Rs.bls : ∀ {vs : List V} {ns : List Bool}, Rs K H vs (ns.map D.bl) → vs = ns.map V.bl
  | _, [], .nil => rfl
  | _, n :: ns, .cons a t => by
    cases a
    rw [t.bls]
    rfl
theorem Rs.of_ints : ∀ (ns : List Int), Rs K H (ns.map V.int) (ns.map D.int)
  | [] => .nil
  | n :: ns => .cons (.int n) (Rs.of_ints ns)
end
/-! ### what a body may touch -/
/-- the bag of draws: a list of three ints, whatever they are -/
def BagAt (H : Hp) (a : Addr) : Prop := ∃ x y z : Int, H a = some (.lst [.int x, .int y, .int z])
/-- O: what data may not reach (the callers' own lists, the bags); F: this body's own lists; B: the bags -/
structure Cf where
  O : Addr → Bool
  F : Addr → Bool
  B : Addr → Bool
abbrev Cf.P (c : Cf) : Addr → Bool := fun a => c.O a || c.F a
def hid (P : Addr → Bool) (H : Hp) : Hp := fun a => if P a = true then none else H a
theorem hid_some {P : Addr → Bool} {H : Hp} {a : Addr} {o : HO} : hid P H a = some o ↔ P a = false ∧ H a = some o := by
  unfold hid
  cases h : P a <;> simp
theorem hid_sub (P : Addr → Bool) (H : Hp) : Sub (hid P H) H := fun _ _ h => (hid_some.mp h).2
structure Hk (c : Cf) (H : Hp) : Prop where
  bo : ∀ a, c.B a = true → c.O a = true
  bag : ∀ a, c.B a = true → BagAt H a
  al : ∀ a, c.P a = true → ∃ o, H a = some o
  fo : ∀ a, c.F a = true → c.O a = false
/-- all but the bags stands as it stood -/
structure Ext (B : Addr → Bool) (H H' : Hp) : Prop where
  keep : ∀ a o, B a = false → H a = some o → H' a = some o
  bag : (∀ a, B a = true → BagAt H a) → ∀ a, B a = true → BagAt H' a
  al : ∀ a o, H a = some o → ∃ o', H' a = some o'
theorem Ext.refl (B : Addr → Bool) (H : Hp) : Ext B H H := ⟨fun _ _ _ h => h, fun h => h, fun _ o h => ⟨o, h⟩⟩
theorem Ext.trans {B : Addr → Bool} {H H1 H2 : Hp} (a : Ext B H H1) (b : Ext B H1 H2) : Ext B H H2 :=
  ⟨fun x o n h => b.keep x o n (a.keep x o n h), fun h => b.bag (a.bag h), fun x o h => let ⟨o', h'⟩ := a.al x o h; b.al x o' h'⟩
theorem Ext.new {B : Addr → Bool} {H : Hp} {p : Addr} {o : HO} (h : H p = none) (hb : ∀ a, B a = true → BagAt H a) : Ext B H (upd H p o) := by
  refine ⟨fun a u _ e => by rw [upd_ne (ne_of_none e h)]; exact e, fun hB a ha => ?_, fun a u e => ⟨u, by rw [upd_ne (ne_of_none e h)]; exact e⟩⟩
  obtain ⟨x, y, z, e⟩ := hB a ha
  exact ⟨x, y, z, by rw [upd_ne (ne_of_none e h)]; exact e⟩
section
variable {K : PySem.W.Frag} {c : Cf} {H H' : Hp}
theorem Hk.fresh (k : Hk c H) {p : Addr} (h : H p = none) : c.P p = false := by
  cases e : c.P p with
  | false => rfl
  | true =>
    obtain ⟨o, q⟩ := k.al p e
    rw [h] at q
    cases q
theorem Hk.nob (k : Hk c H) {a : Addr} (h : c.P a = false) : c.B a = false := by
  cases e : c.B a with
  | false => rfl
  | true =>
    have q := k.bo a e
    simp [Cf.P, q] at h
theorem Hk.ext (k : Hk c H) (e : Ext c.B H H') : Hk c H' := ⟨k.bo, e.bag k.bag, fun a h => let ⟨o, q⟩ := k.al a h; e.al a o q, k.fo⟩
theorem Hk.sub (k : Hk c H) (e : Ext c.B H H') : Sub (hid c.P H) (hid c.P H') := fun a o h => by
  obtain ⟨h1, h2⟩ := hid_some.mp h
  exact hid_some.mpr ⟨h1, e.keep a o (k.nob h1) h2⟩
theorem Hk.new (k : Hk c H) {p : Addr} {o : HO} (h : H p = none) : hid c.P (upd H p o) p = some o := hid_some.mpr ⟨k.fresh h, upd_same⟩
end
/-! ### slots -/
inductive Sl where
  | val (d : D)
  | own (d : D)
  | bag
abbrev Ev := List (Option Sl)
def OwnAt (K : PySem.W.Frag) (c : Cf) (H : Hp) (a : Addr) : D → Prop
  | .lst ds => ∃ xs, H a = some (.lst xs) ∧ Rs K (hid c.P H) xs ds
  | .dic ds => ∃ xs, H a = some (.dK xs) ∧ Rk K (hid c.P H) xs ds
  | .obj C t ds => t = some a ∧ ∃ dx vs, SlX.Slt H a C dx vs ∧ dx ≠ a ∧ c.F dx = true ∧ (H dx = some (.own a) ∨ H dx = some (.xd [])) ∧ Ro K (hid c.P H) vs ds
  | _ => False
structure Rep (K : PySem.W.Frag) (c : Cf) (H : Hp) (σ : L2.St) (ρ : Ev) : Prop where
  le : ρ.length ≤ σ.length
  val : ∀ (i : Nat) d, ρ[i]? = some (some (.val d)) → ∃ v, σ[i]? = some (some v) ∧ R K (hid c.P H) v d
  own : ∀ (i : Nat) d, ρ[i]? = some (some (.own d)) → ∃ a, σ[i]? = some (some (.ref a)) ∧ c.F a = true ∧ OwnAt K c H a d
  bag : ∀ (i : Nat), ρ[i]? = some (some .bag) → ∃ a, σ[i]? = some (some (.ref a)) ∧ c.B a = true
  sep : ∀ (i j : Nat) d e a, ρ[i]? = some (some (.own d)) → ρ[j]? = some (some (.own e)) → σ[i]? = some (some (.ref a)) → σ[j]? = some (some (.ref a)) → i = j
section
variable {K : PySem.W.Frag} {c : Cf} {H H' : Hp} {σ : L2.St} {ρ : Ev}
theorem OwnAt.ext (k : Hk c H) (e : Ext c.B H H') {a : Addr} {d : D} (ha : c.F a = true) (h : OwnAt K c H a d) : OwnAt K c H' a d := by
  have nbx : ∀ {b : Addr}, c.F b = true → c.B b = false := fun {b} hb => by
    cases q : c.B b with
    | false => rfl
    | true =>
      have h1 := k.bo b q
      rw [k.fo b hb] at h1
      cases h1
  have nb := nbx ha
  cases d <;> first
    | exact h.elim
    | (obtain ⟨ht, dx, vs, h1, h2, h3, h7, h4⟩ := h
       refine ⟨ht, dx, vs, ?_, h2, h3, h7.imp (e.keep dx _ (nbx h3)) (e.keep dx _ (nbx h3)), h4.mono (k.sub e)⟩
       rcases h1 with ⟨h5, h6⟩ | ⟨h5, h6⟩
       · exact .inl ⟨e.keep a _ nb h5, h6⟩
       · exact .inr ⟨e.keep a _ nb h5, e.keep dx _ (nbx h3) h6⟩)
    | (obtain ⟨xs, h1, h2⟩ := h; exact ⟨xs, e.keep a _ nb h1, h2.mono (k.sub e)⟩)
/-- an own object stays as another own address L is stored to -/
theorem OwnAt.move {c' : Cf} {L b : Addr} {d : D} (h : OwnAt K c H b d) (hb : c.F b = true) (ne : b ≠ L) (keep : ∀ x o, c.F x = true → x ≠ L → H x = some o → H' x = some o)
    (hL : ∀ o, H L = some o → (∀ y, o ≠ .own y) ∧ ∀ f, o ≠ .xd f) (hF : ∀ x, c.F x = true → x ≠ L → c'.F x = true) (sub : Sub (hid c.P H) (hid c'.P H')) : OwnAt K c' H' b d := by
  cases d with
  | lst ds =>
    obtain ⟨xs, h1, h2⟩ := h
    exact ⟨xs, keep _ _ hb ne h1, h2.mono sub⟩
  | dic ds =>
    obtain ⟨xs, h1, h2⟩ := h
    exact ⟨xs, keep _ _ hb ne h1, h2.mono sub⟩
  | obj C t ds =>
    obtain ⟨ht, dx, vs, h1, h2, h3, h7, h4⟩ := h
    have nx : dx ≠ L := fun z => by
      subst z
      rcases h7 with h7 | h7
      · exact (hL _ h7).1 _ rfl
      · exact (hL _ h7).2 _ rfl
    refine ⟨ht, dx, vs, ?_, h2, hF _ h3 nx, h7.imp (keep _ _ h3 nx) (keep _ _ h3 nx), h4.mono sub⟩
    rcases h1 with ⟨h5, h6⟩ | ⟨h5, h6⟩
    · exact .inl ⟨keep _ _ hb ne h5, h6⟩
    · exact .inr ⟨keep _ _ hb ne h5, keep _ _ h3 nx h6⟩
  | _ => exact h.elim
/-- what holds a list, or nothing yet, is no instance's dict -/
theorem noDict_none {L : Addr} (h : H L = none) : ∀ o, H L = some o → (∀ y, o ≠ .own y) ∧ ∀ f, o ≠ .xd f := fun o e => by rw [h] at e; cases e
theorem noDict_lst {L : Addr} {xs : List V} (h : H L = some (.lst xs)) : ∀ o, H L = some o → (∀ y, o ≠ .own y) ∧ ∀ f, o ≠ .xd f := fun o e => by
  rw [h] at e
  cases e
  exact ⟨fun y z => (by cases z), fun f z => (by cases z)⟩
theorem Rep.ext (r : Rep K c H σ ρ) (k : Hk c H) (e : Ext c.B H H') : Rep K c H' σ ρ :=
  ⟨r.le, fun i d h => let ⟨v, a, b⟩ := r.val i d h; ⟨v, a, b.mono (k.sub e)⟩, fun i d h => let ⟨a, x, y, z⟩ := r.own i d h; ⟨a, x, y, z.ext k e y⟩, r.bag, r.sep⟩
theorem set_cases {α : Type} {l : List α} {i j : Nat} {x y : α} (h : (l.set i x)[j]? = some y) : (i = j ∧ i < l.length ∧ y = x) ∨ (i ≠ j ∧ l[j]? = some y) := by
  by_cases e : i = j
  · subst e
    by_cases hl : i < l.length
    · rw [List.getElem?_set_self hl] at h
      exact .inl ⟨rfl, hl, (Option.some.inj h).symm⟩
    · rw [List.getElem?_eq_none (by simpa using hl)] at h
      cases h
  · rw [List.getElem?_set_ne e] at h
    exact .inr ⟨e, h⟩
theorem Rep.set (r : Rep K c H σ ρ) {i : Nat} {v : V} {d : D} (h : R K (hid c.P H) v d) : Rep K c H (σ.set i (some v)) (ρ.set i (some (.val d))) := by
  refine ⟨by simpa using r.le, fun j e hj => ?_, fun j e hj => ?_, fun j hj => ?_, fun j l e e' a hj hl h1 h2 => ?_⟩
  · rcases set_cases hj with ⟨rfl, hl, q⟩ | ⟨ne, q⟩
    · cases q
      exact ⟨v, List.getElem?_set_self (Nat.lt_of_lt_of_le hl r.le), h⟩
    · rw [List.getElem?_set_ne ne]
      exact r.val j e q
  · rcases set_cases hj with ⟨rfl, hl, q⟩ | ⟨ne, q⟩
    · cases q
    · rw [List.getElem?_set_ne ne]
      exact r.own j e q
  · rcases set_cases hj with ⟨rfl, hl, q⟩ | ⟨ne, q⟩
    · cases q
    · rw [List.getElem?_set_ne ne]
      exact r.bag j q
  · rcases set_cases hj with ⟨rfl, _, q⟩ | ⟨ne, q⟩
    · cases q
    · rcases set_cases hl with ⟨rfl, _, q'⟩ | ⟨ne', q'⟩
      · cases q'
      · rw [List.getElem?_set_ne ne] at h1
        rw [List.getElem?_set_ne ne'] at h2
        exact r.sep j l e e' a q q' h1 h2
end
/-! ### expressions by data -/
/-- an exception: its class and what it keeps -/
structure Exc where
  cls : Addr
  pay : Option (Str × D)
def XRep (K : PySem.W.Frag) (H : Hp) (x : Exc) (dx : Option Addr) : Prop := match x.pay with
  | none => dx = none
  | some (f, d) => ∃ e v, dx = some e ∧ H e = some (.xd [(f, v)]) ∧ R K H v d
abbrev ED := Exc → Prop
abbrev DTE := ED → Ev → (D → Prop) → Prop
abbrev DTT := ED → Ev → (Bool → Prop) → Prop
abbrev DTX := ED → Ev → (Sl → Prop) → Prop
abbrev DTA := ED → Ev → (List Sl → Prop) → Prop
/-- what a body does to the heap: its own lists and the bags may change, what is new may become its own, or a bag -/
structure Step (c c' : Cf) (H H' : Hp) : Prop where
  o : ∀ a, c.O a = true → c'.O a = true
  o' : ∀ a, c'.O a = true → c.O a = true ∨ H a = none
  b : ∀ a, c.B a = true → c'.B a = true
  b' : ∀ a, c'.B a = true → c.B a = true ∨ H a = none
  f : ∀ a, c'.F a = true → c.F a = true ∨ H a = none
  keep : ∀ a o, c.B a = false → c.F a = false → H a = some o → H' a = some o
  al : ∀ a o, H a = some o → ∃ o', H' a = some o'
theorem Step.of {c : Cf} {H H' : Hp} (e : Ext c.B H H') : Step c c H H' := ⟨fun _ h => h, fun _ h => .inl h, fun _ h => h, fun _ h => .inl h, fun _ h => .inl h, fun a o h _ => e.keep a o h, e.al⟩
theorem Step.refl (c : Cf) (H : Hp) : Step c c H H := .of (Ext.refl _ _)
theorem al_back {H H' : Hp} {a : Addr} (al : ∀ a o, H a = some o → ∃ o', H' a = some o') (h : H' a = none) : H a = none := by
  cases e : H a with
  | none => rfl
  | some o =>
    obtain ⟨o', q⟩ := al a o e
    rw [h] at q
    cases q
theorem or_false {p q : Addr → Bool} {H : Hp} {a : Addr} {o : HO} (h : ∀ a, q a = true → p a = true ∨ H a = none) (hp : p a = false) (e : H a = some o) : q a = false := by
  cases z : q a with
  | false => rfl
  | true =>
    rcases h a z with y | y
    · rw [hp] at y
      cases y
    · rw [e] at y
      cases y
theorem Step.trans {c c1 c2 : Cf} {H H1 H2 : Hp} (x : Step c c1 H H1) (y : Step c1 c2 H1 H2) : Step c c2 H H2 where
  o := fun a h => y.o a (x.o a h)
  o' := fun a h => (y.o' a h).elim (x.o' a) fun h => .inr (al_back x.al h)
  b := fun a h => y.b a (x.b a h)
  b' := fun a h => (y.b' a h).elim (x.b' a) fun h => .inr (al_back x.al h)
  f := fun a h => (y.f a h).elim (x.f a) fun h => .inr (al_back x.al h)
  keep := fun a o hb hf h => y.keep a o (or_false x.b' hb h) (or_false x.f hf h) (x.keep a o hb hf h)
  al := fun a o h => let ⟨o', h'⟩ := x.al a o h; y.al a o' h'
/-- data that stood apart from the body's own lists stands behind a step -/
theorem Step.sub {c c' : Cf} {H H' : Hp} (x : Step c c' H H') (k : Hk c H) : Sub (hid c.P H) (hid c'.P H') := fun a o h => by
  obtain ⟨h1, h2⟩ := hid_some.mp h
  have hb := k.nob h1
  have ho : c.O a = false ∧ c.F a = false := by simpa [Cf.P] using h1
  refine hid_some.mpr ⟨?_, x.keep a o hb ho.2 h2⟩
  simp [Cf.P, or_false x.o' ho.1 h2, or_false x.f ho.2 h2]
def Exs (K : PySem.W.Frag) (EX : XK) (c : Cf) (H : Hp) (Ed : ED) : Prop := ∀ x dx c2 H2, Ed x → Step c c2 H H2 → Hk c2 H2 → XRep K (hid c2.P H2) x dx → EX (.ref x.cls) dx H2
theorem Exs.step {K : PySem.W.Frag} {EX : XK} {c c' : Cf} {H H' : Hp} {Ed : ED} (h : Exs K EX c H Ed) (e : Step c c' H H') : Exs K EX c' H' Ed := fun x dx c2 H2 a b k r => h x dx c2 H2 a (e.trans b) k r
theorem Exs.ext {K : PySem.W.Frag} {EX : XK} {c : Cf} {H H' : Hp} {Ed : ED} (h : Exs K EX c H Ed) (e : Ext c.B H H') : Exs K EX c H' Ed := h.step (.of e)
def SlR' (K : PySem.W.Frag) (c : Cf) (H : Hp) (v : V) : Sl → Prop
  | .val d => R K (hid c.P H) v d
  | .bag => ∃ a, v = .ref a ∧ c.B a = true
  | .own _ => False
inductive As (K : PySem.W.Frag) (c : Cf) (H : Hp) : List V → List Sl → Prop
  | nil : As K c H [] []
  | cons {v : V} {s : Sl} {vs : List V} {ss : List Sl} (h : SlR' K c H v s) (t : As K c H vs ss) : As K c H (v :: vs) (s :: ss)
structure St0 (K : PySem.W.Frag) (EX : XK) (c : Cf) (H : Hp) (σ : L2.St) (ρ : Ev) (Ed : ED) : Prop where
  r : Rep K c H σ ρ
  k : Hk c H
  x : Exs K EX c H Ed
theorem St0.ext {K : PySem.W.Frag} {EX : XK} {c : Cf} {H H' : Hp} {σ : L2.St} {ρ : Ev} {Ed : ED} (s : St0 K EX c H σ ρ Ed) (e : Ext c.B H H') : St0 K EX c H' σ ρ Ed := ⟨s.r.ext s.k e, s.k.ext e, s.x.ext e⟩
def tD (K : PySem.W.Frag) (EX : XK) (T : DTE) : TE := fun σ H Q => ∃ c ρ Kd Ed, St0 K EX c H σ ρ Ed ∧ T Ed ρ Kd ∧ ∀ d v H', Kd d → Ext c.B H H' → R K (hid c.P H') v d → Q v H'
def tT (K : PySem.W.Frag) (EX : XK) (T : DTT) : TT := fun σ H Q => ∃ c ρ Kd Ed, St0 K EX c H σ ρ Ed ∧ T Ed ρ Kd ∧ ∀ b H', Kd b → Ext c.B H H' → Q b H'
def tX (K : PySem.W.Frag) (EX : XK) (T : DTX) : TE := fun σ H Q => ∃ c ρ Kd Ed, St0 K EX c H σ ρ Ed ∧ T Ed ρ Kd ∧ ∀ s v H', Kd s → Ext c.B H H' → SlR' K c H' v s → Q v H'
def tA (K : PySem.W.Frag) (EX : XK) (T : DTA) : TA := fun σ H Q => ∃ c ρ Kd Ed, St0 K EX c H σ ρ Ed ∧ T Ed ρ Kd ∧ ∀ ss vs H', Kd ss → Ext c.B H H' → As K c H' vs ss → Q vs H'
abbrev PDe (X : Cx) (EX : XK) (e : Expr) (T : DTE) : Prop := PE X e (tD X.K EX T)
abbrev PDt (X : Cx) (EX : XK) (e : Expr) (T : DTT) : Prop := PT X e (tT X.K EX T)
abbrev PDw (X : Cx) (EX : XK) (e : Expr) (T : DTT) : Prop := PW X e (tT X.K EX T)
abbrev PDx (X : Cx) (EX : XK) (e : Expr) (T : DTX) : Prop := PE X e (tX X.K EX T)
abbrev PDa (X : Cx) (EX : XK) (es : List Expr) (T : DTA) : Prop := PA X es (tA X.K EX T)
theorem peW {X : Cx} {e : Expr} {t t' : TE} (h : PE X e t) (w : ∀ σ H Q, t' σ H Q → t σ H Q) : PE X e t' := ⟨fun pins s σ H Q I q => h.run pins s σ H Q I (w σ H Q q)⟩
theorem ptW {X : Cx} {e : Expr} {t t' : TT} (h : PT X e t) (w : ∀ σ H Q, t' σ H Q → t σ H Q) : PT X e t' := ⟨fun pins s σ H Q I q => h.run pins s σ H Q I (w σ H Q q)⟩
theorem pwW {X : Cx} {e : Expr} {t t' : TT} (h : PW X e t) (w : ∀ σ H Q, t' σ H Q → t σ H Q) : PW X e t' := ⟨fun wh pins s σ H Q I q => h.run wh pins s σ H Q I (w σ H Q q)⟩
theorem paW {X : Cx} {es : List Expr} {t t' : TA} (h : PA X es t) (w : ∀ σ H Q, t' σ H Q → t σ H Q) : PA X es t' := ⟨fun pos pins s σ H Q I q => h.run pos pins s σ H Q I (w σ H Q q)⟩
section
variable {X : Cx} {EX : XK} {a b e : Expr} {Ta Tb T : DTE} {pos : Pos}
/-! names and constants -/
def dVar (i : Nat) : DTE := fun _ ρ K => match ρ[i]? with
  | some (some (.val d)) => K d
  | _ => False
theorem d_var (i : Nat) {x : Str} (hN : X.N[i]? = some x := by rfl) (hv : Vis X.env.scope x := by first | exact Or.inl rfl | exact Or.inr (Or.inl rfl) | exact Or.inr (Or.inr rfl)) (hd : (x == ("__debug__" : Str)) = false := by decide)
    (hcd : (x == ("__classdict__" : Str)) = false := by decide) : PDe X EX (.Name x pos) (dVar i) := by
  refine peW (pe_var hN hv hd hcd) fun σ H Q h => ?_
  obtain ⟨c, ρ, Kd, Ed, s, h, q⟩ := h
  unfold dVar at h
  split at h
  · rename_i d e
    obtain ⟨v, e1, r⟩ := s.r.val i d e
    exact ⟨v, e1, q d v H h (Ext.refl _ _) r⟩
  · exact h.elim
def xVar (i : Nat) : DTX := fun _ ρ K => match ρ[i]? with
  | some (some (.val d)) => K (.val d)
  | some (some .bag) => K .bag
  | _ => False
theorem x_var (i : Nat) {x : Str} (hN : X.N[i]? = some x := by rfl) (hv : Vis X.env.scope x := by first | exact Or.inl rfl | exact Or.inr (Or.inl rfl) | exact Or.inr (Or.inr rfl)) (hd : (x == ("__debug__" : Str)) = false := by decide)
    (hcd : (x == ("__classdict__" : Str)) = false := by decide) : PDx X EX (.Name x pos) (xVar i) := by
  refine peW (pe_var hN hv hd hcd) fun σ H Q h => ?_
  obtain ⟨c, ρ, Kd, Ed, s, h, q⟩ := h
  unfold xVar at h
  split at h
  · rename_i d e
    obtain ⟨v, e1, r⟩ := s.r.val i d e
    exact ⟨v, e1, q (.val d) v H h (Ext.refl _ _) r⟩
  · rename_i e
    obtain ⟨v, e1, r⟩ := s.r.bag i e
    exact ⟨_, e1, q .bag _ H h (Ext.refl _ _) ⟨v, rfl, r⟩⟩
  · exact h.elim
def xVal (T : DTE) : DTX := fun E ρ K => T E ρ fun d => K (.val d)
theorem x_val (h : PDe X EX e T) : PDx X EX e (xVal T) := peW h fun σ H Q h => by
  obtain ⟨c, ρ, Kd, Ed, s, h, q⟩ := h
  exact ⟨c, ρ, fun d => Kd (.val d), Ed, s, h, fun d v H' k x r => q _ v H' k x r⟩
def dC (d : D) : DTE := fun _ _ K => K d
theorem d_c {v : V} {d : D} (h : PE X e (tC v)) (r : ∀ K H, R K H v d) : PDe X EX e (dC d) := peW h fun σ H Q h => by
  obtain ⟨c, ρ, Kd, Ed, s, h, q⟩ := h
  exact q d v H h (Ext.refl _ _) (r _ _)
theorem d_int {i : Int} {j : Nat} : PDe X EX (.Constant (.int i) j pos) (dC (.int i)) := d_c pe_int fun _ _ => .int i
theorem d_bl {i : Bool} {j : Nat} : PDe X EX (.Constant (.bool i) j pos) (dC (.bl i)) := d_c pe_bl fun _ _ => .bl i
theorem d_non {j : Nat} : PDe X EX (.Constant .none j pos) (dC .non) := d_c pe_non fun _ _ => .non
theorem d_str {i : Str} {j : Nat} : PDe X EX (.Constant (.str i) j pos) (dC (.str i)) := d_c pe_str fun _ _ => .str i
/-- an int constant of the module -/
theorem d_globI {x : Str} {i : Int} {u : Value} (hg : Gl X x) (hm : X.mg x = some u) (hr : RelV (.int i) u) (hd : (x == ("__debug__" : Str)) = false := by decide) : PDe X EX (.Name x pos) (dC (.int i)) := d_c (pe_glob hg hm hr hd) fun _ _ => .int i
/-! two-place operations -/
/-- r, by data: f -/
def OpD (K : PySem.W.Frag) (f : D → D → (D → Prop) → Prop) (r : R2) : Prop := ∀ (c : Cf) (H : Hp) (x y : V) (d1 d2 : D) (k : D → Prop) (Q : VK), Hk c H → R K (hid c.P H) x d1 → R K (hid c.P H) y d2 → f d1 d2 k →
  (∀ d v H', k d → Ext c.B H H' → R K (hid c.P H') v d → Q v H') → r x y H Q
def dOp (f : D → D → (D → Prop) → Prop) (Ta Tb : DTE) : DTE := fun E ρ K => Ta E ρ fun x => Tb E ρ fun y => f x y K
theorem two {f : D → D → (D → Prop) → Prop} {r : R2} (hf : OpD X.K f r) {σ : L2.St} {H : Hp} {Q : VK} (h : tD X.K EX (dOp f Ta Tb) σ H Q) : tD X.K EX Ta σ H fun x H1 => tD X.K EX Tb σ H1 fun y H2 => r x y H2 Q := by
  obtain ⟨c, ρ, Kd, Ed, s, h, q⟩ := h
  refine ⟨c, ρ, _, Ed, s, h, fun d v H1 k e r1 => ?_⟩
  have s1 := s.ext e
  refine ⟨c, ρ, _, Ed, s1, k, fun d2 v2 H2 k2 e2 r2 => ?_⟩
  have s2 := s1.ext e2
  exact hf c H2 v v2 d d2 Kd Q s2.k (r1.mono (s1.k.sub e2)) r2 k2 fun d3 v3 H3 k3 e3 r3 => q d3 v3 H3 k3 ((e.trans e2).trans e3) r3
theorem d_op {op : Operator} {r : R2} {f : D → D → (D → Prop) → Prop} (ho : OpR X (binaryOp op) r) (hf : OpD X.K f r) (ha : PDe X EX a Ta) (hb : PDe X EX b Tb) : PDe X EX (.BinOp a op b pos) (dOp f Ta Tb) :=
  peW (pe_op ho ha hb) fun _ _ _ h => two hf h
theorem d_cmp {op : CmpOp} {r : R2} {f : D → D → (D → Prop) → Prop} (ho : OpR X (compareOp op) r) (hf : OpD X.K f r) (ha : PDe X EX a Ta) (hb : PDe X EX b Tb) (hm : behindInMarks op b = false) : PDe X EX (.Compare a [op] [b] pos) (dOp f Ta Tb) :=
  peW (pe_cmpR ho ha hb hm) fun _ _ _ h => two hf h
end

/-! a tuple times at most 0, and times 1 -/
theorem tup_mul0 (l : Addr) (items : Array Value) (n : Nat) (dd : Option Addr) (sl : Array (Option Value)) (x : Int) (u : Tok) (c0 : (decide (x < -(2 ^ 63)) || decide (x ≥ 2 ^ 63)) = false) (c1 : (items.isEmpty || x == 1) = false) (c2 : (decide (x ≤ 0) || items.isEmpty) = true) :
    Meets (Builtin.«tuple.__mul__» ⟨[.ref l, .int x u], []⟩) (fun _ R s => s.heap.get? l = some { cls := .type "tuple", dict := dd, data := .seq items n, slots := sl } ∧
      R (.ok (.ret (Value.ref s.heap.objs.size))) { s with heap := s.heap.push { cls := Value.type "tuple", data := Data.seq #[] }, toks := s.toks }) :=
  .of_wp fun prog w A R s h => by
    obtain ⟨hp, g, d, tk, os⟩ := s
    obtain ⟨hl, h⟩ := h
    have f1 := AutoSeq1.idx_int
    wp_walk using wpAny_loadPart' hl
    repeat (first
      | (refine wpAny_ite_false (decide_eq_false (by rw [c0]; exact Bool.false_ne_true)) ?_; wp_walk using wpAny_loadPart' hl)
      | (refine wpAny_ite_false (decide_eq_false (by rw [c1]; exact Bool.false_ne_true)) ?_; wp_walk using wpAny_loadPart' hl)
      | (refine wpAny_ite_true (decide_eq_true (by rw [c2])) ?_; wp_walk using wpAny_loadPart' hl)
      | (refine wpAny_ite_false (decide_eq_false (Nat.not_lt.mpr (Nat.zero_le _))) ?_; wp_walk using wpAny_loadPart' hl))
    exact ⟨_, rfl, h⟩
theorem tup_mul1 (l : Addr) (items : Array Value) (n : Nat) (dd : Option Addr) (sl : Array (Option Value)) (x : Int) (u : Tok) (c0 : (decide (x < -(2 ^ 63)) || decide (x ≥ 2 ^ 63)) = false) (c1 : (items.isEmpty || x == 1) = true) :
    Meets (Builtin.«tuple.__mul__» ⟨[.ref l, .int x u], []⟩) (fun _ R s => s.heap.get? l = some { cls := .type "tuple", dict := dd, data := .seq items n, slots := sl } ∧
      R (.ok (.ret (Value.ref l))) s) :=
  .of_wp fun prog w A R s h => by
    obtain ⟨hp, g, d, tk, os⟩ := s
    obtain ⟨hl, h⟩ := h
    have f1 := AutoSeq1.idx_int
    wp_walk using wpAny_loadPart' hl
    repeat (first
      | (refine wpAny_ite_false (decide_eq_false (by rw [c0]; exact Bool.false_ne_true)) ?_; wp_walk using wpAny_loadPart' hl)
      | (refine wpAny_ite_true (decide_eq_true (by rw [c1])) ?_; wp_walk using wpAny_loadPart' hl))
    exact ⟨_, rfl, h⟩
def rRep0 (K : PySem.W.Frag) : R2 := fun x y H Q => ∃ l k xs, x = .ref l ∧ y = .int k ∧ SqT K H l xs ∧ xs ≠ [] ∧ -(2 ^ 62) ≤ k ∧ k ≤ 0 ∧ ∀ p, H p = none → Q (.ref p) (upd H p (.tup []))
def rRep1 (K : PySem.W.Frag) : R2 := fun x y H Q => ∃ l k xs, x = .ref l ∧ y = .int k ∧ SqT K H l xs ∧ -(2 ^ 62) ≤ k ∧ k ≤ 2 ^ 62 ∧ (xs = [] ∨ k = 1) ∧ Q (.ref l) H
section
variable {X : Cx}
theorem op_rep0 : OpR X (binaryOp .Mult) (rRep0 X.K) := by
  intro pins s σ H x y v u Q I rx ry h
  obtain ⟨l, k, xs, rfl, rfl, hT, hne, h1, h2, q⟩ := h
  cases rx
  obtain ⟨t, rfl⟩ := ry
  obtain ⟨its, r, ⟨⟨cls, dd, data, sl⟩, ho, hc, n, hd⟩, hs⟩ := I.tuple hT
  simp only at hc hd
  subst hc hd
  have hi : its.toArray.isEmpty = false := by
    cases its with
    | nil =>
      cases r
      exact absurd rfl hne
    | cons a b => rfl
  have c0 : (decide (k < -(2 ^ 63)) || decide (k ≥ 2 ^ 63)) = false := by
    rw [decide_eq_false (by omega), decide_eq_false (by omega)] <;> rfl
  have c1 : (its.toArray.isEmpty || k == 1) = false := by
    rw [hi, Bool.false_or]
    exact beq_eq_false_iff_ne.mpr (by omega)
  have c2 : (decide (k ≤ 0) || its.toArray.isEmpty) = true := by
    rw [decide_eq_true h2, Bool.true_or]
  refine wpAny_binaryOp_repeat_ref (T := "tuple") (U := "int") (by decide) ⟨_, ho, rfl⟩ (fun s' => typeIs_int s' k t) noFill_tuple_mul F.fills_int_mul F.slot_int_rmul repeat_tuple F.slot_int_index.lookup
    (call_meets F.slot_int_rmul (typeIs_int s k t) F.entry_int_rmul (F.args_int_rmul_2 _ _) (int_rmul_tuple k t l its.toArray n dd sl)
      ⟨ho, rfl, ⟨_, ho, rfl⟩, call_meets F.slot_tuple_mul ⟨_, ho, rfl⟩ F.entry_tuple_mul (F.args_tuple_mul_2 _ _) (tup_mul0 l its.toArray n dd sl k t c0 c1 c2) ⟨ho, ?_⟩⟩)
  refine ⟨.ref s.heap.objs.size, _, I.laid (t' := s.toks) (o := .tup []) (fun b ob q => Heap.get?_push_of_some _ q) (Nat.le_refl _) ?_, rfl, q _ (I.hok.fresh (Nat.le_refl _))⟩
  exact ⟨Nat.zero_le _, [], .nil, IsTup.new _ _⟩
theorem op_rep1 : OpR X (binaryOp .Mult) (rRep1 X.K) := by
  intro pins s σ H x y v u Q I rx ry h
  obtain ⟨l, k, xs, rfl, rfl, hT, h1, h2, h3, q⟩ := h
  cases rx
  obtain ⟨t, rfl⟩ := ry
  obtain ⟨its, r, ⟨⟨cls, dd, data, sl⟩, ho, hc, n, hd⟩, hs⟩ := I.tuple hT
  simp only at hc hd
  subst hc hd
  have c0 : (decide (k < -(2 ^ 63)) || decide (k ≥ 2 ^ 63)) = false := by
    rw [decide_eq_false (by omega), decide_eq_false (by omega)] <;> rfl
  have c1 : (its.toArray.isEmpty || k == 1) = true := by
    rcases h3 with rfl | rfl
    · cases r
      rfl
    · simp
  exact wpAny_binaryOp_repeat_ref (T := "tuple") (U := "int") (by decide) ⟨_, ho, rfl⟩ (fun s' => typeIs_int s' k t) noFill_tuple_mul F.fills_int_mul F.slot_int_rmul repeat_tuple F.slot_int_index.lookup
    (call_meets F.slot_int_rmul (typeIs_int s k t) F.entry_int_rmul (F.args_int_rmul_2 _ _) (int_rmul_tuple k t l its.toArray n dd sl)
      ⟨ho, rfl, ⟨_, ho, rfl⟩, call_meets F.slot_tuple_mul ⟨_, ho, rfl⟩ F.entry_tuple_mul (F.args_tuple_mul_2 _ _) (tup_mul1 l its.toArray n dd sl k t c0 c1) ⟨ho, ⟨.ref l, H, I, rfl, q⟩⟩⟩)
end

/-! ### operators -/
section
variable {X : Cx} {K : PySem.W.Frag}
theorem szL {n : Nat} (h : n ≤ 1000000) : n ≤ sizeLine := Nat.le_trans h (by decide)
/-- a new object that shows data -/
theorem newLst {c : Cf} {H : Hp} {p : Addr} {xs : List V} {ds : List D} (k : Hk c H) (hp : H p = none) (r : Rs K (hid c.P H) xs ds) : R K (hid c.P (upd H p (.lst xs))) (.ref p) (.lst ds) :=
  .lst (k.new hp) (r.mono (k.sub (Ext.new hp k.bag)))
theorem newTup {c : Cf} {H : Hp} {p : Addr} {xs : List V} {ds : List D} (k : Hk c H) (hp : H p = none) (r : Rs K (hid c.P H) xs ds) : R K (hid c.P (upd H p (.tup xs))) (.ref p) (.tup ds) :=
  .tup (SqT.of (k.new hp)) (r.mono (k.sub (Ext.new hp k.bag)))
theorem hidT {P : Addr → Bool} {H : Hp} {a : Addr} {xs : List V} (h : SqT K (hid P H) a xs) : SqT K H a xs := (hid_sub P H).st h
theorem hidL {P : Addr → Bool} {H : Hp} {a : Addr} {xs : List V} (h : SqL K (hid P H) a xs) : SqL K H a xs := (hid_sub P H).sl h
theorem hidG {P : Addr → Bool} {H : Hp} {a : Addr} {o : HO} (h : hid P H a = some o) : H a = some o := hid_sub P H _ _ h
def fAdd (x y : D) (k : D → Prop) : Prop := match x, y with
  | .int i, .int j => k (.int (i + j))
  | .lst a, .lst b => a.length + b.length ≤ 1000000 ∧ k (.lst (a ++ b))
  | .tup a, .tup b => a.length + b.length ≤ 1000000 ∧ k (.tup (a ++ b))
  | .str a, .str b => a.length + b.length ≤ 1000000 ∧ k (.str (a ++ b))
  | _, _ => False
abbrev rAdd (K : PySem.W.Frag) : R2 := fun x y H Q => (rI0 (fun i j => .int (i + j)) x y H Q ∨ (rCat x y H Q ∨ (rCatA K x y H Q ∨ (∃ i j, x = .str i ∧ y = .str j ∧ i.length + j.length ≤ sizeLine ∧ Q (.str (i ++ j)) H))))
theorem op_addA : OpR X (binaryOp .Add) (rAdd X.K) := op_add.or (op_cat.or (op_catA.or op_add_str))
theorem od_add : OpD K fAdd (rAdd K) := fun c H x y d1 d2 k Q hk r1 r2 h q => by
  unfold fAdd at h
  split at h
  · cases r1
    cases r2
    exact .inl ⟨_, _, rfl, rfl, q _ _ _ h (Ext.refl _ _) (.int _)⟩
  · obtain ⟨hl, h⟩ := h
    cases r1 with
    | lst h1 s1 =>
      cases r2 with
      | lst h2 s2 =>
        refine .inr (.inl ⟨_, _, _, _, rfl, rfl, hidG h1, hidG h2, by rw [s1.length, s2.length]; exact szL hl, fun p hp => ?_⟩)
        exact q _ _ _ h (Ext.new hp hk.bag) (newLst hk hp (s1.app s2))
  · obtain ⟨hl, h⟩ := h
    cases r1 with
    | tup h1 s1 =>
      cases r2 with
      | tup h2 s2 =>
        refine .inr (.inr (.inl ⟨_, _, _, _, rfl, rfl, hidT h1, hidT h2, by rw [s1.length, s2.length]; exact szL hl, fun e => ?_, fun e e2 => ?_, fun e e2 p hp => ?_⟩))
        · subst e
          cases s1
          exact q _ _ _ h (Ext.refl _ _) (.tup h2 s2)
        · subst e2
          cases s2
          rw [List.append_nil] at h
          exact q _ _ _ h (Ext.refl _ _) (.tup h1 s1)
        · exact q _ _ _ h (Ext.new hp hk.bag) (newTup hk hp (s1.app s2))
  · obtain ⟨hl, h⟩ := h
    cases r1
    cases r2
    exact .inr (.inr (.inr ⟨_, _, rfl, rfl, szL hl, q _ _ _ h (Ext.refl _ _) (.str _)⟩))
  · exact h.elim
def fInt2 (C : Int → Int → Prop) (g : Int → Int → Int) (x y : D) (k : D → Prop) : Prop := match x, y with
  | .int i, .int j => C i j ∧ k (.int (g i j))
  | _, _ => False
theorem od_int2 {C : Int → Int → Prop} {g : Int → Int → Int} : OpD K (fInt2 C g) (rI C fun i j => .int (g i j)) := fun c H x y d1 d2 k Q hk r1 r2 h q => by
  unfold fInt2 at h
  split at h
  · cases r1
    cases r2
    exact ⟨_, _, rfl, rfl, h.1, q _ _ _ h.2 (Ext.refl _ _) (.int _)⟩
  · exact h.elim
def fSub (x y : D) (k : D → Prop) : Prop := match x, y with
  | .int i, .int j => k (.int (i - j))
  | _, _ => False
theorem od_sub : OpD K fSub (rI0 fun i j => .int (i - j)) := fun c H x y d1 d2 k Q hk r1 r2 h q => by
  unfold fSub at h
  split at h
  · cases r1
    cases r2
    exact ⟨_, _, rfl, rfl, q _ _ _ h (Ext.refl _ _) (.int _)⟩
  · exact h.elim
/-- one of both is small, or the two sizes together are below the line -/
def MulOk (i j : Int) : Prop := CMul i j ∨ i.natAbs.log2 + j.natAbs.log2 < 100000000
theorem MulOk.ok {i j : Int} (h : MulOk i j) : IntMulOk i j := by
  rcases h with h | h
  · exact h.ok
  have b : ∀ x : Int, Builtin.Int.intBits x ≤ x.natAbs.log2 + 1 := fun x => by
    unfold Builtin.Int.intBits
    split <;> omega
  have h1 := b i
  have h2 := b j
  have e : bitsLine = 134217728 := by decide
  unfold IntMulOk
  intro z
  rw [Bool.and_eq_true] at z
  have z2 := z.2
  unfold Builtin.Int.intTooBig at z2
  have z3 := of_decide_eq_true z2
  rw [e] at z3
  omega
theorem log_lt {i : Int} {m : Nat} (h : i.natAbs < 2 ^ m) : i.natAbs.log2 ≤ m := by
  cases m with
  | zero =>
    have e : i.natAbs = 0 := by simpa using h
    rw [e]
    decide
  | succ m => exact Nat.le_of_lt (PySem.Flt.log2_lt_of (Nat.succ_pos m) h)
theorem mul_ok {i j : Int} {m n : Nat} (h1 : i.natAbs < 2 ^ m) (h2 : j.natAbs < 2 ^ n) (h : m + n < 100000000) : MulOk i j := .inr (by
  have a := log_lt h1
  have b := log_lt h2
  omega)
theorem mul_okL {i j : Int} (h1 : -(2 ^ 64) < i) (h2 : i < 2 ^ 64) : MulOk i j := .inl (.inl ⟨h1, h2⟩)
theorem mul_okR {i j : Int} (h1 : -(2 ^ 64) < j) (h2 : j < 2 ^ 64) : MulOk i j := .inl (.inr ⟨h1, h2⟩)
theorem op_mulB : OpR X (binaryOp .Mult) (rI MulOk fun i j => .int (i * j)) := opI fun _ _ _ _ _ _ _ hc q => mul_int q hc.ok
/-- // and % by any divisor but 0; the divisor of // below 2 ^ 9000 -/
def DivOk (_ j : Int) : Prop := j ≠ 0 ∧ j.natAbs.log2 < 9000
theorem op_fdivB : OpR X (binaryOp .FloorDiv) (rI DivOk fun i j => .int (i.fdiv j)) := opI fun i j _ _ _ _ _ hc q => floordiv_int hc.1 q (.inl (PyProof.noPylong_of_log2 hc.2))
def PowOk (i j : Int) : Prop := 0 ≤ j ∧ (Builtin.Int.intBits i : Int) * j ≤ 2 ^ 27
theorem op_powB : OpR X (binaryOp .Pow) (rI PowOk fun i j => .int (i ^ j.toNat)) := opI fun i j _ _ _ _ _ hc q => pow_int hc.1 hc.2 q
/-- comparisons of ints -/
def fCmp (g : Int → Int → Bool) (x y : D) (k : D → Prop) : Prop := match x, y with
  | .int i, .int j => k (.bl (g i j))
  | _, _ => False
theorem od_cmp {g : Int → Int → Bool} : OpD K (fCmp g) (rI0 fun i j => .bl (g i j)) := fun c H x y d1 d2 k Q hk r1 r2 h q => by
  unfold fCmp at h
  split at h
  · cases r1
    cases r2
    exact ⟨_, _, rfl, rfl, q _ _ _ h (Ext.refl _ _) (.bl _)⟩
  · exact h.elim
end
/-! ### data that == reads -/
mutual
def D.py : D → PyData
  | .non => .none
  | .bl b => .bool b
  | .int i => .int i
  | .str x => .str x
  | .tup xs => .tuple (pys xs)
  | .lst xs => .list (pys xs)
  | .dic _ => .none
  | .scr ns => .list (ns.map PyData.int)
  | .obj _ _ _ => .none
  | .cls _ => .none
  | .rng _ _ => .none
def pys : List D → List PyData
  | [] => []
  | x :: xs => x.py :: pys xs
end
mutual
/-- without dicts, of a depth of at most n -/
def D.flat : Nat → D → Bool
  | _, .non => true
  | _, .bl _ => true
  | _, .int _ => true
  | _, .str x => PyData.strOk x
  | n + 1, .tup xs => flats n xs
  | n + 1, .lst xs => flats n xs
  | _, _ => false
def flats : Nat → List D → Bool
  | _, [] => true
  | n, x :: xs => D.flat n x && flats n xs
end
section
variable {K : PySem.W.Frag} {H : Hp}
mutual
theorem R.dp : ∀ {d : D} {v : V} {n : Nat}, R K H v d → D.flat n d = true → Dp K H v d.py ∧ d.py.canLay0 = true ∧ d.py.depth ≤ n
  | .non, _, _, r, _ => by cases r; exact ⟨.non, by simp [D.py, PyData.canLay0], by simp [D.py, PyData.depth]⟩
  | .bl b, _, _, r, _ => by cases r; exact ⟨.bl b, by simp [D.py, PyData.canLay0], by simp [D.py, PyData.depth]⟩
  | .int b, _, _, r, _ => by cases r; exact ⟨.int b, by simp [D.py, PyData.canLay0], by simp [D.py, PyData.depth]⟩
  | .str b, _, _, r, h => by cases r; exact ⟨.str b, by simpa [D.py, PyData.canLay0, D.flat] using h, by simp [D.py, PyData.depth]⟩
  | .tup xs, _, 0, r, h => by simp [D.flat] at h
  | .tup xs, _, n + 1, r, h => by
    cases r with
    | tup q s =>
      have h' : flats n xs = true := by simpa [D.flat] using h
      obtain ⟨a, b, e⟩ := Rs.dp s h'
      exact ⟨.tup q a, by simp [D.py, PyData.canLay0]; exact b, by simp [D.py, PyData.depth]; exact e⟩
  | .lst xs, _, 0, r, h => by simp [D.flat] at h
  | .lst xs, _, n + 1, r, h => by
    cases r with
    | lst q s =>
      have h' : flats n xs = true := by simpa [D.flat] using h
      obtain ⟨a, b, e⟩ := Rs.dp s h'
      exact ⟨.lst (SqL.of q) a, by simp [D.py, PyData.canLay0]; exact b, by simp [D.py, PyData.depth]; exact e⟩
  | .dic _, _, _, _, h => by simp [D.flat] at h
  | .scr _, _, _, _, h => by simp [D.flat] at h
theorem Rs.dp : ∀ {ds : List D} {vs : List V} {n : Nat}, Rs K H vs ds → flats n ds = true → DpAll K H vs (pys ds) ∧ PyData.canLayAll0 (pys ds) = true ∧ PyData.depthAll (pys ds) ≤ n
  | [], _, _, r, _ => by cases r; exact ⟨.nil, by simp [pys, PyData.canLayAll0], by simp [pys, PyData.depthAll]⟩
  | d :: ds, _, n, r, h => by
    cases r with
    | cons a s =>
      have h' : D.flat n d = true ∧ flats n ds = true := by simpa [flats] using h
      obtain ⟨a1, b1, e1⟩ := R.dp a h'.1
      obtain ⟨a2, b2, e2⟩ := Rs.dp s h'.2
      exact ⟨.cons a1 a2, by simp [pys, PyData.canLayAll0, b1, b2], by simp only [pys, PyData.depthAll]; omega⟩
end
end
theorem shaped_of {d : D} (h : d.py.canLay0 = true) (h2 : d.py.depth ≤ 64) : SeqAt.shaped d.py = true := by
  show (d.py.canLay0 && decide (d.py.depth ≤ 64)) = true
  rw [Bool.and_eq_true]
  exact ⟨h, decide_eq_true h2⟩
/-- == as Python has it: True is 1 -/
def D.eqv (x y : D) : Bool := PyData.eqv x.py y.py
def fEq (x y : D) (k : D → Prop) : Prop := match x, y with
  | .int a, .int b => k (.bl (decide (a = b)))
  | .str a, .str b => k (.bl (decide (a = b)))
  | x, y => D.flat 64 x = true ∧ D.flat 64 y = true ∧ k (.bl (x.eqv y))
def fNe (x y : D) (k : D → Prop) : Prop := match x, y with
  | .int a, .int b => k (.bl (!decide (a = b)))
  | .str a, .str b => k (.bl (!decide (a = b)))
  | x, y => D.flat 64 x = true ∧ D.flat 64 y = true ∧ k (.bl (!x.eqv y))
section
variable {K : PySem.W.Frag}
abbrev rEqA (K : PySem.W.Frag) : R2 := fun x y H Q => L2.rEq x y H Q ∨ rEqD K x y H Q
abbrev rNeA (K : PySem.W.Frag) : R2 := fun x y H Q => L2.rNe x y H Q ∨ rNeD K x y H Q
theorem op_eqA {X : Cx} (hu : X.A.units + 64 < cLine) : OpR X (compareOp .Eq) (rEqA X.K) := op_eq.or (op_eqD hu)
theorem op_neA {X : Cx} (hu : X.A.units + 64 < cLine) : OpR X (compareOp .NotEq) (rNeA X.K) := op_ne.or (op_neD hu)
theorem dec_inj {α : Type} {f : α → V} (hf : ∀ a b, f a = f b → a = b) [DecidableEq α] (a b : α) : decide (f a = f b) = decide (a = b) := by
  by_cases e : a = b
  · simp [e]
  · rw [decide_eq_false e, decide_eq_false fun z => e (hf a b z)]
theorem od_eq : OpD K fEq (rEqA K) := fun c H x y d1 d2 k Q hk r1 r2 h q => by
  unfold fEq at h
  split at h
  · cases r1
    cases r2
    exact .inl ⟨rfl, by rw [dec_inj (f := V.int) (fun a b z => by cases z; rfl)]; exact q _ _ _ h (Ext.refl _ _) (.bl _)⟩
  · cases r1
    cases r2
    exact .inl ⟨rfl, by rw [dec_inj (f := V.str) (fun a b z => by cases z; rfl)]; exact q _ _ _ h (Ext.refl _ _) (.bl _)⟩
  · obtain ⟨a1, b1, e1⟩ := (r1.mono (hid_sub _ _)).dp h.1
    obtain ⟨a2, b2, e2⟩ := (r2.mono (hid_sub _ _)).dp h.2.1
    exact .inr ⟨_, _, a1, a2, shaped_of b1 e1, shaped_of b2 e2, q _ _ _ h.2.2 (Ext.refl _ _) (.bl _)⟩
theorem od_ne : OpD K fNe (rNeA K) := fun c H x y d1 d2 k Q hk r1 r2 h q => by
  unfold fNe at h
  split at h
  · cases r1
    cases r2
    exact .inl ⟨rfl, by rw [dec_inj (f := V.int) (fun a b z => by cases z; rfl)]; exact q _ _ _ h (Ext.refl _ _) (.bl _)⟩
  · cases r1
    cases r2
    exact .inl ⟨rfl, by rw [dec_inj (f := V.str) (fun a b z => by cases z; rfl)]; exact q _ _ _ h (Ext.refl _ _) (.bl _)⟩
  · obtain ⟨a1, b1, e1⟩ := (r1.mono (hid_sub _ _)).dp h.1
    obtain ⟨a2, b2, e2⟩ := (r2.mono (hid_sub _ _)).dp h.2.1
    exact .inr ⟨_, _, a1, a2, shaped_of b1 e1, shaped_of b2 e2, q _ _ _ h.2.2 (Ext.refl _ _) (.bl _)⟩
/-! in, not in: flat values in a list or a tuple -/
def D.flat1 : D → Bool
  | .non => true | .bl _ => true | .int _ => true | .str _ => true | _ => false
def D.eqv1 : D → D → Bool
  | .non, .non => true
  | .bl a, .bl b => a == b
  | .bl a, .int b => (if a then 1 else 0) == b
  | .int a, .bl b => a == (if b then 1 else 0)
  | .int a, .int b => a == b
  | .str a, .str b => a == b
  | _, _ => false
theorem flat1_V {H : Hp} {v : V} {d : D} (r : R K H v d) (h : d.flat1 = true) : flatV v = true := by
  cases r <;> first
    | rfl
    | exact absurd (show false = true from h) Bool.false_ne_true
theorem eqv1_V {H : Hp} {v w : V} {d e : D} (r : R K H v d) (s : R K H w e) (h : d.flat1 = true) (h2 : e.flat1 = true) : eqV v w = d.eqv1 e := by
  cases r <;> first
    | exact absurd (show false = true from h) Bool.false_ne_true
    | (cases s <;> first
        | rfl
        | exact absurd (show false = true from h2) Bool.false_ne_true)
theorem flats1_V {H : Hp} : ∀ {vs : List V} {ds : List D}, Rs K H vs ds → ds.all D.flat1 = true → vs.all flatV = true
  | _, _, .nil, _ => rfl
  | _, _, .cons a t, h => by
    rw [List.all_cons, Bool.and_eq_true] at h ⊢
    exact ⟨flat1_V a h.1, flats1_V t h.2⟩
theorem inV_D {H : Hp} {v : V} {d : D} (r : R K H v d) (hd : d.flat1 = true) : ∀ {vs : List V} {ds : List D}, Rs K H vs ds → ds.all D.flat1 = true → inV v vs = ds.any fun e => e.eqv1 d
  | _, _, .nil, _ => rfl
  | _, _, .cons a t, h => by
    rw [List.all_cons, Bool.and_eq_true] at h
    have ih := inV_D r hd t h.2
    unfold inV at ih ⊢
    rw [List.any_cons, List.any_cons, ih, eqv1_V a r h.1 hd]
def fIn (neg : Bool) (x y : D) (k : D → Prop) : Prop := match y with
  | .lst ds => x.flat1 = true ∧ ds.all D.flat1 = true ∧ k (.bl (if neg then !(ds.any fun e => e.eqv1 x) else ds.any fun e => e.eqv1 x))
  | .tup ds => x.flat1 = true ∧ ds.all D.flat1 = true ∧ k (.bl (if neg then !(ds.any fun e => e.eqv1 x) else ds.any fun e => e.eqv1 x))
  | _ => False
theorem od_in {neg : Bool} : OpD K (fIn neg) (rIn K neg) := fun c H x y d1 d2 k Q hk r1 r2 h q => by
  unfold fIn at h
  split at h
  · obtain ⟨h1, h2, h⟩ := h
    cases r2 with
    | lst a s => exact ⟨_, _, rfl, .inl (SqL.of (hidG a)), flat1_V r1 h1, flats1_V s h2, by rw [inV_D r1 h1 s h2]; exact q _ _ _ h (Ext.refl _ _) (.bl _)⟩
  · obtain ⟨h1, h2, h⟩ := h
    cases r2 with
    | tup a s => exact ⟨_, _, rfl, .inr (hidT a), flat1_V r1 h1, flats1_V s h2, by rw [inV_D r1 h1 s h2]; exact q _ _ _ h (Ext.refl _ _) (.bl _)⟩
  · exact h.elim
/-! is None -/
def fIsN (neg : Bool) (x y : D) (k : D → Prop) : Prop := match y with
  | .non => k (.bl (match x with | .non => !neg | _ => neg))
  | _ => False
theorem od_isN : OpD K (fIsN false) (fun x y H Q => y = .non ∧ Q (.bl (decide (x = .non))) H) := fun c H x y d1 d2 k Q hk r1 r2 h q => by
  unfold fIsN at h
  split at h
  · cases r2
    refine ⟨rfl, q _ _ _ h (Ext.refl _ _) ?_⟩
    cases r1 <;> exact .bl _
  · exact h.elim
theorem od_notN : OpD K (fIsN true) (fun x y H Q => y = .non ∧ Q (.bl (!decide (x = .non))) H) := fun c H x y d1 d2 k Q hk r1 r2 h q => by
  unfold fIsN at h
  split at h
  · cases r2
    refine ⟨rfl, q _ _ _ h (Ext.refl _ _) ?_⟩
    cases r1 <;> exact .bl _
  · exact h.elim
/-! repetition -/
def fRep (x y : D) (k : D → Prop) : Prop := match x, y with
  | .int i, .int j => MulOk i j ∧ k (.int (i * j))
  | .lst xs, .int n => -(2 ^ 62) ≤ n ∧ n ≤ 1000000 ∧ xs.length * n.toNat ≤ 1000000 ∧ k (.lst (List.replicate n.toNat xs).flatten)
  | .tup xs, .int n => -(2 ^ 62) ≤ n ∧ n ≤ 1000 ∧ xs.length ≤ 1000 ∧ k (.tup (List.replicate n.toNat xs).flatten)
  | _, _ => False
abbrev rMulA (K : PySem.W.Frag) : R2 := fun x y H Q => (rI MulOk (fun i j => .int (i * j)) x y H Q ∨ (rRep x y H Q ∨ (rRepT K x y H Q ∨ (rRep0 K x y H Q ∨ rRep1 K x y H Q))))
theorem op_mulA {X : Cx} : OpR X (binaryOp .Mult) (rMulA X.K) := op_mulB.or (op_rep.or (op_repT.or (op_rep0.or op_rep1)))
theorem Rs.rep {H : Hp} {vs : List V} {ds : List D} (h : Rs K H vs ds) : ∀ n : Nat, Rs K H (List.replicate n vs).flatten (List.replicate n ds).flatten
  | 0 => .nil
  | n + 1 => by
    rw [List.replicate_succ, List.replicate_succ, List.flatten_cons, List.flatten_cons]
    exact h.app (h.rep n)
theorem od_mul : OpD K fRep (rMulA K) := fun c H x y d1 d2 k Q hk r1 r2 h q => by
  unfold fRep at h
  split at h
  · cases r1
    cases r2
    exact .inl ⟨_, _, rfl, rfl, h.1, q _ _ _ h.2 (Ext.refl _ _) (.int _)⟩
  · obtain ⟨h1, h2, h3, h⟩ := h
    cases r2
    cases r1 with
    | lst a s =>
      refine .inr (.inl ⟨_, _, _, rfl, rfl, hidG a, by omega, by omega, by rw [s.length]; exact szL h3, fun p hp => ?_⟩)
      exact q _ _ _ h (Ext.new hp hk.bag) (newLst hk hp (s.rep _))
  · obtain ⟨h1, h2, h3, h⟩ := h
    cases r2
    rename_i xs n
    cases r1 with
    | tup a s =>
      have nil : ∀ {us : List V} {ds : List D} {H : Hp}, Rs K H us ds → us = [] → ds = [] := fun {us ds H} r e => by
        subst e
        cases r
        rfl
      by_cases e1 : xs = []
      · have es : (List.replicate n.toNat xs).flatten = xs := by rw [e1]; simp
        rw [es] at h
        refine .inr (.inr (.inr (.inr ⟨_, _, _, rfl, rfl, hidT a, h1, by omega, .inl ?_, q _ _ _ h (Ext.refl _ _) (.tup a s)⟩)))
        subst e1
        cases s
        rfl
      · by_cases e2 : n = 1
        · have es : (List.replicate n.toNat xs).flatten = xs := by rw [e2]; simp
          rw [es] at h
          exact .inr (.inr (.inr (.inr ⟨_, _, _, rfl, rfl, hidT a, h1, by omega, .inr e2, q _ _ _ h (Ext.refl _ _) (.tup a s)⟩)))
        · by_cases e3 : n ≤ 0
          · have es : (List.replicate n.toNat xs).flatten = [] := by rw [Int.toNat_of_nonpos e3]; rfl
            rw [es] at h
            refine .inr (.inr (.inr (.inl ⟨_, _, _, rfl, rfl, hidT a, fun e => e1 (nil s e), h1, e3, fun p hp => ?_⟩)))
            exact q _ _ _ h (Ext.new hp hk.bag) (newTup hk hp .nil)
          · refine .inr (.inr (.inl ⟨_, _, _, rfl, rfl, hidT a, fun e => e1 (nil s e), by omega, h2, by rw [s.length]; exact h3, fun p hp => ?_⟩))
            exact q _ _ _ h (Ext.new hp hk.bag) (newTup hk hp (s.rep _))
  · exact h.elim
end
/-! ### one-place operations, tests -/
section
variable {X : Cx} {EX : XK} {a b e c : Expr} {Ta Tb T : DTE} {Tt Tu : DTT} {pos : Pos} {rest : List Expr}
def dNeg (T : DTE) : DTE := fun E ρ K => T E ρ fun d => match d with
  | .int i => K (.int (-i))
  | _ => False
theorem d_neg (h : PDe X EX a T) : PDe X EX (.UnaryOp .USub a pos) (dNeg T) := peW (pe_un un_neg h) fun σ H Q h => by
  obtain ⟨c, ρ, Kd, Ed, s, h, q⟩ := h
  refine ⟨c, ρ, _, Ed, s, h, fun d v H1 k e r => ?_⟩
  cases r <;> first
    | exact k.elim
    | exact ⟨_, rfl, q _ _ _ k e (.int _)⟩
def dTest (T : DTE) : DTT := fun E ρ K => T E ρ fun d => match d with
  | .bl b => K b
  | _ => False
theorem t_of {σ : L2.St} {H : Hp} {Q : Bool → Hp → Prop} (h : tT X.K EX (dTest T) σ H Q) : tD X.K EX T σ H fun x H1 => ∃ c, x = .bl c ∧ Q c H1 := by
  obtain ⟨c, ρ, Kd, Ed, s, h, q⟩ := h
  refine ⟨c, ρ, _, Ed, s, h, fun d v H1 k e r => ?_⟩
  cases r <;> first
    | exact k.elim
    | exact ⟨_, rfl, q _ _ k e⟩
/-- an expression that is a bool, as a test -/
theorem t_val (h : PDe X EX e T) (he : ∀ whole, isTrue e X.env whole = (do let v ← whole; standAt e.pos; holding [v] (truthy v)) := by intro _; rfl) : PDt X EX e (dTest T) := ptW (pt_val h he) fun _ _ _ h => t_of h
theorem two_t {f : D → D → (D → Prop) → Prop} {r : R2} (hf : OpD X.K f r) {σ : L2.St} {H : Hp} {Q : Bool → Hp → Prop} (h : tT X.K EX (dTest (dOp f Ta Tb)) σ H Q) : tTest (tOp r (tD X.K EX Ta) (tD X.K EX Tb)) σ H Q := by
  have h2 := t_of h
  exact two hf h2
theorem t_cmp {op : CmpOp} {r : R2} {f : D → D → (D → Prop) → Prop} (ho : OpR X (compareOp op) r) (hf : OpD X.K f r) (ha : PDe X EX a Ta) (hb : PDe X EX b Tb) (hm : behindInMarks op b = false) : PDt X EX (.Compare a [op] [b] pos) (dTest (dOp f Ta Tb)) :=
  ptW (pt_cmpR ho ha hb hm) fun _ _ _ h => two_t hf h
/-- a value's truth -/
def dTru (T : DTE) : DTT := fun E ρ K => T E ρ fun d => match d with
  | .non => K false
  | .bl b => K b
  | .int i => K (i != 0)
  | .tup xs => K (!xs.isEmpty)
  | .lst xs => K (!xs.isEmpty)
  | _ => False
theorem isE {K : PySem.W.Frag} {H : Hp} {vs : List V} {ds : List D} (r : Rs K H vs ds) : (!vs.isEmpty) = !ds.isEmpty := by cases r <;> rfl
theorem t_tru (h : PDe X EX a T) (he : ∀ whole, isTrue a X.env whole = (do let v ← whole; standAt a.pos; holding [v] (truthy v)) := by intro _; rfl) : PDt X EX a (dTru T) := ptW (pt_truth h he) fun σ H Q h => by
  obtain ⟨c, ρ, Kd, Ed, s, h, q⟩ := h
  refine ⟨c, ρ, _, Ed, s, h, fun d v H1 k e r => ?_⟩
  cases r with
  | non => exact ⟨_, rfl, q _ _ k e⟩
  | bl b => exact ⟨_, rfl, q _ _ k e⟩
  | int i => exact ⟨_, rfl, q _ _ k e⟩
  | str x => exact k.elim
  | tup h1 hs => exact ⟨_, .inr (.inl ⟨_, hidT h1, rfl⟩), by rw [isE hs]; exact q _ _ k e⟩
  | lst h1 hs => exact ⟨_, .inl ⟨_, SqL.of (hidG h1), rfl⟩, by rw [isE hs]; exact q _ _ k e⟩
  | dic _ _ => exact k.elim
  | scr _ => exact k.elim
  | obj _ _ _ => exact k.elim
  | cls _ => exact k.elim
  | rng _ => exact k.elim
def dAnd (T U : DTT) : DTT := fun E ρ K => T E ρ fun c => (c = true → U E ρ K) ∧ (c = false → K false)
def dOr (T U : DTT) : DTT := fun E ρ K => T E ρ fun c => (c = true → K true) ∧ (c = false → U E ρ K)
def dNot (T : DTT) : DTT := fun E ρ K => T E ρ fun c => K (!c)
theorem w_and1 (h : PDt X EX a Tt) : PDw X EX (.BoolOp .And [a] pos) Tt := pw_and1 h
theorem w_or1 (h : PDt X EX a Tt) : PDw X EX (.BoolOp .Or [a] pos) Tt := pw_or1 h
theorem w_and (ha : PDt X EX a Tt) (hb : PDw X EX (.BoolOp .And (b :: rest) pos) Tu) : PDw X EX (.BoolOp .And (a :: b :: rest) pos) (dAnd Tt Tu) := pwW (pw_and ha hb) fun σ H Q h => by
  obtain ⟨c, ρ, Kd, Ed, s, h, q⟩ := h
  refine ⟨c, ρ, _, Ed, s, h, fun d H1 k e => ?_⟩
  cases d with
  | true => exact iteT ⟨c, ρ, Kd, Ed, s.ext e, k.1 rfl, fun d2 H2 k2 e2 => q d2 H2 k2 (e.trans e2)⟩
  | false => exact iteF (q _ _ (k.2 rfl) e)
theorem w_or (ha : PDt X EX a Tt) (hb : PDw X EX (.BoolOp .Or (b :: rest) pos) Tu) : PDw X EX (.BoolOp .Or (a :: b :: rest) pos) (dOr Tt Tu) := pwW (pw_or ha hb) fun σ H Q h => by
  obtain ⟨c, ρ, Kd, Ed, s, h, q⟩ := h
  refine ⟨c, ρ, _, Ed, s, h, fun d H1 k e => ?_⟩
  cases d with
  | true => exact iteT (q _ _ (k.1 rfl) e)
  | false => exact iteF ⟨c, ρ, Kd, Ed, s.ext e, k.2 rfl, fun d2 H2 k2 e2 => q d2 H2 k2 (e.trans e2)⟩
theorem t_w (h : PDw X EX e Tt) : PDt X EX e Tt := h.pt
theorem t_not (h : PDt X EX a Tt) : PDt X EX (.UnaryOp .Not a pos) (dNot Tt) := ptW (pt_not h) fun σ H Q h => by
  obtain ⟨c, ρ, Kd, Ed, s, h, q⟩ := h
  exact ⟨c, ρ, _, Ed, s, h, fun d H1 k e => q _ _ k e⟩
/-! as values (bools but for the last one) -/
def dAndV (T U : DTE) : DTE := fun E ρ K => T E ρ fun d => match d with
  | .bl c => (c = true → U E ρ K) ∧ (c = false → K (.bl false))
  | _ => False
def dOrV (T U : DTE) : DTE := fun E ρ K => T E ρ fun d => match d with
  | .bl c => (c = true → K (.bl true)) ∧ (c = false → U E ρ K)
  | _ => False
def dNotV (T : DTE) : DTE := fun E ρ K => T E ρ fun d => match d with
  | .bl c => K (.bl (!c))
  | _ => False
theorem d_one {op} (h : PDe X EX a T) : PDe X EX (.BoolOp op [a] pos) T := pe_one h
theorem d_and (ha : PDe X EX a Ta) (hb : PDe X EX (.BoolOp .And (b :: rest) pos) Tb) : PDe X EX (.BoolOp .And (a :: b :: rest) pos) (dAndV Ta Tb) := peW (pe_and ha hb) fun σ H Q h => by
  obtain ⟨c, ρ, Kd, Ed, s, h, q⟩ := h
  refine ⟨c, ρ, _, Ed, s, h, fun d v H1 k e r => ?_⟩
  cases r with
  | bl b =>
    cases b with
    | true => exact ⟨_, rfl, iteT ⟨c, ρ, Kd, Ed, s.ext e, k.1 rfl, fun d2 v2 H2 k2 e2 r2 => q d2 v2 H2 k2 (e.trans e2) r2⟩⟩
    | false => exact ⟨_, rfl, iteF (q _ _ _ (k.2 rfl) e (.bl _))⟩
  | _ => exact k.elim
theorem d_or (ha : PDe X EX a Ta) (hb : PDe X EX (.BoolOp .Or (b :: rest) pos) Tb) : PDe X EX (.BoolOp .Or (a :: b :: rest) pos) (dOrV Ta Tb) := peW (pe_or ha hb) fun σ H Q h => by
  obtain ⟨c, ρ, Kd, Ed, s, h, q⟩ := h
  refine ⟨c, ρ, _, Ed, s, h, fun d v H1 k e r => ?_⟩
  cases r with
  | bl b =>
    cases b with
    | true => exact ⟨_, rfl, iteT (q _ _ _ (k.1 rfl) e (.bl _))⟩
    | false => exact ⟨_, rfl, iteF ⟨c, ρ, Kd, Ed, s.ext e, k.2 rfl, fun d2 v2 H2 k2 e2 r2 => q d2 v2 H2 k2 (e.trans e2) r2⟩⟩
  | _ => exact k.elim
theorem d_not (h : PDe X EX a T) : PDe X EX (.UnaryOp .Not a pos) (dNotV T) := peW (pe_not h) fun σ H Q h => by
  obtain ⟨c, ρ, Kd, Ed, s, h, q⟩ := h
  refine ⟨c, ρ, _, Ed, s, h, fun d v H1 k e r => ?_⟩
  cases r <;> first
    | exact k.elim
    | exact ⟨_, rfl, q _ _ _ k e (.bl _)⟩
def dIf (Tt : DTT) (Ta Tb : DTE) : DTE := fun E ρ K => Tt E ρ fun c => (c = true → Ta E ρ K) ∧ (c = false → Tb E ρ K)
theorem d_if (hc : PDt X EX c Tt) (ha : PDe X EX a Ta) (hb : PDe X EX b Tb) : PDe X EX (.IfExp c a b pos) (dIf Tt Ta Tb) := peW (pe_ifExp hc ha hb) fun σ H Q h => by
  obtain ⟨c, ρ, Kd, Ed, s, h, q⟩ := h
  refine ⟨c, ρ, _, Ed, s, h, fun d H1 k e => ?_⟩
  cases d with
  | true => exact iteT ⟨c, ρ, Kd, Ed, s.ext e, k.1 rfl, fun d2 v2 H2 k2 e2 r2 => q d2 v2 H2 k2 (e.trans e2) r2⟩
  | false => exact iteF ⟨c, ρ, Kd, Ed, s.ext e, k.2 rfl, fun d2 v2 H2 k2 e2 r2 => q d2 v2 H2 k2 (e.trans e2) r2⟩
/-! a < b < c -/
def dChain (f g : D → D → (D → Prop) → Prop) (Ta Tb Tc : DTE) : DTE := fun E ρ K => Ta E ρ fun x => Tb E ρ fun y => f x y fun z => match z with
  | .bl k => (k = true → Tc E ρ fun w => g y w K) ∧ (k = false → K (.bl false))
  | _ => False
theorem chained {f g : D → D → (D → Prop) → Prop} {r r' : R2} {Tc : DTE} (hf : OpD X.K f r) (hg : OpD X.K g r') {σ : L2.St} {H : Hp} {Q : VK} (h : tD X.K EX (dChain f g Ta Tb Tc) σ H Q) :
    tChain r r' (tD X.K EX Ta) (tD X.K EX Tb) (tD X.K EX Tc) σ H Q := by
  obtain ⟨c, ρ, Kd, Ed, s, h, q⟩ := h
  refine ⟨c, ρ, _, Ed, s, h, fun d v H1 k e r1 => ?_⟩
  have s1 := s.ext e
  refine ⟨c, ρ, _, Ed, s1, k, fun d2 v2 H2 k2 e2 r2 => ?_⟩
  have s2 := s1.ext e2
  refine hf c H2 v v2 d d2 _ _ s2.k (r1.mono (s1.k.sub e2)) r2 k2 fun d3 v3 H3 k3 e3 r3 => ?_
  have s3 := s2.ext e3
  cases r3 with
  | bl b =>
    cases b with
    | true =>
      refine ⟨_, rfl, iteT ⟨c, ρ, _, Ed, s3, k3.1 rfl, fun d4 v4 H4 k4 e4 r4 => ?_⟩⟩
      exact hg c H4 v2 v4 d2 d4 _ _ (s3.ext e4).k ((r2.mono (s2.k.sub e3)).mono (s3.k.sub e4)) r4 k4 fun d5 v5 H5 k5 e5 r5 => q _ _ _ k5 ((((e.trans e2).trans e3).trans e4).trans e5) r5
    | false => exact ⟨_, rfl, iteF (q _ _ _ (k3.2 rfl) ((e.trans e2).trans e3) (.bl _))⟩
  | _ => exact k3.elim
theorem d_chain {op op' : CmpOp} {r r' : R2} {f g : D → D → (D → Prop) → Prop} {Tc : DTE} (ho : OpR X (compareOp op) r) (ho' : OpR X (compareOp op') r') (hf : OpD X.K f r) (hg : OpD X.K g r') (ha : PDe X EX a Ta) (hb : PDe X EX b Tb) (hc : PDe X EX c Tc)
    (hm : lastMarks [op, op'] [b, c] = false := by with_unfolding_all rfl) : PDe X EX (.Compare a [op, op'] [b, c] pos) (dChain f g Ta Tb Tc) := peW (pe_chain ho ho' ha hb hc hm) fun _ _ _ h => chained hf hg h
theorem t_chain {op op' : CmpOp} {r r' : R2} {f g : D → D → (D → Prop) → Prop} {Tc : DTE} (ho : OpR X (compareOp op) r) (ho' : OpR X (compareOp op') r') (hf : OpD X.K f r) (hg : OpD X.K g r') (ha : PDe X EX a Ta) (hb : PDe X EX b Tb) (hc : PDe X EX c Tc)
    (hm : lastMarks [op, op'] [b, c] = false := by with_unfolding_all rfl) : PDt X EX (.Compare a [op, op'] [b, c] pos) (dTest (dChain f g Ta Tb Tc)) := ptW (pt_chain ho ho' ha hb hc hm) fun _ _ _ h => chained hf hg (t_of h)
end

/-! ### lists of values, arguments -/
abbrev DTV := ED → Ev → (List D → Prop) → Prop
def tV (K : PySem.W.Frag) (EX : XK) (T : DTV) : TA := fun σ H Q => ∃ c ρ Kd Ed, St0 K EX c H σ ρ Ed ∧ T Ed ρ Kd ∧ ∀ ds vs H', Kd ds → Ext c.B H H' → Rs K (hid c.P H') vs ds → Q vs H'
abbrev PDv (X : Cx) (EX : XK) (es : List Expr) (T : DTV) : Prop := PA X es (tV X.K EX T)
section
variable {X : Cx} {EX : XK} {e : Expr} {es : List Expr} {T : DTE} {Tv : DTV} {Tx : DTX} {Ta : DTA} {pos : Pos}
def vNil : DTV := fun _ _ K => K []
def vCons (T : DTE) (Tv : DTV) : DTV := fun E ρ K => T E ρ fun d => Tv E ρ fun ds => K (d :: ds)
theorem v_nil : PDv X EX [] vNil := paW pa_nil fun σ H Q h => by
  obtain ⟨c, ρ, Kd, Ed, s, h, q⟩ := h
  exact q _ _ _ h (Ext.refl _ _) .nil
theorem v_cons (h : PDe X EX e T) (hr : PDv X EX es Tv) (hs : starEach (e :: es) X.env = (false, eval e X.env) :: starEach es X.env := by rfl) : PDv X EX (e :: es) (vCons T Tv) := paW (pa_cons h hr hs) fun σ H Q h => by
  obtain ⟨c, ρ, Kd, Ed, s, h, q⟩ := h
  refine ⟨c, ρ, _, Ed, s, h, fun d v H1 k e r => ⟨c, ρ, _, Ed, s.ext e, k, fun ds vs H2 k2 e2 r2 => ?_⟩⟩
  exact q _ _ _ k2 (e.trans e2) (.cons (r.mono ((s.ext e).k.sub e2)) r2)
def aNil : DTA := fun _ _ K => K []
def aCons (T : DTX) (Ta : DTA) : DTA := fun E ρ K => T E ρ fun d => Ta E ρ fun ds => K (d :: ds)
theorem a_nil : PDa X EX [] aNil := paW pa_nil fun σ H Q h => by
  obtain ⟨c, ρ, Kd, Ed, s, h, q⟩ := h
  exact q _ _ _ h (Ext.refl _ _) .nil
theorem slr_ext {K : PySem.W.Frag} {c : Cf} {H H' : Hp} {v : V} {s : Sl} (k : Hk c H) (e : Ext c.B H H') (h : SlR' K c H v s) : SlR' K c H' v s := by
  cases s with
  | val d => exact R.mono (k.sub e) h
  | own d => exact h
  | bag => exact h
theorem a_cons (h : PDx X EX e Tx) (hr : PDa X EX es Ta) (hs : starEach (e :: es) X.env = (false, eval e X.env) :: starEach es X.env := by rfl) : PDa X EX (e :: es) (aCons Tx Ta) := paW (pa_cons h hr hs) fun σ H Q h => by
  obtain ⟨c, ρ, Kd, Ed, s, h, q⟩ := h
  refine ⟨c, ρ, _, Ed, s, h, fun d v H1 k e r => ⟨c, ρ, _, Ed, s.ext e, k, fun ds vs H2 k2 e2 r2 => ?_⟩⟩
  exact q _ _ _ k2 (e.trans e2) (.cons (slr_ext (s.ext e).k e2 r) r2)
/-! ### displays -/
def dTup (Tv : DTV) : DTE := fun E ρ K => Tv E ρ fun ds => ds.length ≤ 1000000 ∧ K (.tup ds)
def dLst (Tv : DTV) : DTE := fun E ρ K => Tv E ρ fun ds => ds.length ≤ 1000000 ∧ K (.lst ds)
theorem d_tup {x1} (h : PDv X EX es Tv) : PDe X EX (.Tuple es x1 pos) (dTup Tv) := peW (pe_tup h) fun σ H Q h => by
  obtain ⟨c, ρ, Kd, Ed, s, h, q⟩ := h
  refine ⟨c, ρ, _, Ed, s, h, fun ds vs H1 k e r => ⟨by rw [r.length]; exact szL k.1, fun p hp => ?_⟩⟩
  exact q _ _ _ k.2 (e.trans (Ext.new hp (s.ext e).k.bag)) (newTup (s.ext e).k hp r)
theorem d_lst (h : PDv X EX es Tv) : PDe X EX (.List es pos) (dLst Tv) := peW (pe_lst h) fun σ H Q h => by
  obtain ⟨c, ρ, Kd, Ed, s, h, q⟩ := h
  refine ⟨c, ρ, _, Ed, s, h, fun ds vs H1 k e r => ⟨by rw [r.length]; exact szL k.1, fun p hp => ?_⟩⟩
  exact q _ _ _ k.2 (e.trans (Ext.new hp (s.ext e).k.bag)) (newLst (s.ext e).k hp r)
def dDic0 : DTE := fun _ _ K => K (.dic [])
theorem d_dic0 : PDe X EX (.Dict [] [] pos) dDic0 := peW pe_dnewK fun σ H Q h => by
  obtain ⟨c, ρ, Kd, Ed, s, h, q⟩ := h
  exact fun p hp => q _ _ _ h (Ext.new hp s.k.bag) (.dic (s.k.new hp) .nil)
/-! ### built-ins by name -/
def CalD (K : PySem.W.Frag) (f : List D → (D → Prop) → Prop) (r : List V → Hp → VK → Prop) : Prop := ∀ (c : Cf) (H : Hp) (xs : List V) (ds : List D) (k : D → Prop) (Q : VK), Hk c H → Rs K (hid c.P H) xs ds → f ds k →
  (∀ d v H', k d → Ext c.B H H' → R K (hid c.P H') v d → Q v H') → r xs H Q
def dCB (f : List D → (D → Prop) → Prop) (Tv : DTV) : DTE := fun E ρ K => Tv E ρ fun ds => f ds K
theorem cb_of {f : List D → (D → Prop) → Prop} {r : List V → Hp → VK → Prop} (hf : CalD X.K f r) {σ : L2.St} {H : Hp} {Q : VK} (h : tD X.K EX (dCB f Tv) σ H Q) : tCB r (tV X.K EX Tv) σ H Q := by
  obtain ⟨c, ρ, Kd, Ed, s, h, q⟩ := h
  refine ⟨c, ρ, _, Ed, s, h, fun ds vs H1 k e r => ?_⟩
  exact hf c H1 vs ds Kd Q (s.ext e).k r k fun d v H2 k2 e2 r2 => q _ _ _ k2 (e.trans e2) r2
variable {x : Str} {id T0 : String} {p : Pos} {f : List D → (D → Prop) → Prop} {r : List V → Hp → VK → Prop}
theorem d_callB (hc : CallR X (.builtin id) r) (hf : CalD X.K f r) (hm : X.mg x = none) (hv : bootBuiltins x = some (.builtin id)) (ha : PDv X EX (e :: es) Tv) (hg : Gl X x := by rfl) (hn : x ≠ "__name__" := by decide) (hdb : (x == ("__debug__" : Str)) = false := by decide)
    (he : starEach (e :: es) X.env = (false, eval e X.env) :: starEach es X.env := by rfl) (hpl : (backTo pos (starEach es X.env)).any (·.1) = false := by rfl) : PDe X EX (.Call (.Name x p) (e :: es) [] pos) (dCB f Tv) :=
  peW (pe_callB hc hg hm hv ha hn hdb he hpl) fun _ _ _ h => cb_of hf h
theorem d_callTy (hc : CallR X (.type T0) r) (hf : CalD X.K f r) (hm : X.mg x = none) (hv : bootBuiltins x = some (.type T0)) (ha : PDv X EX (e :: es) Tv) (hg : Gl X x := by rfl) (hn : x ≠ "__name__" := by decide) (hdb : (x == ("__debug__" : Str)) = false := by decide)
    (he : starEach (e :: es) X.env = (false, eval e X.env) :: starEach es X.env := by rfl) (hpl : (backTo pos (starEach es X.env)).any (·.1) = false := by rfl) : PDe X EX (.Call (.Name x p) (e :: es) [] pos) (dCB f Tv) :=
  peW (pe_callTy hc hg hm hv ha hn hdb he hpl) fun _ _ _ h => cb_of hf h
/-- a module's name for a built-in function -/
theorem d_callF (hc : CallR X (.builtin id) r) (hf : CalD X.K f r) (hm : X.mg x = some (.builtin id)) (ha : PDv X EX (e :: es) Tv) (hg : Gl X x := by rfl) (hdb : (x == ("__debug__" : Str)) = false := by decide)
    (he : starEach (e :: es) X.env = (false, eval e X.env) :: starEach es X.env := by rfl) (hpl : (backTo pos (starEach es X.env)).any (·.1) = false := by rfl) : PDe X EX (.Call (.Name x p) (e :: es) [] pos) (dCB f Tv) :=
  peW (pe_callBfun hc hg hm ha hdb he hpl) fun _ _ _ h => cb_of hf h
end
section
variable {K : PySem.W.Frag}
def fLen (ds : List D) (k : D → Prop) : Prop := match ds with
  | [.lst xs] => k (.int xs.length)
  | [.tup xs] => k (.int xs.length)
  | [.scr ns] => k (.int ns.length)
  | [.str x] => x.length ≤ 1000000 ∧ k (.int x.length)
  | _ => False
theorem cd_len : CalD K fLen (fun xs H Q => ∃ x n, xs = [x] ∧ LenV K x H n ∧ Q (.int n) H) := fun c H xs ds k Q hk r h q => by
  unfold fLen at h
  split at h
  · cases r with
    | cons a t =>
      cases t
      cases a with
      | lst a s => exact ⟨_, _, rfl, .inl ⟨_, SqL.of (hidG a), rfl⟩, by rw [s.length]; exact q _ _ _ h (Ext.refl _ _) (.int _)⟩
  · cases r with
    | cons a t =>
      cases t
      cases a with
      | tup a s => exact ⟨_, _, rfl, .inr ⟨_, hidT a, rfl⟩, by rw [s.length]; exact q _ _ _ h (Ext.refl _ _) (.int _)⟩
  · cases r with
    | cons a t =>
      cases t
      cases a with
      | scr a => exact ⟨_, _, rfl, .inl ⟨_, hidL a, rfl⟩, by rw [List.length_map]; exact q _ _ _ h (Ext.refl _ _) (.int _)⟩
  · cases r with
    | cons a t =>
      cases t
      cases a
      exact ⟨_, _, rfl, ⟨szL h.1, rfl⟩, q _ _ _ h.2 (Ext.refl _ _) (.int _)⟩
  · exact h.elim
def fAbs (ds : List D) (k : D → Prop) : Prop := match ds with
  | [.int i] => k (.int (if i < 0 then -i else i))
  | _ => False
theorem cd_abs : CalD K fAbs (fun xs H Q => ∃ i, xs = [.int i] ∧ Q (.int (if i < 0 then -i else i)) H) := fun c H xs ds k Q hk r h q => by
  unfold fAbs at h
  split at h
  · cases r with
    | cons a t =>
      cases t
      cases a
      exact ⟨_, rfl, q _ _ _ h (Ext.refl _ _) (.int _)⟩
  · exact h.elim
def f2I (g : Int → Int → Int) (ds : List D) (k : D → Prop) : Prop := match ds with
  | [.int i, .int j] => k (.int (g i j))
  | _ => False
theorem cd_2I {g : Int → Int → Int} : CalD K (f2I g) (fun xs H Q => ∃ i j, xs = [.int i, .int j] ∧ Q (.int (g i j)) H) := fun c H xs ds k Q hk r h q => by
  unfold f2I at h
  split at h
  · cases r with
    | cons a t =>
      cases t with
      | cons b t =>
        cases t
        cases a
        cases b
        exact ⟨_, _, rfl, q _ _ _ h (Ext.refl _ _) (.int _)⟩
  · exact h.elim
def fInt (ds : List D) (k : D → Prop) : Prop := match ds with
  | [.int i] => k (.int i)
  | [.bl b] => k (.int (if b then 1 else 0))
  | _ => False
theorem cd_int : CalD K fInt (fun xs H Q => (∃ i, xs = [.int i] ∧ Q (.int i) H) ∨ ∃ k, xs = [.bl k] ∧ Q (.int (if k then 1 else 0)) H) := fun c H xs ds k Q hk r h q => by
  unfold fInt at h
  split at h
  · cases r with
    | cons a t =>
      cases t
      cases a
      exact .inl ⟨_, rfl, q _ _ _ h (Ext.refl _ _) (.int _)⟩
  · cases r with
    | cons a t =>
      cases t
      cases a
      exact .inr ⟨_, rfl, q _ _ _ h (Ext.refl _ _) (.int _)⟩
  · exact h.elim
/-- the intsD of a list of data, where all of them are intsD -/
def intsD : List D → Option (List Int)
  | [] => some []
  | .int i :: ds => (intsD ds).map (i :: ·)
  | _ :: _ => none
theorem ints_eq : ∀ {ds : List D} {ns : List Int}, intsD ds = some ns → ds = ns.map D.int
  | [], ns, h => by cases h; rfl
  | d :: ds, ns, h => by
    cases d <;> first
      | (exfalso; simp [intsD] at h; done)
      | skip
    simp only [intsD, Option.map_eq_some_iff] at h
    obtain ⟨ms, h1, rfl⟩ := h
    rw [ints_eq h1]
    rfl
theorem ints_map : ∀ ns : List Int, intsD (ns.map D.int) = some ns
  | [] => rfl
  | n :: ns => by simp [intsD, ints_map ns]
def blsD : List D → Option (List Bool)
  | [] => some []
  | .bl i :: ds => (blsD ds).map (i :: ·)
  | _ :: _ => none
theorem bls_eq : ∀ {ds : List D} {ns : List Bool}, blsD ds = some ns → ds = ns.map D.bl
  | [], ns, h => by cases h; rfl
  | d :: ds, ns, h => by
    cases d <;> first
      | (exfalso; simp [blsD] at h; done)
      | skip
    simp only [blsD, Option.map_eq_some_iff] at h
    obtain ⟨ms, h1, rfl⟩ := h
    rw [bls_eq h1]
    rfl
theorem bls_map : ∀ ns : List Bool, blsD (ns.map D.bl) = some ns
  | [] => rfl
  | n :: ns => by simp [blsD, bls_map ns]
def fSum (ds : List D) (k : D → Prop) : Prop := match ds with
  | [.lst xs] => (match intsD xs with | some ns => k (.int ns.sum) | none => False)
  | _ => False
theorem cd_sum : CalD K fSum (rSum K) := fun c H xs ds k Q hk r h q => by
  unfold fSum at h
  split at h
  · split at h
    · rename_i xs ns e
      have e2 := ints_eq e
      subst e2
      cases r with
      | cons a t =>
        cases t
        cases a with
        | lst a s =>
          have e3 := s.ints
          subst e3
          exact ⟨_, _, rfl, SqL.of (hidG a), q _ _ _ h (Ext.refl _ _) (.int _)⟩
    · exact h.elim
  · exact h.elim
def fAllB (g : List Bool → Bool) (ds : List D) (k : D → Prop) : Prop := match ds with
  | [.lst xs] => (match blsD xs with | some ns => k (.bl (g ns)) | none => False)
  | _ => False
theorem cd_allB {g : List Bool → Bool} : CalD K (fAllB g) (fun vs H Q => ∃ (a : Addr) (bs : List Bool), vs = [V.ref a] ∧ SqL K H a (bs.map V.bl) ∧ Q (.bl (g bs)) H) := fun c H xs ds k Q hk r h q => by
  unfold fAllB at h
  split at h
  · split at h
    · rename_i xs ns e
      have e2 := bls_eq e
      subst e2
      cases r with
      | cons a t =>
        cases t
        cases a with
        | lst a s =>
          have e3 := s.bls
          subst e3
          exact ⟨_, _, rfl, SqL.of (hidG a), q _ _ _ h (Ext.refl _ _) (.bl _)⟩
    · exact h.elim
  · exact h.elim
def fTuple (ds : List D) (k : D → Prop) : Prop := match ds with
  | [.lst xs] => k (.tup xs)
  | [.tup xs] => k (.tup xs)
  | _ => False
theorem cd_tuple : CalD K fTuple (fun xs H Q => ∃ p ys, xs = [.ref p] ∧ ((SqL K H p ys ∧ ∀ l, H l = none → Q (.ref l) (upd H l (.tup ys))) ∨ (SqT K H p ys ∧ Q (.ref p) H))) := fun c H xs ds k Q hk r h q => by
  unfold fTuple at h
  split at h
  · cases r with
    | cons a t =>
      cases t
      cases a with
      | lst a s => exact ⟨_, _, rfl, .inl ⟨SqL.of (hidG a), fun l hl => q _ _ _ h (Ext.new hl hk.bag) (newTup hk hl s)⟩⟩
  · cases r with
    | cons a t =>
      cases t
      cases a with
      | tup a s => exact ⟨_, _, rfl, .inr ⟨hidT a, q _ _ _ h (Ext.refl _ _) (.tup a s)⟩⟩
  · exact h.elim
def fList (ds : List D) (k : D → Prop) : Prop := match ds with
  | [.lst xs] => k (.lst xs)
  | [.tup xs] => k (.lst xs)
  | _ => False
theorem cd_list : CalD K fList (fun xs H Q => ∃ p ys, xs = [.ref p] ∧ (SqL K H p ys ∨ SqT K H p ys) ∧ ∀ l, H l = none → Q (.ref l) (upd H l (.lst ys))) := fun c H xs ds k Q hk r h q => by
  unfold fList at h
  split at h
  · cases r with
    | cons a t =>
      cases t
      cases a with
      | lst a s => exact ⟨_, _, rfl, .inl (SqL.of (hidG a)), fun l hl => q _ _ _ h (Ext.new hl hk.bag) (newLst hk hl s)⟩
  · cases r with
    | cons a t =>
      cases t
      cases a with
      | tup a s => exact ⟨_, _, rfl, .inr (hidT a), fun l hl => q _ _ _ h (Ext.new hl hk.bag) (newLst hk hl s)⟩
  · exact h.elim
def fGcd (ds : List D) (k : D → Prop) : Prop := match ds with
  | [.int a, .int b] => k (.int ((Nat.gcd a.natAbs b.natAbs : Nat) : Int))
  | _ => False
theorem cd_gcd : CalD K fGcd rGcd := fun c H xs ds k Q hk r h q => by
  unfold fGcd at h
  split at h
  · cases r with
    | cons a t =>
      cases t with
      | cons b t =>
        cases t
        cases a
        cases b
        exact ⟨_, _, rfl, q _ _ _ h (Ext.refl _ _) (.int _)⟩
  · exact h.elim
end
/-! ### isinstance(x, T), T a built-in class -/
def D.tyn : D → String
  | .non => "NoneType" | .bl _ => "bool" | .int _ => "int" | .str _ => "str" | .tup _ => "tuple" | .lst _ => "list" | .dic _ => "dict" | .scr _ => "list" | .obj _ _ _ => "dict" | .cls _ => "dict" | .rng _ _ => "dict"
def isiB (a b : String) : Bool := a == b || (a == "bool" && b == "int")
theorem isi_all : ∀ a ∈ ["NoneType", "bool", "int", "str", "tuple", "list", "dict"], ∀ b ∈ ["bool", "int", "str", "tuple", "list", "dict"], kitB a b = some (isiB a b) := by decide +kernel
theorem tyn_mem (d : D) : d.tyn ∈ ["NoneType", "bool", "int", "str", "tuple", "list", "dict"] := by cases d <;> simp [D.tyn]
/-- neither the script nor an instance -/
def D.noScr : D → Bool
  | .scr _ => false
  | .obj _ _ _ => false
  | .cls _ => false
  | .rng _ _ => false
  | _ => true
theorem ty_of {K : PySem.W.Frag} {c : Cf} {H : Hp} {v : V} {d : D} (r : R K (hid c.P H) v d) (h : d.noScr = true) : TyX K H v (.type d.tyn) := by
  cases r with
  | non => exact .base .non
  | bl b => exact .base (.bl b)
  | int b => exact .base (.int b)
  | str b => exact .base (.str b)
  | tup a s =>
    rcases hidT a with (a | ⟨o, a⟩) | ⟨o, its, n, e, h1, _⟩
    · exact .base (.tup a)
    · exact .fTuple a
    · exact .kTuple e h1
  | lst a s => exact .base (.lst (hidG a))
  | dic a s => exact .base (.dK (hidG a))
  | scr a => cases h
  | obj _ _ _ => cases h
  | cls _ => cases h
  | rng _ => cases h
def dIsi (n : String) (T : DTE) : DTE := fun E ρ K => T E ρ fun d => d.noScr = true ∧ K (.bl (isiB d.tyn n))
section
variable {X : Cx} {EX : XK} {e : Expr} {T : DTE} {pos p p2 : Pos} {x : Str} {n : String}
theorem d_isi (h : PDe X EX e T) (hm : X.mg "isinstance" = none) (hm2 : X.mg x = none) (hv2 : bootBuiltins x = some (.type n)) (hn : n ∈ ["bool", "int", "str", "tuple", "list", "dict"] := by decide) (hg : Gl X "isinstance" := by rfl) (hg2 : Gl X x := by rfl)
    (hnn : x ≠ "__name__" := by decide) (hd : (x == ("__debug__" : Str)) = false := by decide)
    (he : starEach [e, .Name x p2] X.env = (false, eval e X.env) :: starEach [.Name x p2] X.env := by rfl) (hpl : (backTo pos (starEach [.Name x p2] X.env)).any (·.1) = false := by rfl) (hs1 : starEach [.Name x p2] X.env = (false, eval (.Name x p2) X.env) :: starEach [] X.env := by rfl) :
    PDe X EX (.Call (.Name "isinstance" p) [e, .Name x p2] [] pos) (dIsi n T) := by
  refine peW (pe_callB call_isi hg hm (by decide +kernel) (pa_cons h (pa_cons (pe_bltn (v := .ty n) hg2 hm2 hv2 rfl hnn hd) pa_nil hs1) he) (by decide) (by decide) he hpl) fun σ H Q h => ?_
  obtain ⟨c, ρ, Kd, Ed, s, h, q⟩ := h
  refine ⟨c, ρ, _, Ed, s, h, fun d v H1 k e r => ?_⟩
  refine ⟨_, _, _, _, _, rfl, .ty n, ty_of r k.1, kit_ty (isi_all _ (tyn_mem d) n hn), q _ _ _ k.2 e (.bl _)⟩
end
/-! ### subscripts -/
section
variable {K : PySem.W.Frag}
def fIx (x y : D) (k : D → Prop) : Prop := match x, y with
  | .lst ds, .int i => (match atI ds i with | some d => k d | none => False)
  | .tup ds, .int i => (match atI ds i with | some d => k d | none => False)
  | .scr ns, .int i => (match atI ns i with | some d => k (.int d) | none => False)
  | .str z, .int i => z.length ≤ 1000000 ∧ (match atI z.cps.toList i with | some d => k (.str ⟨#[d]⟩) | none => False)
  | _, _ => False
theorem Rs.atI {H : Hp} {vs : List V} {ds : List D} {i : Int} {d : D} (r : Rs K H vs ds) (h : L2.atI ds i = some d) : ∃ v, L2.atI vs i = some v ∧ R K H v d := by
  unfold L2.atI at h ⊢
  rw [r.length]
  cases e : ixN ds.length i with
  | none => rw [e] at h; cases h
  | some j =>
    rw [e] at h
    obtain ⟨v, a, b⟩ := r.get (i := j) h
    exact ⟨v, a, b⟩
theorem od_ix : OpD K fIx (rIx K) := fun c H x y d1 d2 k Q hk r1 r2 h q => by
  unfold fIx at h
  split at h
  · split at h
    · rename_i d e
      cases r2
      cases r1 with
      | lst a s =>
        obtain ⟨v, e2, r⟩ := s.atI e
        exact .inl ⟨_, _, _, v, rfl, rfl, SqL.of (hidG a), e2, q _ _ _ h (Ext.refl _ _) r⟩
    · exact h.elim
  · split at h
    · rename_i d e
      cases r2
      cases r1 with
      | tup a s =>
        obtain ⟨v, e2, r⟩ := s.atI e
        exact .inr (.inl ⟨_, _, _, v, rfl, rfl, hidT a, e2, q _ _ _ h (Ext.refl _ _) r⟩)
    · exact h.elim
  · rename_i ns i
    split at h
    · rename_i d e
      cases r2
      cases r1 with
      | scr a =>
        refine .inl ⟨_, _, _, .int d, rfl, rfl, hidL a, ?_, q _ _ _ h (Ext.refl _ _) (.int _)⟩
        unfold L2.atI at e ⊢
        rw [List.length_map]
        cases e2 : ixN ns.length i with
        | none => rw [e2] at e; cases e
        | some j =>
          rw [e2] at e
          have e' : ns[j]? = some d := e
          show (ns.map V.int)[j]? = _
          rw [List.getElem?_map, e']
          rfl
    · exact h.elim
  · obtain ⟨h1, h⟩ := h
    split at h
    · rename_i d e
      cases r2
      cases r1
      exact .inr (.inr ⟨_, _, d, rfl, rfl, szL h1, e, q _ _ _ h (Ext.refl _ _) (.str _)⟩)
    · exact h.elim
  · exact h.elim
end
section
variable {X : Cx} {EX : XK} {a b e : Expr} {Ta Tb T : DTE} {pos p2 : Pos} {lo hi : Option Expr}
theorem d_ix (ha : PDe X EX a Ta) (hb : PDe X EX b Tb) (hs : PlainIx b := by exact fun _ _ => rfl) : PDe X EX (.Subscript a b pos) (dOp fIx Ta Tb) := peW (pe_ix ix_seq ha hb hs) fun _ _ _ h => two od_ix h
abbrev DTO := ED → Ev → (Option Int → Prop) → Prop
def tO (K : PySem.W.Frag) (EX : XK) (T : DTO) : TO := fun σ H Q => ∃ c ρ Kd Ed, St0 K EX c H σ ρ Ed ∧ T Ed ρ Kd ∧ ∀ o H', Kd o → Ext c.B H H' → Q o H'
abbrev PDo (X : Cx) (EX : XK) (e : Option Expr) (T : DTO) : Prop := PO X e (tO X.K EX T)
theorem poW {e : Option Expr} {t t' : TO} (h : PO X e t) (w : ∀ σ H Q, t' σ H Q → t σ H Q) : PO X e t' := ⟨fun pins s σ H Q I q => h.run pins s σ H Q I (w σ H Q q)⟩
def oNone : DTO := fun _ _ K => K none
def oSome (T : DTE) : DTO := fun E ρ K => T E ρ fun d => match d with | .int i => K (some i) | _ => False
theorem o_none : PDo X EX none oNone := poW po_none fun σ H Q h => by
  obtain ⟨c, ρ, Kd, Ed, s, h, q⟩ := h
  exact q _ _ h (Ext.refl _ _)
theorem o_some (h : PDe X EX e T) : PDo X EX (some e) (oSome T) := poW (po_some h) fun σ H Q h => by
  obtain ⟨c, ρ, Kd, Ed, s, h, q⟩ := h
  refine ⟨c, ρ, _, Ed, s, h, fun d v H1 k e r => ?_⟩
  cases r <;> first
    | exact k.elim
    | exact ⟨_, rfl, q _ _ k e⟩
def cutD {α : Type} (xs : List α) (lo hi : Option Int) : List α := (xs.drop (HT.sIx xs.length 0 lo)).take (HT.sIx xs.length xs.length hi - HT.sIx xs.length 0 lo)
theorem Rs.cut {K : PySem.W.Frag} {H : Hp} {vs : List V} {ds : List D} (r : Rs K H vs ds) (lo hi : Option Int) : Rs K H (cutV vs lo hi) (cutD ds lo hi) := by
  unfold cutV cutD
  rw [r.length]
  exact (r.drop _).take _
def fSl (x : D) (lo hi : Option Int) (k : D → Prop) : Prop := match x with
  | .lst ds => k (.lst (cutD ds lo hi))
  | .tup ds => k (.tup (cutD ds lo hi))
  | .scr ns => k (.lst ((cutD ns lo hi).map D.int))
  | _ => False
def dSl (T : DTE) (L U : DTO) : DTE := fun E ρ K => T E ρ fun d => L E ρ fun lo => U E ρ fun hi => fSl d lo hi K
theorem cut_map {α β : Type} (g : α → β) (xs : List α) (lo hi : Option Int) : cutD (xs.map g) lo hi = (cutD xs lo hi).map g := by
  unfold cutD
  rw [List.length_map, List.map_take, List.map_drop]
theorem d_slice {L U : DTO} (he : PDe X EX e T) (hl : PDo X EX lo L) (hu : PDo X EX hi U) : PDe X EX (.Subscript e (.Slice lo hi none p2) pos) (dSl T L U) :=
  peW (pe_slice (sl_list.or sl_tupA) he hl hu) fun σ H Q h => by
    obtain ⟨c, ρ, Kd, Ed, s, h, q⟩ := h
    refine ⟨c, ρ, _, Ed, s, h, fun d v H1 k e r => ⟨c, ρ, _, Ed, s.ext e, k, fun o1 H2 k2 e2 => ⟨c, ρ, _, Ed, (s.ext e).ext e2, k2, fun o2 H3 k3 e3 => ?_⟩⟩⟩
    have s2 := (s.ext e).ext e2
    have s3 := s2.ext e3
    have r3 := (r.mono ((s.ext e).k.sub e2)).mono (s2.k.sub e3)
    have e123 := (e.trans e2).trans e3
    unfold fSl at k3
    split at k3
    · rename_i ds
      cases r3 with
      | lst a t => exact .inl ⟨_, _, rfl, SqL.of (hidG a), fun p hp => q _ _ _ k3 (e123.trans (Ext.new hp s3.k.bag)) (newLst s3.k hp (t.cut o1 o2))⟩
    · rename_i ds
      cases r3 with
      | @tup a xs _ a1 t =>
        refine .inr ⟨_, _, rfl, hidT a1, fun z => ?_, fun z p hp => q _ _ _ k3 (e123.trans (Ext.new hp s3.k.bag)) (newTup s3.k hp (t.cut o1 o2))⟩
        have ec : cutD ds o1 o2 = ds := by
          unfold cutD
          rw [← t.length, z.1, z.2, List.drop_zero, Nat.sub_zero, t.length, List.take_length]
        rw [ec] at k3
        exact q _ _ _ k3 e123 (.tup a1 t)
    · cases r3 with
      | scr a =>
        refine .inl ⟨_, _, rfl, hidL a, fun p hp => q _ _ _ k3 (e123.trans (Ext.new hp s3.k.bag)) (newLst s3.k hp ?_)⟩
        have ec := cut_map V.int
        unfold cutD at ec
        unfold cutV
        rw [ec]
        exact Rs.of_ints _
    · exact k3.elim
end

/-- one more list is the body's own -/
def Cf.with (c : Cf) (p : Addr) : Cf := ⟨c.O, fun a => c.F a || decide (a = p), c.B⟩
theorem with_P (c : Cf) (p a : Addr) : (c.with p).P a = (c.P a || decide (a = p)) := by simp [Cf.with, Cf.P, Bool.or_assoc]
/-! ### statements -/
structure ES where
  nx : Ev → Prop
  rt : D → Prop
  /-- a new list is handed back -/
  rn : List D → Prop
  bk : Ev → Prop
  ct : Ev → Prop
  ex : ED
abbrev DTS := ES → Ev → Prop
structure EOk (K : PySem.W.Frag) (c : Cf) (H : Hp) (E : ES) (G : Ends) : Prop where
  nx : ∀ c' ρ' σ' H', E.nx ρ' → Step c c' H H' → Rep K c' H' σ' ρ' → Hk c' H' → G.nx σ' H'
  bk : ∀ c' ρ' σ' H', E.bk ρ' → Step c c' H H' → Rep K c' H' σ' ρ' → Hk c' H' → G.bk σ' H'
  ct : ∀ c' ρ' σ' H', E.ct ρ' → Step c c' H H' → Rep K c' H' σ' ρ' → Hk c' H' → G.ct σ' H'
  rt : ∀ c' d v H', E.rt d → Step c c' H H' → Hk c' H' → R K (hid c'.P H') v d → G.rt v H'
  rn : ∀ c' ds a xs H', E.rn ds → Step c c' H H' → Hk c' H' → H a = none → c'.P a = false → H' a = some (.lst xs) → Rs K (hid (c'.with a).P H') xs ds → G.rt (.ref a) H'
theorem EOk.step {K : PySem.W.Frag} {c c' : Cf} {H H' : Hp} {E : ES} {G : Ends} (h : EOk K c H E G) (s : Step c c' H H') : EOk K c' H' E G :=
  ⟨fun c2 ρ' σ' H2 a b => h.nx c2 ρ' σ' H2 a (s.trans b), fun c2 ρ' σ' H2 a b => h.bk c2 ρ' σ' H2 a (s.trans b), fun c2 ρ' σ' H2 a b => h.ct c2 ρ' σ' H2 a (s.trans b), fun c2 d v H2 a b => h.rt c2 d v H2 a (s.trans b), fun c2 ds x xs H2 a b k hn => h.rn c2 ds x xs H2 a (s.trans b) k (al_back s.al hn)⟩
def tS (K : PySem.W.Frag) (EX : XK) (T : DTS) : TS := fun G σ H => ∃ c ρ E, St0 K EX c H σ ρ E.ex ∧ T E ρ ∧ EOk K c H E G
abbrev PDs (X : Cx) (EX : XK) (st : Stmt) (T : DTS) : Prop := PS X st (tS X.K EX T)
abbrev PDb (X : Cx) (EX : XK) (st : List Stmt) (T : DTS) : Prop := PSs X st (tS X.K EX T)
theorem psW {X : Cx} {e : Stmt} {t t' : TS} (h : PS X e t) (w : ∀ G σ H, t' G σ H → t G σ H) : PS X e t' := ⟨fun pins s σ H Q I q => h.run pins s σ H Q I (w Q σ H q)⟩
theorem pssW {X : Cx} {e : List Stmt} {t t' : TS} (h : PSs X e t) (w : ∀ G σ H, t' G σ H → t G σ H) : PSs X e t' := ⟨fun pins s σ H Q I q => h.run pins s σ H Q I (w Q σ H q)⟩
abbrev DTG := D → Ev → (Ev → Prop) → Prop
abbrev DTGs := List D → Ev → (Ev → Prop) → Prop
/-- but for the slots of js -/
def Ag (js : List Nat) (σ σ' : L2.St) : Prop := σ'.length = σ.length ∧ ∀ j, j ∉ js → σ'[j]? = σ[j]?
theorem Ag.refl (js : List Nat) (σ : L2.St) : Ag js σ σ := ⟨rfl, fun _ _ => rfl⟩
theorem Ag.trans {js : List Nat} {σ σ1 σ2 : L2.St} (a : Ag js σ σ1) (b : Ag js σ1 σ2) : Ag js σ σ2 := ⟨b.1.trans a.1, fun j h => (b.2 j h).trans (a.2 j h)⟩
theorem Ag.mono {js ks : List Nat} {σ σ' : L2.St} (a : Ag js σ σ') (h : ∀ j ∈ js, j ∈ ks) : Ag ks σ σ' := ⟨a.1, fun j hj => a.2 j fun z => hj (h j z)⟩
def tG (K : PySem.W.Frag) (js : List Nat) (T : DTG) : TG := fun v σ H Q => ∃ c ρ k d, Rep K c H σ ρ ∧ Hk c H ∧ R K (hid c.P H) v d ∧ T d ρ k ∧ ∀ ρ' σ', k ρ' → Rep K c H σ' ρ' → Ag js σ σ' → Q σ' H
def tGs (K : PySem.W.Frag) (js : List Nat) (T : DTGs) : TGs := fun vs σ H Q => ∃ c ρ k ds, Rep K c H σ ρ ∧ Hk c H ∧ Rs K (hid c.P H) vs ds ∧ T ds ρ k ∧ ∀ ρ' σ', k ρ' → Rep K c H σ' ρ' → Ag js σ σ' → Q σ' H
abbrev PDg (X : Cx) (js : List Nat) (e : Expr) (T : DTG) : Prop := PG X e (tG X.K js T)
abbrev PDgs (X : Cx) (js : List Nat) (e : List Expr) (T : DTGs) : Prop := PGs X e (tGs X.K js T)
theorem pgW {X : Cx} {e : Expr} {t t' : TG} (h : PG X e t) (w : ∀ v σ H Q, t' v σ H Q → t v σ H Q) : PG X e t' := ⟨fun pins s σ H v u Q I r q => h.run pins s σ H v u Q I r (w v σ H Q q)⟩
theorem pgsW {X : Cx} {e : List Expr} {t t' : TGs} (h : PGs X e t) (w : ∀ v σ H Q, t' v σ H Q → t v σ H Q) : PGs X e t' := ⟨fun pins s σ H v u Q I r q => h.run pins s σ H v u Q I r (w v σ H Q q)⟩
section
variable {X : Cx} {EX : XK} {a b e c tg iter : Expr} {es : List Expr} {Ta Tb T : DTE} {Tt Tu : DTT} {Tv : DTV} {G : DTG} {Gs : DTGs} {pos pos' : Pos} {st : Stmt} {sts body els : List Stmt} {S U : DTS} {x : Str} {js ks : List Nat}
def gN (i : Nat) : DTG := fun d ρ k => k (ρ.set i (some (.val d)))
theorem g_name (i : Nat) (hN : X.N.Nodup) (hi : X.N[i]? = some x := by rfl) (hx : Loc X.env.scope x := by first | exact .inl rfl | exact .inr rfl) (hf : X.fn x = true ∨ X.env.scope.names.lookup x = some .local := by first | exact .inl rfl | exact .inr rfl | assumption) : PDg X [i] (.Name x pos) (gN i) :=
  pgW (pg_name hN hi hx hf) fun v σ H Q h => by
    obtain ⟨c, ρ, k, d, r, hk, rv, h, q⟩ := h
    exact q _ _ h (r.set rv) ⟨List.length_set, fun j hj => List.getElem?_set_ne fun z => hj (by simp [z])⟩
def gsN : DTGs := fun ds ρ k => match ds with
  | [] => k ρ
  | _ => False
def gsC (G : DTG) (Gs : DTGs) : DTGs := fun ds ρ k => match ds with
  | d :: ds => G d ρ fun ρ' => Gs ds ρ' k
  | _ => False
theorem gs_nil : PDgs X [] [] gsN := pgsW pgs_nil fun v σ H Q h => by
  obtain ⟨c, ρ, k, d, r, hk, rv, h, q⟩ := h
  cases rv with
  | nil => exact ⟨rfl, q _ _ h r (.refl _ _)⟩
  | cons _ _ => exact h.elim
theorem gs_cons (h1 : PDg X js e G) (h2 : PDgs X ks es Gs) (hs : (assignEach (e :: es) X.env).map (·.2) = assign e X.env :: (assignEach es X.env).map (·.2) := by rfl) : PDgs X (js ++ ks) (e :: es) (gsC G Gs) := pgsW (pgs_cons h1 h2 hs) fun v σ H Q h => by
  obtain ⟨c, ρ, k, d, r, hk, rv, h, q⟩ := h
  cases rv with
  | nil => exact h.elim
  | cons a t => exact ⟨_, _, rfl, c, ρ, _, _, r, hk, a, h, fun ρ' σ' k' r' g1 => ⟨c, ρ', k, _, r', hk, t, k', fun ρ2 σ2 k2 r2 g2 => q ρ2 σ2 k2 r2 ((g1.mono fun j h => List.mem_append_left _ h).trans (g2.mono fun j h => List.mem_append_right _ h))⟩⟩
def gT (n : Nat) (Gs : DTGs) : DTG := fun d ρ k => match d with
  | .tup ds => ds.length = n ∧ Gs ds ρ k
  | _ => False
theorem g_tup {kk n : Nat} (hc : X.calm = true) (h : PDgs X js es Gs) (hn : (assignEach es X.env).length = n := by rfl) (hst : (assignEach es X.env).findIdx? (·.1) = none := by rfl) : PDg X js (.Tuple es kk pos) (gT n Gs) :=
  pgW (pg_tup hc h hn hst) fun v σ H Q h => by
    obtain ⟨c, ρ, k, d, r, hk, rv, h, q⟩ := h
    cases rv with
    | tup a s => exact ⟨_, _, rfl, hidT a, s.length.trans h.1, c, ρ, k, _, r, hk, s, h.2, q⟩
    | _ => exact h.elim
/-! assignments -/
def sAsg (T : DTE) (G : DTG) : DTS := fun E ρ => T E.ex ρ fun d => G d ρ E.nx
theorem asg_of {σ : L2.St} {H : Hp} {D0 : Ends} (h : tS X.K EX (sAsg T G) D0 σ H) : tAsg (tD X.K EX T) (tG X.K js G) D0 σ H := by
  obtain ⟨c, ρ, E, s, h, q⟩ := h
  refine ⟨c, ρ, _, _, s, h, fun d v H1 k e r => ?_⟩
  have s1 := s.ext e
  exact ⟨c, ρ, _, d, s1.r, s1.k, r, k, fun ρ' σ' k' r' _ => q.nx c ρ' σ' H1 k' (.of e) r' s1.k⟩
theorem s_asg (he : PDe X EX e T) (hg : PDg X js tg G) (hs : swapsWithSole [tg] e pos.line X.env = pure false := by rfl) (hw : swappedStores [tg] e X.env = pure none := by rfl) (h1 : (assignEach [tg] X.env).map (·.2) = [assign tg X.env] := by rfl) : PDs X EX (.Assign [tg] e pos) (sAsg T G) :=
  psW (ps_asg he hg hs hw h1) fun _ _ _ h => asg_of h
theorem s_set (i : Nat) (hN : X.N.Nodup) (he : PDe X EX e T) (hi : X.N[i]? = some x := by rfl) (hx : Loc X.env.scope x := by first | exact .inl rfl | exact .inr rfl) (hs : swapsWith e (some (.Name x pos')) pos.line X.env = pure false := by rfl) (hf : X.fn x = true ∨ X.env.scope.names.lookup x = some .local := by first | exact .inl rfl | exact .inr rfl | assumption) :
    PDs X EX (.Assign [.Name x pos'] e pos) (sAsg T (gN i)) := psW (ps_set hN hi hx he hs hf) fun D0 σ H h => by
  obtain ⟨c, ρ, E, s, h, q⟩ := h
  refine ⟨c, ρ, _, _, s, h, fun d v H1 k e r => ?_⟩
  have s1 := s.ext e
  exact q.nx c _ _ H1 k (.of e) (s1.r.set r) s1.k
def sPar (i j : Nat) (Ta Tb : DTE) : DTS := fun E ρ => Ta E.ex ρ fun d => Tb E.ex ρ fun e => E.nx ((ρ.set i (some (.val d))).set j (some (.val e)))
theorem s_par (i j : Nat) {y : Str} {px py pt : Pos} {kt k2 : Nat} {pt2 : Pos} (hc : X.calm = true) (hN : X.N.Nodup) (ha : PDe X EX a Ta) (hb : PDe X EX b Tb) (hi : X.N[i]? = some x := by rfl) (hj : X.N[j]? = some y := by rfl) (hij : i ≠ j := by decide)
    (hx : X.env.scope.names.lookup x = some .local := by rfl) (hy : X.env.scope.names.lookup y = some .local := by rfl) (h1 : starEach [a, b] X.env = (false, eval a X.env) :: starEach [b] X.env := by rfl) (h2 : starEach [b] X.env = (false, eval b X.env) :: starEach [] X.env := by rfl)
    (hw : swappedStores [.Tuple [.Name x px, .Name y py] kt pt] (.Tuple [a, b] k2 pt2) X.env = pure (some [x, y]) := by rfl)
    (hs : swapsWithSole [.Tuple [.Name x px, .Name y py] kt pt] (.Tuple [a, b] k2 pt2) pos.line X.env = pure false := by rfl) :
    PDs X EX (.Assign [.Tuple [.Name x px, .Name y py] kt pt] (.Tuple [a, b] k2 pt2) pos) (sPar i j Ta Tb) := psW (ps_par hc hN hi hj hij hx hy (pa_cons ha (pa_cons hb pa_nil h2) h1) hw hs) fun D0 σ H h => by
  obtain ⟨c, ρ, E, s, h, q⟩ := h
  refine ⟨c, ρ, _, _, s, h, fun d v H1 k e r => ?_⟩
  have s1 := s.ext e
  refine ⟨c, ρ, _, _, s1, k, fun d2 v2 H2 k2 e2 r2 => ?_⟩
  have s2 := s1.ext e2
  exact ⟨_, _, rfl, q.nx c _ _ H2 k2 (.of (e.trans e2)) ((s2.r.set (r.mono (s1.k.sub e2))).set r2) s2.k⟩
def sRet (T : DTE) : DTS := fun E ρ => T E.ex ρ E.rt
theorem s_ret (h : PDe X EX e T) : PDs X EX (.Return (some e) pos) (sRet T) := psW (ps_ret h) fun D0 σ H h => by
  obtain ⟨c, ρ, E, s, h, q⟩ := h
  exact ⟨c, ρ, _, _, s, h, fun d v H1 k e r => q.rt c d v H1 k (.of e) (s.ext e).k r⟩
def sRetN : DTS := fun E _ => E.rt .non
theorem s_retN : PDs X EX (.Return none pos) sRetN := psW ps_retN fun D0 σ H h => by
  obtain ⟨c, ρ, E, s, h, q⟩ := h
  exact q.rt c .non _ H h (.refl _ _) s.k .non
def sDrop (T : DTE) : DTS := fun E ρ => T E.ex ρ fun _ => E.nx ρ
theorem s_expr (h : PDe X EX e T) (hs : swapsWith e none pos.line X.env = pure false := by rfl) : PDs X EX (.Expr e pos) (sDrop T) := psW (ps_expr h hs) fun D0 σ H h => by
  obtain ⟨c, ρ, E, s, h, q⟩ := h
  exact ⟨c, ρ, _, _, s, h, fun d v H1 k e r => q.nx c ρ σ H1 k (.of e) (s.ext e).r (s.ext e).k⟩
def sPass : DTS := fun E ρ => E.nx ρ
theorem s_pass : PDs X EX (.Pass pos) sPass := psW ps_pass fun D0 σ H h => by
  obtain ⟨c, ρ, E, s, h, q⟩ := h
  exact q.nx c ρ σ H h (.refl _ _) s.r s.k
def sBreak : DTS := fun E ρ => E.bk ρ
theorem s_break : PDs X EX (.Break pos) sBreak := psW ps_break fun D0 σ H h => by
  obtain ⟨c, ρ, E, s, h, q⟩ := h
  exact q.bk c ρ σ H h (.refl _ _) s.r s.k
def sCont : DTS := fun E ρ => E.ct ρ
theorem s_continue : PDs X EX (.Continue pos) sCont := psW ps_continue fun D0 σ H h => by
  obtain ⟨c, ρ, E, s, h, q⟩ := h
  exact q.ct c ρ σ H h (.refl _ _) s.r s.k
def sNever : DTS := fun _ _ => False
theorem s_never : PDs X EX st sNever := psW ps_never fun D0 σ H h => by
  obtain ⟨c, ρ, E, s, h, q⟩ := h
  exact h
theorem b_never : PDb X EX sts sNever := pssW pss_never fun D0 σ H h => by
  obtain ⟨c, ρ, E, s, h, q⟩ := h
  exact h
theorem b_nil : PDb X EX [] sPass := pssW pss_nil fun D0 σ H h => by
  obtain ⟨c, ρ, E, s, h, q⟩ := h
  exact q.nx c ρ σ H h (.refl _ _) s.r s.k
def sSeq (S U : DTS) : DTS := fun E ρ => S { E with nx := fun ρ' => U E ρ' } ρ
theorem b_cons (h1 : PDs X EX st S) (h2 : PDb X EX sts U) : PDb X EX (st :: sts) (sSeq S U) := pssW (pss_cons h1 h2) fun D0 σ H h => by
  obtain ⟨c, ρ, E, s, h, q⟩ := h
  refine ⟨c, ρ, { E with nx := fun ρ' => U E ρ' }, s, h, ⟨fun c' ρ' σ' H' k st r hk => ?_, q.bk, q.ct, q.rt, q.rn⟩⟩
  exact ⟨c', ρ', E, ⟨r, hk, s.x.step st⟩, k, q.step st⟩
theorem b_one (h1 : PDs X EX st S) : PDb X EX [st] S := pss_one h1
def sIf (Tt : DTT) (S U : DTS) : DTS := fun E ρ => Tt E.ex ρ fun k => (k = true → S E ρ) ∧ (k = false → U E ρ)
theorem s_if (hc : PDt X EX c Tt) (ha : PDb X EX body S) (hb : PDb X EX els U) : PDs X EX (.If c body els pos) (sIf Tt S U) := psW (ps_if hc ha hb) fun D0 σ H h => by
  obtain ⟨c, ρ, E, s, h, q⟩ := h
  refine ⟨c, ρ, _, _, s, h, fun d H1 k e => ?_⟩
  have s1 := s.ext e
  cases d with
  | true => exact iteT ⟨c, ρ, E, s1, k.1 rfl, q.step (.of e)⟩
  | false => exact iteF ⟨c, ρ, E, s1, k.2 rfl, q.step (.of e)⟩
/-! a while -/
def sWhile (Tt : DTT) (S : DTS) : DTS := fun E ρ => ∃ W : Nat → Ev → Prop, (∃ m, W m ρ) ∧ ∀ m ρ', W m ρ' → Tt E.ex ρ' fun k => (k = false → E.nx ρ') ∧
  (k = true → S { E with nx := fun ρ2 => ∃ m', m' < m ∧ W m' ρ2, ct := fun ρ2 => ∃ m', m' < m ∧ W m' ρ2, bk := E.nx } ρ')
theorem s_while (hp : PassesOwn (model X.prog X.w) X.A X.env X.xe) (hc : PDt X EX c Tt) (hb : PDb X EX body S) : PDs X EX (.While c body [] pos) (sWhile Tt S) := psW (ps_while hp hc hb) fun D0 σ H h => by
  obtain ⟨c, ρ, E, s, ⟨W, ⟨m0, w0⟩, turn⟩, q⟩ := h
  refine ⟨fun m σ' H' => ∃ c' ρ', W m ρ' ∧ Step c c' H H' ∧ Rep X.K c' H' σ' ρ' ∧ Hk c' H', ⟨m0, c, ρ, w0, .refl _ _, s.r, s.k⟩, ?_⟩
  rintro m σ' H' ⟨c', ρ', w1, st, r1, k1⟩
  have s1 : St0 X.K EX c' H' σ' ρ' E.ex := ⟨r1, k1, s.x.step st⟩
  refine ⟨c', ρ', _, _, s1, turn m ρ' w1, fun k H2 kk e => ?_⟩
  have s2 := s1.ext e
  have st2 := st.trans (.of e)
  cases k with
  | true =>
    refine iteT ⟨_, fun σ3 H3 h3 => h3, c', ρ', { E with nx := fun ρ2 => ∃ m', m' < m ∧ W m' ρ2, ct := fun ρ2 => ∃ m', m' < m ∧ W m' ρ2, bk := E.nx }, s2, kk.2 rfl, ⟨fun c4 ρ4 σ4 H4 h4 t4 r4 k4 => ?_, fun c4 ρ4 σ4 H4 h4 t4 r4 k4 => ?_, fun c4 ρ4 σ4 H4 h4 t4 r4 k4 => ?_, (q.step st2).rt, (q.step st2).rn⟩⟩
    · obtain ⟨m', l, w'⟩ : ∃ m', m' < m ∧ W m' ρ4 := h4
      exact ⟨m', l, c4, ρ4, w', st2.trans t4, r4, k4⟩
    · exact q.nx c4 ρ4 σ4 H4 h4 (st2.trans t4) r4 k4
    · obtain ⟨m', l, w'⟩ : ∃ m', m' < m ∧ W m' ρ4 := h4
      exact ⟨m', l, c4, ρ4, w', st2.trans t4, r4, k4⟩
  | false => exact iteF (q.nx c' ρ' σ' H2 (kk.1 rfl) st2 s2.r s2.k)
/-! what is walked -/
/-- from H on, J gives the data ds -/
structure WalkD (K : PySem.W.Frag) (c : Cf) (H : Hp) (ds : List D) (J : It) (G : Hp → Prop) (Y : Nat → Hp → V → Hp → Prop) : Prop where
  w : Walk J ds.length G Y
  g : ∀ c2 H2, Step c c2 H H2 → Hk c2 H2 → G H2
  y : ∀ (i : Nat) c2 H2 x H3, i < ds.length → Step c c2 H H2 → Hk c2 H2 → Y i H2 x H3 → ∃ d, ds[i]? = some d ∧ Ext c2.B H2 H3 ∧ R K (hid c2.P H3) x d
abbrev DTI := ED → Ev → (List D → Prop) → Prop
def tI (K : PySem.W.Frag) (EX : XK) (T : DTI) : TI := fun σ H Q => ∃ c ρ Kd Ed, St0 K EX c H σ ρ Ed ∧ T Ed ρ Kd ∧ ∀ ds H' J G Y, Kd ds → Ext c.B H H' → WalkD K c H' ds J G Y → Q J H'
abbrev PDi (X : Cx) (EX : XK) (tg e : Expr) (T : DTI) : Prop := PI X tg e (tI X.K EX T)
theorem piW {X : Cx} {tg e : Expr} {t t' : TI} (h : PI X tg e t) (w : ∀ σ H Q, t' σ H Q → t σ H Q) : PI X tg e t' := ⟨fun pins s σ H Q I q => h.run pins s σ H Q I (w σ H Q q)⟩
theorem walkL {K : PySem.W.Frag} {c : Cf} {H : Hp} {a : Addr} {xs : List V} {ds : List D} (k : Hk c H) (h : SqL K (hid c.P H) a xs) (r : Rs K (hid c.P H) xs ds) : WalkD K c H ds (Itl K a) (fun H => SqL K H a xs) (YAt xs) := by
  refine ⟨by rw [← r.length]; exact walk_list, fun c2 H2 s k2 => hidL ((s.sub k).sl h), fun i c2 H2 x H3 hi s k2 y => ?_⟩
  obtain ⟨rfl, y⟩ := y
  obtain ⟨d, e, rd⟩ := r.getV y
  exact ⟨d, e, Ext.refl _ _, rd.mono (s.sub k)⟩
theorem walkT {K : PySem.W.Frag} {c : Cf} {H : Hp} {a : Addr} {xs : List V} {ds : List D} (k : Hk c H) (h : SqT K (hid c.P H) a xs) (r : Rs K (hid c.P H) xs ds) : WalkD K c H ds (Itt K a) (fun H => SqT K H a xs) (YAt xs) := by
  refine ⟨by rw [← r.length]; exact walk_tup, fun c2 H2 s k2 => hidT ((s.sub k).st h), fun i c2 H2 x H3 hi s k2 y => ?_⟩
  obtain ⟨rfl, y⟩ := y
  obtain ⟨d, e, rd⟩ := r.getV y
  exact ⟨d, e, Ext.refl _ _, rd.mono (s.sub k)⟩
/-- a list or a tuple -/
def iSeq (T : DTE) : DTI := fun E ρ K => T E ρ fun d => match d with
  | .lst ds => K ds
  | .tup ds => K ds
  | .scr ns => K (ns.map D.int)
  | _ => False
def iAny (K : PySem.W.Frag) (tl : TE) : TI := fun σ H R => tl σ H fun x H1 => ∃ a, x = .ref a ∧ (((∃ xs, SqL K H1 a xs) ∧ R (Itl K a) H1) ∨ ((∃ xs, SqT K H1 a xs) ∧ R (Itt K a) H1))
theorem pi_any {tl : TE} (hl : PE X e tl) : PI X tg e (iAny X.K tl) := ⟨fun pins s σ H R0 I h => thn (hl.run pins s σ H _ I h) fun v s1 ⟨x, H1, I1, r1, q1⟩ => by
  obtain ⟨a, rfl, q1⟩ := q1
  cases r1
  have frs : ∀ b ∈ [s1.heap.objs.size], FpOk X pins H1 b := fun b hb => by
    have eb : b = s1.heap.objs.size := by simpa using hb
    rw [eb]; exact I1.fpOk (Nat.le_refl _) (I1.hok.fresh (Nat.le_refl _))
  rcases q1 with ⟨⟨xs, hq⟩, q⟩ | ⟨⟨xs, hq⟩, q⟩
  · obtain ⟨us, rv, pl, _⟩ := I1.list hq
    exact wpAny_pyIter_list pl.isList ⟨_, _, _, _, H1, rfl, I1.kept (t' := s1.toks) fun _ _ z => Heap.get?_push_of_some _ z, turn_list a _, ⟨_, Heap.get?_push_size _ rfl, rfl, rfl⟩, frs, q⟩
  · obtain ⟨us, rv, pl, _⟩ := I1.tuple hq
    exact wpAny_pyIter_tuple (show s1.heap.IsTuple a us.toArray from pl) ⟨_, _, _, _, H1, rfl, I1.kept (t' := s1.toks) fun _ _ z => Heap.get?_push_of_some _ z, turn_tuple a _, ⟨_, Heap.get?_push_size _ rfl, rfl, rfl⟩, frs, q⟩⟩
theorem i_seq (h : PDe X EX e T) : PDi X EX tg e (iSeq T) := piW (pi_any h) fun σ H Q h => by
  obtain ⟨c, ρ, Kd, Ed, s, h, q⟩ := h
  refine ⟨c, ρ, _, Ed, s, h, fun d v H1 k e r => ?_⟩
  have s1 := s.ext e
  cases r with
  | lst a t => exact ⟨_, rfl, .inl ⟨⟨_, SqL.of (hidG a)⟩, q _ _ _ _ _ k e (walkL s1.k (SqL.of a) t)⟩⟩
  | tup a t => exact ⟨_, rfl, .inr ⟨⟨_, hidT a⟩, q _ _ _ _ _ k e (walkT s1.k a t)⟩⟩
  | scr a => exact ⟨_, rfl, .inl ⟨⟨_, hidL a⟩, q _ _ _ _ _ k e (walkL s1.k a (Rs.of_ints _))⟩⟩
  | _ => exact k.elim
def rngD (lo : Int) (n : Nat) : List D := (List.range n).map fun i : Nat => .int (lo + i)
theorem walkR {K : PySem.W.Frag} {c : Cf} {H : Hp} {lo : Int} {n : Nat} : WalkD K c H (rngD lo n) (Itr lo n) (fun _ => True) (YFn fun i => .int (lo + i)) := by
  have hl : (rngD lo n).length = n := by simp [rngD]
  refine ⟨by rw [hl]; exact walk_range, fun _ _ _ _ => trivial, fun i c2 H2 x H3 hi s k2 y => ?_⟩
  obtain ⟨rfl, rfl⟩ := y
  rw [hl] at hi
  exact ⟨.int (lo + i), by simp [rngD, hi], Ext.refl _ _, .int _⟩
def iR1 (T : DTE) : DTI := fun E ρ K => T E ρ fun d => match d with
  | .int j => -(2 ^ 62) ≤ j ∧ j < 2 ^ 62 ∧ K (rngD 0 j.toNat)
  | _ => False
theorem i_range1 {p : Pos} (h : PDe X EX a T) (hm : X.mg "range" = none) (hg : Gl X "range" := by rfl) (hs : starEach [a] X.env = [(false, eval a X.env)] := by rfl) (hs' : starEach [a] X.env = (false, eval a X.env) :: starEach [] X.env := by rfl) : PDi X EX tg (.Call (.Name "range" p) [a] [] pos) (iR1 T) :=
  piW (pi_range1 hg hm (pa_cons h pa_nil hs') hs) fun σ H Q h => by
    obtain ⟨c, ρ, Kd, Ed, s, h, q⟩ := h
    refine ⟨c, ρ, _, Ed, s, h, fun d v H1 k e r => ?_⟩
    cases r with
    | int j => exact ⟨_, rfl, k.1, k.2.1, q _ _ _ _ _ k.2.2 e walkR⟩
    | _ => exact k.elim
/-! a for -/
def forD (G : DTG) (S : DTS) (E : ES) : List D → Ev → Prop
  | [], ρ => E.nx ρ
  | d :: ds, ρ => G d ρ fun ρ1 => S { E with nx := fun ρ2 => forD G S E ds ρ2, ct := fun ρ2 => forD G S E ds ρ2, bk := E.nx } ρ1
def sFor (I : DTI) (G : DTG) (S : DTS) : DTS := fun E ρ => I E.ex ρ fun ds => forD G S E ds ρ
theorem s_for {I : DTI} (hp : PassesOwn (model X.prog X.w) X.A X.env X.xe) (hc : X.calm = true) (hi : PDi X EX tg iter I) (hg : PDg X js tg G) (hb : PDb X EX body S) (hs : ∀ x, foldedSetIterable iter X.env x = pure x := by intro _; rfl) :
    PDs X EX (.For tg iter body [] pos) (sFor I G S) := psW (ps_for hp hc hi hg hb hs) fun D0 σ H h => by
  obtain ⟨c, ρ, E, s, h, q⟩ := h
  refine ⟨c, ρ, _, _, s, h, fun ds H1 J G0 Y k e w => ?_⟩
  have s1 := s.ext e
  refine for_it w.w (fun i σ' H' => ∃ c' ρ', forD G S E (ds.drop i) ρ' ∧ Step c c' H1 H' ∧ Rep X.K c' H' σ' ρ' ∧ Hk c' H') ⟨c, ρ, k, .refl _ _, s1.r, s1.k⟩ (fun i σ' H' _ ⟨c', ρ', _, st, _, hk⟩ => w.g c' H' st hk) ?_ ?_
  · rintro i x σ' H2 H3 hi ⟨c', ρ', hf, st, r2, k2⟩ y
    obtain ⟨d, e1, e3, rd⟩ := w.y i c' H2 x H3 hi st k2 y
    have ed : ds.drop i = d :: ds.drop (i + 1) := by
      obtain ⟨hl, e1⟩ := List.getElem?_eq_some_iff.mp e1
      rw [← e1]
      exact List.drop_eq_getElem_cons hl
    rw [ed] at hf
    have st3 := st.trans (Step.of e3)
    have k3 := k2.ext e3
    refine ⟨c', ρ', _, d, r2.ext k2 e3, k3, rd, hf, fun ρ4 σ4 h4 r4 _ => ⟨c', ρ4, { E with nx := fun ρ2 => forD G S E (ds.drop (i + 1)) ρ2, ct := fun ρ2 => forD G S E (ds.drop (i + 1)) ρ2, bk := E.nx }, ⟨r4, k3, (s1.x.step st).ext e3⟩, h4, ?_⟩⟩
    have q3 := (q.step (.of e)).step st3
    exact ⟨fun c5 ρ5 σ5 H5 h5 t5 r5 k5 => ⟨c5, ρ5, h5, st3.trans t5, r5, k5⟩, fun c5 ρ5 σ5 H5 h5 t5 r5 k5 => q3.nx c5 ρ5 σ5 H5 h5 t5 r5 k5, fun c5 ρ5 σ5 H5 h5 t5 r5 k5 => ⟨c5, ρ5, h5, st3.trans t5, r5, k5⟩, q3.rt, q3.rn⟩
  · rintro σ' H2 ⟨c', ρ', hf, st, r2, k2⟩
    rw [List.drop_length] at hf
    exact (q.step (.of e)).nx c' ρ' σ' H2 hf st r2 k2
end
/-! ### calls of defs -/
def Cf.cal (c : Cf) : Cf := ⟨c.P, fun _ => false, c.B⟩
theorem cal_P (c : Cf) : c.cal.P = c.P := funext fun a => by simp [Cf.cal, Cf.P]
theorem As.cal {K : PySem.W.Frag} {c : Cf} {H : Hp} : ∀ {vs : List V} {ss : List Sl}, As K c H vs ss → As K c.cal H vs ss
  | _, _, .nil => .nil
  | _, _, .cons (s := s) h t => .cons (by
      cases s with
      | val d => show R K (hid c.cal.P H) _ d; rw [cal_P]; exact h
      | own d => exact h
      | bag => exact h) t.cal
theorem Hk.cal {c : Cf} {H : Hp} (k : Hk c H) : Hk c.cal H := ⟨fun a h => by
    have q := k.bo a h
    show c.P a = true
    simp [Cf.P, q], k.bag, fun a h => by rw [cal_P] at h; exact k.al a h, fun a h => by cases h⟩
theorem Exs.cal {K : PySem.W.Frag} {EX : XK} {c : Cf} {H : Hp} {Ed : ED} (h : Exs K EX c H Ed) (k : Hk c H) : Exs K EX c.cal H Ed := fun x dx c2 H2 a st k2 r => by
  -- what was the caller's own is its own again
  have hcF : ∀ a, c.F a = true → c2.O a = true := fun a h => st.o a (by show (c.O a || c.F a) = true; rw [h]; simp)
  have hcO : ∀ a, c.O a = true → c2.O a = true := fun a h => st.o a (by show (c.O a || c.F a) = true; rw [h]; simp)
  have eP : (Cf.mk (fun a => c2.O a && !c.F a) (fun a => c.F a || c2.F a) c2.B).P = c2.P := funext fun a => by
    show ((c2.O a && !c.F a) || (c.F a || c2.F a)) = (c2.O a || c2.F a)
    cases e : c.F a with
    | true => rw [hcF a e]; simp
    | false => simp
  have hB : ∀ a, c.B a = true → c.F a = false := fun a h => by
    cases e : c.F a with
    | false => rfl
    | true =>
      have z := k.fo a e
      rw [k.bo a h] at z
      cases z
  refine h x dx ⟨fun a => c2.O a && !c.F a, fun a => c.F a || c2.F a, c2.B⟩ H2 a ⟨fun a h => ?_, fun a h => ?_, st.b, st.b', fun a h => ?_, fun a o hb _ he => st.keep a o hb rfl he, st.al⟩ ⟨fun a h => ?_, k2.bag, fun a h => ?_, fun a h => ?_⟩ (by rw [eP]; exact r)
  · show (c2.O a && !c.F a) = true
    rw [hcO a h]
    cases e : c.F a with
    | false => rfl
    | true =>
      have z := k.fo a e
      rw [h] at z
      cases z
  · obtain ⟨h1, h2⟩ := Bool.and_eq_true_iff.mp h
    rcases st.o' a h1 with z | z
    · have z' : (c.O a || c.F a) = true := z
      simp only [Bool.not_eq_true'] at h2
      rw [h2] at z'
      exact .inl (by simpa using z')
    · exact .inr z
  · rcases Bool.or_eq_true_iff.mp h with h | h
    · exact .inl h
    · rcases st.f a h with z | z
      · cases z
      · exact .inr z
  · show (c2.O a && !c.F a) = true
    rw [k2.bo a h]
    cases e : c.F a with
    | false => rfl
    | true =>
      rcases st.b' a h with z | z
      · rw [hB a z] at e
        cases e
      · obtain ⟨o, q⟩ := k.al a (by show (c.O a || c.F a) = true; rw [e]; simp)
        rw [z] at q
        cases q
  · rw [eP] at h
    exact k2.al a h
  · show (c2.O a && !c.F a) = false
    have h' : (c.F a || c2.F a) = true := h
    cases e : c.F a with
    | true => simp
    | false =>
      rw [e] at h'
      rw [k2.fo a (by simpa using h')]
      rfl
abbrev DSp := ED → List Sl → (D → Prop) → Prop
/-- a def's promise by data: n parameters -/
def spD (K : PySem.W.Frag) (n : Nat) (T : DSp) : Sp := fun vs H Q E => ∃ c ss Kd Ed, (∀ a, c.F a = false) ∧ ss.length = n ∧ As K c H vs ss ∧ Hk c H ∧ Exs K E c H Ed ∧ T Ed ss Kd ∧ ∀ d v H', Kd d → Ext c.B H H' → R K (hid c.P H') v d → Q v H'
theorem As.length {K : PySem.W.Frag} {c : Cf} {H : Hp} : ∀ {vs : List V} {ss : List Sl}, As K c H vs ss → vs.length = ss.length
  | _, _, .nil => rfl
  | _, _, .cons _ t => congrArg (· + 1) t.length
theorem spD_len {K : PySem.W.Frag} {n : Nat} {T : DSp} {vs : List V} {H : Hp} {Q : VK} {E : XK} (h : spD K n T vs H Q E) : vs.length = n := by
  obtain ⟨c, ss, Kd, Ed, _, hl, ha, _⟩ := h
  rw [ha.length, hl]
/-- a promise by positional values, kept where no repr is on its way -/
def FnG (P : Program) (w : World) (K : PySem.W.Frag) (mg : Str → Option Value) (base : Heap) (CX : CXT) (k : Nat) (f : Addr) (sp : Sp) : Prop :=
  ∀ (A : Around) (outer : List Env) (s : Shared) (H : Hp) (us : List Value) (vs : List V) (Q : VK) (E : XK), A.guards = some [] → Room k A → Env0 P w K mg base A outer s H → Vals vs us → sp vs H Q E →
    codeAny (model P w) A (.call (.ref f) ⟨us, []⟩) (CR CX outer P w H s Q E) s
theorem FnG.mono {P : Program} {w : World} {K : PySem.W.Frag} {mg : Str → Option Value} {base : Heap} {CX : CXT} {j k : Nat} {f : Addr} {sp : Sp} (F : FnG P w K mg base CX j f sp) (h : j ≤ k) : FnG P w K mg base CX k f sp :=
  fun A outer s H us vs Q E hg hr => F A outer s H us vs Q E hg (hr.mono h)
theorem run_g {X : Cx} {pins : List (Addr × Obj)} {σ : L2.St} {H : Hp} {s : Shared} {CX : CXT} {k : Nat} {f : Addr} {sp : Sp} {E : XK} {Q : VK} {us : List Value} {vs : List V} (F : FnG X.prog X.w X.K X.mg X.base CX k f sp) (hg : X.A.guards = some []) (hr : Room k X.A)
    (hx : Passes CX X E) (I : Inv X pins σ H s) (r : Vals vs us) (h : sp vs H Q E) : wpAny (model X.prog X.w) X.A (call (.ref f) us) (EP X pins σ Q) X.xe s := by
  refine wpAny_call (codeAny_mono (F X.A X.stack s H us vs Q E hg hr I.env0 r h) fun res s' hq => ?_)
  match res, hq with
  | .error e, hq => exact hx pins σ H s e s' I hq
  | .ok (.ret u), hq => exact I.after hq
  | .ok .next, hq => exact False.elim hq
  | .ok .brk, hq => exact False.elim hq
  | .ok .cont, hq => exact False.elim hq
/-- the def x of n parameters, at a level k -/
def Callee (P : Program) (w : World) (K : PySem.W.Frag) (mg : Str → Option Value) (base : Heap) (CX : CXT) (k : Nat) (x : Str) (n : Nat) (T : DSp) : Prop :=
  ∃ f, mg x = some (.ref f) ∧ PySem.W.keepIn K (.ref f) = true ∧ FnG P w K mg base CX k f (spD K n T)
def dCall (n : Nat) (T : DSp) (Ta : DTA) : DTE := fun E ρ K => Ta E ρ fun ss => ss.length = n ∧ T E ss K
theorem call_of {K : PySem.W.Frag} {EX : XK} {n : Nat} {T : DSp} {Ta : DTA} {σ : L2.St} {H : Hp} {Q : VK} (h : tD K EX (dCall n T Ta) σ H Q) : tA K EX Ta σ H fun vs H1 => spD K n T vs H1 Q EX := by
  obtain ⟨c, ρ, Kd, Ed, s, h, q⟩ := h
  refine ⟨c, ρ, _, Ed, s, h, fun ss vs H1 k e r => ?_⟩
  have s1 := s.ext e
  exact ⟨c.cal, ss, Kd, Ed, fun _ => rfl, k.1, r.cal, s1.k.cal, s1.x.cal s1.k, k.2, fun d v H2 k2 e2 r2 => q d v H2 k2 (e.trans e2) (by rw [← cal_P]; exact r2)⟩
theorem passN {X : Cx} {EX : XK} : Passes CX0 X EX := fun _ _ _ _ _ _ _ h => h.elim
theorem d_call {X : Cx} {EX : XK} {CX : CXT} {k n : Nat} {x : Str} {T : DSp} {Ta : DTA} {e : Expr} {es : List Expr} {p pos : Pos} (F : Callee X.prog X.w X.K X.mg X.base CX k x n T) (hgu : X.A.guards = some []) (hr : Room k X.A) (hx : Passes CX X EX) (ha : PDa X EX (e :: es) Ta) (hg : Gl X x := by rfl)
    (hdb : (x == ("__debug__" : Str)) = false := by decide) (he : starEach (e :: es) X.env = (false, eval e X.env) :: starEach es X.env := by rfl) (hpl : (backTo pos (starEach es X.env)).any (·.1) = false := by rfl) :
    PDe X EX (.Call (.Name x p) (e :: es) [] pos) (dCall n T Ta) := by
  obtain ⟨f, hm, hk, F⟩ := F
  refine ⟨fun pins s σ H Q I h => wpAny_Call_Name_kw (ld_glob I hg hm ?_ hdb)⟩
  exact PySem.W.callWith_K (h₀ := X.base) I.ok.mod.kin hk (thn (ha.run pos pins s σ H _ I (call_of h)) fun us s1 ⟨vs, H1, I1, r, q⟩ => ⟨I1.kIn, run_g F hgu hr hx I1 r q⟩) he hpl
/-! ### a def's body -/
def start0 (N : List Str) (ss : List Sl) : Ev := ss.map some ++ List.replicate (N.length - ss.length) none
theorem rep_start {K : PySem.W.Frag} {c : Cf} {H : Hp} {vs : List V} {ss : List Sl} (N : List Str) (a : As K c H vs ss) : Rep K c H (L2.start N vs) (start0 N ss) := by
  have hl := a.length
  have get : ∀ (vs : List V) (ss : List Sl), As K c H vs ss → ∀ (i : Nat) s, ss[i]? = some s → ∃ v, vs[i]? = some v ∧ SlR' K c H v s := by
    intro vs ss a
    induction a with
    | nil => intro i s h; simp at h
    | cons h t ih =>
      intro i s hs
      cases i with
      | zero => simp at hs; subst hs; exact ⟨_, rfl, h⟩
      | succ i => obtain ⟨v, e, r⟩ := ih i s (by simpa using hs); exact ⟨v, by simpa using e, r⟩
  have at_ : ∀ (i : Nat) s, (start0 N ss)[i]? = some (some s) → ∃ v, (L2.start N vs)[i]? = some (some v) ∧ SlR' K c H v s := by
    intro i s h
    unfold start0 at h
    by_cases hi : i < ss.length
    · rw [List.getElem?_append_left (by simpa using hi), List.getElem?_map] at h
      cases e : ss[i]? with
      | none => rw [e] at h; cases h
      | some s' =>
        rw [e] at h
        cases h
        obtain ⟨v, e1, r⟩ := get vs ss a i s e
        refine ⟨v, ?_, r⟩
        unfold L2.start
        rw [List.getElem?_append_left (by simp; omega), List.getElem?_map, e1]
        rfl
    · rw [List.getElem?_append_right (by simpa using hi), List.getElem?_replicate] at h
      split at h <;> cases h
  refine ⟨by simp [L2.start, start0, hl], fun i d h => at_ i _ h, fun i d h => ?_, fun i h => ?_, fun i j d e x h _ _ _ => ?_⟩
  · obtain ⟨v, _, r⟩ := at_ i _ h
    exact r.elim
  · obtain ⟨v, e, a, rfl, hb⟩ := at_ i _ h
    exact ⟨a, e, hb⟩
  · obtain ⟨v, _, r⟩ := at_ i _ h
    exact r.elim
def endsOf (Kd : D → Prop) (Ed : ED) : ES := ⟨fun _ => Kd .non, Kd, fun ds => Kd (.lst ds), fun _ => False, fun _ => False, Ed⟩
section
variable {P : Program} {w : World} {K : PySem.W.Frag} {mg : Str → Option Value} {base : Heap}
theorem ext_end {c c' : Cf} {H H' : Hp} (hF : ∀ a, c.F a = false) (st : Step c c' H H') (k : Hk c' H') : Ext c.B H H' := ⟨fun a o hb h => st.keep a o hb (hF a) h, fun _ a h => k.bag a (st.b a h), st.al⟩
theorem sub_end {c c' : Cf} {H H' : Hp} (hF : ∀ a, c.F a = false) (st : Step c c' H H') : Sub (hid c'.P H') (hid c.P H') := fun a o h => by
  obtain ⟨h1, h2⟩ := hid_some.mp h
  refine hid_some.mpr ⟨?_, h2⟩
  have h3 : c'.O a = false ∧ c'.F a = false := by simpa [Cf.P] using h1
  have h4 : c.O a = false := by
    cases e : c.O a with
    | false => rfl
    | true =>
      have z := st.o a e
      rw [h3.1] at z
      cases z
  simp [Cf.P, h4, hF a]
theorem body_end {c : Cf} {H : Hp} {Kd : D → Prop} {Ed : ED} {Q : VK} (hF : ∀ a, c.F a = false) (q : ∀ d v H', Kd d → Ext c.B H H' → R K (hid c.P H') v d → Q v H') : EOk K c H (endsOf Kd Ed) { nx := fun _ H' => Q .non H', rt := Q } := by
  refine ⟨fun c' ρ' σ' H' h st r k => q .non .non H' h (ext_end hF st k) .non, fun _ _ _ _ h _ _ _ => h.elim, fun _ _ _ _ h _ _ _ => h.elim, fun c' d v H' h st k r => q d v H' h (ext_end hF st k) (r.mono (sub_end hF st)), fun c' ds a xs H' h st k hn hp ha r => ?_⟩
  refine q (.lst ds) (.ref a) H' h (ext_end hF st k) (.lst ?_ (r.mono fun b o hb => sub_end hF st b o ?_))
  · exact sub_end hF st a _ (hid_some.mpr ⟨hp, ha⟩)
  · obtain ⟨h1, h2⟩ := hid_some.mp hb
    rw [with_P, Bool.or_eq_false_iff] at h1
    exact hid_some.mpr ⟨h1.1, h2⟩
/-- a def that hands back a new list -/
abbrev DSn := ED → List Sl → (List D → Prop) → Prop
def spN (K : PySem.W.Frag) (n : Nat) (T : DSn) : Sp := fun vs H Q E => ∃ c ss Kd Ed, (∀ a, c.F a = false) ∧ ss.length = n ∧ As K c H vs ss ∧ Hk c H ∧ Exs K E c H Ed ∧ T Ed ss Kd ∧ ∀ ds a xs H', Kd ds → Ext c.B H H' → H a = none → H' a = some (.lst xs) → Rs K (hid (c.with a).P H') xs ds → Q (.ref a) H'
theorem spN_len {K : PySem.W.Frag} {n : Nat} {T : DSn} {vs : List V} {H : Hp} {Q : VK} {E : XK} (h : spN K n T vs H Q E) : vs.length = n := by
  obtain ⟨c, ss, Kd, Ed, _, hl, ha, _⟩ := h
  rw [ha.length, hl]
def endsN (Kd : List D → Prop) (Ed : ED) : ES := ⟨fun _ => False, fun _ => False, Kd, fun _ => False, fun _ => False, Ed⟩
theorem body_endN {c : Cf} {H : Hp} {Kd : List D → Prop} {Ed : ED} {Q : VK} (hF : ∀ a, c.F a = false) (q : ∀ ds a xs H', Kd ds → Ext c.B H H' → H a = none → H' a = some (.lst xs) → Rs K (hid (c.with a).P H') xs ds → Q (.ref a) H') : EOk K c H (endsN Kd Ed) { nx := fun _ H' => Q .non H', rt := Q } := by
  refine ⟨fun _ _ _ _ h _ _ _ => h.elim, fun _ _ _ _ h _ _ _ => h.elim, fun _ _ _ _ h _ _ _ => h.elim, fun _ _ _ _ h _ _ _ => h.elim, fun c' ds a xs H' h st k hn hp ha r => ?_⟩
  refine q ds a xs H' h (ext_end hF st k) hn ha (r.mono fun b o hb => ?_)
  obtain ⟨h1, h2⟩ := hid_some.mp hb
  rw [with_P, Bool.or_eq_false_iff] at h1
  obtain ⟨h3, _⟩ := hid_some.mp (sub_end hF st b o (hid_some.mpr ⟨h1.1, h2⟩))
  exact hid_some.mpr ⟨by rw [with_P, h3, h1.2]; rfl, h2⟩
/-- a def that raises nothing: its body B, by data -/
theorem fn_ok {x qual : Str} {st : Stmt} {f : Addr} {fd : FuncData} {N ps : List Str} {k n : Nat} {T : DSp} {Tb : DTS} (F : Fun K x qual st f fd) (S : FnScope N ps (defScope st)) (hn : ps.length = n)
    (hbi : ∀ (kV doc pm : Value) (an : Option Addr) (cdv ct : Value) (us : List Value), us.length = ps.length → bindArgs (PySem.W.fnOf x qual (defArgs st) (defBody st) (defScope st) .none kV doc pm an cdv ct) ⟨us, []⟩ = pure (ps.zip us))
    (body : ∀ (cdv : Value) (A : Around) (outer : List Env) (s : Shared) (H : Hp) (E : XK), (A.deeper (envOfC qual (defScope st) s.heap.objs.size f cdv)).guards = some [] → Room k (A.deeper (envOfC qual (defScope st) s.heap.objs.size f cdv)) →
      PDb (cxOf CX0 P w K mg base N qual (defScope st) f cdv A outer s H E).nox E0 (defBody st) Tb)
    (read : ∀ Ed ss Kd, ss.length = n → T Ed ss Kd → Tb (endsOf Kd fun _ => False) (start0 N ss)) : FnG P w K mg base CX0 (k + 1) f (spD K n T) := by
  intro A outer s H us vs Q E hg hr e0 r h
  obtain ⟨oc, od, kV, doc, pm, an, cdv, ct, osl, rfl, lk, hcd⟩ := F.ex
  have hl : vs.length = ps.length := (spD_len h).trans hn.symm
  refine StX.run_bnd lk hcd S hr e0 (G := fun xs H2 => xs = vs ∧ H2 = H) (fun A' Ex Q' hq => ?_) fun s2 H2 xs ⟨e1, e2⟩ hr' => ?_
  · rw [hbi kV doc pm an cdv ct us (by rw [← r.length]; exact hl)]
    exact wpAny_pure (hq s H vs us e0 Un.refl rfl (fun _ _ z => z) r hl ⟨rfl, rfl⟩)
  · subst e1 e2
    obtain ⟨c, ss, Kd, Ed, hF, hl, ha, hk, hx, hT, q⟩ := h
    refine ⟨_, (body cdv A outer s2 H2 E hg hr').nox, ?_⟩
    exact ⟨c, _, _, ⟨rep_start N ha, hk, fun _ _ _ _ z _ _ _ => False.elim z⟩, read Ed ss Kd hl hT, body_end hF q⟩
theorem fn_okN {x qual : Str} {st : Stmt} {f : Addr} {fd : FuncData} {N ps : List Str} {k n : Nat} {T : DSn} {Tb : DTS} (F : Fun K x qual st f fd) (S : FnScope N ps (defScope st)) (hn : ps.length = n)
    (hbi : ∀ (kV doc pm : Value) (an : Option Addr) (cdv ct : Value) (us : List Value), us.length = ps.length → bindArgs (PySem.W.fnOf x qual (defArgs st) (defBody st) (defScope st) .none kV doc pm an cdv ct) ⟨us, []⟩ = pure (ps.zip us))
    (body : ∀ (cdv : Value) (A : Around) (outer : List Env) (s : Shared) (H : Hp) (E : XK), (A.deeper (envOfC qual (defScope st) s.heap.objs.size f cdv)).guards = some [] → Room k (A.deeper (envOfC qual (defScope st) s.heap.objs.size f cdv)) →
      PDb (cxOf CX0 P w K mg base N qual (defScope st) f cdv A outer s H E).nox E0 (defBody st) Tb)
    (read : ∀ Ed ss Kd, ss.length = n → T Ed ss Kd → Tb (endsN Kd fun _ => False) (start0 N ss)) : FnG P w K mg base CX0 (k + 1) f (spN K n T) := by
  intro A outer s H us vs Q E hg hr e0 r h
  obtain ⟨oc, od, kV, doc, pm, an, cdv, ct, osl, rfl, lk, hcd⟩ := F.ex
  have hl : vs.length = ps.length := (spN_len h).trans hn.symm
  refine StX.run_bnd lk hcd S hr e0 (G := fun xs H2 => xs = vs ∧ H2 = H) (fun A' Ex Q' hq => ?_) fun s2 H2 xs ⟨e1, e2⟩ hr' => ?_
  · rw [hbi kV doc pm an cdv ct us (by rw [← r.length]; exact hl)]
    exact wpAny_pure (hq s H vs us e0 Un.refl rfl (fun _ _ z => z) r hl ⟨rfl, rfl⟩)
  · subst e1 e2
    obtain ⟨c, ss, Kd, Ed, hF, hl, ha, hk, hx, hT, q⟩ := h
    refine ⟨_, (body cdv A outer s2 H2 E hg hr').nox, ?_⟩
    exact ⟨c, _, _, ⟨rep_start N ha, hk, fun _ _ _ _ z _ _ _ => False.elim z⟩, read Ed ss Kd hl hT, body_endN hF q⟩
/-- a def of n parameters that hands back a new list -/
def CalleeN (P : Program) (w : World) (K : PySem.W.Frag) (mg : Str → Option Value) (base : Heap) (CX : CXT) (k : Nat) (x : Str) (n : Nat) (T : DSn) : Prop :=
  ∃ f, mg x = some (.ref f) ∧ PySem.W.keepIn K (.ref f) = true ∧ FnG P w K mg base CX k f (spN K n T)
end

/-! ### comprehensions -/
def wipeD (ρ : Ev) : List Nat → Ev
  | [] => ρ
  | v :: vs => (wipeD ρ vs).set v none
section
variable {K : PySem.W.Frag} {c : Cf} {H : Hp} {σ : L2.St} {ρ : Ev}
theorem set_none {α : Type} {l : List (Option α)} {i j : Nat} {y : α} (h : (l.set i none)[j]? = some (some y)) : i ≠ j ∧ l[j]? = some (some y) := by
  rcases set_cases h with ⟨_, _, q⟩ | q
  · cases q
  · exact q
theorem Rep.unset (r : Rep K c H σ ρ) (i : Nat) : Rep K c H (σ.set i none) (ρ.set i none) := by
  refine ⟨by simpa using r.le, fun j d h => ?_, fun j d h => ?_, fun j h => ?_, fun j l d e a h h2 h3 h4 => ?_⟩
  · obtain ⟨ne, q⟩ := set_none h
    rw [List.getElem?_set_ne ne]
    exact r.val j d q
  · obtain ⟨ne, q⟩ := set_none h
    rw [List.getElem?_set_ne ne]
    exact r.own j d q
  · obtain ⟨ne, q⟩ := set_none h
    rw [List.getElem?_set_ne ne]
    exact r.bag j q
  · obtain ⟨ne, q⟩ := set_none h
    obtain ⟨ne2, q2⟩ := set_none h2
    rw [List.getElem?_set_ne ne] at h3
    rw [List.getElem?_set_ne ne2] at h4
    exact r.sep j l d e a q q2 h3 h4
theorem Rep.wipe (r : Rep K c H σ ρ) : ∀ vs : List Nat, Rep K c H (L2.wipe σ vs) (wipeD ρ vs)
  | [] => r
  | v :: vs => (r.wipe vs).unset v
end
theorem wipe_at (σ : L2.St) : ∀ (vs : List Nat) (j : Nat), (L2.wipe σ vs)[j]? = if j ∈ vs ∧ j < σ.length then some none else σ[j]?
  | [], j => by simp [L2.wipe]
  | v :: vs, j => by
    show ((L2.wipe σ vs).set v none)[j]? = _
    by_cases e : v = j
    · subst e
      by_cases hl : v < σ.length
      · rw [List.getElem?_set_self (by rw [wipe_length]; exact hl), if_pos ⟨List.mem_cons_self, hl⟩]
      · rw [if_neg (fun z => hl z.2), List.getElem?_eq_none (by rw [List.length_set, wipe_length]; omega), List.getElem?_eq_none (by omega)]
    · rw [List.getElem?_set_ne e, wipe_at σ vs j]
      have : (j ∈ v :: vs) = (j ∈ vs) := by simp [Ne.symm e]
      simp only [this]
theorem wipe_ag {σ σ' : L2.St} {js vs : List Nat} (a : Ag js (L2.wipe σ vs) σ') (h : ∀ j ∈ js, j ∈ vs) : L2.wipe σ' vs = L2.wipe σ vs := by
  have hl : σ'.length = σ.length := by rw [a.1, wipe_length]
  apply List.ext_getElem?
  intro j
  rw [wipe_at, wipe_at, hl]
  by_cases hj : j ∈ vs
  · by_cases hlt : j < σ.length
    · rw [if_pos ⟨hj, hlt⟩, if_pos ⟨hj, hlt⟩]
    · rw [if_neg (fun z => hlt z.2), if_neg (fun z => hlt z.2), List.getElem?_eq_none (by omega), List.getElem?_eq_none (by omega)]
  · rw [if_neg (fun z => hj z.1), if_neg (fun z => hj z.1), a.2 j fun z => hj (h j z), wipe_at, if_neg (fun z => hj z.1)]
abbrev noE : ED := fun _ => False
def lcD (G : DTG) (Tt : DTT) (Te : DTE) (ρ : Ev) (K : D → Prop) : List D → List D → Prop
  | [], acc => K (.lst acc)
  | d :: ds, acc => G d ρ fun ρ1 => Tt noE ρ1 fun k => (k = true → Te noE ρ1 fun y => lcD G Tt Te ρ K ds (acc ++ [y])) ∧ (k = false → lcD G Tt Te ρ K ds acc)
def dLc (I : DTI) (G : DTG) (Tt : DTT) (Te : DTE) (vs : List Nat) : DTE := fun E ρ K => I E ρ fun ds => ds.length ≤ 1000000 ∧ lcD G Tt Te (wipeD ρ vs) K ds []
theorem with_sub (c : Cf) (p : Addr) (H : Hp) : Sub (hid (c.with p).P H) (hid c.P H) := fun a o h => by
  obtain ⟨h1, h2⟩ := hid_some.mp h
  rw [with_P, Bool.or_eq_false_iff] at h1
  exact hid_some.mpr ⟨h1.1, h2⟩
/-- data of before stands apart from what is new -/
theorem sub_with {c : Cf} {H H' : Hp} {p : Addr} (k : Hk c H) (hp : H p = none) (e : ∀ a o, c.P a = false → H a = some o → H' a = some o) : Sub (hid c.P H) (hid (c.with p).P H') := fun a o h => by
  obtain ⟨h1, h2⟩ := hid_some.mp h
  refine hid_some.mpr ⟨?_, e a o h1 h2⟩
  rw [with_P, h1]
  exact decide_eq_false (ne_of_none h2 hp)
theorem Hk.with {c : Cf} {H : Hp} {p : Addr} {o : HO} (k : Hk c H) (hp : H p = none) : Hk (c.with p) (upd H p o) := by
  have e := Ext.new (o := o) hp k.bag
  refine ⟨k.bo, e.bag k.bag, fun a h => ?_, fun a h => ?_⟩
  · rw [with_P] at h
    rcases Bool.or_eq_true_iff.mp h with h | h
    · obtain ⟨u, q⟩ := k.al a h
      exact e.al a u q
    · rw [of_decide_eq_true h]
      exact ⟨_, upd_same⟩
  · rcases Bool.or_eq_true_iff.mp h with h | h
    · exact k.fo a h
    · rw [of_decide_eq_true h]
      have q := k.fresh hp
      simp only [Cf.P, Bool.or_eq_false_iff] at q
      exact q.1
/-- the body's own list at p is changed -/
theorem own_upd {c : Cf} {H : Hp} {p : Addr} {o : HO} (k : Hk c H) (hF : c.F p = true) : Hk c (upd H p o) ∧ Sub (hid c.P H) (hid c.P (upd H p o)) := by
  have nb : ∀ a, c.B a = true → a ≠ p := fun a h z => by
    have h1 := k.bo a h
    rw [z, k.fo p hF] at h1
    cases h1
  refine ⟨⟨k.bo, fun a h => ?_, fun a h => ?_, k.fo⟩, fun a u h => ?_⟩
  · obtain ⟨x, y, z, e⟩ := k.bag a h
    exact ⟨x, y, z, by rw [upd_ne (nb a h)]; exact e⟩
  · by_cases e : a = p
    · rw [e]; exact ⟨_, upd_same⟩
    · rw [upd_ne e]; exact k.al a h
  · obtain ⟨h1, h2⟩ := hid_some.mp h
    refine hid_some.mpr ⟨h1, ?_⟩
    rw [upd_ne]
    · exact h2
    · intro z
      rw [z] at h1
      simp [Cf.P, hF] at h1
section
variable {X : Cx} {EX : XK} {elt tg iter : Expr} {ifs : List Expr} {scope : Scope} {own : List (Str × Nat)} {pos : Pos} {I : DTI} {G : DTG} {Tt : DTT} {Te : DTE} {js : List Nat}
def dYes : DTT := fun _ _ K => K true
abbrev PDts (X : Cx) (EX : XK) (ifs : List Expr) (T : DTT) : Prop := PTs X ifs (tT X.K EX T)
theorem ts_nil : PDts X EX [] dYes := ⟨fun pins s σ H Q I0 h => pts_nil.run pins s σ H Q I0 (by
  obtain ⟨c, ρ, Kd, Ed, s, h, q⟩ := h
  exact q _ _ h (Ext.refl _ _))⟩
theorem ts_one {c : Expr} (h : PDt X EX c Tt) : PDts X EX [c] Tt := pts_one h
theorem lc_of (hj : ∀ j ∈ js, j ∈ own.map (·.2)) {σ : L2.St} {H : Hp} {Q : VK} (h : tD X.K EX (dLc I G Tt Te (own.map (·.2))) σ H Q) : tLc (tI X.K EX I) (tG X.K js G) (tT X.K E0 Tt) (tD X.K E0 Te) (own.map (·.2)) σ H Q := by
  obtain ⟨c, ρ, Kd, Ed, s, h, q⟩ := h
  refine ⟨c, ρ, _, Ed, s, h, fun ds H1 J G0 Y k e w D0 hD => ?_⟩
  obtain ⟨hlen, k⟩ := k
  have s1 := s.ext e
  have k1 := s1.k
  -- from H1 on: the block's own configuration has the new list, too
  have st1 : Step c (c.with D0) H1 (upd H1 D0 (.lst [])) := by
    have x := Ext.new (o := HO.lst []) hD k1.bag
    refine ⟨fun _ h => h, fun _ h => .inl h, fun _ h => h, fun _ h => .inl h, fun a h => ?_, fun a o hb _ he => x.keep a o hb he, x.al⟩
    rcases Bool.or_eq_true_iff.mp h with h | h
    · exact .inl h
    · rw [of_decide_eq_true h]
      exact .inr hD
  have r0 : Rep X.K (c.with D0) (upd H1 D0 (.lst [])) σ ρ := by
    have x := Ext.new (o := HO.lst []) hD k1.bag
    have sub : Sub (hid c.P H1) (hid (c.with D0).P (upd H1 D0 (.lst []))) := sub_with k1 hD fun a o hP he => x.keep a o (k1.nob hP) he
    refine ⟨s1.r.le, fun i d h => ?_, fun i d h => ?_, s1.r.bag, s1.r.sep⟩
    · obtain ⟨v, a, b⟩ := s1.r.val i d h
      exact ⟨v, a, b.mono sub⟩
    · obtain ⟨a, h1, h2, h3⟩ := s1.r.own i d h
      refine ⟨a, h1, by simp [Cf.with, h2], ?_⟩
      have na : a ≠ D0 := fun z => by
        have q := k1.fresh hD
        rw [← z] at q
        simp [Cf.P, h2] at q
      exact h3.move h2 na (fun x o _ hx he => by rw [upd_ne hx]; exact he) (noDict_none hD) (fun x hx _ => by simp [Cf.with, hx]) sub
  refine lc_it w.w (fun i H' => ∃ acc accD, H' D0 = some (.lst acc) ∧ Rs X.K (hid (c.with D0).P H') acc accD ∧ acc.length ≤ i ∧ lcD G Tt Te (wipeD ρ (own.map (·.2))) Kd (ds.drop i) accD ∧
      Hk (c.with D0) H' ∧ Rep X.K (c.with D0) H' σ ρ ∧ Step c (c.with D0) H1 H' ∧ (∀ a o, c.B a = false → H1 a = some o → H' a = some o)) ?_ ?_ ?_ ?_
  · exact ⟨[], [], upd_same, .nil, Nat.le_refl _, k, k1.with hD, r0, st1, fun a o hb he => (Ext.new (o := HO.lst []) hD k1.bag).keep a o hb he⟩
  · rintro i H' _ ⟨acc, accD, _, _, _, _, hk, _, st, _⟩
    exact w.g _ _ st hk
  · rintro i x H2 H3 hi ⟨acc, accD, hA, rA, hL, hlc, hk2, r2, st, kp⟩ y
    obtain ⟨d, e1, e3, rd⟩ := w.y i _ H2 x H3 hi st hk2 y
    have ed : ds.drop i = d :: ds.drop (i + 1) := by
      obtain ⟨hl, e1⟩ := List.getElem?_eq_some_iff.mp e1
      rw [← e1]
      exact List.drop_eq_getElem_cons hl
    rw [ed] at hlc
    have k3 := hk2.ext e3
    have r3 := r2.ext hk2 e3
    have nbD : (c.with D0).B D0 = false := by
      have q := k1.nob (k1.fresh hD)
      exact q
    refine ⟨c.with D0, _, _, d, r3.wipe _, k3, rd, hlc, fun ρ4 σ4 h4 r4 ag => ⟨wipe_ag ag hj, ?_⟩⟩
    refine ⟨c.with D0, ρ4, _, noE, ⟨r4, k3, fun _ _ _ _ z _ _ _ => False.elim z⟩, h4, fun b H4 kb e4 => ?_⟩
    have k4 := k3.ext e4
    have e34 := e3.trans e4
    have keepD : ∀ {H5 : Hp}, Ext (c.with D0).B H2 H5 → H5 D0 = some (.lst acc) := fun ex => ex.keep D0 _ nbD hA
    have stx : ∀ {H5 : Hp}, Ext (c.with D0).B H2 H5 → Step c (c.with D0) H1 H5 := fun ex => st.trans (.of ex)
    cases b with
    | true =>
      refine iteT ⟨c.with D0, ρ4, _, noE, ⟨r4.ext k3 e4, k4, fun _ _ _ _ z _ _ _ => False.elim z⟩, kb.1 rfl, fun dy y5 H5 ky e5 r5 => ?_⟩
      have e345 := e34.trans e5
      have k5 := k4.ext e5
      have hF : (c.with D0).F D0 = true := by simp [Cf.with]
      obtain ⟨k6, sub6⟩ := own_upd (o := HO.lst (acc ++ [y5])) k5 hF
      refine ⟨acc, keepD e345, ?_, acc ++ [y5], accD ++ [dy], upd_same, ?_, ?_, ky, k6, ?_, ?_, ?_⟩
      · have hlt : acc.length < 1000000 := by omega
        exact Nat.lt_of_lt_of_le hlt (by decide)
      · exact ((rA.mono (hk2.sub e345)).app (.cons r5 .nil)).mono sub6
      · simp only [List.length_append, List.length_singleton]; omega
      · have r6 := (r2.ext hk2 e345)
        refine ⟨r6.le, fun i d h => ?_, fun i d h => ?_, r6.bag, r6.sep⟩
        · obtain ⟨v, a, b⟩ := r6.val i d h
          exact ⟨v, a, b.mono sub6⟩
        · obtain ⟨a, h1, h2, h3⟩ := r6.own i d h
          refine ⟨a, h1, h2, ?_⟩
          obtain ⟨a0, g1, g2, _⟩ := s1.r.own i d h
          have ea : a = a0 := by
            rw [h1] at g1
            cases g1
            rfl
          have na : a ≠ D0 := fun z => by
            have q := k1.fresh hD
            rw [← z, ea] at q
            simp [Cf.P, g2] at q
          exact h3.move h2 na (fun x o _ hx he => by rw [upd_ne hx]; exact he) (noDict_lst (keepD e345)) (fun x hx _ => hx) sub6
      · refine (stx e345).trans ⟨fun _ h => h, fun _ h => .inl h, fun _ h => h, fun _ h => .inl h, fun a h => .inl h, fun a o hb hf he => ?_, fun a o he => ?_⟩
        · rw [upd_ne]
          · exact he
          · intro z
            rw [z, hF] at hf
            cases hf
        · by_cases z : a = D0
          · rw [z]; exact ⟨_, upd_same⟩
          · rw [upd_ne z]; exact ⟨o, he⟩
      · intro a o hb he
        have h5 := e345.keep a o hb (kp a o hb he)
        rw [upd_ne (ne_of_none he hD)]
        exact h5
    | false =>
      refine iteF ⟨acc, accD, keepD e34, rA.mono (hk2.sub e34), by omega, kb.2 rfl, k4, r2.ext hk2 e34, stx e34, fun a o hb he => e34.keep a o hb (kp a o hb he)⟩
  · rintro H' ⟨acc, accD, hA, rA, hL, hlc, hk2, r2, st, kp⟩
    rw [List.drop_length] at hlc
    have ex : Ext c.B H1 H' := ⟨kp, fun _ => hk2.bag, st.al⟩
    refine q _ _ _ hlc (e.trans ex) (.lst (hid_some.mpr ⟨k1.fresh hD, hA⟩) (rA.mono (with_sub _ _ _)))
theorem d_lc (hc : X.calm = true) (hN : X.N.Nodup) (hi : PDi X EX tg iter I) (ok : BlkOk X.N X.env.scope scope own)
    (hg : ∀ (s : Shared) (H : Hp) (C : Addr) (cl : List (Str × Addr)) (fp : List Addr), PDg (X.blk s H scope (compEnvC scope cl C X.env) fp) js tg G) (ht : ∀ (s : Shared) (H : Hp) (C : Addr) (cl : List (Str × Addr)) (fp : List Addr), PDts (X.blk s H scope (compEnvC scope cl C X.env) fp) E0 ifs Tt)
    (he : ∀ (s : Shared) (H : Hp) (C : Addr) (cl : List (Str × Addr)) (fp : List Addr), PDe (X.blk s H scope (compEnvC scope cl C X.env) fp) E0 elt Te) (hj : ∀ j ∈ js, j ∈ own.map (·.2) := by decide) (hs : ∀ x, foldedSetIterable iter X.env x = pure x := by intro _; rfl) :
    PDe X EX (.ListComp elt [⟨tg, iter, ifs, 0⟩] scope pos) (dLc I G Tt Te (own.map (·.2))) := peW (pe_lc hc hN hi ok hg ht he hs) fun _ _ _ h => lc_of hj h
theorem s_setLc (i : Nat) {y : Str} {py spos : Pos} (hc : X.calm = true) (hN : X.N.Nodup) (hy : X.N[i]? = some y) (hyl : X.env.scope.names.lookup y = some .local)
    (hsw : swapsWith (.ListComp elt [⟨tg, iter, ifs, 0⟩] scope pos) (some (.Name y py)) spos.line X.env = pure true) (hi : PDi X EX tg iter I) (ok : BlkOk X.N X.env.scope scope own)
    (hg : ∀ (s : Shared) (H : Hp) (C : Addr) (cl : List (Str × Addr)) (fp : List Addr), PDg (X.blk s H scope (compEnvC scope cl C X.env) fp) js tg G) (ht : ∀ (s : Shared) (H : Hp) (C : Addr) (cl : List (Str × Addr)) (fp : List Addr), PDts (X.blk s H scope (compEnvC scope cl C X.env) fp) E0 ifs Tt)
    (he : ∀ (s : Shared) (H : Hp) (C : Addr) (cl : List (Str × Addr)) (fp : List Addr), PDe (X.blk s H scope (compEnvC scope cl C X.env) fp) E0 elt Te) (hj : ∀ j ∈ js, j ∈ own.map (·.2) := by decide) (hs : ∀ x, foldedSetIterable iter X.env x = pure x := by intro _; rfl) :
    PDs X EX (.Assign [.Name y py] (.ListComp elt [⟨tg, iter, ifs, 0⟩] scope pos) spos) (sAsg (dLc I G Tt Te (own.map (·.2))) (gN i)) := psW (ps_setLc hc hN hy hyl hsw hi ok hg ht he hs) fun D0 σ H h => by
  obtain ⟨c, ρ, E, s, h, q⟩ := h
  refine lc_of hj ⟨c, ρ, _, _, s, h, fun d v H1 k e r => ?_⟩
  have s1 := s.ext e
  exact q.nx c _ _ H1 k (.of e) (s1.r.set r) s1.k
end

/-! ### repr -/
def rRepr (K : PySem.W.Frag) : List V → Hp → VK → Prop := fun xs H Q => ∃ v d, xs = [v] ∧ Dp K H v d ∧ d.showable = true ∧ d.hasDict = false ∧ d.depth ≤ 64 ∧ d.shown.length ≤ sizeLine ∧ Q (.str d.shown) H
theorem call_repr {X : Cx} (hg : X.A.guards = some []) (hu : X.A.units + 70 < cLine) : CallR X (.builtin "repr") (rRepr X.K) := by
  intro pins s σ H xs us Q I r h
  obtain ⟨v, d, rfl, hd, hs, hn, hdp, hz, q⟩ := h
  obtain ⟨u, rfl, rx⟩ := vals1 r
  cases hd with
  | non => cases rx; exact PySem.P.repr_of_none ⟨.str _, H, I.tok _, ⟨_, rfl⟩, by simpa [PyData.shown] using q⟩
  | bl b => cases rx; exact PySem.P.repr_of_bool ⟨.str _, H, I.tok _, ⟨_, rfl⟩, by simpa [PyData.shown] using q⟩
  | int i =>
    obtain ⟨t, rfl⟩ := rx
    have h1 : i.natAbs.log2 < 1920 := by simpa [PyData.showable] using hs
    exact PySem.P.repr_of_int h1 ⟨.str _, H, I.tok _, ⟨_, rfl⟩, by simpa [PyData.shown] using q⟩
  | str x =>
    obtain ⟨t, rfl⟩ := rx
    exact PySem.P.repr_of_str ⟨.str _, H, I.tok _, ⟨_, rfl⟩, by simpa [PyData.shown] using q⟩ (by simpa [PyData.shown] using hz)
  | lst h1 h2 =>
    cases rx
    obtain ⟨as, rd⟩ := Dp.reads I _ _ _ (.lst h1 h2) rfl
    exact repr_of_reads' rd hs (PyData.noDict_hsm hn) hg (by omega) (fun _ _ e => e) (fun h' u tk hk => ⟨.str _, H, I.kept hk, ⟨_, rfl⟩, q⟩) hz
  | tup h1 h2 =>
    cases rx
    obtain ⟨as, rd⟩ := Dp.reads I _ _ _ (.tup h1 h2) rfl
    exact repr_of_reads' rd hs (PyData.noDict_hsm hn) hg (by omega) (fun _ _ e => e) (fun h' u tk hk => ⟨.str _, H, I.kept hk, ⟨_, rfl⟩, q⟩) hz
def fRepr (ds : List D) (k : D → Prop) : Prop := match ds with
  | [d] => D.flat 64 d = true ∧ d.py.showable = true ∧ d.py.shown.length ≤ 1000000 ∧ k (.str d.py.shown)
  | _ => False
theorem cd_repr {K : PySem.W.Frag} : CalD K fRepr (rRepr K) := fun c H xs ds k Q hk r h q => by
  unfold fRepr at h
  split at h
  · cases r with
    | cons a t =>
      cases t
      obtain ⟨h1, h2, h3, h⟩ := h
      obtain ⟨b1, b2, b3⟩ := (a.mono (hid_sub _ _)).dp h1
      exact ⟨_, _, rfl, b1, h2, PyData.hasDict_of_canLay _ b2, b3, szL h3, q _ _ _ h (Ext.refl _ _) (.str _)⟩
  · exact h.elim
/-! ### a def f( *v) -/
section
variable {P : Program} {w : World} {K : PySem.W.Frag} {mg : Str → Option Value} {base : Heap}
def slD : List Sl → List D
  | [] => []
  | .val d :: ss => d :: slD ss
  | _ :: ss => .non :: slD ss
def allVal : List Sl → Bool
  | [] => true
  | .val _ :: ss => allVal ss
  | _ => false
theorem as_rs {c : Cf} {H : Hp} : ∀ {vs : List V} {ss : List Sl}, As K c H vs ss → allVal ss = true → Rs K (hid c.P H) vs (slD ss)
  | _, _, .nil, _ => .nil
  | _, _, .cons (s := s) h t, e => by
    cases s with
    | val d => exact .cons h (as_rs t e)
    | own d => cases e
    | bag => cases e
theorem fn_star_ok {x qual : Str} {st : Stmt} {f : Addr} {fd : FuncData} {N : List Str} {pv : Str} {k n : Nat} {T : DSp} {Tb : DTS} (F : Fun K x qual st f fd) (S : FnScope N [pv] (defScope st)) (hn : n ≤ 1000)
    (hbi : ∀ (kV doc pm : Value) (an : Option Addr) (cdv ct : Value) (us : List Value), us.length = n → bindArgs (PySem.W.fnOf x qual (defArgs st) (defBody st) (defScope st) .none kV doc pm an cdv ct) ⟨us, []⟩ = (newTuple us >>= fun t => pure [(pv, t)]))
    (body : ∀ (cdv : Value) (A : Around) (outer : List Env) (s : Shared) (H : Hp) (E : XK), (A.deeper (envOfC qual (defScope st) s.heap.objs.size f cdv)).guards = some [] → Room k (A.deeper (envOfC qual (defScope st) s.heap.objs.size f cdv)) →
      PDb (cxOf CX0 P w K mg base N qual (defScope st) f cdv A outer s H E).nox E0 (defBody st) Tb)
    (read : ∀ Ed ss Kd, ss.length = n → T Ed ss Kd → allVal ss = true ∧ Tb (endsOf Kd fun _ => False) (start0 N [.val (.tup (slD ss))])) : FnG P w K mg base CX0 (k + 1) f (spD K n T) := by
  intro A outer s H us vs Q E hg hr e0 r h
  obtain ⟨oc, od, kV, doc, pm, an, cdv, ct, osl, rfl, lk, hcd⟩ := F.ex
  have hl : vs.length = n := spD_len h
  have hul : us.length = n := by rw [← r.length]; exact hl
  have hz : vs.length ≤ sizeLine := by rw [hl]; exact Nat.le_trans hn (by decide)
  have hnw : H s.heap.objs.size = Option.none := e0.hok.fresh (Nat.le_refl _)
  refine StX.run_bnd lk hcd S hr e0 (G := fun xs H2 => ∃ p, H p = Option.none ∧ xs = [V.ref p] ∧ H2 = upd H p (.tup vs)) (fun A' Ex Q' hq => ?_) fun s2 H2 xs ⟨p, hp, e1, e2⟩ hr' => ?_
  · rw [hbi kV doc pm an cdv ct us hul]
    refine wpAny_bind (wpAny_newTuple (wpAny_pure ?_) (by rw [hul, ← hl]; exact hz))
    have nw : ObjOk P w (upd H s.heap.objs.size (.tup vs)) (s.heap.push ({ cls := .type "tuple", data := .seq us.toArray } : Obj)) s.heap.objs.size (.tup vs) := ⟨hz, us, r, ⟨_, Heap.get?_push_size _ rfl, rfl, _, rfl⟩⟩
    exact hq _ (upd H s.heap.objs.size (.tup vs)) [V.ref s.heap.objs.size] [Value.ref s.heap.objs.size] (StX.env0_laid e0 nw) (StX.un_laid hnw) rfl (fun _ _ z => z.elim) (.cons rfl .nil) rfl ⟨_, hnw, rfl, rfl⟩
  · subst e1 e2
    obtain ⟨c, ss, Kd, Ed, hF, hl2, ha, hk, hx, hT, q⟩ := h
    obtain ⟨hv, rd⟩ := read Ed ss Kd hl2 hT
    refine ⟨_, (body cdv A outer s2 _ E hg hr').nox, ?_⟩
    have x := Ext.new (o := HO.tup vs) hp hk.bag
    refine ⟨c, _, _, ⟨rep_start N (.cons (s := .val (.tup (slD ss))) (newTup hk hp (as_rs ha hv)) .nil), hk.ext x, fun _ _ _ _ z _ _ _ => False.elim z⟩, rd, body_end hF fun d v H' a b r => q d v H' a (x.trans b) r⟩
end
/-! ### the law's end -/
theorem hid0 (H : Hp) : hid (Cf.mk (fun _ => false) (fun _ => false) (fun _ => false)).P H = H := funext fun _ => rfl
theorem law_end {P : Program} {w : World} {K : PySem.W.Frag} {mg mb : Str → Option Value} {k : Nat} {fa a : Addr} {T : DSp} {s₁ : Shared} {vs : List Value} {ns : List Int}
    (KX : K.In s₁.heap) (hns : s₁.heap.Ns mainGlobals mg) (hb : s₁.heap.Ns builtinsNs mb) (hbb : ∀ x : Str, x ≠ "__name__" → mb x = bootBuiltins x) (hlim : s₁.heap.NoLimit) (hg : s₁.gens = #[])
    (ha : s₁.heap.get? a = some { cls := .type "list", data := .seq vs.toArray }) (hi : IntsAre vs ns) (hl : ns.length ≤ sizeLine) (hr : Room k callerA)
    (F : ∀ base : Heap, K.In base → base.Ns mainGlobals mg → FnG P w K mg base CX0 k fa (spD K 1 T)) (hT : T noE [.val (.scr ns)] fun d => d = .bl true) :
    codeAny (model P w) callerA (.call (.ref fa) ⟨[.ref a], []⟩) (fun r s' => r = .ok (.ret (.bool true)) ∧ OldK s₁.heap s'.heap ∧ s'.os = s₁.os ∧ AllBare s'.gens) s₁ := by
  have lv := hi.length
  have key : ∀ H : Hp, Only H → SqL K H a (ns.map V.int) → HOk P w H s₁.heap → (∀ c, H c ≠ none → c = a ∧ K.lookup a = none) →
      codeAny (model P w) callerA (.call (.ref fa) ⟨[.ref a], []⟩) (fun r s' => r = .ok (.ret (.bool true)) ∧ OldK s₁.heap s'.heap ∧ s'.os = s₁.os ∧ AllBare s'.gens) s₁ := by
    intro H only sq ok just
    have off : ∀ {c : Addr}, c ≠ a → H c = none := fun {c} ne => by
      cases z : H c with
      | none => rfl
      | some u => exact absurd (just c (by rw [z]; simp)).1 ne
    have dicts : ∀ {c : Addr} {o : Obj} {es : Array DictEntry} {ep : Nat}, s₁.heap.get? c = some o → o.data = .dict es ep → c ≠ a := fun e d z => by
      subst z
      rw [ha] at e
      cases e
      cases (show Data.seq vs.toArray _ = Data.dict _ _ from d)
    have nsK : ∀ {c : Addr} {m : Str → Option Value}, s₁.heap.Ns c m → (L2.hidT s₁.heap H).Ns c m := fun ⟨o, es, ep, e, d, r⟩ => ⟨o, es, ep, hidT_get e (off (dicts e d)), d, r⟩
    have inK : K.In (L2.hidT s₁.heap H) := fun c o e => hidT_get (KX c o e) (by
      cases z : H c with
      | none => rfl
      | some u =>
        obtain ⟨z1, z2⟩ := just c (by rw [z]; simp)
        rw [z1, z2] at e
        cases e)
    have md : Mod K mg (L2.hidT s₁.heap H) := ⟨inK, nsK hns, ⟨mb, nsK hb, hbb⟩, let ⟨mc, x, y⟩ := hlim; ⟨mc, nsK x, y⟩⟩
    have e0 : Env0 P w K mg (L2.hidT s₁.heap H) callerA [] s₁ H := ⟨rfl, md, fun _ _ e => of_hidT e, Nat.le_of_eq (hidT_size _ _), trivial, fun _ z => (by cases z), ok, .of_eq hg⟩
    have promise : spD K 1 T [.ref a] H (fun v _ => v = .bl true) E0 :=
      ⟨⟨fun _ => false, fun _ => false, fun _ => false⟩, [.val (.scr ns)], fun d => d = .bl true, noE, fun _ => rfl, rfl, .cons (show R K (hid _ H) (.ref a) (.scr ns) by rw [hid0]; exact .scr sq) .nil,
        ⟨fun _ z => (by cases z), fun _ z => (by cases z), fun _ z => (by cases z), fun _ z => (by cases z)⟩, fun _ _ _ _ z _ _ _ => z.elim, hT, fun d v H' e _ r => by
          subst e
          cases r
          rfl⟩
    refine codeAny_mono (F _ inK (nsK hns) callerA [] s₁ H [.ref a] [.ref a] _ _ rfl hr e0 (.cons rfl .nil) promise) fun res s' z => ?_
    match res, z with
    | .error e, z => exact z.elim
    | .ok .next, z => exact False.elim z
    | .ok .brk, z => exact False.elim z
    | .ok .cont, z => exact False.elim z
    | .ok (.ret u), z =>
      obtain ⟨v, H', os, bare, un, ok', r', q⟩ := z
      have q' : v = .bl true := q
      subst q'
      cases (show u = Value.bool true from r')
      refine ⟨rfl, OldK.of_keep fun c o e => ?_, os, bare⟩
      rcases only c with z | ⟨ob, xs, z⟩
      · exact un.keep c o e z (fun y => by cases y) (fun y => by cases y)
      · have e1 := (ok c _ z).1
        have e2 := (ok' c _ (un.frzs c ob _ z)).1
        rw [e] at e1
        cases e1
        exact e2
  have rv := vals_ints hi
  cases hk : K.lookup a with
  | some o =>
    have e := KX a o hk
    rw [ha] at e
    cases e
    exact key (fun _ => none) (fun _ => .inl rfl) (.inr ⟨_, vs.toArray, _, hk, rfl, rfl, rfl, by rw [List.size_toArray, lv]; exact hl, by simpa using rv⟩) (fun _ _ z => (by cases z)) fun _ z => absurd rfl z
  | none =>
    have at_ : ∀ {c : Addr} {u : HO}, (if c = a then some (HO.frz { cls := .type "list", data := .seq vs.toArray } (.lst (ns.map V.int))) else none) = some u → c = a ∧ u = .frz { cls := .type "list", data := .seq vs.toArray } (.lst (ns.map V.int)) := fun {c u} z => by
      by_cases hc : c = a
      · rw [if_pos hc] at z
        exact ⟨hc, (Option.some.inj z).symm⟩
      · rw [if_neg hc] at z
        cases z
    refine key (fun c => if c = a then some (.frz { cls := .type "list", data := .seq vs.toArray } (.lst (ns.map V.int))) else none) (fun c => ?_) (.inl (.inr ⟨_, if_pos rfl⟩)) (fun c u z => ?_) fun c z => ⟨?_, hk⟩
    · by_cases hc : c = a
      · exact .inr ⟨_, _, if_pos hc⟩
      · exact .inl (if_neg hc)
    · obtain ⟨z1, z2⟩ := at_ z
      subst z1 z2
      exact ⟨ha, by rw [List.length_map]; exact hl, vs, _, rv, ha⟩
    · by_cases hc : c = a
      · exact hc
      · exact absurd (if_neg hc) z
theorem walk {l : PySem.W.OpenLaw} {n k : Nat} {q : Program} {loose : List Str} {XP : (Str → Option Value) → Heap → Prop} {YP : World → Heap → Prop} {d : DefRec} {K : Params → PySem.W.Frag} {T : DSp}
    (hn : l.most = some n) (hn2 : n ≤ sizeLine) (hdf : d.params.defaults = []) (hr : Room k callerA) (hY : ∀ (w : World) (h : Heap), YP w h → (K w.params).In h)
    (F : ∀ (w : World) (mg : Str → Option Value) (fa : Addr) (h : Heap), (K w.params).In h → h.Ns mainGlobals mg → mg d.name = some (.ref fa) →
      ∀ base : Heap, (K w.params).In base → base.Ns mainGlobals mg → FnG l.prog w (K w.params) mg base CX0 k fa (spD (K w.params) 1 T))
    (hT : ∀ ns : List Int, ns.length ≤ n → T noE [.val (.scr ns)] fun d => d = .bl true) :
    PySem.W.WalkO q loose XP YP l.row.toRowW d [] (fun f vs => PySem.call f vs) := by
  refine Att.attach_call hn hdf fun w s₀ s₁ mg mb fa o pm cd doc a vs ns G Y ho hd hcd hmg hobj hints hlen hg => ?_
  exact law_end (hY w _ Y) G.T.g G.T.b G.T.builtins G.T.nolimit hg hobj hints (Nat.le_trans hlen hn2) hr (F w mg fa _ (hY w _ Y) G.T.g hmg) (hT ns hlen)

/-! ### the bag of draws -/
section
variable {X : Cx} {EX : XK} {e : Expr} {T : DTE} {pos p2 p3 pos' : Pos} {x : Str}
/-- bag[k], k written: some int -/
def dBag (i k : Nat) : DTE := fun _ ρ K => match ρ[i]? with
  | some (some .bag) => k < 3 ∧ ∀ n : Int, K (.int n)
  | _ => False
theorem bag_at (a b c : Int) (k : Nat) (h : k < 3) : ∃ n : Int, atI [V.int a, V.int b, V.int c] (k : Int) = some (.int n) := by
  match k, h with
  | 0, _ => exact ⟨a, rfl⟩
  | 1, _ => exact ⟨b, rfl⟩
  | 2, _ => exact ⟨c, rfl⟩
theorem d_bag (i k : Nat) {j : Nat} (hN : X.N[i]? = some x := by rfl) (hv : Vis X.env.scope x := by first | exact Or.inl rfl | exact Or.inr (Or.inl rfl) | exact Or.inr (Or.inr rfl)) (hd : (x == ("__debug__" : Str)) = false := by decide) (hcd : (x == ("__classdict__" : Str)) = false := by decide) :
    PDe X EX (.Subscript (.Name x p2) (.Constant (.int (k : Int)) j p3) pos) (dBag i k) := peW (pe_ix ix_list (pe_var hN hv hd hcd) pe_int (fun _ _ => rfl)) fun σ H Q h => by
  obtain ⟨c, ρ, Kd, Ed, s, h, q⟩ := h
  unfold dBag at h
  split at h
  · rename_i eb
    obtain ⟨a, e1, hB⟩ := s.r.bag i eb
    obtain ⟨x1, y1, z1, hH⟩ := s.k.bag a hB
    obtain ⟨n, hn⟩ := bag_at x1 y1 z1 k h.1
    exact ⟨_, e1, _, _, _, _, rfl, rfl, SqL.of hH, hn, q _ _ H (h.2 n) (Ext.refl _ _) (.int _)⟩
  · exact h.elim
/-- bag[k] = an int -/
def sBag (i k : Nat) (T : DTE) : DTS := fun E ρ => T E.ex ρ fun d => match d, ρ[i]? with
  | .int _, some (some .bag) => k < 3 ∧ E.nx ρ
  | _, _ => False
theorem bag_set (a b c n : Int) (k : Nat) (h : k < 3) : ∃ x y z : Int, ([V.int a, V.int b, V.int c] : List V).set k (.int n) = [.int x, .int y, .int z] := by
  match k, h with
  | 0, _ => exact ⟨n, b, c, rfl⟩
  | 1, _ => exact ⟨a, n, c, rfl⟩
  | 2, _ => exact ⟨a, b, n, rfl⟩
theorem s_bag (i k : Nat) {j : Nat} (he : PDe X EX e T) (hN : X.N[i]? = some x := by rfl) (hv : Vis X.env.scope x := by first | exact Or.inl rfl | exact Or.inr (Or.inl rfl) | exact Or.inr (Or.inr rfl)) (hd : (x == ("__debug__" : Str)) = false := by decide) (hcd : (x == ("__classdict__" : Str)) = false := by decide)
    (hs : swapsWithSole [.Subscript (.Name x p2) (.Constant (.int (k : Int)) j p3) pos'] e pos.line X.env = pure false := by rfl) (hw : swappedStores [.Subscript (.Name x p2) (.Constant (.int (k : Int)) j p3) pos'] e X.env = pure none := by rfl)
    (h1 : (assignEach [.Subscript (.Name x p2) (.Constant (.int (k : Int)) j p3) pos'] X.env).map (·.2) = [assign (.Subscript (.Name x p2) (.Constant (.int (k : Int)) j p3) pos') X.env] := by rfl)
    (ha : ∀ v, assign (.Subscript (.Name x p2) (.Constant (.int (k : Int)) j p3) pos') X.env v = (do
      let ov ← holding [v] (eval (.Name x p2) X.env)
      let iv ← holding [v, ov] (eval (.Constant (.int (k : Int)) j p3) X.env)
      standAt pos'
      holding [v, ov, iv] (setItem ov iv v)
      release [v, ov, iv] []) := by intro _; rfl) :
    PDs X EX (.Assign [.Subscript (.Name x p2) (.Constant (.int (k : Int)) j p3) pos'] e pos) (sBag i k T) := psW (ps_asg he (pg_sub (pe_var hN hv hd hcd) pe_int set_list ha) hs hw h1) fun D0 σ H h => by
  obtain ⟨c, ρ, E, s, h, q⟩ := h
  refine ⟨c, ρ, _, _, s, h, fun d v H1 k1 e1 r => ?_⟩
  have s1 := s.ext e1
  split at k1
  · rename_i n eb
    cases r
    obtain ⟨a, ea, hB⟩ := s1.r.bag i eb
    obtain ⟨x1, y1, z1, hH⟩ := s1.k.bag a hB
    obtain ⟨x2, y2, z2, hs2⟩ := bag_set x1 y1 z1 n k k1.1
    have hO := s1.k.bo a hB
    refine ⟨_, ea, a, _, (k : Int), k, rfl, rfl, hH, Evl.ixN_nat (by simpa using k1.1), ?_⟩
    rw [hs2]
    have hk2 : Hk c (upd H1 a (.lst [.int x2, .int y2, .int z2])) := by
      refine ⟨s1.k.bo, fun b hb => ?_, fun b hb => ?_, s1.k.fo⟩
      · by_cases e : b = a
        · rw [e]; exact ⟨x2, y2, z2, upd_same⟩
        · obtain ⟨x3, y3, z3, h3⟩ := s1.k.bag b hb
          exact ⟨x3, y3, z3, by rw [upd_ne e]; exact h3⟩
      · by_cases e : b = a
        · rw [e]; exact ⟨_, upd_same⟩
        · rw [upd_ne e]; exact s1.k.al b hb
    have ex : Ext c.B H1 (upd H1 a (.lst [.int x2, .int y2, .int z2])) := by
      refine ⟨fun b o hb hh => ?_, fun _ => hk2.bag, fun b o hh => ?_⟩
      · rw [upd_ne]
        · exact hh
        · intro z
          rw [z, hB] at hb
          cases hb
      · by_cases e : b = a
        · rw [e]; exact ⟨_, upd_same⟩
        · rw [upd_ne e]; exact ⟨o, hh⟩
    exact q.nx c ρ σ _ k1.2 (.of (e1.trans ex)) (s1.r.ext s1.k ex) hk2
  · exact k1.elim
end
/-! ### a new list handed back; a new bag -/
section
variable {X : Cx} {EX : XK} {e : Expr} {es : List Expr} {T : DTE} {Tv : DTV} {pos p : Pos} {x : Str}
def sRetL (Tv : DTV) : DTS := fun E ρ => Tv E.ex ρ fun ds => ds.length ≤ 1000000 ∧ E.rn ds
theorem s_retL (h : PDv X EX es Tv) : PDs X EX (.Return (some (.List es pos)) p) (sRetL Tv) := psW (L2.ps_ret (pe_lst h)) fun D0 σ H h => by
  obtain ⟨c, ρ, E, s, h, q⟩ := h
  refine ⟨c, ρ, _, _, s, h, fun ds vs H1 k e r => ⟨by rw [r.length]; exact szL k.1, fun a ha => ?_⟩⟩
  have s1 := s.ext e
  have k1 := s1.k
  have x := Ext.new (o := HO.lst vs) ha k1.bag
  exact q.rn c ds a vs _ k.2 (.of (e.trans x)) (k1.ext x) (al_back e.al ha) (k1.fresh ha) upd_same (r.mono (sub_with k1 ha fun b o hb hh => x.keep b o (k1.nob hb) hh))
/-- x = f(..), f hands back a new list of three ints: a bag from now on -/
def sBagCall (i n : Nat) (T : DSn) (Ta : DTA) : DTS := fun E ρ => Ta E.ex ρ fun ss => ss.length = n ∧ T E.ex ss fun ds => match ds with
  | [.int _, .int _, .int _] => i < ρ.length ∧ E.nx (ρ.set i (some .bag))
  | _ => False
theorem s_bagCall (i : Nat) {CX : CXT} {k n : Nat} {f : Str} {T : DSn} {Ta : DTA} {pos' : Pos} (F : CalleeN X.prog X.w X.K X.mg X.base CX k f n T) (hgu : X.A.guards = some []) (hr : Room k X.A) (hx : Passes CX X EX) (hN : X.N.Nodup) (ha : PDa X EX (e :: es) Ta) (hg : Gl X f := by rfl)
    (hdb : (f == ("__debug__" : Str)) = false := by decide) (he : starEach (e :: es) X.env = (false, eval e X.env) :: starEach es X.env := by rfl) (hpl : (backTo pos (starEach es X.env)).any (·.1) = false := by rfl)
    (hi : X.N[i]? = some x := by rfl) (hxl : Loc X.env.scope x := by first | exact .inl rfl | exact .inr rfl) {spos : Pos} (hs : swapsWith (.Call (.Name f p) (e :: es) [] pos) (some (.Name x pos')) spos.line X.env = pure false := by rfl) (hf : X.fn x = true ∨ X.env.scope.names.lookup x = some .local := by first | exact .inl rfl | exact .inr rfl | assumption) :
    PDs X EX (.Assign [.Name x pos'] (.Call (.Name f p) (e :: es) [] pos) spos) (sBagCall i n T Ta) := by
  obtain ⟨fa, hm, hk, F⟩ := F
  have call : PE X (.Call (.Name f p) (e :: es) [] pos) (fun σ H Q => tA X.K EX Ta σ H fun vs H1 => spN X.K n T vs H1 Q EX) :=
    ⟨fun pins s σ H Q I h => wpAny_Call_Name_kw (ld_glob I hg hm (PySem.W.callWith_K (h₀ := X.base) I.ok.mod.kin hk (thn (ha.run pos pins s σ H _ I h) fun us s1 ⟨vs, H1, I1, r, q⟩ => ⟨I1.kIn, run_g F hgu hr hx I1 r q⟩) he hpl) hdb)⟩
  refine psW (ps_set hN hi hxl call hs hf) fun D0 σ H h => ?_
  obtain ⟨c, ρ, E, s, h, q⟩ := h
  refine ⟨c, ρ, _, _, s, h, fun ss vs H1 k e r => ?_⟩
  have s1 := s.ext e
  refine ⟨c.cal, ss, _, E.ex, fun _ => rfl, k.1, r.cal, s1.k.cal, s1.x.cal s1.k, k.2, fun ds a xs H2 kd e2 hn hl r2 => ?_⟩
  split at kd
  · rename_i x1 y1 z1
    have s2 := s1.ext e2
    have hnP : c.P a = false := s1.k.fresh hn
    have e3 : xs = [.int x1, .int y1, .int z1] := by
      cases r2 with
      | cons a1 t1 =>
        cases a1
        cases t1 with
        | cons a2 t2 =>
          cases a2
          cases t2 with
          | cons a3 t3 =>
            cases a3
            cases t3
            rfl
    subst e3
    have c' : ∃ c' : Cf, c' = ⟨fun b => c.O b || decide (b = a), c.F, fun b => c.B b || decide (b = a)⟩ := ⟨_, rfl⟩
    obtain ⟨c', hc'⟩ := c'
    have hP : c'.P = fun b => c.P b || decide (b = a) := by
      rw [hc']
      funext b
      show ((c.O b || decide (b = a)) || c.F b) = ((c.O b || c.F b) || decide (b = a))
      cases c.O b <;> cases c.F b <;> cases decide (b = a) <;> rfl
    have hFa : c.F a = false := by
      have z : (c.O a || c.F a) = false := hnP
      exact (Bool.or_eq_false_iff.mp z).2
    have or_a : ∀ {g : Addr → Bool} {b : Addr}, (g b || decide (b = a)) = true → g b = true ∨ b = a := fun h => (Bool.or_eq_true_iff.mp h).imp id of_decide_eq_true
    have st : Step c c' H1 H2 := by
      subst hc'
      refine ⟨fun b h => by simp [h], fun b h => (or_a h).imp id fun z => by rw [z]; exact hn, fun b h => by simp [h], fun b h => (or_a h).imp id fun z => by rw [z]; exact hn, fun b h => .inl h, fun b o hb _ hh => e2.keep b o hb hh, e2.al⟩
    have hk' : Hk c' H2 := by
      subst hc'
      refine ⟨fun b h => ?_, fun b h => ?_, fun b h => ?_, fun b h => ?_⟩
      · rcases or_a h with h | h
        · simp [s2.k.bo b h]
        · simp [h]
      · rcases or_a h with h | h
        · exact s2.k.bag b h
        · rw [h]; exact ⟨_, _, _, hl⟩
      · rw [hP] at h
        rcases or_a (g := c.P) h with h | h
        · exact s2.k.al b h
        · rw [h]; exact ⟨_, hl⟩
      · have z := s2.k.fo b h
        have hne : b ≠ a := fun w => by
          rw [w, hFa] at h
          cases h
        simp [z, hne]
    -- data of before the call stands apart from the new bag
    have rep : Rep X.K c' H2 (σ.set i (some (.ref a))) (ρ.set i (some .bag)) := by
      have sub1 : Sub (hid c.P H1) (hid c'.P H2) := st.sub s1.k
      have r1 := s1.r
      refine ⟨by simpa using r1.le, fun j d hj => ?_, fun j d hj => ?_, fun j hj => ?_, fun j l d d' b hj hl2 h1 h2 => ?_⟩
      · rcases set_cases hj with ⟨rfl, hl2, q⟩ | ⟨ne, q⟩
        · cases q
        · rw [List.getElem?_set_ne ne]
          obtain ⟨v, g1, g2⟩ := r1.val j d q
          exact ⟨v, g1, g2.mono sub1⟩
      · rcases set_cases hj with ⟨rfl, hl2, q⟩ | ⟨ne, q⟩
        · cases q
        · rw [List.getElem?_set_ne ne]
          obtain ⟨b, g1, g2, g3⟩ := r1.own j d q
          have nbF : ∀ {b : Addr}, c.F b = true → c.B b = false := fun {b} g2 => by
            cases z : c.B b with
            | false => rfl
            | true =>
              have w := s1.k.bo b z
              rw [s1.k.fo b g2] at w
              cases w
          refine ⟨b, g1, by rw [hc']; exact g2, ?_⟩
          exact g3.move (L := a) g2 (fun z => by rw [z, hFa] at g2; cases g2) (fun x o hx _ he => e2.keep x _ (nbF hx) he) (noDict_none hn) (fun x hx _ => by rw [hc']; exact hx) sub1
      · rcases set_cases hj with ⟨rfl, hl2, q⟩ | ⟨ne, q⟩
        · exact ⟨a, List.getElem?_set_self (Nat.lt_of_lt_of_le hl2 r1.le), by rw [hc']; simp⟩
        · rw [List.getElem?_set_ne ne]
          obtain ⟨b, g1, g2⟩ := r1.bag j q
          exact ⟨b, g1, by rw [hc']; simp [g2]⟩
      · rcases set_cases hj with ⟨rfl, _, q⟩ | ⟨ne, q⟩
        · cases q
        · rcases set_cases hl2 with ⟨rfl, _, q'⟩ | ⟨ne', q'⟩
          · cases q'
          · rw [List.getElem?_set_ne ne] at h1
            rw [List.getElem?_set_ne ne'] at h2
            exact r1.sep j l d d' b q q' h1 h2
    exact q.nx c' _ _ H2 kd.2 ((Step.of e).trans st) rep hk'
  · exact kd.elim
end
/-! ### built-ins where they stand -/
theorem room_u {A : Around} {k : Nat} (hr : Room k A) : A.units + 70 < cLine := by
  have := hr.un
  omega
theorem bt_len : bootBuiltins "len" = some (.builtin "len") := by decide +kernel
theorem bt_abs : bootBuiltins "abs" = some (.builtin "abs") := by decide +kernel
theorem bt_sum : bootBuiltins "sum" = some (.builtin "sum") := by decide +kernel
theorem bt_all : bootBuiltins "all" = some (.builtin "all") := by decide +kernel
theorem bt_any : bootBuiltins "any" = some (.builtin "any") := by decide +kernel
theorem bt_repr : bootBuiltins "repr" = some (.builtin "repr") := by decide +kernel
theorem bt_max : bootBuiltins "max" = some (.builtin "max") := by decide +kernel
theorem bt_min : bootBuiltins "min" = some (.builtin "min") := by decide +kernel
theorem bt_sorted : bootBuiltins "sorted" = some (.builtin "sorted") := by decide +kernel
theorem bt_int : bootBuiltins "int" = some (.type "int") := by decide +kernel
theorem bt_bool : bootBuiltins "bool" = some (.type "bool") := by decide +kernel
theorem bt_str : bootBuiltins "str" = some (.type "str") := by decide +kernel
theorem bt_tuple : bootBuiltins "tuple" = some (.type "tuple") := by decide +kernel
theorem bt_list : bootBuiltins "list" = some (.type "list") := by decide +kernel
theorem bt_dict : bootBuiltins "dict" = some (.type "dict") := by decide +kernel

section
variable {X : Cx} {EX : XK} {a b tg e e2 : Expr} {es : List Expr} {T : DTE} {Tv : DTV} {pos : Pos}
def iR2 (Tv : DTV) : DTI := fun E ρ K => Tv E ρ fun ds => match ds with
  | [.int i, .int j] => -(2 ^ 62) ≤ i ∧ i < 2 ^ 62 ∧ -(2 ^ 62) ≤ j ∧ j < 2 ^ 62 ∧ K (rngD i (j - i).toNat)
  | _ => False
theorem i_range2 {p : Pos} (h : PDv X EX [a, b] Tv) (hm : X.mg "range" = none) (hg : Gl X "range" := by rfl) (hs : starEach [a, b] X.env = [(false, eval a X.env), (false, eval b X.env)] := by rfl) (hs2 : starEach [b] X.env = [(false, eval b X.env)] := by rfl) : PDi X EX tg (.Call (.Name "range" p) [a, b] [] pos) (iR2 Tv) :=
  piW (pi_range2 hg hm h hs hs2) fun σ H Q h => by
    obtain ⟨c, ρ, Kd, Ed, s, h, q⟩ := h
    refine ⟨c, ρ, _, Ed, s, h, fun ds vs H1 k e r => ?_⟩
    match ds, k with
    | [.int i, .int j], ⟨h1, h2, h3, h4, k⟩ =>
      cases r with
      | cons r1 r =>
        cases r with
        | cons r2 r =>
          cases r
          cases r1
          cases r2
          exact ⟨_, _, rfl, ⟨h1, h2, h3, h4⟩, q _ _ _ _ _ k e walkR⟩
/-- pairs -/
def prD (x y : D) : D := .tup [x, y]
theorem pairD {K : PySem.W.Frag} {c2 : Cf} {H2 H3 : Hp} {x : V} {d1 d2 : D} {v1 v2 : V} {Tn : Addr} (k : Hk c2 H2) (hT : H2 Tn = none) (e : H3 = upd H2 Tn (.tup [v1, v2])) (hx : x = .ref Tn) (r1 : R K (hid c2.P H2) v1 d1) (r2 : R K (hid c2.P H2) v2 d2) :
    Ext c2.B H2 H3 ∧ R K (hid c2.P H3) x (prD d1 d2) := by
  subst e hx
  exact ⟨Ext.new hT k.bag, newTup k hT (.cons r1 (.cons r2 .nil))⟩
def enumD (ds : List D) : List D := ds.zipIdx.map fun p => prD (.int (p.2 : Nat)) p.1
def zipD (xs ys : List D) : List D := (xs.zip ys).map fun p => prD p.1 p.2
theorem enumD_get (ds : List D) (i : Nat) : (enumD ds)[i]? = ds[i]?.map fun d => prD (.int (i : Nat)) d := by
  unfold enumD
  rw [List.getElem?_map, List.getElem?_zipIdx]
  cases ds[i]? with
  | none => rfl
  | some d => simp
theorem zipD_get : ∀ (xs ys : List D) (i : Nat), (zipD xs ys)[i]? = (match xs[i]?, ys[i]? with | some x, some y => some (prD x y) | _, _ => none)
  | [], _, i => by simp [zipD]
  | x :: xs, [], i => by
    simp only [zipD, List.zip_nil_right, List.map_nil, List.getElem?_nil]
    split <;> first | rfl | simp_all
  | x :: xs, y :: ys, 0 => rfl
  | x :: xs, y :: ys, i + 1 => by
    show (zipD xs ys)[i]? = _
    rw [zipD_get xs ys i]
    rfl
theorem zipD_len (xs ys : List D) : (zipD xs ys).length = min xs.length ys.length := by simp [zipD]
theorem enumD_len (xs : List D) : (enumD xs).length = xs.length := by simp [enumD]
theorem walkE {K : PySem.W.Frag} {c : Cf} {H : Hp} {a : Addr} {xs : List V} {ds : List D} (k : Hk c H) (h : SqL K (hid c.P H) a xs) (r : Rs K (hid c.P H) xs ds) : WalkD K c H (enumD ds) (Ite K a) (fun H => SqL K H a xs) (YPair (fun i => some (.int (i : Nat))) (fun i => xs[i]?)) := by
  refine ⟨by rw [enumD_len, ← r.length]; exact walk_enum, fun c2 H2 s k2 => hidL ((s.sub k).sl h), fun i c2 H2 x H3 hi s k2 y => ?_⟩
  obtain ⟨Tn, v1, v2, ex, hn, e3, e1, e2⟩ := y
  cases e1
  obtain ⟨d, e, rd⟩ := r.getV e2
  obtain ⟨x1, x2⟩ := pairD k2 hn e3 ex (.int (i : Nat)) (rd.mono (s.sub k))
  exact ⟨_, by rw [enumD_get, e]; rfl, x1, x2⟩
theorem zipY {K : PySem.W.Frag} {c c2 : Cf} {H H2 H3 : Hp} {xs ys : List V} {ds es : List D} {i : Nat} {x : V} (k : Hk c H) (s : Step c c2 H H2) (k2 : Hk c2 H2) (r1 : Rs K (hid c.P H) xs ds) (r2 : Rs K (hid c.P H) ys es) (y : YPair (fun i => xs[i]?) (fun i => ys[i]?) i H2 x H3) :
    ∃ d, (zipD ds es)[i]? = some d ∧ Ext c2.B H2 H3 ∧ R K (hid c2.P H3) x d := by
  obtain ⟨Tn, v1, v2, ex, hn, e3, e1, e2⟩ := y
  obtain ⟨d, e, rd⟩ := r1.getV e1
  obtain ⟨d', e', rd'⟩ := r2.getV e2
  obtain ⟨x1, x2⟩ := pairD k2 hn e3 ex (rd.mono (s.sub k)) (rd'.mono (s.sub k))
  exact ⟨_, by rw [zipD_get, e, e'], x1, x2⟩
theorem walkZ {K : PySem.W.Frag} {c : Cf} {H : Hp} {a b : Addr} {xs ys : List V} {ds es : List D} (k : Hk c H) (h : SqL K (hid c.P H) a xs) (h2 : SqL K (hid c.P H) b ys) (r : Rs K (hid c.P H) xs ds) (r2 : Rs K (hid c.P H) ys es) :
    WalkD K c H (zipD ds es) (Itz K a b) (fun H => SqL K H a xs ∧ SqL K H b ys) (YPair (fun i => xs[i]?) (fun i => ys[i]?)) := by
  refine ⟨?_, fun c2 H2 s k2 => ⟨hidL ((s.sub k).sl h), hidL ((s.sub k).sl h2)⟩, fun i c2 H2 x H3 hi s k2 y => zipY k s k2 r r2 y⟩
  exact walk_zip (by rw [zipD_len, ← r.length, ← r2.length])
theorem walk_zipT {K : PySem.W.Frag} {a b : Addr} {xs ys : List V} {n : Nat} (hn : n = min xs.length ys.length) : Walk (RZ.ItzT K a b) n (fun H => SqT K H a xs ∧ SqT K H b ys) (YPair (fun i => xs[i]?) (fun i => ys[i]?)) := by
  subst hn
  refine ⟨fun i _ hi q => ?_, fun _ q => ⟨xs, ys, q.1, q.2, by omega⟩, fun i H v H' _ q y => ?_⟩
  · have h1 : i < xs.length := by omega
    have h2 : i < ys.length := by omega
    exact ⟨xs, ys, xs[i], ys[i], q.1, q.2, by simp [h1], by simp [h2]⟩
  · obtain ⟨Tn, x, z, h1, h2, h3, h4, h5⟩ := y
    exact ⟨Tn, x, z, h1, h2, h3, h4 xs q.1, h5 ys q.2⟩
theorem walkZT {K : PySem.W.Frag} {c : Cf} {H : Hp} {a b : Addr} {xs ys : List V} {ds es : List D} (k : Hk c H) (h : SqT K (hid c.P H) a xs) (h2 : SqT K (hid c.P H) b ys) (r : Rs K (hid c.P H) xs ds) (r2 : Rs K (hid c.P H) ys es) :
    WalkD K c H (zipD ds es) (RZ.ItzT K a b) (fun H => SqT K H a xs ∧ SqT K H b ys) (YPair (fun i => xs[i]?) (fun i => ys[i]?)) := by
  refine ⟨?_, fun c2 H2 s k2 => ⟨hidT ((s.sub k).st h), hidT ((s.sub k).st h2)⟩, fun i c2 H2 x H3 hi s k2 y => zipY k s k2 r r2 y⟩
  exact walk_zipT (by rw [zipD_len, ← r.length, ← r2.length])
def iEn (Tv : DTV) : DTI := fun E ρ K => Tv E ρ fun ds => match ds with
  | [.lst xs] => K (enumD xs)
  | _ => False
theorem i_enum {p tpos : Pos} {elts : List Expr} {kk : Nat} (h : PDv X EX [e] Tv) (hm : X.mg "enumerate" = none) (hg : Gl X "enumerate" := by rfl) (hs : starEach [e] X.env = [(false, eval e X.env)] := by rfl) : PDi X EX (.Tuple elts kk tpos) (.Call (.Name "enumerate" p) [e] [] pos) (iEn Tv) :=
  piW (pi_enum hg hm h hs) fun σ H Q h => by
    obtain ⟨c, ρ, Kd, Ed, s, h, q⟩ := h
    refine ⟨c, ρ, _, Ed, s, h, fun ds vs H1 k e r => ?_⟩
    match ds, k with
    | [.lst xs], k =>
      cases r with
      | cons r1 r =>
        cases r
        cases r1 with
        | lst a z => exact ⟨_, _, rfl, SqL.of (hidG a), q _ _ _ _ _ k e (walkE (s.ext e).k (SqL.of a) z)⟩
def iZp (Tv : DTV) : DTI := fun E ρ K => Tv E ρ fun ds => match ds with
  | [.lst xs, .lst ys] => K (zipD xs ys)
  | [.tup xs, .tup ys] => K (zipD xs ys)
  | _ => False
theorem i_zip {p tpos : Pos} {elts : List Expr} {kk : Nat} (h : PDv X EX [e, e2] Tv) (hm : X.mg "zip" = none) (hg : Gl X "zip" := by rfl) (hs : starEach [e, e2] X.env = (false, eval e X.env) :: starEach [e2] X.env := by rfl) (hpl : (backTo pos (starEach [e2] X.env)).any (·.1) = false := by rfl) :
    PDi X EX (.Tuple elts kk tpos) (.Call (.Name "zip" p) [e, e2] [] pos) (iZp Tv) :=
  piW (RZ.pi_zipA hg hm h hs hpl) fun σ H Q h => by
    obtain ⟨c, ρ, Kd, Ed, s, h, q⟩ := h
    refine ⟨c, ρ, _, Ed, s, h, fun ds vs H1 k e r => ?_⟩
    match ds, k with
    | [.lst xs, .lst ys], k =>
      cases r with
      | cons r1 r =>
        cases r with
        | cons r2 r =>
          cases r
          cases r1 with
          | lst a z =>
            cases r2 with
            | lst a2 z2 => exact ⟨_, _, _, _, rfl, .inl ⟨SqL.of (hidG a), SqL.of (hidG a2), q _ _ _ _ _ k e (walkZ (s.ext e).k (SqL.of a) (SqL.of a2) z z2)⟩⟩
    | [.tup xs, .tup ys], k =>
      cases r with
      | cons r1 r =>
        cases r with
        | cons r2 r =>
          cases r
          cases r1 with
          | tup a z =>
            cases r2 with
            | tup a2 z2 => exact ⟨_, _, _, _, rfl, .inr ⟨hidT a, hidT a2, q _ _ _ _ _ k e (walkZT (s.ext e).k a a2 z z2)⟩⟩
end

/-! ### lists of the body's own -/
abbrev DTN := ED → Ev → (List D → Prop) → Prop
/-- an expression that hands back a new list -/
def tN (K : PySem.W.Frag) (EX : XK) (T : DTN) : TE := fun σ H Q => ∃ c ρ Kd Ed, St0 K EX c H σ ρ Ed ∧ T Ed ρ Kd ∧ ∀ ds a xs H', Kd ds → Ext c.B H H' → H a = none → H' a = some (.lst xs) → Rs K (hid (c.with a).P H') xs ds → Q (.ref a) H'
abbrev PDn (X : Cx) (EX : XK) (e : Expr) (T : DTN) : Prop := PE X e (tN X.K EX T)
theorem step_with {c : Cf} {H H' : Hp} {a : Addr} (e : Ext c.B H H') (hn : H a = none) : Step c (c.with a) H H' := by
  refine ⟨fun _ h => h, fun _ h => .inl h, fun _ h => h, fun _ h => .inl h, fun b h => ?_, fun b o hb _ he => e.keep b o hb he, e.al⟩
  rcases Bool.or_eq_true_iff.mp h with h | h
  · exact .inl h
  · rw [of_decide_eq_true h]
    exact .inr hn
theorem hk_with {c : Cf} {H H' : Hp} {a : Addr} {o : HO} (k : Hk c H) (e : Ext c.B H H') (hn : H a = none) (hl : H' a = some o) : Hk (c.with a) H' := by
  refine ⟨k.bo, e.bag k.bag, fun b h => ?_, fun b h => ?_⟩
  · rw [with_P] at h
    rcases Bool.or_eq_true_iff.mp h with h | h
    · obtain ⟨u, q⟩ := k.al b h
      exact e.al b u q
    · rw [of_decide_eq_true h]
      exact ⟨_, hl⟩
  · rcases Bool.or_eq_true_iff.mp h with h | h
    · exact k.fo b h
    · rw [of_decide_eq_true h]
      have q := k.fresh hn
      simp only [Cf.P, Bool.or_eq_false_iff] at q
      exact q.1
theorem rep_with {K : PySem.W.Frag} {c : Cf} {H H' : Hp} {σ : L2.St} {ρ : Ev} {a : Addr} {xs : List V} {ds : List D} (r : Rep K c H σ ρ) (k : Hk c H) (e : Ext c.B H H') (hn : H a = none) (hl : H' a = some (.lst xs)) (rx : Rs K (hid (c.with a).P H') xs ds) (i : Nat) :
    Rep K (c.with a) H' (σ.set i (some (.ref a))) (ρ.set i (some (.own (.lst ds)))) := by
  have nP := k.fresh hn
  have nF : c.F a = false := by
    simp only [Cf.P, Bool.or_eq_false_iff] at nP
    exact nP.2
  have sub : Sub (hid c.P H) (hid (c.with a).P H') := sub_with k hn fun b o hP he => e.keep b o (k.nob hP) he
  have na : ∀ {b : Addr}, c.F b = true → b ≠ a := fun hb z => by
    rw [z, nF] at hb
    cases hb
  have wF : ∀ {b : Addr}, c.F b = true → (c.with a).F b = true := fun hb => by simp [Cf.with, hb]
  have oldO : ∀ {b : Addr} {d : D}, c.F b = true → OwnAt K c H b d → OwnAt K (c.with a) H' b d := fun {b d} hb h => by
    have nbF : ∀ {b : Addr}, c.F b = true → c.B b = false := fun {b} hb => by
      cases z : c.B b with
      | false => rfl
      | true =>
        have w := k.bo b z
        rw [k.fo b hb] at w
        cases w
    exact h.move hb (na hb) (fun x o hx _ he => e.keep x _ (nbF hx) he) (noDict_none hn) (fun x hx _ => wF hx) sub
  refine ⟨by simpa using r.le, fun j d hj => ?_, fun j d hj => ?_, fun j hj => ?_, fun j l d d' b hj hl2 h1 h2 => ?_⟩
  · rcases set_cases hj with ⟨rfl, hl2, q⟩ | ⟨ne, q⟩
    · cases q
    · rw [List.getElem?_set_ne ne]
      obtain ⟨v, g1, g2⟩ := r.val j d q
      exact ⟨v, g1, g2.mono sub⟩
  · rcases set_cases hj with ⟨rfl, hl2, q⟩ | ⟨ne, q⟩
    · cases q
      exact ⟨a, List.getElem?_set_self (Nat.lt_of_lt_of_le hl2 r.le), by simp [Cf.with], xs, hl, rx⟩
    · rw [List.getElem?_set_ne ne]
      obtain ⟨b, g1, g2, g3⟩ := r.own j d q
      exact ⟨b, g1, wF g2, oldO g2 g3⟩
  · rcases set_cases hj with ⟨rfl, hl2, q⟩ | ⟨ne, q⟩
    · cases q
    · rw [List.getElem?_set_ne ne]
      exact r.bag j q
  · rcases set_cases hj with ⟨rfl, hlj, q⟩ | ⟨ne, q⟩
    · rcases set_cases hl2 with ⟨rfl, _, q'⟩ | ⟨ne', q'⟩
      · rfl
      · rw [List.getElem?_set_self (Nat.lt_of_lt_of_le hlj r.le)] at h1
        rw [List.getElem?_set_ne ne'] at h2
        obtain ⟨b', g1, g2, _⟩ := r.own l d' q'
        cases h1
        rw [g1] at h2
        cases h2
        exact absurd rfl (na g2)
    · rcases set_cases hl2 with ⟨rfl, hll, q'⟩ | ⟨ne', q'⟩
      · rw [List.getElem?_set_ne ne] at h1
        rw [List.getElem?_set_self (Nat.lt_of_lt_of_le hll r.le)] at h2
        obtain ⟨b', g1, g2, _⟩ := r.own j d q
        cases h2
        rw [g1] at h1
        cases h1
        exact absurd rfl (na g2)
      · rw [List.getElem?_set_ne ne] at h1
        rw [List.getElem?_set_ne ne'] at h2
        exact r.sep j l d d' b q q' h1 h2
section
variable {X : Cx} {EX : XK} {e a b : Expr} {es : List Expr} {T : DTE} {Tn : DTN} {Tv : DTV} {pos p p2 p3 pos' : Pos} {x : Str}
def nLst (Tv : DTV) : DTN := fun E ρ K => Tv E ρ fun ds => ds.length ≤ 1000000 ∧ K ds
theorem n_lst (h : PDv X EX es Tv) : PDn X EX (.List es pos) (nLst Tv) := peW (pe_lst h) fun σ H Q h => by
  obtain ⟨c, ρ, Kd, Ed, s, h, q⟩ := h
  refine ⟨c, ρ, _, Ed, s, h, fun ds vs H1 k e r => ⟨by rw [r.length]; exact szL k.1, fun l hl => ?_⟩⟩
  have s1 := s.ext e
  have x := Ext.new (o := HO.lst vs) hl s1.k.bag
  exact q ds l vs _ k.2 (e.trans x) (al_back e.al hl) upd_same (r.mono (sub_with s1.k hl fun b o hb hh => x.keep b o (s1.k.nob hb) hh))
def nList (Tv : DTV) : DTN := fun E ρ K => Tv E ρ fun ds => match ds with
  | [.lst xs] => K xs
  | [.tup xs] => K xs
  | _ => False
theorem n_list (hm : X.mg "list" = none) (ha : PDv X EX (e :: es) Tv) (hg : Gl X "list" := by rfl)
    (he : starEach (e :: es) X.env = (false, eval e X.env) :: starEach es X.env := by rfl) (hpl : (backTo pos (starEach es X.env)).any (·.1) = false := by rfl) : PDn X EX (.Call (.Name "list" p) (e :: es) [] pos) (nList Tv) :=
  peW (pe_callTy call_list_of hg hm bt_list ha (by decide) (by decide) he hpl) fun σ H Q h => by
    obtain ⟨c, ρ, Kd, Ed, s, h, q⟩ := h
    refine ⟨c, ρ, _, Ed, s, h, fun ds vs H1 k e r => ?_⟩
    have s1 := s.ext e
    have fin : ∀ (zs : List V) (xs : List D), Kd xs → Rs X.K (hid c.P H1) zs xs → ∀ l, H1 l = none → Q (.ref l) (upd H1 l (.lst zs)) := fun zs xs hk r l hl => by
      have x := Ext.new (o := HO.lst zs) hl s1.k.bag
      exact q xs l zs _ hk (e.trans x) (al_back e.al hl) upd_same (r.mono (sub_with s1.k hl fun b o hb hh => x.keep b o (s1.k.nob hb) hh))
    match ds, k with
    | [.lst xs], k =>
      cases r with
      | cons r1 r =>
        cases r
        cases r1 with
        | lst a z => exact ⟨_, _, rfl, .inl (SqL.of (hidG a)), fin _ _ k z⟩
    | [.tup xs], k =>
      cases r with
      | cons r1 r =>
        cases r
        cases r1 with
        | tup a z => exact ⟨_, _, rfl, .inr (hidT a), fin _ _ k z⟩
/-- x = a new list, from now on the body's own -/
def sOwn (i : Nat) (Tn : DTN) : DTS := fun E ρ => Tn E.ex ρ fun ds => i < ρ.length ∧ E.nx (ρ.set i (some (.own (.lst ds))))
theorem s_own (i : Nat) (hN : X.N.Nodup) (h : PDn X EX e Tn) {spos : Pos} (hi : X.N[i]? = some x := by rfl) (hxl : Loc X.env.scope x := by first | exact .inl rfl | exact .inr rfl)
    (hs : swapsWith e (some (.Name x pos')) spos.line X.env = pure false := by rfl) (hf : X.fn x = true ∨ X.env.scope.names.lookup x = some .local := by first | exact .inl rfl | exact .inr rfl | assumption) :
    PDs X EX (.Assign [.Name x pos'] e spos) (sOwn i Tn) := psW (ps_set hN hi hxl h hs hf) fun D0 σ H h => by
  obtain ⟨c, ρ, E, s, h, q⟩ := h
  refine ⟨c, ρ, _, _, s, h, fun ds a xs H1 k e hn hl rx => ?_⟩
  exact q.nx (c.with a) _ _ H1 k.2 (step_with e hn) (rep_with s.r s.k e hn hl rx i) (hk_with s.k e hn hl)
/-- what stands in an own slot -/
theorem own_at {K : PySem.W.Frag} {c : Cf} {H : Hp} {σ : L2.St} {ρ : Ev} {i : Nat} {ds : List D} (r : Rep K c H σ ρ) (h : ρ[i]? = some (some (.own (.lst ds)))) : ∃ a xs, σ[i]? = some (some (.ref a)) ∧ c.F a = true ∧ H a = some (.lst xs) ∧ Rs K (hid c.P H) xs ds := by
  obtain ⟨a, h1, h2, xs, h3, h4⟩ := r.own i _ h
  exact ⟨a, xs, h1, h2, h3, h4⟩
/-- the body's own list is changed: ys for what stood there -/
theorem own_put {K : PySem.W.Frag} {c : Cf} {H : Hp} {σ : L2.St} {ρ : Ev} {i : Nat} {a : Addr} {ds es : List D} {ys : List V} (r : Rep K c H σ ρ) (k : Hk c H) (h : ρ[i]? = some (some (.own (.lst ds)))) (e1 : σ[i]? = some (some (.ref a))) (hF : c.F a = true) (ry : Rs K (hid c.P H) ys es) :
    Rep K c (upd H a (.lst ys)) σ (ρ.set i (some (.own (.lst es)))) ∧ Hk c (upd H a (.lst ys)) ∧ Step c c H (upd H a (.lst ys)) := by
  obtain ⟨k2, sub⟩ := own_upd (o := HO.lst ys) k hF
  obtain ⟨xs0, hla⟩ : ∃ xs, H a = some (.lst xs) := by
    obtain ⟨a', g1, g2, xs, g3, _⟩ := r.own i _ h
    rw [e1] at g1
    cases g1
    exact ⟨xs, g3⟩
  have hil : i < ρ.length := by
    rcases Nat.lt_or_ge i ρ.length with z | z
    · exact z
    · rw [List.getElem?_eq_none z] at h
      cases h
  refine ⟨⟨by simpa using r.le, fun j d hj => ?_, fun j d hj => ?_, fun j hj => ?_, fun j l d d' b hj hl2 h1 h2 => ?_⟩, k2, fun _ h => h, fun _ h => .inl h, fun _ h => h, fun _ h => .inl h, fun _ h => .inl h, fun b o hb hf he => ?_, fun b o he => ?_⟩
  · rcases set_cases hj with ⟨rfl, hl2, q⟩ | ⟨ne, q⟩
    · cases q
    · obtain ⟨v, g1, g2⟩ := r.val j d q
      exact ⟨v, g1, g2.mono sub⟩
  · rcases set_cases hj with ⟨rfl, hl2, q⟩ | ⟨ne, q⟩
    · cases q
      exact ⟨a, e1, hF, ys, upd_same, ry.mono sub⟩
    · obtain ⟨b, g1, g2, g3⟩ := r.own j d q
      have na : b ≠ a := fun z => ne (r.sep i j _ _ a h q e1 (by rw [g1, z]))
      refine ⟨b, g1, g2, ?_⟩
      exact g3.move g2 na (fun x o _ hx he => by rw [upd_ne hx]; exact he) (noDict_lst hla) (fun x hx _ => hx) sub
  · rcases set_cases hj with ⟨rfl, hl2, q⟩ | ⟨ne, q⟩
    · cases q
    · exact r.bag j q
  · have back : ∀ {j : Nat} {d : D}, (ρ.set i (some (.own (.lst es))))[j]? = some (some (.own d)) → ∃ d0, ρ[j]? = some (some (.own d0)) := fun {j d} hj => by
      rcases set_cases hj with ⟨rfl, _, _⟩ | ⟨_, q⟩
      · exact ⟨_, h⟩
      · exact ⟨_, q⟩
    obtain ⟨_, q1⟩ := back hj
    obtain ⟨_, q2⟩ := back hl2
    exact r.sep j l _ _ b q1 q2 h1 h2
  · rw [upd_ne]
    · exact he
    · intro z
      rw [z, hF] at hf
      cases hf
  · by_cases z : b = a
    · rw [z]; exact ⟨_, upd_same⟩
    · rw [upd_ne z]; exact ⟨o, he⟩
theorem own_keep {c : Cf} {H H' : Hp} {a : Addr} {o : HO} (k : Hk c H) (e : Ext c.B H H') (hF : c.F a = true) (h : H a = some o) : H' a = some o := by
  refine e.keep a o ?_ h
  cases z : c.B a with
  | false => rfl
  | true =>
    have w := k.bo a z
    rw [k.fo a hF] at w
    cases w
theorem Rs.set_ {K : PySem.W.Frag} {H : Hp} : ∀ {xs : List V} {ds : List D} (j : Nat) {v : V} {d : D}, Rs K H xs ds → R K H v d → Rs K H (xs.set j v) (ds.set j d)
  | _, _, _, _, _, .nil, _ => .nil
  | _, _, 0, _, _, .cons _ t, h => .cons h t
  | _, _, j + 1, _, _, .cons a t, h => .cons a (Rs.set_ j t h)
/-- own[k] -/
def dOwnIx (i : Nat) (T : DTE) : DTE := fun E ρ K => match ρ[i]? with
  | some (some (.own (.lst ds))) => T E ρ fun d => match d with
    | .int k => (match atI ds k with | some d => K d | none => False)
    | _ => False
  | _ => False
theorem d_ownIx (i : Nat) (h : PDe X EX e T) (hs : PlainIx e := by exact fun _ _ => rfl) (hN : X.N[i]? = some x := by rfl) (hv : Vis X.env.scope x := by first | exact Or.inl rfl | exact Or.inr (Or.inl rfl) | exact Or.inr (Or.inr rfl)) (hd : (x == ("__debug__" : Str)) = false := by decide) (hcd : (x == ("__classdict__" : Str)) = false := by decide) :
    PDe X EX (.Subscript (.Name x p2) e pos) (dOwnIx i T) := peW (pe_ix ix_list (pe_var hN hv hd hcd) h hs) fun σ H Q h => by
  obtain ⟨c, ρ, Kd, Ed, s, h, q⟩ := h
  unfold dOwnIx at h
  split at h
  · rename_i ds eo
    obtain ⟨a, xs, e1, hF, hl, rx⟩ := own_at s.r eo
    refine ⟨_, e1, c, ρ, _, Ed, s, h, fun d v H1 k e r => ?_⟩
    split at k
    · rename_i j
      cases r
      split at k
      · rename_i d hd
        obtain ⟨v, hv, rv⟩ := (rx.mono (s.k.sub e)).atI hd
        exact ⟨_, _, _, _, rfl, rfl, SqL.of (own_keep s.k e hF hl), hv, q _ _ _ k e rv⟩
      · exact k.elim
    · exact k.elim
  · exact h.elim
def dOwnLen (i : Nat) : DTE := fun _ ρ K => match ρ[i]? with
  | some (some (.own (.lst ds))) => K (.int (ds.length : Nat))
  | _ => False
theorem d_ownLen (i : Nat) (hm : X.mg "len" = none) (hN : X.N[i]? = some x := by rfl) (hv : Vis X.env.scope x := by first | exact Or.inl rfl | exact Or.inr (Or.inl rfl) | exact Or.inr (Or.inr rfl)) (hd : (x == ("__debug__" : Str)) = false := by decide) (hcd : (x == ("__classdict__" : Str)) = false := by decide) (hg : Gl X "len" := by rfl)
    (he : starEach [Expr.Name x p2] X.env = (false, eval (Expr.Name x p2) X.env) :: starEach [] X.env := by rfl) (hpl : (backTo pos (starEach [] X.env)).any (·.1) = false := by rfl) :
    PDe X EX (.Call (.Name "len" p) [.Name x p2] [] pos) (dOwnLen i) := peW (pe_callB call_len_seq hg hm bt_len (pa_cons (pe_var hN hv hd hcd) pa_nil he) (by decide) (by decide) he hpl) fun σ H Q h => by
  obtain ⟨c, ρ, Kd, Ed, s, h, q⟩ := h
  unfold dOwnLen at h
  split at h
  · rename_i ds eo
    obtain ⟨a, xs, e1, hF, hl, rx⟩ := own_at s.r eo
    refine ⟨_, e1, ?_⟩
    exact ⟨a, xs, rfl, .inl (SqL.of hl), by rw [rx.length]; exact q _ _ _ h (Ext.refl _ _) (.int _)⟩
  · exact h.elim
/-- own[k] = v -/
def sOwnSet (i : Nat) (Tk Tv : DTE) : DTS := fun E ρ => match ρ[i]? with
  | some (some (.own (.lst ds))) => Tv E.ex ρ fun d => Tk E.ex ρ fun k => match k with
    | .int k => (match ixN ds.length k with | some j => E.nx (ρ.set i (some (.own (.lst (ds.set j d))))) | none => False)
    | _ => False
  | _ => False
theorem s_ownSet (i : Nat) {Tk T : DTE} (hk : PDe X EX a Tk) (he : PDe X EX e T) (hN : X.N[i]? = some x := by rfl) (hv : Vis X.env.scope x := by first | exact Or.inl rfl | exact Or.inr (Or.inl rfl) | exact Or.inr (Or.inr rfl)) (hd : (x == ("__debug__" : Str)) = false := by decide) (hcd : (x == ("__classdict__" : Str)) = false := by decide)
    (hs : swapsWithSole [.Subscript (.Name x p2) a pos'] e pos.line X.env = pure false := by rfl) (hw : swappedStores [.Subscript (.Name x p2) a pos'] e X.env = pure none := by rfl)
    (h1 : (assignEach [.Subscript (.Name x p2) a pos'] X.env).map (·.2) = [assign (.Subscript (.Name x p2) a pos') X.env] := by rfl)
    (ha : ∀ v, assign (.Subscript (.Name x p2) a pos') X.env v = (do
      let ov ← holding [v] (eval (.Name x p2) X.env)
      let iv ← holding [v, ov] (eval a X.env)
      standAt pos'
      holding [v, ov, iv] (setItem ov iv v)
      release [v, ov, iv] []) := by intro _; rfl) :
    PDs X EX (.Assign [.Subscript (.Name x p2) a pos'] e pos) (sOwnSet i Tk T) := psW (ps_asg he (pg_sub (pe_var hN hv hd hcd) hk set_list ha) hs hw h1) fun D0 σ H h => by
  obtain ⟨c, ρ, E, s, h, q⟩ := h
  unfold sOwnSet at h
  split at h
  · rename_i ds eo
    refine ⟨c, ρ, _, _, s, h, fun d v H1 k1 e1 r => ?_⟩
    have s1 := s.ext e1
    obtain ⟨l, xs, ea, hF, hl, rx⟩ := own_at s1.r eo
    refine ⟨_, ea, c, ρ, _, _, s1, k1, fun d2 v2 H2 k2 e2 r2 => ?_⟩
    have s2 := s1.ext e2
    split at k2
    · rename_i k
      cases r2
      split at k2
      · rename_i j hj
        obtain ⟨l', xs', ea', hF', hl', rx'⟩ := own_at s2.r eo
        have el : l' = l := by
          rw [ea] at ea'
          cases ea'
          rfl
        subst el
        obtain ⟨r3, k3, st⟩ := own_put (ys := xs'.set j v) s2.r s2.k eo ea hF (Rs.set_ j rx' (r.mono (s1.k.sub e2)))
        exact ⟨_, xs', _, j, rfl, rfl, hl', by rw [rx'.length]; exact hj, q.nx c _ _ _ k2 ((Step.of (e1.trans e2)).trans st) r3 k3⟩
      · exact k2.elim
    · exact k2.elim
  · exact h.elim
/-- own.append(v) -/
def sOwnApp (i : Nat) (T : DTE) : DTS := fun E ρ => match ρ[i]? with
  | some (some (.own (.lst ds))) => T E.ex ρ fun d => ds.length < 1000000 ∧ E.nx (ρ.set i (some (.own (.lst (ds ++ [d])))))
  | _ => False
theorem s_ownApp (i : Nat) {apos cpos : Pos} (he : PDe X EX e T) (hN : X.N[i]? = some x := by rfl) (hv : Vis X.env.scope x := by first | exact Or.inl rfl | exact Or.inr (Or.inl rfl) | exact Or.inr (Or.inr rfl)) (hd : (x == ("__debug__" : Str)) = false := by decide) (hcd : (x == ("__classdict__" : Str)) = false := by decide)
    (hbase : attributeBase (Expr.Name x p2) "append" X.env (eval (Expr.Name x p2) X.env) = eval (Expr.Name x p2) X.env := by rfl)
    (hfew : ((backTo cpos (starEach [e] X.env)).all (fun x => !x.1) && (backToKw cpos (keywordEach [] X.env)).all (fun x => x.1.isSome)
      && decide ([e].length + ([] : List Keyword).length + (if ([] : List Keyword).isEmpty then 0 else 1) < 30)) = true := by rfl)
    (hline : (apos.endLine == cpos.line) = true := by rfl) (hs : starEach [e] X.env = (false, eval e X.env) :: starEach [] X.env := by rfl) (hplain : (backTo cpos (starEach [] X.env)).any (·.1) = false := by rfl)
    (hsw : swapsWith (.Call (.Attribute (.Name x p2) "append" apos) [e] [] cpos) none pos.line X.env = pure false := by rfl) :
    PDs X EX (.Expr (.Call (.Attribute (.Name x p2) "append" apos) [e] [] cpos) pos) (sOwnApp i T) :=
  psW (ps_expr (pe_bm PySem.F.plainAttrs_list PySem.F.slot_list_append PySem.F.type_list_append mt_append (pe_var hN hv hd hcd) (pa_cons he pa_nil hs) hbase hfew hline hs hplain) hsw) fun D0 σ H h => by
  obtain ⟨c, ρ, E, s, h, q⟩ := h
  unfold sOwnApp at h
  split at h
  · rename_i ds eo
    obtain ⟨l, xs, ea, hF, hl, rx⟩ := own_at s.r eo
    refine ⟨_, ea, .inl ⟨rfl, _, SqL.of hl⟩, c, ρ, _, _, s, h, fun d v H1 k1 e1 r => ?_⟩
    have s1 := s.ext e1
    obtain ⟨l', xs', ea', hF', hl', rx'⟩ := own_at s1.r eo
    have el : l' = l := by
      rw [ea] at ea'
      cases ea'
      rfl
    subst el
    obtain ⟨r3, k3, st⟩ := own_put (ys := xs' ++ [v]) s1.r s1.k eo ea hF (rx'.app (.cons r .nil))
    refine ⟨_, xs', v, rfl, rfl, hl', ?_, q.nx c _ _ _ k1.2 ((Step.of e1).trans st) r3 k3⟩
    rw [rx'.length]
    exact Nat.lt_of_lt_of_le k1.1 (by decide)
  · exact h.elim
end

/-! ### the body's own list as a value from now on -/
def Cf.drop (c : Cf) (a : Addr) : Cf := ⟨c.O, fun b => c.F b && !decide (b = a), c.B⟩
def sFreeze (i : Nat) (S : DTS) : DTS := fun E ρ => match ρ[i]? with
  | some (some (.own (.lst ds))) => S E (ρ.set i (some (.val (.lst ds))))
  | _ => False
theorem freeze_ok {K : PySem.W.Frag} {c : Cf} {H : Hp} {σ : L2.St} {ρ : Ev} {i : Nat} {a : Addr} {ds : List D} {xs : List V} (r : Rep K c H σ ρ) (k : Hk c H) (h : ρ[i]? = some (some (.own (.lst ds)))) (e1 : σ[i]? = some (some (.ref a))) (hF : c.F a = true) (hl : H a = some (.lst xs)) (rx : Rs K (hid c.P H) xs ds) :
    Rep K (c.drop a) H σ (ρ.set i (some (.val (.lst ds)))) ∧ Hk (c.drop a) H ∧ Step c (c.drop a) H H := by
  have dF : ∀ {b : Addr}, (c.drop a).F b = true → c.F b = true ∧ b ≠ a := fun {b} hb => by
    obtain ⟨h1, h2⟩ := Bool.and_eq_true_iff.mp (show (c.F b && !decide (b = a)) = true from hb)
    exact ⟨h1, fun z => by simp [z] at h2⟩
  have dP : ∀ {b : Addr}, c.P b = false → (c.drop a).P b = false := fun {b} hb => by
    obtain ⟨h1, h2⟩ := Bool.or_eq_false_iff.mp (show (c.O b || c.F b) = false from hb)
    show (c.O b || (c.F b && !decide (b = a))) = false
    rw [h1, h2]
    rfl
  have sub : Sub (hid c.P H) (hid (c.drop a).P H) := fun b o hb => by
    obtain ⟨h1, h2⟩ := hid_some.mp hb
    exact hid_some.mpr ⟨dP h1, h2⟩
  have vis : hid (c.drop a).P H a = some (.lst xs) := hid_some.mpr ⟨by
    show (c.O a || (c.F a && !decide (a = a))) = false
    rw [k.fo a hF]
    simp, hl⟩
  refine ⟨⟨by simpa using r.le, fun j d hj => ?_, fun j d hj => ?_, fun j hj => ?_, fun j l d d' b hj hl2 h1 h2 => ?_⟩, ⟨k.bo, k.bag, fun b h => ?_, fun b h => k.fo b (dF h).1⟩, fun _ h => h, fun _ h => .inl h, fun _ h => h, fun _ h => .inl h, fun b h => .inl (dF h).1, fun b o _ _ he => he, fun b o he => ⟨o, he⟩⟩
  · rcases set_cases hj with ⟨rfl, hl2, q⟩ | ⟨ne, q⟩
    · cases q
      exact ⟨_, e1, .lst vis (rx.mono sub)⟩
    · obtain ⟨v, g1, g2⟩ := r.val j d q
      exact ⟨v, g1, g2.mono sub⟩
  · rcases set_cases hj with ⟨rfl, hl2, q⟩ | ⟨ne, q⟩
    · cases q
    · obtain ⟨b, g1, g2, g3⟩ := r.own j d q
      have na : b ≠ a := fun z => ne (r.sep i j _ _ a h q e1 (by rw [g1, z]))
      refine ⟨b, g1, by show (c.F b && !decide (b = a)) = true; rw [g2]; simp [na], ?_⟩
      exact g3.move g2 na (fun x o _ _ he => he) (noDict_lst hl) (fun x hx hne => by show (c.F x && !decide (x = a)) = true; rw [hx]; simp [hne]) sub
  · rcases set_cases hj with ⟨rfl, hl2, q⟩ | ⟨ne, q⟩
    · cases q
    · exact r.bag j q
  · rcases set_cases hj with ⟨rfl, _, q⟩ | ⟨_, q⟩
    · cases q
    · rcases set_cases hl2 with ⟨rfl, _, q'⟩ | ⟨_, q'⟩
      · cases q'
      · exact r.sep j l _ _ b q q' h1 h2
  · refine k.al b ?_
    rcases Bool.or_eq_true_iff.mp (show (c.O b || (c.F b && !decide (b = a))) = true from h) with h | h
    · show (c.O b || c.F b) = true
      rw [h]
      rfl
    · show (c.O b || c.F b) = true
      rw [(Bool.and_eq_true_iff.mp h).1]
      simp
section
variable {X : Cx} {EX : XK} {sts : List Stmt} {S : DTS}
theorem b_freeze (i : Nat) (h : PDb X EX sts S) : PDb X EX sts (sFreeze i S) := pssW h fun G σ H h => by
  obtain ⟨c, ρ, E, s, h, q⟩ := h
  unfold sFreeze at h
  split at h
  · rename_i ds eo
    obtain ⟨a, xs, e1, hF, hl, rx⟩ := own_at s.r eo
    obtain ⟨r2, k2, st⟩ := freeze_ok s.r s.k eo e1 hF hl rx
    exact ⟨_, _, E, ⟨r2, k2, s.x.step st⟩, h, q.step st⟩
  · exact h.elim
end
/-! ### comprehensions as new lists -/
def nLc (I : DTI) (G : DTG) (Tt : DTT) (Te : DTE) (vs : List Nat) : DTN := fun E ρ K => I E ρ fun ds => ds.length ≤ 1000000 ∧ lcD G Tt Te (wipeD ρ vs) (fun d => match d with | .lst es => K es | _ => False) ds []
section
variable {X : Cx} {EX : XK} {elt tg iter : Expr} {ifs : List Expr} {scope : Scope} {own : List (Str × Nat)} {pos : Pos} {I : DTI} {G : DTG} {Tt : DTT} {Te : DTE} {js : List Nat}
theorem lc_ofN (hj : ∀ j ∈ js, j ∈ own.map (·.2)) {σ : L2.St} {H : Hp} {Q : VK} (h : tN X.K EX (nLc I G Tt Te (own.map (·.2))) σ H Q) : tLc (tI X.K EX I) (tG X.K js G) (tT X.K E0 Tt) (tD X.K E0 Te) (own.map (·.2)) σ H Q := by
  obtain ⟨c, ρ, Kd, Ed, s, h, q⟩ := h
  refine ⟨c, ρ, _, Ed, s, h, fun ds H1 J G0 Y k e w D0 hD => ?_⟩
  obtain ⟨hlen, k⟩ := k
  have s1 := s.ext e
  have k1 := s1.k
  -- from H1 on: the block's own configuration has the new list, too
  have st1 : Step c (c.with D0) H1 (upd H1 D0 (.lst [])) := by
    have x := Ext.new (o := HO.lst []) hD k1.bag
    refine ⟨fun _ h => h, fun _ h => .inl h, fun _ h => h, fun _ h => .inl h, fun a h => ?_, fun a o hb _ he => x.keep a o hb he, x.al⟩
    rcases Bool.or_eq_true_iff.mp h with h | h
    · exact .inl h
    · rw [of_decide_eq_true h]
      exact .inr hD
  have r0 : Rep X.K (c.with D0) (upd H1 D0 (.lst [])) σ ρ := by
    have x := Ext.new (o := HO.lst []) hD k1.bag
    have sub : Sub (hid c.P H1) (hid (c.with D0).P (upd H1 D0 (.lst []))) := sub_with k1 hD fun a o hP he => x.keep a o (k1.nob hP) he
    refine ⟨s1.r.le, fun i d h => ?_, fun i d h => ?_, s1.r.bag, s1.r.sep⟩
    · obtain ⟨v, a, b⟩ := s1.r.val i d h
      exact ⟨v, a, b.mono sub⟩
    · obtain ⟨a, h1, h2, h3⟩ := s1.r.own i d h
      refine ⟨a, h1, by simp [Cf.with, h2], ?_⟩
      have na : a ≠ D0 := fun z => by
        have q := k1.fresh hD
        rw [← z] at q
        simp [Cf.P, h2] at q
      exact h3.move h2 na (fun x o _ hx he => by rw [upd_ne hx]; exact he) (noDict_none hD) (fun x hx _ => by simp [Cf.with, hx]) sub
  refine lc_it w.w (fun i H' => ∃ acc accD, H' D0 = some (.lst acc) ∧ Rs X.K (hid (c.with D0).P H') acc accD ∧ acc.length ≤ i ∧ lcD G Tt Te (wipeD ρ (own.map (·.2))) (fun d => match d with | .lst es => Kd es | _ => False) (ds.drop i) accD ∧
      Hk (c.with D0) H' ∧ Rep X.K (c.with D0) H' σ ρ ∧ Step c (c.with D0) H1 H' ∧ (∀ a o, c.B a = false → H1 a = some o → H' a = some o)) ?_ ?_ ?_ ?_
  · exact ⟨[], [], upd_same, .nil, Nat.le_refl _, k, k1.with hD, r0, st1, fun a o hb he => (Ext.new (o := HO.lst []) hD k1.bag).keep a o hb he⟩
  · rintro i H' _ ⟨acc, accD, _, _, _, _, hk, _, st, _⟩
    exact w.g _ _ st hk
  · rintro i x H2 H3 hi ⟨acc, accD, hA, rA, hL, hlc, hk2, r2, st, kp⟩ y
    obtain ⟨d, e1, e3, rd⟩ := w.y i _ H2 x H3 hi st hk2 y
    have ed : ds.drop i = d :: ds.drop (i + 1) := by
      obtain ⟨hl, e1⟩ := List.getElem?_eq_some_iff.mp e1
      rw [← e1]
      exact List.drop_eq_getElem_cons hl
    rw [ed] at hlc
    have k3 := hk2.ext e3
    have r3 := r2.ext hk2 e3
    have nbD : (c.with D0).B D0 = false := by
      have q := k1.nob (k1.fresh hD)
      exact q
    refine ⟨c.with D0, _, _, d, r3.wipe _, k3, rd, hlc, fun ρ4 σ4 h4 r4 ag => ⟨wipe_ag ag hj, ?_⟩⟩
    refine ⟨c.with D0, ρ4, _, noE, ⟨r4, k3, fun _ _ _ _ z _ _ _ => False.elim z⟩, h4, fun b H4 kb e4 => ?_⟩
    have k4 := k3.ext e4
    have e34 := e3.trans e4
    have keepD : ∀ {H5 : Hp}, Ext (c.with D0).B H2 H5 → H5 D0 = some (.lst acc) := fun ex => ex.keep D0 _ nbD hA
    have stx : ∀ {H5 : Hp}, Ext (c.with D0).B H2 H5 → Step c (c.with D0) H1 H5 := fun ex => st.trans (.of ex)
    cases b with
    | true =>
      refine iteT ⟨c.with D0, ρ4, _, noE, ⟨r4.ext k3 e4, k4, fun _ _ _ _ z _ _ _ => False.elim z⟩, kb.1 rfl, fun dy y5 H5 ky e5 r5 => ?_⟩
      have e345 := e34.trans e5
      have k5 := k4.ext e5
      have hF : (c.with D0).F D0 = true := by simp [Cf.with]
      obtain ⟨k6, sub6⟩ := own_upd (o := HO.lst (acc ++ [y5])) k5 hF
      refine ⟨acc, keepD e345, ?_, acc ++ [y5], accD ++ [dy], upd_same, ?_, ?_, ky, k6, ?_, ?_, ?_⟩
      · have hlt : acc.length < 1000000 := by omega
        exact Nat.lt_of_lt_of_le hlt (by decide)
      · exact ((rA.mono (hk2.sub e345)).app (.cons r5 .nil)).mono sub6
      · simp only [List.length_append, List.length_singleton]; omega
      · have r6 := (r2.ext hk2 e345)
        refine ⟨r6.le, fun i d h => ?_, fun i d h => ?_, r6.bag, r6.sep⟩
        · obtain ⟨v, a, b⟩ := r6.val i d h
          exact ⟨v, a, b.mono sub6⟩
        · obtain ⟨a, h1, h2, h3⟩ := r6.own i d h
          refine ⟨a, h1, h2, ?_⟩
          obtain ⟨a0, g1, g2, _⟩ := s1.r.own i d h
          have ea : a = a0 := by
            rw [h1] at g1
            cases g1
            rfl
          have na : a ≠ D0 := fun z => by
            have q := k1.fresh hD
            rw [← z, ea] at q
            simp [Cf.P, g2] at q
          exact h3.move h2 na (fun x o _ hx he => by rw [upd_ne hx]; exact he) (noDict_lst (keepD e345)) (fun x hx _ => hx) sub6
      · refine (stx e345).trans ⟨fun _ h => h, fun _ h => .inl h, fun _ h => h, fun _ h => .inl h, fun a h => .inl h, fun a o hb hf he => ?_, fun a o he => ?_⟩
        · rw [upd_ne]
          · exact he
          · intro z
            rw [z, hF] at hf
            cases hf
        · by_cases z : a = D0
          · rw [z]; exact ⟨_, upd_same⟩
          · rw [upd_ne z]; exact ⟨o, he⟩
      · intro a o hb he
        have h5 := e345.keep a o hb (kp a o hb he)
        rw [upd_ne (ne_of_none he hD)]
        exact h5
    | false =>
      refine iteF ⟨acc, accD, keepD e34, rA.mono (hk2.sub e34), by omega, kb.2 rfl, k4, r2.ext hk2 e34, stx e34, fun a o hb he => e34.keep a o hb (kp a o hb he)⟩
  · rintro H' ⟨acc, accD, hA, rA, hL, hlc, hk2, r2, st, kp⟩
    rw [List.drop_length] at hlc
    have ex : Ext c.B H1 H' := ⟨kp, fun _ => hk2.bag, st.al⟩
    exact q _ _ _ _ hlc (e.trans ex) (al_back e.al hD) hA rA
theorem n_lc (hc : X.calm = true) (hN : X.N.Nodup) (hi : PDi X EX tg iter I) (ok : BlkOk X.N X.env.scope scope own)
    (hg : ∀ (s : Shared) (H : Hp) (C : Addr) (cl : List (Str × Addr)) (fp : List Addr), PDg (X.blk s H scope (compEnvC scope cl C X.env) fp) js tg G) (ht : ∀ (s : Shared) (H : Hp) (C : Addr) (cl : List (Str × Addr)) (fp : List Addr), PDts (X.blk s H scope (compEnvC scope cl C X.env) fp) E0 ifs Tt)
    (he : ∀ (s : Shared) (H : Hp) (C : Addr) (cl : List (Str × Addr)) (fp : List Addr), PDe (X.blk s H scope (compEnvC scope cl C X.env) fp) E0 elt Te) (hj : ∀ j ∈ js, j ∈ own.map (·.2) := by decide) (hs : ∀ x, foldedSetIterable iter X.env x = pure x := by intro _; rfl) :
    PDn X EX (.ListComp elt [⟨tg, iter, ifs, 0⟩] scope pos) (nLc I G Tt Te (own.map (·.2))) := peW (pe_lc hc hN hi ok hg ht he hs) fun _ _ _ h => lc_ofN hj h
theorem s_ownLc (i : Nat) {y : Str} {py spos : Pos} (hc : X.calm = true) (hN : X.N.Nodup) (hy : X.N[i]? = some y) (hyl : X.env.scope.names.lookup y = some .local)
    (hsw : swapsWith (.ListComp elt [⟨tg, iter, ifs, 0⟩] scope pos) (some (.Name y py)) spos.line X.env = pure true) (hi : PDi X EX tg iter I) (ok : BlkOk X.N X.env.scope scope own)
    (hg : ∀ (s : Shared) (H : Hp) (C : Addr) (cl : List (Str × Addr)) (fp : List Addr), PDg (X.blk s H scope (compEnvC scope cl C X.env) fp) js tg G) (ht : ∀ (s : Shared) (H : Hp) (C : Addr) (cl : List (Str × Addr)) (fp : List Addr), PDts (X.blk s H scope (compEnvC scope cl C X.env) fp) E0 ifs Tt)
    (he : ∀ (s : Shared) (H : Hp) (C : Addr) (cl : List (Str × Addr)) (fp : List Addr), PDe (X.blk s H scope (compEnvC scope cl C X.env) fp) E0 elt Te) (hj : ∀ j ∈ js, j ∈ own.map (·.2) := by decide) (hs : ∀ x, foldedSetIterable iter X.env x = pure x := by intro _; rfl) :
    PDs X EX (.Assign [.Name y py] (.ListComp elt [⟨tg, iter, ifs, 0⟩] scope pos) spos) (sOwn i (nLc I G Tt Te (own.map (·.2)))) := psW (ps_setLc hc hN hy hyl hsw hi ok hg ht he hs) fun D0 σ H h => by
  obtain ⟨c, ρ, E, s, h, q⟩ := h
  refine lc_ofN hj ⟨c, ρ, _, _, s, h, fun ds a xs H1 k e hn hl rx => ?_⟩
  exact q.nx (c.with a) _ _ H1 k.2 (step_with e hn) (rep_with s.r s.k e hn hl rx i) (hk_with s.k e hn hl)
end

/-! ### enumerate of a tuple -/
section
variable {prog : Program} {w : World} {A : Around} {E : Value → Shared → Prop} {s : Shared}
abbrev frsh (s : Shared) : Addr := s.heap.objs.size
abbrev pairO (i : Int) (t : Tok) (x : Value) : Obj := { cls := .type "tuple", data := .seq #[.int i t, x] }
theorem en_next {e it : Addr} {i : Nat} {x old : Value} {N : Heap → Prop} {Q : Value → Shared → Prop} (he : IsEnum s.heap e it i old) (hne : e ≠ it)
    (nx : ∀ R : Value → Shared → Prop, (∀ h, N h → Heap.SameBut it s.heap h → R x { s with heap := h }) → wpAny (model prog w) A (Builtin.SmallTypes.nextOf (.ref it)) R E s)
    (nk : ∀ h h' : Heap, N h → (∀ o, h.get? it = some o → h'.get? it = some o) → N h')
    (fin : ∀ h', IsEnumOut h' e it ((i : Int) + 1) x (frsh s) → N h' → h'.get? (frsh s) = some (pairO i s.toks x) → h'.objs.size = frsh s + 1 →
      (∀ b o, b ≠ e → b ≠ it → s.heap.get? b = some o → h'.get? b = some o) → Q (.ref (frsh s)) { s with heap := h', toks := s.toks + 1 }) :
    wpAny (model prog w) A (Builtin.«enumerate.__next__» ⟨[.ref e], []⟩) (fun f s' => ∃ v, f = .done (.ret v) ∧ Q v s') E s := by
  obtain ⟨H0, g, d, tk, os⟩ := s
  have lt : e < H0.objs.size := Heap.lt_size he
  show wpAny _ _ (field (.ref e) 2 >>= _) _ _ _
  refine wpAny_bind (wpAny_field he rfl (x := .ref it) rfl (wpAny_bind (nx _ fun H1 n1 b1 => ?_)))
  have q1 : IsEnum H1 e it i old := (b1.2 e hne).trans he
  show wpAny _ _ (field (.ref e) 3 >>= _) _ _ ⟨H1, g, d, tk, os⟩
  refine wpAny_bind (wpAny_field q1 rfl (x := rawInt i) rfl ?_)
  show wpAny _ _ (field (.ref e) 4 >>= _) _ _ ⟨H1, g, d, tk, os⟩
  refine wpAny_bind (wpAny_field q1 rfl (x := .none) rfl ?_)
  show wpAny _ _ (mkInt i >>= _) _ _ ⟨H1, g, d, tk, os⟩
  refine wpAny_bind (wpAny_mkInt ?_)
  show wpAny _ _ (setField (.ref e) 3 (rawInt ((i : Int) + 1)) >>= _) _ _ ⟨H1, g, d, tk + 1, os⟩
  refine wpAny_bind (wpAny_setField_rec q1 (by simp) fun H2 q2 b2 => ?_)
  show wpAny _ _ (setField (.ref e) 4 .none >>= _) _ _ ⟨H2, g, d, tk + 1, os⟩
  refine wpAny_bind (wpAny_setField_rec q2 (by simp) fun H3 q3 b3 => ?_)
  have q3' : IsEnum H3 e it ((i : Int) + 1) old := q3
  show wpAny _ _ (newTuple [.int i tk, x] >>= _) _ _ ⟨H3, g, d, tk + 1, os⟩
  have z3 : H3.objs.size = H0.objs.size := (b3.1.trans b2.1).trans b1.1
  refine wpAny_bind (wpAny_newTuple ?_)
  have keep3 : ∀ b o, b ≠ e → b ≠ it → H0.get? b = some o → H3.get? b = some o := fun b o h1 h2 h => ((b3.2 b h1).trans ((b2.2 b h1).trans (b1.2 b h2))).trans h
  have q4 : IsEnum (H3.push (pairO i tk x)) e it ((i : Int) + 1) old := Heap.get?_push_of_some _ q3'
  have t4 : (H3.push (pairO i tk x)).get? H0.objs.size = some (pairO i tk x) := by rw [← z3]; exact Heap.get?_push_size _ rfl
  have z4 : (H3.push (pairO i tk x)).objs.size = H0.objs.size + 1 := by rw [Heap.size_push, z3]
  have k4 : ∀ b o, b ≠ e → b ≠ it → H0.get? b = some o → (H3.push (pairO i tk x)).get? b = some o := fun b o h1 h2 h => Heap.get?_push_of_some _ (keep3 b o h1 h2 h)
  have n4 : N (H3.push (pairO i tk x)) := nk H1 _ n1 fun o h => Heap.get?_push_of_some _ (((b3.2 it (Ne.symm hne)).trans (b2.2 it (Ne.symm hne))).trans h)
  show wpAny _ _ (Builtin.SmallTypes.ownedTupleIsFree (.ref e) >>= _) _ _ ⟨H3.push (pairO i tk x), g, d, tk + 1, os⟩
  rw [z3]
  generalize H3.push (pairO i tk x) = H4 at q4 t4 z4 k4 n4
  unfold Builtin.SmallTypes.ownedTupleIsFree
  refine wpAny_bind (wpAny_bind (wpAny_field q4 rfl (x := .none) rfl (wpAny_pure ?_)))
  simp only [if_true]
  refine wpAny_bind (wpAny_rule (wpAny_bind (wpAny_field q4 rfl (x := old) rfl (wpAny_bind (wpAny_setField_rec q4 (by simp) fun H5 q5 b5 => ?_)))))
  show wpAny _ _ (Builtin.SmallTypes.ownedTupleHandOut (.ref e) (.ref H0.objs.size) >>= _) _ _ ⟨H5, g, d, tk + 1, os⟩
  unfold Builtin.SmallTypes.ownedTupleHandOut
  refine wpAny_bind (wpAny_bind (wpAny_setField_rec q5 (by simp) fun H6 q6 b6 => wpAny_setField_rec q6 (by simp) fun H7 q7 b7 => ?_))
  have same : ∀ b, b ≠ e → H7.get? b = H4.get? b := fun b h => ((b7.2 b h).trans (b6.2 b h)).trans (b5.2 b h)
  have size : H7.objs.size = H4.objs.size := (b7.1.trans b6.1).trans b5.1
  refine wpAny_bind (wpAny_letGo (wpAny_pure ⟨_, rfl, fin H7 q7 (nk H4 H7 n4 fun o h => (same it (Ne.symm hne)).trans h) ((same _ (Nat.ne_of_gt lt)).trans t4) (by rw [size, z4]) fun b o h1 h2 h => (same b h1).trans (k4 b o h1 h2 h)⟩))
theorem enT_item {e it l : Addr} {i : Nat} {xs : Array Value} {x old : Value} {Q : Option Value → Shared → Prop} (he : IsEnum s.heap e it i old) (hit : s.heap.IsTupleIter it l i) (hl : s.heap.IsTuple l xs) (hx : xs[i]? = some x) (hne : e ≠ it)
    (fin : ∀ h', IsEnumOut h' e it ((i : Int) + 1) x (frsh s) → h'.IsTupleIter it l (i + 1) → h'.get? (frsh s) = some (pairO i s.toks x) → h'.objs.size = frsh s + 1 →
      (∀ b o, b ≠ e → b ≠ it → s.heap.get? b = some o → h'.get? b = some o) → Q (some (.ref (frsh s))) { s with heap := h', toks := s.toks + 1 }) :
    wpAny (model prog w) A (pyNext (.ref e)) Q E s := by
  have ty : s.TypeIs (.ref e) "enumerate" := ⟨_, he, rfl⟩
  unfold pyNext
  refine wpAny_bind (wpAny_attempt (wpAny_callSpecial?_slot (name := Str.ofString "__next__") ty F.slot_enumerate_next (wpAny_call_entry F.slot_enumerate_next ty F.entry_enumerate_next ?_ (F.args_enumerate_next_1 _))))
  exact en_next (N := fun h => h.IsTupleIter it l (i + 1)) he hne (fun R k => RZ.nextOf_tuple_item hit hl hx fun h a b => k h a b) (fun h h' n k => let ⟨o, a, b⟩ := n; ⟨o, k o a, b⟩) fun h' a b c d k => wpAny_pure (fin h' a b c d k)
theorem enT_end {e it l : Addr} {i : Nat} {xs : Array Value} {old : Value} {Q : Option Value → Shared → Prop} (hh : A.handled = none) (he : IsEnum s.heap e it i old) (hit : s.heap.IsTupleIter it l i) (hl : s.heap.IsTuple l xs) (hx : xs[i]? = none)
    (fin : ∀ h', Heap.ExtBut it s.heap h' → Q none { s with heap := h' }) : wpAny (model prog w) A (pyNext (.ref e)) Q E s := by
  have ty : s.TypeIs (.ref e) "enumerate" := ⟨_, he, rfl⟩
  unfold pyNext
  refine wpAny_bind (wpAny_attempt (wpAny_callSpecial?_slot (name := Str.ofString "__next__") ty F.slot_enumerate_next (wpAny_call_entry F.slot_enumerate_next ty F.entry_enumerate_next ?_ (F.args_enumerate_next_1 _))))
  show wpAny _ _ (field (.ref e) 2 >>= _) _ _ _
  refine wpAny_bind (wpAny_field he rfl (x := .ref it) rfl (wpAny_bind (RZ.nextOf_tuple_end hh hit hl hx fun h' x k ⟨o, h1, h2⟩ => ?_)))
  exact wpAny_bind (wpAny_isInstance (T := "StopIteration") (b := true) ⟨o, h1, h2⟩ isSubtype_stop (wpAny_pure (fin _ k)))
theorem enT_meets (l : Addr) (xs : Array Value) :
    Meets (Builtin.«enumerate.__new__» ⟨[.type "enumerate", .ref l], []⟩) (fun _ R s => s.heap.IsTuple l xs ∧
      R (.ok (.ret (.ref (s.heap.push { cls := .type "tuple_iterator", data := .fields #[.ref l, .int 0 0] }).objs.size)))
        { s with heap := (s.heap.push { cls := .type "tuple_iterator", data := .fields #[.ref l, .int 0 0] }).push { cls := .type "enumerate", data := .fields #[.none, .bool false, .ref s.heap.objs.size, rawInt 0, .none, .none] } }) :=
  .of_wp fun prog w A R s h => by
    obtain ⟨hp, g, d, tk, os⟩ := s
    obtain ⟨hl, h⟩ := h
    have sub := sub_enumerate
    have hT : Heap.IsTuple (Shared.heap ⟨hp, g, d, tk, os⟩) l xs := hl
    wp_walk using wpAny_pyIter_tuple hT
    refine wpAny_stack_any fun st => wpAny_pure ?_
    split
    · rename_i c _ _ _ _ _
      cases (c == Value.type "enumerate") <;> (wp_walk using wpAny_pyIter_tuple hT; exact ⟨_, rfl, h⟩)
    · wp_walk using wpAny_pyIter_tuple hT
      exact ⟨_, rfl, h⟩
theorem enT_call {l : Addr} {xs : Array Value} {Q : Value → Shared → Prop} (hl : s.heap.IsTuple l xs)
    (k : ∀ h', IsEnum h' (frsh s + 1) (frsh s) 0 .none → h'.IsTupleIter (frsh s) l 0 → (∀ b o, s.heap.get? b = some o → h'.get? b = some o) → Q (.ref (frsh s + 1)) { s with heap := h' }) :
    wpAny (model prog w) A (call (.type "enumerate") [.ref l]) Q E s := by
  refine callType_new F.called_enumerate (by decide) (F.typeCall_enumerate_1 _) (F.newCall_enumerate_1 _) (fun obj => F.args_object_init_2 obj _) F.entry_enumerate_new (enT_meets l xs) ⟨hl, ?_⟩
  let o1 : Obj := { cls := .type "tuple_iterator", data := .fields #[.ref l, .int 0 0] }
  let o2 : Obj := { cls := .type "enumerate", data := .fields #[.none, .bool false, .ref s.heap.objs.size, rawInt 0, .none, .none] }
  have z : (s.heap.push o1).objs.size = frsh s + 1 := Heap.size_push ..
  have g : ((s.heap.push o1).push o2).get? (frsh s + 1) = some o2 := by rw [← z]; exact Heap.get?_push_size _ rfl
  show _ ∧ Q (.ref (s.heap.push o1).objs.size) { s with heap := (s.heap.push o1).push o2 }
  rw [z]
  exact ⟨⟨_, g, rfl⟩, k _ g ⟨_, Heap.get?_push_of_some _ (Heap.get?_push_size _ rfl), rfl, rfl⟩ fun b o x => Heap.get?_push_of_some _ (Heap.get?_push_of_some _ x)⟩
end
/-- the tuple at a as it stands at each turn, each item in a new pair -/
def IteT (K : PySem.W.Frag) (a : Addr) : It where
  go := fun i H => ∃ (xs : List V) (x : V), SqT K H a xs ∧ xs[i]? = some x
  yld := fun i H v H' => ∃ T x, v = .ref T ∧ H T = none ∧ H' = upd H T (.tup [.int (i : Nat), x]) ∧ ∀ xs, SqT K H a xs → xs[i]? = some x
  stop := fun i H => ∃ xs : List V, SqT K H a xs ∧ xs.length ≤ i
theorem turnT {P : Program} {w : World} {K : PySem.W.Frag} {elts : List Expr} {kk : Nat} {tpos : Pos} (a e it : Addr) :
    Turn P w K (.Tuple elts kk tpos) (IteT K a) [e, it] e (fun i h => (∃ old, IsEnum h e it ((i : Nat) : Int) old) ∧ h.IsTupleIter it a i ∧ e ≠ it) where
  mem := List.mem_cons_self
  obj := fun i h ⟨⟨_, he⟩, ⟨o, ho, _, hd⟩, _⟩ b hb => by
    rcases List.mem_cons.mp hb with rfl | hb
    · exact ⟨_, he, fun v q => by cases q⟩
    · cases List.mem_singleton.mp hb
      exact ⟨o, ho, fun v q => by rw [hd] at q; cases q⟩
  keep := fun i h h' ⟨⟨old, he⟩, ⟨o, ho, hr⟩, hne⟩ k => ⟨⟨old, k e (by simp) _ he⟩, ⟨o, k it (by simp) _ ho, hr⟩, hne⟩
  item := by
    intro X hP hw hK hc i pins s σ H E I hf st hg
    subst hP hw hK
    obtain ⟨⟨old, he⟩, hit, hne⟩ := st
    obtain ⟨xs, x, hq, hx⟩ := hg
    obtain ⟨its, rv, p, hz⟩ := I.tuple hq
    obtain ⟨u, hu, ru⟩ := rv.get hx
    have lte : e < s.heap.objs.size := Heap.lt_size he
    have lti : it < s.heap.objs.size := by obtain ⟨_, q, _⟩ := hit; exact Heap.lt_size q
    have ltb : ∀ b ∈ [e, it], b < s.heap.objs.size := fun b hb => by
      rcases List.mem_cons.mp hb with rfl | hb
      · exact lte
      · cases List.mem_singleton.mp hb; exact lti
    refine enT_item he hit p (x := u) (by simpa using hu) hne fun h' ho hit' hT hsz hk => ⟨_, rfl, ?_⟩
    refine wpAny_letOwnedTupleGo_enum (s := { s with heap := h', toks := s.toks + 1 }) ho fun h2 he2 sb => ?_
    have off : ∀ b ∈ [e, it], (upd H s.heap.objs.size (.tup [.int (i : Nat), x])) b = none := fun b hb => by
      rw [upd_ne (Nat.ne_of_lt (ltb b hb))]
      exact (hf b hb).1
    have nw : ObjOk X.prog X.w (upd H s.heap.objs.size (.tup [.int (i : Nat), x])) h2 s.heap.objs.size (.tup [.int (i : Nat), x]) :=
      ⟨by show 2 ≤ sizeLine; decide, [.int i s.toks, u], .cons ⟨_, rfl⟩ (.cons ru .nil), ⟨_, (sb.2 _ (Nat.ne_of_gt lte)).trans hT, rfl, _, rfl⟩⟩
    have I2 : Inv X pins σ (upd H s.heap.objs.size (.tup [.int (i : Nat), x])) { s with heap := h2, toks := s.toks + 1 } :=
      I.turnedNew (ch := [e, it]) (fun b ob hb q => by
        have b1 : b ≠ e := fun z => hb (by simp [z])
        have b2 : b ≠ it := fun z => hb (by simp [z])
        exact (sb.2 b b1).trans (hk b ob b1 b2 q)) hf (Nat.le_refl _) nw
    have hitn : h2.IsTupleIter it a (i + 1) := by
      obtain ⟨o, q1, q2⟩ := hit'
      exact ⟨o, (sb.2 it (Ne.symm hne)).trans q1, q2⟩
    refine ⟨.ref s.heap.objs.size, _, I2, rfl, ⟨_, x, rfl, I.hok.fresh (Nat.le_refl _), rfl, fun ys hy => ?_⟩, ⟨⟨u, ?_⟩, hitn, hne⟩, off⟩
    · rw [I.tuple_inj hy hq]
      exact hx
    · rw [show ((i + 1 : Nat) : Int) = (i : Int) + 1 by omega]
      exact he2
  done := by
    intro X hP hw hK hc i pins s σ H E I hf st hg
    subst hP hw hK
    obtain ⟨⟨old, he⟩, hit, hne⟩ := st
    obtain ⟨xs, hq, hx⟩ := hg
    obtain ⟨its, rv, p, hz⟩ := I.tuple hq
    obtain ⟨f0, f1, f2, f3, f4, f5⟩ := hf it (by simp)
    have hl := rv.length
    exact enT_end (I.ok.hd hc) he hit p (by simp; omega) fun h' eb => ⟨rfl, I.turned (t' := s.toks) (fun b o hb q => eb b o hb q) f0 f1 f3 f4 f5⟩
  self := fun A i s Q E ⟨⟨_, he⟩, _⟩ h => wpAny_pyIter_enum he h
def iEnumA (K : PySem.W.Frag) (ta : TA) : TI := fun σ H R => ta σ H fun vs H1 => ∃ a xs, vs = [.ref a] ∧ ((SqL K H1 a xs ∧ R (Ite K a) H1) ∨ (SqT K H1 a xs ∧ R (IteT K a) H1))
theorem pi_enumA {X : Cx} {e : Expr} {ta : TA} {p pos tpos : Pos} {elts : List Expr} {kk : Nat} (hg : Gl X "enumerate") (hm : X.mg "enumerate" = none) (ha : PA X [e] ta) (hs : starEach [e] X.env = [(false, eval e X.env)] := by rfl) :
    PI X (.Tuple elts kk tpos) (.Call (.Name "enumerate" p) [e] [] pos) (iEnumA X.K ta) := by
  refine ⟨fun pins s σ H R I h => Call_ (ld_blt I hg hm boot_enumerate (PyProof.Rows.callWith_type1 (thn (ha.run pos pins s σ H _ I h) fun us s1 ⟨vs, H1, I1, r1, a, xs, ex, q⟩ => ?_) hs rfl))⟩
  subst ex
  cases r1 with
  | cons r rr =>
    cases rr
    cases r
    have ok : ∀ b ∈ [frsh s1 + 1, frsh s1], FpOk X pins H1 b := fun b hb => by
      have le : s1.heap.objs.size ≤ b := by
        rcases List.mem_cons.mp hb with rfl | hb
        · exact Nat.le_add_right _ _
        · cases List.mem_singleton.mp hb
          exact Nat.le_refl _
      exact I1.fpOk le (I1.hok.fresh le)
    rcases q with ⟨hq, q⟩ | ⟨hq, q⟩
    · obtain ⟨its, rv, p', hz⟩ := I1.list hq
      exact call_enumerate_list p'.isList fun h' he hit hsz hk => wpAny_pyIter_enum he ⟨_, _, _, _, H1, rfl, I1.kept (t' := s1.toks) hk, turn_enum a (frsh s1 + 1) (frsh s1), ⟨⟨.none, he⟩, hit, Nat.succ_ne_self _⟩, ok, q⟩
    · obtain ⟨its, rv, p', hz⟩ := I1.tuple hq
      exact enT_call p' fun h' he hit hk => wpAny_pyIter_enum he ⟨_, _, _, _, H1, rfl, I1.kept (t' := s1.toks) hk, turnT a (frsh s1 + 1) (frsh s1), ⟨⟨.none, he⟩, hit, Nat.succ_ne_self _⟩, ok, q⟩
section
variable {K : PySem.W.Frag} {c : Cf} {H : Hp} {a : Addr} {xs : List V} {ds : List D}
theorem walk_enT : Walk (IteT K a) xs.length (fun H => SqT K H a xs) (YPair (fun i => some (.int (i : Nat))) (fun i => xs[i]?)) where
  goes := fun i _ hi q => ⟨xs, xs[i], q, by simp [hi]⟩
  stops := fun _ q => ⟨xs, q, Nat.le_refl _⟩
  yields := fun i H v H' _ q ⟨Tn, x, h1, h2, h3, h4⟩ => ⟨Tn, .int (i : Nat), x, h1, h2, h3, rfl, h4 xs q⟩
theorem enY {c2 : Cf} {H2 H3 : Hp} {i : Nat} {x : V} (k : Hk c H) (s : Step c c2 H H2) (k2 : Hk c2 H2) (r : Rs K (hid c.P H) xs ds) (y : YPair (fun i => some (.int (i : Nat))) (fun i => xs[i]?) i H2 x H3) :
    ∃ d, (enumD ds)[i]? = some d ∧ Ext c2.B H2 H3 ∧ R K (hid c2.P H3) x d := by
  obtain ⟨Tn, v1, v2, ex, hn, e3, e1, e2⟩ := y
  cases e1
  obtain ⟨d, e, rd⟩ := r.getV e2
  obtain ⟨x1, x2⟩ := pairD k2 hn e3 ex (.int (i : Nat)) (rd.mono (s.sub k))
  exact ⟨_, by rw [enumD_get, e]; rfl, x1, x2⟩
theorem walkET (k : Hk c H) (h : SqT K (hid c.P H) a xs) (r : Rs K (hid c.P H) xs ds) : WalkD K c H (enumD ds) (IteT K a) (fun H => SqT K H a xs) (YPair (fun i => some (.int (i : Nat))) (fun i => xs[i]?)) :=
  ⟨by rw [enumD_len, ← r.length]; exact walk_enT, fun c2 H2 s k2 => hidT ((s.sub k).st h), fun i c2 H2 x H3 hi s k2 y => enY k s k2 r y⟩
end
section
variable {X : Cx} {EX : XK} {e : Expr} {Tv : DTV} {pos : Pos}
def iEnA (Tv : DTV) : DTI := fun E ρ K => Tv E ρ fun ds => match ds with
  | [.lst xs] => K (enumD xs)
  | [.tup xs] => K (enumD xs)
  | _ => False
theorem i_enumA {p tpos : Pos} {elts : List Expr} {kk : Nat} (h : PDv X EX [e] Tv) (hm : X.mg "enumerate" = none) (hg : Gl X "enumerate" := by rfl) (hs : starEach [e] X.env = [(false, eval e X.env)] := by rfl) : PDi X EX (.Tuple elts kk tpos) (.Call (.Name "enumerate" p) [e] [] pos) (iEnA Tv) :=
  piW (pi_enumA hg hm h hs) fun σ H Q h => by
    obtain ⟨c, ρ, Kd, Ed, s, h, q⟩ := h
    refine ⟨c, ρ, _, Ed, s, h, fun ds vs H1 k e r => ?_⟩
    match ds, k with
    | [.lst xs], k =>
      cases r with
      | cons r1 r =>
        cases r
        cases r1 with
        | lst a z => exact ⟨_, _, rfl, .inl ⟨SqL.of (hidG a), q _ _ _ _ _ k e (walkE (s.ext e).k (SqL.of a) z)⟩⟩
    | [.tup xs], k =>
      cases r with
      | cons r1 r =>
        cases r
        cases r1 with
        | tup a z => exact ⟨_, _, rfl, .inr ⟨hidT a, q _ _ _ _ _ k e (walkET (s.ext e).k a z)⟩⟩
end

section
variable {X : Cx} {EX : XK} {e : Expr} {es : List Expr} {T : DTE} {Tv : DTV} {pos p : Pos}
/-! ### a starred item -/
def vStar (T : DTE) (Tv : DTV) : DTV := fun E ρ K => T E ρ fun d => match d with
  | .lst xs => Tv E ρ fun ds => K (xs ++ ds)
  | .tup xs => Tv E ρ fun ds => K (xs ++ ds)
  | _ => False
theorem v_star (h : PDe X EX e T) (hr : PDv X EX es Tv) (hs : starEach (.Starred e p :: es) X.env = (true, eval e X.env) :: starEach es X.env := by rfl) : PDv X EX (.Starred e p :: es) (vStar T Tv) := paW (StX.pa_star h hr hs) fun σ H Q h => by
  obtain ⟨c, ρ, Kd, Ed, s, h, q⟩ := h
  refine ⟨c, ρ, _, Ed, s, h, fun d v H1 k e r => ?_⟩
  have s1 := s.ext e
  have fin : ∀ (zs : List V) (xs : List D), Rs X.K (hid c.P H1) zs xs → Tv Ed ρ (fun ds => Kd (xs ++ ds)) → tV X.K EX Tv σ H1 fun vs H2 => Q (zs ++ vs) H2 := fun zs xs rz hk =>
    ⟨c, ρ, _, Ed, s1, hk, fun ds vs H2 k2 e2 r2 => q _ _ _ k2 (e.trans e2) ((rz.mono (s1.k.sub e2)).app r2)⟩
  match d, k, r with
  | .lst xs, k, .lst a z => exact ⟨_, _, rfl, .inr (SqL.of (hidG a)), fin _ _ z k⟩
  | .tup xs, k, .tup a z => exact ⟨_, _, rfl, .inl (hidT a), fin _ _ z k⟩
end
/-! ### max and min of a tuple of ints -/
section
variable {prog : Program} {w : World} {A : Around} {E : Value → Shared → Prop} {s : Shared} {l : Addr}
theorem it_tup {items : Array Value} {Q : Value → Shared → Prop} (hl : s.heap.IsTuple l items)
    (k : ∀ h2 : Heap, h2.IsTupleIter (frsh s) l 0 → h2.IsTuple l items → (∀ b ∈ [frsh s, l], b < h2.objs.size) → l ≠ frsh s → (∀ b o, b ∉ [frsh s] → s.heap.get? b = some o → h2.get? b = some o) → Q (.ref (frsh s)) { s with heap := h2 }) :
    wpAny (model prog w) A (pyIter (.ref l)) Q E s := by
  have lt : l < s.heap.objs.size := by
    obtain ⟨o, q, _⟩ := hl
    exact Heap.lt_size q
  refine wpAny_pyIter_tuple hl (k _ ⟨_, Heap.get?_push_size _ rfl, rfl, rfl⟩ (hl.push _) (fun b hb => ?_) (Nat.ne_of_lt lt) fun b o _ q => Heap.get?_push_of_some _ q)
  rw [Heap.size_push]
  rcases List.mem_cons.mp hb with rfl | hb
  · exact Nat.lt_succ_self _
  · cases List.mem_singleton.mp hb
    exact Nat.lt_succ_of_lt lt
theorem off_one {s : Shared} {b : Addr} {o : Obj} (q : s.heap.get? b = some o) : b ∉ [frsh s] := fun h => by
  have lt := Heap.lt_size q
  rw [List.mem_singleton.mp h] at lt
  exact Nat.lt_irrefl _ lt
theorem ints_items {its : List Value} {ns : List Int} (hi : IntsAre its ns) : ∃ zs : Array (Int × Tok), its.toArray = intItems zs ∧ ns.length = zs.size ∧ (∀ j, j < zs.size → numAt zs j ∈ ns) ∧ ∀ a ∈ ns, ∃ j, j < zs.size ∧ numAt zs j = a := by
  obtain ⟨zs, e1⟩ := hi.allInts.items
  have e2 := hi.numsOf
  rw [show its = (intItems zs).toList by rw [← e1]] at e2
  rw [nums_intItems] at e2
  subst e2
  refine ⟨zs, e1, by simp, fun j h => ?_, fun a h => ?_⟩
  · rw [numAt_eq]
    exact PySem.getD_mem (by simpa using h)
  · obtain ⟨j, h1, h2⟩ := mem_getD h
    exact ⟨j, by simpa using h1, by rw [numAt_eq]; exact h2⟩
theorem max_tup {its : List Value} {ns : List Int} {Q : Value → Shared → Prop} (hh : A.handled = none) (hl : s.heap.IsTuple l its.toArray) (hi : IntsAre its ns) (hne : ns ≠ [])
    (k : ∀ h' tk m t', (∀ b o, s.heap.get? b = some o → h'.get? b = some o) → m ∈ ns → (∀ a ∈ ns, a ≤ m) → Q (.int m t') { s with heap := h', toks := tk }) : wpAny (model prog w) A (call (.builtin "max") [.ref l]) Q E s := by
  obtain ⟨zs, e, hz, hin, hall⟩ := ints_items hi
  have z : 0 < zs.size := by rw [← hz]; exact List.length_pos_iff.mpr hne
  rw [e] at hl
  refine call_max_walk (it_tup hl fun h2 i1 i2 fp ne old => ⟨_, _, _, _, _, _, _, rfl, Walks.tuple (A := A.in1) hh _ l ne (intItems zs), ⟨i1, i2⟩, fp, by simpa [intItems] using z, CmpOf.ints_gt (numAt zs) (fun _ _ => intItems_at), fun v h' tk hP hk => ?_⟩)
  have hv : (intItems zs)[argBest (fun i j => decide (numAt zs i > numAt zs j)) (zs.size - 1)]? = some v := by simpa [intItems] using hP
  obtain ⟨t, rfl⟩ := intItems_at hv
  have best := argBest_gt (numAt zs) (zs.size - 1)
  exact k h' tk _ t (fun b o q => hk b o (off_one q) (old b o (off_one q) q)) (hin _ (by omega)) fun a ha => by
    obtain ⟨j, hj, rfl⟩ := hall a ha
    exact best.2 j (by omega)
theorem min_tup {its : List Value} {ns : List Int} {Q : Value → Shared → Prop} (hh : A.handled = none) (hl : s.heap.IsTuple l its.toArray) (hi : IntsAre its ns) (hne : ns ≠ [])
    (k : ∀ h' tk m t', (∀ b o, s.heap.get? b = some o → h'.get? b = some o) → m ∈ ns → (∀ a ∈ ns, m ≤ a) → Q (.int m t') { s with heap := h', toks := tk }) : wpAny (model prog w) A (call (.builtin "min") [.ref l]) Q E s := by
  obtain ⟨zs, e, hz, hin, hall⟩ := ints_items hi
  have z : 0 < zs.size := by rw [← hz]; exact List.length_pos_iff.mpr hne
  rw [e] at hl
  refine call_min_walk (it_tup hl fun h2 i1 i2 fp ne old => ⟨_, _, _, _, _, _, _, rfl, Walks.tuple (A := A.in1) hh _ l ne (intItems zs), ⟨i1, i2⟩, fp, by simpa [intItems] using z, CmpOf.ints_lt (numAt zs) (fun _ _ => intItems_at), fun v h' tk hP hk => ?_⟩)
  have hv : (intItems zs)[argBest (fun i j => decide (numAt zs i < numAt zs j)) (zs.size - 1)]? = some v := by simpa [intItems] using hP
  obtain ⟨t, rfl⟩ := intItems_at hv
  have best := argBest_lt (numAt zs) (zs.size - 1)
  exact k h' tk _ t (fun b o q => hk b o (off_one q) (old b o (off_one q) q)) (hin _ (by omega)) fun a ha => by
    obtain ⟨j, hj, rfl⟩ := hall a ha
    exact best.2 j (by omega)
end
section
variable {X : Cx}
def rMaxT (K : PySem.W.Frag) : List V → Hp → VK → Prop := fun vs H Q => ∃ a ns, vs = [V.ref a] ∧ SqT K H a (ns.map V.int) ∧ ns ≠ [] ∧ ∀ m, m ∈ ns → (∀ y ∈ ns, y ≤ m) → Q (.int m) H
def rMinT (K : PySem.W.Frag) : List V → Hp → VK → Prop := fun vs H Q => ∃ a ns, vs = [V.ref a] ∧ SqT K H a (ns.map V.int) ∧ ns ≠ [] ∧ ∀ m, m ∈ ns → (∀ y ∈ ns, m ≤ y) → Q (.int m) H
theorem cr_maxT (hc : X.calm = true) : CallR X (.builtin "max") (rMaxT X.K) := fun pins s σ H vs us Q I r ⟨a, ns, e, hs, hne, q⟩ => by
  subst e
  obtain ⟨its, rv, hl, _⟩ := I.tuple hs
  rw [Vals.ref1 r]
  exact max_tup (I.ok.hd hc) hl rv.ints hne fun h' tk m t' hk h1 h2 => ⟨.int m, H, I.kept hk, ⟨t', rfl⟩, q m h1 h2⟩
theorem cr_minT (hc : X.calm = true) : CallR X (.builtin "min") (rMinT X.K) := fun pins s σ H vs us Q I r ⟨a, ns, e, hs, hne, q⟩ => by
  subst e
  obtain ⟨its, rv, hl, _⟩ := I.tuple hs
  rw [Vals.ref1 r]
  exact min_tup (I.ok.hd hc) hl rv.ints hne fun h' tk m t' hk h1 h2 => ⟨.int m, H, I.kept hk, ⟨t', rfl⟩, q m h1 h2⟩
end
/-- max(xs), min(xs) of a list or a tuple of ints -/
def fMax (ds : List D) (k : D → Prop) : Prop := match ds with
  | [.tup xs] => (match intsD xs with | some ns => ns ≠ [] ∧ ∀ m ∈ ns, (∀ y ∈ ns, y ≤ m) → k (.int m) | none => False)
  | _ => False
def fMin (ds : List D) (k : D → Prop) : Prop := match ds with
  | [.tup xs] => (match intsD xs with | some ns => ns ≠ [] ∧ ∀ m ∈ ns, (∀ y ∈ ns, m ≤ y) → k (.int m) | none => False)
  | _ => False
theorem cd_maxT {K : PySem.W.Frag} : CalD K fMax (rMaxT K) := fun c H xs ds k Q hk r h q => by
  unfold fMax at h
  split at h
  · split at h
    · rename_i zs ns e
      have e2 := ints_eq e
      subst e2
      cases r with
      | cons a t =>
        cases t
        cases a with
        | tup b z =>
          have e3 := z.ints
          subst e3
          exact ⟨_, _, rfl, hidT b, h.1, fun m h1 h2 => q _ _ _ (h.2 m h1 h2) (Ext.refl _ _) (.int _)⟩
    · exact h.elim
  · exact h.elim
theorem cd_minT {K : PySem.W.Frag} : CalD K fMin (rMinT K) := fun c H xs ds k Q hk r h q => by
  unfold fMin at h
  split at h
  · split at h
    · rename_i zs ns e
      have e2 := ints_eq e
      subst e2
      cases r with
      | cons a t =>
        cases t
        cases a with
        | tup b z =>
          have e3 := z.ints
          subst e3
          exact ⟨_, _, rfl, hidT b, h.1, fun m h1 h2 => q _ _ _ (h.2 m h1 h2) (Ext.refl _ _) (.int _)⟩
    · exact h.elim
  · exact h.elim
/-! ### any of a tuple of ints -/
section
variable {prog : Program} {w : World} {A : Around} {E : Value → Shared → Prop} {s : Shared} {l : Addr}
theorem ints_at : ∀ {its : List Value} {ns : List Int} {i : Nat} {v : Value}, IntsAre its ns → its[i]? = some v → ∃ t, v = .int (ns.getD i 0) t
  | _, _, i, v, .nil, h => by simp at h
  | _, _, 0, v, .cons n t _, h => by
    cases h
    exact ⟨t, rfl⟩
  | _, _, i + 1, v, .cons n t r, h => by
    obtain ⟨u, e⟩ := ints_at (i := i) r h
    exact ⟨u, by rw [e]; rfl⟩
theorem truth_ints {its : List Value} {ns : List Int} (hi : IntsAre its ns) : TruthOf prog w A (fun i v => its.toArray[i]? = some v) (fun i => !(ns.getD i 0 == 0)) := fun i v s Q E hv hq => by
  obtain ⟨t, rfl⟩ := ints_at hi (show its[i]? = some v by simpa using hv)
  exact PySem.P.truthy_int hq
theorem any_ix : ∀ ns : List Int, (List.range ns.length).any (fun i => !(ns.getD i 0 == 0)) = ns.any fun n => !(n == 0)
  | [] => rfl
  | n :: ns => by
    have ih := any_ix ns
    rw [List.length_cons, List.range_succ_eq_map, List.any_cons, List.any_map, List.any_cons, ← ih]
    rfl
end
def rAnyT (K : PySem.W.Frag) : List V → Hp → VK → Prop := fun vs H Q => ∃ (a : Addr) (ns : List Int), vs = [V.ref a] ∧ SqT K H a (ns.map V.int) ∧ Q (.bl (ns.any fun n => !(n == 0))) H
theorem cr_anyT {X : Cx} (hc : X.calm = true) : CallR X (.builtin "any") (rAnyT X.K) := fun pins s σ H vs us Q I r ⟨a, ns, e, hs, q⟩ => by
  subst e
  obtain ⟨its, rv, hl, _⟩ := I.tuple hs
  rw [Vals.ref1 r]
  have hi := rv.ints
  refine call_any_walk (it_tup hl fun h2 i1 i2 fp ne old => ⟨_, _, _, _, _, _, _, rfl, Walks.tuple (A := X.A.in1) (I.ok.hd hc) _ a ne its.toArray, ⟨i1, i2⟩, truth_ints hi, fun h' tk hk => ?_⟩)
  refine ⟨.bl _, H, I.kept fun b o eo => hk b o (off_one eo) (old b o (off_one eo) eo), ?_, q⟩
  have hz : its.toArray.size = ns.length := by rw [List.size_toArray]; exact hi.length
  show Value.bool _ = Value.bool _
  rw [← any_ix, hz]
def fAnyT (ds : List D) (k : D → Prop) : Prop := match ds with
  | [.tup xs] => (match intsD xs with | some ns => k (.bl (ns.any fun n => !(n == 0))) | none => False)
  | _ => False
theorem cd_anyT {K : PySem.W.Frag} : CalD K fAnyT (rAnyT K) := fun c H xs ds k Q hk r h q => by
  unfold fAnyT at h
  split at h
  · split at h
    · rename_i zs ns e
      have e2 := ints_eq e
      subst e2
      cases r with
      | cons a t =>
        cases t
        cases a with
        | tup b z =>
          have e3 := z.ints
          subst e3
          exact ⟨_, _, rfl, hidT b, q _ _ _ h (Ext.refl _ _) (.bl _)⟩
    · exact h.elim
  · exact h.elim

/-! ### a module's tuple of ints -/
def TupIn (K : PySem.W.Frag) (a : Addr) (ns : List Int) : Prop := ∃ (o : Obj) (its : Array Value) (n : Nat), K.lookup a = some o ∧ o.cls = .type "tuple" ∧ o.data = .seq its n ∧ its.size ≤ sizeLine ∧ Vals (ns.map V.int) its.toList
theorem TupIn.r {K : PySem.W.Frag} {a : Addr} {ns : List Int} (h : TupIn K a ns) (H : Hp) : R K H (.ref a) (.tup (ns.map D.int)) := by
  obtain ⟨o, its, n, h1, h2, h3, h4, h5⟩ := h
  exact .tup (.inr ⟨o, its, n, h1, h2, h3, h4, h5⟩) (Rs.of_ints ns)
section
variable {X : Cx} {EX : XK} {pos : Pos}
theorem d_globT {x : Str} {ns : List Int} (hg : Gl X x) (hm : ∃ a, X.mg x = some (.ref a) ∧ TupIn X.K a ns) (hd : (x == ("__debug__" : Str)) = false := by decide) : PDe X EX (.Name x pos) (dC (.tup (ns.map D.int))) := by
  obtain ⟨a, h1, h2⟩ := hm
  refine peW (pe_glob (v := .ref a) hg h1 rfl hd) fun σ H Q h => ?_
  obtain ⟨c, ρ, Kd, Ed, s, h, q⟩ := h
  exact q _ _ H h (Ext.refl _ _) (h2.r _)
theorem vals_ints3 (a b c : Int) (t u w : Tok) : Vals ([a, b, c].map V.int) [.int a t, .int b u, .int c w] := .cons ⟨_, rfl⟩ (.cons ⟨_, rfl⟩ (.cons ⟨_, rfl⟩ .nil))
end
/-! ### a pair with a new list in it, stored in two names -/
theorem rep_with0 {K : PySem.W.Frag} {c : Cf} {H H' : Hp} {σ : L2.St} {ρ : Ev} {a : Addr} (r : Rep K c H σ ρ) (k : Hk c H) (e : Ext c.B H H') (hn : H a = none) : Rep K (c.with a) H' σ ρ := by
  have sub : Sub (hid c.P H) (hid (c.with a).P H') := sub_with k hn fun b o hP he => e.keep b o (k.nob hP) he
  refine ⟨r.le, fun j d h => ?_, fun j d h => ?_, r.bag, r.sep⟩
  · obtain ⟨v, g1, g2⟩ := r.val j d h
    exact ⟨v, g1, g2.mono sub⟩
  · obtain ⟨b, g1, g2, g3⟩ := r.own j d h
    refine ⟨b, g1, by simp [Cf.with, g2], ?_⟩
    have na : b ≠ a := fun z => by
      have q := k.fresh hn
      rw [← z] at q
      simp [Cf.P, g2] at q
    exact g3.move g2 na (fun x o hx _ he => own_keep k e hx he) (noDict_none hn) (fun x hx _ => by simp [Cf.with, hx]) sub
section
variable {X : Cx} {EX : XK} {a b : Expr} {Ta Tb : DTE} {Tn : DTN} {x : Str} {pos : Pos}
def sParVO (i j : Nat) (Ta : DTE) (Tn : DTN) : DTS := fun E ρ => Ta E.ex ρ fun d => Tn E.ex ρ fun ds => j < ρ.length ∧ E.nx ((ρ.set i (some (.val d))).set j (some (.own (.lst ds))))
def sParOV (i j : Nat) (Tn : DTN) (Tb : DTE) : DTS := fun E ρ => Tn E.ex ρ fun ds => Tb E.ex ρ fun d => i < ρ.length ∧ E.nx ((ρ.set i (some (.own (.lst ds)))).set j (some (.val d)))
theorem s_parVO (i j : Nat) {y : Str} {px py pt : Pos} {kt k2 : Nat} {pt2 : Pos} (hc : X.calm = true) (hN : X.N.Nodup) (ha : PDe X EX a Ta) (hb : PDn X EX b Tn) (hi : X.N[i]? = some x := by rfl) (hj : X.N[j]? = some y := by rfl) (hij : i ≠ j := by decide)
    (hx : X.env.scope.names.lookup x = some .local := by rfl) (hy : X.env.scope.names.lookup y = some .local := by rfl) (h1 : starEach [a, b] X.env = (false, eval a X.env) :: starEach [b] X.env := by rfl) (h2 : starEach [b] X.env = (false, eval b X.env) :: starEach [] X.env := by rfl)
    (hw : swappedStores [.Tuple [.Name x px, .Name y py] kt pt] (.Tuple [a, b] k2 pt2) X.env = pure (some [x, y]) := by rfl)
    (hs : swapsWithSole [.Tuple [.Name x px, .Name y py] kt pt] (.Tuple [a, b] k2 pt2) pos.line X.env = pure false := by rfl) :
    PDs X EX (.Assign [.Tuple [.Name x px, .Name y py] kt pt] (.Tuple [a, b] k2 pt2) pos) (sParVO i j Ta Tn) := psW (ps_par hc hN hi hj hij hx hy (pa_cons ha (pa_cons hb pa_nil h2) h1) hw hs) fun D0 σ H h => by
  obtain ⟨c, ρ, E, s, h, q⟩ := h
  refine ⟨c, ρ, _, _, s, h, fun d v H1 k e r => ?_⟩
  have s1 := s.ext e
  refine ⟨c, ρ, _, _, s1, k, fun ds l xs H2 k2 e2 hn hl rx => ?_⟩
  exact ⟨_, _, rfl, q.nx (c.with l) _ _ H2 k2.2 ((Step.of e).trans (step_with e2 hn)) (rep_with (s1.r.set r) s1.k e2 hn hl rx j) (hk_with s1.k e2 hn hl)⟩
theorem s_parOV (i j : Nat) {y : Str} {px py pt : Pos} {kt k2 : Nat} {pt2 : Pos} (hc : X.calm = true) (hN : X.N.Nodup) (ha : PDn X EX a Tn) (hb : PDe X EX b Tb) (hi : X.N[i]? = some x := by rfl) (hj : X.N[j]? = some y := by rfl) (hij : i ≠ j := by decide)
    (hx : X.env.scope.names.lookup x = some .local := by rfl) (hy : X.env.scope.names.lookup y = some .local := by rfl) (h1 : starEach [a, b] X.env = (false, eval a X.env) :: starEach [b] X.env := by rfl) (h2 : starEach [b] X.env = (false, eval b X.env) :: starEach [] X.env := by rfl)
    (hw : swappedStores [.Tuple [.Name x px, .Name y py] kt pt] (.Tuple [a, b] k2 pt2) X.env = pure (some [x, y]) := by rfl)
    (hs : swapsWithSole [.Tuple [.Name x px, .Name y py] kt pt] (.Tuple [a, b] k2 pt2) pos.line X.env = pure false := by rfl) :
    PDs X EX (.Assign [.Tuple [.Name x px, .Name y py] kt pt] (.Tuple [a, b] k2 pt2) pos) (sParOV i j Tn Tb) := psW (ps_par hc hN hi hj hij hx hy (pa_cons ha (pa_cons hb pa_nil h2) h1) hw hs) fun D0 σ H h => by
  obtain ⟨c, ρ, E, s, h, q⟩ := h
  refine ⟨c, ρ, _, _, s, h, fun ds l xs H1 k e hn hl rx => ?_⟩
  have k1 := hk_with s.k e hn hl
  have s1 : St0 X.K EX (c.with l) H1 σ ρ E.ex := ⟨rep_with0 s.r s.k e hn, k1, s.x.step (step_with e hn)⟩
  refine ⟨c.with l, ρ, _, _, s1, k, fun d v H2 k2 e2 r => ?_⟩
  have e2' : Ext c.B H1 H2 := e2
  have ee := e.trans e2'
  have hl2 : H2 l = some (.lst xs) := own_keep k1 e2 (by simp [Cf.with]) hl
  have rx2 := rx.mono (k1.sub e2)
  exact ⟨_, _, rfl, q.nx (c.with l) _ _ H2 k2.2 (step_with ee hn) ((rep_with s.r s.k ee hn hl2 rx2 i).set r) (hk_with s.k ee hn hl2)⟩
end

/-! ### return [own.pop(e) for .. in ..] -/
def popD (i : Nat) (G : DTG) (Ta : DTE) (vs : List Nat) (ρ : Ev) (K : List D → Prop) : List D → List D → List D → Prop
  | [], _, acc => K acc
  | d :: ds, es, acc => G d (wipeD (ρ.set i (some (.own (.lst es)))) vs) fun ρ1 => ρ1[i]? = some (some (.own (.lst es))) ∧ Ta noE ρ1 fun k => match k with
    | .int z => ∃ (n : Nat) (e : D), z = (n : Int) ∧ n < 2 ^ 62 ∧ es[n]? = some e ∧ popD i G Ta vs ρ K ds (es.eraseIdx n) (acc ++ [e])
    | _ => False
def sRetPop (i : Nat) (I : DTI) (G : DTG) (Ta : DTE) (vs : List Nat) : DTS := fun E ρ => match ρ[i]? with
  | some (some (.own (.lst es))) => I E.ex ρ fun ds => ds.length ≤ 1000000 ∧ popD i G Ta vs ρ (fun acc => E.rt (.lst acc)) ds es []
  | _ => False
theorem rep_aside {K : PySem.W.Frag} {c : Cf} {H : Hp} {σ : L2.St} {ρ : Ev} {L : Addr} {o : HO} (r : Rep K c H σ ρ) (k : Hk c H) (hF : c.F L = true) (ne : ∀ (j : Nat) (d : D) (b : Addr), ρ[j]? = some (some (Sl.own d)) → σ[j]? = some (some (V.ref b)) → b ≠ L ∧ ∀ u, H L = some u → (∀ y, u ≠ .own y) ∧ ∀ f, u ≠ .xd f) : Rep K c (upd H L o) σ ρ := by
  have sub := (own_upd (o := o) k hF).2
  refine ⟨r.le, fun j d h => ?_, fun j d h => ?_, r.bag, r.sep⟩
  · obtain ⟨v, g1, g2⟩ := r.val j d h
    exact ⟨v, g1, g2.mono sub⟩
  · obtain ⟨b, g1, g2, g3⟩ := r.own j d h
    obtain ⟨nb, hL⟩ := ne j d b h g1
    refine ⟨b, g1, g2, ?_⟩
    exact g3.move g2 nb (fun x o _ hx he => by rw [upd_ne hx]; exact he) hL (fun x hx _ => hx) sub
theorem step_own {c : Cf} {H : Hp} {L : Addr} {o : HO} (hF : c.F L = true) : Step c c H (upd H L o) := by
  refine ⟨fun _ h => h, fun _ h => .inl h, fun _ h => h, fun _ h => .inl h, fun _ h => .inl h, fun b u _ hf he => ?_, fun b u he => ?_⟩
  · rw [upd_ne]
    · exact he
    · intro z
      rw [z, hF] at hf
      cases hf
  · by_cases z : b = L
    · rw [z]; exact ⟨_, upd_same⟩
    · rw [upd_ne z]; exact ⟨u, he⟩
section
variable {X : Cx} {EX : XK} {e tg iter : Expr} {scope : Scope} {own : List (Str × Nat)} {pos p p2 p3 cpos : Pos} {I : DTI} {G : DTG} {Ta : DTE} {js : List Nat} {x : Str}
theorem pop_of (i : Nat) (hj : ∀ j ∈ js, j ∈ own.map (·.2)) (hi : i ∉ own.map (·.2)) {σ : L2.St} {H : Hp} {D0 : Ends} (h : tS X.K EX (sRetPop i I G Ta (own.map (·.2))) D0 σ H) :
    tLc (tI X.K EX I) (tG X.K js G) (tT X.K E0 dYes) (tBM X.K "list" rPopAt (tVar i) (tCons (tD X.K E0 Ta) tNil)) (own.map (·.2)) σ H D0.rt := by
  obtain ⟨c, ρ, E, s, h, q⟩ := h
  unfold sRetPop at h
  split at h
  · rename_i es0 eo
    obtain ⟨a, xs0, ea, hF, hl, rx0⟩ := own_at s.r eo
    refine ⟨c, ρ, _, _, s, h, fun ds H1 J G0 Y k e w L hL => ?_⟩
    obtain ⟨hlen, k⟩ := k
    have s1 := s.ext e
    have hij : i ∉ js := fun z => hi (hj i z)
    have k1 : Hk (c.with L) (upd H1 L (.lst [])) := s1.k.with hL
    have x1 : Ext c.B H1 (upd H1 L (.lst [])) := Ext.new hL s1.k.bag
    have r1 : Rep X.K (c.with L) (upd H1 L (.lst [])) σ (ρ.set i (some (.own (.lst es0)))) := by
      have z : ρ.set i (some (.own (.lst es0))) = ρ := by
        refine List.ext_getElem? fun j => ?_
        by_cases ej : i = j
        · subst ej
          have hil : i < ρ.length := by
            rcases Nat.lt_or_ge i ρ.length with z | z
            · exact z
            · rw [List.getElem?_eq_none z] at eo
              cases eo
          rw [List.getElem?_set_self hil, eo]
        · rw [List.getElem?_set_ne ej]
      rw [z]
      exact rep_with0 s1.r s1.k x1 hL
    refine lc_it w.w (fun n H' => ∃ acc accD es, H' L = some (.lst acc) ∧ Rs X.K (hid (c.with L).P H') acc accD ∧ acc.length ≤ n ∧ popD i G Ta (own.map (·.2)) ρ (fun acc => E.rt (.lst acc)) (ds.drop n) es accD ∧
      Hk (c.with L) H' ∧ Rep X.K (c.with L) H' σ (ρ.set i (some (.own (.lst es)))) ∧ Step c (c.with L) H1 H') ?_ ?_ ?_ ?_
    · exact ⟨[], [], es0, upd_same, .nil, Nat.le_refl _, k, k1, r1, step_with x1 hL⟩
    · rintro n H' _ ⟨acc, accD, es, _, _, _, _, hk, _, st⟩
      exact w.g _ _ st hk
    · rintro n y0 H2 H3 hn ⟨acc, accD, es, hA, rA, hle, hp, hk2, r2, st⟩ y
      obtain ⟨d, e1, e3, rd⟩ := w.y n _ H2 y0 H3 hn st hk2 y
      have ed : ds.drop n = d :: ds.drop (n + 1) := by
        obtain ⟨hl, e1⟩ := List.getElem?_eq_some_iff.mp e1
        rw [← e1]
        exact List.drop_eq_getElem_cons hl
      rw [ed] at hp
      have k3 := hk2.ext e3
      have r3 := r2.ext hk2 e3
      refine ⟨c.with L, _, _, d, r3.wipe _, k3, rd, hp, fun ρ4 σ4 h4 r4 ag => ⟨wipe_ag ag hj, ?_⟩⟩
      obtain ⟨eo4, h4⟩ := h4
      refine ⟨c.with L, ρ4, (fun b => b = true), noE, ⟨r4, k3, fun _ _ _ _ z _ _ _ => False.elim z⟩, rfl, fun b H4 kb e4 => ?_⟩
      subst kb
      rw [if_pos rfl]
      have k4 := k3.ext e4
      have r4' := r4.ext k3 e4
      obtain ⟨b4, xs4, eb4, hF4, hl4, rx4⟩ := own_at r4' eo4
      refine ⟨_, eb4, .inl ⟨rfl, _, SqL.of hl4⟩, c.with L, ρ4, _, noE, ⟨r4', k4, fun _ _ _ _ z _ _ _ => False.elim z⟩, h4, fun dz vz H5 kz e5 rz => ?_⟩
      have e345 := (e3.trans e4).trans e5
      have k5 := hk2.ext e345
      have r5 := r2.ext hk2 e345
      split at kz
      · rename_i z
        cases rz
        obtain ⟨m, ed, rfl, hm, he, kz⟩ := kz
        have hset : i < ρ.length := by
          rcases Nat.lt_or_ge i ρ.length with z | z
          · exact z
          · rw [List.getElem?_eq_none z] at eo
            cases eo
        have eo5 : (ρ.set i (some (.own (.lst es))))[i]? = some (some (.own (.lst es))) := List.getElem?_set_self hset
        obtain ⟨a5, xs5, ea5, hF5, hl5, rx5⟩ := own_at r5 eo5
        have ea4 : σ4[i]? = σ[i]? := by rw [ag.2 i hij, wipe_out hi]
        have eab : a5 = b4 := by
          rw [ea4, ea5] at eb4
          cases eb4
          rfl
        subst eab
        obtain ⟨v, hv, rv⟩ := rx5.get he
        have hmx : m < xs5.length := by
          rcases Nat.lt_or_ge m xs5.length with z | z
          · exact z
          · rw [List.getElem?_eq_none z] at hv
            cases hv
        obtain ⟨r6, k6, st6⟩ := own_put (ys := xs5.eraseIdx m) r5 k5 eo5 ea5 hF5 (Rs.erase m rx5)
        have neL : L ≠ a5 := fun z => by
          obtain ⟨_, _, e0, f0, _⟩ := own_at s1.r eo
          rw [ea5] at e0
          cases e0
          have nP := s1.k.fresh hL
          rw [z] at nP
          simp [Cf.P, f0] at nP
        have keepL : H5 L = some (.lst acc) := by
          refine e345.keep L _ ?_ hA
          exact s1.k.nob (s1.k.fresh hL)
        have sub6 := (own_upd (o := HO.lst (xs5.eraseIdx m)) k5 hF5).2
        have hFL : (c.with L).F L = true := by simp [Cf.with]
        obtain ⟨k7, sub7⟩ := own_upd (o := HO.lst (acc ++ [v])) k6 hFL
        refine ⟨_, xs5, (m : Int), m, v, rfl, rfl, hl5, by omega, by omega, ?_, hv, acc, ?_, ?_, acc ++ [v], accD ++ [ed], es.eraseIdx m, upd_same, ?_, ?_, kz, k7, ?_, ?_⟩
        · exact (ixN_seq (Evl.ixN_nat hmx)).1
        · rw [upd_ne neL]
          exact keepL
        · have hlt : acc.length < 1000000 := by omega
          exact Nat.lt_of_lt_of_le hlt (by decide)
        · exact (((rA.mono (hk2.sub e345)).app (.cons rv .nil)).mono sub6).mono sub7
        · simp only [List.length_append, List.length_singleton]; omega
        · rw [List.set_set] at r6
          refine rep_aside r6 k6 hFL fun j d b hj hb => ?_
          have oj : ∃ d0, ρ[j]? = some (some (.own d0)) := by
            rcases set_cases hj with ⟨rfl, _, _⟩ | ⟨_, z⟩
            · exact ⟨_, eo⟩
            · exact ⟨_, z⟩
          obtain ⟨d0, oj⟩ := oj
          obtain ⟨b0, f1, f2, _⟩ := s1.r.own j d0 oj
          rw [hb] at f1
          cases f1
          refine ⟨fun z => ?_, noDict_lst (by rw [upd_ne neL]; exact keepL)⟩
          have nP := s1.k.fresh hL
          rw [← z] at nP
          simp [Cf.P, f2] at nP
        · exact ((st.trans (.of e345)).trans st6).trans (step_own hFL)
      · exact kz.elim
    · rintro H' ⟨acc, accD, es, hA, rA, hle, hp, hk2, r2, st⟩
      rw [List.drop_length] at hp
      have st2 : Step c c H1 H' := ⟨fun _ h => h, fun _ h => .inl h, fun _ h => h, fun _ h => .inl h, fun _ h => .inl h, st.keep, st.al⟩
      have hk : Hk c H' := ⟨hk2.bo, hk2.bag, fun b h => hk2.al b (by rw [with_P, h]; rfl), fun b h => hk2.fo b (by simp [Cf.with, h])⟩
      exact q.rt c (.lst accD) (.ref L) H' hp ((Step.of e).trans st2) hk (.lst (hid_some.mpr ⟨s1.k.fresh hL, hA⟩) (rA.mono (with_sub _ _ _)))
  · exact h.elim
theorem s_retPop (i : Nat) {elt : Expr} (hc : X.calm = true) (hN : X.N.Nodup) (hi : PDi X EX tg iter I) (ok : BlkOk X.N X.env.scope scope own)
    (hg : ∀ (s : Shared) (H : Hp) (C : Addr) (cl : List (Str × Addr)) (fp : List Addr), PDg (X.blk s H scope (compEnvC scope cl C X.env) fp) js tg G)
    (he : ∀ (s : Shared) (H : Hp) (C : Addr) (cl : List (Str × Addr)) (fp : List Addr), PE (X.blk s H scope (compEnvC scope cl C X.env) fp) elt (tBM X.K "list" rPopAt (tVar i) (tCons (tD X.K E0 Ta) tNil)))
    (hj : ∀ j ∈ js, j ∈ own.map (·.2) := by decide) (hio : i ∉ own.map (·.2) := by decide) (hs : ∀ x, foldedSetIterable iter X.env x = pure x := by intro _; rfl) :
    PDs X EX (.Return (some (.ListComp elt [⟨tg, iter, [], 0⟩] scope pos)) p) (sRetPop i I G Ta (own.map (·.2))) :=
  psW (L2.ps_ret (pe_lc hc hN hi ok hg (fun _ _ _ _ _ => ts_nil (EX := E0)) he hs)) fun _ _ _ h => pop_of i hj hio h
end

section
variable {X : Cx} {EX : XK} {a b d : Expr} {Ta Tb Td : DTE} {x : Str} {pos : Pos}
def sPar3 (i j l : Nat) (Ta Tb Td : DTE) : DTS := fun E ρ => Ta E.ex ρ fun u => Tb E.ex ρ fun v => Td E.ex ρ fun w => E.nx (((ρ.set i (some (.val u))).set j (some (.val v))).set l (some (.val w)))
theorem s_par3 (i j l : Nat) {y z : Str} {px py pz pt : Pos} {kt k2 : Nat} {pt2 : Pos} (hc : X.calm = true) (hN : X.N.Nodup) (ha : PDe X EX a Ta) (hb : PDe X EX b Tb) (hd : PDe X EX d Td) (hi : X.N[i]? = some x := by rfl) (hj : X.N[j]? = some y := by rfl) (hl : X.N[l]? = some z := by rfl)
    (hij : i ≠ j := by decide) (hil : i ≠ l := by decide) (hjl : j ≠ l := by decide) (hx : X.env.scope.names.lookup x = some .local := by rfl) (hy : X.env.scope.names.lookup y = some .local := by rfl) (hz : X.env.scope.names.lookup z = some .local := by rfl)
    (h1 : starEach [a, b, d] X.env = (false, eval a X.env) :: starEach [b, d] X.env := by rfl) (h2 : starEach [b, d] X.env = (false, eval b X.env) :: starEach [d] X.env := by rfl) (h3 : starEach [d] X.env = (false, eval d X.env) :: starEach [] X.env := by rfl)
    (hw : swappedStores [.Tuple [.Name x px, .Name y py, .Name z pz] kt pt] (.Tuple [a, b, d] k2 pt2) X.env = pure (some [x, y, z]) := by rfl)
    (hs : swapsWithSole [.Tuple [.Name x px, .Name y py, .Name z pz] kt pt] (.Tuple [a, b, d] k2 pt2) pos.line X.env = pure false := by rfl) :
    PDs X EX (.Assign [.Tuple [.Name x px, .Name y py, .Name z pz] kt pt] (.Tuple [a, b, d] k2 pt2) pos) (sPar3 i j l Ta Tb Td) :=
  psW (ps_par3 hc hN hi hj hl hij hil hjl hx hy hz (pa_cons ha (pa_cons hb (pa_cons hd pa_nil h3) h2) h1) hw hs) fun D0 σ H h => by
  obtain ⟨c, ρ, E, s, h, q⟩ := h
  refine ⟨c, ρ, _, _, s, h, fun u vu H1 k e r => ?_⟩
  have s1 := s.ext e
  refine ⟨c, ρ, _, _, s1, k, fun v vv H2 k2 e2 r2 => ?_⟩
  have s2 := s1.ext e2
  refine ⟨c, ρ, _, _, s2, k2, fun w vw H3 k3 e3 r3 => ?_⟩
  have s3 := s2.ext e3
  exact ⟨_, _, _, rfl, q.nx c _ _ H3 k3 (.of ((e.trans e2).trans e3)) (((s3.r.set ((r.mono (s1.k.sub e2)).mono (s2.k.sub e3))).set (r2.mono (s2.k.sub e3))).set r3) s3.k⟩
end

/-! ### three names at once, by way of a tuple, the first of them a new list -/
section
variable {X : Cx} {EX : XK} {a b d : Expr} {Tb Td : DTE} {Tn : DTN} {x : Str} {pos : Pos}
def sTupO (i j l : Nat) (Tn : DTN) (Tb Td : DTE) : DTS := fun E ρ => Tn E.ex ρ fun ds => Tb E.ex ρ fun v => Td E.ex ρ fun w => i < ρ.length ∧ E.nx (((ρ.set i (some (.own (.lst ds)))).set j (some (.val v))).set l (some (.val w)))
theorem s_tupO (i j l : Nat) {y z : Str} {px py pz pt : Pos} {kt k2 : Nat} {pt2 : Pos} (hc : X.calm = true) (hN : X.N.Nodup) (ha : PDn X EX a Tn) (hb : PDe X EX b Tb) (hd : PDe X EX d Td) (hi : X.N[i]? = some x := by rfl) (hj : X.N[j]? = some y := by rfl) (hl : X.N[l]? = some z := by rfl)
    (hx : Loc X.env.scope x := by first | exact .inl rfl | exact .inr rfl) (hy : Loc X.env.scope y := by first | exact .inl rfl | exact .inr rfl) (hz : Loc X.env.scope z := by first | exact .inl rfl | exact .inr rfl)
    (fx : X.fn x = true ∨ X.env.scope.names.lookup x = some .local := by first | exact .inl rfl | exact .inr rfl) (fy : X.fn y = true ∨ X.env.scope.names.lookup y = some .local := by first | exact .inl rfl | exact .inr rfl) (fz : X.fn z = true ∨ X.env.scope.names.lookup z = some .local := by first | exact .inl rfl | exact .inr rfl)
    (h1 : starEach [a, b, d] X.env = (false, eval a X.env) :: starEach [b, d] X.env := by rfl) (h2 : starEach [b, d] X.env = (false, eval b X.env) :: starEach [d] X.env := by rfl) (h3 : starEach [d] X.env = (false, eval d X.env) :: starEach [] X.env := by rfl)
    (hw : swappedStores [.Tuple [.Name x px, .Name y py, .Name z pz] kt pt] (.Tuple [a, b, d] k2 pt2) X.env = pure none := by rfl)
    (hs : swapsWithSole [.Tuple [.Name x px, .Name y py, .Name z pz] kt pt] (.Tuple [a, b, d] k2 pt2) pos.line X.env = pure false := by rfl)
    (hg : (assignEach [.Tuple [.Name x px, .Name y py, .Name z pz] kt pt] X.env).map (·.2) = [assign (.Tuple [.Name x px, .Name y py, .Name z pz] kt pt) X.env] := by rfl) :
    PDs X EX (.Assign [.Tuple [.Name x px, .Name y py, .Name z pz] kt pt] (.Tuple [a, b, d] k2 pt2) pos) (sTupO i j l Tn Tb Td) :=
  psW (ps_asg (pe_tup (pa_cons ha (pa_cons hb (pa_cons hd pa_nil h3) h2) h1)) (pg_tup (n := 3) hc (pgs_cons (pg_name hN hi hx fx) (pgs_cons (pg_name hN hj hy fy) (pgs_cons (pg_name hN hl hz fz) pgs_nil))) rfl rfl) hs hw hg) fun D0 σ H h => by
  obtain ⟨c, ρ, E, s, h, q⟩ := h
  refine ⟨c, ρ, _, _, s, h, fun ds m xs H1 k e hn hl rx => ?_⟩
  have k1 := hk_with s.k e hn hl
  have s1 : St0 X.K EX (c.with m) H1 σ ρ E.ex := ⟨rep_with0 s.r s.k e hn, k1, s.x.step (step_with e hn)⟩
  refine ⟨c.with m, ρ, _, _, s1, k, fun v vv H2 kv e2 r2 => ?_⟩
  have s2 := s1.ext e2
  refine ⟨c.with m, ρ, _, _, s2, kv, fun w vw H3 kw e3 r3 => ?_⟩
  have s3 := s2.ext e3
  refine ⟨by show 3 ≤ sizeLine; decide, fun p hp => ⟨p, _, rfl, SqT.of upd_same, rfl, _, _, rfl, _, _, rfl, _, _, rfl, rfl, ?_⟩⟩
  have e4 : Ext (c.with m).B H3 (upd H3 p (.tup [.ref m, vv, vw])) := Ext.new hp s3.k.bag
  have e14 : Ext c.B H1 (upd H3 p (.tup [.ref m, vv, vw])) := (e2.trans e3).trans e4
  have ee := e.trans e14
  have hl4 := own_keep k1 e14 (show (c.with m).F m = true by simp [Cf.with]) hl
  have rx4 := rx.mono (k1.sub e14)
  exact q.nx (c.with m) _ _ _ kw.2 (step_with ee hn) (((rep_with s.r s.k ee hn hl4 rx4 i).set ((r2.mono (s2.k.sub e3)).mono (s3.k.sub e4))).set (r3.mono (s3.k.sub e4))) (hk_with s.k ee hn hl4)
end

/-! ### two names at once, by way of a tuple, the second of them a new list -/
section
variable {X : Cx} {EX : XK} {a b : Expr} {Ta : DTE} {Tn : DTN} {x : Str} {pos : Pos}
theorem s_tupVO (i j : Nat) {y : Str} {px py pt : Pos} {kt k2 : Nat} {pt2 : Pos} (hc : X.calm = true) (hN : X.N.Nodup) (ha : PDe X EX a Ta) (hb : PDn X EX b Tn) (hi : X.N[i]? = some x := by rfl) (hj : X.N[j]? = some y := by rfl)
    (hx : Loc X.env.scope x := by first | exact .inl rfl | exact .inr rfl) (hy : Loc X.env.scope y := by first | exact .inl rfl | exact .inr rfl)
    (fx : X.fn x = true ∨ X.env.scope.names.lookup x = some .local := by first | exact .inl rfl | exact .inr rfl) (fy : X.fn y = true ∨ X.env.scope.names.lookup y = some .local := by first | exact .inl rfl | exact .inr rfl)
    (h1 : starEach [a, b] X.env = (false, eval a X.env) :: starEach [b] X.env := by rfl) (h2 : starEach [b] X.env = (false, eval b X.env) :: starEach [] X.env := by rfl)
    (hw : swappedStores [.Tuple [.Name x px, .Name y py] kt pt] (.Tuple [a, b] k2 pt2) X.env = pure none := by rfl)
    (hs : swapsWithSole [.Tuple [.Name x px, .Name y py] kt pt] (.Tuple [a, b] k2 pt2) pos.line X.env = pure false := by rfl)
    (hg : (assignEach [.Tuple [.Name x px, .Name y py] kt pt] X.env).map (·.2) = [assign (.Tuple [.Name x px, .Name y py] kt pt) X.env] := by rfl) :
    PDs X EX (.Assign [.Tuple [.Name x px, .Name y py] kt pt] (.Tuple [a, b] k2 pt2) pos) (sParVO i j Ta Tn) :=
  psW (ps_asg (pe_tup (pa_cons ha (pa_cons hb pa_nil h2) h1)) (pg_tup (n := 2) hc (pgs_cons (pg_name hN hi hx fx) (pgs_cons (pg_name hN hj hy fy) pgs_nil)) rfl rfl) hs hw hg) fun D0 σ H h => by
  obtain ⟨c, ρ, E, s, h, q⟩ := h
  refine ⟨c, ρ, _, _, s, h, fun v vv H1 kv e r => ?_⟩
  have s1 := s.ext e
  refine ⟨c, ρ, _, _, s1, kv, fun ds m xs H2 k e2 hn hl rx => ?_⟩
  refine ⟨by show 2 ≤ sizeLine; decide, fun p hp => ⟨p, _, rfl, SqT.of upd_same, rfl, _, _, rfl, _, _, rfl, rfl, ?_⟩⟩
  have k2' := hk_with s1.k e2 hn hl
  have e3 : Ext (c.with m).B H2 (upd H2 p (.tup [vv, .ref m])) := Ext.new hp k2'.bag
  have e3' : Ext c.B H2 (upd H2 p (.tup [vv, .ref m])) := e3
  have ee := e2.trans e3'
  have hl3 := own_keep k2' e3 (show (c.with m).F m = true by simp [Cf.with]) hl
  have rx3 := rx.mono (k2'.sub e3)
  exact q.nx (c.with m) _ _ _ k.2 ((Step.of e).trans (step_with ee hn)) (rep_with (s1.r.set r) s1.k ee hn hl3 rx3 j) (hk_with s1.k ee hn hl3)
end

/-! ### own[k], own[m] = e, f -/
section
variable {X : Cx} {EX : XK} {a b k m : Expr} {Ta Tb Tk Tm : DTE} {x : Str} {pos : Pos}
def putD (i : Nat) (d : D) (Tk : DTE) (E : ED) (ρ : Ev) (K : Ev → Prop) : Prop := match ρ[i]? with
  | some (some (.own (.lst ds))) => Tk E ρ fun y => match y with
    | .int z => (match ixN ds.length z with | some j => K (ρ.set i (some (.own (.lst (ds.set j d))))) | none => False)
    | _ => False
  | _ => False
def sOwnPair (i : Nat) (Tk Tm Ta Tb : DTE) : DTS := fun E ρ => Ta E.ex ρ fun v => Tb E.ex ρ fun w => putD i v Tk E.ex ρ fun ρ1 => putD i w Tm E.ex ρ1 fun ρ2 => E.nx ρ2
theorem put_of {c : Cf} {H : Hp} {σ : L2.St} {ρ : Ev} {i : Nat} {v : V} {d : D} {Ed : ED} {Kn : Ev → Prop} {Qs : L2.St → Hp → Prop} (s : St0 X.K EX c H σ ρ Ed) (r : R X.K (hid c.P H) v d) (h : putD i d Tk Ed ρ Kn)
    (q : ∀ ρ' H', Kn ρ' → Step c c H H' → Rep X.K c H' σ ρ' → Hk c H' → Qs σ H') : gSub (tVar i) (tD X.K EX Tk) rSetL v σ H Qs := by
  unfold putD at h
  split at h
  · rename_i ds eo
    obtain ⟨l, xs, ea, hF, hl, rx⟩ := own_at s.r eo
    refine ⟨_, ea, c, ρ, _, _, s, h, fun d2 v2 H2 k2 e2 r2 => ?_⟩
    have s2 := s.ext e2
    split at k2
    · rename_i z
      cases r2
      split at k2
      · rename_i j hj
        obtain ⟨l', xs', ea', hF', hl', rx'⟩ := own_at s2.r eo
        have el : l' = l := by
          rw [ea] at ea'
          cases ea'
          rfl
        subst el
        obtain ⟨r3, k3, st⟩ := own_put (ys := xs'.set j v) s2.r s2.k eo ea hF (Rs.set_ j rx' (r.mono (s.k.sub e2)))
        exact ⟨_, xs', _, j, rfl, rfl, hl', by rw [rx'.length]; exact hj, q _ _ k2 ((Step.of e2).trans st) r3 k3⟩
      · exact k2.elim
    · exact k2.elim
  · exact h.elim
theorem s_ownPair (i : Nat) {p2 p3 q2 q3 pt : Pos} {kt k2 : Nat} {pt2 : Pos} (hc : X.calm = true) (ha : PDe X EX a Ta) (hb : PDe X EX b Tb) (hk : PDe X EX k Tk) (hm : PDe X EX m Tm) (hN : X.N[i]? = some x := by rfl) (hv : Vis X.env.scope x := by first | exact Or.inl rfl | exact Or.inr (Or.inl rfl) | exact Or.inr (Or.inr rfl)) (hd : (x == ("__debug__" : Str)) = false := by decide) (hcd : (x == ("__classdict__" : Str)) = false := by decide)
    (h1 : starEach [a, b] X.env = (false, eval a X.env) :: starEach [b] X.env := by rfl) (h2 : starEach [b] X.env = (false, eval b X.env) :: starEach [] X.env := by rfl)
    (hw : swappedStores [.Tuple [.Subscript (.Name x p2) k p3, .Subscript (.Name x q2) m q3] kt pt] (.Tuple [a, b] k2 pt2) X.env = pure none := by rfl)
    (hs : swapsWithSole [.Tuple [.Subscript (.Name x p2) k p3, .Subscript (.Name x q2) m q3] kt pt] (.Tuple [a, b] k2 pt2) pos.line X.env = pure false := by rfl)
    (hg : (assignEach [.Tuple [.Subscript (.Name x p2) k p3, .Subscript (.Name x q2) m q3] kt pt] X.env).map (·.2) = [assign (.Tuple [.Subscript (.Name x p2) k p3, .Subscript (.Name x q2) m q3] kt pt) X.env] := by rfl)
    (w1 : ∀ v, assign (.Subscript (.Name x p2) k p3) X.env v = (do
      let ov ← holding [v] (eval (.Name x p2) X.env)
      let iv ← holding [v, ov] (eval k X.env)
      standAt p3
      holding [v, ov, iv] (setItem ov iv v)
      release [v, ov, iv] []) := by intro _; rfl)
    (w2 : ∀ v, assign (.Subscript (.Name x q2) m q3) X.env v = (do
      let ov ← holding [v] (eval (.Name x q2) X.env)
      let iv ← holding [v, ov] (eval m X.env)
      standAt q3
      holding [v, ov, iv] (setItem ov iv v)
      release [v, ov, iv] []) := by intro _; rfl)
    (hn : (assignEach [Expr.Subscript (.Name x p2) k p3, .Subscript (.Name x q2) m q3] X.env).length = 2 := by rfl) (hst : (assignEach [Expr.Subscript (.Name x p2) k p3, .Subscript (.Name x q2) m q3] X.env).findIdx? (·.1) = none := by rfl)
    (e1 : (assignEach [Expr.Subscript (.Name x p2) k p3, .Subscript (.Name x q2) m q3] X.env).map (·.2) = assign (Expr.Subscript (.Name x p2) k p3) X.env :: (assignEach [Expr.Subscript (.Name x q2) m q3] X.env).map (·.2) := by rfl)
    (e2 : (assignEach [Expr.Subscript (.Name x q2) m q3] X.env).map (·.2) = assign (Expr.Subscript (.Name x q2) m q3) X.env :: (assignEach [] X.env).map (·.2) := by rfl) :
    PDs X EX (.Assign [.Tuple [.Subscript (.Name x p2) k p3, .Subscript (.Name x q2) m q3] kt pt] (.Tuple [a, b] k2 pt2) pos) (sOwnPair i Tk Tm Ta Tb) :=
  psW (ps_asg (pe_tup (pa_cons ha (pa_cons hb pa_nil h2) h1)) (pg_tup (n := 2) hc (pgs_cons (pg_sub (pe_var hN hv hd hcd) hk set_list w1) (pgs_cons (pg_sub (pe_var hN hv hd hcd) hm set_list w2) pgs_nil e2) e1) hn hst) hs hw hg) fun D0 σ H h => by
  obtain ⟨c, ρ, E, s, h, q⟩ := h
  refine ⟨c, ρ, _, _, s, h, fun v vv H1 kv e r => ?_⟩
  have s1 := s.ext e
  refine ⟨c, ρ, _, _, s1, kv, fun w vw H2 kw e' r' => ?_⟩
  have s2 := s1.ext e'
  refine ⟨by show 2 ≤ sizeLine; decide, fun p hp => ⟨p, _, rfl, SqT.of upd_same, rfl, _, _, rfl, ?_⟩⟩
  have e3 : Ext c.B H2 (upd H2 p (.tup [vv, vw])) := Ext.new hp s2.k.bag
  have s3 := s2.ext e3
  have rv := (r.mono (s1.k.sub e')).mono (s2.k.sub e3)
  have rw_ := r'.mono (s2.k.sub e3)
  refine put_of s3 rv kw fun ρ1 H4 k4 st4 r4 hk4 => ⟨_, _, rfl, ?_⟩
  have s4 : St0 X.K EX c H4 σ ρ1 E.ex := ⟨r4, hk4, s3.x.step st4⟩
  exact put_of s4 (rw_.mono (st4.sub s3.k)) k4 fun ρ2 H5 k5 st5 r5 hk5 => ⟨rfl, q.nx c _ _ H5 k5 ((Step.of ((e.trans e').trans e3)).trans (st4.trans st5)) r5 hk5⟩
end

/-! ### two fors in a comprehension -/
def noOwn (ρ : Ev) : Bool := ρ.all fun s => match s with | some (.own _) => false | _ => true
theorem noOwn_at {ρ : Ev} (h : noOwn ρ = true) {j : Nat} {d : D} : ρ[j]? ≠ some (some (.own d)) := fun e => by
  have m := List.mem_of_getElem? e
  have := List.all_eq_true.mp h _ m
  cases this
def lcI (G : DTG) (Tt : DTT) (Te : DTE) (ρ : Ev) (K : List D → Prop) : List D → List D → Prop
  | [], acc => K acc
  | d :: ds, acc => G d ρ fun ρ1 => Tt noE ρ1 fun k => (k = true → Te noE ρ1 fun y => lcI G Tt Te ρ K ds (acc ++ [y])) ∧ (k = false → lcI G Tt Te ρ K ds acc)
def lc2D (G : DTG) (Tt : DTT) (I1 : DTI) (G1 : DTG) (Tt1 : DTT) (Te : DTE) (vs1 : List Nat) (ρ : Ev) (K : D → Prop) : List D → List D → Prop
  | [], acc => K (.lst acc)
  | d :: ds, acc => G d ρ fun ρ1 => noOwn ρ1 = true ∧ Tt noE ρ1 fun k => (k = true → I1 noE ρ1 fun es => acc.length + es.length ≤ 1000000 ∧ lcI G1 Tt1 Te (wipeD ρ1 vs1) (fun acc' => lc2D G Tt I1 G1 Tt1 Te vs1 ρ K ds acc') es acc) ∧ (k = false → lc2D G Tt I1 G1 Tt1 Te vs1 ρ K ds acc)
def dLc2 (I : DTI) (G : DTG) (Tt : DTT) (I1 : DTI) (G1 : DTG) (Tt1 : DTT) (Te : DTE) (vs vs1 : List Nat) : DTE := fun E ρ K => noOwn ρ = true ∧ I E ρ fun ds => lc2D G Tt I1 G1 Tt1 Te vs1 (wipeD ρ vs) K ds []
/-- while the new list at L grows -/
structure Grow (K : PySem.W.Frag) (c : Cf) (L : Addr) (H1 H : Hp) (acc : List V) (accD : List D) : Prop where
  at_ : H L = some (.lst acc)
  r : Rs K (hid (c.with L).P H) acc accD
  k : Hk (c.with L) H
  st : Step c (c.with L) H1 H
  keep : ∀ a o, c.B a = false → H1 a = some o → H a = some o
section
variable {K : PySem.W.Frag} {c : Cf} {L : Addr} {H1 H H' : Hp} {acc : List V} {accD : List D}
theorem Grow.ext (g : Grow K c L H1 H acc accD) (nb : c.B L = false) (e : Ext (c.with L).B H H') : Grow K c L H1 H' acc accD :=
  ⟨e.keep L _ nb g.at_, g.r.mono (g.k.sub e), g.k.ext e, g.st.trans (.of e), fun a o hb h => e.keep a o hb (g.keep a o hb h)⟩
theorem Grow.push (g : Grow K c L H1 H acc accD) (hL : H1 L = none) {v : V} {d : D} (r : R K (hid (c.with L).P H) v d) : Grow K c L H1 (upd H L (.lst (acc ++ [v]))) (acc ++ [v]) (accD ++ [d]) := by
  have hF : (c.with L).F L = true := by simp [Cf.with]
  obtain ⟨k2, sub⟩ := own_upd (o := HO.lst (acc ++ [v])) g.k hF
  refine ⟨upd_same, (g.r.app (.cons r .nil)).mono sub, k2, g.st.trans (step_own hF), fun a o hb h => ?_⟩
  rw [upd_ne (ne_of_none h hL)]
  exact g.keep a o hb h
theorem rep_no {σ : L2.St} {ρ : Ev} (r : Rep K c H σ ρ) (no : noOwn ρ = true) (k : Hk c H) (hF : c.F L = true) {o : HO} : Rep K c (upd H L o) σ ρ :=
  rep_aside r k hF fun j d b h _ => absurd h (noOwn_at no)
end
section
variable {X : Cx} {EX : XK} {elt tg iter tg1 iter1 : Expr} {ifs ifs1 : List Expr} {scope : Scope} {own : List (Str × Nat)} {vs1 : List Nat} {pos : Pos} {I I1 : DTI} {G G1 : DTG} {Tt Tt1 : DTT} {Te : DTE} {js js1 : List Nat}
theorem lc2_of (hj : ∀ j ∈ js, j ∈ own.map (·.2)) (hj1 : ∀ j ∈ js1, j ∈ vs1) {σ : L2.St} {H : Hp} {Q : VK} (h : tD X.K EX (dLc2 I G Tt I1 G1 Tt1 Te (own.map (·.2)) vs1) σ H Q) :
    tLc2 (tI X.K EX I) (tG X.K js G) (tT X.K E0 Tt) (tI X.K E0 I1) (tG X.K js1 G1) (tT X.K E0 Tt1) (tD X.K E0 Te) (own.map (·.2)) vs1 σ H Q := by
  obtain ⟨c, ρ, Kd, Ed, s, ⟨no, h⟩, q⟩ := h
  refine ⟨c, ρ, _, Ed, s, h, fun ds H1 J G0 Y k e w L hL => ?_⟩
  have s1 := s.ext e
  have hF : (c.with L).F L = true := by simp [Cf.with]
  have nb : c.B L = false := s1.k.nob (s1.k.fresh hL)
  have x1 : Ext c.B H1 (upd H1 L (.lst [])) := Ext.new hL s1.k.bag
  let Pv : Nat → Hp → Prop := fun i H' => ∃ acc accD, Grow X.K c L H1 H' acc accD ∧ Rep X.K (c.with L) H' σ ρ ∧ lc2D G Tt I1 G1 Tt1 Te vs1 (wipeD ρ (own.map (·.2))) Kd (ds.drop i) accD
  refine ⟨fun i m H' => m = ds.length - i ∧ i ≤ ds.length ∧ Pv i H', ⟨ds.length, by simp, Nat.zero_le _, [], [], ⟨upd_same, .nil, s1.k.with hL, step_with x1 hL, fun a o hb he => x1.keep a o hb he⟩, rep_with0 s1.r s1.k x1 hL, k⟩, ?_⟩
  rintro i m H2 ⟨rfl, hi, acc, accD, g, r2, hp⟩
  have hG := w.g _ _ g.st g.k
  by_cases hlt : i < ds.length
  · refine .inr ⟨w.w.goes i H2 hlt hG, Pv (i + 1), fun H' p' => ⟨ds.length - (i + 1), by omega, rfl, hlt, p'⟩, fun x H3 y => ?_⟩
    obtain ⟨d, e1, e3, rd⟩ := w.y i _ H2 x H3 hlt g.st g.k (w.w.yields i H2 x H3 hlt hG y)
    have ed : ds.drop i = d :: ds.drop (i + 1) := by
      obtain ⟨hl, e1⟩ := List.getElem?_eq_some_iff.mp e1
      rw [← e1]
      exact List.drop_eq_getElem_cons hl
    rw [ed] at hp
    have g3 := g.ext nb e3
    have r3 := r2.ext g.k e3
    refine ⟨c.with L, _, _, d, r3.wipe _, g3.k, rd, hp, fun ρ4 σ4 h4 r4 ag => ⟨wipe_ag ag hj, ?_⟩⟩
    obtain ⟨no4, h4⟩ := h4
    refine ⟨c.with L, ρ4, _, noE, ⟨r4, g3.k, fun _ _ _ _ z _ _ _ => False.elim z⟩, h4, fun b H4 kb e4 => ?_⟩
    have g4 := g3.ext nb e4
    have r4' := r4.ext g3.k e4
    have r2' := r3.ext g3.k e4
    cases b with
    | false => exact iteF ⟨acc, accD, g4, r2', kb.2 rfl⟩
    | true =>
      refine iteT ⟨c.with L, ρ4, _, noE, ⟨r4', g4.k, fun _ _ _ _ z _ _ _ => False.elim z⟩, kb.1 rfl, fun es H5 J1 G5 Y1 k5 e5 w5 => ?_⟩
      obtain ⟨hle, k5⟩ := k5
      have g5 := g4.ext nb e5
      have hlen0 : acc.length = accD.length := g.r.length
      let Pi : Nat → Hp → Prop := fun j H' => ∃ acc' accD', Grow X.K c L H1 H' acc' accD' ∧ Rep X.K (c.with L) H' σ ρ ∧ Rep X.K (c.with L) H' σ4 ρ4 ∧ Step (c.with L) (c.with L) H5 H' ∧ acc'.length ≤ accD.length + j ∧
        lcI G1 Tt1 Te (wipeD ρ4 vs1) (fun a => lc2D G Tt I1 G1 Tt1 Te vs1 (wipeD ρ (own.map (·.2))) Kd (ds.drop (i + 1)) a) (es.drop j) accD'
      refine ⟨fun j m H' => m = es.length - j ∧ j ≤ es.length ∧ Pi j H', ⟨es.length, by simp, Nat.zero_le _, acc, accD, g5, r2'.ext g4.k e5, r4'.ext g4.k e5, .refl _ _, by omega, k5⟩, ?_⟩
      rintro j m2 H6 ⟨rfl, hj6, acc', accD', g6, ra, rb, st6, hl6, hp6⟩
      have hG6 := w5.g _ _ st6 g6.k
      by_cases hlt6 : j < es.length
      · refine .inr ⟨w5.w.goes j H6 hlt6 hG6, Pi (j + 1), fun H' p' => ⟨es.length - (j + 1), by omega, rfl, hlt6, p'⟩, fun x H7 y => ?_⟩
        obtain ⟨d7, e71, e7, rd7⟩ := w5.y j _ H6 x H7 hlt6 st6 g6.k (w5.w.yields j H6 x H7 hlt6 hG6 y)
        have ed7 : es.drop j = d7 :: es.drop (j + 1) := by
          obtain ⟨hl, e1⟩ := List.getElem?_eq_some_iff.mp e71
          rw [← e1]
          exact List.drop_eq_getElem_cons hl
        rw [ed7] at hp6
        have g7 := g6.ext nb e7
        refine ⟨c.with L, _, _, d7, (rb.ext g6.k e7).wipe _, g7.k, rd7, hp6, fun ρ8 σ8 h8 r8 ag8 => ⟨wipe_ag ag8 hj1, ?_⟩⟩
        refine ⟨c.with L, ρ8, _, noE, ⟨r8, g7.k, fun _ _ _ _ z _ _ _ => False.elim z⟩, h8, fun b8 H8 kb8 e8 => ?_⟩
        have g8 := g7.ext nb e8
        have e78 := e7.trans e8
        cases b8 with
        | false => exact iteF ⟨acc', accD', g8, ra.ext g6.k e78, rb.ext g6.k e78, st6.trans (.of e78), by omega, kb8.2 rfl⟩
        | true =>
          refine iteT ⟨c.with L, ρ8, _, noE, ⟨r8.ext g7.k e8, g8.k, fun _ _ _ _ z _ _ _ => False.elim z⟩, kb8.1 rfl, fun dy vy H9 ky e9 r9 => ?_⟩
          have g9 := g8.ext nb e9
          have e79 := e78.trans e9
          have hlt9 : acc'.length < sizeLine := Nat.lt_of_lt_of_le (show acc'.length < 1000000 by omega) (by decide)
          exact ⟨acc', g9.at_, hlt9, acc' ++ [vy], accD' ++ [dy], g9.push hL r9, rep_no (ra.ext g6.k e79) no g9.k hF, rep_no (rb.ext g6.k e79) no4 g9.k hF, (st6.trans (.of e79)).trans (step_own hF), by simp only [List.length_append, List.length_singleton]; omega, ky⟩
      · have e6 : j = es.length := by omega
        subst e6
        rw [List.drop_length] at hp6
        exact .inl ⟨w5.w.stops H6 hG6, acc', accD', g6, ra, hp6⟩
  · have e2 : i = ds.length := by omega
    subst e2
    rw [List.drop_length] at hp
    have ex : Ext c.B H1 H2 := ⟨g.keep, fun _ => g.k.bag, g.st.al⟩
    exact .inl ⟨w.w.stops H2 hG, q _ _ _ hp (e.trans ex) (.lst (hid_some.mpr ⟨s1.k.fresh hL, g.at_⟩) (g.r.mono (with_sub _ _ _)))⟩
theorem d_lc2 (hc : X.calm = true) (hN : X.N.Nodup) (hi : PDi X EX tg iter I) (ok : BlkOk X.N X.env.scope scope own)
    (hg : ∀ (s : Shared) (H : Hp) (C : Addr) (cl : List (Str × Addr)) (fp : List Addr), PDg (X.blk s H scope (compEnvC scope cl C X.env) fp) js tg G) (ht : ∀ (s : Shared) (H : Hp) (C : Addr) (cl : List (Str × Addr)) (fp : List Addr), PDts (X.blk s H scope (compEnvC scope cl C X.env) fp) E0 ifs Tt)
    (hi1 : ∀ (s : Shared) (H : Hp) (C : Addr) (cl : List (Str × Addr)) (fp : List Addr), PDi (X.blk s H scope (compEnvC scope cl C X.env) fp) E0 tg1 iter1 I1)
    (hg1 : ∀ (s : Shared) (H : Hp) (C : Addr) (cl : List (Str × Addr)) (fp : List Addr), PDg (X.blk s H scope (compEnvC scope cl C X.env) fp) js1 tg1 G1) (ht1 : ∀ (s : Shared) (H : Hp) (C : Addr) (cl : List (Str × Addr)) (fp : List Addr), PDts (X.blk s H scope (compEnvC scope cl C X.env) fp) E0 ifs1 Tt1)
    (he : ∀ (s : Shared) (H : Hp) (C : Addr) (cl : List (Str × Addr)) (fp : List Addr), PDe (X.blk s H scope (compEnvC scope cl C X.env) fp) E0 elt Te) (hv : ∀ i ∈ vs1, i ∈ own.map (·.2) := by decide) (hj : ∀ j ∈ js, j ∈ own.map (·.2) := by decide) (hj1 : ∀ j ∈ js1, j ∈ vs1 := by decide)
    (hs : ∀ x, foldedSetIterable iter X.env x = pure x := by intro _; rfl) (hs1 : ∀ env x, foldedSetIterable iter1 env x = pure x := by intro _ _; rfl) :
    PDe X EX (.ListComp elt [⟨tg, iter, ifs, 0⟩, ⟨tg1, iter1, ifs1, 0⟩] scope pos) (dLc2 I G Tt I1 G1 Tt1 Te (own.map (·.2)) vs1) := peW (pe_lc2 hc hN hi ok hv hg ht hi1 hg1 ht1 he hs hs1) fun _ _ _ h => lc2_of hj hj1 h
end

/-! texts: str(n), int(text), slices of texts -/
section
variable {X : Cx} {EX : XK} {e : Expr} {T : DTE} {lo hi : Option Expr} {pos p2 : Pos} {K : PySem.W.Frag}
def fStrI (ds : List D) (k : D → Prop) : Prop := match ds with
  | [.int i] => i.natAbs.log2 < 1920 ∧ k (.str (toString i))
  | _ => False
theorem cd_strI : CalD K fStrI (fun xs H Q => ∃ i, xs = [.int i] ∧ i.natAbs.log2 < 1920 ∧ Q (.str (toString i)) H) := fun c H xs ds k Q hk r h q => by
  unfold fStrI at h
  split at h
  · cases r with
    | cons a t =>
      cases t
      cases a
      exact ⟨_, rfl, h.1, q _ _ _ h.2 (Ext.refl _ _) (.str _)⟩
  · exact h.elim
def fIntS (ds : List D) (k : D → Prop) : Prop := match ds with
  | [.str a] => ∃ n, PySem.intText? a = some n ∧ a.length ≤ 640 ∧ k (.int n)
  | _ => False
theorem cd_intS : CalD K fIntS (fun xs H Q => ∃ a n, xs = [.str a] ∧ PySem.intText? a = some n ∧ a.length ≤ 640 ∧ Q (.int n) H) := fun c H xs ds k Q hk r h q => by
  unfold fIntS at h
  split at h
  · cases r with
    | cons a t =>
      cases t
      cases a
      obtain ⟨n, h1, h2, h3⟩ := h
      exact ⟨_, n, rfl, h1, h2, q _ _ _ h3 (Ext.refl _ _) (.int _)⟩
  · exact h.elim
def fSlS (x : D) (lo hi : Option Int) (k : D → Prop) : Prop := match x with
  | .str z => z.length ≤ 1000000 ∧ k (.str (cutS z lo hi))
  | _ => False
def dSlS (T : DTE) (L U : DTO) : DTE := fun E ρ K => T E ρ fun d => L E ρ fun lo => U E ρ fun hi => fSlS d lo hi K
theorem d_sliceS {L U : DTO} (he : PDe X EX e T) (hl : PDo X EX lo L) (hu : PDo X EX hi U) : PDe X EX (.Subscript e (.Slice lo hi none p2) pos) (dSlS T L U) :=
  peW (pe_slice sl_str he hl hu) fun σ H Q h => by
    obtain ⟨c, ρ, Kd, Ed, s, h, q⟩ := h
    refine ⟨c, ρ, _, Ed, s, h, fun d v H1 k e r => ⟨c, ρ, _, Ed, s.ext e, k, fun o1 H2 k2 e2 => ⟨c, ρ, _, Ed, (s.ext e).ext e2, k2, fun o2 H3 k3 e3 => ?_⟩⟩⟩
    unfold fSlS at k3
    split at k3
    · cases r
      exact ⟨_, rfl, szL k3.1, q _ _ _ k3.2 ((e.trans e2).trans e3) (.str _)⟩
    · exact k3.elim
end

/-! instances of classes with slots: reading a slot, an instance under way (own), making one -/
/-- what of a class with slots is asked: its slots by name, in their order -/
structure ClsF (K : PySem.W.Frag) (C : Addr) (fs : List Str) : Prop where
  c : SlX.SCls K C
  sl : ∀ i f, fs[i]? = some f → ∃ p, SlX.Slot1 K C f p i
theorem Ro.get {K : PySem.W.Frag} {H : Hp} : ∀ {vs : List (Option V)} {ds : List (Option D)} {i : Nat} {d : D}, Ro K H vs ds → ds[i]? = some (some d) → ∃ v, vs[i]? = some (some v) ∧ R K H v d
  | _, _, _, _, .nil, h => by simp at h
  | _, _, 0, _, .yes r _, h => by simp at h; subst h; exact ⟨_, rfl, r⟩
  | _, _, 0, _, .no _, h => by simp at h
  | _, _, i + 1, d, .yes _ t, h => by
    obtain ⟨v, a, b⟩ := Ro.get (i := i) t (by simpa using h)
    exact ⟨v, by simpa using a, b⟩
  | _, _, i + 1, d, .no t, h => by
    obtain ⟨v, a, b⟩ := Ro.get (i := i) t (by simpa using h)
    exact ⟨v, by simpa using a, b⟩
theorem Ro.length {K : PySem.W.Frag} {H : Hp} : ∀ {vs : List (Option V)} {ds : List (Option D)}, Ro K H vs ds → vs.length = ds.length
  | _, _, .nil => rfl
  | _, _, .yes _ t => congrArg (· + 1) t.length
  | _, _, .no t => congrArg (· + 1) t.length
theorem Ro.set {K : PySem.W.Frag} {H : Hp} {v : V} {d : D} (r : R K H v d) : ∀ {vs : List (Option V)} {ds : List (Option D)} (i : Nat), Ro K H vs ds → Ro K H (vs.set i (some v)) (ds.set i (some d))
  | _, _, _, .nil => .nil
  | _, _, 0, .yes _ t => .yes r t
  | _, _, 0, .no t => .yes r t
  | _, _, i + 1, .yes a t => .yes a (t.set r i)
  | _, _, i + 1, .no t => .no (t.set r i)
theorem Ro.app {K : PySem.W.Frag} {H : Hp} : ∀ {vs : List (Option V)} {ds : List (Option D)} (n : Nat), Ro K H vs ds → Ro K H (vs ++ List.replicate n none) (ds ++ List.replicate n none)
  | _, _, n, .nil => by
    induction n with
    | zero => exact .nil
    | succ n ih => exact .no ih
  | _, _, n, .yes a t => .yes a (t.app n)
  | _, _, n, .no t => .no (t.app n)
def putD' (i : Nat) (d : D) (ds : List (Option D)) : List (Option D) := (ds ++ List.replicate (i + 1 - ds.length) none).set i (some d)
theorem Ro.put {K : PySem.W.Frag} {H : Hp} {v : V} {d : D} {vs : List (Option V)} {ds : List (Option D)} (t : Ro K H vs ds) (i : Nat) (r : R K H v d) : Ro K H (SlX.putS i v vs) (putD' i d ds) := by
  unfold SlX.putS putD'
  rw [← t.length]
  exact (t.app _).set r i
section
variable {X : Cx} {EX : XK} {e : Expr} {T : DTE} {pos : Pos} {f : Str}
/-- e.f, a slot -/
def dFld (C : Addr) (i : Nat) (T : DTE) : DTE := fun E ρ K => T E ρ fun d => match d with
  | .obj C' _ ds => C' = C ∧ (match ds[i]? with | some (some d) => K d | _ => False)
  | _ => False
theorem d_fld {C : Addr} {i : Nat} {fs : List Str} (hc : ClsF X.K C fs) (hi : fs[i]? = some f) (he : PDe X EX e T) (hb : attributeBase e f X.env (eval e X.env) = eval e X.env := by rfl) : PDe X EX (.Attribute e f pos) (dFld C i T) :=
  peW (SlX.pe_sl he hb) fun σ H Q h => by
    obtain ⟨c, ρ, Kd, Ed, s, h, q⟩ := h
    refine ⟨c, ρ, _, Ed, s, h, fun d v H1 k e r => ?_⟩
    split at k
    · rename_i C' _ ds
      obtain ⟨rfl, k⟩ := k
      split at k
      · rename_i d' hd
        cases r with
        | obj _ hs ro =>
          obtain ⟨v', hv, rv⟩ := ro.get hd
          obtain ⟨p, hp⟩ := hc.sl i f hi
          exact ⟨_, _, _, p, _, i, v', rfl, (hid_sub _ _).slt hs, hc.c, hp, hv, q _ _ _ k e rv⟩
      · exact k.elim
    · exact k.elim
end
/-! ### an instance under way -/
theorem own_obj {K : PySem.W.Frag} {c : Cf} {H : Hp} {σ : L2.St} {ρ : Ev} {i : Nat} {C : Addr} {ds : List (Option D)} (r : Rep K c H σ ρ) {t : Option Addr} (h : ρ[i]? = some (some (.own (.obj C t ds)))) :
    ∃ a dx vs, t = some a ∧ σ[i]? = some (some (.ref a)) ∧ c.F a = true ∧ SlX.Slt H a C dx vs ∧ dx ≠ a ∧ c.F dx = true ∧ (H dx = some (.own a) ∨ H dx = some (.xd [])) ∧ Ro K (hid c.P H) vs ds := by
  obtain ⟨a, g1, g2, ht, dx, vs, g3, g4, g5, g6, g7⟩ := r.own i _ h
  exact ⟨a, dx, vs, ht, g1, g2, g3, g4, g5, g6, g7⟩
section
variable {X : Cx} {EX : XK} {e : Expr} {T : DTE} {pos p2 pos' : Pos} {f x : Str}
/-- own.f -/
def dOwnFld (C : Addr) (i k : Nat) : DTE := fun _ ρ K => match ρ[i]? with
  | some (some (.own (.obj C' _ ds))) => C' = C ∧ (match ds[k]? with | some (some d) => K d | _ => False)
  | _ => False
theorem d_ownFld {C : Addr} {k : Nat} {fs : List Str} (i : Nat) (hc : ClsF X.K C fs) (hk : fs[k]? = some f) (hN : X.N[i]? = some x := by rfl) (hv : Vis X.env.scope x := by first | exact Or.inl rfl | exact Or.inr (Or.inl rfl) | exact Or.inr (Or.inr rfl)) (hd : (x == ("__debug__" : Str)) = false := by decide)
    (hcd : (x == ("__classdict__" : Str)) = false := by decide) (hb : attributeBase (.Name x p2) f X.env (eval (.Name x p2) X.env) = eval (.Name x p2) X.env := by rfl) : PDe X EX (.Attribute (.Name x p2) f pos) (dOwnFld C i k) :=
  peW (SlX.pe_sl (pe_var hN hv hd hcd) hb) fun σ H Q h => by
    obtain ⟨c, ρ, Kd, Ed, s, h, q⟩ := h
    unfold dOwnFld at h
    split at h
    · rename_i C' t ds eo
      obtain ⟨rfl, h⟩ := h
      split at h
      · rename_i d hd'
        obtain ⟨a, dx, vs, et, e1, hF, hs, ne, hFx, hx, ro⟩ := own_obj s.r eo
        obtain ⟨v, hv', rv⟩ := ro.get hd'
        obtain ⟨p, hp⟩ := hc.sl k f hk
        exact ⟨_, e1, a, _, dx, p, _, k, v, rfl, hs, hc.c, hp, hv', q _ _ _ h (Ext.refl _ _) rv⟩
      · exact h.elim
    · exact h.elim
/-- no other instance is under way -/
def soleObj (i : Nat) (ρ : Ev) : Bool := ρ.zipIdx.all fun p => match p.1 with | some (.own (.obj _ _ _)) => p.2 == i | _ => true
theorem sole_at {i j : Nat} {ρ : Ev} {C : Addr} {t : Option Addr} {ds : List (Option D)} (h : soleObj i ρ = true) (hj : ρ[j]? = some (some (.own (.obj C t ds)))) : j = i := by
  have hm : ((some (Sl.own (.obj C t ds)) : Option Sl), j) ∈ ρ.zipIdx := by
    rw [List.mem_zipIdx_iff_getElem?]
    exact hj
  have := List.all_eq_true.mp h _ hm
  simpa using this
/-- what a store to a slot of the own instance leaves -/
theorem own_fld {K : PySem.W.Frag} {c : Cf} {H : Hp} {σ : L2.St} {ρ : Ev} {i k : Nat} {C a dx : Addr} {ds : List (Option D)} {vs : List (Option V)} {v : V} {d : D} (r : Rep K c H σ ρ) (kk : Hk c H) (h : ρ[i]? = some (some (.own (.obj C (some a) ds)))) (e1 : σ[i]? = some (some (.ref a)))
    (hF : c.F a = true) (hFx : c.F dx = true) (ne : dx ≠ a) (hx : H dx = some (.own a) ∨ H dx = some (.xd [])) (ha : SlX.Slt H a C dx vs) (ro : Ro K (hid c.P H) vs ds) (rv : R K (hid c.P H) v d) (so : soleObj i ρ = true) :
    Rep K c (SlX.slH H a C dx (SlX.putS k v vs)) σ (ρ.set i (some (.own (.obj C (some a) (putD' k d ds))))) ∧ Hk c (SlX.slH H a C dx (SlX.putS k v vs)) ∧ Step c c H (SlX.slH H a C dx (SlX.putS k v vs)) := by
  unfold SlX.slH
  obtain ⟨k1, sub1⟩ := own_upd (o := HO.xd []) kk hFx
  obtain ⟨k2, sub2⟩ := own_upd (o := SlX.SlO a C dx (SlX.putS k v vs)) k1 hF
  have sub := sub1.trans sub2
  have hil : i < ρ.length := by
    rcases Nat.lt_or_ge i ρ.length with z | z
    · exact z
    · rw [List.getElem?_eq_none z] at h
      cases h
  have hat : (∃ fs, H a = some (.ins C dx fs)) ∨ ∃ ws, H a = some (SlX.SlO a C dx ws) := by
    rcases ha with ⟨h1, _⟩ | ⟨h1, _⟩
    · exact .inl ⟨_, h1⟩
    · exact .inr ⟨_, h1⟩
  refine ⟨⟨by simpa using r.le, fun j d' hj => ?_, fun j d' hj => ?_, fun j hj => ?_, fun j l d1 d2 b hj hl2 h1 h2 => ?_⟩, k2, ?_⟩
  · rcases set_cases hj with ⟨rfl, hl2, q⟩ | ⟨ne, q⟩
    · cases q
    · obtain ⟨v, g1, g2⟩ := r.val j d' q
      exact ⟨v, g1, g2.mono sub⟩
  · rcases set_cases hj with ⟨rfl, hl2, q⟩ | ⟨nej, q⟩
    · cases q
      refine ⟨a, e1, hF, rfl, dx, _, .inr ⟨upd_same, by rw [upd_ne ne]; exact upd_same⟩, ne, hFx, .inr (by rw [upd_ne ne]; exact upd_same), (ro.put k rv).mono sub⟩
    · obtain ⟨b, g1, g2, g3⟩ := r.own j d' q
      have na : b ≠ a := fun z => nej (r.sep i j _ _ a h q e1 (by rw [g1, z]))
      refine ⟨b, g1, g2, ?_⟩
      cases d' with
      | lst es =>
        obtain ⟨xs, g4, g5⟩ := g3
        have nx : b ≠ dx := fun z => by
          rw [z] at g4
          rcases hx with w | w <;> (rw [w] at g4; cases g4)
        exact ⟨xs, by rw [upd_ne na, upd_ne nx]; exact g4, g5.mono sub⟩
      | dic es =>
        obtain ⟨xs, g4, g5⟩ := g3
        have nx : b ≠ dx := fun z => by
          rw [z] at g4
          rcases hx with w | w <;> (rw [w] at g4; cases g4)
        exact ⟨xs, by rw [upd_ne na, upd_ne nx]; exact g4, g5.mono sub⟩
      | obj C2 t2 es => exact absurd (sole_at so q) (fun z => nej z.symm)
      | _ => exact g3.elim
  · rcases set_cases hj with ⟨rfl, hl2, q⟩ | ⟨ne, q⟩
    · cases q
    · exact r.bag j q
  · have back : ∀ {j : Nat} {d' : D}, (ρ.set i (some (.own (.obj C (some a) (putD' k d ds)))))[j]? = some (some (.own d')) → ∃ d0, ρ[j]? = some (some (.own d0)) := fun {j d'} hj => by
      rcases set_cases hj with ⟨rfl, _, _⟩ | ⟨_, q⟩
      · exact ⟨_, h⟩
      · exact ⟨_, q⟩
    obtain ⟨_, q1⟩ := back hj
    obtain ⟨_, q2⟩ := back hl2
    exact r.sep j l _ _ b q1 q2 h1 h2
  · exact (step_own hFx).trans (step_own hF)
/-- own.f = e -/
def sOwnFld (C : Addr) (i k : Nat) (T : DTE) : DTS := fun E ρ => match ρ[i]? with
  | some (some (.own (.obj C' t ds))) => C' = C ∧ soleObj i ρ = true ∧ T E.ex ρ fun d => E.nx (ρ.set i (some (.own (.obj C t (putD' k d ds)))))
  | _ => False
theorem s_ownFld {C : Addr} {k : Nat} {fs : List Str} (i : Nat) (hc : ClsF X.K C fs) (hk : fs[k]? = some f) (he : PDe X EX e T) (hN : X.N[i]? = some x := by rfl) (hv : Vis X.env.scope x := by first | exact Or.inl rfl | exact Or.inr (Or.inl rfl) | exact Or.inr (Or.inr rfl)) (hd : (x == ("__debug__" : Str)) = false := by decide)
    (hcd : (x == ("__classdict__" : Str)) = false := by decide) (hs : swapsWith e (some (.Attribute (.Name x p2) f pos')) pos.line X.env = pure false := by rfl) : PDs X EX (.Assign [.Attribute (.Name x p2) f pos'] e pos) (sOwnFld C i k T) :=
  psW (SlX.ps_sl (pe_var hN hv hd hcd) he hs) fun G σ H h => by
    obtain ⟨c, ρ, E, s, h, hE⟩ := h
    unfold sOwnFld at h
    split at h
    · rename_i C' t ds eo
      obtain ⟨rfl, so, h⟩ := h
      obtain ⟨a, dx, vs, et, e1, hF, hs, ne, hFx, hx, ro⟩ := own_obj s.r eo
      refine ⟨c, ρ, _, E.ex, s, h, fun d v H1 k1 ex r1 => ⟨_, e1, ?_⟩⟩
      have s1 := s.ext ex
      obtain ⟨a', dx', vs', et', e1', hF', hs', ne', hFx', hx', ro'⟩ := own_obj s1.r eo
      rw [e1] at e1'
      cases e1'
      subst et
      obtain ⟨p, hp⟩ := hc.sl k f hk
      obtain ⟨r2, k2, st⟩ := own_fld (k := k) (d := d) (v := v) s1.r s1.k eo e1 hF' hFx' ne' hx' hs' ro' r1 so
      exact ⟨a, _, dx', p, vs', k, rfl, hs', hc.c, hp, hE.nx c _ _ _ k1 ((Step.of ex).trans st) r2 k2⟩
    · exact h.elim
end

/-! making an instance of a class with slots: the promise of its __init__ -/
abbrev DSo := ED → List Sl → (List (Option D) → Prop) → Prop
abbrev Cf.two (c : Cf) (x dx : Addr) : Cf := (c.with x).with dx
/-- the promise of the __init__ of the class C: n further parameters; what the slots hold at its end -/
def spI (K : PySem.W.Frag) (C : Addr) (n : Nat) (T : DSo) : Sp := fun vs H Q E => ∃ c ss Kd Ed x dx ws, vs = .ref x :: ws ∧ (∀ a, c.F a = false) ∧ ss.length = n ∧ As K (c.two x dx) H ws ss ∧ Hk c H ∧ Exs K E (c.two x dx) H Ed ∧ c.P x = false ∧ c.P dx = false ∧ dx ≠ x ∧
  H x = some (.ins C dx []) ∧ H dx = some (.own x) ∧ T Ed ss Kd ∧ ∀ ds vs' dx' H', Kd ds → (∀ a o, c.B a = false → a ≠ x → a ≠ dx → H a = some o → H' a = some o) → (∀ a, c.B a = true → BagAt H' a) → (∀ a o, H a = some o → ∃ o', H' a = some o') →
    SlX.Slt (hid c.P H') x C dx' vs' → Ro K (hid c.P H') vs' ds → Q .non H'
theorem spI_len {K : PySem.W.Frag} {C : Addr} {n : Nat} {T : DSo} {vs : List V} {H : Hp} {Q : VK} {E : XK} (h : spI K C n T vs H Q E) : vs.length = n + 1 := by
  obtain ⟨c, ss, Kd, Ed, x, dx, ws, rfl, _, hl, ha, _⟩ := h
  rw [List.length_cons, ha.length, hl]
def endsI (C x : Addr) (Kd : List (Option D) → Prop) (Ed : ED) : ES := ⟨fun ρ => match ρ[0]? with | some (some (Sl.own (D.obj C' t ds))) => C' = C ∧ t = some x ∧ Kd ds | _ => False, fun _ => False, fun _ => False, fun _ => False, fun _ => False, Ed⟩
theorem two_P {c : Cf} {x dx a : Addr} : (c.two x dx).P a = (c.P a || decide (a = x) || decide (a = dx)) := by
  rw [with_P, with_P]
theorem two_hk {c : Cf} {H : Hp} {x dx : Addr} (k : Hk c H) (hx : c.P x = false) (hdx : c.P dx = false) (h1 : ∃ o, H x = some o) (h2 : ∃ o, H dx = some o) : Hk (c.two x dx) H := by
  have o1 : c.O x = false ∧ c.F x = false := by simpa [Cf.P] using hx
  have o2 : c.O dx = false ∧ c.F dx = false := by simpa [Cf.P] using hdx
  refine ⟨k.bo, k.bag, fun a h => ?_, fun a h => ?_⟩
  · rw [two_P] at h
    simp only [Bool.or_eq_true, decide_eq_true_eq] at h
    rcases h with (h | rfl) | rfl
    · exact k.al a (by simpa [Cf.P] using h)
    · exact h1
    · exact h2
  · have h' : ((c.F a || decide (a = x)) || decide (a = dx)) = true := h
    simp only [Bool.or_eq_true, decide_eq_true_eq] at h'
    rcases h' with (h' | rfl) | rfl
    · exact k.fo a h'
    · exact o1.1
    · exact o2.1
theorem no_own0 {K : PySem.W.Frag} {c : Cf} {H : Hp} : ∀ {vs : List V} {ss : List Sl}, As K c H vs ss → ∀ (N : List Str) (i : Nat) (d : D), (start0 N ss)[i]? ≠ some (some (.own d)) := by
  intro vs ss a N i d h
  unfold start0 at h
  have get : ∀ (vs : List V) (ss : List Sl), As K c H vs ss → ∀ (i : Nat), ss[i]? ≠ some (.own d) := by
    intro vs ss a
    induction a with
    | nil => intro i h; simp at h
    | cons h t ih =>
      intro i hs
      cases i with
      | zero => simp at hs; subst hs; exact h
      | succ i => exact ih i (by simpa using hs)
  by_cases hi : i < (ss.map some).length
  · rw [List.getElem?_append_left hi, List.getElem?_map] at h
    cases e : ss[i]? with
    | none => rw [e] at h; cases h
    | some s =>
      rw [e] at h
      cases h
      exact get vs ss a i e
  · rw [List.getElem?_append_right (by omega), List.getElem?_replicate] at h
    split at h <;> cases h
theorem rep_cons {K : PySem.W.Frag} {c : Cf} {H : Hp} {σ : L2.St} {ρ : Ev} {x : Addr} {d : D} (r : Rep K c H σ ρ) (no : ∀ (i : Nat) (d : D), ρ[i]? ≠ some (some (.own d))) (hF : c.F x = true) (ho : OwnAt K c H x d) : Rep K c H (some (.ref x) :: σ) (some (.own d) :: ρ) := by
  refine ⟨by simpa using r.le, fun i d' h => ?_, fun i d' h => ?_, fun i h => ?_, fun i j d1 d2 a h1 h2 _ _ => ?_⟩
  · cases i with
    | zero => simp at h
    | succ i => simpa using r.val i d' (by simpa using h)
  · cases i with
    | zero =>
      simp at h
      subst h
      exact ⟨x, by simp, hF, ho⟩
    | succ i => exact absurd (by simpa using h) (no i d')
  · cases i with
    | zero => simp at h
    | succ i => simpa using r.bag i (by simpa using h)
  · cases i with
    | zero =>
      cases j with
      | zero => rfl
      | succ j => exact absurd (by simpa using h2) (no j d2)
    | succ i => exact absurd (by simpa using h1) (no i d1)
theorem start_cons (n : Str) (N : List Str) (v : V) (vs : List V) : L2.start (n :: N) (v :: vs) = some v :: L2.start N vs := by
  simp [L2.start]
theorem start0_cons (n : Str) (N : List Str) (s : Sl) (ss : List Sl) : start0 (n :: N) (s :: ss) = some s :: start0 N ss := by
  simp [start0]
section
variable {P : Program} {w : World} {K : PySem.W.Frag} {mg : Str → Option Value} {base : Heap}
/-- an __init__ that raises nothing: its body by data, the own instance in the first slot -/
theorem fn_okI {x qual : Str} {st : Stmt} {f C : Addr} {fd : FuncData} {n0 : Str} {N ps : List Str} {k n : Nat} {T : DSo} {Tb : DTS} (F : Fun K x qual st f fd) (S : FnScope (n0 :: N) ps (defScope st)) (hn : ps.length = n + 1)
    (hbi : ∀ (kV doc pm : Value) (an : Option Addr) (cdv ct : Value) (us : List Value), us.length = ps.length → bindArgs (PySem.W.fnOf x qual (defArgs st) (defBody st) (defScope st) .none kV doc pm an cdv ct) ⟨us, []⟩ = pure (ps.zip us))
    (body : ∀ (cdv : Value) (A : Around) (outer : List Env) (s : Shared) (H : Hp) (E : XK), (A.deeper (envOfC qual (defScope st) s.heap.objs.size f cdv)).guards = some [] → Room k (A.deeper (envOfC qual (defScope st) s.heap.objs.size f cdv)) →
      PDb (cxOf CX0 P w K mg base (n0 :: N) qual (defScope st) f cdv A outer s H E).nox E0 (defBody st) Tb)
    (read : ∀ Ed ss Kd y, ss.length = n → T Ed ss Kd → Tb (endsI C y Kd fun _ => False) (start0 (n0 :: N) (.own (.obj C (some y) []) :: ss))) : FnG P w K mg base CX0 (k + 1) f (spI K C n T) := by
  intro A outer s H us vs Q E hg hr e0 r h
  obtain ⟨oc, od, kV, doc, pm, an, cdv, ct, osl, rfl, lk, hcd⟩ := F.ex
  have hl : vs.length = ps.length := (spI_len h).trans hn.symm
  refine StX.run_bnd lk hcd S hr e0 (G := fun xs H2 => xs = vs ∧ H2 = H) (fun A' Ex Q' hq => ?_) fun s2 H2 xs ⟨e1, e2⟩ hr' => ?_
  · rw [hbi kV doc pm an cdv ct us (by rw [← r.length]; exact hl)]
    exact wpAny_pure (hq s H vs us e0 Un.refl rfl (fun _ _ z => z) r hl ⟨rfl, rfl⟩)
  · subst e1 e2
    obtain ⟨c, ss, Kd, Ed, y, dx, ws, rfl, hF, hl, ha, hk, hex, hx, hdx, ne, hy, hdy, hT, q⟩ := h
    have k1 := two_hk hk hx hdx ⟨_, hy⟩ ⟨_, hdy⟩
    have Fy : (c.two y dx).F y = true := by simp [Cf.with]
    have Fdx : (c.two y dx).F dx = true := by simp [Cf.with]
    refine ⟨_, (body cdv A outer s2 H2 E hg hr').nox, ?_⟩
    refine ⟨c.two y dx, start0 (n0 :: N) (.own (.obj C (some y) []) :: ss), endsI C y Kd fun _ => False, ⟨?_, k1, fun _ _ _ _ z _ _ _ => False.elim z⟩, read Ed ss Kd y hl hT, ?_⟩
    · rw [start_cons, start0_cons]
      exact rep_cons (rep_start N ha) (no_own0 ha N) Fy ⟨rfl, dx, [], .inl ⟨hy, rfl⟩, ne, Fdx, .inl hdy, .nil⟩
    · refine ⟨fun c' ρ' σ' H' h st r k => ?_, fun _ _ _ _ h _ _ _ => h.elim, fun _ _ _ _ h _ _ _ => h.elim, fun _ _ _ _ h _ _ _ => h.elim, fun _ _ _ _ _ h _ _ _ _ _ _ => h.elim⟩
      simp only [endsI] at h
      split at h
      · rename_i C' t ds eo
        obtain ⟨rfl, rfl, hkd⟩ := h
        obtain ⟨a, dx', vs', et, e1, hFa, hs, hne, hFx, hxx, ro⟩ := own_obj r eo
        cases et
        have cy : c.O y = false ∧ c.F y = false := by simpa [Cf.P] using hx
        have fr : ∀ {b : Addr}, c'.F b = true → c.P b = false := fun {b} hb => by
          rcases st.f b hb with z | z
          · have z' : ((c.F b || decide (b = y)) || decide (b = dx)) = true := z
            rw [hF b] at z'
            simp only [Bool.false_or, Bool.or_eq_true, decide_eq_true_eq] at z'
            rcases z' with rfl | rfl
            · exact hx
            · exact hdx
          · exact hk.fresh z
        have vis : Sub (hid c'.P H') (hid c.P H') := fun b o hb => by
          obtain ⟨h1, h2⟩ := hid_some.mp hb
          refine hid_some.mpr ⟨?_, h2⟩
          have h3 : c'.O b = false ∧ c'.F b = false := by simpa [Cf.P] using h1
          have h4 : c.O b = false := by
            cases e : c.O b with
            | false => rfl
            | true =>
              have z := st.o b e
              rw [h3.1] at z
              cases z
          simp [Cf.P, h4, hF b]
        refine q ds vs' dx' H' hkd (fun b o hB n1 n2 he => st.keep b o hB (by simp [Cf.with, hF b, n1, n2]) he) (fun b hB => k.bag b (st.b b hB)) st.al ?_ (ro.mono vis)
        rcases hs with ⟨h1, h2⟩ | ⟨h1, h2⟩
        · exact .inl ⟨hid_some.mpr ⟨fr hFa, h1⟩, h2⟩
        · exact .inr ⟨hid_some.mpr ⟨fr hFa, h1⟩, hid_some.mpr ⟨fr hFx, h2⟩⟩
      · exact h.elim
/-- .. that may raise -/
theorem fn_okIX {x qual : Str} {st : Stmt} {f C : Addr} {fd : FuncData} {n0 : Str} {N ps : List Str} {k n : Nat} {T : DSo} {Tb : DTS} (F : Fun K x qual st f fd) (S : FnScope (n0 :: N) ps (defScope st)) (hn : ps.length = n + 1)
    (hbi : ∀ (kV doc pm : Value) (an : Option Addr) (cdv ct : Value) (us : List Value), us.length = ps.length → bindArgs (PySem.W.fnOf x qual (defArgs st) (defBody st) (defScope st) .none kV doc pm an cdv ct) ⟨us, []⟩ = pure (ps.zip us))
    (body : ∀ (cdv : Value) (A : Around) (outer : List Env) (s : Shared) (H : Hp) (E : XK), (A.deeper (envOfC qual (defScope st) s.heap.objs.size f cdv)).guards = some [] → Room k (A.deeper (envOfC qual (defScope st) s.heap.objs.size f cdv)) →
      L2.Takes (cxOf (L2.CX P w) P w K mg base (n0 :: N) qual (defScope st) f cdv A outer s H E) (fun cls d _ H => E cls d H) → PDb (cxOf (L2.CX P w) P w K mg base (n0 :: N) qual (defScope st) f cdv A outer s H E) E (defBody st) Tb)
    (read : ∀ Ed ss Kd y, ss.length = n → T Ed ss Kd → Tb (endsI C y Kd Ed) (start0 (n0 :: N) (.own (.obj C (some y) []) :: ss))) : FnG P w K mg base (L2.CX P w) (k + 1) f (spI K C n T) := by
  intro A outer s H us vs Q E hg hr e0 r h
  obtain ⟨oc, od, kV, doc, pm, an, cdv, ct, osl, rfl, lk, hcd⟩ := F.ex
  have hl : vs.length = ps.length := (spI_len h).trans hn.symm
  refine StX.run_bnd lk hcd S hr e0 (G := fun xs H2 => xs = vs ∧ H2 = H) (fun A' Ex Q' hq => ?_) fun s2 H2 xs ⟨e1, e2⟩ hr' => ?_
  · rw [hbi kV doc pm an cdv ct us (by rw [← r.length]; exact hl)]
    exact wpAny_pure (hq s H vs us e0 Un.refl rfl (fun _ _ z => z) r hl ⟨rfl, rfl⟩)
  · subst e1 e2
    obtain ⟨c, ss, Kd, Ed, y, dx, ws, rfl, hF, hl, ha, hk, hex, hx, hdx, ne, hy, hdy, hT, q⟩ := h
    have k1 := two_hk hk hx hdx ⟨_, hy⟩ ⟨_, hdy⟩
    have Fy : (c.two y dx).F y = true := by simp [Cf.with]
    have Fdx : (c.two y dx).F dx = true := by simp [Cf.with]
    refine ⟨_, body cdv A outer s2 H2 E hg hr' (takes_of rfl rfl rfl rfl), ?_⟩
    refine ⟨c.two y dx, start0 (n0 :: N) (.own (.obj C (some y) []) :: ss), endsI C y Kd Ed, ⟨?_, k1, hex⟩, read Ed ss Kd y hl hT, ?_⟩
    · rw [start_cons, start0_cons]
      exact rep_cons (rep_start N ha) (no_own0 ha N) Fy ⟨rfl, dx, [], .inl ⟨hy, rfl⟩, ne, Fdx, .inl hdy, .nil⟩
    · refine ⟨fun c' ρ' σ' H' h st r k => ?_, fun _ _ _ _ h _ _ _ => h.elim, fun _ _ _ _ h _ _ _ => h.elim, fun _ _ _ _ h _ _ _ => h.elim, fun _ _ _ _ _ h _ _ _ _ _ _ => h.elim⟩
      simp only [endsI] at h
      split at h
      · rename_i C' t ds eo
        obtain ⟨rfl, rfl, hkd⟩ := h
        obtain ⟨a, dx', vs', et, e1, hFa, hs, hne, hFx, hxx, ro⟩ := own_obj r eo
        cases et
        have cy : c.O y = false ∧ c.F y = false := by simpa [Cf.P] using hx
        have fr : ∀ {b : Addr}, c'.F b = true → c.P b = false := fun {b} hb => by
          rcases st.f b hb with z | z
          · have z' : ((c.F b || decide (b = y)) || decide (b = dx)) = true := z
            rw [hF b] at z'
            simp only [Bool.false_or, Bool.or_eq_true, decide_eq_true_eq] at z'
            rcases z' with rfl | rfl
            · exact hx
            · exact hdx
          · exact hk.fresh z
        have vis : Sub (hid c'.P H') (hid c.P H') := fun b o hb => by
          obtain ⟨h1, h2⟩ := hid_some.mp hb
          refine hid_some.mpr ⟨?_, h2⟩
          have h3 : c'.O b = false ∧ c'.F b = false := by simpa [Cf.P] using h1
          have h4 : c.O b = false := by
            cases e : c.O b with
            | false => rfl
            | true =>
              have z := st.o b e
              rw [h3.1] at z
              cases z
          simp [Cf.P, h4, hF b]
        refine q ds vs' dx' H' hkd (fun b o hB n1 n2 he => st.keep b o hB (by simp [Cf.with, hF b, n1, n2]) he) (fun b hB => k.bag b (st.b b hB)) st.al ?_ (ro.mono vis)
        rcases hs with ⟨h1, h2⟩ | ⟨h1, h2⟩
        · exact .inl ⟨hid_some.mpr ⟨fr hFa, h1⟩, h2⟩
        · exact .inr ⟨hid_some.mpr ⟨fr hFa, h1⟩, hid_some.mpr ⟨fr hFx, h2⟩⟩
      · exact h.elim
/-- the class C, made by its __init__ of n further parameters, at a level k -/
def CalleeI (P : Program) (w : World) (K : PySem.W.Frag) (mg : Str → Option Value) (base : Heap) (CX : CXT) (k : Nat) (x : Str) (C : Addr) (n : Nat) (T : DSo) : Prop :=
  ∃ f, mg x = some (.ref C) ∧ Mk K C f ∧ FnG P w K mg base CX k f (spI K C n T)
end
/-- C(e, ..) -/
def dMake (C : Addr) (n : Nat) (T : DSo) (Ta : DTA) : DTE := fun E ρ K => Ta E ρ fun ss => ss.length = n ∧ T E ss fun ds => K (.obj C none ds)
theorem run_mkG {X : Cx} {pins : List (Addr × Obj)} {σ : L2.St} {H : Hp} {s : Shared} {CX : CXT} {k : Nat} {f C : Addr} {sp : Sp} {E : XK} {Q : VK} {us : List Value} {vs : List V} (M : Mk X.K C f) (F : FnG X.prog X.w X.K X.mg X.base CX k f sp) (hg : X.A.guards = some []) (hr : Room (k + 1) X.A)
    (hx : Passes CX X E) (I : Inv X pins σ H s) (r : Vals vs us)
    (h : ∀ x dx, H x = none → H dx = none → dx ≠ x → sp (V.ref x :: vs) (upd (upd H dx (.own x)) x (.ins C dx [])) (fun v H2 => v = .non ∧ Q (.ref x) H2) E) :
    wpAny (model X.prog X.w) X.A (call (.ref C) us) (EP X pins σ Q) X.xe s := by
  have hq := h (s.heap.objs.size + 1) s.heap.objs.size (I.hok.fresh (Nat.le_succ _)) (I.hok.fresh (Nat.le_refl _)) (Nat.ne_of_lt (Nat.lt_succ_self _))
  have I2 := Inv.made (C := C) I
  have r2 : Vals (V.ref (s.heap.objs.size + 1) :: vs) (Value.ref (s.heap.objs.size + 1) :: us) := .cons rfl r
  refine wpAny_call (make_map (f := f) I.kIn M.makes M.init (beq_iff_eq.mp M.fn) (codeAny_mono (F _ X.stack _ _ (Value.ref (s.heap.objs.size + 1) :: us) _ _ E hg (hr.make C us []) (I2.env0.make C us []) r2 hq) fun r s' hq' => ?_))
  match r, hq' with
  | .error e, hq' => exact hx pins σ _ _ e s' I2 hq'
  | .ok (.ret u), hq' =>
    obtain ⟨v, H', I3, rv, ev, q3⟩ := I2.after hq'
    subst ev
    exact ⟨rv, ⟨V.ref (s.heap.objs.size + 1), H', I3, rfl, q3⟩⟩
  | .ok .next, hq' => exact False.elim hq'
  | .ok .brk, hq' => exact False.elim hq'
  | .ok .cont, hq' => exact False.elim hq'
theorem sub_two {c : Cf} {H : Hp} {x dx : Addr} {C : Addr} (h1 : H x = none) (h2 : H dx = none) : Sub (hid c.P H) (hid (c.two x dx).P (upd (upd H dx (.own x)) x (.ins C dx []))) := fun a o h => by
  obtain ⟨g1, g2⟩ := hid_some.mp h
  have n1 := ne_of_none g2 h1
  have n2 := ne_of_none g2 h2
  refine hid_some.mpr ⟨?_, by rw [upd_ne n1, upd_ne n2]; exact g2⟩
  rw [two_P, g1]
  simp [n1, n2]
theorem step_two {c : Cf} {H : Hp} {x dx C : Addr} (h1 : H x = none) (h2 : H dx = none) : Step c (c.two x dx) H (upd (upd H dx (.own x)) x (.ins C dx [])) := by
  refine ⟨fun _ h => h, fun _ h => .inl h, fun _ h => h, fun _ h => .inl h, fun a h => ?_, fun a o _ _ he => ?_, fun a o he => ?_⟩
  · have h' : ((c.F a || decide (a = x)) || decide (a = dx)) = true := h
    simp only [Bool.or_eq_true, decide_eq_true_eq] at h'
    rcases h' with (h' | rfl) | rfl
    · exact .inl h'
    · exact .inr h1
    · exact .inr h2
  · rw [upd_ne (ne_of_none he h1), upd_ne (ne_of_none he h2)]
    exact he
  · exact ⟨o, by rw [upd_ne (ne_of_none he h1), upd_ne (ne_of_none he h2)]; exact he⟩
theorem As.to {K : PySem.W.Frag} {c c' : Cf} {H H' : Hp} (sub : Sub (hid c.P H) (hid c'.P H')) (hB : ∀ a, c.B a = true → c'.B a = true) : ∀ {vs : List V} {ss : List Sl}, As K c H vs ss → As K c' H' vs ss
  | _, _, .nil => .nil
  | _, _, .cons (s := s) h t => .cons (by
    cases s with
    | val d => exact R.mono sub h
    | bag => obtain ⟨a, e, b⟩ := h; exact ⟨a, e, hB a b⟩
    | own d => exact h.elim) (As.to sub hB t)
theorem make_of {K : PySem.W.Frag} {EX : XK} {C : Addr} {n : Nat} {T : DSo} {Ta : DTA} {σ : L2.St} {H : Hp} {Q : VK} (h : tD K EX (dMake C n T Ta) σ H Q) : tA K EX Ta σ H fun vs H1 => ∀ x dx, H1 x = none → H1 dx = none → dx ≠ x →
    spI K C n T (V.ref x :: vs) (upd (upd H1 dx (.own x)) x (.ins C dx [])) (fun v H2 => v = .non ∧ Q (.ref x) H2) EX := by
  obtain ⟨c, ρ, Kd, Ed, s, h, q⟩ := h
  refine ⟨c, ρ, _, Ed, s, h, fun ss vs H1 k e r x dx hx hdx ne => ?_⟩
  have s1 := s.ext e
  have px : c.P x = false := s1.k.fresh hx
  have pdx : c.P dx = false := s1.k.fresh hdx
  have e0 : Ext c.B H1 (upd H1 dx (.own x)) := Ext.new hdx s1.k.bag
  have hx' : upd H1 dx (HO.own x) x = none := by rw [upd_ne (Ne.symm ne)]; exact hx
  have e1 : Ext c.B H1 (upd (upd H1 dx (.own x)) x (.ins C dx [])) := e0.trans (Ext.new hx' (s1.k.ext e0).bag)
  have k1 := s1.k.ext e1
  have ecal : ∀ b, (c.cal).P b = c.P b := fun b => by rw [cal_P]
  refine ⟨c.cal, ss, _, Ed, x, dx, vs, rfl, fun _ => rfl, k.1, ?_, k1.cal, (s1.x.cal s1.k).step (step_two hx hdx), by rw [ecal]; exact px, by rw [ecal]; exact pdx, ne, upd_same, by rw [upd_ne ne]; exact upd_same, k.2, fun ds vs' dx' H2 k2 keep bag al hs ro => ⟨rfl, ?_⟩⟩
  · refine As.to (c := c) (c' := c.cal.two x dx) (H := H1) (H' := upd (upd H1 dx (.own x)) x (.ins C dx [])) ?_ (fun a h => h) r
    have := sub_two (c := c.cal) (C := C) hx hdx
    rw [cal_P] at this
    exact this
  · rw [cal_P] at hs ro
    refine q _ _ H2 k2 (e.trans ⟨fun a o hB he => ?_, fun hb => bag, fun a o he => ?_⟩) (.obj (fun y z => by cases z) hs ro)
    · have n1 := ne_of_none he hx
      have n2 := ne_of_none he hdx
      exact keep a o hB n1 n2 (by rw [upd_ne n1, upd_ne n2]; exact he)
    · obtain ⟨o', ho'⟩ := e1.al a o he
      exact al a o' ho'
theorem d_make {X : Cx} {EX : XK} {CX : CXT} {k n : Nat} {x : Str} {C : Addr} {T : DSo} {Ta : DTA} {e : Expr} {es : List Expr} {p pos : Pos} (F : CalleeI X.prog X.w X.K X.mg X.base CX k x C n T) (hgu : X.A.guards = some []) (hr : Room (k + 1) X.A) (hx : Passes CX X EX) (ha : PDa X EX (e :: es) Ta) (hg : Gl X x := by rfl)
    (hdb : (x == ("__debug__" : Str)) = false := by decide) (he : starEach (e :: es) X.env = (false, eval e X.env) :: starEach es X.env := by rfl) (hpl : (backTo pos (starEach es X.env)).any (·.1) = false := by rfl) :
    PDe X EX (.Call (.Name x p) (e :: es) [] pos) (dMake C n T Ta) := by
  obtain ⟨f, hm, M, F⟩ := F
  refine ⟨fun pins s σ H Q I h => wpAny_Call_Name_kw (ld_glob I hg hm ?_ hdb)⟩
  exact PySem.W.callWith_K (h₀ := X.base) I.ok.mod.kin M.kp (thn (ha.run pos pins s σ H _ I (make_of h)) fun us s1 ⟨vs, H1, I1, r, q⟩ => ⟨I1.kIn, run_mkG M F hgu hr hx I1 r q⟩) he hpl

/-! methods, properties, isinstance by own classes, own == -/
/-- o.m(e, ..) of an instance of C: the def is promised by T, self first -/
def dMeth (C : Addr) (n : Nat) (T : DSp) (To : DTE) (Ta : DTA) : DTE := fun E ρ K => To E ρ fun d => match d with
  | .obj C' t ds => C' = C ∧ Ta E ρ fun ss => ss.length = n ∧ T E (.val (.obj C' t ds) :: ss) K
  | _ => False
def dProp (C : Addr) (T : DSp) (To : DTE) : DTE := fun E ρ K => To E ρ fun d => match d with
  | .obj C' t ds => C' = C ∧ T E [.val (.obj C' t ds)] K
  | _ => False
theorem spD_of {K : PySem.W.Frag} {EX : XK} {c : Cf} {H : Hp} {σ : L2.St} {ρ : Ev} {Ed : ED} {n : Nat} {T : DSp} {Kd : D → Prop} {Q : VK} {vs : List V} {ss : List Sl} (s : St0 K EX c H σ ρ Ed) (r : As K c H vs ss) (hl : ss.length = n) (hT : T Ed ss Kd)
    (q : ∀ d v H', Kd d → Ext c.B H H' → R K (hid c.P H') v d → Q v H') : spD K n T vs H Q EX :=
  ⟨c.cal, ss, Kd, Ed, fun _ => rfl, hl, r.cal, s.k.cal, s.x.cal s.k, hT, fun d v H2 k2 e2 r2 => q d v H2 k2 e2 (by rw [← cal_P]; exact r2)⟩
section
variable {X : Cx} {EX : XK} {CX : CXT} {k n : Nat} {C g p : Addr} {f m : Str} {T : DSp} {To : DTE} {Ta : DTA} {o e : Expr} {es : List Expr} {pos apos : Pos} {pl : Sem Bool}
theorem meth_of {σ : L2.St} {H : Hp} {Q : VK} (h : tD X.K EX (dMeth C n T To Ta) σ H Q) : SlX.tMethSl C (spD X.K (n + 1) T) EX (tD X.K EX To) (tA X.K EX Ta) σ H Q := by
  obtain ⟨c, ρ, Kd, Ed, s, h, q⟩ := h
  refine ⟨c, ρ, _, Ed, s, h, fun d v H1 k1 e1 r1 => ?_⟩
  split at k1
  · rename_i C' t ds
    obtain ⟨rfl, k1⟩ := k1
    cases r1 with
    | obj ht hs ro =>
      have s1 := s.ext e1
      refine ⟨_, _, _, rfl, (hid_sub _ _).slt hs, c, ρ, _, Ed, s1, k1, fun ss ws H2 k2 e2 r2 => ?_⟩
      have s2 := s1.ext e2
      have r3 : R X.K (hid c.P H2) _ (.obj C' t ds) := R.mono (s1.k.sub e2) (.obj ht hs ro)
      exact spD_of s2 (.cons (s := .val (.obj C' t ds)) r3 r2) (by rw [List.length_cons, k2.1]) k2.2 fun d v H3 k3 e3 r4 => q d v H3 k3 ((e1.trans e2).trans e3) r4
  · exact k1.elim
theorem d_meth (c : SlX.SCls X.K C) (hm : Meth X.K C m g) (F : FnG X.prog X.w X.K X.mg X.base CX k g (spD X.K (n + 1) T)) (hgu : X.A.guards = some []) (hr : Room k X.A) (hx : Passes CX X EX) (ho : PDe X EX o To) (ha : PDa X EX (e :: es) Ta)
    (hst : starEach (e :: es) X.env = (false, eval e X.env) :: starEach es X.env := by rfl) (hpl : (backTo pos (starEach es X.env)).any (·.1) = false := by rfl)
    (ht : eval (.Call (.Attribute o m apos) (e :: es) [] pos) X.env = (do
      let rv ← eval o X.env; standAt apos.atName
      let (fn, fst) ← holding [rv] (getMethod rv m pl); callWith pos fn fst (backTo pos (starEach (e :: es) X.env)) (backToKw pos (keywordEach [] X.env))) := by rfl) :
    PDe X EX (.Call (.Attribute o m apos) (e :: es) [] pos) (dMeth C n T To Ta) := by
  refine ⟨fun pins s σ H Q I h => PySem.W.methodCall_KW (pl := pl) (thn (ho.run pins s σ H _ I (meth_of h)) fun u s1 w => ?_) ht⟩
  obtain ⟨x, H1, I1, rx, a, dx, vs, rfl, hsl, q⟩ := w
  cases (show u = Value.ref a from rx)
  refine SlX.getmethsl_ok I1 hsl c hm (PySem.W.callWith_K (first := [.ref a]) (h₀ := X.base) I1.ok.mod.kin hm.kp (thn (ha.run pos pins s1 σ H1 _ I1 q) fun us s2 w2 => ?_) hst hpl)
  obtain ⟨ws, H2, I2, r, q2⟩ := w2
  exact ⟨I2.kIn, run_g (us := .ref a :: us) (vs := .ref a :: ws) F hgu hr hx I2 (.cons rfl r) q2⟩
theorem prop_of {σ : L2.St} {H : Hp} {Q : VK} (h : tD X.K EX (dProp C T To) σ H Q) : SlX.tPropSl C (spD X.K 1 T) EX (tD X.K EX To) σ H Q := by
  obtain ⟨c, ρ, Kd, Ed, s, h, q⟩ := h
  refine ⟨c, ρ, _, Ed, s, h, fun d v H1 k1 e1 r1 => ?_⟩
  split at k1
  · rename_i C' t ds
    obtain ⟨rfl, k1⟩ := k1
    cases r1 with
    | obj ht' hs ro => exact ⟨_, _, _, rfl, (hid_sub _ _).slt hs, spD_of (s.ext e1) (.cons (s := .val (.obj C' t ds)) (.obj ht' hs ro) .nil) rfl k1 fun d v H3 k3 e3 r4 => q d v H3 k3 (e1.trans e3) r4⟩
  · exact k1.elim
theorem d_meth0 (c : SlX.SCls X.K C) (hm : Meth X.K C m g) (F : FnG X.prog X.w X.K X.mg X.base CX k g (spD X.K 1 T)) (hgu : X.A.guards = some []) (hr : Room k X.A) (hx : Passes CX X EX) (ho : PDe X EX o To)
    (ht : eval (.Call (.Attribute o m apos) [] [] pos) X.env = (do
      let rv ← eval o X.env; standAt apos.atName
      let (fn, fst) ← holding [rv] (getMethod rv m pl); callWith pos fn fst (backTo pos (starEach [] X.env)) (backToKw pos (keywordEach [] X.env))) := by rfl) :
    PDe X EX (.Call (.Attribute o m apos) [] [] pos) (dProp C T To) := by
  refine ⟨fun pins s σ H Q I h => PySem.W.methodCall_KW (pl := pl) (thn (ho.run pins s σ H _ I (prop_of h)) fun u s1 w => ?_) ht⟩
  obtain ⟨x, H1, I1, rx, a, dx, vs, rfl, hsl, q⟩ := w
  cases (show u = Value.ref a from rx)
  exact SlX.getmethsl_ok I1 hsl c hm (PySem.W.callWith_K0 (first := [.ref a]) I1.kIn hm.kp (run_g (us := [.ref a]) (vs := [.ref a]) F hgu hr hx I1 (.cons rfl .nil) q))
/-- what the class tells of a property f, its getter at g -/
structure PropF (K : PySem.W.Frag) (C : Addr) (f : Str) (g : Addr) : Prop where
  ex : ∃ p, PySem.W.findIn K (.ref C) f = some (some (.ref p)) ∧ PySem.W.specialIn K (.ref p) "__get__" = some (some (.builtin "property.__get__")) ∧ PySem.W.takesIn K (.ref p) = some true ∧ ∃ rest, PySem.W.recIn K p "property" = some (.ref g :: rest)
theorem d_prop (c : SlX.SCls X.K C) (hp : PropF X.K C f g) (F : FnG X.prog X.w X.K X.mg X.base CX0 k g (spD X.K 1 T)) (hgu : X.A.guards = some []) (hr : Room (k + 1) X.A) (ho : PDe X EX o To)
    (hb : attributeBase o f X.env (eval o X.env) = eval o X.env := by rfl) : PDe X EX (.Attribute o f pos) (dProp C T To) := by
  refine ⟨fun pins s σ H Q I h => attr_of hb (thn (ho.run pins s σ H _ I (prop_of h)) fun u s1 w => ?_)⟩
  obtain ⟨x, H1, I1, rx, a, dx, vs, rfl, hsl, q⟩ := w
  cases (show u = Value.ref a from rx)
  obtain ⟨p, h1, h2, h3, rest, h4⟩ := hp.ex
  obtain ⟨sl, od, hsr, J, hlk⟩ := SlX.slt_inst I1 hsl
  have I2 : Inv X pins σ H1 { s1 with toks := s1.toks + 1 } := I1.tok (s1.toks + 1)
  refine PySem.W.get_bind I1.kIn J (PySem.W.plainGet_of (c.get f)).1 (PySem.W.findObj_data c.ic h1 h2 h3) (PySem.W.plainGet_of (c.get f)).2 (wpAny_call (PySem.W.prop_get (s := { s1 with toks := s1.toks + 1 }) I1.kIn h4 ?_))
  refine codeAny_mono (F X.A.in1 X.stack { s1 with toks := s1.toks + 1 } H1 [.ref a] [.ref a] Q EX hgu hr.in1 I2.env0.in1 (.cons rfl .nil) q) fun res s' hq => ?_
  match res, hq with
  | .error e, hq => exact hq.elim
  | .ok (.ret u), hq =>
    obtain ⟨v, H', I3, rv, qv⟩ := I2.after hq
    exact wpAny_of_eq (PySem.W.handedOut_of (handed_of rv)) ⟨v, H', I3, rv, qv⟩
  | .ok .next, hq => exact False.elim hq
  | .ok .brk, hq => exact False.elim hq
  | .ok .cont, hq => exact False.elim hq
end
/-! ### isinstance(x, C), C a class of the text -/
/-- instances of the classes Cs, and plain data -/
def dIsiC (C : Addr) (Cs : List Addr) (T : DTE) : DTE := fun E ρ K => T E ρ fun d => match d with
  | .obj C' _ _ => C' ∈ Cs ∧ K (.bl (decide (C' = C)))
  | .scr _ => False
  | .cls _ => False
  | .rng _ _ => False
  | _ => K (.bl false)
structure ClsI (K : PySem.W.Frag) (C : Addr) (Cs : List Addr) : Prop where
  no : ∀ n ∈ ["NoneType", "bool", "int", "str", "tuple", "list", "dict"], PySem.W.kitOne K (.type n) (.ref C) = some false
  yes : ∀ C' ∈ Cs, SlX.SCls K C' ∧ SlX.SIsi K C' ∧ PySem.W.kitOne K (.ref C') (.ref C) = some (decide (C' = C))
theorem call_or {X : Cx} {b : Value} {r r' : List V → Hp → VK → Prop} (h : CallR X b r) (h' : CallR X b r') : CallR X b (fun xs H Q => r xs H Q ∨ r' xs H Q) := fun pins s σ H xs us Q I rs hq => hq.elim (h pins s σ H xs us Q I rs) (h' pins s σ H xs us Q I rs)
section
variable {X : Cx} {EX : XK} {e : Expr} {T : DTE} {pos p p2 : Pos} {x : Str} {C : Addr} {Cs : List Addr}
theorem d_isiC (h : PDe X EX e T) (hc : ClsI X.K C Cs) (hm : X.mg "isinstance" = none) (hm2 : X.mg x = some (.ref C)) (hg : Gl X "isinstance" := by rfl) (hg2 : Gl X x := by rfl) (hd : (x == ("__debug__" : Str)) = false := by decide)
    (he : starEach [e, .Name x p2] X.env = (false, eval e X.env) :: starEach [.Name x p2] X.env := by rfl) (hpl : (backTo pos (starEach [.Name x p2] X.env)).any (·.1) = false := by rfl) (hs1 : starEach [.Name x p2] X.env = (false, eval (.Name x p2) X.env) :: starEach [] X.env := by rfl) :
    PDe X EX (.Call (.Name "isinstance" p) [e, .Name x p2] [] pos) (dIsiC C Cs T) := by
  refine peW (pe_callB (call_or call_isi (SlX.call_isiSl (.ref C))) hg hm (by decide +kernel) (pa_cons h (pa_cons (pe_glob (v := .ref C) hg2 hm2 rfl hd) pa_nil hs1) he) (by decide) (by decide) he hpl) fun σ H Q h => ?_
  obtain ⟨c, ρ, Kd, Ed, s, h, q⟩ := h
  refine ⟨c, ρ, _, Ed, s, h, fun d v H1 k e r => ?_⟩
  show rIsi X.K [v, V.ref C] H1 Q ∨ SlX.rIsiSl X.K (.ref C) [v, V.ref C] H1 Q
  have plain : d.noScr = true → Kd (.bl false) → rIsi X.K [v, V.ref C] H1 Q ∨ SlX.rIsiSl X.K (.ref C) [v, V.ref C] H1 Q := fun hn hk => Or.inl ⟨v, V.ref C, .type d.tyn, .ref C, false, rfl, .own C, ty_of r hn, hc.no _ (tyn_mem d), q _ _ _ hk e (.bl _)⟩
  cases d with
  | obj C' t ds =>
    obtain ⟨hC, k⟩ := k
    obtain ⟨y1, y2, y3⟩ := hc.yes C' hC
    cases r with
    | obj ht hs ro => exact .inr ⟨_, C', _, _, V.ref C, _, rfl, rfl, fun w hw => hw, (hid_sub _ _).slt hs, y1, y2, y3, q _ _ _ k e (.bl _)⟩
  | scr ns => exact k.elim
  | cls _ => exact k.elim
  | rng _ _ => exact k.elim
  | _ => exact plain rfl k
end

/-! exceptions: raise, what leaves a def, try with one clause without a name -/
/-- what the body lets out is what the caller takes -/
abbrev TakesE (X : Cx) (EX : XK) : Prop := L2.Takes X (fun cls d _ H => EX cls d H)
theorem passX {X : Cx} {EX : XK} (tk : TakesE X EX) : Passes (L2.CX X.prog X.w) X EX := passes_call tk fun _ _ _ _ h => h
theorem passX0 {X : Cx} : Passes (L2.CX X.prog X.w) X E0 := fun _ _ _ _ _ _ _ ⟨_, _, _, _, _, _, _, _, _, _, _, _, h⟩ => h.elim
theorem takesE0 {X : Cx} : TakesE X E0 := fun _ _ ⟨_, _, _, _, _, _, _, _, _, _, _, _, _, _, _, _, w⟩ => w.elim
theorem FnG.any {P : Program} {w : World} {K : PySem.W.Frag} {mg : Str → Option Value} {base : Heap} {k : Nat} {f : Addr} {sp : Sp} (F : FnG P w K mg base CX0 k f sp) (CX : CXT) : FnG P w K mg base CX k f sp := fun A outer s H us vs Q E hg hr e0 r h =>
  codeAny_mono (F A outer s H us vs Q E hg hr e0 r h) fun res s' hq => match res, hq with
    | .error _, hq => hq.elim
    | .ok (.ret _), hq => hq
    | .ok .next, hq => hq
    | .ok .brk, hq => hq
    | .ok .cont, hq => hq
section
variable {X : Cx} {EX : XK} {pos : Pos}
/-- raise: the exception x -/
def sRaise (x : Exc) : DTS := fun E _ => E.ex x
theorem s_raise {C : Addr} {e : Expr} (hc : X.calm = true) (tk : TakesE X EX) (he : PMk X e (fun _ H Q => Q (.ref C) none H)) : PDs X EX (.Raise (some e) none pos) (sRaise ⟨C, none⟩) :=
  psW (ps_raise hc tk he) fun G σ H h => by
    obtain ⟨c, ρ, E, s, h, hE⟩ := h
    exact s.x ⟨C, none⟩ none c H h (Step.refl c H) s.k rfl
end
section
variable {P : Program} {w : World} {K : PySem.W.Frag} {mg : Str → Option Value} {base : Heap}
/-- a def that may raise: its body B, by data -/
theorem fn_okX {x qual : Str} {st : Stmt} {f : Addr} {fd : FuncData} {N ps : List Str} {k n : Nat} {T : DSp} {Tb : DTS} (F : Fun K x qual st f fd) (S : FnScope N ps (defScope st)) (hn : ps.length = n)
    (hbi : ∀ (kV doc pm : Value) (an : Option Addr) (cdv ct : Value) (us : List Value), us.length = ps.length → bindArgs (PySem.W.fnOf x qual (defArgs st) (defBody st) (defScope st) .none kV doc pm an cdv ct) ⟨us, []⟩ = pure (ps.zip us))
    (body : ∀ (cdv : Value) (A : Around) (outer : List Env) (s : Shared) (H : Hp) (E : XK), (A.deeper (envOfC qual (defScope st) s.heap.objs.size f cdv)).guards = some [] → Room k (A.deeper (envOfC qual (defScope st) s.heap.objs.size f cdv)) →
      TakesE (cxOf (L2.CX P w) P w K mg base N qual (defScope st) f cdv A outer s H E) E → PDb (cxOf (L2.CX P w) P w K mg base N qual (defScope st) f cdv A outer s H E) E (defBody st) Tb)
    (read : ∀ Ed ss Kd, ss.length = n → T Ed ss Kd → Tb (endsOf Kd Ed) (start0 N ss)) : FnG P w K mg base (L2.CX P w) (k + 1) f (spD K n T) := by
  intro A outer s H us vs Q E hg hr e0 r h
  obtain ⟨oc, od, kV, doc, pm, an, cdv, ct, osl, rfl, lk, hcd⟩ := F.ex
  have hl : vs.length = ps.length := (spD_len h).trans hn.symm
  refine StX.run_bnd lk hcd S hr e0 (G := fun xs H2 => xs = vs ∧ H2 = H) (fun A' Ex Q' hq => ?_) fun s2 H2 xs ⟨e1, e2⟩ hr' => ?_
  · rw [hbi kV doc pm an cdv ct us (by rw [← r.length]; exact hl)]
    exact wpAny_pure (hq s H vs us e0 Un.refl rfl (fun _ _ z => z) r hl ⟨rfl, rfl⟩)
  · subst e1 e2
    obtain ⟨c, ss, Kd, Ed, hF, hl, ha, hk, hx, hT, q⟩ := h
    refine ⟨_, body cdv A outer s2 H2 E hg hr' (takes_of rfl rfl rfl rfl), ?_⟩
    exact ⟨c, _, endsOf Kd Ed, ⟨rep_start N ha, hk, hx⟩, read Ed ss Kd hl hT, body_end hF q⟩
end
/-! ### try: body, except C: suite -/
/-- what comes of the exception x: of the classes Cs those that sub tells are caught -/
def sTry (Cs : List Addr) (sub : Addr → Bool) (S U : DTS) : DTS := fun E ρ => S { E with ex := fun x => x.cls ∈ Cs ∧ (sub x.cls = true → U { E with ex := fun _ => False } []) ∧ (sub x.cls = false → E.ex x) } ρ
/-- which of the classes Cs the clause of C catches -/
def Catch (K : PySem.W.Frag) (C : Addr) (Cs : List Addr) (sub : Addr → Bool) : Prop := ∀ C' ∈ Cs, PySem.W.exmOne K (.ref C') (.ref C) = some (sub C')
abbrev EXw (W : WX) : XK := fun cls d H => ∀ σ, W cls d σ H
theorem rep_nil {K : PySem.W.Frag} {c : Cf} {H : Hp} {σ : L2.St} : Rep K c H σ [] := ⟨Nat.zero_le _, fun i d h => by simp at h, fun i d h => by simp at h, fun i h => by simp at h, fun i j d e a h => by simp at h⟩
theorem s_try {X : Cx} {EX : XK} {x : Str} {C : Addr} {Cs : List Addr} {sub : Addr → Bool} {body suite : List Stmt} {b₀ : Stmt} {np pos pos' : Pos} {S U : DTS} (hs : X.stack = X.env :: X.outer) (hf : X.env.frame = some X.env.locals) (hg : Gl X x) (hm : X.mg x = some (.ref C)) (hc : Catch X.K C Cs sub) (tk : TakesE X EX)
    (hb : ∀ (EX' : XK) (pn : List (Addr × Obj)) (xe : Value → Shared → Prop), TakesE (X.tr pn xe) EX' → PDb (X.tr pn xe) EX' body S)
    (hsu : ∀ (a : Addr) (pn : List (Addr × Obj)), PDb (X.suite a pn) E0 (b₀ :: suite) U) (hd : (x == ("__debug__" : Str)) = false := by decide) :
    PDs X EX (.Try body [.ExceptHandler (some (.Name x np)) none (b₀ :: suite) pos'] [] [] pos) (sTry Cs sub S U) := by
  refine psW (ps_try_only (c := .ref C) (tb := fun W => tS X.K (EXw W) S) (ts := fun _ _ _ => tS X.K E0 U) hs hf ⟨hg, hd, .inl hm⟩ tk (fun W pn xe t _ => hb (EXw W) pn xe (t.imp fun cls d σ H h => h σ)) (fun a oe cls d pn _ _ => hsu a _)) fun G σ H h => ?_
  obtain ⟨c, ρ, E, s, h, hE⟩ := h
  refine ⟨c, ρ, _, ⟨s.r, s.k, fun y dx c2 H2 hy st k2 xr σ' => ?_⟩, h, ⟨hE.nx, hE.bk, hE.ct, hE.rt, hE.rn⟩⟩
  obtain ⟨hC, h1, h2⟩ := hy
  refine ⟨_, hc _ hC, fun e a _ => ?_, fun e => s.x y dx c2 H2 (h2 e) st k2 xr⟩
  have hE2 := hE.step st
  exact ⟨c2, [], { E with ex := fun _ => False }, ⟨rep_nil, k2, fun _ _ _ _ z _ _ _ => False.elim z⟩, h1 e, ⟨hE2.nx, hE2.bk, hE2.ct, hE2.rt, hE2.rn⟩⟩

/-! own ==, len, str, +, * of instances; classmethods; a class held by a name -/
def plainTys : List String := ["NoneType", "bool", "int", "str", "tuple", "list", "dict"]
/-- the class has the def at g as its own method nm -/
structure OwnF (K : PySem.W.Frag) (C : Addr) (nm : Str) (g : Addr) : Prop where
  at_ : PySem.W.findIn K (.ref C) nm = some (some (.ref g))
  fn : PySem.W.isFn K (.ref g) = true
def NotF (K : PySem.W.Frag) (C : Addr) : Prop := ∀ n ∈ plainTys, PySem.W.notFirst K C (.type n) = true
/-- an instance of the same class, or plain data -/
def TyY (K : PySem.W.Frag) (H : Hp) (C : Addr) (y : V) : Prop := (∃ b dy ws, y = .ref b ∧ SlX.Slt H b C dy ws) ∨ ∃ n ∈ plainTys, TyX K H y (.type n)
section
variable {X : Cx} {CX : CXT} {pins : List (Addr × Obj)} {σ : L2.St} {H : Hp} {s : Shared} {a C dx g : Addr} {vs : List (Option V)} {k : Nat} {sp : Sp} {E : XK}
theorem tyY_looks {M : Model} {y : V} {u : Value} (nf : NotF X.K C) (I : Inv X pins σ H s) (ry : RelV y u) (h : TyY X.K H C y) : ∃ tb, PySem.W.Looks M s.heap (typeOf u) tb ∧ PySem.W.notFirst X.K C tb = true := by
  rcases h with ⟨b, dy, ws, rfl, hb⟩ | ⟨n, hn, ty⟩
  · cases (show u = Value.ref b from ry)
    obtain ⟨sl', od', _, J', _⟩ := SlX.slt_inst I hb
    exact ⟨.ref C, J'.type, by simp [PySem.W.notFirst]⟩
  · obtain ⟨P, kt, hP, _⟩ := kit_of I ry ty
    exact ⟨.type n, kt.ty _ _ I.kIn hP, nf n hn⟩
theorem run_gA {A : Around} {Q : VK} {us : List Value} {ws : List V} (F : FnG X.prog X.w X.K X.mg X.base CX k g sp) (hgu : A.guards = some []) (hr : Room k A) (e0 : Env0 X.prog X.w X.K X.mg X.base A X.stack s H) (hx : Passes CX X E) (I : Inv X pins σ H s) (r : Vals ws us) (h : sp ws H Q E) :
    wpAny (model X.prog X.w) A (call (.ref g) us) (EP X pins σ Q) X.xe s := by
  refine wpAny_call (codeAny_mono (F A X.stack s H us ws Q E hgu hr e0 r h) fun res s' hq => ?_)
  match res, hq with
  | .error e, hq => exact hx pins σ H s e s' I hq
  | .ok (.ret u), hq => exact I.after hq
  | .ok .next, hq => exact False.elim hq
  | .ok .brk, hq => exact False.elim hq
  | .ok .cont, hq => exact False.elim hq
/-! ### == -/
def rOwnX (K : PySem.W.Frag) (C : Addr) (sp : Sp) (E : XK) : R2 := fun x y H Q => ∃ a dx vs, x = .ref a ∧ SlX.Slt H a C dx vs ∧ TyY K H C y ∧ sp [x, y] H Q E
theorem op_ownX {op : CmpOp} (hop : ∀ a b, compareOp op a b = richCompare op a b) (hs : OwnF X.K C (cmpInfo op).2.1 g) (nf : NotF X.K C) (F : FnG X.prog X.w X.K X.mg X.base CX k g sp) (hgu : X.A.guards = some []) (hr : Room k X.A) (hx : Passes CX X E) :
    OpR X (compareOp op) (rOwnX X.K C sp E) := by
  intro pins s σ H x y v u Q I rx ry h
  obtain ⟨a, dx, vs, rfl, ha, hy, q⟩ := h
  cases (show v = Value.ref a from rx)
  obtain ⟨sl, od, _, J, _⟩ := SlX.slt_inst I ha
  obtain ⟨m, hF⟩ := I.fr
  obtain ⟨tb, hb, hn⟩ := tyY_looks (M := model X.prog X.w) nf I ry hy
  rw [hop]
  refine PySem.W.cmp_K (op := op) hr.units0 hF I.ok.mod.kin J hb hn hs.at_ hs.fn ?_
  refine wpAny_mono (run_g (us := [.ref a, u]) (vs := [.ref a, y]) F hgu hr hx I (.cons rfl (.cons ry .nil)) q) (fun w s' z => ?_) fun _ _ x => x
  obtain ⟨z', H', I', rz, qz⟩ := z
  exact SlX.cmpback rz ⟨z', H', I', rz, qz⟩
/-! ### != by an own == -/
end
section
variable {prog : Program} {w : World} {A : Around} {E : Value → Shared → Prop} {s : Shared} {K : PySem.W.Frag} {x C L f : Addr} {h₀ : Heap} {m : Str → Option Value} {ox : Obj} {od : Option Obj} {b tb : Value}
open PySem.W in
theorem objNe_K {Q : Value → Shared → Prop} (hu : A.in1.units < cLine) (X : K.In s.heap) (I : InstAt s.heap x ox C od) (hm : mroIn K C (.type "object") = some true) (hs : findIn K (.ref C) "__eq__" = some (some (.ref f))) (hf : isFn K (.ref f) = true)
    (h : wpAny (model prog w) A.in1 (call (.ref f) [.ref x, b]) (fun v s' => ∃ c, v = .bool c ∧ Q (.bool (!c)) s') E s) : wpAny (model prog w) A (call (.builtin "object.__ne__") [.ref x, b]) Q E s := by
  have inst : Looks (model prog w) s.heap (isInstance (.ref x) (.type "object")) true := I.type.andThen (looks_mroIn X hm)
  refine wpAny_call (codeAny_call_builtin (by decide +kernel) PySem.F.cmpEntry_ne (@check_slot (model prog w) _ _ _ "object.__ne__" "object" "__ne__" (.ref x) [b] [] _ PySem.F.cmpKind_ne PySem.F.cmpSplit_ne inst (PySem.F.cmpArgs_ne _ _) ?_))
  unfold Builtin.«object.__ne__»
  repeat (first
    | with_reducible refine wpAny_cRoomFor hu ?_
    | (refine wpAny_bind (m := callSpecialIfBound? (.ref x) (Str.ofString "__eq__") [b])
        (ifBound_K X I hs hf (wpAny_mono h (fun r s' hr => by
          obtain ⟨c, rfl, hq⟩ := hr
          repeat (first | exact hq | exact wpAny_pure hq | exact wpAny_truthy_bool hq | (refine wpAny_bind (m := truthy (.bool _)) (wpAny_truthy_bool ?_)) | wp_step)) fun _ _ e => e)))
    | wp_step)
open PySem.W in
theorem ifBound_B {M : Model} {A : Around} {E : Value → Shared → Prop} {s : Shared} {self : Value} {name : PySem.Str} {id : String} {args : List Value} {Q : Option Value → Shared → Prop} (sp : Looks M s.heap (specialOf self name) (some (.builtin id))) (hb : bindSpecial (.builtin id) self = pure (.builtin id, [self]))
    (hc : wpAny M A (call (.builtin id) (self :: args)) (fun v => Q (some v)) E s) : wpAny M A (callSpecialIfBound? self name args) Q E s := by
  simp only [callSpecialIfBound?, bindSpecialIfBound?]
  refine wpAny_holding (wpAny_bind (wpAny_bind (sp.here ?_)))
  refine wpAny_bind (wpAny_askSetting (wpAny_ite ?_))
  have fin : wpAny M A (call (.builtin id) ([self] ++ args) >>= fun v => pure (some v)) Q E s := wpAny_bind (wpAny_mono hc (fun v s' h' => wpAny_pure h') fun _ _ h' => h')
  simp only [hb]
  split
  · exact wpAny_bind (wpAny_pure (wpAny_pure (by exact fin)))
  · exact wpAny_tryCatch (wpAny_bind (wpAny_pure (wpAny_pure (by exact fin))))
open PySem.W in
theorem ne_K {Q : Value → Shared → Prop} (hu : A.units + 1 < cLine) (hu1 : A.in1.units < cLine) (X : K.In s.heap) (I : InstAt s.heap x ox C od) (hm : mroIn K C (.type "object") = some true) (hb : Looks (model prog w) s.heap (typeOf b) tb) (hn : notFirst K C tb = true)
    (hs : findIn K (.ref C) "__eq__" = some (some (.ref f))) (hne : findIn K (.ref C) "__ne__" = some (some (.builtin "object.__ne__"))) (hf : isFn K (.ref f) = true)
    (h : wpAny (model prog w) A.in1 (call (.ref f) [.ref x, b]) (fun v s' => ∃ c, v = .bool c ∧ Q (.bool (!c)) s') E s) : wpAny (model prog w) A (richCompare .NotEq (.ref x) b) Q E s := by
  have bnd : bindSpecial (.builtin "object.__ne__") (.ref x) = pure (.builtin "object.__ne__", [.ref x]) := PySem.F.slot_tuple_iterator_ne.bind _
  have sp : Looks (model prog w) s.heap (specialOf (.ref x) "__ne__") (some (.builtin "object.__ne__")) := I.type.andThen (looks_findIn X hne)
  have one : wpAny (model prog w) A (tryCompare (.ref x) "__ne__" b) (fun r s' => ∃ v, r = some v ∧ Q v s') E s := by
    unfold tryCompare
    refine wpAny_bind (ifBound_B sp bnd (objNe_K hu1 X I hm hs hf (wpAny_mono h (fun v s' hv => ?_) fun _ _ e => e)))
    obtain ⟨c, rfl, hq⟩ := hv
    exact ⟨c, rfl, wpAny_pure ⟨_, rfl, hq⟩⟩
  unfold richCompare
  simp only [oneThing_ref]
  refine wpAny_holding (wpAny_bind (wpAny_cRoomFor (Nat.lt_of_succ_lt hu) ?_))
  refine wpAny_bind (I.type.here (wpAny_bind (hb.here ?_)))
  split
  · rename_i q
    have e : subIn K tb (.ref C) = some false := by
      rcases Bool.or_eq_true_iff.mp hn with e | e
      · rw [beq_iff_eq.mp e] at q; simp at q
      · exact beq_iff_eq.mp e
    refine wpAny_bind ((looks_subIn X e).here ?_)
    simp only [Bool.false_eq_true, if_false]
    refine wpAny_bind (wpAny_mono one (fun r s' z => ?_) fun _ _ e => e)
    obtain ⟨v, rfl, hq⟩ := z
    exact wpAny_pure hq
  · refine wpAny_bind (wpAny_pure ?_)
    simp only [Bool.false_eq_true, if_false]
    refine wpAny_bind (wpAny_mono one (fun r s' z => ?_) fun _ _ e => e)
    obtain ⟨v, rfl, hq⟩ := z
    exact wpAny_pure hq
end
/-! ### what the instances answer, by data -/
def okY (C : Addr) : D → Bool
  | .obj C' _ _ => decide (C' = C)
  | d => d.noScr
theorem tyY_of {K : PySem.W.Frag} {c : Cf} {H : Hp} {C : Addr} {v : V} {d : D} (r : R K (hid c.P H) v d) (h : okY C d = true) : TyY K H C v := by
  cases d with
  | obj C' t ds =>
    cases r with
    | obj ht hs ro =>
      have e : C' = C := by simpa [okY] using h
      subst e
      exact .inl ⟨_, _, _, rfl, (hid_sub _ _).slt hs⟩
  | scr ns => cases h
  | cls C' => cases h
  | rng _ _ => cases h
  | _ => exact .inr ⟨_, tyn_mem _, ty_of r rfl⟩
/-- an own method of x with y, that raises nothing -/
def fOwn2 (C : Addr) (T : DSp) (x y : D) (k : D → Prop) : Prop := match x with
  | .obj C' _ _ => C' = C ∧ okY C y = true ∧ T noE [.val x, .val y] k
  | _ => False
def fNotB (k : D → Prop) (d : D) : Prop := match d with
  | .bl b => k (.bl (!b))
  | _ => False
def fOwnNe (C : Addr) (T : DSp) (x y : D) (k : D → Prop) : Prop := fOwn2 C T x y (fNotB k)
theorem spD_two {K : PySem.W.Frag} {E : XK} {c : Cf} {H : Hp} {x y : V} {d1 d2 : D} {T : DSp} {k : D → Prop} {Q : VK} (hk : Hk c H) (r1 : R K (hid c.P H) x d1) (r2 : R K (hid c.P H) y d2) (h : T noE [.val d1, .val d2] k)
    (q : ∀ d v H', k d → Ext c.B H H' → R K (hid c.P H') v d → Q v H') : spD K 2 T [x, y] H Q E :=
  ⟨c.cal, _, k, noE, fun _ => rfl, rfl, (As.cons (s := .val d1) r1 (.cons (s := .val d2) r2 .nil)).cal, hk.cal, (fun x dx c2 H2 h => h.elim), h, fun d v H2 k2 e2 r2 => q d v H2 k2 e2 (by rw [← cal_P]; exact r2)⟩
theorem spD_one {K : PySem.W.Frag} {E : XK} {c : Cf} {H : Hp} {x : V} {d1 : D} {T : DSp} {k : D → Prop} {Q : VK} (hk : Hk c H) (r1 : R K (hid c.P H) x d1) (h : T noE [.val d1] k)
    (q : ∀ d v H', k d → Ext c.B H H' → R K (hid c.P H') v d → Q v H') : spD K 1 T [x] H Q E :=
  ⟨c.cal, _, k, noE, fun _ => rfl, rfl, (As.cons (s := .val d1) r1 .nil).cal, hk.cal, (fun x dx c2 H2 h => h.elim), h, fun d v H2 k2 e2 r2 => q d v H2 k2 e2 (by rw [← cal_P]; exact r2)⟩
theorem od_own2 {K : PySem.W.Frag} {C : Addr} {T : DSp} {E : XK} : OpD K (fOwn2 C T) (rOwnX K C (spD K 2 T) E) := fun c H x y d1 d2 k Q hk r1 r2 h q => by
  unfold fOwn2 at h
  split at h
  · obtain ⟨rfl, h1, h2⟩ := h
    have r1' := r1
    cases r1 with
    | obj ht hs ro => exact ⟨_, _, _, rfl, (hid_sub _ _).slt hs, tyY_of r2 h1, spD_two hk r1' r2 h2 q⟩
  · exact h.elim
/-- != -/
def rOwnNe (K : PySem.W.Frag) (C : Addr) (sp : Sp) (E : XK) : R2 := fun x y H Q => ∃ a dx vs, x = .ref a ∧ SlX.Slt H a C dx vs ∧ TyY K H C y ∧ sp [x, y] H (fun v H' => ∃ b, v = .bl b ∧ Q (.bl (!b)) H') E
theorem od_ownNe {K : PySem.W.Frag} {C : Addr} {T : DSp} {E : XK} : OpD K (fOwnNe C T) (rOwnNe K C (spD K 2 T) E) := fun c H x y d1 d2 k Q hk r1 r2 h q => by
  unfold fOwnNe fOwn2 at h
  split at h
  · obtain ⟨rfl, h1, h2⟩ := h
    have r1' := r1
    cases r1 with
    | obj ht hs ro =>
      refine ⟨_, _, _, rfl, (hid_sub _ _).slt hs, tyY_of r2 h1, spD_two hk r1' r2 h2 fun d v H' kd e r => ?_⟩
      unfold fNotB at kd
      split at kd
      · cases r
        exact ⟨_, rfl, q _ _ _ kd e (.bl _)⟩
      · exact kd.elim
  · exact h.elim
section
variable {X : Cx} {CX : CXT} {C g : Addr} {k : Nat} {sp : Sp} {E : XK}
theorem op_ownNe (hm : PySem.W.mroIn X.K C (.type "object") = some true) (hs : OwnF X.K C "__eq__" g) (hne : PySem.W.findIn X.K (.ref C) "__ne__" = some (some (.builtin "object.__ne__"))) (nf : NotF X.K C) (F : FnG X.prog X.w X.K X.mg X.base CX k g sp) (hgu : X.A.guards = some []) (hr : Room (k + 1) X.A) (hx : Passes CX X E) :
    OpR X (compareOp .NotEq) (rOwnNe X.K C sp E) := by
  intro pins s σ H x y v u Q I rx ry h
  obtain ⟨a, dx, vs, rfl, ha, hy, q⟩ := h
  cases (show v = Value.ref a from rx)
  obtain ⟨sl, od, _, J, _⟩ := SlX.slt_inst I ha
  obtain ⟨tb, hb, hn⟩ := tyY_looks (M := model X.prog X.w) nf I ry hy
  refine ne_K (Nat.lt_of_le_of_lt (by omega) hr.units) hr.in1.units0 I.kIn J hm hb hn hs.at_ hne hs.fn ?_
  refine wpAny_mono (run_gA (A := X.A.in1) (us := [.ref a, u]) (ws := [.ref a, y]) F hgu hr.in1 I.env0.in1 hx I (.cons rfl (.cons ry .nil)) q) (fun w s' z => ?_) fun _ _ x => x
  obtain ⟨z', H', I', rz, b, rfl, qz⟩ := z
  cases (show w = Value.bool b from rz)
  exact ⟨b, rfl, .bl _, H', I', rfl, qz⟩
end
/-! ### len(x), str(x) -/
section
variable {X : Cx} {CX : CXT} {C g : Addr} {k : Nat} {sp : Sp} {E : XK}
def rLenOwn (C : Addr) (sp : Sp) (E : XK) : List V → Hp → VK → Prop := fun xs H Q => ∃ a dx vs, xs = [V.ref a] ∧ SlX.Slt H a C dx vs ∧ sp [.ref a] H (fun z H' => ∃ n : Int, z = .int n ∧ 0 ≤ n ∧ n < 2 ^ 63 ∧ Q z H') E
theorem call_lenOwn (hs : OwnF X.K C "__len__" g) (F : FnG X.prog X.w X.K X.mg X.base CX k g sp) (hgu : X.A.guards = some []) (hr : Room (k + 1) X.A) (hx : Passes CX X E) : CallR X (.builtin "len") (rLenOwn C sp E) := by
  intro pins s σ H xs us Q I r h
  obtain ⟨a, dx, vs, rfl, hsl, q⟩ := h
  obtain ⟨u, rfl, ru⟩ := r.one
  cases (show u = Value.ref a from ru)
  obtain ⟨sl, od, _, J, _⟩ := SlX.slt_inst I hsl
  obtain ⟨m, hF⟩ := I.fr
  refine PySem.W.len_K hF I.ok.mod.kin J hs.at_ hs.fn (wpAny_mono (run_gA (A := X.A.in1) (us := [.ref a]) (ws := [.ref a]) F hgu hr.in1 I.env0.in1 hx I (.cons rfl .nil) q) (fun w s' z => ?_) fun _ _ x => x)
  obtain ⟨z', H', I', rz, n, rfl, h0, h1, qz⟩ := z
  obtain ⟨t, e⟩ := (show ∃ t, w = Value.int n t from rz)
  cases e
  exact ⟨⟨h0, h1⟩, .int n, H', I'.tok _, ⟨_, rfl⟩, qz⟩
def rStrOwn (C : Addr) (sp : Sp) (E : XK) : List V → Hp → VK → Prop := fun xs H Q => ∃ a dx vs, xs = [V.ref a] ∧ SlX.Slt H a C dx vs ∧ sp [.ref a] H (fun z H' => ∃ n : Str, z = .str n ∧ Q z H') E
theorem call_strOwn (hs : OwnF X.K C "__str__" g) (F : FnG X.prog X.w X.K X.mg X.base CX k g sp) (hgu : X.A.guards = some []) (hr : Room (k + 2) X.A) (hx : Passes CX X E) : CallR X (.type "str") (rStrOwn C sp E) := by
  intro pins s σ H xs us Q I r h
  obtain ⟨a, dx, vs, rfl, hsl, q⟩ := h
  obtain ⟨u, rfl, ru⟩ := r.one
  cases (show u = Value.ref a from ru)
  obtain ⟨sl, od, _, J, _⟩ := SlX.slt_inst I hsl
  have hr2 : Room k X.A.in1.in1 := (show Room (k + 1) X.A.in1 from Room.in1 hr).in1
  refine PySem.W.kso_call hr2.units0 I.kIn J hs.at_ hs.fn (wpAny_mono (run_gA (A := X.A.in1.in1) (us := [.ref a]) (ws := [.ref a]) F hgu hr2 I.env0.in1.in1 hx I (.cons rfl .nil) q) (fun w s' z => ?_) fun _ _ x => x)
  obtain ⟨z', H', I', rz, n, rfl, qz⟩ := z
  obtain ⟨t, e⟩ := (show ∃ t, w = Value.str n t from rz)
  cases e
  exact ⟨.str n, H', I', ⟨_, rfl⟩, qz⟩
end
def fLenOwn (C : Addr) (T : DSp) (ds : List D) (k : D → Prop) : Prop := match ds with
  | [.obj C' t es] => C' = C ∧ T noE [.val (.obj C' t es)] fun d => match d with
    | .int n => 0 ≤ n ∧ n < 2 ^ 63 ∧ k (.int n)
    | _ => False
  | _ => False
theorem cd_lenOwn {K : PySem.W.Frag} {C : Addr} {T : DSp} {E : XK} : CalD K (fLenOwn C T) (rLenOwn C (spD K 1 T) E) := fun c H xs ds k Q hk r h q => by
  unfold fLenOwn at h
  split at h
  · obtain ⟨rfl, h2⟩ := h
    cases r with
    | cons a t =>
      cases t
      have a' := a
      cases a with
      | obj ht hs ro =>
        refine ⟨_, _, _, rfl, (hid_sub _ _).slt hs, spD_one hk a' h2 fun d v H' kd e r => ?_⟩
        split at kd
        · cases r
          exact ⟨_, rfl, kd.1, kd.2.1, q _ _ _ kd.2.2 e (.int _)⟩
        · exact kd.elim
  · exact h.elim
def fStrOwn (C : Addr) (T : DSp) (ds : List D) (k : D → Prop) : Prop := match ds with
  | [.obj C' t es] => C' = C ∧ T noE [.val (.obj C' t es)] fun d => match d with
    | .str n => k (.str n)
    | _ => False
  | _ => False
theorem cd_strOwn {K : PySem.W.Frag} {C : Addr} {T : DSp} {E : XK} : CalD K (fStrOwn C T) (rStrOwn C (spD K 1 T) E) := fun c H xs ds k Q hk r h q => by
  unfold fStrOwn at h
  split at h
  · obtain ⟨rfl, h2⟩ := h
    cases r with
    | cons a t =>
      cases t
      have a' := a
      cases a with
      | obj ht hs ro =>
        refine ⟨_, _, _, rfl, (hid_sub _ _).slt hs, spD_one hk a' h2 fun d v H' kd e r => ?_⟩
        split at kd
        · cases r
          exact ⟨_, rfl, q _ _ _ kd e (.str _)⟩
        · exact kd.elim
  · exact h.elim
/-! ### x + y, x * n -/
section
variable {X : Cx} {CX : CXT} {C g : Addr} {k : Nat} {sp : Sp} {E : XK}
/-- + of two instances of the class, * of one and an int -/
def rBinOwn (C : Addr) (sp : Sp) (E : XK) : R2 := fun x y H Q => ∃ a dx vs, x = .ref a ∧ SlX.Slt H a C dx vs ∧ (∃ b dy ws, y = .ref b ∧ SlX.Slt H b C dy ws) ∧ sp [x, y] H Q E
def rBinInt (C : Addr) (sp : Sp) (E : XK) : R2 := fun x y H Q => ∃ a dx vs, x = .ref a ∧ SlX.Slt H a C dx vs ∧ (∃ n : Int, y = .int n) ∧ sp [x, y] H Q E
theorem op_binOwn {op : Operator} (hc : PySem.W.selfFirst X.K C = true) (hs : OwnF X.K C (PySem.dunder op.info.2) g) (F : FnG X.prog X.w X.K X.mg X.base CX k g sp) (hgu : X.A.guards = some []) (hr : Room k X.A) (hx : Passes CX X E) : OpR X (binaryOp op) (rBinOwn C sp E) := by
  intro pins s σ H x y v u Q I rx ry h
  obtain ⟨a, dx, vs, rfl, ha, ⟨b, dy, ws, rfl, hb⟩, q⟩ := h
  cases (show v = Value.ref a from rx)
  cases (show u = Value.ref b from ry)
  obtain ⟨sl, od, _, J, _⟩ := SlX.slt_inst I ha
  obtain ⟨sl', od', _, J', _⟩ := SlX.slt_inst I hb
  obtain ⟨m, hF⟩ := I.fr
  refine PySem.W.binop_K hF I.ok.mod.kin J J'.type hc hs.at_ hs.fn (wpAny_mono (run_g (us := [.ref a, .ref b]) (vs := [.ref a, .ref b]) F hgu hr hx I (.cons rfl (.cons rfl .nil)) q) (fun w s' z => ?_) fun _ _ x => x)
  obtain ⟨z', H', I', rz, qz⟩ := z
  exact SlX.cmpback rz ⟨z', H', I', rz, qz⟩
structure MulF (K : PySem.W.Frag) (C : Addr) (nm nr : Str) : Prop where
  h : ∃ fo ro, PySem.W.findIn K (.type "int") nm = some fo ∧ PySem.W.findIn K (.type "int") nr = some ro
  r : PySem.W.findIn K (.ref C) nr = some none
  sub : PySem.W.subIn K (.type "int") (.ref C) = some false
theorem op_binInt {op : Operator} (hc : PySem.W.selfFirst X.K C = true) (hs : OwnF X.K C (PySem.dunder op.info.2) g) (mf : MulF X.K C (PySem.dunder op.info.2) (PySem.dunderR op.info.2)) (F : FnG X.prog X.w X.K X.mg X.base CX k g sp) (hgu : X.A.guards = some []) (hr : Room k X.A) (hx : Passes CX X E) : OpR X (binaryOp op) (rBinInt C sp E) := by
  intro pins s σ H x y v u Q I rx ry h
  obtain ⟨a, dx, vs, rfl, ha, ⟨n, rfl⟩, q⟩ := h
  cases (show v = Value.ref a from rx)
  obtain ⟨t, e⟩ := (show ∃ t, u = Value.int n t from ry)
  cases e
  obtain ⟨sl, od, _, J, _⟩ := SlX.slt_inst I ha
  obtain ⟨m, hF⟩ := I.fr
  obtain ⟨fo, ro, m1, m2⟩ := mf.h
  refine PySem.W.ksp_binT (T := "int") hF I.ok.mod.kin J rfl hc hs.at_ hs.fn mf.r (.inl rfl) m1 m2 mf.sub (wpAny_mono (run_g (us := [.ref a, .int n t]) (vs := [.ref a, .int n]) F hgu hr hx I (.cons rfl (.cons ⟨t, rfl⟩ .nil)) q) (fun w s' z => ?_) fun _ _ x => x)
  obtain ⟨z', H', I', rz, qz⟩ := z
  exact SlX.cmpback rz ⟨z', H', I', rz, qz⟩
end
def fBinOwn (C : Addr) (T : DSp) (x y : D) (k : D → Prop) : Prop := match x, y with
  | .obj C' t ds, .obj C2 t2 ds2 => C' = C ∧ C2 = C ∧ T noE [.val (.obj C' t ds), .val (.obj C2 t2 ds2)] k
  | _, _ => False
theorem od_binOwn {K : PySem.W.Frag} {C : Addr} {T : DSp} {E : XK} : OpD K (fBinOwn C T) (rBinOwn C (spD K 2 T) E) := fun c H x y d1 d2 k Q hk r1 r2 h q => by
  unfold fBinOwn at h
  split at h
  · obtain ⟨rfl, rfl, h2⟩ := h
    have r1' := r1
    have r2' := r2
    cases r1 with
    | obj ht hs ro =>
      cases r2 with
      | obj ht2 hs2 ro2 => exact ⟨_, _, _, rfl, (hid_sub _ _).slt hs, ⟨_, _, _, rfl, (hid_sub _ _).slt hs2⟩, spD_two hk r1' r2' h2 q⟩
  · exact h.elim
def fBinInt (C : Addr) (T : DSp) (x y : D) (k : D → Prop) : Prop := match x, y with
  | .obj C' t ds, .int n => C' = C ∧ T noE [.val (.obj C' t ds), .val (.int n)] k
  | _, _ => False
theorem od_binInt {K : PySem.W.Frag} {C : Addr} {T : DSp} {E : XK} : OpD K (fBinInt C T) (rBinInt C (spD K 2 T) E) := fun c H x y d1 d2 k Q hk r1 r2 h q => by
  unfold fBinInt at h
  split at h
  · obtain ⟨rfl, h2⟩ := h
    have r1' := r1
    have r2' := r2
    cases r1 with
    | obj ht hs ro =>
      cases r2
      exact ⟨_, _, _, rfl, (hid_sub _ _).slt hs, ⟨_, rfl⟩, spD_two hk r1' r2' h2 q⟩
  · exact h.elim
theorem run_cmG {CX : CXT} {k : Nat} {q g C : Addr} {sp : Sp} {E : XK} {Q : VK} {us : List Value} {vs : List V} {X : Cx} {pins : List (Addr × Obj)} {σ : L2.St} {H : Hp} {s : Shared} (F : FnG X.prog X.w X.K X.mg X.base CX k g sp) (hgu : X.A.guards = some []) (hr : Room k X.A) (hx : Passes CX X E) (I : Inv X ((q, PySem.W.methodObj (.ref g) (.ref C)) :: pins) σ H s)
    (r : Vals vs us) (h : sp (.ref C :: vs) H Q E) : wpAny (model X.prog X.w) X.A (call (.ref q) us) (EP X pins σ Q) X.xe s := by
  have F' : codeAny (model X.prog X.w) X.A (.call (.ref g) ⟨.ref C :: us, []⟩) (fun r s' => match r with | .ok (.ret v) => EP X ((q, PySem.W.methodObj (.ref g) (.ref C)) :: pins) σ Q v s' | .ok _ => False | .error e => X.xe e s') s :=
    codeAny_mono (F X.A X.stack s H (.ref C :: us) (.ref C :: vs) Q E hgu hr I.env0 (.cons rfl r) h) fun res s' hq => by
      cases res with
      | error e => exact hx _ σ _ _ e s' I hq
      | ok fl =>
        cases fl with
        | ret u => exact I.after hq
        | next => exact False.elim hq
        | brk => exact False.elim hq
        | cont => exact False.elim hq
  have z : wpAny (model X.prog X.w) X.A (call (.ref q) us) (EP X ((q, PySem.W.methodObj (.ref g) (.ref C)) :: pins) σ Q) X.xe s :=
    wpAny_call (PySem.W.method_call (ClX.pin_at I) F')
  exact thn z fun _ _ y => ClX.unpinE y
/-! ### classmethods; a class held by a name -/
def dCMeth (C : Addr) (n : Nat) (T : DSp) (Ta : DTA) : DTE := fun E ρ K => Ta E ρ fun ss => ss.length = n ∧ T E (.val (.cls C) :: ss) K
section
variable {X : Cx} {EX : XK} {CX : CXT} {k n : Nat} {C g p : Addr} {mc : Value} {m x : Str} {T : DSp} {Ta : DTA} {e : Expr} {es : List Expr} {pos apos p0 : Pos} {pl : Sem Bool}
theorem cmeth_of {σ : L2.St} {H : Hp} {Q : VK} (h : tD X.K EX (dCMeth C n T Ta) σ H Q) : tA X.K EX Ta σ H fun vs H1 => spD X.K (n + 1) T (.ref C :: vs) H1 Q EX := by
  obtain ⟨c, ρ, Kd, Ed, s, h, q⟩ := h
  refine ⟨c, ρ, _, Ed, s, h, fun ss vs H1 k e r => ?_⟩
  have s1 := s.ext e
  exact spD_of s1 (.cons (s := .val (.cls C)) (.cls C) r) (by rw [List.length_cons, k.1]) k.2 fun d v H3 k3 e3 r4 => q d v H3 k3 (e.trans e3) r4
theorem d_cmeth (hm : X.mg x = some (.ref C)) (r : ClX.CRead X.K C mc) (c : ClX.CMet X.K C mc m p g) (F : FnG X.prog X.w X.K X.mg X.base CX k g (spD X.K (n + 1) T)) (hgu : X.A.guards = some []) (hr : Room k X.A) (hx : Passes CX X EX) (ha : PDa X EX (e :: es) Ta) (hg : Gl X x := by rfl) (hdb : (x == ("__debug__" : Str)) = false := by decide)
    (hst : starEach (e :: es) X.env = (false, eval e X.env) :: starEach es X.env := by rfl) (hpl : (backTo pos (starEach es X.env)).any (·.1) = false := by rfl)
    (ht : eval (.Call (.Attribute (.Name x p0) m apos) (e :: es) [] pos) X.env = (do
      let ov ← eval (.Name x p0) X.env
      standAt apos.atName
      let (f, first) ← holding [ov] (getMethod ov m pl)
      callWith pos f first (backTo pos (starEach (e :: es) X.env)) (backToKw pos (keywordEach [] X.env))) := by rfl) :
    PDe X EX (.Call (.Attribute (.Name x p0) m apos) (e :: es) [] pos) (dCMeth C n T Ta) := by
  refine ⟨fun pins s σ H Q I h => ?_⟩
  refine PySem.W.methodCall_KW (pl := pl) (thn ((pe_glob (v := .ref C) hg hm rfl hdb).run pins s σ H (fun v H' => v = .ref C ∧ H' = H) I ⟨rfl, rfl⟩) fun u s1 ⟨x', H1, I1, rx, ex, eH⟩ => ?_) ht
  subst ex eH
  obtain rfl : u = Value.ref C := rx
  refine ClX.getmethcm_ok I1 r c fun s2 I2 => ?_
  refine ClX.callwith_cm I2 (ClX.base_none I1 (Nat.le_refl _)) c.fi (thn (ha.run pos _ s2 σ _ _ I2 (cmeth_of h)) fun us s3 ⟨vs, H2, I3, rv, q2⟩ => ⟨⟨ClX.pin_at I3, I3.kIn⟩, ?_⟩) hst hpl
  exact run_cmG F hgu hr hx I3 rv q2
end
/-- cls(e, ..), the name holds the class at C -/
def dMakeL (C : Addr) (i n : Nat) (T : DSo) (Ta : DTA) : DTE := fun E ρ K => dVar i E ρ fun d => match d with
  | .cls C' => C' = C ∧ dMake C n T Ta E ρ K
  | _ => False
theorem d_makeL {X : Cx} {EX : XK} {CX : CXT} {k n : Nat} {x : Str} {C f : Addr} {T : DSo} {Ta : DTA} {e : Expr} {es : List Expr} {p pos : Pos} (i : Nat) (M : Mk X.K C f) (F : FnG X.prog X.w X.K X.mg X.base CX k f (spI X.K C n T)) (hgu : X.A.guards = some []) (hr : Room (k + 1) X.A) (hx : Passes CX X EX) (ha : PDa X EX (e :: es) Ta)
    (hN : X.N[i]? = some x := by rfl) (hv : Vis X.env.scope x := by first | exact Or.inl rfl | exact Or.inr (Or.inl rfl) | exact Or.inr (Or.inr rfl)) (hd : (x == ("__debug__" : Str)) = false := by decide) (hcd : (x == ("__classdict__" : Str)) = false := by decide)
    (he : starEach (e :: es) X.env = (false, eval e X.env) :: starEach es X.env := by rfl) (hpl : (backTo pos (starEach es X.env)).any (·.1) = false := by rfl) :
    PDe X EX (.Call (.Name x p) (e :: es) [] pos) (dMakeL C i n T Ta) := by
  refine ⟨fun pins s σ H Q I h => wpAny_Call_Name_kw ?_⟩
  obtain ⟨c, ρ, Kd, Ed, s0, h, q⟩ := h
  unfold dMakeL dVar at h
  split at h
  · rename_i d ed
    split at h
    · rename_i C'
      obtain ⟨rfl, h⟩ := h
      obtain ⟨v, e1, r1⟩ := s0.r.val i _ ed
      cases r1
      refine thn ((pe_var (pos := p) hN hv hd hcd).run pins s σ H (fun v H' => v = .ref C' ∧ H' = H) I ⟨_, e1, rfl, rfl⟩) fun u s1 ⟨x', H1, I1, rx, ex, eH⟩ => ?_
      subst ex eH
      obtain rfl : u = Value.ref C' := rx
      exact PySem.W.callWith_K (h₀ := X.base) I1.ok.mod.kin M.kp (thn (ha.run pos pins s1 σ _ _ I1 (make_of ⟨c, ρ, Kd, Ed, s0, h, q⟩)) fun us s2 ⟨vs, H2, I2, r, q2⟩ => ⟨I2.kIn, run_mkG M F hgu hr hx I2 r q2⟩) he hpl
    · exact h.elim
  · exact h.elim

/-! f-strings, join, a range as a value, classmethods with starred parameters -/
section
variable {X : Cx} {EX : XK} {e o a b tg : Expr} {T To Ta Tb : DTE} {pos apos p : Pos}
/-! ### range(..) as a value -/
def fRg1 (ds : List D) (k : D → Prop) : Prop := match ds with
  | [.int j] => k (.rng 0 j)
  | _ => False
theorem cr_range1 : CallR X (.type "range") (fun vs H Q => ∃ j, vs = [V.int j] ∧ ∀ p, H p = none → Q (.ref p) (upd H p (.rng 0 j))) := by
  intro pins s σ H vs us Q I r h
  obtain ⟨j, rfl, q⟩ := h
  obtain ⟨u1, rfl, rj⟩ := r.one
  obtain ⟨u, rfl⟩ := rj
  refine call_range_1 ⟨.ref s.heap.objs.size, upd H s.heap.objs.size (.rng 0 j), I.laid (fun b o e => Heap.get?_push_of_some _ e) (Nat.le_refl _) ?_, rfl, q _ (I.hok.fresh (Nat.le_refl _))⟩
  exact ⟨_, _, _, Heap.get?_push_size _ rfl⟩
theorem cd_rg1 {K : PySem.W.Frag} : CalD K fRg1 (fun vs H Q => ∃ j, vs = [V.int j] ∧ ∀ p, H p = none → Q (.ref p) (upd H p (.rng 0 j))) := fun c H xs ds k Q hk r h q => by
  unfold fRg1 at h
  split at h
  · cases r with
    | cons a t =>
      cases t
      cases a
      exact ⟨_, rfl, fun p hp => q _ _ _ h (Ext.new hp hk.bag) (.rng (hk.new hp))⟩
  · exact h.elim
def iRgv (T : DTE) : DTI := fun E ρ K => T E ρ fun d => match d with
  | .rng lo hi => (-(2 ^ 62) ≤ lo ∧ lo < 2 ^ 62 ∧ -(2 ^ 62) ≤ hi ∧ hi < 2 ^ 62) ∧ K (rngD lo (hi - lo).toNat)
  | _ => False
def iRgW (tl : TE) : TI := fun σ H R => tl σ H fun x H1 => ∃ a lo hi, x = .ref a ∧ H1 a = some (.rng lo hi) ∧ (-(2 ^ 62) ≤ lo ∧ lo < 2 ^ 62 ∧ -(2 ^ 62) ≤ hi ∧ hi < 2 ^ 62) ∧ R (Itr lo (hi - lo).toNat) H1
theorem pi_rgW {tl : TE} (hl : PE X e tl) : PI X tg e (iRgW tl) := ⟨fun pins s σ H R0 I h => thn (hl.run pins s σ H _ I h) fun v s1 ⟨x, H1, I1, r1, q1⟩ => by
  obtain ⟨a, lo, hi, rfl, hr, ⟨h1, h2, h3, h4⟩, q⟩ := q1
  cases r1
  have hobj := I1.hok a _ hr
  obtain ⟨t, u, w, hg⟩ := (show ∃ t u v, s1.heap.get? a = some { cls := .type "range", data := .fields #[.int lo t, .int hi u, .int 1 v] } from hobj)
  refine wpAny_pyIter_range hg (small_one h1 h2 h3 h4) ?_
  refine ⟨s1.heap.objs.size, [s1.heap.objs.size], _, _, H1, rfl, I1.kept (t' := s1.toks) fun b o e => Heap.get?_push_of_some _ e, turn_range _ lo (hi - lo).toNat, ?_, fun b hb => ?_, q⟩
  · have e1 : lo + ((0 : Nat) : Int) * 1 = lo := by simp
    have e2 : (((hi - lo).toNat : Nat) : Int) - ((0 : Nat) : Int) = Builtin.Range.rangeSize lo hi 1 := by rw [rangeSize_one]; split <;> omega
    show IsRangeIter _ _ (lo + ((0 : Nat) : Int) * 1) ((((hi - lo).toNat : Nat) : Int) - ((0 : Nat) : Int)) 1
    rw [e1, e2]
    exact Heap.get?_push_size _ rfl
  · have e : b = s1.heap.objs.size := by simpa using hb
    subst e
    exact I1.fpOk (Nat.le_refl _) (I1.hok.fresh (Nat.le_refl _))⟩
theorem i_rgv (h : PDe X EX e T) : PDi X EX tg e (iRgv T) := piW (pi_rgW h) fun σ H Q h => by
  obtain ⟨c, ρ, Kd, Ed, s, h, q⟩ := h
  refine ⟨c, ρ, _, Ed, s, h, fun d v H1 k e r => ?_⟩
  cases r with
  | rng a => exact ⟨_, _, _, rfl, hidG a, k.1, q _ _ _ _ _ k.2 e walkR⟩
  | _ => exact k.elim
/-! ### sep.join(..) -/
def strsD : List D → Option (List Str)
  | [] => some []
  | .str x :: ds => (strsD ds).map (x :: ·)
  | _ => none
theorem strs_of {K : PySem.W.Frag} {H : Hp} : ∀ {vs : List V} {ds : List D} {ys : List Str}, Rs K H vs ds → strsD ds = some ys → vs = ys.map V.str
  | _, _, ys, .nil, h => by cases h; rfl
  | _, _, ys, .cons (d := d) a t, h => by
    cases d with
    | str x =>
      cases a
      obtain ⟨zs, hz, rfl⟩ := Option.map_eq_some_iff.mp (show (strsD _).map (x :: ·) = some ys from h)
      rw [strs_of t hz]
      rfl
    | _ => cases h
def fJoin (x y : D) (k : D → Prop) : Prop := match x, y with
  | .str a, .lst ds => ∃ ys, strsD ds = some ys ∧ (ys.map (·.length)).sum + ys.length * a.length ≤ 16777216 ∧ k (.str (Txt.join a ys))
  | .str a, .tup ds => ∃ ys, strsD ds = some ys ∧ (ys.map (·.length)).sum + ys.length * a.length ≤ 16777216 ∧ k (.str (Txt.join a ys))
  | _, _ => False
def dJoin (To T : DTE) : DTE := fun E ρ K => To E ρ fun x => match x with
  | .str a => T E ρ fun y => fJoin (.str a) y K
  | _ => False
theorem d_join (ho : PDe X EX o To) (he : PDe X EX e T) (hs : starEach [e] X.env = [(false, eval e X.env)] := by rfl) (hbase : attributeBase o "join" X.env (eval o X.env) = eval o X.env := by rfl) (hline : (apos.endLine == pos.line) = true := by rfl) :
    PDe X EX (.Call (.Attribute o "join" apos) [e] [] pos) (dJoin To T) := peW (pe_join ho he hs hbase hline) fun σ H Q h => by
  obtain ⟨c, ρ, Kd, Ed, s, h, q⟩ := h
  refine ⟨c, ρ, _, Ed, s, h, fun d v H1 k e r1 => ?_⟩
  have s1 := s.ext e
  cases d with
  | str a =>
    cases r1
    refine ⟨⟨a, rfl⟩, c, ρ, _, Ed, s1, k, fun d2 v2 H2 k2 e2 r2 => ?_⟩
    have s2 := s1.ext e2
    cases d2 with
    | lst ds =>
      obtain ⟨ys, h1, h2, h3⟩ := k2
      cases r2 with
      | lst ha hs => exact ⟨_, _, ys, rfl, rfl, .inl (SqL.of (by rw [← strs_of hs h1]; exact hidG ha)), h2, q _ _ _ h3 (e.trans e2) (.str _)⟩
    | tup ds =>
      obtain ⟨ys, h1, h2, h3⟩ := k2
      cases r2 with
      | tup ha hs => exact ⟨_, _, ys, rfl, rfl, .inr (by rw [← strs_of hs h1]; exact hidT ha), h2, q _ _ _ h3 (e.trans e2) (.str _)⟩
    | _ => exact k2.elim
  | _ => exact k.elim
/-! ### f-strings -/
def fFmt (d : D) (k : D → Prop) : Prop := match d with
  | .str y => y.length ≤ 1000000 ∧ k (.str y)
  | .int i => i.natAbs.log2 < 1920 ∧ k (.str (toString i))
  | _ => False
def dFmt (T : DTE) : DTE := fun E ρ K => T E ρ fun d => fFmt d K
theorem d_fmt (h : PDe X EX e T) : PDe X EX (.FormattedValue e (-1) none pos) (dFmt T) := peW (pe_fmt h) fun σ H Q h => by
  obtain ⟨c, ρ, Kd, Ed, s, h, q⟩ := h
  refine ⟨c, ρ, _, Ed, s, h, fun d v H1 k e r => ?_⟩
  unfold fFmt at k
  split at k
  · cases r
    exact .inl ⟨_, rfl, szL k.1, q _ _ _ k.2 e (.str _)⟩
  · cases r
    exact .inr ⟨_, rfl, k.1, q _ _ _ k.2 e (.str _)⟩
  · exact k.elim
/-- two parts -/
def dJn2 (Ta Tb : DTE) : DTE := fun E ρ K => Ta E ρ fun x => match x with
  | .str x => x.length ≤ 1000000 ∧ Tb E ρ fun y => match y with
    | .str y => x.length + y.length ≤ 1000000 ∧ K (.str (x ++ y))
    | _ => False
  | _ => False
theorem d_jn2 (ha : PDe X EX a Ta) (hb : PDe X EX b Tb) : PDe X EX (.JoinedStr [a, b] pos) (dJn2 Ta Tb) := peW (pe_joined (.cons ha (.cons hb .nil))) fun σ H Q h => by
  obtain ⟨c, ρ, Kd, Ed, s, h, q⟩ := h
  refine ⟨c, ρ, _, Ed, s, h, fun d v H1 k e r1 => ?_⟩
  have s1 := s.ext e
  cases d with
  | str x =>
    cases r1
    refine ⟨x, rfl, by rw [Str.empty_append]; exact szL k.1, c, ρ, _, Ed, s1, k.2, fun d2 v2 H2 k2 e2 r2 => ?_⟩
    cases d2 with
    | str y =>
      cases r2
      refine ⟨y, rfl, by rw [Str.empty_append, Str.length_append]; exact szL k2.1, ?_⟩
      rw [Str.empty_append]
      exact q _ _ _ k2.2 (e.trans e2) (.str _)
    | _ => exact k2.elim
  | _ => exact k.elim
end
/-! ### a def f(p, *v) -/
section
variable {P : Program} {w : World} {K : PySem.W.Frag} {mg : Str → Option Value} {base : Heap}
theorem fn_star1_ok {x qual : Str} {st : Stmt} {f : Addr} {fd : FuncData} {N : List Str} {p0 pv : Str} {k n : Nat} {T : DSp} {Tb : DTS} (F : Fun K x qual st f fd) (S : FnScope N [p0, pv] (defScope st)) (hn : n ≤ 1000)
    (hbi : ∀ (kV doc pm : Value) (an : Option Addr) (cdv ct : Value) (u : Value) (us : List Value), us.length = n → bindArgs (PySem.W.fnOf x qual (defArgs st) (defBody st) (defScope st) .none kV doc pm an cdv ct) ⟨u :: us, []⟩ = (newTuple us >>= fun t => pure [(p0, u), (pv, t)]))
    (body : ∀ (cdv : Value) (A : Around) (outer : List Env) (s : Shared) (H : Hp) (E : XK), (A.deeper (envOfC qual (defScope st) s.heap.objs.size f cdv)).guards = some [] → Room k (A.deeper (envOfC qual (defScope st) s.heap.objs.size f cdv)) →
      PDb (cxOf CX0 P w K mg base N qual (defScope st) f cdv A outer s H E).nox E0 (defBody st) Tb)
    (read : ∀ Ed ss Kd, ss.length = n + 1 → T Ed ss Kd → ∃ s0 rest, ss = s0 :: rest ∧ allVal rest = true ∧ Tb (endsOf Kd fun _ => False) (start0 N [s0, .val (.tup (slD rest))])) : FnG P w K mg base CX0 (k + 1) f (spD K (n + 1) T) := by
  intro A outer s H us vs Q E hg hr e0 r h
  obtain ⟨oc, od, kV, doc, pm, an, cdv, ct, osl, rfl, lk, hcd⟩ := F.ex
  have hl : vs.length = n + 1 := spD_len h
  cases r with
  | nil => cases hl
  | @cons v u vs us r0 r =>
    have hvl : vs.length = n := by simpa using hl
    have hul : us.length = n := by rw [← r.length]; exact hvl
    have hz : vs.length ≤ sizeLine := by rw [hvl]; exact Nat.le_trans hn (by decide)
    have hnw : H s.heap.objs.size = Option.none := e0.hok.fresh (Nat.le_refl _)
    refine StX.run_bnd lk hcd S hr e0 (G := fun xs H2 => ∃ p, H p = Option.none ∧ xs = [v, V.ref p] ∧ H2 = upd H p (.tup vs)) (fun A' Ex Q' hq => ?_) fun s2 H2 xs ⟨p, hp, e1, e2⟩ hr' => ?_
    · rw [hbi kV doc pm an cdv ct u us hul]
      refine wpAny_bind (wpAny_newTuple (wpAny_pure ?_) (by rw [hul, ← hvl]; exact hz))
      have nw : ObjOk P w (upd H s.heap.objs.size (.tup vs)) (s.heap.push ({ cls := .type "tuple", data := .seq us.toArray } : Obj)) s.heap.objs.size (.tup vs) := ⟨hz, us, r, ⟨_, Heap.get?_push_size _ rfl, rfl, _, rfl⟩⟩
      exact hq _ (upd H s.heap.objs.size (.tup vs)) [v, V.ref s.heap.objs.size] [u, Value.ref s.heap.objs.size] (StX.env0_laid e0 nw) (StX.un_laid hnw) rfl (fun _ _ z => z.elim) (.cons r0 (.cons rfl .nil)) rfl ⟨_, hnw, rfl, rfl⟩
    · subst e1 e2
      obtain ⟨c, ss, Kd, Ed, hF, hl2, ha, hk, hx, hT, q⟩ := h
      obtain ⟨s0, rest, rfl, hv, rd⟩ := read Ed ss Kd hl2 hT
      refine ⟨_, (body cdv A outer s2 _ E hg hr').nox, ?_⟩
      have x := Ext.new (o := HO.tup vs) hp hk.bag
      cases ha with
      | cons h0 ha =>
        refine ⟨c, _, _, ⟨rep_start N (.cons (s := s0) ?_ (.cons (s := .val (.tup (slD rest))) (newTup hk hp (as_rs ha hv)) .nil)), hk.ext x, fun _ _ _ _ z _ _ _ => False.elim z⟩, rd, body_end hF fun d v H' a b r => q d v H' a (x.trans b) r⟩
        cases s0 with
        | val d => exact R.mono (hk.sub x) h0
        | bag => exact h0
        | own d => exact h0.elim
end

/-! the classes Form and Sure: facts, defs in classes as callees -/
theorem bt_range : bootBuiltins "range" = some (.type "range") := by decide +kernel
/-- the classes' addresses -/
structure Cl where
  Form : Addr
  Sure : Addr
  ne : Form ≠ Sure
/-- a def in a class -/
def memb (st : Stmt) (j : Nat) : Stmt := match st with
  | .ClassDef _ _ _ body _ _ _ _ _ _ _ => body.getD j (.Pass ⟨0, 0, 0, 0⟩)
  | _ => .Pass ⟨0, 0, 0, 0⟩
/-! ### callees -/
section
variable (P : Program) (w : World) (K : PySem.W.Frag) (mg : Str → Option Value) (base : Heap) (CX : CXT) (k : Nat) (C : Addr) (m : Str) (n : Nat) (T : DSp)
def CalleeM : Prop := ∃ g, Meth K C m g ∧ FnG P w K mg base CX k g (spD K n T)
def CalleeP : Prop := ∃ g, PropF K C m g ∧ FnG P w K mg base CX0 k g (spD K 1 T)
def CalleeO : Prop := ∃ g, OwnF K C m g ∧ FnG P w K mg base CX k g (spD K n T)
def CalleeC : Prop := ∃ mc p g, ClX.CRead K C mc ∧ ClX.CMet K C mc m p g ∧ FnG P w K mg base CX k g (spD K n T)
end
structure ClsO (K : PySem.W.Frag) (C : Addr) : Prop where
  nf : NotF K C
  ob : PySem.W.mroIn K C (.type "object") = some true
  ne : PySem.W.findIn K (.ref C) "__ne__" = some (some (.builtin "object.__ne__"))
section
variable {X : Cx} {EX : XK} {CX : CXT} {k n : Nat} {C : Addr} {m f x : Str} {T : DSp} {To : DTE} {Ta : DTA} {o e : Expr} {es : List Expr} {pos apos p0 : Pos} {pl : Sem Bool}
theorem m_meth (c : SlX.SCls X.K C) (F : CalleeM X.prog X.w X.K X.mg X.base CX k C m (n + 1) T) (hgu : X.A.guards = some []) (hr : Room k X.A) (hx : Passes CX X EX) (ho : PDe X EX o To) (ha : PDa X EX (e :: es) Ta)
    (hst : starEach (e :: es) X.env = (false, eval e X.env) :: starEach es X.env := by rfl) (hpl : (backTo pos (starEach es X.env)).any (·.1) = false := by rfl)
    (ht : eval (.Call (.Attribute o m apos) (e :: es) [] pos) X.env = (do
      let rv ← eval o X.env; standAt apos.atName
      let (fn, fst) ← holding [rv] (getMethod rv m pl); callWith pos fn fst (backTo pos (starEach (e :: es) X.env)) (backToKw pos (keywordEach [] X.env))) := by rfl) :
    PDe X EX (.Call (.Attribute o m apos) (e :: es) [] pos) (dMeth C n T To Ta) := by
  obtain ⟨g, hm, F⟩ := F
  exact d_meth c hm F hgu hr hx ho ha hst hpl ht
theorem m_meth0 (c : SlX.SCls X.K C) (F : CalleeM X.prog X.w X.K X.mg X.base CX k C m 1 T) (hgu : X.A.guards = some []) (hr : Room k X.A) (hx : Passes CX X EX) (ho : PDe X EX o To)
    (ht : eval (.Call (.Attribute o m apos) [] [] pos) X.env = (do
      let rv ← eval o X.env; standAt apos.atName
      let (fn, fst) ← holding [rv] (getMethod rv m pl); callWith pos fn fst (backTo pos (starEach [] X.env)) (backToKw pos (keywordEach [] X.env))) := by rfl) :
    PDe X EX (.Call (.Attribute o m apos) [] [] pos) (dProp C T To) := by
  obtain ⟨g, hm, F⟩ := F
  exact d_meth0 c hm F hgu hr hx ho ht
theorem m_prop (c : SlX.SCls X.K C) (F : CalleeP X.prog X.w X.K X.mg X.base k C f T) (hgu : X.A.guards = some []) (hr : Room (k + 1) X.A) (ho : PDe X EX o To)
    (hb : attributeBase o f X.env (eval o X.env) = eval o X.env := by rfl) : PDe X EX (.Attribute o f pos) (dProp C T To) := by
  obtain ⟨g, hp, F⟩ := F
  exact d_prop c hp F hgu hr ho hb
theorem m_cmeth (hm : X.mg x = some (.ref C)) (F : CalleeC X.prog X.w X.K X.mg X.base CX k C m (n + 1) T) (hgu : X.A.guards = some []) (hr : Room k X.A) (hx : Passes CX X EX) (ha : PDa X EX (e :: es) Ta) (hg : Gl X x := by rfl) (hdb : (x == ("__debug__" : Str)) = false := by decide)
    (hst : starEach (e :: es) X.env = (false, eval e X.env) :: starEach es X.env := by rfl) (hpl : (backTo pos (starEach es X.env)).any (·.1) = false := by rfl)
    (ht : eval (.Call (.Attribute (.Name x p0) m apos) (e :: es) [] pos) X.env = (do
      let ov ← eval (.Name x p0) X.env
      standAt apos.atName
      let (f, first) ← holding [ov] (getMethod ov m pl)
      callWith pos f first (backTo pos (starEach (e :: es) X.env)) (backToKw pos (keywordEach [] X.env))) := by rfl) :
    PDe X EX (.Call (.Attribute (.Name x p0) m apos) (e :: es) [] pos) (dCMeth C n T Ta) := by
  obtain ⟨mc, p, g, hr', c, F⟩ := F
  exact d_cmeth hm hr' c F hgu hr hx ha hg hdb hst hpl ht
theorem m_makeL {p : Pos} {Ti : DSo} (i : Nat) {y : Str} (F : CalleeI X.prog X.w X.K X.mg X.base CX k y C n Ti) (hgu : X.A.guards = some []) (hr : Room (k + 1) X.A) (hx : Passes CX X EX) (ha : PDa X EX (e :: es) Ta)
    (hN : X.N[i]? = some x := by rfl) (hv : Vis X.env.scope x := by first | exact Or.inl rfl | exact Or.inr (Or.inl rfl) | exact Or.inr (Or.inr rfl)) (hd : (x == ("__debug__" : Str)) = false := by decide) (hcd : (x == ("__classdict__" : Str)) = false := by decide)
    (he : starEach (e :: es) X.env = (false, eval e X.env) :: starEach es X.env := by rfl) (hpl : (backTo pos (starEach es X.env)).any (·.1) = false := by rfl) :
    PDe X EX (.Call (.Name x p) (e :: es) [] pos) (dMakeL C i n Ti Ta) := by
  obtain ⟨f, hm, M, F⟩ := F
  exact d_makeL i M F hgu hr hx ha hN hv hd hcd he hpl
theorem o_eq (c : ClsO X.K C) (F : CalleeO X.prog X.w X.K X.mg X.base CX k C "__eq__" n T) (hgu : X.A.guards = some []) (hr : Room k X.A) (hx : Passes CX X EX) : OpR X (compareOp .Eq) (rOwnX X.K C (spD X.K n T) EX) := by
  obtain ⟨g, hs, F⟩ := F
  exact op_ownX (fun _ _ => rfl) hs c.nf F hgu hr hx
theorem o_ne (c : ClsO X.K C) (F : CalleeO X.prog X.w X.K X.mg X.base CX k C "__eq__" n T) (hgu : X.A.guards = some []) (hr : Room (k + 1) X.A) (hx : Passes CX X EX) : OpR X (compareOp .NotEq) (rOwnNe X.K C (spD X.K n T) EX) := by
  obtain ⟨g, hs, F⟩ := F
  exact op_ownNe c.ob hs c.ne c.nf F hgu hr hx
theorem o_len (F : CalleeO X.prog X.w X.K X.mg X.base CX k C "__len__" n T) (hgu : X.A.guards = some []) (hr : Room (k + 1) X.A) (hx : Passes CX X EX) : CallR X (.builtin "len") (rLenOwn C (spD X.K n T) EX) := by
  obtain ⟨g, hs, F⟩ := F
  exact call_lenOwn hs F hgu hr hx
theorem o_str (F : CalleeO X.prog X.w X.K X.mg X.base CX k C "__str__" n T) (hgu : X.A.guards = some []) (hr : Room (k + 2) X.A) (hx : Passes CX X EX) : CallR X (.type "str") (rStrOwn C (spD X.K n T) EX) := by
  obtain ⟨g, hs, F⟩ := F
  exact call_strOwn hs F hgu hr hx
theorem o_add (hc : PySem.W.selfFirst X.K C = true) (F : CalleeO X.prog X.w X.K X.mg X.base CX k C "__add__" n T) (hgu : X.A.guards = some []) (hr : Room k X.A) (hx : Passes CX X EX) : OpR X (binaryOp .Add) (rBinOwn C (spD X.K n T) EX) := by
  obtain ⟨g, hs, F⟩ := F
  exact op_binOwn hc hs F hgu hr hx
theorem o_mul (hc : PySem.W.selfFirst X.K C = true) (mf : MulF X.K C "__mul__" "__rmul__") (F : CalleeO X.prog X.w X.K X.mg X.base CX k C "__mul__" n T) (hgu : X.A.guards = some []) (hr : Room k X.A) (hx : Passes CX X EX) : OpR X (binaryOp .Mult) (rBinInt C (spD X.K n T) EX) := by
  obtain ⟨g, hs, F⟩ := F
  exact op_binInt hc hs mf F hgu hr hx
end
/-! ### the facts of both classes -/
theorem clsF1 {K : PySem.W.Frag} {C p : Addr} {f : Str} (c : SlX.SCls K C) (s : SlX.Slot1 K C f p 0) : ClsF K C [f] := ⟨c, fun i g h => by
  match i, h with
  | 0, h => cases h; exact ⟨p, s⟩
  | i + 1, h => simp at h⟩
theorem clsF3 {K : PySem.W.Frag} {C p q r : Addr} {f g e : Str} (c : SlX.SCls K C) (s0 : SlX.Slot1 K C f p 0) (s1 : SlX.Slot1 K C g q 1) (s2 : SlX.Slot1 K C e r 2) : ClsF K C [f, g, e] := ⟨c, fun i g h => by
  match i, h with
  | 0, h => cases h; exact ⟨p, s0⟩
  | 1, h => cases h; exact ⟨q, s1⟩
  | 2, h => cases h; exact ⟨r, s2⟩
  | i + 3, h => simp at h⟩
structure Fct (K : PySem.W.Frag) (mg : Str → Option Value) (cl : Cl) : Prop where
  n_Form : mg "Form" = some (.ref cl.Form)
  n_Sure : mg "Sure" = some (.ref cl.Sure)
  k_Form : SlX.SCls K cl.Form
  k_Sure : SlX.SCls K cl.Sure
  f_Form : ClsF K cl.Form ["own_determinant", "own_size", "own_table"]
  f_Sure : ClsF K cl.Sure ["own_table"]
  i_Form : ClsI K cl.Form [cl.Form, cl.Sure]
  i_Sure : ClsI K cl.Sure [cl.Form, cl.Sure]
  o_Form : ClsO K cl.Form
theorem walkC {l : PySem.W.OpenLaw} {n k : Nat} {q : Program} {loose : List Str} {XP : (Str → Option Value) → Heap → Prop} {YP : World → Heap → Prop} {d : DefRec} {K : Params → PySem.W.Frag} {T : Cl → DSp}
    (hn : l.most = some n) (hn2 : n ≤ sizeLine) (hdf : d.params.defaults = []) (hr : Room k callerA) (hY : ∀ (w : World) (h : Heap), YP w h → (K w.params).In h)
    (F : ∀ w mg fa h, (K w.params).In h → h.Ns mainGlobals mg → mg d.name = some (.ref fa) → ∃ cl : Cl, ∀ base : Heap, (K w.params).In base → base.Ns mainGlobals mg → FnG l.prog w (K w.params) mg base CX0 k fa (spD (K w.params) 1 (T cl)))
    (hT : ∀ (cl : Cl) (ns : List Int), ns.length ≤ n → T cl noE [.val (.scr ns)] fun d => d = .bl true) :
    PySem.W.WalkO q loose XP YP l.row.toRowW d [] (fun f vs => PySem.call f vs) := by
  refine Att.attach_call hn hdf fun w s₀ s₁ mg mb fa o pm cd doc a vs ns G Y ho hd hcd hmg hobj hints hlen hg => ?_
  obtain ⟨cl, F⟩ := F w mg fa _ (hY w _ Y) G.T.g hmg
  exact law_end (hY w _ Y) G.T.g G.T.b G.T.builtins G.T.nolimit hg hobj hints (Nat.le_trans hlen hn2) hr F (hT cl ns hlen)

/-! ### matrices as lists of rows: plain mathematics -/
abbrev Mx := List (List Int)
def rectM (n : Nat) (A : Mx) : Prop := A.length = n ∧ ∀ r ∈ A, r.length = n
def detN : Nat → Mx → Int
  | 0, _ => 1
  | n + 1, A => (A.headD []).zipIdx.foldl (fun acc p => if p.2 % 2 = 1 then acc - p.1 * detN n (A.tail.map (·.eraseIdx p.2)) else acc + p.1 * detN n (A.tail.map (·.eraseIdx p.2))) 0
def dotI (r c : List Int) : Int := (List.zipWith (· * ·) r c).sum
def turnM (A : Mx) : Mx := (List.range (A.headD []).length).map fun i => A.map fun r => r.getD i 0
def mulV (A : Mx) (v : List Int) : List Int := A.map fun r => dotI r v
def mulM (A B : Mx) : Mx := A.map fun r => (turnM B).map fun c => dotI r c
def unitM (n : Nat) : Mx := (List.range n).map fun i => (List.range n).map fun j => if i = j then 1 else 0
theorem len2 {α : Type} : ∀ {l : List α}, l.length = 2 → ∃ a b, l = [a, b]
  | [a, b], _ => ⟨a, b, rfl⟩
theorem len3 {α : Type} : ∀ {l : List α}, l.length = 3 → ∃ a b c, l = [a, b, c]
  | [a, b, c], _ => ⟨a, b, c, rfl⟩
theorem len4 {α : Type} : ∀ {l : List α}, l.length = 4 → ∃ a b c d, l = [a, b, c, d]
  | [a, b, c, d], _ => ⟨a, b, c, d, rfl⟩
theorem rect2 {A : Mx} (h : rectM 2 A) : ∃ a b c d, A = [[a, b], [c, d]] := by
  obtain ⟨r, s, rfl⟩ := len2 h.1
  obtain ⟨a, b, rfl⟩ := len2 (h.2 r (by simp))
  obtain ⟨c, d, rfl⟩ := len2 (h.2 s (by simp))
  exact ⟨a, b, c, d, rfl⟩
theorem rect3 {A : Mx} (h : rectM 3 A) : ∃ a b c d e f g i j, A = [[a, b, c], [d, e, f], [g, i, j]] := by
  obtain ⟨r, s, t, rfl⟩ := len3 h.1
  obtain ⟨a, b, c, rfl⟩ := len3 (h.2 r (by simp))
  obtain ⟨d, e, f, rfl⟩ := len3 (h.2 s (by simp))
  obtain ⟨g, i, j, rfl⟩ := len3 (h.2 t (by simp))
  exact ⟨a, b, c, d, e, f, g, i, j, rfl⟩
theorem rect4 {A : Mx} (h : rectM 4 A) : ∃ a b c d e f g i j k l m n o p q, A = [[a, b, c, d], [e, f, g, i], [j, k, l, m], [n, o, p, q]] := by
  obtain ⟨r, s, t, u, rfl⟩ := len4 h.1
  obtain ⟨a, b, c, d, rfl⟩ := len4 (h.2 r (by simp))
  obtain ⟨e, f, g, i, rfl⟩ := len4 (h.2 s (by simp))
  obtain ⟨j, k, l, m, rfl⟩ := len4 (h.2 t (by simp))
  obtain ⟨n, o, p, q, rfl⟩ := len4 (h.2 u (by simp))
  exact ⟨a, b, c, d, e, f, g, i, j, k, l, m, n, o, p, q, rfl⟩
def sz (n : Nat) : Prop := n = 2 ∨ n = 3 ∨ n = 4
/-! determinants told out -/
theorem det2 (a b c d : Int) : detN 2 [[a, b], [c, d]] = a * d - b * c := by
  simp [detN, List.zipIdx, List.eraseIdx]
theorem det3 (a b c d e f g i j : Int) : detN 3 [[a, b, c], [d, e, f], [g, i, j]] = a * (e * j - f * i) - b * (d * j - f * g) + c * (d * i - e * g) := by
  simp [detN, List.zipIdx, List.eraseIdx]
theorem det4 (a b c d e f g i j k l m n o p q : Int) : detN 4 [[a, b, c, d], [e, f, g, i], [j, k, l, m], [n, o, p, q]] =
    a * (f * (l * q - m * p) - g * (k * q - m * o) + i * (k * p - l * o)) - b * (e * (l * q - m * p) - g * (j * q - m * n) + i * (j * p - l * n))
    + c * (e * (k * q - m * o) - f * (j * q - m * n) + i * (j * o - k * n)) - d * (e * (k * p - l * o) - f * (j * p - l * n) + g * (j * o - k * n)) := by
  simp [detN, List.zipIdx, List.eraseIdx]
/-! rows that are exchanged, turned over, added -/
def pm (x y : Int) : Prop := x = y ∨ x = -y
theorem pm.trans {x y z : Int} (a : pm x y) (b : pm y z) : pm x z := by unfold pm at *; omega
theorem pm.symm {x y : Int} (a : pm x y) : pm y x := by unfold pm at *; omega
theorem pm.refl (x : Int) : pm x x := .inl rfl
theorem rect_perm {n : Nat} {A B : Mx} (h : rectM n A) (p : A.Perm B) : rectM n B := ⟨p.length_eq ▸ h.1, fun r hr => h.2 r (p.mem_iff.mpr hr)⟩
theorem det_adj {n : Nat} (hn : sz n) {pre l : Mx} {x y : List Int} (h : rectM n (pre ++ x :: y :: l)) : detN n (pre ++ y :: x :: l) = -detN n (pre ++ x :: y :: l) := by
  rcases hn with rfl | rfl | rfl
  · obtain ⟨a, b, c, d, e⟩ := rect2 h
    match pre, e with
    | [], e => simp only [List.nil_append, List.cons.injEq] at e; obtain ⟨rfl, rfl, rfl⟩ := e; simp only [List.nil_append, det2]; grind
    | [_], e => simp at e
    | _ :: _ :: _, e => simp at e
  · obtain ⟨a, b, c, d, e', f, g, i, j, e⟩ := rect3 h
    match pre, e with
    | [], e => simp only [List.nil_append, List.cons.injEq] at e; obtain ⟨rfl, rfl, rfl⟩ := e; simp only [List.nil_append, det3]; grind
    | [_], e => simp only [List.cons_append, List.nil_append, List.cons.injEq] at e; obtain ⟨rfl, rfl, rfl, rfl⟩ := e; simp only [List.nil_append, List.cons_append, det3]; grind
    | [_, _], e => simp at e
    | _ :: _ :: _ :: _, e => simp at e
  · obtain ⟨a, b, c, d, e', f, g, i, j, k, l', m, n, o, p, q, e⟩ := rect4 h
    match pre, e with
    | [], e => simp only [List.nil_append, List.cons.injEq] at e; obtain ⟨rfl, rfl, rfl⟩ := e; simp only [List.nil_append, det4]; grind
    | [_], e => simp only [List.cons_append, List.nil_append, List.cons.injEq] at e; obtain ⟨rfl, rfl, rfl, rfl⟩ := e; simp only [List.nil_append, List.cons_append, det4]; grind
    | [_, _], e => simp only [List.cons_append, List.nil_append, List.cons.injEq] at e; obtain ⟨rfl, rfl, rfl, rfl, rfl⟩ := e; simp only [List.nil_append, List.cons_append, det4]; grind
    | [_, _, _], e => simp at e
    | _ :: _ :: _ :: _ :: _, e => simp at e
theorem det_perm' {n : Nat} (hn : sz n) {l l' : Mx} (p : l.Perm l') : ∀ pre : Mx, rectM n (pre ++ l) → pm (detN n (pre ++ l')) (detN n (pre ++ l)) := by
  induction p with
  | nil => exact fun _ _ => .refl _
  | cons x p ih =>
    intro pre h
    have := ih (pre ++ [x]) (by simpa using h)
    simpa using this
  | swap x y l => exact fun pre h => .inr (det_adj hn h)
  | trans p q ih1 ih2 => exact fun pre h => (ih2 pre (rect_perm h (p.append_left pre))).trans (ih1 pre h)
theorem det_perm {n : Nat} (hn : sz n) {l l' : Mx} (p : l.Perm l') (h : rectM n l) : pm (detN n l') (detN n l) := det_perm' hn p [] h
def sgR (s : Int) (r : List Int) : List Int := r.map (s * ·)
theorem det_neg1 {n : Nat} (hn : sz n) {pre l : Mx} {r : List Int} (h : rectM n (pre ++ r :: l)) : detN n (pre ++ sgR (-1) r :: l) = -detN n (pre ++ r :: l) := by
  rcases hn with rfl | rfl | rfl
  · obtain ⟨a, b, c, d, e⟩ := rect2 h
    match pre, e with
    | [], e => simp only [List.nil_append, List.cons.injEq] at e; obtain ⟨rfl, rfl⟩ := e; simp only [sgR, List.map, List.nil_append, det2]; grind
    | [_], e => simp only [List.cons_append, List.nil_append, List.cons.injEq] at e; obtain ⟨rfl, rfl, rfl⟩ := e; simp only [sgR, List.map, List.nil_append, List.cons_append, det2]; grind
    | [_, _], e => simp at e
    | _ :: _ :: _ :: _, e => simp at e
  · obtain ⟨a, b, c, d, e', f, g, i, j, e⟩ := rect3 h
    match pre, e with
    | [], e => simp only [List.nil_append, List.cons.injEq] at e; obtain ⟨rfl, rfl⟩ := e; simp only [sgR, List.map, List.nil_append, det3]; grind
    | [_], e => simp only [List.cons_append, List.nil_append, List.cons.injEq] at e; obtain ⟨rfl, rfl, rfl⟩ := e; simp only [sgR, List.map, List.nil_append, List.cons_append, det3]; grind
    | [_, _], e => simp only [List.cons_append, List.nil_append, List.cons.injEq] at e; obtain ⟨rfl, rfl, rfl, rfl⟩ := e; simp only [sgR, List.map, List.nil_append, List.cons_append, det3]; grind
    | [_, _, _], e => simp at e
    | _ :: _ :: _ :: _ :: _, e => simp at e
  · obtain ⟨a, b, c, d, e', f, g, i, j, k, l', m, n, o, p, q, e⟩ := rect4 h
    match pre, e with
    | [], e => simp only [List.nil_append, List.cons.injEq] at e; obtain ⟨rfl, rfl⟩ := e; simp only [sgR, List.map, List.nil_append, det4]; grind
    | [_], e => simp only [List.cons_append, List.nil_append, List.cons.injEq] at e; obtain ⟨rfl, rfl, rfl⟩ := e; simp only [sgR, List.map, List.nil_append, List.cons_append, det4]; grind
    | [_, _], e => simp only [List.cons_append, List.nil_append, List.cons.injEq] at e; obtain ⟨rfl, rfl, rfl, rfl⟩ := e; simp only [sgR, List.map, List.nil_append, List.cons_append, det4]; grind
    | [_, _, _], e => simp only [List.cons_append, List.nil_append, List.cons.injEq] at e; obtain ⟨rfl, rfl, rfl, rfl, rfl⟩ := e; simp only [sgR, List.map, List.nil_append, List.cons_append, det4]; grind
    | [_, _, _, _], e => simp at e
    | _ :: _ :: _ :: _ :: _ :: _, e => simp at e
theorem sg_one (r : List Int) : sgR 1 r = r := by
  unfold sgR
  induction r with
  | nil => rfl
  | cons a r ih => simp [ih]
theorem sg_len (s : Int) (r : List Int) : (sgR s r).length = r.length := by unfold sgR; simp
theorem det_signs' {n : Nat} (hn : sz n) : ∀ (ss : List Int) (l pre : Mx), ss.length = l.length → (∀ s ∈ ss, s = 1 ∨ s = -1) → rectM n (pre ++ l) → pm (detN n (pre ++ List.zipWith sgR ss l)) (detN n (pre ++ l))
  | [], [], _, _, _, _ => .refl _
  | s :: ss, r :: l, pre, hl, hs, h => by
    have hz : rectM n (pre ++ sgR s r :: l) := ⟨by simpa using h.1, fun x hx => by
      rcases List.mem_append.mp hx with hx | hx
      · exact h.2 x (by simp [hx])
      · rcases List.mem_cons.mp hx with rfl | hx
        · rw [sg_len]; exact h.2 r (by simp)
        · exact h.2 x (by simp [hx])⟩
    have a := det_signs' hn ss l (pre ++ [sgR s r]) (by simpa using hl) (fun x hx => hs x (List.mem_cons_of_mem _ hx)) (by simpa using hz)
    have a' : pm (detN n (pre ++ List.zipWith sgR (s :: ss) (r :: l))) (detN n (pre ++ sgR s r :: l)) := by simpa using a
    refine a'.trans ?_
    rcases hs s List.mem_cons_self with rfl | rfl
    · rw [sg_one]; exact .refl _
    · exact .inr (det_neg1 hn h)
theorem det_signs {n : Nat} (hn : sz n) {ss : List Int} {l : Mx} (hl : ss.length = l.length) (hs : ∀ s ∈ ss, s = 1 ∨ s = -1) (h : rectM n l) : pm (detN n (List.zipWith sgR ss l)) (detN n l) := det_signs' hn ss l [] hl hs h
def addR (m : Int) (r s : List Int) : List Int := List.zipWith (fun a b => a + m * b) r s
theorem det_add {n : Nat} (hn : sz n) {A : Mx} (h : rectM n A) {i j : Nat} (hi : i < n) (hj : j < n) (hij : i ≠ j) (m : Int) :
    detN n (A.set i (addR m (A.getD i []) (A.getD j []))) = detN n A := by
  rcases hn with rfl | rfl | rfl
  · obtain ⟨a, b, c, d, rfl⟩ := rect2 h
    have : (i = 0 ∧ j = 1) ∨ (i = 1 ∧ j = 0) := by omega
    rcases this with ⟨rfl, rfl⟩ | ⟨rfl, rfl⟩ <;> simp only [addR, List.set, List.getD, List.getElem?_cons_zero, List.getElem?_cons_succ, Option.getD_some, List.zipWith, det2] <;> grind
  · obtain ⟨a, b, c, d, e', f, g, i', j', rfl⟩ := rect3 h
    have : (i = 0 ∧ j = 1) ∨ (i = 1 ∧ j = 0) ∨ (i = 0 ∧ j = 2) ∨ (i = 2 ∧ j = 0) ∨ (i = 1 ∧ j = 2) ∨ (i = 2 ∧ j = 1) := by omega
    rcases this with ⟨rfl, rfl⟩ | ⟨rfl, rfl⟩ | ⟨rfl, rfl⟩ | ⟨rfl, rfl⟩ | ⟨rfl, rfl⟩ | ⟨rfl, rfl⟩ <;> simp only [addR, List.set, List.getD, List.getElem?_cons_zero, List.getElem?_cons_succ, Option.getD_some, List.zipWith, det3] <;> grind
  · obtain ⟨a, b, c, d, e', f, g, i', j', k, l', m', n, o, p, q, rfl⟩ := rect4 h
    have : (i = 0 ∧ j = 1) ∨ (i = 1 ∧ j = 0) ∨ (i = 0 ∧ j = 2) ∨ (i = 2 ∧ j = 0) ∨ (i = 1 ∧ j = 2) ∨ (i = 2 ∧ j = 1) ∨ (i = 0 ∧ j = 3) ∨ (i = 3 ∧ j = 0) ∨ (i = 1 ∧ j = 3) ∨ (i = 3 ∧ j = 1) ∨ (i = 2 ∧ j = 3) ∨ (i = 3 ∧ j = 2) := by omega
    rcases this with ⟨rfl, rfl⟩ | ⟨rfl, rfl⟩ | ⟨rfl, rfl⟩ | ⟨rfl, rfl⟩ | ⟨rfl, rfl⟩ | ⟨rfl, rfl⟩ | ⟨rfl, rfl⟩ | ⟨rfl, rfl⟩ | ⟨rfl, rfl⟩ | ⟨rfl, rfl⟩ | ⟨rfl, rfl⟩ | ⟨rfl, rfl⟩ <;> simp only [addR, List.set, List.getD, List.getElem?_cons_zero, List.getElem?_cons_succ, Option.getD_some, List.zipWith, det4] <;> grind
/-! ### products -/
theorem dot_nil (c : List Int) : dotI [] c = 0 := by simp [dotI]
theorem dot_cons (a x : Int) (r c : List Int) : dotI (a :: r) (x :: c) = a * x + dotI r c := by simp [dotI]
theorem dot_addR (m : Int) : ∀ (r s c : List Int), r.length = s.length → dotI (addR m r s) c = dotI r c + m * dotI s c
  | [], [], c, _ => by simp [addR, dotI]
  | a :: r, b :: s, [], _ => by simp [addR, dotI]
  | a :: r, b :: s, x :: c, h => by
    have ih := dot_addR m r s c (by simpa using h)
    unfold addR at *
    rw [List.zipWith_cons_cons, dot_cons, dot_cons, dot_cons, ih]
    grind
theorem dot_sg (s : Int) : ∀ (r c : List Int), dotI (sgR s r) c = s * dotI r c
  | [], c => by simp [sgR, dotI]
  | a :: r, [] => by simp [sgR, dotI]
  | a :: r, x :: c => by
    have ih := dot_sg s r c
    unfold sgR at *
    rw [List.map_cons, dot_cons, dot_cons, ih]
    grind
theorem dot_comm : ∀ (r c : List Int), dotI r c = dotI c r
  | [], c => by simp [dotI]
  | a :: r, [] => by simp [dotI]
  | a :: r, x :: c => by rw [dot_cons, dot_cons, dot_comm r c, Int.mul_comm]
def rowM (B : Mx) (r : List Int) : List Int := (turnM B).map fun c => dotI r c
theorem mulM_map (A B : Mx) : mulM A B = A.map (rowM B) := rfl
theorem turn_rect {n : Nat} (hn : 0 < n) {A : Mx} (h : rectM n A) : rectM n (turnM A) := by
  unfold turnM
  have : (A.headD []).length = n := by
    cases A with
    | nil => simp [rectM] at h; omega
    | cons r A => exact h.2 r (by simp)
  rw [this]
  refine ⟨by simp, fun r hr => ?_⟩
  obtain ⟨i, _, rfl⟩ := List.mem_map.mp hr
  simp [h.1]
theorem rowM_len {n : Nat} (hn : 0 < n) {B : Mx} (h : rectM n B) (r : List Int) : (rowM B r).length = n := by
  unfold rowM
  rw [List.length_map]
  exact (turn_rect hn h).1
theorem mul_rect {n : Nat} (hn : 0 < n) {A B : Mx} (ha : rectM n A) (h : rectM n B) : rectM n (mulM A B) := by
  rw [mulM_map]
  refine ⟨by simpa using ha.1, fun r hr => ?_⟩
  obtain ⟨i, _, rfl⟩ := List.mem_map.mp hr
  exact rowM_len hn h i
theorem zip_map2 (f g : Int → Int → Int) {α : Type} (p q : α → Int) (l : List α) : List.zipWith f (l.map p) (l.map q) = l.map fun x => f (p x) (q x) := by
  induction l with
  | nil => rfl
  | cons a l ih => simp [ih]
theorem rowM_add (m : Int) (B : Mx) {r s : List Int} (h : r.length = s.length) : rowM B (addR m r s) = addR m (rowM B r) (rowM B s) := by
  unfold rowM
  conv => rhs; unfold addR
  rw [zip_map2 _ (fun x _ => x)]
  exact List.map_congr_left fun c _ => dot_addR m r s c h
theorem rowM_sg (s : Int) (B : Mx) (r : List Int) : rowM B (sgR s r) = sgR s (rowM B r) := by
  unfold rowM
  conv => rhs; unfold sgR
  rw [List.map_map]
  exact List.map_congr_left fun c _ => dot_sg s r c
def Good (n : Nat) (A : Mx) : Prop := rectM n A ∧ ∀ B, rectM n B → pm (detN n (mulM A B)) (detN n B)
theorem unit_rect (n : Nat) : rectM n (unitM n) := by
  unfold unitM
  refine ⟨by simp, fun r hr => ?_⟩
  obtain ⟨i, _, rfl⟩ := List.mem_map.mp hr
  simp
local macro_rules | `(tactic| walk_at "mxs") => `(tactic| simp (config := {decide := true}) only [unitM, mulM, turnM, mulV, dotI, sgR, List.map, List.map_cons, List.map_nil, List.range, List.range.loop, List.headD_cons, List.length_cons, List.length_nil, List.getD, List.getElem?_cons_zero, List.getElem?_cons_succ, Option.getD_some, List.zipWith, List.sum_cons, List.sum_nil, Nat.reduceAdd, Nat.zero_add, List.cons.injEq, and_true, true_and, if_true, reduceIte, if_false, Nat.reduceEqDiff])
theorem unit_mul {n : Nat} (hn : sz n) {B : Mx} (h : rectM n B) : mulM (unitM n) B = B := by
  rcases hn with rfl | rfl | rfl
  · obtain ⟨a, b, c, d, rfl⟩ := rect2 h
    walk_at "mxs"; grind
  · obtain ⟨a, b, c, d, e', f, g, i, j, rfl⟩ := rect3 h
    walk_at "mxs"; grind
  · obtain ⟨a, b, c, d, e', f, g, i, j, k, l', m, n, o, p, q, rfl⟩ := rect4 h
    walk_at "mxs"; grind
theorem mul_unit {n : Nat} (hn : sz n) {B : Mx} (h : rectM n B) : mulM B (unitM n) = B := by
  rcases hn with rfl | rfl | rfl
  · obtain ⟨a, b, c, d, rfl⟩ := rect2 h
    walk_at "mxs"; grind
  · obtain ⟨a, b, c, d, e', f, g, i, j, rfl⟩ := rect3 h
    walk_at "mxs"; grind
  · obtain ⟨a, b, c, d, e', f, g, i, j, k, l', m, n, o, p, q, rfl⟩ := rect4 h
    walk_at "mxs"; grind
theorem unit_mulV {n : Nat} (hn : sz n) {v : List Int} (h : v.length = n) : mulV (unitM n) v = v := by
  rcases hn with rfl | rfl | rfl
  · obtain ⟨a, b, rfl⟩ := len2 h
    walk_at "mxs"; grind
  · obtain ⟨a, b, c, rfl⟩ := len3 h
    walk_at "mxs"; grind
  · obtain ⟨a, b, c, d, rfl⟩ := len4 h
    walk_at "mxs"; grind
theorem mul_mulV {n : Nat} (hn : sz n) {A B : Mx} (ha : rectM n A) (hb : rectM n B) {v : List Int} (h : v.length = n) : mulV (mulM A B) v = mulV A (mulV B v) := by
  rcases hn with rfl | rfl | rfl
  · obtain ⟨a, b, rfl⟩ := len2 h
    obtain ⟨a', b', c', d', rfl⟩ := rect2 ha
    obtain ⟨a2, b2, c2, d2, rfl⟩ := rect2 hb
    walk_at "mxs"; grind
  · obtain ⟨a, b, c, rfl⟩ := len3 h
    obtain ⟨a', b', c', d', e', f', g', i', j', rfl⟩ := rect3 ha
    obtain ⟨a2, b2, c2, d2, e2, f2, g2, i2, j2, rfl⟩ := rect3 hb
    walk_at "mxs"; refine ⟨?_, ?_, ?_⟩ <;> grind
  · obtain ⟨a, b, c, d, rfl⟩ := len4 h
    obtain ⟨a', b', c', d', e', f', g', i', j', k', l', m', n', o', p', q', rfl⟩ := rect4 ha
    obtain ⟨a2, b2, c2, d2, e2, f2, g2, i2, j2, k2, l2, m2, n2, o2, p2, q2, rfl⟩ := rect4 hb
    walk_at "mxs"; refine ⟨?_, ?_, ?_, ?_⟩ <;> grind
theorem col_mul {n : Nat} (hn : 0 < n) {B C : Mx} (hb : rectM n B) (hc : rectM n C) : turnM (mulM B C) = (turnM C).map fun c => mulV B c := by
  have hr := mul_rect hn hb hc
  have e1 : ((mulM B C).headD []).length = n := by
    cases e : mulM B C with
    | nil => rw [e] at hr; simp [rectM] at hr; omega
    | cons r A => exact hr.2 r (by simp [e])
  have e2 : (C.headD []).length = n := by
    cases C with
    | nil => simp [rectM] at hc; omega
    | cons r A => exact hc.2 r (by simp)
  conv => lhs; unfold turnM
  conv => rhs; unfold turnM
  rw [e1, e2, List.map_map]
  refine List.map_congr_left fun i hi => ?_
  have hi : i < n := List.mem_range.mp hi
  rw [mulM_map, List.map_map]
  unfold mulV
  refine List.map_congr_left fun r _ => ?_
  show (rowM C r).getD i 0 = dotI r (C.map fun r => r.getD i 0)
  unfold rowM turnM
  rw [e2, List.getD_eq_getElem?_getD, List.getElem?_map, List.getElem?_map, List.getElem?_range hi]
  rfl
theorem dot_mulV {n : Nat} (hn : sz n) {B : Mx} (hb : rectM n B) {r c : List Int} (hr : r.length = n) (hc : c.length = n) : dotI r (mulV B c) = dotI (rowM B r) c := by
  unfold rowM
  rcases hn with rfl | rfl | rfl
  · obtain ⟨a, b, rfl⟩ := len2 hr
    obtain ⟨x, y, rfl⟩ := len2 hc
    obtain ⟨a2, b2, c2, d2, rfl⟩ := rect2 hb
    walk_at "mxs"; grind
  · obtain ⟨a, b, c, rfl⟩ := len3 hr
    obtain ⟨x, y, z, rfl⟩ := len3 hc
    obtain ⟨a2, b2, c2, d2, e2, f2, g2, i2, j2, rfl⟩ := rect3 hb
    walk_at "mxs"; grind
  · obtain ⟨a, b, c, d, rfl⟩ := len4 hr
    obtain ⟨x, y, z, u, rfl⟩ := len4 hc
    obtain ⟨a2, b2, c2, d2, e2, f2, g2, i2, j2, k2, l2, m2, n2, o2, p2, q2, rfl⟩ := rect4 hb
    walk_at "mxs"; grind
theorem sz.pos {n : Nat} (h : sz n) : 0 < n := by unfold sz at h; omega
theorem mul_assoc' {n : Nat} (hn : sz n) {A B C : Mx} (ha : rectM n A) (hb : rectM n B) (hc : rectM n C) : mulM (mulM A B) C = mulM A (mulM B C) := by
  rw [mulM_map (mulM A B) C, mulM_map A B, List.map_map, mulM_map A]
  refine List.map_congr_left fun r hr => ?_
  show rowM C (rowM B r) = rowM (mulM B C) r
  conv => rhs; unfold rowM
  rw [col_mul hn.pos hb hc, List.map_map]
  conv => lhs; unfold rowM
  refine List.map_congr_left fun c hc' => ?_
  exact (dot_mulV hn hb (ha.2 r hr) ((turn_rect hn.pos hc).2 c hc')).symm
theorem good_unit {n : Nat} (hn : sz n) : Good n (unitM n) := ⟨unit_rect n, fun B h => by rw [unit_mul hn h]; exact .refl _⟩
theorem getD_row {n : Nat} {A : Mx} (h : rectM n A) {i : Nat} (hi : i < n) : (A.getD i []).length = n := by
  have : i < A.length := by rw [h.1]; exact hi
  rw [List.getD_eq_getElem?_getD, List.getElem?_eq_getElem this]
  exact h.2 _ (List.getElem_mem this)
theorem addR_len {m : Int} {r s : List Int} (h : r.length = s.length) : (addR m r s).length = r.length := by unfold addR; simp [h]
theorem set_rect {n : Nat} {A : Mx} (h : rectM n A) {i : Nat} {r : List Int} (hr : r.length = n) : rectM n (A.set i r) := ⟨by simpa using h.1, fun x hx => by
  rcases List.mem_or_eq_of_mem_set hx with hx | rfl
  · exact h.2 x hx
  · exact hr⟩
theorem good_add {n : Nat} (hn : sz n) {A : Mx} (h : Good n A) {i j : Nat} (hi : i < n) (hj : j < n) (hij : i ≠ j) (m : Int) :
    Good n (A.set i (addR m (A.getD i []) (A.getD j []))) := by
  have e : (A.getD i []).length = (A.getD j []).length := by rw [getD_row h.1 hi, getD_row h.1 hj]
  refine ⟨set_rect h.1 (by rw [addR_len e, getD_row h.1 hi]), fun B hB => ?_⟩
  have g : ∀ k, k < n → rowM B (A.getD k []) = (mulM A B).getD k [] := fun k hk => by
    have : k < A.length := by rw [h.1.1]; exact hk
    rw [mulM_map, List.getD_eq_getElem?_getD, List.getD_eq_getElem?_getD, List.getElem?_map, List.getElem?_eq_getElem this]
    rfl
  rw [mulM_map, List.map_set, rowM_add m B e, g i hi, g j hj]
  exact (show pm _ _ from by
    have := det_add hn (mul_rect hn.pos h.1 hB) hi hj hij m
    rw [mulM_map] at this ⊢
    rw [this]
    exact .refl _).trans (h.2 B hB)
theorem good_perm {n : Nat} (hn : sz n) {A A' : Mx} (h : Good n A) (p : A.Perm A') : Good n A' :=
  ⟨rect_perm h.1 p, fun B hB => (det_perm hn (by rw [mulM_map, mulM_map]; exact p.map _) (mul_rect hn.pos h.1 hB)).trans (h.2 B hB)⟩
theorem mul_signs (B : Mx) : ∀ (ss : List Int) (A : Mx), mulM (List.zipWith sgR ss A) B = List.zipWith sgR ss (mulM A B)
  | [], A => by simp [mulM]
  | s :: ss, [] => by simp [mulM]
  | s :: ss, r :: A => by
    have := mul_signs B ss A
    simp only [mulM_map, List.zipWith_cons_cons, List.map_cons] at *
    rw [this, rowM_sg]
theorem signs_rect {n : Nat} {A : Mx} {ss : List Int} (h : rectM n A) (hl : ss.length = A.length) : rectM n (List.zipWith sgR ss A) := by
  refine ⟨by simp [hl, h.1], fun r hr => ?_⟩
  obtain ⟨i, hi, rfl⟩ := List.mem_iff_getElem.mp hr
  rw [List.getElem_zipWith, sg_len]
  exact h.2 _ (List.getElem_mem _)
theorem good_signs {n : Nat} (hn : sz n) {A : Mx} (h : Good n A) {ss : List Int} (hl : ss.length = A.length) (hs : ∀ s ∈ ss, s = 1 ∨ s = -1) : Good n (List.zipWith sgR ss A) :=
  ⟨signs_rect h.1 hl, fun B hB => by
    rw [mul_signs]
    exact (det_signs hn (by rw [mulM_map, List.length_map]; exact hl) hs (mul_rect hn.pos h.1 hB)).trans (h.2 B hB)⟩
theorem good_mul {n : Nat} (hn : sz n) {A B : Mx} (ha : Good n A) (hb : Good n B) : Good n (mulM A B) :=
  ⟨mul_rect hn.pos ha.1 hb.1, fun C hC => by
    rw [mul_assoc' hn ha.1 hb.1 hC]
    exact (ha.2 _ (mul_rect hn.pos hb.1 hC)).trans (hb.2 C hC)⟩
theorem det_unit {n : Nat} (hn : sz n) : detN n (unitM n) = 1 := by
  rcases hn with rfl | rfl | rfl <;> decide
theorem good_det {n : Nat} (hn : sz n) {A : Mx} (h : Good n A) : pm (detN n A) 1 := by
  have := h.2 _ (unit_rect n)
  rwa [mul_unit hn h.1, det_unit hn] at this
/-! the inverse -/
def cof (n : Nat) (A : Mx) (a p : Nat) : Int := let d := detN (n - 1) ((A.eraseIdx a).map (·.eraseIdx p)); if (a + p) % 2 = 1 then -d else d
def adjM (n : Nat) (A : Mx) : Mx := (List.range n).map fun p => (List.range n).map fun a => cof n A a p
def scM (s : Int) (A : Mx) : Mx := A.map (sgR s)
def backM (n : Nat) (A : Mx) : Mx := scM (detN n A) (adjM n A)
theorem adj_rect (n : Nat) (A : Mx) : rectM n (adjM n A) := by
  unfold adjM
  refine ⟨by simp, fun r hr => ?_⟩
  obtain ⟨i, _, rfl⟩ := List.mem_map.mp hr
  simp
theorem sc_rect {n : Nat} {A : Mx} (s : Int) (h : rectM n A) : rectM n (scM s A) := by
  unfold scM
  refine ⟨by simpa using h.1, fun r hr => ?_⟩
  obtain ⟨i, hi, rfl⟩ := List.mem_map.mp hr
  rw [sg_len]
  exact h.2 i hi
theorem back_rect (n : Nat) (A : Mx) : rectM n (backM n A) := sc_rect _ (adj_rect n A)
theorem det1 (a : Int) : detN 1 [[a]] = a := by simp [detN, List.zipIdx]
local macro_rules | `(tactic| walk_at "mxt") => `(tactic| simp (config := {decide := true}) only [adjM, cof, scM, unitM, mulM, turnM, mulV, dotI, sgR, List.map, List.map_cons, List.map_nil, List.range, List.range.loop, List.headD_cons, List.length_cons, List.length_nil, List.getD, List.getElem?_cons_zero, List.getElem?_cons_succ, Option.getD_some, List.zipWith, List.sum_cons, List.sum_nil, Nat.reduceAdd, Nat.reduceSub, Nat.reduceMod, Nat.zero_add, List.cons.injEq, and_true, true_and, if_true, reduceIte, List.eraseIdx, det1, det2, det3, det4, if_false, Nat.reduceEqDiff])
theorem mul_adj {n : Nat} (hn : sz n) {A : Mx} (h : rectM n A) : mulM A (adjM n A) = scM (detN n A) (unitM n) := by
  rcases hn with rfl | rfl | rfl
  · obtain ⟨a, b, c, d, rfl⟩ := rect2 h
    walk_at "mxt"; grind
  · obtain ⟨a, b, c, d, e', f, g, i, j, rfl⟩ := rect3 h
    walk_at "mxt"; refine ⟨⟨?_, ?_, ?_⟩, ⟨?_, ?_, ?_⟩, ⟨?_, ?_, ?_⟩⟩ <;> grind
  · obtain ⟨a, b, c, d, e', f, g, i, j, k, l', m, n, o, p, q, rfl⟩ := rect4 h
    walk_at "mxt"; refine ⟨⟨?_, ?_, ?_, ?_⟩, ⟨?_, ?_, ?_, ?_⟩, ⟨?_, ?_, ?_, ?_⟩, ⟨?_, ?_, ?_, ?_⟩⟩ <;> grind
theorem adj_mul {n : Nat} (hn : sz n) {A : Mx} (h : rectM n A) : mulM (adjM n A) A = scM (detN n A) (unitM n) := by
  rcases hn with rfl | rfl | rfl
  · obtain ⟨a, b, c, d, rfl⟩ := rect2 h
    walk_at "mxt"; grind
  · obtain ⟨a, b, c, d, e', f, g, i, j, rfl⟩ := rect3 h
    walk_at "mxt"; refine ⟨⟨?_, ?_, ?_⟩, ⟨?_, ?_, ?_⟩, ⟨?_, ?_, ?_⟩⟩ <;> grind
  · obtain ⟨a, b, c, d, e', f, g, i, j, k, l', m, n, o, p, q, rfl⟩ := rect4 h
    walk_at "mxt"; refine ⟨⟨?_, ?_, ?_, ?_⟩, ⟨?_, ?_, ?_, ?_⟩, ⟨?_, ?_, ?_, ?_⟩, ⟨?_, ?_, ?_, ?_⟩⟩ <;> grind
theorem sg_sg (s t : Int) (r : List Int) : sgR s (sgR t r) = sgR (s * t) r := by
  unfold sgR
  rw [List.map_map]
  exact List.map_congr_left fun x _ => by show s * (t * x) = s * t * x; grind
theorem sc_sc (s t : Int) (A : Mx) : scM s (scM t A) = scM (s * t) A := by
  unfold scM
  rw [List.map_map]
  exact List.map_congr_left fun x _ => sg_sg s t x
theorem sc_one (A : Mx) : scM 1 A = A := by
  unfold scM
  conv => rhs; rw [← List.map_id A]
  exact List.map_congr_left fun x _ => sg_one x
theorem sc_mul (s : Int) (A B : Mx) : mulM (scM s A) B = scM s (mulM A B) := by
  unfold scM
  rw [mulM_map, mulM_map, List.map_map, List.map_map]
  exact List.map_congr_left fun x _ => rowM_sg s B x
theorem turn_sc {n : Nat} (hn : 0 < n) (s : Int) {B : Mx} (h : rectM n B) : turnM (scM s B) = scM s (turnM B) := by
  have e1 : ((scM s B).headD []).length = (B.headD []).length := by
    cases B with
    | nil => rfl
    | cons r A => exact sg_len s r
  unfold turnM
  rw [e1]
  conv => rhs; unfold scM
  rw [List.map_map]
  refine List.map_congr_left fun i _ => ?_
  show (scM s B).map (fun r => r.getD i 0) = sgR s (B.map fun r => r.getD i 0)
  unfold scM sgR
  rw [List.map_map, List.map_map]
  refine List.map_congr_left fun r _ => ?_
  show ((r.map (s * ·)).getD i 0) = s * r.getD i 0
  rw [List.getD_eq_getElem?_getD, List.getD_eq_getElem?_getD, List.getElem?_map]
  cases r[i]? with
  | none => simp
  | some x => rfl
theorem mul_sc {n : Nat} (hn : 0 < n) (s : Int) (A : Mx) {B : Mx} (h : rectM n B) : mulM A (scM s B) = scM s (mulM A B) := by
  unfold mulM
  rw [turn_sc hn s h]
  unfold scM
  rw [List.map_map]
  refine List.map_congr_left fun r _ => ?_
  show ((turnM B).map (sgR s)).map (fun c => dotI r c) = sgR s ((turnM B).map fun c => dotI r c)
  conv => rhs; unfold sgR
  rw [List.map_map, List.map_map]
  refine List.map_congr_left fun c _ => ?_
  show dotI r (sgR s c) = s * dotI r c
  rw [dot_comm, dot_sg, dot_comm]
theorem pm_sq {x : Int} (h : pm x 1) : x * x = 1 := by rcases h with rfl | rfl <;> rfl
theorem mul_back {n : Nat} (hn : sz n) {A : Mx} (h : rectM n A) (hd : pm (detN n A) 1) : mulM A (backM n A) = unitM n := by
  unfold backM
  rw [mul_sc hn.pos _ _ (adj_rect n A), mul_adj hn h, sc_sc, pm_sq hd, sc_one]
theorem back_mul {n : Nat} (hn : sz n) {A : Mx} (h : rectM n A) (hd : pm (detN n A) 1) : mulM (backM n A) A = unitM n := by
  unfold backM
  rw [sc_mul, adj_mul hn h, sc_sc, pm_sq hd, sc_one]
theorem det_back {n : Nat} (hn : sz n) {A : Mx} (h : Good n A) : pm (detN n (backM n A)) 1 := by
  have := h.2 _ (back_rect n A)
  rw [mul_back hn h.1 (good_det hn h), det_unit hn] at this
  exact this.symm
theorem back_back {n : Nat} (hn : sz n) {A : Mx} (h : Good n A) : backM n (backM n A) = A := by
  have hr := back_rect n A
  have hd := det_back hn h
  have e := mul_back hn hr hd
  have e2 := mul_back hn h.1 (good_det hn h)
  have e3 := mul_assoc' hn h.1 hr (back_rect n (backM n A))
  rw [e2, e, unit_mul hn (back_rect n _), mul_unit hn h.1] at e3
  exact e3

/-! ### determinants by pivots -/
def ent (L : Mx) (i j : Nat) : Int := (L.getD i []).getD j 0
abbrev Ff := Nat → Nat → Int
def mF : Nat → Ff → Nat → Nat → Int
  | 0, A, i, j => A i j
  | 1, A, i, j => A 0 0 * A i j - A i 0 * A 0 j
  | 2, A, i, j => A 0 0 * (A 1 1 * A i j - A 1 j * A i 1) - A 0 1 * (A 1 0 * A i j - A 1 j * A i 0) + A 0 j * (A 1 0 * A i 1 - A 1 1 * A i 0)
  | _, A, i, j => A 0 0 * (A 1 1 * (A 2 2 * A i j - A 2 j * A i 2) - A 1 2 * (A 2 1 * A i j - A 2 j * A i 1) + A 1 j * (A 2 1 * A i 2 - A 2 2 * A i 1))
      - A 0 1 * (A 1 0 * (A 2 2 * A i j - A 2 j * A i 2) - A 1 2 * (A 2 0 * A i j - A 2 j * A i 0) + A 1 j * (A 2 0 * A i 2 - A 2 2 * A i 0))
      + A 0 2 * (A 1 0 * (A 2 1 * A i j - A 2 j * A i 1) - A 1 1 * (A 2 0 * A i j - A 2 j * A i 0) + A 1 j * (A 2 0 * A i 1 - A 2 1 * A i 0))
      - A 0 j * (A 1 0 * (A 2 1 * A i 2 - A 2 2 * A i 1) - A 1 1 * (A 2 0 * A i 2 - A 2 2 * A i 0) + A 1 2 * (A 2 0 * A i 1 - A 2 1 * A i 0))
def hF : Nat → Ff → Int
  | 0, _ => 1
  | k + 1, A => mF k A k k
theorem mF_step {k : Nat} (hk : k < 3) (A : Ff) (i j : Nat) : mF k A k k * mF k A i j - mF k A i k * mF k A k j = hF k A * mF (k + 1) A i j := by
  have : k = 0 ∨ k = 1 ∨ k = 2 := by omega
  rcases this with rfl | rfl | rfl <;> simp only [mF, hF] <;> grind
def swF (k p : Nat) (A : Ff) : Ff := fun i => A (if i = k then p else if i = p then k else i)
theorem mF_sw {k p : Nat} (hk : k < 4) (hp : k ≤ p) (A : Ff) (i j : Nat) : mF k (swF k p A) i j = mF k A (if i = k then p else if i = p then k else i) j := by
  have : k = 0 ∨ k = 1 ∨ k = 2 ∨ k = 3 := by omega
  have q : ∀ m, m < k → swF k p A m = A m := fun m hm => by
    unfold swF
    rw [if_neg (by omega), if_neg (by omega)]
  have z : swF k p A i = A (if i = k then p else if i = p then k else i) := rfl
  rcases this with rfl | rfl | rfl | rfl
  · rfl
  · simp only [mF, q 0 (by omega), z]
  · simp only [mF, q 0 (by omega), q 1 (by omega), z]
  · simp only [mF, q 0 (by omega), q 1 (by omega), q 2 (by omega), z]
theorem hF_sw {k p : Nat} (hk : k < 5) (hp : k ≤ p) (A : Ff) : hF k (swF k p A) = hF k A := by
  have : k = 0 ∨ k = 1 ∨ k = 2 ∨ k = 3 ∨ k = 4 := by omega
  have q : ∀ m, m < k → swF k p A m = A m := fun m hm => by
    unfold swF
    rw [if_neg (by omega), if_neg (by omega)]
  rcases this with rfl | rfl | rfl | rfl | rfl
  · rfl
  · simp only [hF, mF, q 0 (by omega)]
  · simp only [hF, mF, q 0 (by omega), q 1 (by omega)]
  · simp only [hF, mF, q 0 (by omega), q 1 (by omega), q 2 (by omega)]
  · simp only [hF, mF, q 0 (by omega), q 1 (by omega), q 2 (by omega), q 3 (by omega)]
def sz1 (n : Nat) : Prop := n = 1 ∨ sz n
theorem hF_neg {n k p : Nat} (hn : sz1 n) (hk : k < p) (hp : p < n) (A : Ff) : hF n (swF k p A) = -hF n A := by
  rcases hn with rfl | rfl | rfl | rfl
  · omega
  · have : k = 0 ∧ p = 1 := by omega
    obtain ⟨rfl, rfl⟩ := this
    simp (config := {decide := true}) only [hF, mF, swF, if_true, if_false]; grind
  · have : (k = 0 ∧ p = 1) ∨ (k = 0 ∧ p = 2) ∨ (k = 1 ∧ p = 2) := by omega
    rcases this with ⟨rfl, rfl⟩ | ⟨rfl, rfl⟩ | ⟨rfl, rfl⟩ <;> simp (config := {decide := true}) only [hF, mF, swF, if_true, if_false] <;> grind
  · have : (k = 0 ∧ p = 1) ∨ (k = 0 ∧ p = 2) ∨ (k = 1 ∧ p = 2) ∨ (k = 0 ∧ p = 3) ∨ (k = 1 ∧ p = 3) ∨ (k = 2 ∧ p = 3) := by omega
    rcases this with ⟨rfl, rfl⟩ | ⟨rfl, rfl⟩ | ⟨rfl, rfl⟩ | ⟨rfl, rfl⟩ | ⟨rfl, rfl⟩ | ⟨rfl, rfl⟩ <;> simp (config := {decide := true}) only [hF, mF, swF, if_true, if_false] <;> grind
theorem hF_zero {n k : Nat} (hn : sz1 n) (hk : k < n) {A : Ff} (h0 : hF k A ≠ 0) (h : ∀ i, k ≤ i → i < n → mF k A i k = 0) : hF n A = 0 := by
  have last : ∀ m, n = m + 1 → k = m → hF n A = 0 := fun m e1 e2 => by subst e1; subst e2; exact h k (by omega) (by omega)
  have pre : ∀ m, n = m + 2 → k = m → k < 3 → hF n A = 0 := fun m e1 e2 e3 => by
    subst e1; subst e2
    have s := mF_step e3 A (k + 1) (k + 1)
    rw [h k (by omega) (by omega), h (k + 1) (by omega) (by omega)] at s
    have s' : hF k A * mF (k + 1) A (k + 1) (k + 1) = 0 := by rw [← s]; grind
    rcases Int.mul_eq_zero.mp s' with z | z
    · exact absurd z h0
    · exact z
  rcases hn with rfl | rfl | rfl | rfl
  · have : k = 0 := by omega
    subst this
    exact last 0 rfl rfl
  · have : k = 0 ∨ k = 1 := by omega
    rcases this with rfl | rfl
    · exact pre 0 rfl rfl (by omega)
    · exact last 1 rfl rfl
  · have : k = 0 ∨ k = 1 ∨ k = 2 := by omega
    rcases this with rfl | rfl | rfl
    · have a := h 0 (by omega) (by omega)
      have b := h 1 (by omega) (by omega)
      have c := h 2 (by omega) (by omega)
      simp only [mF] at a b c
      simp only [hF, mF, a, b, c]
      grind
    · exact pre 1 rfl rfl (by omega)
    · exact last 2 rfl rfl
  · have : k = 0 ∨ k = 1 ∨ k = 2 ∨ k = 3 := by omega
    rcases this with rfl | rfl | rfl | rfl
    · have a := h 0 (by omega) (by omega)
      have b := h 1 (by omega) (by omega)
      have c := h 2 (by omega) (by omega)
      have d := h 3 (by omega) (by omega)
      simp only [mF] at a b c d
      simp only [hF, mF, a, b, c, d]
      grind
    · have b := h 1 (by omega) (by omega)
      have c := h 2 (by omega) (by omega)
      have d := h 3 (by omega) (by omega)
      simp only [mF] at b c d
      simp only [hF, mF] at h0 ⊢
      have : A 0 0 * hF 4 A = 0 := by
        simp only [hF, mF]
        grind
      rcases Int.mul_eq_zero.mp this with z | z
      · exact absurd z h0
      · exact z
    · exact pre 2 rfl rfl (by omega)
    · exact last 3 rfl rfl
theorem rect1 {A : Mx} (h : rectM 1 A) : ∃ a, A = [[a]] := by
  match A, h.1 with
  | [r], _ =>
    match r, h.2 r (by simp) with
    | [a], _ => exact ⟨a, rfl⟩
theorem det_ent {n : Nat} (hn : sz1 n) {L : Mx} (h : rectM n L) : detN n L = hF n (ent L) := by
  rcases hn with rfl | rfl | rfl | rfl
  · obtain ⟨a, rfl⟩ := rect1 h
    rw [det1]
    simp only [hF, mF, ent, List.getD, List.getElem?_cons_zero, List.getElem?_cons_succ, Option.getD_some]
  · obtain ⟨a, b, c, d, rfl⟩ := rect2 h
    rw [det2]
    simp only [hF, mF, ent, List.getD, List.getElem?_cons_zero, List.getElem?_cons_succ, Option.getD_some]; grind
  · obtain ⟨a, b, c, d, e', f, g, i, j, rfl⟩ := rect3 h
    rw [det3]
    simp only [hF, mF, ent, List.getD, List.getElem?_cons_zero, List.getElem?_cons_succ, Option.getD_some]
  · obtain ⟨a, b, c, d, e', f, g, i, j, k, l', m, n, o, p, q, rfl⟩ := rect4 h
    rw [det4]
    simp only [hF, mF, ent, List.getD, List.getElem?_cons_zero, List.getElem?_cons_succ, Option.getD_some]
/-- the room of the entries behind k steps -/
def bB : Nat → Nat
  | 0 => 1000
  | k + 1 => 2 * bB k + 2
theorem bB_le {k : Nat} (h : k ≤ 3) : bB k < 8100 := by
  have : k = 0 ∨ k = 1 ∨ k = 2 ∨ k = 3 := by omega
  rcases this with rfl | rfl | rfl | rfl <;> decide
theorem bB_mono (k : Nat) : bB k ≤ bB (k + 1) := by show bB k ≤ 2 * bB k + 2; omega
def bdM (b : Nat) (L : Mx) : Prop := ∀ r ∈ L, ∀ x ∈ r, x.natAbs < 2 ^ b
theorem getD_bd {b : Nat} {r : List Int} (h : ∀ x ∈ r, x.natAbs < 2 ^ b) (j : Nat) : (r.getD j 0).natAbs < 2 ^ b := by
  rw [List.getD_eq_getElem?_getD]
  cases e : r[j]? with
  | none => exact Nat.pow_pos (by decide)
  | some x => exact h x (List.mem_of_getElem? e)
theorem ent_bd {b : Nat} {L : Mx} (h : bdM b L) (i j : Nat) : (ent L i j).natAbs < 2 ^ b := by
  unfold ent
  refine getD_bd (fun x hx => ?_) j
  rw [List.getD_eq_getElem?_getD] at hx
  cases e : L[i]? with
  | none => rw [e] at hx; cases hx
  | some r => rw [e] at hx; exact h r (List.mem_of_getElem? e) x hx
theorem fdiv_abs (x h : Int) : (x.fdiv h).natAbs ≤ x.natAbs + 1 := by
  rw [Int.fdiv_eq_ediv]
  have := Int.natAbs_ediv_le_natAbs x h
  split <;> omega
def elimR (h : Int) (k : Nat) (lead line : List Int) : List Int := List.zipWith (fun x y => (lead.getD k 0 * x - line.getD k 0 * y).fdiv h) line lead
theorem pw_mul {b : Nat} {x y : Int} (hx : x.natAbs < 2 ^ b) (hy : y.natAbs < 2 ^ b) : (x * y).natAbs < 2 ^ (2 * b) := by
  rw [Int.natAbs_mul, show 2 * b = b + b by omega, Nat.pow_add]
  exact Nat.mul_lt_mul'' hx hy
theorem elim_bd {b : Nat} {h x y u v : Int} (hx : x.natAbs < 2 ^ b) (hy : y.natAbs < 2 ^ b) (hu : u.natAbs < 2 ^ b) (hv : v.natAbs < 2 ^ b) : ((u * x - v * y).fdiv h).natAbs < 2 ^ (2 * b + 2) := by
  have a := fdiv_abs (u * x - v * y) h
  have c := pw_mul hu hx
  have d := pw_mul hv hy
  have e : 2 ^ (2 * b + 2) = 4 * 2 ^ (2 * b) := by rw [Nat.pow_add]; omega
  have : (u * x - v * y).natAbs ≤ (u * x).natAbs + (v * y).natAbs := by omega
  have : 0 < 2 ^ (2 * b) := Nat.pow_pos (by decide)
  omega
theorem elim_len {h : Int} {k : Nat} {lead line : List Int} (e : line.length = lead.length) : (elimR h k lead line).length = line.length := by unfold elimR; simp [e]
theorem elim_rbd {b : Nat} {h : Int} {k : Nat} {lead line : List Int} (h1 : ∀ x ∈ lead, x.natAbs < 2 ^ b) (h2 : ∀ x ∈ line, x.natAbs < 2 ^ b) : ∀ x ∈ elimR h k lead line, x.natAbs < 2 ^ (2 * b + 2) := by
  intro x hx
  unfold elimR at hx
  obtain ⟨i, hi, rfl⟩ := List.mem_iff_getElem.mp hx
  rw [List.getElem_zipWith]
  exact elim_bd (h2 _ (List.getElem_mem _)) (h1 _ (List.getElem_mem _)) (getD_bd h1 k) (getD_bd h2 k)
theorem elim_get {h : Int} {k j : Nat} {lead line : List Int} (e : line.length = lead.length) (hj : j < line.length) : (elimR h k lead line).getD j 0 = (lead.getD k 0 * line.getD j 0 - line.getD k 0 * lead.getD j 0).fdiv h := by
  unfold elimR
  have hj' : j < lead.length := by omega
  simp only [List.getD_eq_getElem?_getD, List.getElem?_zipWith]
  rw [List.getElem?_eq_getElem hj, List.getElem?_eq_getElem hj']
  simp
structure BInv (n k : Nat) (A0 L : Mx) (s h : Int) : Prop where
  r : rectM n L
  sg : s = 1 ∨ s = -1
  h0 : h ≠ 0
  hb : h.natAbs < 2 ^ bB k
  bd : bdM (bB k) L
  ex : ∃ A : Ff, s * hF n A = detN n A0 ∧ h = hF k A ∧ ∀ i j, k ≤ i → i < n → k ≤ j → j < n → ent L i j = mF k A i j
theorem binv_start {n : Nat} (hn : sz1 n) {L : Mx} (h : rectM n L) (hb : bdM 1000 L) : BInv n 0 L L 1 1 :=
  ⟨h, .inl rfl, by decide, by decide, hb, ent L, by rw [det_ent hn h]; grind, rfl, fun _ _ _ _ _ _ => rfl⟩
theorem binv_end {n : Nat} {A0 L : Mx} {s h : Int} (b : BInv n n A0 L s h) : s * h = detN n A0 := by
  obtain ⟨A, e1, e2, _⟩ := b.ex
  rw [e2, e1]
theorem binv_zero {n k : Nat} (hn : sz1 n) (hk : k < n) {A0 L : Mx} {s h : Int} (b : BInv n k A0 L s h) (z : ∀ i, k ≤ i → i < n → ent L i k = 0) : detN n A0 = 0 := by
  obtain ⟨A, e1, e2, e3⟩ := b.ex
  rw [← e1, hF_zero hn hk (e2 ▸ b.h0) (fun i h1 h2 => by rw [← e3 i k h1 h2 (Nat.le_refl _) hk]; exact z i h1 h2)]
  grind
def swL (k p : Nat) (L : Mx) : Mx := (L.set k (L.getD p [])).set p (L.getD k [])
theorem getD_set {α : Type} {l : List α} {i j : Nat} {x d : α} (hi : i < l.length) : (l.set i x).getD j d = if i = j then x else l.getD j d := by
  simp only [List.getD_eq_getElem?_getD, List.getElem?_set]
  split
  · simp [hi]
  · rfl
theorem sw_get {n k p : Nat} {L : Mx} (h : L.length = n) (hk : k < n) (hp : p < n) (i : Nat) : (swL k p L).getD i [] = L.getD (if i = k then p else if i = p then k else i) [] := by
  unfold swL
  rw [getD_set (by simp; omega), getD_set (by omega)]
  by_cases e1 : p = i
  · subst e1
    rw [if_pos rfl]
    by_cases e2 : p = k
    · subst e2; simp
    · rw [if_neg e2, if_pos rfl]
  · rw [if_neg e1]
    by_cases e2 : k = i
    · subst e2; simp
    · rw [if_neg e2, if_neg (fun e => e2 e.symm), if_neg (fun e => e1 e.symm)]
theorem getD_mem {n : Nat} {L : Mx} (h : L.length = n) {i : Nat} (hi : i < n) : L.getD i [] ∈ L := by
  rw [List.getD_eq_getElem?_getD, List.getElem?_eq_getElem (by omega)]
  exact List.getElem_mem _
theorem sw_mem {n k p : Nat} {L : Mx} (h : L.length = n) (hk : k < n) (hp : p < n) {r : List Int} (hr : r ∈ swL k p L) : r ∈ L := by
  unfold swL at hr
  rcases List.mem_or_eq_of_mem_set hr with hr | rfl
  · rcases List.mem_or_eq_of_mem_set hr with hr | rfl
    · exact hr
    · exact getD_mem h hp
  · exact getD_mem h hk
theorem binv_swap {n k p : Nat} (hn : sz1 n) {A0 L : Mx} {s h : Int} (b : BInv n k A0 L s h) (hk : k < p) (hp : p < n) : BInv n k A0 (swL k p L) (0 - s) h := by
  have hl := b.r.1
  obtain ⟨A, e1, e2, e3⟩ := b.ex
  have n4 : n ≤ 4 := by unfold sz1 sz at hn; omega
  refine ⟨⟨by unfold swL; simpa using hl, fun r hr => b.r.2 r (sw_mem hl (by omega) hp hr)⟩, ?_, b.h0, b.hb, fun r hr => b.bd r (sw_mem hl (by omega) hp hr), swF k p A, ?_, ?_, fun i j h1 h2 h3 h4 => ?_⟩
  · rcases b.sg with rfl | rfl
    · exact .inr rfl
    · exact .inl rfl
  · rw [hF_neg hn hk hp]
    grind
  · rw [hF_sw (by omega) (by omega)]
    exact e2
  · rw [mF_sw (by omega) (by omega)]
    unfold ent
    rw [sw_get hl (by omega) hp]
    refine e3 _ j ?_ ?_ h3 h4
    · split <;> (try split) <;> omega
    · split <;> (try split) <;> omega
theorem binv_step {n k : Nat} (hn : sz1 n) (hk : k < n) {A0 L L2 : Mx} {s h : Int} (b : BInv n k A0 L s h) (hp : ent L k k ≠ 0) (hr : rectM n L2)
    (hs : ∀ i, i ≤ k → i < n → L2.getD i [] = L.getD i []) (he : ∀ i, k < i → i < n → L2.getD i [] = elimR h k (L.getD k []) (L.getD i [])) : BInv n (k + 1) A0 L2 s (ent L k k) := by
  have hl := b.r.1
  obtain ⟨A, e1, e2, e3⟩ := b.ex
  have n4 : n ≤ 4 := by unfold sz1 sz at hn; omega
  have up : ∀ {x : Int}, x.natAbs < 2 ^ bB k → x.natAbs < 2 ^ bB (k + 1) := fun h => Nat.lt_of_lt_of_le h (Nat.pow_le_pow_right (by decide) (bB_mono k))
  have row : ∀ i, i < n → (L.getD i []).length = n := fun i hi => getD_row b.r hi
  refine ⟨hr, b.sg, hp, up (ent_bd b.bd k k), fun r hr2 x hx => ?_, A, e1, e3 k k (Nat.le_refl _) hk (Nat.le_refl _) hk, fun i j h1 h2 h3 h4 => ?_⟩
  · obtain ⟨i, hi, rfl⟩ := List.mem_iff_getElem.mp hr2
    have hin : i < n := by rw [hr.1] at hi; exact hi
    have eg : L2.getD i [] = L2[i] := by rw [List.getD_eq_getElem?_getD, List.getElem?_eq_getElem hi]; rfl
    rw [← eg] at hx
    by_cases hc : i ≤ k
    · rw [hs i hc hin] at hx
      exact up (b.bd _ (getD_mem hl hin) x hx)
    · rw [he i (by omega) hin] at hx
      exact elim_rbd (b.bd _ (getD_mem hl hk)) (b.bd _ (getD_mem hl hin)) x hx
  · unfold ent
    rw [he i (by omega) h2, elim_get (by rw [row i h2, row k hk]) (by rw [row i h2]; exact h4)]
    have a1 := e3 k k (Nat.le_refl _) hk (Nat.le_refl _) hk
    have a2 := e3 i j (by omega) h2 (by omega) h4
    have a3 := e3 i k (by omega) h2 (Nat.le_refl _) hk
    have a4 := e3 k j (Nat.le_refl _) hk (by omega) h4
    unfold ent at a1 a2 a3 a4
    rw [a1, a2, a3, a4, mF_step (by omega), e2]
    exact Int.mul_fdiv_cancel_left _ (e2 ▸ b.h0)
/-! bounds -/
def detB (n : Nat) : Nat := 1010 * n + 1
theorem abs_sum : ∀ (c : Nat) (B : Nat) (f : Int → Nat → Int) (l : List (Int × Nat)) (a : Int), (∀ p ∈ l, (f p.1 p.2).natAbs ≤ B) → l.length ≤ c → (l.foldl (fun acc p => if p.2 % 2 = 1 then acc - f p.1 p.2 else acc + f p.1 p.2) a).natAbs ≤ a.natAbs + c * B
  | _, _, _, [], a, _, _ => by simp
  | 0, _, _, _ :: _, _, _, h => by simp at h
  | c + 1, B, f, p :: l, a, h, hl => by
    rw [List.foldl_cons]
    have b := h p List.mem_cons_self
    have ih := fun a => abs_sum c B f l a (fun q hq => h q (List.mem_cons_of_mem _ hq)) (by simpa using hl)
    refine Nat.le_trans (ih _) ?_
    rw [Nat.add_mul]
    split <;> omega
theorem bd_tail {b : Nat} {A : Mx} (h : bdM b A) (i : Nat) : bdM b (A.tail.map (·.eraseIdx i)) := by
  intro r hr x hx
  obtain ⟨q, hq, rfl⟩ := List.mem_map.mp hr
  exact h q (List.mem_of_mem_tail hq) x (List.mem_of_mem_eraseIdx hx)
theorem rect_tail {n : Nat} {A : Mx} (h : rectM (n + 1) A) {i : Nat} (hi : i < n + 1) : rectM n (A.tail.map (·.eraseIdx i)) := by
  refine ⟨by simp [h.1], fun r hr => ?_⟩
  obtain ⟨q, hq, rfl⟩ := List.mem_map.mp hr
  have := h.2 q (List.mem_of_mem_tail hq)
  rw [List.length_eraseIdx, if_pos (by omega), this]
  rfl
theorem det_bd : ∀ {n : Nat} {A : Mx}, n ≤ 4 → rectM n A → bdM 1000 A → (detN n A).natAbs < 2 ^ detB n
  | 0, A, _, _, _ => by show (1 : Int).natAbs < _; decide
  | n + 1, A, h4, h, hb => by
    have hh : (A.headD []).length = n + 1 ∧ ∀ x ∈ A.headD [], x.natAbs < 2 ^ 1000 := by
      cases A with
      | nil => simp [rectM] at h
      | cons r A => exact ⟨h.2 r (by simp), hb r (by simp)⟩
    unfold detN
    refine Nat.lt_of_le_of_lt (abs_sum 4 (2 ^ (1000 + detB n)) (fun x i => x * detN n (A.tail.map (·.eraseIdx i))) _ 0 (fun p hp => ?_) (by rw [List.length_zipIdx]; omega)) ?_
    · have hp' := List.mem_zipIdx hp
      have i := det_bd (n := n) (by omega) (rect_tail h (i := p.2) (by omega)) (bd_tail hb p.2)
      have x : p.1.natAbs < 2 ^ 1000 := by
        obtain ⟨_, _, e⟩ := hp'
        rw [e]
        exact hh.2 _ (List.getElem_mem _)
      show (p.1 * detN n (A.tail.map (·.eraseIdx p.2))).natAbs ≤ _
      rw [Int.natAbs_mul, Nat.pow_add]
      exact Nat.mul_le_mul (Nat.le_of_lt x) (Nat.le_of_lt i)
    · have e : 2 ^ detB (n + 1) = 2 ^ 10 * 2 ^ (1000 + detB n) := by rw [← Nat.pow_add]; congr 1; unfold detB; omega
      rw [e]
      have : 0 < 2 ^ (1000 + detB n) := Nat.pow_pos (by decide)
      simp only [Int.natAbs_zero]
      omega

/-! ### what the defs promise -/
theorem at0 {α : Type} (x : α) (xs : List α) : atI (x :: xs) 0 = some x := atI_nat (xs := x :: xs) (j := 0) rfl
theorem at1 {α : Type} (x y : α) (xs : List α) : atI (x :: y :: xs) 1 = some y := atI_nat (xs := x :: y :: xs) (j := 1) rfl
def isW : D → Bool
  | .int _ => true
  | _ => false
def isI : D → Bool
  | .int i => decide (-1000000000000000000000000000000000000000000000000000000000000 < i) && decide (i < 1000000000000000000000000000000000000000000000000000000000000)
  | _ => false
abbrev rT (v : List Int) : D := .tup (v.map D.int)
abbrev rL (v : List Int) : D := .lst (v.map D.int)
abbrev mT (A : Mx) : D := .tup (A.map rT)
abbrev mL (A : Mx) : D := .lst (A.map rL)
/-- rows, whichever way they are told -/
def isMx (d : D) (A : Mx) : Prop := d = mT A ∨ d = mL A
def cl1 (d : D) : Bool := d.noScr && (match d with | .tup xs => xs.all D.noScr && decide (xs.length ≤ 1000) | _ => true)
def cl2 (d : D) : Bool := d.noScr && (match d with | .tup xs => xs.all cl1 && decide (xs.length ≤ 1000) | _ => true)
def rowB (n : Nat) (d : D) : Bool := match d with | .tup xs => decide (xs.length = n) && xs.all isI | _ => false
def rowsB (n : Nat) (d : D) : Bool := match d with | .tup xs => decide (xs.length = n) && xs.all (rowB n) | _ => false
def rowW (n : Nat) (d : D) : Bool := match d with | .tup xs => decide (xs.length = n) && xs.all isW | _ => false
def rowsW (n : Nat) (d : D) : Bool := match d with | .tup xs => decide (xs.length = n) && xs.all (rowW n) | _ => false
def toI : D → Int
  | .int i => i
  | _ => 0
def toR : D → List Int
  | .tup xs => xs.map toI
  | _ => []
def toM : D → Mx
  | .tup xs => xs.map toR
  | _ => []
def tabB (n : Nat) (d : D) : Bool := rowsB n d && decide (turnM (toM d) = toM d)
def matB (n : Nat) (d : D) : Bool := rowsB n d && decide (detN n (toM d) = 1 ∨ detN n (toM d) = -1)
def szD (n : Nat) : Prop := sz n
def dsp : Nat → DSp
  | 0 => fun _ _ _ => False
  | m + 1 => fun _ ss K => ∃ n A d, ss = [.val d] ∧ isMx d A ∧ n ≤ m ∧ rectM n A ∧ bdM 1000 A ∧ K (.int (detN n A))
abbrev sp_determinant_of : DSp := dsp 5
def sp_is_whole : DSp := fun _ ss K => ∃ d, ss = [.val d] ∧ d.noScr = true ∧ K (.bl (isW d))
def sp_is_integer : DSp := fun _ ss K => ∃ d, ss = [.val d] ∧ d.noScr = true ∧ K (.bl (isI d))
def sp_is_row_of : DSp := fun _ ss K => ∃ (n : Nat) (d : D), ss = [.val (.int n), .val d] ∧ cl1 d = true ∧ K (.bl (rowB n d))
def sp_are_rows_of : DSp := fun _ ss K => ∃ (n : Nat) (d : D), ss = [.val (.int n), .val d] ∧ cl2 d = true ∧ K (.bl (rowsB n d))
def sp_is_even : DSp := fun _ ss K => ∃ n A, ss = [.val (mT A)] ∧ sz n ∧ rectM n A ∧ K (.bl (decide (turnM A = A)))
def sp_is_table_of : DSp := fun _ ss K => ∃ (n : Nat) (d : D), ss = [.val (.int n), .val d] ∧ sz n ∧ cl2 d = true ∧ K (.bl (tabB n d))
def sp_is_matrix_of : DSp := fun _ ss K => ∃ (n : Nat) (d : D), ss = [.val (.int n), .val d] ∧ sz n ∧ cl2 d = true ∧ K (.bl (matB n d))
def sp_require_size : DSp := fun _ ss K => ∃ (n : Nat), ss = [.val (.int n)] ∧ sz n ∧ K .non
def okV (n : Nat) (v : List Int) : Prop := v.length = n ∧ ∀ x ∈ v, isI (.int x) = true
def okM (n : Nat) (A : Mx) : Prop := rectM n A ∧ (∀ r ∈ A, ∀ x ∈ r, isI (.int x) = true)
def sp_require_row : DSp := fun _ ss K => ∃ (n : Nat) (v : List Int), ss = [.val (.int n), .val (rT v)] ∧ sz n ∧ okV n v ∧ K .non
def sp_require_matrix : DSp := fun _ ss K => ∃ (n : Nat) (A : Mx), ss = [.val (.int n), .val (mT A)] ∧ sz n ∧ okM n A ∧ pm (detN n A) 1 ∧ K .non
def sp_size_told : DSp := fun _ ss K => ∃ xs : List D, ss = [.val (.tup xs)] ∧ sz xs.length ∧ K (.int (xs.length : Nat))
def sp_without : DSp := fun _ ss K => ∃ (n : Nat) (A : Mx) (a p : Nat), ss = [.val (mT A), .val (.int a), .val (.int p)] ∧ sz n ∧ rectM n A ∧ a < n ∧ p < n ∧ K (mL ((A.eraseIdx a).map (·.eraseIdx p)))
def sp_cofactor : DSp := fun _ ss K => ∃ (n : Nat) (A : Mx) (a p : Nat), ss = [.val (mT A), .val (.int a), .val (.int p)] ∧ sz n ∧ rectM n A ∧ bdM 1000 A ∧ a < n ∧ p < n ∧ K (.int (cof n A a p))
def sp_adjoint_of : DSp := fun _ ss K => ∃ n A, ss = [.val (mT A)] ∧ sz n ∧ rectM n A ∧ bdM 1000 A ∧ K (mT (adjM n A))
def sp_turned_over : DSp := fun _ ss K => ∃ n A, ss = [.val (mT A)] ∧ sz n ∧ rectM n A ∧ K (mT (turnM A))
def bdV (b : Nat) (v : List Int) : Prop := ∀ x ∈ v, x.natAbs < 2 ^ b
def sp_product_in : DSp := fun _ ss K => ∃ n A B, ss = [.val (mT A), .val (mT B)] ∧ sz n ∧ rectM n A ∧ rectM n B ∧ bdM 10000 A ∧ bdM 10000 B ∧ K (mT (mulM A B))
def sp_dot : DSp := fun _ ss K => ∃ r c, ss = [.val (rT r), .val (rT c)] ∧ r.length ≤ 1000 ∧ bdV 10000 r ∧ bdV 10000 c ∧ K (.int (dotI r c))
def sp_unit_of : DSp := fun _ ss K => ∃ (n : Nat), ss = [.val (.int n)] ∧ sz n ∧ K (mT (unitM n))
def sp_back_in : DSp := fun _ ss K => ∃ n A, ss = [.val (mT A)] ∧ sz n ∧ rectM n A ∧ bdM 1000 A ∧ K (mT (backM n A))
def sp_row_led : DSp := fun _ ss K => ∃ n A v, ss = [.val (mT A), .val (rT v)] ∧ sz n ∧ rectM n A ∧ v.length = n ∧ bdM 10000 A ∧ bdV 10000 v ∧ K (rT (mulV A v))
/-- the first number other than 0 -/
def fstV (v : List Int) : Int := ((v.filter (· ≠ 0)).head?).getD 0
def normV (v : List Int) : List Int := if 0 < fstV v then v else v.map fun x => -x
def sqM (v : List Int) : Mx := v.map fun a => v.map fun b => a * b
def sp_row_normal : DSp := fun _ ss K => ∃ v, ss = [.val (rT v)] ∧ v.length ≤ 1000 ∧ K (rT (normV v))
def sp_square_of : DSp := fun _ ss K => ∃ v, ss = [.val (rT v)] ∧ v.length ≤ 1000 ∧ bdV 10000 v ∧ K (mT (sqM v))
def sp_is_row : DSp := fun _ ss K => ∃ (n : Nat) (d : D), ss = [.val (.int n), .val d] ∧ sz n ∧ cl1 d = true ∧ K (.bl (rowB n d))
def sp_is_table : DSp := fun _ ss K => ∃ (n : Nat) (d : D), ss = [.val (.int n), .val d] ∧ sz n ∧ cl2 d = true ∧ K (.bl (tabB n d))
def sp_is_matrix : DSp := fun _ ss K => ∃ (n : Nat) (d : D), ss = [.val (.int n), .val d] ∧ sz n ∧ cl2 d = true ∧ K (.bl (matB n d))
def sp_unit_matrix : DSp := fun _ ss K => ∃ (n : Nat), ss = [.val (.int n)] ∧ sz n ∧ K (mT (unitM n))
def sp_matrix_product : DSp := fun _ ss K => ∃ n A B, ss = [.val (mT A), .val (mT B)] ∧ sz n ∧ okM n A ∧ okM n B ∧ pm (detN n A) 1 ∧ pm (detN n B) 1 ∧ K (mT (mulM A B))
def sp_matrix_back : DSp := fun _ ss K => ∃ n A, ss = [.val (mT A)] ∧ sz n ∧ okM n A ∧ pm (detN n A) 1 ∧ K (mT (backM n A))
def sp_normal_row : DSp := fun _ ss K => ∃ n v, ss = [.val (rT v)] ∧ sz n ∧ okV n v ∧ (∃ x ∈ v, x ≠ 0) ∧ K (rT (normV v))
def sp_square : DSp := fun _ ss K => ∃ n v, ss = [.val (rT v)] ∧ sz n ∧ okV n v ∧ K (mT (sqM v))
def sp_led_row : DSp := fun _ ss K => ∃ n A v, ss = [.val (mT A), .val (rT v)] ∧ sz n ∧ okM n A ∧ pm (detN n A) 1 ∧ okV n v ∧ K (rT (mulV A v))
/-! the law's own -/
def sp_l_bag : DSn := fun _ ss K => match ss with
  | [.val (.scr ns), .val (.int i)] => 0 ≤ i ∧ i < 1000 ∧ ∀ x y z : Int, K [.int x, .int y, .int z]
  | _ => False
def sp_l_grab : DSp := fun _ ss K => ∃ n : Int, ss = [.bag, .val (.int n)] ∧ 0 < n ∧ n < 2 ^ 2000 ∧ ∀ r, 0 ≤ r → r < n → K (.int r)
def sp_l_one_of : DSp := fun _ ss K => ∃ ds : List D, ss = [.bag, .val (.lst ds)] ∧ ds ≠ [] ∧ ds.length ≤ 1000000 ∧ ∀ d ∈ ds, K d
def sp_l_mixed : DSp := fun _ ss K => ∃ ds : List D, ss = [.bag, .val (.lst ds)] ∧ ds.length ≤ 1000 ∧ ∀ es, ds.Perm es → K (.lst es)
def sp_l_size : DSp := fun _ ss K => ss = [.bag] ∧ ∀ n : Nat, sz n → K (.int n)
def sp_l_number : DSp := fun _ ss K => ∃ h : Int, ss = [.bag, .val (.int h)] ∧ 0 ≤ h ∧ h < 2 ^ 1000 ∧ ∀ r, -h ≤ r → r ≤ h → K (.int r)
def sp_l_some_row : DSp := fun _ ss K => ∃ (n : Nat) (h : Int), ss = [.bag, .val (.int n), .val (.int h)] ∧ sz n ∧ 1 ≤ h ∧ h < 2 ^ 1000 ∧ ∀ v : List Int, v.length = n → (∀ x ∈ v, -h ≤ x ∧ x ≤ h) → (∃ x ∈ v, x ≠ 0) → K (rT v)
def sp_l_some_table : DSp := fun _ ss K => ∃ (n : Nat) (h : Int), ss = [.bag, .val (.int n), .val (.int h)] ∧ sz n ∧ 1 ≤ h ∧ h < 2 ^ 1000 ∧ ∀ A : Mx, rectM n A → (∀ r ∈ A, ∀ x ∈ r, -h ≤ x ∧ x ≤ h) → turnM A = A → K (mT A)
def sp_l_matrix : DSp := fun _ ss K => ∃ (n m : Nat), ss = [.bag, .val (.int n), .val (.int m)] ∧ sz n ∧ m ≤ 5 ∧ ∀ A : Mx, Good n A → (∀ r ∈ A, ∀ x ∈ r, x.natAbs ≤ 243) → K (mT A)
def sp_l_turned : DSp := fun _ ss K => ∃ n A, ss = [.val (mT A)] ∧ sz n ∧ rectM n A ∧ K (mT (turnM A))
def sp_l_row_led : DSp := fun _ ss K => ∃ n A v, ss = [.val (mT A), .val (rT v)] ∧ sz n ∧ rectM n A ∧ v.length = n ∧ bdM 10000 A ∧ bdV 10000 v ∧ K (rT (mulV A v))
def sp_l_product : DSp := fun _ ss K => ∃ n A B, ss = [.val (mT A), .val (mT B)] ∧ sz n ∧ rectM n A ∧ rectM n B ∧ bdM 10000 A ∧ bdM 10000 B ∧ K (mT (mulM A B))
/-- rows, whichever of three ways they are told -/
def isMy (d : D) (A : Mx) : Prop := d = mT A ∨ d = mL A ∨ d = .lst (A.map rT)
def sp_l_determinant : DSp := fun _ ss K => ∃ n A d, ss = [.val d] ∧ isMy d A ∧ sz1 n ∧ rectM n A ∧ bdM 1000 A ∧ K (.int (detN n A))
def sp_l_adjoint : DSp := fun _ ss K => ∃ n A, ss = [.val (mT A)] ∧ sz n ∧ rectM n A ∧ bdM 1000 A ∧ K (mT (adjM n A))
def sp_l_back : DSp := fun _ ss K => ∃ n A, ss = [.val (mT A)] ∧ sz n ∧ rectM n A ∧ bdM 1000 A ∧ K (mT (backM n A))
def sp_l_square : DSp := fun _ ss K => ∃ v, ss = [.val (rT v)] ∧ v.length ≤ 1000 ∧ bdV 10000 v ∧ K (mT (sqM v))
def sp_l_normal : DSp := fun _ ss K => ∃ v, ss = [.val (rT v)] ∧ v.length ≤ 1000 ∧ (∃ x ∈ v, x ≠ 0) ∧ K (rT (normV v))
def sp_l_is_whole : DSp := fun _ ss K => ∃ d, ss = [.val d] ∧ d.noScr = true ∧ K (.bl (isW d))
def sp_l_are_rows : DSp := fun _ ss K => ∃ (n : Nat) (d : D), ss = [.val (.int n), .val d] ∧ cl2 d = true ∧ K (.bl (rowsW n d))
def sp_l_is_table : DSp := fun _ ss K => ∃ (n : Nat) (A : Mx), ss = [.val (.int n), .val (mT A)] ∧ sz n ∧ rectM n A ∧ K (.bl (decide (turnM A = A)))
def sp_l_is_matrix : DSp := fun _ ss K => ∃ (n : Nat) (A : Mx), ss = [.val (.int n), .val (mT A)] ∧ sz n ∧ rectM n A ∧ bdM 1000 A ∧ K (.bl (decide (detN n A = 1 ∨ detN n A = -1)))
def sp_l_is_short : DSp := fun _ ss K => ∃ v, ss = [.val (rT v)] ∧ v.length ≤ 1000 ∧ K (.bl ((v.map D.int).all isI))
def sp_l_is_row_told : DSp := fun _ ss K => ∃ (n : Nat) (d : D), ss = [.val (.int n), .val d] ∧ n ≤ 1000 ∧ cl1 d = true ∧ D.flat 64 d = true ∧ K (.bl (rowB n d))
def sp_l_near : DSp := fun _ ss K => ∃ n A, ss = [.bag, .val (mT A)] ∧ sz n ∧ rectM n A ∧ ∀ ds : List D, ds.length ≤ 1000 → (∀ d ∈ ds, cl2 d = true) → K (.lst ds)
def sp_l_judged_right : DSp := fun _ ss K => ∃ (n : Nat), ss = [.bag, .val (.int n)] ∧ sz n ∧ K (.bl true)
def sp_l_products_right : DSp := fun _ ss K => ∃ (n : Nat), ss = [.bag, .val (.int n)] ∧ sz n ∧ K (.bl true)
/-! ### the bodies -/
def tb_is_whole : DTS := sRet (dAndV (dIsi "int" (dVar 0)) (dNotV (dIsi "bool" (dVar 0))))
def N_is_whole : List Str := ["value"]
def tb_is_integer : DTS := sRet (dAndV (dCall 1 sp_is_whole (aCons (xVar 0) (aNil))) (dChain (fCmp fun i j => decide (i < j)) (fCmp fun i j => decide (i < j)) (dNeg (dC (.int (1000000000000000000000000000000000000000000000000000000000000)))) (dVar 0) (dC (.int (1000000000000000000000000000000000000000000000000000000000000)))))
def N_is_integer : List Str := ["value"]
def tb_determinant_of (S : DSp) : DTS := sSeq (sIf (dTest (dOp fEq (dCB fLen (vCons (dVar 0) (vNil))) (dC (.int 0)))) (sRet (dC (.int 1))) (sPass)) (sSeq (sAsg (dC (.int 0)) (gN 1)) (sSeq (sFor (iEnA (vCons (dOp fIx (dVar 0) (dC (.int 0))) (vNil))) (gT 2 (gsC (gN 2) (gsC (gN 3) (gsN)))) (sIf (dTest (dOp fNe (dVar 3) (dC (.int 0)))) (sSeq (sAsg (dOp fRep (dVar 3) (dCall 1 S (aCons (xVal (dLc (iSeq (dSl (dVar 0) (oSome (dC (.int 1))) (oNone))) (gN 5) (dYes) (dLst (vStar (dSl (dVar 5) (oNone) (oSome (dVar 2))) (vStar (dSl (dVar 5) (oSome (dOp fAdd (dVar 2) (dC (.int 1)))) (oNone)) (vNil)))) [5])) (aNil)))) (gN 4)) (sAsg (dIf (dTest (dOp fEq (dOp (fInt2 (fun _ j => j ≠ 0) Int.fmod) (dVar 2) (dC (.int 2))) (dC (.int 1)))) (dOp fSub (dVar 1) (dVar 4)) (dOp fAdd (dVar 1) (dVar 4))) (gN 1))) (sPass))) (sRet (dVar 1))))
def N_determinant_of : List Str := ["lines", "found", "place", "number", "part", "line"]
def tb_is_row_of : DTS := sRet (dAndV (dIsi "tuple" (dVar 1)) (dAndV (dOp fEq (dCB fLen (vCons (dVar 1) (vNil))) (dVar 0)) (dCB (fAllB fun bs => bs.all id) (vCons (dLc (iSeq (dVar 1)) (gN 2) (dYes) (dCall 1 sp_is_integer (aCons (xVar 2) (aNil))) [2]) (vNil)))))
def N_is_row_of : List Str := ["size", "value", "one"]
def tb_are_rows_of : DTS := sRet (dAndV (dIsi "tuple" (dVar 1)) (dAndV (dOp fEq (dCB fLen (vCons (dVar 1) (vNil))) (dVar 0)) (dCB (fAllB fun bs => bs.all id) (vCons (dLc (iSeq (dVar 1)) (gN 2) (dYes) (dCall 2 sp_is_row_of (aCons (xVar 0) (aCons (xVar 2) (aNil)))) [2]) (vNil)))))
def N_are_rows_of : List Str := ["size", "value", "row"]
def tb_is_even : DTS := sRet (dCB (fAllB fun bs => bs.all id) (vCons (dLc2 (iR1 (dCB fLen (vCons (dVar 0) (vNil)))) (gN 1) (dYes) (iR1 (dVar 1)) (gN 2) (dYes) (dOp fEq (dOp fIx (dOp fIx (dVar 0) (dVar 1)) (dVar 2)) (dOp fIx (dOp fIx (dVar 0) (dVar 2)) (dVar 1))) [1, 2] [2]) (vNil)))
def N_is_even : List Str := ["rows", "i", "j"]
def tb_is_table_of : DTS := sRet (dAndV (dCall 2 sp_are_rows_of (aCons (xVar 0) (aCons (xVar 1) (aNil)))) (dCall 1 sp_is_even (aCons (xVar 1) (aNil))))
def N_is_table_of : List Str := ["size", "value"]
def tb_is_matrix_of : DTS := sRet (dAndV (dCall 2 sp_are_rows_of (aCons (xVar 0) (aCons (xVar 1) (aNil)))) (dOp (fIn false) (dCall 1 sp_determinant_of (aCons (xVar 1) (aNil))) (dTup (vCons (dC (.int 1)) (vCons (dNeg (dC (.int 1))) (vNil))))))
def N_is_matrix_of : List Str := ["size", "value"]
def tb_require_size : DTS := sIf (dOr (dNot (dTru (dCall 1 sp_is_integer (aCons (xVar 0) (aNil))))) (dTest (dOp (fIn true) (dVar 0) (dC (.tup (([2, 3, 4] : List Int).map D.int)))))) (sNever) (sPass)
def N_require_size : List Str := ["value"]
def tb_require_row : DTS := sIf (dNot (dTru (dCall 2 sp_is_row_of (aCons (xVar 0) (aCons (xVar 1) (aNil)))))) (sNever) (sPass)
def N_require_row : List Str := ["size", "value"]
def tb_require_matrix : DTS := sIf (dNot (dTru (dCall 2 sp_is_matrix_of (aCons (xVar 0) (aCons (xVar 1) (aNil)))))) (sNever) (sPass)
def N_require_matrix : List Str := ["size", "value"]
def tb_size_told : DTS := sRet (dIf (dAnd (dTru (dIsi "tuple" (dVar 0))) (dTest (dOp (fIn false) (dCB fLen (vCons (dVar 0) (vNil))) (dC (.tup (([2, 3, 4] : List Int).map D.int)))))) (dCB fLen (vCons (dVar 0) (vNil))) (dNeg (dC (.int 1))))
def N_size_told : List Str := ["value"]
def tb_without : DTS := sRet (dLc (iEnA (vCons (dVar 0) (vNil))) (gT 2 (gsC (gN 3) (gsC (gN 4) (gsN)))) (dTest (dOp fNe (dVar 3) (dVar 1))) (dLst (vStar (dSl (dVar 4) (oNone) (oSome (dVar 2))) (vStar (dSl (dVar 4) (oSome (dOp fAdd (dVar 2) (dC (.int 1)))) (oNone)) (vNil)))) [3, 4])
def N_without : List Str := ["rows", "at", "place", "index", "row"]
def tb_cofactor : DTS := sSeq (sAsg (dCall 1 sp_determinant_of (aCons (xVal (dCall 3 sp_without (aCons (xVar 0) (aCons (xVar 1) (aCons (xVar 2) (aNil)))))) (aNil))) (gN 3)) (sRet (dIf (dTest (dOp fEq (dOp (fInt2 (fun _ j => j ≠ 0) Int.fmod) (dOp fAdd (dVar 1) (dVar 2)) (dC (.int 2))) (dC (.int 1)))) (dNeg (dVar 3)) (dVar 3)))
def N_cofactor : List Str := ["rows", "at", "place", "part"]
def tb_adjoint_of : DTS := sSeq (sAsg (dCB fLen (vCons (dVar 0) (vNil))) (gN 1)) (sRet (dCB fTuple (vCons (dLc (iR1 (dVar 1)) (gN 2) (dYes) (dCB fTuple (vCons (dLc (iR1 (dVar 1)) (gN 3) (dYes) (dCall 3 sp_cofactor (aCons (xVar 0) (aCons (xVar 3) (aCons (xVar 2) (aNil))))) [3]) (vNil))) [2]) (vNil))))
def N_adjoint_of : List Str := ["rows", "size", "place", "at"]
def tb_turned_over : DTS := sRet (dCB fTuple (vCons (dLc (iR1 (dCB fLen (vCons (dOp fIx (dVar 0) (dC (.int 0))) (vNil)))) (gN 1) (dYes) (dCB fTuple (vCons (dLc (iSeq (dVar 0)) (gN 2) (dYes) (dOp fIx (dVar 2) (dVar 1)) [2]) (vNil))) [1]) (vNil)))
def N_turned_over : List Str := ["rows", "at", "row"]
def tb_product_in : DTS := sSeq (sAsg (dCall 1 sp_turned_over (aCons (xVar 1) (aNil))) (gN 2)) (sRet (dCB fTuple (vCons (dLc (iSeq (dVar 0)) (gN 3) (dYes) (dCB fTuple (vCons (dLc (iSeq (dVar 2)) (gN 4) (dYes) (dCall 2 sp_dot (aCons (xVar 3) (aCons (xVar 4) (aNil)))) [4]) (vNil))) [3]) (vNil))))
def N_product_in : List Str := ["one", "other", "columns", "row", "column"]
def tb_dot : DTS := sRet (dCB fSum (vCons (dLc (iZp (vCons (dVar 0) (vCons (dVar 1) (vNil)))) (gT 2 (gsC (gN 2) (gsC (gN 3) (gsN)))) (dYes) (dOp fRep (dVar 2) (dVar 3)) [2, 3]) (vNil)))
def N_dot : List Str := ["one", "other", "left", "right"]
def tb_unit_of : DTS := sRet (dCB fTuple (vCons (dLc (iR1 (dVar 0)) (gN 1) (dYes) (dCB fTuple (vCons (dLc (iR1 (dVar 0)) (gN 2) (dYes) (dCB fInt (vCons (dOp fEq (dVar 1) (dVar 2)) (vNil))) [2]) (vNil))) [1]) (vNil)))
def N_unit_of : List Str := ["size", "at", "place"]
def tb_back_in : DTS := sSeq (sAsg (dCall 1 sp_determinant_of (aCons (xVar 0) (aNil))) (gN 1)) (sRet (dCB fTuple (vCons (dLc (iSeq (dCall 1 sp_adjoint_of (aCons (xVar 0) (aNil)))) (gN 2) (dYes) (dCB fTuple (vCons (dLc (iSeq (dVar 2)) (gN 3) (dYes) (dOp fRep (dVar 1) (dVar 3)) [3]) (vNil))) [2]) (vNil))))
def N_back_in : List Str := ["matrix", "sign", "row", "number"]
def tb_row_led : DTS := sRet (dCB fTuple (vCons (dLc (iSeq (dVar 0)) (gN 2) (dYes) (dCall 2 sp_dot (aCons (xVar 2) (aCons (xVar 1) (aNil)))) [2]) (vNil)))
def N_row_led : List Str := ["matrix", "row", "line"]
def tb_row_normal : DTS := sSeq (sAsg (dOp fIx (dLst (vStar (dLc (iSeq (dVar 0)) (gN 2) (dTest (dOp fNe (dVar 2) (dC (.int 0)))) (dVar 2) [2]) (vCons (dC (.int 0)) (vNil)))) (dC (.int 0))) (gN 1)) (sRet (dIf (dTest (dOp (fCmp fun i j => decide (j < i)) (dVar 1) (dC (.int 0)))) (dCB fTuple (vCons (dVar 0) (vNil))) (dCB fTuple (vCons (dLc (iSeq (dVar 0)) (gN 2) (dYes) (dNeg (dVar 2)) [2]) (vNil)))))
def N_row_normal : List Str := ["row", "first", "number"]
def tb_square_of : DTS := sRet (dCB fTuple (vCons (dLc (iSeq (dVar 0)) (gN 1) (dYes) (dCB fTuple (vCons (dLc (iSeq (dVar 0)) (gN 2) (dYes) (dOp fRep (dVar 1) (dVar 2)) [2]) (vNil))) [1]) (vNil)))
def N_square_of : List Str := ["row", "one", "other"]
def tb_is_row : DTS := sSeq (sDrop (dCall 1 sp_require_size (aCons (xVar 0) (aNil)))) (sRet (dCall 2 sp_is_row_of (aCons (xVar 0) (aCons (xVar 1) (aNil)))))
def N_is_row : List Str := ["size", "value"]
def tb_is_table : DTS := sSeq (sDrop (dCall 1 sp_require_size (aCons (xVar 0) (aNil)))) (sRet (dCall 2 sp_is_table_of (aCons (xVar 0) (aCons (xVar 1) (aNil)))))
def N_is_table : List Str := ["size", "value"]
def tb_is_matrix : DTS := sSeq (sDrop (dCall 1 sp_require_size (aCons (xVar 0) (aNil)))) (sRet (dCall 2 sp_is_matrix_of (aCons (xVar 0) (aCons (xVar 1) (aNil)))))
def N_is_matrix : List Str := ["size", "value"]
def tb_unit_matrix : DTS := sSeq (sDrop (dCall 1 sp_require_size (aCons (xVar 0) (aNil)))) (sRet (dCall 1 sp_unit_of (aCons (xVar 0) (aNil))))
def N_unit_matrix : List Str := ["size"]
def tb_matrix_product : DTS := sSeq (sAsg (dCall 1 sp_size_told (aCons (xVar 0) (aNil))) (gN 2)) (sSeq (sDrop (dCall 2 sp_require_matrix (aCons (xVar 2) (aCons (xVar 0) (aNil))))) (sSeq (sDrop (dCall 2 sp_require_matrix (aCons (xVar 2) (aCons (xVar 1) (aNil))))) (sRet (dCall 2 sp_product_in (aCons (xVar 0) (aCons (xVar 1) (aNil)))))))
def N_matrix_product : List Str := ["one", "other", "size"]
def tb_matrix_back : DTS := sSeq (sDrop (dCall 2 sp_require_matrix (aCons (xVal (dCall 1 sp_size_told (aCons (xVar 0) (aNil)))) (aCons (xVar 0) (aNil))))) (sRet (dCall 1 sp_back_in (aCons (xVar 0) (aNil))))
def N_matrix_back : List Str := ["matrix"]
def tb_normal_row : DTS := sSeq (sDrop (dCall 2 sp_require_row (aCons (xVal (dCall 1 sp_size_told (aCons (xVar 0) (aNil)))) (aCons (xVar 0) (aNil))))) (sSeq (sIf (dNot (dTru (dCB fAnyT (vCons (dVar 0) (vNil))))) (sNever) (sPass)) (sRet (dCall 1 sp_row_normal (aCons (xVar 0) (aNil)))))
def N_normal_row : List Str := ["row"]
def tb_square : DTS := sSeq (sDrop (dCall 2 sp_require_row (aCons (xVal (dCall 1 sp_size_told (aCons (xVar 0) (aNil)))) (aCons (xVar 0) (aNil))))) (sRet (dCall 1 sp_square_of (aCons (xVar 0) (aNil))))
def N_square : List Str := ["row"]
def tb_led_row : DTS := sSeq (sAsg (dCall 1 sp_size_told (aCons (xVar 0) (aNil))) (gN 2)) (sSeq (sDrop (dCall 2 sp_require_matrix (aCons (xVar 2) (aCons (xVar 0) (aNil))))) (sSeq (sDrop (dCall 2 sp_require_row (aCons (xVar 2) (aCons (xVar 1) (aNil))))) (sRet (dCall 2 sp_row_led (aCons (xVar 0) (aCons (xVar 1) (aNil)))))))
def N_led_row : List Str := ["matrix", "row", "size"]
def tb_l_bag : DTS := sSeq (sAsg (dIf (dTest (dOp (fCmp fun i j => decide (i < j)) (dVar 1) (dCB fLen (vCons (dVar 0) (vNil))))) (dOp fIx (dVar 0) (dVar 1)) (dOp fAdd (dOp fAdd (dCB fSum (vCons (dSl (dVar 0) (oNone) (oSome (dC (.int 1)))) (vNil))) (dOp fRep (dC (.int 151)) (dVar 1))) (dC (.int 89)))) (gN 2)) (sSeq (sAsg (dOp (fInt2 (fun _ j => j ≠ 0) Int.fmod) (dCB fInt (vCons (dCB fAbs (vCons (dVar 2) (vNil))) (vNil))) (dOp (fInt2 PowOk fun i j => i ^ j.toNat) (dOp (fInt2 PowOk fun i j => i ^ j.toNat) (dC (.int 10)) (dC (.int 45))) (dC (.int 13)))) (gN 3)) (sSeq (sAsg (dOp fAdd (dOp fAdd (dOp fAdd (dOp fRep (dOp (fInt2 (fun _ j => j ≠ 0) Int.fmod) (dCB fInt (vCons (dVar 3) (vNil))) (dC (.int 2305843009213693723))) (dC (.int 1000457))) (dOp fRep (dC (.int 9029)) (dVar 1))) (dOp fRep (dC (.int 53)) (dCB fInt (vCons (dOp (fCmp fun i j => decide (i < j)) (dVar 2) (dC (.int 0))) (vNil))))) (dC (.int 37))) (gN 4)) (sRetL (vCons (dCB (f2I fun i j => if j > i then j else i) (vCons (dC (.int 0)) (vCons (dOp fSub (dVar 3) (dOp (fInt2 PowOk fun i j => i ^ j.toNat) (dC (.int 10)) (dC (.int 18)))) (vNil)))) (vCons (dOp (fInt2 (fun _ j => j ≠ 0) Int.fmod) (dCB fInt (vCons (dVar 4) (vNil))) (dC (.int 2305843009213693951))) (vCons (dC (.int 0)) (vNil)))))))
def N_l_bag : List Str := ["_law_script", "_law_spot", "_law_cell", "_law_great", "_law_mixed_here"]
def tb_l_grab : DTS := sSeq (sIf (dTest (dOp (fCmp fun i j => decide (j < i)) (dBag 0 0) (dC (.int 0)))) (sSeq (sAsg (dOp (fInt2 (fun _ j => j ≠ 0) Int.fmod) (dCB fInt (vCons (dBag 0 0) (vNil))) (dVar 1)) (gN 4)) (sSeq (sBag 0 0 (dOp (fInt2 DivOk Int.fdiv) (dBag 0 0) (dVar 1))) (sRet (dVar 4)))) (sPass)) (sSeq (sBag 0 2 (dOp fAdd (dBag 0 2) (dC (.int 1)))) (sSeq (sAsg (dOp (fInt2 (fun _ j => j ≠ 0) Int.fmod) (dCB fInt (vCons (dOp fAdd (dBag 0 1) (dOp fRep (dC (.int 1048637)) (dBag 0 2))) (vNil))) (dC (.int 2305843009213693951))) (gN 2)) (sSeq (sAsg (dOp fAdd (dOp fRep (dOp (fInt2 (fun _ j => j ≠ 0) Int.fmod) (dCB fInt (vCons (dOp fRep (dVar 2) (dVar 2)) (vNil))) (dC (.int 2305843009213693723))) (dVar 2)) (dOp fRep (dC (.int 8161)) (dBag 0 2))) (gN 3)) (sRet (dOp (fInt2 (fun _ j => j ≠ 0) Int.fmod) (dCB fInt (vCons (dOp (fInt2 DivOk Int.fdiv) (dOp (fInt2 (fun _ j => j ≠ 0) Int.fmod) (dCB fInt (vCons (dVar 3) (vNil))) (dC (.int 2305843009213693921))) (dC (.int 16384))) (vNil))) (dVar 1))))))
def N_l_grab : List Str := ["_law_bag_here", "_law_total", "_law_one", "_law_two", "_law_found"]
def tb_l_one_of : DTS := sRet (dOp fIx (dVar 1) (dCall 2 sp_l_grab (aCons (xVar 0) (aCons (xVal (dCB fLen (vCons (dVar 1) (vNil)))) (aNil)))))
def N_l_one_of : List Str := ["_law_bag_here", "_law_items"]
def tb_l_mixed : DTS := sSeq (sOwn 2 (nList (vCons (dVar 1) (vNil)))) (sRetPop 2 (iR1 (dCB fLen (vCons (dVar 1) (vNil)))) (gN 3) (dCall 2 sp_l_grab (aCons (xVar 0) (aCons (xVal (dOwnLen 2)) (aNil)))) [3])
def N_l_mixed : List Str := ["_law_bag_here", "_law_items", "_law_waits", "_law_turn"]
def tb_l_size : DTS := sRet (dCall 2 sp_l_one_of (aCons (xVar 0) (aCons (xVal (dLst (vCons (dC (.int 2)) (vCons (dC (.int 3)) (vCons (dC (.int 2)) (vCons (dC (.int 3)) (vCons (dC (.int 2)) (vCons (dC (.int 3)) (vCons (dC (.int 4)) (vNil)))))))))) (aNil))))
def N_l_size : List Str := ["_law_bag_here"]
def tb_l_number : DTS := sRet (dOp fSub (dCall 2 sp_l_grab (aCons (xVar 0) (aCons (xVal (dOp fAdd (dOp fRep (dC (.int 2)) (dVar 1)) (dC (.int 1)))) (aNil)))) (dVar 1))
def N_l_number : List Str := ["_law_bag_here", "_law_spread"]
def tb_l_some_row : DTS := sSeq (sAsg (dCB fTuple (vCons (dLc (iR1 (dVar 1)) (gN 4) (dYes) (dCall 2 sp_l_number (aCons (xVar 0) (aCons (xVar 2) (aNil)))) [4]) (vNil))) (gN 3)) (sRet (dIf (dOr (dTest (dOp (fCmp fun i j => decide (j < i)) (dCB fMax (vCons (dVar 3) (vNil))) (dC (.int 0)))) (dTest (dOp (fCmp fun i j => decide (i < j)) (dCB fMin (vCons (dVar 3) (vNil))) (dC (.int 0))))) (dVar 3) (dOp fAdd (dTup (vCons (dC (.int 1)) (vNil))) (dOp fRep (dTup (vCons (dC (.int 0)) (vNil))) (dOp fSub (dVar 1) (dC (.int 1)))))))
def N_l_some_row : List Str := ["_law_bag_here", "_law_size_here", "_law_spread", "_law_found", "_law_turn"]
def tb_l_some_table : DTS := sSeq (sAsg (dLc (iR1 (dVar 1)) (gN 4) (dYes) (dLc (iR1 (dVar 1)) (gN 5) (dYes) (dCall 2 sp_l_number (aCons (xVar 0) (aCons (xVar 2) (aNil)))) [5]) [4]) (gN 3)) (sRet (dCB fTuple (vCons (dLc (iR1 (dVar 1)) (gN 6) (dYes) (dCB fTuple (vCons (dLc (iR1 (dVar 1)) (gN 7) (dYes) (dOp fIx (dOp fIx (dVar 3) (dCB (f2I fun i j => if j < i then j else i) (vCons (dVar 6) (vCons (dVar 7) (vNil))))) (dCB (f2I fun i j => if j > i then j else i) (vCons (dVar 6) (vCons (dVar 7) (vNil))))) [7]) (vNil))) [6]) (vNil))))
def N_l_some_table : List Str := ["_law_bag_here", "_law_size_here", "_law_spread", "_law_numbers", "_law_line", "_law_turn", "_law_at", "_law_to"]
def tb_l_matrix : DTS := sSeq (sOwn 3 (nLc (iR1 (dVar 1)) (gN 6) (dYes) (dLc (iR1 (dVar 1)) (gN 7) (dYes) (dCB fInt (vCons (dOp fEq (dVar 6) (dVar 7)) (vNil))) [7]) [6])) (sSeq (sFor (iR1 (dCall 2 sp_l_grab (aCons (xVar 0) (aCons (xVal (dOp fAdd (dVar 2) (dC (.int 1)))) (aNil))))) (gN 4) (sSeq (sAsg (dCall 2 sp_l_grab (aCons (xVar 0) (aCons (xVar 1) (aNil)))) (gN 6)) (sSeq (sAsg (dOp (fInt2 (fun _ j => j ≠ 0) Int.fmod) (dCB fInt (vCons (dOp fAdd (dOp fAdd (dVar 6) (dC (.int 1))) (dCall 2 sp_l_grab (aCons (xVar 0) (aCons (xVal (dOp fSub (dVar 1) (dC (.int 1)))) (aNil))))) (vNil))) (dVar 1)) (gN 7)) (sSeq (sAsg (dCall 2 sp_l_one_of (aCons (xVar 0) (aCons (xVal (dLst (vCons (dC (.int 1)) (vCons (dNeg (dC (.int 1))) (vCons (dC (.int 1)) (vCons (dNeg (dC (.int 1))) (vCons (dC (.int 2)) (vNil)))))))) (aNil)))) (gN 8)) (sOwnSet 3 (dVar 6) (dLc (iZp (vCons (dOwnIx 3 (dVar 6)) (vCons (dOwnIx 3 (dVar 7)) (vNil)))) (gT 2 (gsC (gN 9) (gsC (gN 10) (gsN)))) (dYes) (dOp fAdd (dVar 9) (dOp fRep (dVar 8) (dVar 10))) [9, 10])))))) (sFreeze 3 (sSeq (sAsg (dLc (iR1 (dVar 1)) (gN 4) (dYes) (dOp fSub (dC (.int 1)) (dOp fRep (dC (.int 2)) (dCall 2 sp_l_grab (aCons (xVar 0) (aCons (xVal (dC (.int 2))) (aNil)))))) [4]) (gN 5)) (sRet (dCB fTuple (vCons (dLc (iZp (vCons (dVar 5) (vCons (dCall 2 sp_l_mixed (aCons (xVar 0) (aCons (xVar 3) (aNil)))) (vNil)))) (gT 2 (gsC (gN 11) (gsC (gN 12) (gsN)))) (dYes) (dCB fTuple (vCons (dLc (iSeq (dVar 12)) (gN 13) (dYes) (dOp fRep (dVar 11) (dVar 13)) [13]) (vNil))) [11, 12]) (vNil)))))))
def N_l_matrix : List Str := ["_law_bag_here", "_law_size_here", "_law_most", "_law_rows", "_law_turn", "_law_signs", "_law_at", "_law_to", "_law_many", "_law_one", "_law_other", "_law_sign", "_law_row", "_law_number_here"]
def tb_l_turned : DTS := sRet (dCB fTuple (vCons (dLc (iR1 (dCB fLen (vCons (dOp fIx (dVar 0) (dC (.int 0))) (vNil)))) (gN 1) (dYes) (dCB fTuple (vCons (dLc (iSeq (dVar 0)) (gN 2) (dYes) (dOp fIx (dVar 2) (dVar 1)) [2]) (vNil))) [1]) (vNil)))
def N_l_turned : List Str := ["_law_rows", "_law_at", "_law_row"]
def tb_l_row_led : DTS := sRet (dCB fTuple (vCons (dLc (iSeq (dVar 0)) (gN 2) (dYes) (dCB fSum (vCons (dLc (iZp (vCons (dVar 2) (vCons (dVar 1) (vNil)))) (gT 2 (gsC (gN 3) (gsC (gN 4) (gsN)))) (dYes) (dOp fRep (dVar 3) (dVar 4)) [3, 4]) (vNil))) [2]) (vNil)))
def N_l_row_led : List Str := ["_law_matrix_here", "_law_row", "_law_line", "_law_number_here", "_law_there"]
def tb_l_product : DTS := sSeq (sAsg (dCall 1 sp_l_turned (aCons (xVar 1) (aNil))) (gN 2)) (sRet (dCB fTuple (vCons (dLc (iSeq (dVar 0)) (gN 3) (dYes) (dCall 2 sp_l_row_led (aCons (xVar 2) (aCons (xVar 3) (aNil)))) [3]) (vNil))))
def N_l_product : List Str := ["_law_one", "_law_other", "_law_columns", "_law_row"]
def tb_l_determinant : DTS := sSeq (sTupO 2 3 4 (nLc (iSeq (dVar 0)) (gN 9) (dYes) (dCB fList (vCons (dVar 9) (vNil))) [9]) (dC (.int 1)) (dC (.int 1))) (sSeq (sFor (iR1 (dOwnLen 2)) (gN 1) (sSeq (sAsg (dLc (iR2 (vCons (dVar 1) (vCons (dOwnLen 2) (vNil)))) (gN 7) (dTest (dOp fNe (dOp fIx (dOwnIx 2 (dVar 7)) (dVar 1)) (dC (.int 0)))) (dVar 7) [7]) (gN 5)) (sSeq (sIf (dTest (dOp fEq (dVar 5) (dLst (vNil)))) (sRet (dC (.int 0))) (sPass)) (sSeq (sIf (dTest (dOp fNe (dOp fIx (dVar 5) (dC (.int 0))) (dVar 1))) (sSeq (sOwnPair 2 (dVar 1) (dOp fIx (dVar 5) (dC (.int 0))) (dOwnIx 2 (dOp fIx (dVar 5) (dC (.int 0)))) (dOwnIx 2 (dVar 1))) (sAsg (dOp fSub (dC (.int 0)) (dVar 3)) (gN 3))) (sPass)) (sSeq (sAsg (dOwnIx 2 (dVar 1)) (gN 6)) (sSeq (sFor (iR2 (vCons (dOp fAdd (dVar 1) (dC (.int 1))) (vCons (dOwnLen 2) (vNil)))) (gN 7) (sSeq (sAsg (dOwnIx 2 (dVar 7)) (gN 8)) (sOwnSet 2 (dVar 7) (dLc (iZp (vCons (dVar 8) (vCons (dVar 6) (vNil)))) (gT 2 (gsC (gN 10) (gsC (gN 11) (gsN)))) (dYes) (dOp (fInt2 DivOk Int.fdiv) (dOp fSub (dOp fRep (dOp fIx (dVar 6) (dVar 1)) (dVar 10)) (dOp fRep (dOp fIx (dVar 8) (dVar 1)) (dVar 11))) (dVar 4)) [10, 11])))) (sAsg (dOp fIx (dVar 6) (dVar 1)) (gN 4)))))))) (sFreeze 2 (sRet (dOp fRep (dVar 3) (dVar 4)))))
def N_l_determinant : List Str := ["_law_rows", "_law_at", "_law_left", "_law_sign", "_law_head", "_law_some", "_law_lead", "_law_place", "_law_line", "_law_row", "_law_one", "_law_other"]
def tb_l_adjoint : DTS := sSeq (sParVO 2 3 (dCB fLen (vCons (dVar 0) (vNil))) (nLst (vNil))) (sSeq (sFor (iR1 (dVar 2)) (gN 1) (sSeq (sOwn 4 (nLst (vNil))) (sSeq (sFor (iR1 (dVar 2)) (gN 5) (sSeq (sAsg (dLc (iEnA (vCons (dVar 0) (vNil))) (gT 2 (gsC (gN 8) (gsC (gN 9) (gsN)))) (dTest (dOp fNe (dVar 8) (dVar 5))) (dLc (iR1 (dVar 2)) (gN 7) (dTest (dOp fNe (dVar 7) (dVar 1))) (dOp fIx (dVar 9) (dVar 7)) [7]) [8, 9]) (gN 6)) (sOwnApp 4 (dOp fRep (dCall 1 sp_l_determinant (aCons (xVar 6) (aNil))) (dOp fSub (dC (.int 1)) (dOp fRep (dC (.int 2)) (dOp (fInt2 (fun _ j => j ≠ 0) Int.fmod) (dOp fAdd (dVar 1) (dVar 5)) (dC (.int 2))))))))) (sFreeze 4 (sOwnApp 3 (dCB fTuple (vCons (dVar 4) (vNil)))))))) (sFreeze 3 (sRet (dCB fTuple (vCons (dVar 3) (vNil))))))
def N_l_adjoint : List Str := ["_law_table", "_law_at", "_law_size_here", "_law_found", "_law_line", "_law_place", "_law_left", "_law_spot", "_law_index", "_law_row"]
def tb_l_back : DTS := sSeq (sAsg (dCall 1 sp_l_determinant (aCons (xVar 0) (aNil))) (gN 1)) (sRet (dCB fTuple (vCons (dLc (iSeq (dCall 1 sp_l_adjoint (aCons (xVar 0) (aNil)))) (gN 2) (dYes) (dCB fTuple (vCons (dLc (iSeq (dVar 2)) (gN 3) (dYes) (dOp fRep (dVar 1) (dVar 3)) [3]) (vNil))) [2]) (vNil))))
def N_l_back : List Str := ["_law_matrix_here", "_law_sign", "_law_row", "_law_number_here"]
def tb_l_square : DTS := sRet (dCB fTuple (vCons (dLc (iSeq (dVar 0)) (gN 1) (dYes) (dCB fTuple (vCons (dLc (iSeq (dVar 0)) (gN 2) (dYes) (dOp fRep (dVar 1) (dVar 2)) [2]) (vNil))) [1]) (vNil)))
def N_l_square : List Str := ["_law_row", "_law_one", "_law_other"]
def tb_l_normal : DTS := sSeq (sAsg (dOp fIx (dLc (iSeq (dVar 0)) (gN 2) (dTest (dOp fNe (dVar 2) (dC (.int 0)))) (dVar 2) [2]) (dC (.int 0))) (gN 1)) (sRet (dIf (dTest (dOp (fCmp fun i j => decide (j < i)) (dVar 1) (dC (.int 0)))) (dCB fTuple (vCons (dVar 0) (vNil))) (dCB fTuple (vCons (dLc (iSeq (dVar 0)) (gN 2) (dYes) (dOp fSub (dC (.int 0)) (dVar 2)) [2]) (vNil)))))
def N_l_normal : List Str := ["_law_row", "_law_first", "_law_number_here"]
def tb_l_is_whole : DTS := sRet (dAndV (dIsi "int" (dVar 0)) (dNotV (dIsi "bool" (dVar 0))))
def N_l_is_whole : List Str := ["_law_value"]
def tb_l_are_rows : DTS := sSeq (sIf (dOr (dNot (dTru (dIsi "tuple" (dVar 1)))) (dTest (dOp fNe (dCB fLen (vCons (dVar 1) (vNil))) (dVar 0)))) (sRet (dC (.bl false))) (sPass)) (sSeq (sFor (iSeq (dVar 1)) (gN 2) (sIf (dOr (dNot (dTru (dIsi "tuple" (dVar 2)))) (dOr (dTest (dOp fNe (dCB fLen (vCons (dVar 2) (vNil))) (dVar 0))) (dTest (dOp fNe (dLc (iSeq (dVar 2)) (gN 3) (dNot (dTru (dCall 1 sp_l_is_whole (aCons (xVar 3) (aNil))))) (dC (.int 1)) [3]) (dLst (vNil)))))) (sRet (dC (.bl false))) (sPass))) (sRet (dC (.bl true))))
def N_l_are_rows : List Str := ["_law_size_here", "_law_value", "_law_row", "_law_number_here"]
def tb_l_is_table : DTS := sRet (dAndV (dCall 2 sp_l_are_rows (aCons (xVar 0) (aCons (xVar 1) (aNil)))) (dOp fEq (dCall 1 sp_l_turned (aCons (xVar 1) (aNil))) (dVar 1)))
def N_l_is_table : List Str := ["_law_size_here", "_law_value"]
def tb_l_is_matrix : DTS := sRet (dAndV (dCall 2 sp_l_are_rows (aCons (xVar 0) (aCons (xVar 1) (aNil)))) (dOp (fIn false) (dCall 1 sp_l_determinant (aCons (xVar 1) (aNil))) (dTup (vCons (dC (.int 1)) (vCons (dNeg (dC (.int 1))) (vNil))))))
def N_l_is_matrix : List Str := ["_law_size_here", "_law_value"]
def tb_l_is_short : DTS := sRet (dOp fEq (dLc (iSeq (dVar 0)) (gN 1) (dTest (dOp (fCmp fun i j => decide (j ≤ i)) (dCB fAbs (vCons (dVar 1) (vNil))) (dOp (fInt2 PowOk fun i j => i ^ j.toNat) (dC (.int 10)) (dC (.int 60))))) (dVar 1) [1]) (dLst (vNil)))
def N_l_is_short : List Str := ["_law_row", "_law_number_here"]
def tb_l_is_row_told : DTS := sSeq (sIf (dOr (dNot (dTru (dIsi "tuple" (dVar 1)))) (dOr (dTest (dOp fNe (dCB fLen (vCons (dVar 1) (vNil))) (dVar 0))) (dTest (dOp fNe (dLc (iSeq (dVar 1)) (gN 2) (dNot (dTru (dCall 1 sp_l_is_whole (aCons (xVar 2) (aNil))))) (dVar 2) [2]) (dLst (vNil)))))) (sRet (dC (.bl false))) (sPass)) (sRet (dCall 1 sp_l_is_short (aCons (xVar 1) (aNil))))
def N_l_is_row_told : List Str := ["_law_size_here", "_law_value", "_law_one"]
def tb_l_near : DTS := sSeq (sPar3 4 5 6 (dCB fLen (vCons (dVar 1) (vNil))) (dCall 2 sp_l_grab (aCons (xVar 0) (aCons (xVal (dCB fLen (vCons (dVar 1) (vNil)))) (aNil)))) (dCall 2 sp_l_grab (aCons (xVar 0) (aCons (xVal (dCB fLen (vCons (dVar 1) (vNil)))) (aNil))))) (sSeq (sOwn 2 (nLst (vCons (dVar 1) (vCons (dCB fList (vCons (dVar 1) (vNil))) (vCons (dSl (dVar 1) (oSome (dC (.int 1))) (oNone)) (vCons (dOp fAdd (dVar 1) (dSl (dVar 1) (oNone) (oSome (dC (.int 1))))) (vCons (dCall 1 sp_l_turned (aCons (xVar 1) (aNil))) (vCons (dOp fRep (dTup (vCons (dOp fIx (dVar 1) (dC (.int 0))) (vNil))) (dVar 4)) (vCons (dC .non) (vCons (dTup (vNil)) (vCons (dC (.int 7)) (vCons (dC (.str "rows")) (vCons (dDic0) (vNil)))))))))))))) (sSeq (sFor (iSeq (dTup (vCons (dOp fAdd (dOp fIx (dOp fIx (dVar 1) (dVar 5)) (dVar 6)) (dC (.int 1))) (vCons (dNeg (dOp fIx (dOp fIx (dVar 1) (dVar 5)) (dVar 6))) (vCons (dC (.bl true)) (vCons (dC .non) (vCons (dC (.str "1")) (vCons (dOp (fInt2 PowOk fun i j => i ^ j.toNat) (dC (.int 10)) (dC (.int 60))) (vCons (dNeg (dOp (fInt2 PowOk fun i j => i ^ j.toNat) (dC (.int 10)) (dC (.int 60)))) (vCons (dOp fSub (dOp (fInt2 PowOk fun i j => i ^ j.toNat) (dC (.int 10)) (dC (.int 60))) (dC (.int 1))) (vNil))))))))))) (gN 3) (sOwnApp 2 (dOp fAdd (dOp fAdd (dSl (dVar 1) (oNone) (oSome (dVar 5))) (dTup (vCons (dOp fAdd (dOp fAdd (dSl (dOp fIx (dVar 1) (dVar 5)) (oNone) (oSome (dVar 6))) (dTup (vCons (dVar 3) (vNil)))) (dSl (dOp fIx (dVar 1) (dVar 5)) (oSome (dOp fAdd (dVar 6) (dC (.int 1)))) (oNone))) (vNil)))) (dSl (dVar 1) (oSome (dOp fAdd (dVar 5) (dC (.int 1)))) (oNone))))) (sFreeze 2 (sRet (dOp fAdd (dVar 2) (dLst (vCons (dOp fAdd (dOp fAdd (dSl (dVar 1) (oNone) (oSome (dVar 5))) (dTup (vCons (dCB fList (vCons (dOp fIx (dVar 1) (dVar 5)) (vNil))) (vNil)))) (dSl (dVar 1) (oSome (dOp fAdd (dVar 5) (dC (.int 1)))) (oNone))) (vCons (dOp fAdd (dOp fAdd (dSl (dVar 1) (oNone) (oSome (dVar 5))) (dTup (vCons (dOp fAdd (dOp fIx (dVar 1) (dVar 5)) (dTup (vCons (dC (.int 0)) (vNil)))) (vNil)))) (dSl (dVar 1) (oSome (dOp fAdd (dVar 5) (dC (.int 1)))) (oNone))) (vNil)))))))))
def N_l_near : List Str := ["_law_bag_here", "_law_rows", "_law_found", "_law_entry", "_law_size_here", "_law_at", "_law_to"]
def tb_l_judged_right : DTS := sSeq (sPar 5 6 (dCall 3 sp_l_some_table (aCons (xVar 0) (aCons (xVar 1) (aCons (xVal (dC (.int 3))) (aNil))))) (dCall 3 sp_l_matrix (aCons (xVar 0) (aCons (xVar 1) (aCons (xVal (dC (.int 5))) (aNil)))))) (sSeq (sFor (iSeq (dOp fAdd (dCall 2 sp_l_near (aCons (xVar 0) (aCons (xVar 5) (aNil)))) (dCall 2 sp_l_near (aCons (xVar 0) (aCons (xVar 6) (aNil)))))) (gN 2) (sFor (iSeq (dTup (vCons (dC (.int 2)) (vCons (dC (.int 3)) (vCons (dC (.int 4)) (vNil)))))) (gN 7) (sSeq (sAsg (dCall 2 sp_l_are_rows (aCons (xVar 7) (aCons (xVar 2) (aNil)))) (gN 8)) (sSeq (sAsg (dAndV (dVar 8) (dOp fEq (dLc (iSeq (dVar 2)) (gN 3) (dNot (dTru (dCall 1 sp_l_is_short (aCons (xVar 3) (aNil))))) (dVar 3) [3]) (dLst (vNil)))) (gN 9)) (sSeq (sIf (dTest (dOp fNe (dCB fRepr (vCons (dCall 2 sp_is_table (aCons (xVar 7) (aCons (xVar 2) (aNil)))) (vNil))) (dCB fRepr (vCons (dAndV (dVar 9) (dCall 2 sp_l_is_table (aCons (xVar 7) (aCons (xVar 2) (aNil))))) (vNil))))) (sRet (dC (.bl false))) (sPass)) (sIf (dTest (dOp fNe (dCB fRepr (vCons (dCall 2 sp_is_matrix (aCons (xVar 7) (aCons (xVar 2) (aNil)))) (vNil))) (dCB fRepr (vCons (dAndV (dVar 9) (dCall 2 sp_l_is_matrix (aCons (xVar 7) (aCons (xVar 2) (aNil))))) (vNil))))) (sRet (dC (.bl false))) (sPass))))))) (sSeq (sAsg (dCall 3 sp_l_some_row (aCons (xVar 0) (aCons (xVar 1) (aCons (xVal (dC (.int 9))) (aNil))))) (gN 3)) (sSeq (sAsg (dLst (vCons (dVar 3) (vCons (dOp fRep (dTup (vCons (dC (.int 0)) (vNil))) (dVar 1)) (vCons (dCB fList (vCons (dVar 3) (vNil))) (vCons (dOp fAdd (dVar 3) (dTup (vCons (dC (.int 1)) (vNil)))) (vCons (dSl (dVar 3) (oSome (dC (.int 1))) (oNone)) (vCons (dOp fAdd (dTup (vCons (dC (.bl true)) (vNil))) (dSl (dVar 3) (oSome (dC (.int 1))) (oNone))) (vCons (dOp fAdd (dTup (vCons (dC .non) (vNil))) (dSl (dVar 3) (oSome (dC (.int 1))) (oNone))) (vCons (dOp fAdd (dTup (vCons (dC (.str "1")) (vNil))) (dSl (dVar 3) (oSome (dC (.int 1))) (oNone))) (vCons (dC .non) (vCons (dC (.int 3)) (vCons (dC (.str "")) (vNil))))))))))))) (gN 4)) (sSeq (sFor (iSeq (dOp fAdd (dVar 4) (dLst (vCons (dOp fAdd (dTup (vCons (dOp (fInt2 PowOk fun i j => i ^ j.toNat) (dC (.int 10)) (dC (.int 60))) (vNil))) (dSl (dVar 3) (oSome (dC (.int 1))) (oNone))) (vCons (dOp fAdd (dTup (vCons (dOp fSub (dC (.int 1)) (dOp (fInt2 PowOk fun i j => i ^ j.toNat) (dC (.int 10)) (dC (.int 60)))) (vNil))) (dSl (dVar 3) (oSome (dC (.int 1))) (oNone))) (vCons (dTup (vCons (dVar 3) (vNil))) (vCons (dC (.str "12")) (vNil)))))))) (gN 2) (sIf (dTest (dOp fNe (dLc (iSeq (dTup (vCons (dC (.int 2)) (vCons (dC (.int 3)) (vCons (dC (.int 4)) (vNil)))))) (gN 7) (dTest (dOp fNe (dCB fRepr (vCons (dCall 2 sp_is_row (aCons (xVar 7) (aCons (xVar 2) (aNil)))) (vNil))) (dCB fRepr (vCons (dCall 2 sp_l_is_row_told (aCons (xVar 7) (aCons (xVar 2) (aNil)))) (vNil))))) (dVar 7) [7]) (dLst (vNil)))) (sRet (dC (.bl false))) (sPass))) (sRet (dC (.bl true)))))))
def N_l_judged_right : List Str := ["_law_bag_here", "_law_size_here", "_law_value", "_law_row", "_law_odd", "_law_table", "_law_matrix_here", "_law_other", "_law_is_square", "_law_is_small"]
def tb_l_products_right : DTS := sSeq (sPar3 5 6 7 (dCall 3 sp_l_matrix (aCons (xVar 0) (aCons (xVar 1) (aCons (xVal (dC (.int 4))) (aNil))))) (dCall 3 sp_l_matrix (aCons (xVar 0) (aCons (xVar 1) (aCons (xVal (dC (.int 4))) (aNil))))) (dCall 3 sp_l_matrix (aCons (xVar 0) (aCons (xVar 1) (aCons (xVal (dC (.int 3))) (aNil)))))) (sSeq (sAsg (dCB fTuple (vCons (dLc (iR1 (dVar 1)) (gN 10) (dYes) (dCB fTuple (vCons (dLc (iR1 (dVar 1)) (gN 12) (dYes) (dCB fInt (vCons (dOp fEq (dVar 10) (dVar 12)) (vNil))) [12]) (vNil))) [10]) (vNil))) (gN 2)) (sSeq (sPar 8 9 (dCall 2 sp_matrix_product (aCons (xVar 5) (aCons (xVar 6) (aNil)))) (dCall 1 sp_matrix_back (aCons (xVar 5) (aNil)))) (sSeq (sIf (dOr (dTest (dOp fNe (dVar 8) (dCall 2 sp_l_product (aCons (xVar 5) (aCons (xVar 6) (aNil)))))) (dOr (dTest (dOp fNe (dVar 9) (dCall 1 sp_l_back (aCons (xVar 5) (aNil))))) (dTest (dOp fNe (dCall 1 sp_unit_matrix (aCons (xVar 1) (aNil))) (dVar 2))))) (sRet (dC (.bl false))) (sPass)) (sSeq (sIf (dOr (dTest (dOp fNe (dCall 2 sp_matrix_product (aCons (xVar 5) (aCons (xVar 9) (aNil)))) (dVar 2))) (dOr (dTest (dOp fNe (dCall 2 sp_matrix_product (aCons (xVar 9) (aCons (xVar 5) (aNil)))) (dVar 2))) (dTest (dOp fNe (dCall 1 sp_matrix_back (aCons (xVar 9) (aNil))) (dVar 5))))) (sRet (dC (.bl false))) (sPass)) (sSeq (sIf (dTest (dOp fNe (dCall 2 sp_matrix_product (aCons (xVar 8) (aCons (xVar 7) (aNil)))) (dCall 2 sp_matrix_product (aCons (xVar 5) (aCons (xVal (dCall 2 sp_matrix_product (aCons (xVar 6) (aCons (xVar 7) (aNil))))) (aNil)))))) (sRet (dC (.bl false))) (sPass)) (sSeq (sAsg (dCall 3 sp_l_some_row (aCons (xVar 0) (aCons (xVar 1) (aCons (xVal (dOp (fInt2 PowOk fun i j => i ^ j.toNat) (dC (.int 10)) (dC (.int 9)))) (aNil))))) (gN 3)) (sSeq (sIf (dOr (dTest (dOp fNe (dCall 2 sp_led_row (aCons (xVar 5) (aCons (xVar 3) (aNil)))) (dCall 2 sp_l_row_led (aCons (xVar 5) (aCons (xVar 3) (aNil)))))) (dTest (dOp fNe (dCall 2 sp_led_row (aCons (xVar 8) (aCons (xVar 3) (aNil)))) (dCall 2 sp_led_row (aCons (xVar 5) (aCons (xVal (dCall 2 sp_led_row (aCons (xVar 6) (aCons (xVar 3) (aNil))))) (aNil))))))) (sRet (dC (.bl false))) (sPass)) (sSeq (sAsg (dCB fTuple (vCons (dLc (iSeq (dVar 3)) (gN 11) (dYes) (dNeg (dVar 11)) [11]) (vNil))) (gN 4)) (sSeq (sIf (dOr (dTest (dOp fNe (dCall 1 sp_normal_row (aCons (xVar 3) (aNil))) (dCall 1 sp_l_normal (aCons (xVar 3) (aNil))))) (dOr (dTest (dOp fNe (dCall 1 sp_normal_row (aCons (xVar 4) (aNil))) (dCall 1 sp_normal_row (aCons (xVar 3) (aNil))))) (dTest (dOp fNe (dCall 2 sp_led_row (aCons (xVar 9) (aCons (xVal (dCall 2 sp_led_row (aCons (xVar 5) (aCons (xVar 3) (aNil))))) (aNil)))) (dVar 3))))) (sRet (dC (.bl false))) (sPass)) (sRet (dAndV (dOp fEq (dCall 1 sp_square (aCons (xVar 3) (aNil))) (dCall 1 sp_l_square (aCons (xVar 3) (aNil)))) (dAndV (dOp fEq (dCall 1 sp_square (aCons (xVar 4) (aNil))) (dCall 1 sp_square (aCons (xVar 3) (aNil)))) (dOp fEq (dCall 2 sp_led_row (aCons (xVar 5) (aCons (xVal (dOp fRep (dTup (vCons (dC (.int 0)) (vNil))) (dVar 1))) (aNil)))) (dOp fRep (dTup (vCons (dC (.int 0)) (vNil))) (dVar 1)))))))))))))))
def N_l_products_right : List Str := ["_law_bag_here", "_law_size_here", "_law_plain", "_law_row", "_law_minus", "_law_one", "_law_other", "_law_third", "_law_both", "_law_back_here", "_law_at", "_law_number_here", "_law_to"]

local macro_rules | `(tactic| walk_at "pd") => `(tactic| simp only [sSeq, sAsg, sPar, sRet, sRetN, sDrop, sPass, sIf, sRetL, sBag, sBagCall, gN, gT, gsC, gsN, dVar, xVar, xVal, dC, dOp, dNeg, dTest, dTru, dAnd, dOr, dNot, dAndV, dOrV, dNotV, dIf, dChain, vNil, vCons, aNil, aCons, dTup, dLst, dDic0, dCB, dCall, dIsi, dSl, oNone, oSome, dBag,  fAdd, fSub, fInt2, fCmp, fEq, fNe, fIn, fIsN, fRep, fLen, fAbs, f2I, fInt, fGcd, fTuple, fList, fIx, iSeq, iR1, dLc, dYes, endsOf, endsN, start0, List.map, List.append, List.replicate, List.length, List.cons_append, List.nil_append, List.set, List.getElem?_cons_zero, List.getElem?_cons_succ, Nat.reduceSub, Nat.reduceAdd, List.length_cons, List.length_nil, Nat.sub_self,  decide_eq_true_eq, decide_eq_false_iff_not, Bool.false_eq_true, reduceCtorEq, true_and, and_true, if_true, if_false, forall_const, false_implies, implies_true, true_implies, List.getElem?_nil, at0, at1, sFor, wipeD, Bool.not_eq_true', Bool.not_eq_false', Bool.not_true, Bool.not_false, iR2, iZp, iEnA, vStar, nLst, nLc, nList, sPar3, sOwn, sTupO, sParVO, sParOV, sOwnSet, sOwnApp, sOwnPair, putD, dOwnIx, dOwnLen, sFreeze, dLc2, fSl, fMax, fMin, fAnyT, List.map_nil, List.map_cons, Int.toNat_natCast])
local macro_rules | `(tactic| walk_at "go") => `(tactic| repeat' (first | rfl | assumption | (refine And.intro ?_ ?_) | (intro e; first | (exact absurd e (by decide)) | (cases e; done) | (exact absurd e (by omega)) | skip)))
local macro_rules | `(tactic| walk_at "ps") => `(tactic| simp only [sp_is_whole, sp_is_integer, sp_is_row_of, sp_are_rows_of, sp_is_even, sp_is_table_of, sp_is_matrix_of, sp_require_size, sp_require_row, sp_require_matrix, sp_size_told, sp_without, sp_cofactor, sp_adjoint_of, sp_turned_over, sp_product_in, sp_dot, sp_unit_of, sp_back_in, sp_row_led, sp_row_normal, sp_square_of, sp_is_row, sp_is_table, sp_is_matrix, sp_unit_matrix, sp_matrix_product, sp_matrix_back, sp_normal_row, sp_square, sp_led_row, sp_l_bag, sp_l_grab, sp_l_one_of, sp_l_mixed, sp_l_size, sp_l_number, sp_l_some_row, sp_l_some_table, sp_l_matrix, sp_l_turned, sp_l_row_led, sp_l_product, sp_l_determinant, sp_l_adjoint, sp_l_back, sp_l_square, sp_l_normal, sp_l_is_whole, sp_l_are_rows, sp_l_is_table, sp_l_is_matrix, sp_l_is_short, sp_l_is_row_told, sp_l_near, sp_l_judged_right, sp_l_products_right, sSeq, sAsg, sPar, sRet, sRetN, sDrop, sPass, sIf, sRetL, sBag, sBagCall, gN, gT, gsC, gsN, dVar, xVar, xVal, dC, dOp, dNeg, dTest, dTru, dAnd, dOr, dNot, dAndV, dOrV, dNotV, dIf, dChain, vNil, vCons, aNil, aCons, dTup, dLst, dDic0, dCB, dCall, dIsi, dSl, oNone, oSome, dBag,  fAdd, fSub, fInt2, fCmp, fEq, fNe, fIn, fIsN, fRep, fLen, fAbs, f2I, fInt, fGcd, fTuple, fList, fIx, iSeq, iR1, dLc, dYes, endsOf, endsN, start0, List.map, List.append, List.replicate, List.length, List.cons_append, List.nil_append, List.set, List.getElem?_cons_zero, List.getElem?_cons_succ, Nat.reduceSub, Nat.reduceAdd, List.length_cons, List.length_nil, Nat.sub_self,  decide_eq_true_eq, decide_eq_false_iff_not, Bool.false_eq_true, reduceCtorEq, true_and, and_true, if_true, if_false, forall_const, false_implies, implies_true, true_implies, List.getElem?_nil, at0, at1, sFor, wipeD, Bool.not_eq_true', Bool.not_eq_false', Bool.not_true, Bool.not_false, iR2, iZp, iEnA, vStar, nLst, nLc, nList, sPar3, sOwn, sTupO, sParVO, sParOV, sOwnSet, sOwnApp, sOwnPair, putD, dOwnIx, dOwnLen, sFreeze, dLc2, fSl, fMax, fMin, fAnyT, List.map_nil, List.map_cons, Int.toNat_natCast])
theorem lcD_y {G : DTG} {Te : DTE} {ρ : Ev} {K : D → Prop} {d : D} {ds acc : List D} : lcD G dYes Te ρ K (d :: ds) acc = G d ρ fun ρ1 => Te noE ρ1 fun y => lcD G dYes Te ρ K ds (acc ++ [y]) := by
  conv => lhs; unfold lcD
  simp [dYes]
theorem lcD_m {α : Type} {G : DTG} {Te : DTE} {ρ : Ev} {K : D → Prop} (g f : α → D) : ∀ (l : List α) (acc : List D), (∀ a ∈ l, ∀ k : D → Prop, k (f a) → G (g a) ρ fun ρ1 => Te noE ρ1 k) → K (.lst (acc ++ l.map f)) → lcD G dYes Te ρ K (l.map g) acc
  | [], acc, _, h => by unfold lcD; simpa using h
  | a :: l, acc, ht, h => by
    show lcD G dYes Te ρ K (g a :: l.map g) acc
    rw [lcD_y]
    refine ht a List.mem_cons_self _ ?_
    exact lcD_m g f l (acc ++ [f a]) (fun e he => ht e (List.mem_cons_of_mem _ he)) (by simpa using h)
theorem lcD_f {α : Type} {G : DTG} {Tt : DTT} {Te : DTE} {ρ : Ev} {K : D → Prop} (g : α → D) (f : α → Option D) : ∀ (l : List α) (acc : List D), (∀ a ∈ l, ∀ (k1 : D → Prop) (k0 : Prop), (∀ e, f a = some e → k1 e) → (f a = none → k0) →
    G (g a) ρ fun ρ1 => Tt noE ρ1 fun b => (b = true → Te noE ρ1 k1) ∧ (b = false → k0)) → K (.lst (acc ++ l.filterMap f)) → lcD G Tt Te ρ K (l.map g) acc
  | [], acc, _, h => by unfold lcD; simpa using h
  | a :: l, acc, ht, h => by
    show lcD G Tt Te ρ K (g a :: l.map g) acc
    unfold lcD
    refine ht a List.mem_cons_self _ _ (fun e he => ?_) (fun he => ?_)
    · exact lcD_f g f l (acc ++ [e]) (fun e he => ht e (List.mem_cons_of_mem _ he)) (by simpa [List.filterMap_cons, he] using h)
    · exact lcD_f g f l acc (fun e he => ht e (List.mem_cons_of_mem _ he)) (by simpa [List.filterMap_cons, he] using h)
/-- a comprehension of tests under all -/
theorem lcD_b {α : Type} {G : DTG} {Te : DTE} {ρ : Ev} {K : D → Prop} {q : List Bool → Bool} (g : α → D) (p : α → Bool) (l : List α) (h : ∀ a ∈ l, ∀ k : D → Prop, k (.bl (p a)) → G (g a) ρ fun ρ1 => Te noE ρ1 k) (hk : K (.bl (q (l.map p)))) :
    lcD G dYes Te ρ (fun d => fAllB q [d] K) (l.map g) [] := by
  refine lcD_m g (fun a => .bl (p a)) l [] h ?_
  have e : blsD (l.map fun a => D.bl (p a)) = some (l.map p) := by
    have := bls_map (l.map p)
    rw [List.map_map] at this
    exact this
  show (match blsD (l.map fun a => D.bl (p a)) with | some ns => K (.bl (q ns)) | none => False)
  rw [e]
  exact hk
theorem map_id' {α : Type} (l : List α) : l = l.map fun x => x := (List.map_id l).symm
theorem all_id {α : Type} (p : α → Bool) (l : List α) : (l.map p).all id = l.all p := by rw [List.all_map]; rfl
theorem rng0 (n : Nat) : rngD 0 n = (List.range n).map fun i : Nat => D.int (i : Nat) := by
  unfold rngD
  exact List.map_congr_left fun i _ => by rw [Int.zero_add]
theorem cl1_no {d : D} (h : cl1 d = true) : d.noScr = true := (Bool.and_eq_true_iff.mp h).1
theorem cl1_tup {xs : List D} (h : cl1 (.tup xs) = true) : (∀ d ∈ xs, d.noScr = true) ∧ xs.length ≤ 1000 := by
  have := (Bool.and_eq_true_iff.mp (Bool.and_eq_true_iff.mp h).2)
  exact ⟨List.all_eq_true.mp this.1, of_decide_eq_true this.2⟩
theorem cl2_no {d : D} (h : cl2 d = true) : d.noScr = true := (Bool.and_eq_true_iff.mp h).1
theorem cl2_tup {xs : List D} (h : cl2 (.tup xs) = true) : (∀ d ∈ xs, cl1 d = true) ∧ xs.length ≤ 1000 := by
  have := (Bool.and_eq_true_iff.mp (Bool.and_eq_true_iff.mp h).2)
  exact ⟨List.all_eq_true.mp this.1, of_decide_eq_true this.2⟩
theorem rd_is_whole : ∀ Ed ss Kd, ss.length = 1 → sp_is_whole Ed ss Kd → tb_is_whole (endsOf Kd noE) (start0 N_is_whole ss) := by
  rintro Ed ss Kd hl ⟨d, rfl, h1, h⟩
  unfold tb_is_whole N_is_whole
  walk_at "pd"
  refine ⟨h1, fun e => ⟨h1, ?_⟩, fun e => ?_⟩
  · cases d <;> first | exact h | (simp [D.tyn, isiB] at e; done)
  · cases d <;> first | exact h | (simp [D.tyn, isiB] at e; done)
theorem rd_l_is_whole : ∀ Ed ss Kd, ss.length = 1 → sp_l_is_whole Ed ss Kd → tb_l_is_whole (endsOf Kd noE) (start0 N_l_is_whole ss) := rd_is_whole
theorem rd_is_integer : ∀ Ed ss Kd, ss.length = 1 → sp_is_integer Ed ss Kd → tb_is_integer (endsOf Kd noE) (start0 N_is_integer ss) := by
  rintro Ed ss Kd hl ⟨d, rfl, h1, h⟩
  unfold tb_is_integer N_is_integer
  walk_at "ps"
  refine ⟨d, rfl, h1, fun e => ?_, fun e => ?_⟩
  · cases d <;> first
      | (simp [isW] at e; done)
      | skip
    rename_i i
    refine ⟨fun a => ?_, fun a => ?_⟩
    · have z : isI (.int i) = decide (i < 1000000000000000000000000000000000000000000000000000000000000) := by simp [isI, a]
      rw [z] at h
      exact h
    · have z : isI (.int i) = false := by simp [isI, a]
      rw [z] at h
      exact h
  · have z : isI d = false := by cases d <;> first | rfl | (simp [isW] at e; done)
    rw [z] at h
    exact h
theorem rd_is_row_of : ∀ Ed ss Kd, ss.length = 2 → sp_is_row_of Ed ss Kd → tb_is_row_of (endsOf Kd noE) (start0 N_is_row_of ss) := by
  rintro Ed ss Kd hl ⟨n, d, rfl, h1, h⟩
  unfold tb_is_row_of N_is_row_of
  walk_at "ps"
  refine ⟨cl1_no h1, fun e => ?_, fun e => ?_⟩
  · cases d with
    | tup xs =>
      obtain ⟨c1, c2⟩ := cl1_tup h1
      walk_at "ps"
      refine ⟨fun e => ⟨by omega, ?_⟩, fun e => ?_⟩
      · rw [map_id' xs]
        refine lcD_b (fun x => x) isI xs (fun d hd k hk => ?_) ?_
        · walk_at "ps"
          exact ⟨d, rfl, c1 d hd, hk⟩
        · rw [all_id]
          have : rowB n (.tup xs) = xs.all isI := by simp [rowB, show xs.length = n by omega]
          rwa [this] at h
      · have : rowB n (.tup xs) = false := by simp [rowB, show xs.length ≠ n by omega]
        rwa [this] at h
    | _ => simp [D.tyn, isiB] at e
  · cases d with
    | tup xs => simp [D.tyn, isiB] at e
    | _ => exact h
theorem rd_are_rows_of : ∀ Ed ss Kd, ss.length = 2 → sp_are_rows_of Ed ss Kd → tb_are_rows_of (endsOf Kd noE) (start0 N_are_rows_of ss) := by
  rintro Ed ss Kd hl ⟨n, d, rfl, h1, h⟩
  unfold tb_are_rows_of N_are_rows_of
  walk_at "ps"
  refine ⟨cl2_no h1, fun e => ?_, fun e => ?_⟩
  · cases d with
    | tup xs =>
      obtain ⟨c1, c2⟩ := cl2_tup h1
      walk_at "ps"
      refine ⟨fun e => ⟨by omega, ?_⟩, fun e => ?_⟩
      · rw [map_id' xs]
        refine lcD_b (fun x => x) (rowB n) xs (fun d hd k hk => ?_) ?_
        · walk_at "ps"
          exact ⟨n, d, rfl, c1 d hd, hk⟩
        · rw [all_id]
          have : rowsB n (.tup xs) = xs.all (rowB n) := by simp [rowsB, show xs.length = n by omega]
          rwa [this] at h
      · have : rowsB n (.tup xs) = false := by simp [rowsB, show xs.length ≠ n by omega]
        rwa [this] at h
    | _ => simp [D.tyn, isiB] at e
  · cases d with
    | tup xs => simp [D.tyn, isiB] at e
    | _ => exact h

theorem cut_hi {α : Type} (xs : List α) (p : Nat) (h : p ≤ xs.length) : cutD xs none (some (p : Int)) = xs.take p := by
  unfold cutD
  rw [HT.sIx_none, HT.sIx_nat, List.drop_zero, Nat.min_eq_left h, Nat.sub_zero]
theorem cut_lo {α : Type} (xs : List α) (p : Nat) (h : p ≤ xs.length) : cutD xs (some (p : Int)) none = xs.drop p := by
  unfold cutD
  rw [HT.sIx_none, HT.sIx_nat, Nat.min_eq_left h]
  exact List.take_of_length_le (by rw [List.length_drop]; omega)
theorem cut_skip {α : Type} (xs : List α) (p : Nat) (h : p < xs.length) : cutD xs none (some (p : Int)) ++ cutD xs (some ((p : Int) + 1)) none = xs.eraseIdx p := by
  rw [cut_hi xs p (by omega), show ((p : Int) + 1) = ((p + 1 : Nat) : Int) by omega, cut_lo xs (p + 1) (by omega), List.eraseIdx_eq_take_drop_succ]
theorem atI_map {α β : Type} (f : α → β) (xs : List α) (i : Int) : atI (xs.map f) i = (atI xs i).map f := by
  unfold atI
  rw [List.length_map]
  cases ixN xs.length i with
  | none => rfl
  | some j => simp
theorem atI_lt {α : Type} {xs : List α} {i : Nat} (d : α) (h : i < xs.length) : atI xs (i : Int) = some (xs.getD i d) := by
  rw [atI_nat (v := xs[i]) (List.getElem?_eq_getElem h), List.getD_eq_getElem?_getD, List.getElem?_eq_getElem h]
  rfl
theorem ixV {v : List Int} {j : Nat} (h : j < v.length) : atI (v.map D.int) (j : Int) = some (.int (v.getD j 0)) := by
  rw [atI_map, atI_lt 0 h]
  rfl
theorem ixM {n : Nat} {A : Mx} (h : rectM n A) {i : Nat} (hi : i < n) : atI (A.map rT) (i : Int) = some (rT (A.getD i [])) := by
  rw [atI_map, atI_lt [] (by rw [h.1]; exact hi)]
  rfl
theorem toM_mT (A : Mx) : toM (mT A) = A := by
  show (A.map rT).map toR = A
  rw [List.map_map]
  conv => rhs; rw [← List.map_id A]
  refine List.map_congr_left fun r _ => ?_
  show (r.map D.int).map toI = r
  rw [List.map_map]
  conv => rhs; rw [← List.map_id r]
  exact List.map_congr_left fun x _ => rfl
theorem isI_int {d : D} (h : isI d = true) : ∃ a, d = .int a := by
  cases d <;> first | (cases h; done) | exact ⟨_, rfl⟩
theorem isI_lt {a : Int} (h : isI (.int a) = true) : a.natAbs < 2 ^ 1000 := by
  have z := Bool.and_eq_true_iff.mp (show (decide _ && decide _) = true from h)
  have z1 := of_decide_eq_true z.1
  have z2 := of_decide_eq_true z.2
  have : (1000000000000000000000000000000000000000000000000000000000000 : Nat) < 2 ^ 1000 := by decide
  omega
theorem isI_of {a : Int} (h : a.natAbs < 1000000000000000000000000000000000000000000000000000000000000) : isI (.int a) = true := by
  show (decide _ && decide _) = true
  rw [Bool.and_eq_true_iff]
  exact ⟨decide_eq_true (by omega), decide_eq_true (by omega)⟩
theorem row_ints {p : D → Bool} (hp : ∀ d, p d = true → ∃ a, d = .int a) : ∀ {xs : List D}, xs.all p = true → ∃ v : List Int, xs = v.map D.int
  | [], _ => ⟨[], rfl⟩
  | x :: xs, h => by
    rw [List.all_cons, Bool.and_eq_true_iff] at h
    obtain ⟨a, rfl⟩ := hp x h.1
    obtain ⟨v, rfl⟩ := row_ints hp h.2
    exact ⟨a :: v, rfl⟩
theorem rowB_v {n : Nat} {d : D} (h : rowB n d = true) : ∃ v, d = rT v ∧ okV n v := by
  cases d <;> first | (cases h; done) | skip
  rename_i xs
  have z := Bool.and_eq_true_iff.mp (show (decide _ && _) = true from h)
  obtain ⟨v, rfl⟩ := row_ints (fun d => isI_int) z.2
  exact ⟨v, rfl, by simpa using of_decide_eq_true z.1, fun x hx => List.all_eq_true.mp z.2 _ (List.mem_map_of_mem hx)⟩
theorem rowB_of {n : Nat} {v : List Int} (h : okV n v) : rowB n (rT v) = true := by
  show (decide _ && _) = true
  rw [Bool.and_eq_true_iff]
  refine ⟨decide_eq_true (by simpa using h.1), List.all_eq_true.mpr fun d hd => ?_⟩
  obtain ⟨x, hx, rfl⟩ := List.mem_map.mp hd
  exact h.2 x hx
theorem rows_mx {n : Nat} : ∀ {xs : List D}, xs.all (rowB n) = true → ∃ A : Mx, xs = A.map rT ∧ ∀ r ∈ A, okV n r
  | [], _ => ⟨[], rfl, fun r hr => by cases hr⟩
  | x :: xs, h => by
    rw [List.all_cons, Bool.and_eq_true_iff] at h
    obtain ⟨v, rfl, hv⟩ := rowB_v h.1
    obtain ⟨A, rfl, hA⟩ := rows_mx h.2
    exact ⟨v :: A, rfl, fun r hr => by rcases List.mem_cons.mp hr with rfl | hr; exact hv; exact hA r hr⟩
theorem rowsB_mx {n : Nat} {d : D} (h : rowsB n d = true) : ∃ A, d = mT A ∧ okM n A := by
  cases d <;> first | (cases h; done) | skip
  rename_i xs
  have z := Bool.and_eq_true_iff.mp (show (decide _ && _) = true from h)
  obtain ⟨A, rfl, hA⟩ := rows_mx z.2
  exact ⟨A, rfl, ⟨by simpa using of_decide_eq_true z.1, fun r hr => (hA r hr).1⟩, fun r hr => (hA r hr).2⟩
theorem rowsB_of {n : Nat} {A : Mx} (h : okM n A) : rowsB n (mT A) = true := by
  show (decide _ && _) = true
  rw [Bool.and_eq_true_iff]
  refine ⟨decide_eq_true (by simpa using h.1.1), List.all_eq_true.mpr fun d hd => ?_⟩
  obtain ⟨r, hr, rfl⟩ := List.mem_map.mp hd
  exact rowB_of ⟨h.1.2 r hr, h.2 r hr⟩
theorem okM.bd {n : Nat} {A : Mx} (h : okM n A) : bdM 1000 A := fun r hr x hx => isI_lt (h.2 r hr x hx)
theorem cl1_rT {v : List Int} (h : v.length ≤ 1000) : cl1 (rT v) = true := by
  show (true && (((v.map D.int).all D.noScr) && decide ((v.map D.int).length ≤ 1000))) = true
  rw [Bool.true_and, Bool.and_eq_true_iff]
  refine ⟨List.all_eq_true.mpr fun d hd => ?_, decide_eq_true (by simpa using h)⟩
  obtain ⟨r, hr, rfl⟩ := List.mem_map.mp hd
  rfl
theorem sz.le {n : Nat} (h : sz n) : n ≤ 4 := by unfold sz at h; omega
theorem cl2_mT {n : Nat} {A : Mx} (hn : n ≤ 1000) (h : rectM n A) : cl2 (mT A) = true := by
  show (true && (((A.map rT).all cl1) && decide ((A.map rT).length ≤ 1000))) = true
  rw [Bool.true_and, Bool.and_eq_true_iff]
  refine ⟨List.all_eq_true.mpr fun d hd => ?_, decide_eq_true (by simpa using (h.1 ▸ hn))⟩
  obtain ⟨r, hr, rfl⟩ := List.mem_map.mp hd
  exact cl1_rT (by rw [h.2 r hr]; exact hn)
theorem lcI_m {α : Type} {G : DTG} {Te : DTE} {ρ : Ev} {K : List D → Prop} (g f : α → D) : ∀ (l : List α) (acc : List D), (∀ a ∈ l, ∀ k : D → Prop, k (f a) → G (g a) ρ fun ρ1 => Te noE ρ1 k) → K (acc ++ l.map f) → lcI G dYes Te ρ K (l.map g) acc
  | [], acc, _, h => by unfold lcI; simpa using h
  | a :: l, acc, ht, h => by
    have e : lcI G dYes Te ρ K (g a :: l.map g) acc = G (g a) ρ fun ρ1 => Te noE ρ1 fun y => lcI G dYes Te ρ K (l.map g) (acc ++ [y]) := by
      conv => lhs; unfold lcI
      simp [dYes]
    show lcI G dYes Te ρ K (g a :: l.map g) acc
    rw [e]
    refine ht a List.mem_cons_self _ ?_
    exact lcI_m g f l (acc ++ [f a]) (fun e he => ht e (List.mem_cons_of_mem _ he)) (by simpa using h)
theorem even_all {n : Nat} (hn : sz n) {A : Mx} (hA : rectM n A) : (((List.range n).flatMap fun i => (List.range i).map fun j => decide (ent A i j = ent A j i)).all id) = decide (turnM A = A) := by
  rw [Bool.eq_iff_iff, decide_eq_true_eq]
  rcases hn with rfl | rfl | rfl
  · obtain ⟨a, b, c, d, rfl⟩ := rect2 hA
    simp (config := {decide := true}) only [List.range, List.range.loop, List.flatMap_cons, List.flatMap_nil, List.map_cons, List.map_nil, List.append_nil, List.nil_append, List.cons_append, ent, turnM, List.headD_cons, List.length_cons, List.length_nil, Nat.reduceAdd, List.getD, List.getElem?_cons_zero, List.getElem?_cons_succ, Option.getD_some, List.all_cons, List.all_nil, id, Bool.and_eq_true, decide_eq_true_eq, List.cons.injEq, and_true, true_and]
    grind
  · obtain ⟨a, b, c, d, e, f, g, i, j, rfl⟩ := rect3 hA
    simp (config := {decide := true}) only [List.range, List.range.loop, List.flatMap_cons, List.flatMap_nil, List.map_cons, List.map_nil, List.append_nil, List.nil_append, List.cons_append, ent, turnM, List.headD_cons, List.length_cons, List.length_nil, Nat.reduceAdd, List.getD, List.getElem?_cons_zero, List.getElem?_cons_succ, Option.getD_some, List.all_cons, List.all_nil, id, Bool.and_eq_true, decide_eq_true_eq, List.cons.injEq, and_true, true_and]
    grind
  · obtain ⟨a, b, c, d, e, f, g, i, j, k, l, m, n, o, p, q, rfl⟩ := rect4 hA
    simp (config := {decide := true}) only [List.range, List.range.loop, List.flatMap_cons, List.flatMap_nil, List.map_cons, List.map_nil, List.append_nil, List.nil_append, List.cons_append, ent, turnM, List.headD_cons, List.length_cons, List.length_nil, Nat.reduceAdd, List.getD, List.getElem?_cons_zero, List.getElem?_cons_succ, Option.getD_some, List.all_cons, List.all_nil, id, Bool.and_eq_true, decide_eq_true_eq, List.cons.injEq, and_true, true_and]
    grind
theorem even_loop {n : Nat} (hn : sz n) {A : Mx} (hA : rectM n A) {Kd : D → Prop} : ∀ (l : List Nat) (bs : List Bool), (∀ i ∈ l, i < n) → bs.length + 4 * l.length ≤ 100 →
    Kd (.bl ((bs ++ l.flatMap fun i => (List.range i).map fun j => decide (ent A i j = ent A j i)).all id)) →
    lc2D (gN 1) dYes (iR1 (dVar 1)) (gN 2) dYes (dOp fEq (dOp fIx (dOp fIx (dVar 0) (dVar 1)) (dVar 2)) (dOp fIx (dOp fIx (dVar 0) (dVar 2)) (dVar 1))) [2]
      [some (.val (mT A)), none, none] (fun d => fAllB (fun bs => bs.all id) [d] Kd) (l.map fun i : Nat => D.int (i : Nat)) (bs.map D.bl)
  | [], bs, _, _, h => by
    simp only [List.map_nil, lc2D]
    show (match blsD (bs.map D.bl) with | some ns => Kd (.bl (ns.all id)) | none => False)
    rw [bls_map]
    simpa using h
  | i :: l, bs, hl, hb, h => by
    have hi := hl i List.mem_cons_self
    have n4 := hn.le
    simp only [List.map_cons, lc2D]
    walk_at "ps"
    refine ⟨rfl, by omega, by omega, ?_, ?_⟩
    · rw [rng0]
      simp only [List.length_map, List.length_range, List.length_cons] at hb ⊢
      omega
    · rw [rng0]
      refine lcI_m (fun j : Nat => D.int (j : Nat)) (fun j => .bl (decide (ent A i j = ent A j i))) (List.range i) _ (fun j hj k hk => ?_) ?_
      · have hj : j < i := List.mem_range.mp hj
        walk_at "ps"
        rw [ixM hA hi]
        show (match atI ((A.getD i []).map D.int) (j : Int) with | some d => _ | none => False)
        rw [ixV (by rw [getD_row hA hi]; omega)]
        simp only
        rw [ixM hA (by omega : j < n)]
        show (match atI ((A.getD j []).map D.int) (i : Int) with | some d => _ | none => False)
        rw [ixV (by rw [getD_row hA (by omega)]; omega)]
        exact hk
      · have e : bs.map D.bl ++ (List.range i).map (fun j => D.bl (decide (ent A i j = ent A j i))) = (bs ++ (List.range i).map fun j => decide (ent A i j = ent A j i)).map D.bl := by
          rw [List.map_append, List.map_map]
          rfl
        rw [e]
        refine even_loop hn hA l _ (fun j hj => hl j (List.mem_cons_of_mem _ hj)) ?_ (by simpa using h)
        simp only [List.length_append, List.length_map, List.length_range, List.length_cons] at hb ⊢
        omega
theorem rd_is_even : ∀ Ed ss Kd, ss.length = 1 → sp_is_even Ed ss Kd → tb_is_even (endsOf Kd noE) (start0 N_is_even ss) := by
  rintro Ed ss Kd hl ⟨n, A, rfl, hn, hA, h⟩
  unfold tb_is_even N_is_even
  walk_at "ps"
  have n4 := hn.le
  rw [List.length_map, hA.1, rng0]
  refine ⟨rfl, by omega, by omega, ?_⟩
  refine even_loop hn hA (List.range n) [] (fun i hi => List.mem_range.mp hi) (by simp; omega) ?_
  rw [List.nil_append, even_all hn hA]
  exact h
theorem rd_is_table_of : ∀ Ed ss Kd, ss.length = 2 → sp_is_table_of Ed ss Kd → tb_is_table_of (endsOf Kd noE) (start0 N_is_table_of ss) := by
  rintro Ed ss Kd hl ⟨n, d, rfl, hn, h1, h⟩
  unfold tb_is_table_of N_is_table_of
  walk_at "ps"
  refine ⟨n, d, rfl, h1, fun e => ?_, fun e => ?_⟩
  · obtain ⟨A, rfl, hA⟩ := rowsB_mx e
    refine ⟨n, A, rfl, hn, hA.1, ?_⟩
    unfold tabB at h
    rwa [e, Bool.true_and, toM_mT] at h
  · unfold tabB at h
    rwa [e, Bool.false_and] at h
theorem pmB (x : Int) : ((D.int 1).eqv1 (.int x) || ((D.int (-1)).eqv1 (.int x) || false)) = decide (x = 1 ∨ x = -1) := by
  show ((1 : Int) == x || ((-1 : Int) == x || false)) = _
  rw [Bool.eq_iff_iff]
  simp
  omega
theorem rd_is_matrix_of : ∀ Ed ss Kd, ss.length = 2 → sp_is_matrix_of Ed ss Kd → tb_is_matrix_of (endsOf Kd noE) (start0 N_is_matrix_of ss) := by
  rintro Ed ss Kd hl ⟨n, d, rfl, hn, h1, h⟩
  unfold tb_is_matrix_of N_is_matrix_of
  walk_at "ps"
  refine ⟨n, d, rfl, h1, fun e => ?_, fun e => ?_⟩
  · obtain ⟨A, rfl, hA⟩ := rowsB_mx e
    refine ⟨n, A, _, rfl, .inl rfl, hn.le, hA.1, hA.bd, by decide, rfl, rfl, ?_⟩
    unfold matB at h
    rw [e, Bool.true_and, toM_mT] at h
    simp only [List.any_cons, List.any_nil]
    rw [pmB]
    exact h
  · unfold matB at h
    rwa [e, Bool.false_and] at h
theorem szI {n : Nat} (hn : sz n) : isI (.int (n : Nat)) = true := isI_of (by have := hn.le; omega)
theorem szIn {n : Nat} (hn : sz n) : ((D.int 2).eqv1 (.int (n : Nat)) || ((D.int 3).eqv1 (.int (n : Nat)) || ((D.int 4).eqv1 (.int (n : Nat)) || false))) = true := by
  rcases hn with rfl | rfl | rfl <;> rfl
theorem rd_require_size : ∀ Ed ss Kd, ss.length = 1 → sp_require_size Ed ss Kd → tb_require_size (endsOf Kd noE) (start0 N_require_size ss) := by
  rintro Ed ss Kd hl ⟨n, rfl, hn, h⟩
  unfold tb_require_size N_require_size
  walk_at "ps"
  refine ⟨_, rfl, rfl, fun e => ?_, fun e => ⟨rfl, rfl, fun e => ?_, fun e => h⟩⟩
  · rw [szI hn] at e; cases e
  · simp only [List.any_cons, List.any_nil, szIn hn] at e
    cases e
theorem rd_require_row : ∀ Ed ss Kd, ss.length = 2 → sp_require_row Ed ss Kd → tb_require_row (endsOf Kd noE) (start0 N_require_row ss) := by
  rintro Ed ss Kd hl ⟨n, v, rfl, hn, hv, h⟩
  unfold tb_require_row N_require_row
  walk_at "ps"
  refine ⟨n, _, rfl, cl1_rT (by rw [hv.1]; have := hn.le; omega), fun e => ?_, fun e => h⟩
  rw [rowB_of hv] at e; cases e
theorem matB_of {n : Nat} {A : Mx} (h : okM n A) (hd : pm (detN n A) 1) : matB n (mT A) = true := by
  unfold matB
  rw [rowsB_of h, toM_mT, Bool.true_and]
  exact decide_eq_true hd
theorem rd_require_matrix : ∀ Ed ss Kd, ss.length = 2 → sp_require_matrix Ed ss Kd → tb_require_matrix (endsOf Kd noE) (start0 N_require_matrix ss) := by
  rintro Ed ss Kd hl ⟨n, A, rfl, hn, hA, hd, h⟩
  unfold tb_require_matrix N_require_matrix
  walk_at "ps"
  refine ⟨n, _, rfl, hn, cl2_mT (by have := hn.le; omega) hA.1, fun e => ?_, fun e => h⟩
  rw [matB_of hA hd] at e; cases e
theorem rd_size_told : ∀ Ed ss Kd, ss.length = 1 → sp_size_told Ed ss Kd → tb_size_told (endsOf Kd noE) (start0 N_size_told ss) := by
  rintro Ed ss Kd hl ⟨xs, rfl, hn, h⟩
  unfold tb_size_told N_size_told
  walk_at "ps"
  refine ⟨rfl, fun e => ⟨rfl, rfl, fun e => h, fun e => ?_⟩, fun e => ?_⟩
  · simp only [List.any_cons, List.any_nil, szIn hn] at e
    cases e
  · cases e

theorem skipR (f : List Int → D) (hf : ∀ v, f v = rT v ∨ f v = rL v) {Kd : D → Prop} {ρ : Ev} {p : Nat} {iR iP : Nat} (hR : iR < ρ.length) (hP : ρ[iP]? = some (some (.val (.int (p : Nat))))) (hne : iR ≠ iP) {A : Mx} (hA : ∀ r ∈ A, p < r.length ∧ r.length ≤ 1000)
    (h : Kd (mL (A.map (·.eraseIdx p)))) :
    lcD (gN iR) dYes (dLst (vStar (dSl (dVar iR) oNone (oSome (dVar iP))) (vStar (dSl (dVar iR) (oSome (dOp fAdd (dVar iP) (dC (.int 1)))) oNone) vNil))) ρ Kd (A.map f) [] := by
  refine lcD_m f (fun r => rL (r.eraseIdx p)) A [] (fun r hr k hk => ?_) (by rw [List.nil_append]; simpa [mL, List.map_map, Function.comp_def] using h)
  obtain ⟨h1, h2⟩ := hA r hr
  have e1 : (ρ.set iR (some (.val (f r))))[iR]? = some (some (.val (f r))) := List.getElem?_set_self hR
  have e2 : (ρ.set iR (some (.val (f r))))[iP]? = some (some (.val (.int (p : Nat)))) := by rw [List.getElem?_set_ne hne]; exact hP
  unfold gN
  simp only [dLst, vStar, dSl, dVar, oNone, oSome, dOp, dC, vNil, e1, e2, fAdd]
  have fin : ((cutD (r.map D.int) none (some (p : Int)) ++ (cutD (r.map D.int) (some ((p : Int) + 1)) none ++ [])).length ≤ 1000000) ∧ k (.lst (cutD (r.map D.int) none (some (p : Int)) ++ (cutD (r.map D.int) (some ((p : Int) + 1)) none ++ []))) := by
    rw [List.append_nil, cut_skip _ p (by simpa using h1)]
    refine ⟨?_, ?_⟩
    · rw [List.length_eraseIdx]
      simp only [List.length_map]
      split <;> omega
    · have : (r.map D.int).eraseIdx p = (r.eraseIdx p).map D.int := by
        rw [List.eraseIdx_eq_take_drop_succ, List.eraseIdx_eq_take_drop_succ, List.map_append, List.map_take, List.map_drop]
      rw [this]
      exact hk
  rcases hf r with e | e
  · rw [e]; exact fin
  · rw [e]; exact fin
theorem fm2 (i : Nat) : (i : Int).fmod 2 = 1 ↔ i % 2 = 1 := by
  rw [Int.fmod_eq_emod_of_nonneg _ (by decide)]
  omega
theorem det_loop {m n : Nat} (hm : n ≤ m) (hm4 : n ≤ 4) {A : Mx} (hA : rectM (n + 1) A) (hb : bdM 1000 A) {d : D} (hd : isMx d A) {E : ES}  : ∀ (l : List (Int × Nat)) (acc : Int) (o2 o3 o4 : Option Sl), (∀ p ∈ l, p.2 < n + 1 ∧ p.1.natAbs < 2 ^ 1000) →
    (∀ o2 o3 o4, E.nx [some (.val d), some (.val (.int (l.foldl (fun acc p => if p.2 % 2 = 1 then acc - p.1 * detN n (A.tail.map (·.eraseIdx p.2)) else acc + p.1 * detN n (A.tail.map (·.eraseIdx p.2))) acc))), o2, o3, o4, none]) →
    forD (gT 2 (gsC (gN 2) (gsC (gN 3) gsN))) (sIf (dTest (dOp fNe (dVar 3) (dC (.int 0)))) (sSeq (sAsg (dOp fRep (dVar 3) (dCall 1 (dsp (m + 1)) (aCons (xVal (dLc (iSeq (dSl (dVar 0) (oSome (dC (.int 1))) (oNone))) (gN 5) (dYes) (dLst (vStar (dSl (dVar 5) (oNone) (oSome (dVar 2))) (vStar (dSl (dVar 5) (oSome (dOp fAdd (dVar 2) (dC (.int 1)))) (oNone)) (vNil)))) [5])) (aNil)))) (gN 4)) (sAsg (dIf (dTest (dOp fEq (dOp (fInt2 (fun _ j => j ≠ 0) Int.fmod) (dVar 2) (dC (.int 2))) (dC (.int 1)))) (dOp fSub (dVar 1) (dVar 4)) (dOp fAdd (dVar 1) (dVar 4))) (gN 1))) (sPass))
      E (l.map fun p => prD (.int (p.2 : Nat)) (.int p.1)) [some (.val d), some (.val (.int acc)), o2, o3, o4, none]
  | [], acc, o2, o3, o4, _, h => h o2 o3 o4
  | (x, i) :: l, acc, o2, o3, o4, hl, h => by
    obtain ⟨hi, hx⟩ := hl (x, i) List.mem_cons_self
    have hl' : ∀ p ∈ l, p.2 < n + 1 ∧ p.1.natAbs < 2 ^ 1000 := fun p hp => hl p (List.mem_cons_of_mem _ hp)
    show forD _ _ E (prD (.int (i : Nat)) (.int x) :: l.map _) _
    unfold forD prD
    walk_at "pd"
    have hB := rect_tail hA hi
    have hbB : bdM 1000 (A.tail.map (·.eraseIdx i)) := bd_tail hb i
    have hrow : ∀ r ∈ A.tail, i < r.length ∧ r.length ≤ 1000 := fun r hr => by
      have := hA.2 r (List.mem_of_mem_tail hr)
      omega
    have hlen : A.tail.length ≤ 1000000 := by rw [List.length_tail, hA.1]; omega
    refine ⟨fun e => ?_, fun e => ?_⟩
    · have fin : ∀ (f : List Int → D) (hf : ∀ v, f v = rT v ∨ f v = rL v) (k : D → Prop) (ρ : Ev), ρ = [some (.val d), some (.val (.int acc)), some (.val (.int (i : Nat))), some (.val (.int x)), o4, none] → k (mL (A.tail.map (·.eraseIdx i))) → (cutD (A.map f) (some 1) none).length ≤ 1000000 ∧
          lcD (gN 5) dYes (dLst (vStar (dSl (dVar 5) oNone (oSome (dVar 2))) (vStar (dSl (dVar 5) (oSome (dOp fAdd (dVar 2) (dC (.int 1)))) oNone) vNil))) ρ k (cutD (A.map f) (some 1) none) [] := by
        intro f hf k ρ hρ hk
        have ec : cutD (A.map f) (some 1) none = A.tail.map f := by
          rw [show ((1 : Int)) = ((1 : Nat) : Int) from rfl, cut_lo _ 1 (by simp [hA.1]), ← List.map_drop, List.drop_one]
        rw [ec]
        refine ⟨by simpa using hlen, ?_⟩
        subst hρ
        exact skipR f hf (p := i) (iR := 5) (iP := 2) (by simp) rfl (by decide) hrow hk
      have dn : (detN n (A.tail.map (·.eraseIdx i))).natAbs < 2 ^ detB n := det_bd hm4 hB hbB
      have mo : MulOk x (detN n (A.tail.map (·.eraseIdx i))) := mul_ok hx dn (by unfold detB; omega)
      have ih := fun acc' o2 o3 o4 => det_loop hm hm4 hA hb hd (E := E) l acc' o2 o3 o4 hl'
      have e3 : ∀ {o2 o3 o4 : Option Sl}, (i : Int).fmod 2 = 1 → E.nx [some (.val d), some (.val (.int (l.foldl (fun acc p => if p.2 % 2 = 1 then acc - p.1 * detN n (A.tail.map (·.eraseIdx p.2)) else acc + p.1 * detN n (A.tail.map (·.eraseIdx p.2))) (acc - x * detN n (A.tail.map (·.eraseIdx i)))))), o2, o3, o4, none] := fun {o2 o3 o4} e => by
        have := h o2 o3 o4
        rw [List.foldl_cons, if_pos ((fm2 i).mp e)] at this
        exact this
      have e4 : ∀ {o2 o3 o4 : Option Sl}, ¬(i : Int).fmod 2 = 1 → E.nx [some (.val d), some (.val (.int (l.foldl (fun acc p => if p.2 % 2 = 1 then acc - p.1 * detN n (A.tail.map (·.eraseIdx p.2)) else acc + p.1 * detN n (A.tail.map (·.eraseIdx p.2))) (acc + x * detN n (A.tail.map (·.eraseIdx i)))))), o2, o3, o4, none] := fun {o2 o3 o4} e => by
        have := h o2 o3 o4
        rw [List.foldl_cons, if_neg (fun z => e ((fm2 i).mpr z))] at this
        exact this
      rcases hd with rfl | rfl
      · refine fin rT (fun v => .inl rfl) _ _ rfl ⟨n, _, _, rfl, .inr rfl, hm, hB, hbB, mo, by decide, fun e2 => ?_, fun e2 => ?_⟩
        · exact ih _ _ _ _ fun o2 o3 o4 => e3 e2
        · exact ih _ _ _ _ fun o2 o3 o4 => e4 e2
      · refine fin rL (fun v => .inr rfl) _ _ rfl ⟨n, _, _, rfl, .inr rfl, hm, hB, hbB, mo, by decide, fun e2 => ?_, fun e2 => ?_⟩
        · exact ih _ _ _ _ fun o2 o3 o4 => e3 e2
        · exact ih _ _ _ _ fun o2 o3 o4 => e4 e2
    · refine det_loop hm hm4 hA hb hd l _ _ _ _ hl' fun o2 o3 o4 => ?_
      have := h o2 o3 o4
      rw [List.foldl_cons] at this
      have z : (if i % 2 = 1 then acc - x * detN n (A.tail.map (·.eraseIdx i)) else acc + x * detN n (A.tail.map (·.eraseIdx i))) = acc := by
        rw [e]
        split <;> simp
      simp only [z] at this
      exact this
theorem enum_ints (r : List Int) : enumD (r.map D.int) = r.zipIdx.map fun p => prD (.int (p.2 : Nat)) (.int p.1) := by
  unfold enumD
  rw [List.zipIdx_map, List.map_map]
  rfl
theorem rd_determinant_of (m : Nat) (hm5 : m ≤ 4) : ∀ Ed ss Kd, ss.length = 1 → dsp (m + 1) Ed ss Kd → tb_determinant_of (dsp m) (endsOf Kd noE) (start0 N_determinant_of ss) := by
  rintro Ed ss Kd hl ⟨n, A, d, rfl, hd, hn, hA, hb, h⟩
  unfold tb_determinant_of N_determinant_of
  have hlen : ∀ f : List Int → D, (A.map f).length = n := fun f => by rw [List.length_map, hA.1]
  cases n with
  | zero =>
    rcases hd with rfl | rfl <;> walk_at "ps" <;> rw [hlen] <;> exact ⟨fun _ => h, fun e => absurd rfl e⟩
  | succ n =>
    obtain ⟨r, A', rfl⟩ : ∃ r A', A = r :: A' := by
      cases A with
      | nil => simp [rectM] at hA
      | cons r A => exact ⟨r, A, rfl⟩
    obtain ⟨m, rfl⟩ : ∃ m', m = m' + 1 := ⟨m - 1, by omega⟩
    have fin : ∀ {E : ES} {o2 o3 o4 : Option Sl}, (∀ o2 o3 o4 : Option Sl, E.nx [some (.val d), some (.val (.int (detN (n + 1) (r :: A')))), o2, o3, o4, none]) →
      forD (gT 2 (gsC (gN 2) (gsC (gN 3) gsN))) _ E (enumD (r.map D.int)) [some (.val d), some (.val (.int 0)), o2, o3, o4, none] := fun {E o2 o3 o4} eE => by
        rw [enum_ints]
        refine det_loop (m := m) (n := n) (by omega) (by omega) hA hb hd _ _ _ _ _ (fun p hp => ?_) fun o2 o3 o4 => ?_
        · have hp' := List.mem_zipIdx hp
          obtain ⟨_, h2, h3⟩ := hp'
          have hr := hA.2 r (by simp)
          refine ⟨by omega, ?_⟩
          rw [h3]
          exact hb r (by simp) _ (List.getElem_mem _)
        · exact eE o2 o3 o4
    rcases hd with rfl | rfl <;> walk_at "ps" <;> refine ⟨fun e => ?_, fun e => ?_⟩
    · omega
    · exact fin fun _ _ _ => h
    · omega
    · exact fin fun _ _ _ => h

theorem skip_none {α β : Type} (g : α → β) : ∀ (l : List α) (s k : Nat), k < s → (l.zipIdx s).filterMap (fun p => if p.2 = k then none else some (g p.1)) = l.map g
  | [], _, _, _ => rfl
  | a :: l, s, k, h => by
    rw [List.zipIdx_cons, List.filterMap_cons, if_neg (by simp only; omega), skip_none g l (s + 1) k (by omega)]
    rfl
theorem zip_skip {α β : Type} (g : α → β) : ∀ (l : List α) (s a : Nat), (l.zipIdx s).filterMap (fun p => if p.2 = s + a then none else some (g p.1)) = (l.eraseIdx a).map g
  | [], _, _ => by simp
  | x :: l, s, 0 => by
    rw [List.zipIdx_cons, List.filterMap_cons, if_pos (by simp)]
    exact skip_none g l (s + 1) (s + 0) (by omega)
  | x :: l, s, a + 1 => by
    rw [List.zipIdx_cons, List.filterMap_cons, if_neg (by simp only; omega)]
    have := zip_skip g l (s + 1) a
    rw [show s + 1 + a = s + (a + 1) by omega] at this
    simp only
    rw [this]
    rfl
theorem enum_rows (A : Mx) : enumD (A.map rT) = A.zipIdx.map fun p => prD (.int (p.2 : Nat)) (rT p.1) := by
  unfold enumD
  rw [List.zipIdx_map, List.map_map]
  rfl
theorem er_map (r : List Int) (p : Nat) : (r.map D.int).eraseIdx p = (r.eraseIdx p).map D.int := by
  rw [List.eraseIdx_eq_take_drop_succ, List.eraseIdx_eq_take_drop_succ, List.map_append, List.map_take, List.map_drop]
theorem rd_without : ∀ Ed ss Kd, ss.length = 3 → sp_without Ed ss Kd → tb_without (endsOf Kd noE) (start0 N_without ss) := by
  rintro Ed ss Kd hl ⟨n, A, a, p, rfl, hn, hA, ha, hp, h⟩
  unfold tb_without N_without
  walk_at "ps"
  rw [enum_rows]
  have n4 := hn.le
  refine ⟨by simp only [List.length_map, List.length_zipIdx, hA.1]; omega, ?_⟩
  refine lcD_f _ (fun q => if q.2 = 0 + a then none else some (rL (q.1.eraseIdx p))) A.zipIdx [] (fun q hq k1 k0 h1 h0 => ?_) ?_
  · obtain ⟨_, q2, q3⟩ := List.mem_zipIdx hq
    have hr : q.1.length = n := hA.2 _ (by rw [q3]; exact List.getElem_mem _)
    unfold prD
    walk_at "ps"
    rw [List.append_nil, cut_skip _ p (by rw [List.length_map]; omega)]
    refine ⟨fun e => ⟨?_, ?_⟩, fun e => ?_⟩
    · rw [List.length_eraseIdx, List.length_map]
      split <;> omega
    · rw [er_map]
      refine h1 _ ?_
      rw [if_neg (by omega)]
    · refine h0 ?_
      rw [if_pos (by omega)]
  · rw [zip_skip (fun r : List Int => rL (r.eraseIdx p)) A 0 a]
    simpa [mL, List.map_map, Function.comp_def] using h
theorem cut_rect {n : Nat} {A : Mx} (h : rectM n A) {a p : Nat} (ha : a < n) (hp : p < n) : rectM (n - 1) ((A.eraseIdx a).map (·.eraseIdx p)) := by
  refine ⟨by rw [List.length_map, List.length_eraseIdx, if_pos (by rw [h.1]; exact ha), h.1], fun r hr => ?_⟩
  obtain ⟨q, hq, rfl⟩ := List.mem_map.mp hr
  have := h.2 q (List.mem_of_mem_eraseIdx hq)
  rw [List.length_eraseIdx, if_pos (by omega), this]
theorem cut_bd {b : Nat} {A : Mx} (h : bdM b A) (a p : Nat) : bdM b ((A.eraseIdx a).map (·.eraseIdx p)) := by
  intro r hr x hx
  obtain ⟨q, hq, rfl⟩ := List.mem_map.mp hr
  exact h q (List.mem_of_mem_eraseIdx hq) x (List.mem_of_mem_eraseIdx hx)
theorem rd_cofactor : ∀ Ed ss Kd, ss.length = 3 → sp_cofactor Ed ss Kd → tb_cofactor (endsOf Kd noE) (start0 N_cofactor ss) := by
  rintro Ed ss Kd hl ⟨n, A, a, p, rfl, hn, hA, hb, ha, hp, h⟩
  unfold tb_cofactor N_cofactor
  walk_at "ps"
  have n4 := hn.le
  refine ⟨n, A, a, p, rfl, hn, hA, ha, hp, n - 1, _, _, rfl, .inr rfl, Nat.le_trans (Nat.sub_le _ _) n4, cut_rect hA ha hp, cut_bd hb a p, by decide, fun e => ?_, fun e => ?_⟩
  · rw [show ((a : Int) + (p : Int)) = ((a + p : Nat) : Int) by omega, fm2] at e
    unfold cof at h
    rwa [if_pos e] at h
  · rw [show ((a : Int) + (p : Int)) = ((a + p : Nat) : Int) by omega, fm2] at e
    unfold cof at h
    rwa [if_neg e] at h
theorem rd_adjoint_of : ∀ Ed ss Kd, ss.length = 1 → sp_adjoint_of Ed ss Kd → tb_adjoint_of (endsOf Kd noE) (start0 N_adjoint_of ss) := by
  rintro Ed ss Kd hl ⟨n, A, rfl, hn, hA, hb, h⟩
  unfold tb_adjoint_of N_adjoint_of
  walk_at "ps"
  have n4 := hn.le
  rw [List.length_map, hA.1, rng0]
  refine ⟨by omega, by omega, by simp; omega, lcD_m _ (fun p : Nat => .tup ((List.range n).map fun a => .int (cof n A a p))) (List.range n) [] (fun p hp k hk => ?_) (by rw [List.nil_append]; simpa [rT, mT, adjM, List.map_map, Function.comp_def] using h)⟩
  walk_at "ps"
  rw [rng0]
  refine ⟨by omega, by omega, by simp; omega, lcD_m _ (fun a : Nat => .int (cof n A a p)) (List.range n) [] (fun a ha k2 hk2 => ?_) (by simpa using hk)⟩
  walk_at "ps"
  exact ⟨n, A, a, p, rfl, hn, hA, hb, List.mem_range.mp ha, List.mem_range.mp hp, hk2⟩
theorem ixM0 {n : Nat} {A : Mx} (h : rectM n A) (hn : 0 < n) : atI (A.map rT) 0 = some (rT (A.getD 0 [])) := ixM h hn
theorem hd_len {n : Nat} {A : Mx} (h : rectM n A) (hn : 0 < n) : (A.headD []).length = n := by
  cases A with
  | nil => simp [rectM] at h; omega
  | cons r A => exact h.2 r (by simp)
theorem rd_turned_over : ∀ Ed ss Kd, ss.length = 1 → sp_turned_over Ed ss Kd → tb_turned_over (endsOf Kd noE) (start0 N_turned_over ss) := by
  rintro Ed ss Kd hl ⟨n, A, rfl, hn, hA, h⟩
  unfold tb_turned_over N_turned_over
  walk_at "ps"
  have n4 := hn.le
  rw [ixM0 hA hn.pos]
  walk_at "ps"
  rw [List.length_map, getD_row hA hn.pos, rng0]
  refine ⟨by omega, by omega, by simp; omega, lcD_m _ (fun i : Nat => .tup (A.map fun r => .int (r.getD i 0))) (List.range n) [] (fun i hi k hk => ?_) ?_⟩
  · have hi := List.mem_range.mp hi
    walk_at "ps"
    refine ⟨by rw [List.length_map, hA.1]; omega, lcD_m rT (fun r => .int (r.getD i 0)) A [] (fun r hr k2 hk2 => ?_) (by simpa using hk)⟩
    walk_at "ps"
    rw [ixV (by rw [hA.2 r hr]; exact hi)]
    exact hk2
  · rw [List.nil_append]
    unfold turnM at h
    rw [hd_len hA hn.pos] at h
    simpa [rT, mT, List.map_map, Function.comp_def] using h
theorem rd_l_turned : ∀ Ed ss Kd, ss.length = 1 → sp_l_turned Ed ss Kd → tb_l_turned (endsOf Kd noE) (start0 N_l_turned ss) := rd_turned_over
theorem lcD_s {α : Type} {G : DTG} {Te : DTE} {ρ : Ev} {K : D → Prop} (g : α → D) (f : α → Int) (l : List α) (h : ∀ a ∈ l, ∀ k : D → Prop, k (.int (f a)) → G (g a) ρ fun ρ1 => Te noE ρ1 k) (hk : K (.int (l.map f).sum)) :
    lcD G dYes Te ρ (fun d => fSum [d] K) (l.map g) [] := by
  refine lcD_m g (fun a => .int (f a)) l [] h ?_
  have e : intsD (l.map fun a => D.int (f a)) = some (l.map f) := by
    have := ints_map (l.map f)
    rw [List.map_map] at this
    exact this
  show (match intsD (l.map fun a => D.int (f a)) with | some ns => K (.int ns.sum) | none => False)
  rw [e]
  exact hk
theorem zip_ints (r c : List Int) : zipD (r.map D.int) (c.map D.int) = (r.zip c).map fun p => prD (.int p.1) (.int p.2) := by
  unfold zipD
  rw [List.zip_map, List.map_map]
  rfl
theorem zip_dot : ∀ (r c : List Int), ((r.zip c).map fun p => p.1 * p.2).sum = dotI r c
  | [], c => by simp [dotI]
  | a :: r, [] => by simp [dotI]
  | a :: r, x :: c => by
    rw [List.zip_cons_cons, List.map_cons, List.sum_cons, zip_dot r c, dot_cons]
theorem dot_read {r c : List Int} (hr : r.length ≤ 1000) (h1 : bdV 10000 r) (h2 : bdV 10000 c) {Te : DTE} {G : DTG} {ρ : Ev} {K : D → Prop} (hk : K (.int (dotI r c)))
    (ht : ∀ x y : Int, x.natAbs < 2 ^ 10000 → y.natAbs < 2 ^ 10000 → ∀ k : D → Prop, k (.int (x * y)) → G (prD (.int x) (.int y)) ρ fun ρ1 => Te noE ρ1 k) :
    (zipD (r.map D.int) (c.map D.int)).length ≤ 1000000 ∧ lcD G dYes Te ρ (fun d => fSum [d] K) (zipD (r.map D.int) (c.map D.int)) [] := by
  rw [zip_ints]
  refine ⟨by simp only [List.length_map, List.length_zip]; omega, lcD_s _ (fun p => p.1 * p.2) (r.zip c) (fun p hp k hk => ?_) (by rw [zip_dot]; exact hk)⟩
  exact ht _ _ (h1 _ (List.of_mem_zip hp).1) (h2 _ (List.of_mem_zip hp).2) k hk
theorem rd_dot : ∀ Ed ss Kd, ss.length = 2 → sp_dot Ed ss Kd → tb_dot (endsOf Kd noE) (start0 N_dot ss) := by
  rintro Ed ss Kd hl ⟨r, c, rfl, hr, h1, h2, h⟩
  unfold tb_dot N_dot
  walk_at "ps"
  refine dot_read hr h1 h2 h fun x y hx hy k hk => ?_
  unfold prD
  walk_at "ps"
  exact ⟨mul_ok hx hy (by decide), hk⟩
theorem bd_turn {b : Nat} {A : Mx} (h : bdM b A) : bdM b (turnM A) := by
  intro r hr x hx
  unfold turnM at hr
  obtain ⟨i, _, rfl⟩ := List.mem_map.mp hr
  obtain ⟨q, hq, rfl⟩ := List.mem_map.mp hx
  exact getD_bd (h q hq) i
theorem rd_product_in : ∀ Ed ss Kd, ss.length = 2 → sp_product_in Ed ss Kd → tb_product_in (endsOf Kd noE) (start0 N_product_in ss) := by
  rintro Ed ss Kd hl ⟨n, A, B, rfl, hn, hA, hB, bA, bB, h⟩
  unfold tb_product_in N_product_in
  walk_at "ps"
  have n4 := hn.le
  have hT := turn_rect hn.pos hB
  refine ⟨n, B, rfl, hn, hB, by rw [List.length_map, hA.1]; omega, lcD_m rT (fun r => .tup ((turnM B).map fun c => .int (dotI r c))) A [] (fun r hr k hk => ?_) (by rw [List.nil_append]; simpa [rT, mT, mulM, List.map_map, Function.comp_def] using h)⟩
  walk_at "ps"
  refine ⟨by rw [List.length_map, hT.1]; omega, lcD_m rT (fun c => .int (dotI r c)) (turnM B) [] (fun c hc k2 hk2 => ?_) (by simpa using hk)⟩
  walk_at "ps"
  exact ⟨r, c, rfl, by rw [hA.2 r hr]; omega, bA r hr, bd_turn bB c hc, hk2⟩
theorem rd_unit_of : ∀ Ed ss Kd, ss.length = 1 → sp_unit_of Ed ss Kd → tb_unit_of (endsOf Kd noE) (start0 N_unit_of ss) := by
  rintro Ed ss Kd hl ⟨n, rfl, hn, h⟩
  unfold tb_unit_of N_unit_of
  walk_at "ps"
  have n4 := hn.le
  rw [rng0]
  refine ⟨by omega, by omega, by simp; omega, lcD_m _ (fun i : Nat => .tup ((List.range n).map fun j => .int (if i = j then 1 else 0))) (List.range n) [] (fun i hi k hk => ?_) (by rw [List.nil_append]; simpa [rT, mT, unitM, List.map_map, Function.comp_def] using h)⟩
  walk_at "ps"
  rw [rng0]
  refine ⟨by omega, by omega, by simp; omega, lcD_m _ (fun j : Nat => .int (if i = j then 1 else 0)) (List.range n) [] (fun j hj k2 hk2 => ?_) (by simpa using hk)⟩
  walk_at "ps"
  have e : ((i : Int) = (j : Int)) ↔ i = j := by omega
  simpa only [e] using hk2
theorem cof_bd {n : Nat} (hn : sz n) {A : Mx} (h : rectM n A) (hb : bdM 1000 A) {a p : Nat} (ha : a < n) (hp : p < n) : (cof n A a p).natAbs < 2 ^ 10000 := by
  have n4 := hn.le
  have := det_bd (n := n - 1) (by omega) (cut_rect h ha hp) (cut_bd hb a p)
  have m : 2 ^ detB (n - 1) ≤ 2 ^ 10000 := Nat.pow_le_pow_right (by decide) (by unfold detB; omega)
  unfold cof
  simp only
  split <;> omega
theorem adj_bd {n : Nat} (hn : sz n) {A : Mx} (h : rectM n A) (hb : bdM 1000 A) : bdM 10000 (adjM n A) := by
  intro r hr x hx
  unfold adjM at hr
  obtain ⟨p, hp, rfl⟩ := List.mem_map.mp hr
  obtain ⟨a, ha, rfl⟩ := List.mem_map.mp hx
  exact cof_bd hn h hb (List.mem_range.mp ha) (List.mem_range.mp hp)
theorem det_bd' {n : Nat} (hn : n ≤ 4) {A : Mx} (h : rectM n A) (hb : bdM 1000 A) : (detN n A).natAbs < 2 ^ 10000 :=
  Nat.lt_of_lt_of_le (det_bd hn h hb) (Nat.pow_le_pow_right (by decide) (by unfold detB; omega))
theorem rd_back_in : ∀ Ed ss Kd, ss.length = 1 → sp_back_in Ed ss Kd → tb_back_in (endsOf Kd noE) (start0 N_back_in ss) := by
  rintro Ed ss Kd hl ⟨n, A, rfl, hn, hA, hb, h⟩
  unfold tb_back_in N_back_in
  walk_at "ps"
  have n4 := hn.le
  have hR := adj_rect n A
  refine ⟨n, A, _, rfl, .inl rfl, n4, hA, hb, n, A, rfl, hn, hA, hb, by rw [List.length_map, hR.1]; omega, lcD_m rT (fun r => .tup (r.map fun x => .int (detN n A * x))) (adjM n A) [] (fun r hr k hk => ?_) (by rw [List.nil_append]; simpa [rT, mT, backM, scM, sgR, List.map_map, Function.comp_def] using h)⟩
  walk_at "ps"
  refine ⟨by rw [List.length_map, hR.2 r hr]; omega, lcD_m D.int (fun x => .int (detN n A * x)) r [] (fun x hx k2 hk2 => ?_) (by simpa using hk)⟩
  walk_at "ps"
  exact ⟨mul_ok (det_bd' n4 hA hb) (adj_bd hn hA hb r hr x hx) (by decide), hk2⟩
theorem rd_row_led : ∀ Ed ss Kd, ss.length = 2 → sp_row_led Ed ss Kd → tb_row_led (endsOf Kd noE) (start0 N_row_led ss) := by
  rintro Ed ss Kd hl ⟨n, A, v, rfl, hn, hA, hv, bA, bv, h⟩
  unfold tb_row_led N_row_led
  walk_at "ps"
  have n4 := hn.le
  refine ⟨by rw [List.length_map, hA.1]; omega, lcD_m rT (fun r => .int (dotI r v)) A [] (fun r hr k hk => ?_) (by rw [List.nil_append]; simpa [rT, mulV, List.map_map, Function.comp_def] using h)⟩
  walk_at "ps"
  exact ⟨r, v, rfl, by rw [hA.2 r hr]; omega, bA r hr, bv, hk⟩
theorem rd_l_row_led : ∀ Ed ss Kd, ss.length = 2 → sp_l_row_led Ed ss Kd → tb_l_row_led (endsOf Kd noE) (start0 N_l_row_led ss) := by
  rintro Ed ss Kd hl ⟨n, A, v, rfl, hn, hA, hv, bA, bv, h⟩
  unfold tb_l_row_led N_l_row_led
  walk_at "ps"
  have n4 := hn.le
  refine ⟨by rw [List.length_map, hA.1]; omega, lcD_m rT (fun r => .int (dotI r v)) A [] (fun r hr k hk => ?_) (by rw [List.nil_append]; simpa [rT, mulV, List.map_map, Function.comp_def] using h)⟩
  walk_at "ps"
  refine dot_read (by rw [hA.2 r hr]; omega) (bA r hr) bv hk fun x y hx hy k hk => ?_
  unfold prD
  walk_at "ps"
  exact ⟨mul_ok hx hy (by decide), hk⟩
theorem rd_square_of : ∀ Ed ss Kd, ss.length = 1 → sp_square_of Ed ss Kd → tb_square_of (endsOf Kd noE) (start0 N_square_of ss) := by
  rintro Ed ss Kd hl ⟨v, rfl, hv, bv, h⟩
  unfold tb_square_of N_square_of
  walk_at "ps"
  refine ⟨by rw [List.length_map]; omega, lcD_m D.int (fun a => .tup (v.map fun b => .int (a * b))) v [] (fun a ha k hk => ?_) (by rw [List.nil_append]; simpa [rT, mT, sqM, List.map_map, Function.comp_def] using h)⟩
  walk_at "ps"
  refine ⟨by rw [List.length_map]; omega, lcD_m D.int (fun b => .int (a * b)) v [] (fun b hb k2 hk2 => ?_) (by simpa using hk)⟩
  walk_at "ps"
  exact ⟨mul_ok (bv a ha) (bv b hb) (by decide), hk2⟩
theorem rd_l_square : ∀ Ed ss Kd, ss.length = 1 → sp_l_square Ed ss Kd → tb_l_square (endsOf Kd noE) (start0 N_l_square ss) := rd_square_of

theorem eqvAll_int : ∀ (v w : List Int), PyData.eqvAll (pys (v.map D.int)) (pys (w.map D.int)) = decide (v = w)
  | [], [] => by simp [pys, PyData.eqvAll]
  | [], _ :: _ => by simp [pys, PyData.eqvAll]
  | _ :: _, [] => by simp [pys, PyData.eqvAll]
  | a :: v, b :: w => by
    have := eqvAll_int v w
    simp only [List.map_cons, pys, PyData.eqvAll, D.py, PyData.eqv] at this ⊢
    rw [this]
    by_cases h1 : a = b <;> by_cases h2 : v = w <;> simp [h1, h2]
theorem eqvAll_row : ∀ (A B : Mx), PyData.eqvAll (pys (A.map rT)) (pys (B.map rT)) = decide (A = B)
  | [], [] => by simp [pys, PyData.eqvAll]
  | [], _ :: _ => by simp [pys, PyData.eqvAll]
  | _ :: _, [] => by simp [pys, PyData.eqvAll]
  | a :: v, b :: w => by
    have := eqvAll_row v w
    simp only [List.map_cons, pys, PyData.eqvAll, D.py, PyData.eqv] at this ⊢
    rw [this, eqvAll_int]
    by_cases h1 : a = b <;> by_cases h2 : v = w <;> simp [h1, h2]
theorem eqv_rT (v w : List Int) : D.eqv (rT v) (rT w) = decide (v = w) := by
  show PyData.eqv _ _ = _
  simp only [D.py, PyData.eqv]
  exact eqvAll_int v w
theorem eqv_mT (A B : Mx) : D.eqv (mT A) (mT B) = decide (A = B) := by
  show PyData.eqv _ _ = _
  simp only [D.py, PyData.eqv]
  exact eqvAll_row A B
theorem eqv_lnil : ∀ (xs : List D), D.eqv (.lst xs) (.lst []) = xs.isEmpty
  | [] => by show PyData.eqv _ _ = _; simp [D.py, pys, PyData.eqv, PyData.eqvAll]
  | _ :: _ => by show PyData.eqv _ _ = _; simp [D.py, pys, PyData.eqv, PyData.eqvAll]
theorem flats_int (n : Nat) : ∀ (v : List Int), flats n (v.map D.int) = true
  | [] => by simp [flats]
  | a :: v => by simp [flats, D.flat, flats_int n v]
theorem flat_rT (v : List Int) : D.flat 64 (rT v) = true := by
  show flats 63 _ = true
  exact flats_int 63 v
theorem flats_row (n : Nat) : ∀ (A : Mx), flats (n + 1) (A.map rT) = true
  | [] => by simp [flats]
  | a :: v => by simp [flats, D.flat, flats_int n a, flats_row n v]
theorem flat_mT (A : Mx) : D.flat 64 (mT A) = true := by
  show flats 63 _ = true
  exact flats_row 62 A
theorem flats_one : ∀ (l : List D), (∀ d ∈ l, D.flat 63 d = true) → D.flat 64 (.lst l) = true := by
  intro l h
  show flats 63 l = true
  induction l with
  | nil => simp [flats]
  | cons a l ih => simp [flats, h a List.mem_cons_self, ih fun d hd => h d (List.mem_cons_of_mem _ hd)]
theorem fst_filter (v : List Int) : (v.map D.int).filterMap (fun d => match d with | .int x => if x = 0 then none else some (.int x) | _ => none) = (v.filter (· ≠ 0)).map D.int := by
  induction v with
  | nil => rfl
  | cons a v ih =>
    by_cases h : a = 0
    · simp [h, ih]
    · simp [h, ih]
theorem filt_int (v : List Int) : (v.filterMap fun x : Int => if x = 0 then none else some (D.int x)) = (v.filter (· ≠ 0)).map D.int := by
  induction v with
  | nil => rfl
  | cons a v ih =>
    by_cases h : a = 0
    · simp [h, ih]
    · simp [h, ih]
theorem rd_row_normal : ∀ Ed ss Kd, ss.length = 1 → sp_row_normal Ed ss Kd → tb_row_normal (endsOf Kd noE) (start0 N_row_normal ss) := by
  rintro Ed ss Kd hl ⟨v, rfl, hv, h⟩
  unfold tb_row_normal N_row_normal
  walk_at "ps"
  refine ⟨by rw [List.length_map]; omega, lcD_f D.int (fun x : Int => if x = 0 then none else some (.int x)) v [] (fun x hx k1 k0 h1 h0 => ?_) ?_⟩
  · walk_at "ps"
    exact ⟨fun e => h1 _ (if_neg e), fun e => h0 (if_pos e)⟩
  · rw [List.nil_append, filt_int]
    have hle : (v.filter (· ≠ 0)).length ≤ v.length := List.length_filter_le _ _
    have fin : ∀ k : Int → Prop, k (fstV v) → ((v.filter (· ≠ 0)).map D.int ++ [D.int 0]).length ≤ 1000000 ∧ (match atI ((v.filter (· ≠ 0)).map D.int ++ [D.int 0]) 0 with | some (.int d) => k d | _ => False) := fun k hk => by
      refine ⟨by simp only [List.length_append, List.length_map, List.length_cons, List.length_nil]; omega, ?_⟩
      unfold fstV at hk
      cases e : v.filter (· ≠ 0) with
      | nil => rw [e] at hk; simp only [List.map_nil, List.nil_append, at0]; exact hk
      | cons a l => rw [e] at hk; simp only [List.map_cons, List.cons_append, at0]; exact hk
    have rest : ∀ d : Int, d = fstV v → (0 < d → Kd (rT v)) ∧ (¬0 < d → Kd (rT (v.map fun x => -x))) := fun d hd => by
      subst hd
      unfold normV at h
      exact ⟨fun e => by rwa [if_pos e] at h, fun e => by rwa [if_neg e] at h⟩
    have low : ∀ d : Int, d = fstV v → (0 < d → Kd (rT v)) ∧ (¬0 < d → (v.map D.int).length ≤ 1000000 ∧ lcD (gN 2) dYes (dNeg (dVar 2)) [some (.val (rT v)), some (.val (.int d)), none] (fun d => fTuple [d] Kd) (v.map D.int) []) := fun d hd => by
      refine ⟨(rest d hd).1, fun e => ⟨by rw [List.length_map]; omega, lcD_m D.int (fun x => .int (-x)) v [] (fun x hx k hk => ?_) ?_⟩⟩
      · walk_at "ps"
        exact hk
      · have := (rest d hd).2 e
        simpa [rT, fTuple, List.map_map, Function.comp_def] using this
    cases e : v.filter (· ≠ 0) with
    | nil =>
      simp only [List.map_nil, List.nil_append, at0]
      refine ⟨by simp, ?_⟩
      have z := low 0 (by unfold fstV; rw [e]; rfl)
      exact z
    | cons a l =>
      have hle' : l.length + 1 ≤ v.length := by rw [e] at hle; exact hle
      simp only [List.map_cons, List.cons_append, at0]
      refine ⟨by simp only [List.length_cons, List.length_append, List.length_map, List.length_nil]; omega, ?_⟩
      have z := low a (by unfold fstV; rw [e]; rfl)
      exact z
theorem rd_l_normal : ∀ Ed ss Kd, ss.length = 1 → sp_l_normal Ed ss Kd → tb_l_normal (endsOf Kd noE) (start0 N_l_normal ss) := by
  rintro Ed ss Kd hl ⟨v, rfl, hv, hne, h⟩
  unfold tb_l_normal N_l_normal
  walk_at "ps"
  refine ⟨by rw [List.length_map]; omega, lcD_f D.int (fun x : Int => if x = 0 then none else some (.int x)) v [] (fun x hx k1 k0 h1 h0 => ?_) ?_⟩
  · walk_at "ps"
    exact ⟨fun e => h1 _ (if_neg e), fun e => h0 (if_pos e)⟩
  · rw [List.nil_append, filt_int]
    cases e : v.filter (· ≠ 0) with
    | nil =>
      obtain ⟨x, hx, x0⟩ := hne
      have : x ∈ v.filter (· ≠ 0) := List.mem_filter.mpr ⟨hx, by simpa using x0⟩
      rw [e] at this
      cases this
    | cons a l =>
      simp only [List.map_cons, at0]
      have ea : fstV v = a := by unfold fstV; rw [e]; rfl
      unfold normV at h
      rw [ea] at h
      refine ⟨fun e => by rwa [if_pos e] at h, fun e => ⟨by rw [List.length_map]; omega, lcD_m D.int (fun x => .int (-x)) v [] (fun x hx k hk => ?_) ?_⟩⟩
      · walk_at "ps"
        rw [Int.zero_sub]
        exact hk
      · rw [if_neg e] at h
        simpa [rT, fTuple, List.map_map, Function.comp_def] using h
theorem rd_is_row : ∀ Ed ss Kd, ss.length = 2 → sp_is_row Ed ss Kd → tb_is_row (endsOf Kd noE) (start0 N_is_row ss) := by
  rintro Ed ss Kd hl ⟨n, d, rfl, hn, h1, h⟩
  unfold tb_is_row N_is_row
  walk_at "ps"
  exact ⟨n, rfl, hn, n, d, rfl, h1, h⟩
theorem rd_is_table : ∀ Ed ss Kd, ss.length = 2 → sp_is_table Ed ss Kd → tb_is_table (endsOf Kd noE) (start0 N_is_table ss) := by
  rintro Ed ss Kd hl ⟨n, d, rfl, hn, h1, h⟩
  unfold tb_is_table N_is_table
  walk_at "ps"
  exact ⟨n, rfl, hn, n, d, rfl, hn, h1, h⟩
theorem rd_is_matrix : ∀ Ed ss Kd, ss.length = 2 → sp_is_matrix Ed ss Kd → tb_is_matrix (endsOf Kd noE) (start0 N_is_matrix ss) := by
  rintro Ed ss Kd hl ⟨n, d, rfl, hn, h1, h⟩
  unfold tb_is_matrix N_is_matrix
  walk_at "ps"
  exact ⟨n, rfl, hn, n, d, rfl, hn, h1, h⟩
theorem rd_unit_matrix : ∀ Ed ss Kd, ss.length = 1 → sp_unit_matrix Ed ss Kd → tb_unit_matrix (endsOf Kd noE) (start0 N_unit_matrix ss) := by
  rintro Ed ss Kd hl ⟨n, rfl, hn, h⟩
  unfold tb_unit_matrix N_unit_matrix
  walk_at "ps"
  exact ⟨n, rfl, hn, n, rfl, hn, h⟩
theorem up200 {A : Mx} (h : bdM 1000 A) : bdM 10000 A := fun r hr x hx => Nat.lt_of_lt_of_le (h r hr x hx) (Nat.pow_le_pow_right (by decide) (by decide))
theorem okV.bd {n : Nat} {v : List Int} (h : okV n v) : bdV 10000 v := fun x hx => Nat.lt_of_lt_of_le (isI_lt (h.2 x hx)) (Nat.pow_le_pow_right (by decide) (by decide))
theorem lenT {n : Nat} {A : Mx} (h : rectM n A) : (A.map rT).length = n := by rw [List.length_map, h.1]
theorem lenV {n : Nat} {v : List Int} (h : v.length = n) : (v.map D.int).length = n := by rw [List.length_map, h]
theorem rd_matrix_product : ∀ Ed ss Kd, ss.length = 2 → sp_matrix_product Ed ss Kd → tb_matrix_product (endsOf Kd noE) (start0 N_matrix_product ss) := by
  rintro Ed ss Kd hl ⟨n, A, B, rfl, hn, hA, hB, dA, dB, h⟩
  unfold tb_matrix_product N_matrix_product
  walk_at "ps"
  refine ⟨A.map rT, rfl, by rw [lenT hA.1]; exact hn, ?_⟩
  rw [lenT hA.1]
  exact ⟨n, A, rfl, hn, hA, dA, n, B, rfl, hn, hB, dB, n, A, B, rfl, hn, hA.1, hB.1, up200 hA.bd, up200 hB.bd, h⟩
theorem rd_matrix_back : ∀ Ed ss Kd, ss.length = 1 → sp_matrix_back Ed ss Kd → tb_matrix_back (endsOf Kd noE) (start0 N_matrix_back ss) := by
  rintro Ed ss Kd hl ⟨n, A, rfl, hn, hA, dA, h⟩
  unfold tb_matrix_back N_matrix_back
  walk_at "ps"
  refine ⟨A.map rT, rfl, by rw [lenT hA.1]; exact hn, ?_⟩
  rw [lenT hA.1]
  exact ⟨n, A, rfl, hn, hA, dA, n, A, rfl, hn, hA.1, hA.bd, h⟩
theorem rd_normal_row : ∀ Ed ss Kd, ss.length = 1 → sp_normal_row Ed ss Kd → tb_normal_row (endsOf Kd noE) (start0 N_normal_row ss) := by
  rintro Ed ss Kd hl ⟨n, v, rfl, hn, hv, hne, h⟩
  unfold tb_normal_row N_normal_row
  walk_at "ps"
  refine ⟨v.map D.int, rfl, by rw [lenV hv.1]; exact hn, ?_⟩
  rw [lenV hv.1, ints_map]
  refine ⟨n, v, rfl, hn, hv, fun e => ?_, fun e => ⟨v, rfl, by have := hn.le; have := hv.1; omega, h⟩⟩
  obtain ⟨x, hx, x0⟩ := hne
  have : (v.any fun n => !(n == 0)) = true := List.any_eq_true.mpr ⟨x, hx, by simpa using x0⟩
  rw [this] at e
  cases e
theorem rd_square : ∀ Ed ss Kd, ss.length = 1 → sp_square Ed ss Kd → tb_square (endsOf Kd noE) (start0 N_square ss) := by
  rintro Ed ss Kd hl ⟨n, v, rfl, hn, hv, h⟩
  unfold tb_square N_square
  walk_at "ps"
  refine ⟨v.map D.int, rfl, by rw [lenV hv.1]; exact hn, ?_⟩
  rw [lenV hv.1]
  exact ⟨n, v, rfl, hn, hv, v, rfl, by have := hn.le; have := hv.1; omega, hv.bd, h⟩
theorem rd_led_row : ∀ Ed ss Kd, ss.length = 2 → sp_led_row Ed ss Kd → tb_led_row (endsOf Kd noE) (start0 N_led_row ss) := by
  rintro Ed ss Kd hl ⟨n, A, v, rfl, hn, hA, dA, hv, h⟩
  unfold tb_led_row N_led_row
  walk_at "ps"
  refine ⟨A.map rT, rfl, by rw [lenT hA.1]; exact hn, ?_⟩
  rw [lenT hA.1]
  exact ⟨n, A, rfl, hn, hA, dA, n, v, rfl, hn, hv, n, A, v, rfl, hn, hA.1, hv.1, up200 hA.bd, hv.bd, h⟩
theorem rd_l_product : ∀ Ed ss Kd, ss.length = 2 → sp_l_product Ed ss Kd → tb_l_product (endsOf Kd noE) (start0 N_l_product ss) := by
  rintro Ed ss Kd hl ⟨n, A, B, rfl, hn, hA, hB, bA, bB, h⟩
  unfold tb_l_product N_l_product
  walk_at "ps"
  have n4 := hn.le
  have hT := turn_rect hn.pos hB
  refine ⟨n, B, rfl, hn, hB, by rw [List.length_map, hA.1]; omega, lcD_m rT (fun r => rT (mulV (turnM B) r)) A [] (fun r hr k hk => ?_) ?_⟩
  · walk_at "ps"
    exact ⟨n, turnM B, r, rfl, hn, hT, hA.2 r hr, bd_turn bB, bA r hr, hk⟩
  · rw [List.nil_append]
    have e : ∀ r, mulV (turnM B) r = (turnM B).map fun c => dotI r c := fun r => List.map_congr_left fun c _ => dot_comm c r
    simp only [e]
    simpa [mT, mulM, List.map_map, Function.comp_def] using h
theorem rd_l_back : ∀ Ed ss Kd, ss.length = 1 → sp_l_back Ed ss Kd → tb_l_back (endsOf Kd noE) (start0 N_l_back ss) := by
  rintro Ed ss Kd hl ⟨n, A, rfl, hn, hA, hb, h⟩
  unfold tb_l_back N_l_back
  walk_at "ps"
  have n4 := hn.le
  have hR := adj_rect n A
  refine ⟨n, A, _, rfl, .inl rfl, .inr hn, hA, hb, n, A, rfl, hn, hA, hb, by rw [List.length_map, hR.1]; omega, lcD_m rT (fun r => .tup (r.map fun x => .int (detN n A * x))) (adjM n A) [] (fun r hr k hk => ?_) (by rw [List.nil_append]; simpa [rT, mT, backM, scM, sgR, List.map_map, Function.comp_def] using h)⟩
  walk_at "ps"
  refine ⟨by rw [List.length_map, hR.2 r hr]; omega, lcD_m D.int (fun x => .int (detN n A * x)) r [] (fun x hx k2 hk2 => ?_) (by simpa using hk)⟩
  walk_at "ps"
  exact ⟨mul_ok (det_bd' n4 hA hb) (adj_bd hn hA hb r hr x hx) (by decide), hk2⟩

theorem seq_gg {A B : DTS} {E : ES} {ρ : Ev} (h : ∀ T : DTS, T = B → sSeq A T E ρ) : sSeq A B E ρ := h B rfl
theorem filt_empty {α β : Type} (p : α → Bool) (g : α → β) (l : List α) : (l.filterMap fun x => if p x = true then none else some (g x)).isEmpty = l.all p := by
  induction l with
  | nil => rfl
  | cons a l ih =>
    by_cases h : p a = true
    · simp [h, ih]
    · simp [h]
theorem filt_flat {α : Type} (p : α → Bool) (g : α → D) (l : List α) (hg : ∀ x ∈ l, p x ≠ true → D.flat 63 (g x) = true) : D.flat 64 (.lst (l.filterMap fun x => if p x = true then none else some (g x))) = true := by
  refine flats_one _ fun d hd => ?_
  obtain ⟨x, hx, e⟩ := List.mem_filterMap.mp hd
  split at e
  · cases e
  · rename_i h
    cases e
    exact hg x hx h
theorem flat_nil : D.flat 64 (.lst []) = true := rfl
theorem are_loop {n : Nat} {d : D} {E : ES} : ∀ (l : List D), (∀ d ∈ l, cl1 d = true) → ∀ o2, (∀ o2, l.all (rowW n) = true → E.nx [some (.val (.int (n : Nat))), some (.val d), o2, none]) → (l.all (rowW n) = false → E.rt (.bl false)) →
    forD (gN 2) (sIf (dOr (dNot (dTru (dIsi "tuple" (dVar 2)))) (dOr (dTest (dOp fNe (dCB fLen (vCons (dVar 2) (vNil))) (dVar 0))) (dTest (dOp fNe (dLc (iSeq (dVar 2)) (gN 3) (dNot (dTru (dCall 1 sp_l_is_whole (aCons (xVar 3) (aNil))))) (dC (.int 1)) [3]) (dLst (vNil)))))) (sRet (dC (.bl false))) (sPass))
      E l [some (.val (.int (n : Nat))), some (.val d), o2, none]
  | [], _, o2, h, _ => h o2 rfl
  | r :: l, hl, o2, h, hf => by
    have hr := hl r List.mem_cons_self
    have ih := fun o2 => are_loop (n := n) (d := d) (E := E) l (fun d hd => hl d (List.mem_cons_of_mem _ hd)) o2
    unfold forD
    have no : rowW n r = false → E.rt (.bl false) := fun e => hf (by rw [List.all_cons, e]; rfl)
    have yes : rowW n r = true → (∀ o2, l.all (rowW n) = true → E.nx [some (.val (.int (n : Nat))), some (.val d), o2, none]) ∧ (l.all (rowW n) = false → E.rt (.bl false)) := fun e =>
      ⟨fun o2 z => h o2 (by rw [List.all_cons, e, z]; rfl), fun z => hf (by rw [List.all_cons, e, z]; rfl)⟩
    cases r with
    | tup xs =>
      obtain ⟨c1, c2⟩ := cl1_tup hr
      walk_at "ps"
      refine ⟨rfl, fun e => (by cases e), fun _ => ⟨fun e => ?_, fun e => ?_⟩⟩
      · exact no (by simp [rowW, show xs.length ≠ n by omega])
      · refine ⟨by omega, ?_⟩
        have fin : ∀ k : D → Prop, k (.lst (xs.filterMap fun x => if isW x = true then none else some (.int 1))) → lcD (gN 3) (dNot (dTru (dCall 1 sp_l_is_whole (aCons (xVar 3) aNil)))) (dC (.int 1)) [some (.val (.int (n : Nat))), some (.val d), some (.val (.tup xs)), none] k xs [] := fun k hk => by
          have z : lcD (gN 3) (dNot (dTru (dCall 1 sp_l_is_whole (aCons (xVar 3) aNil)))) (dC (.int 1)) [some (.val (.int (n : Nat))), some (.val d), some (.val (.tup xs)), none] k (xs.map fun x => x) [] := by
            refine lcD_f (fun x => x) (fun x => if isW x = true then none else some (.int 1)) xs [] (fun x hx k1 k0 h1 h0 => ?_) hk
            walk_at "ps"
            refine ⟨x, rfl, c1 x hx, fun e => ?_, fun e => ?_⟩
            · exact h1 _ (if_neg (by rw [e]; decide))
            · exact h0 (if_pos e)
          rwa [← map_id'] at z
        refine fin _ ?_
        refine ⟨by decide, filt_flat _ _ _ (fun _ _ _ => rfl), flat_nil, ?_⟩
        rw [eqv_lnil, filt_empty]
        have er : rowW n (.tup xs) = xs.all isW := by simp [rowW, show xs.length = n by omega]
        rw [er] at no yes
        refine ⟨fun e => no e, fun e => ?_⟩
        obtain ⟨a, b⟩ := yes (by simpa using e)
        exact ih _ a b
    | scr ns => cases cl1_no hr
    | obj _ _ _ => cases cl1_no hr
    | cls _ => cases cl1_no hr
    | rng _ _ => cases cl1_no hr
    | _ =>
      walk_at "ps"
      exact ⟨rfl, fun _ => no rfl, fun e => (by cases e)⟩
theorem rd_l_are_rows : ∀ Ed ss Kd, ss.length = 2 → sp_l_are_rows Ed ss Kd → tb_l_are_rows (endsOf Kd noE) (start0 N_l_are_rows ss) := by
  rintro Ed ss Kd hl ⟨n, d, rfl, h1, h⟩
  unfold tb_l_are_rows N_l_are_rows
  have no : rowsW n d = false → Kd (.bl false) := fun e => by rwa [e] at h
  cases d with
  | tup xs =>
    obtain ⟨c1, c2⟩ := cl2_tup h1
    refine seq_gg fun T hT => ?_
    walk_at "ps"
    refine ⟨rfl, fun e => (by cases e), fun _ => ⟨fun e => ?_, fun e => ?_⟩⟩
    · exact no (by simp [rowsW, show xs.length ≠ n by omega])
    · have er : rowsW n (.tup xs) = xs.all (rowW n) := by simp [rowsW, show xs.length = n by omega]
      rw [er] at h
      subst hT
      unfold sSeq
      refine are_loop xs c1 _ (fun o2 e => ?_) (fun e => ?_)
      · rw [e] at h
        exact h
      · rw [e] at h
        exact h
  | scr ns => cases cl2_no h1
  | obj _ _ _ => cases cl2_no h1
  | cls _ => cases cl2_no h1
  | rng _ _ => cases cl2_no h1
  | _ =>
    walk_at "ps"
    exact ⟨rfl, fun _ => no rfl, fun e => (by cases e)⟩
theorem rowsW_of {n : Nat} {A : Mx} (h : rectM n A) : rowsW n (mT A) = true := by
  show (decide _ && _) = true
  rw [Bool.and_eq_true_iff]
  refine ⟨decide_eq_true (by simpa using h.1), List.all_eq_true.mpr fun d hd => ?_⟩
  obtain ⟨r, hr, rfl⟩ := List.mem_map.mp hd
  show (decide _ && _) = true
  rw [Bool.and_eq_true_iff]
  refine ⟨decide_eq_true (by simpa using h.2 r hr), List.all_eq_true.mpr fun d hd => ?_⟩
  obtain ⟨x, hx, rfl⟩ := List.mem_map.mp hd
  rfl
theorem rd_l_is_table : ∀ Ed ss Kd, ss.length = 2 → sp_l_is_table Ed ss Kd → tb_l_is_table (endsOf Kd noE) (start0 N_l_is_table ss) := by
  rintro Ed ss Kd hl ⟨n, A, rfl, hn, hA, h⟩
  unfold tb_l_is_table N_l_is_table
  walk_at "ps"
  refine ⟨n, _, rfl, cl2_mT (by have := hn.le; omega) hA, fun e => ⟨n, A, rfl, hn, hA, flat_mT _, flat_mT _, ?_⟩, fun e => ?_⟩
  · rw [eqv_mT]
    exact h
  · rw [rowsW_of hA] at e; cases e
theorem rd_l_is_matrix : ∀ Ed ss Kd, ss.length = 2 → sp_l_is_matrix Ed ss Kd → tb_l_is_matrix (endsOf Kd noE) (start0 N_l_is_matrix ss) := by
  rintro Ed ss Kd hl ⟨n, A, rfl, hn, hA, hb, h⟩
  unfold tb_l_is_matrix N_l_is_matrix
  walk_at "ps"
  refine ⟨n, _, rfl, cl2_mT (by have := hn.le; omega) hA, fun e => ⟨n, A, _, rfl, .inl rfl, .inr hn, hA, hb, by decide, rfl, rfl, ?_⟩, fun e => ?_⟩
  · simp only [List.any_cons, List.any_nil]
    rw [pmB]
    exact h
  · rw [rowsW_of hA] at e; cases e
theorem isI_abs (i : Int) : isI (.int i) = decide ((if i < 0 then -i else i) < 1000000000000000000000000000000000000000000000000000000000000) := by
  show (decide (-1000000000000000000000000000000000000000000000000000000000000 < i) && decide (i < 1000000000000000000000000000000000000000000000000000000000000)) = _
  rw [← Bool.decide_and]
  congr 1
  apply propext
  split <;> omega
theorem p60 : (10 : Int) ^ (Int.toNat 60) = 1000000000000000000000000000000000000000000000000000000000000 := by decide
theorem pw60 : PowOk 10 60 := ⟨by decide, by decide +kernel⟩
theorem rd_l_is_short : ∀ Ed ss Kd, ss.length = 1 → sp_l_is_short Ed ss Kd → tb_l_is_short (endsOf Kd noE) (start0 N_l_is_short ss) := by
  rintro Ed ss Kd hl ⟨v, rfl, hv, h⟩
  unfold tb_l_is_short N_l_is_short
  walk_at "ps"
  refine ⟨by rw [List.length_map]; omega, lcD_f D.int (fun x : Int => if isI (.int x) = true then none else some (.int x)) v [] (fun x hx k1 k0 h1 h0 => ?_) ?_⟩
  · walk_at "ps"
    rw [p60]
    refine ⟨pw60, fun e => h1 _ (if_neg ?_), fun e => h0 (if_pos ?_)⟩
    · rw [isI_abs, decide_eq_true_eq]
      omega
    · rw [isI_abs, decide_eq_true_eq]
      omega
  · rw [List.nil_append]
    refine ⟨by decide, filt_flat (fun x : Int => isI (.int x)) _ _ (fun _ _ _ => rfl), flat_nil, ?_⟩
    rw [eqv_lnil, filt_empty (fun x : Int => isI (.int x))]
    rw [List.all_map] at h
    exact h
theorem isW_int {d : D} (h : isW d = true) : ∃ a, d = .int a := by
  cases d <;> first | (cases h; done) | exact ⟨_, rfl⟩
theorem flats_all : ∀ {n : Nat} {xs : List D}, flats n xs = true → ∀ x ∈ xs, D.flat n x = true
  | _, [], _, _, h => by cases h
  | n, y :: xs, e, x, h => by
    unfold flats at e
    rw [Bool.and_eq_true_iff] at e
    rcases List.mem_cons.mp h with rfl | h
    · exact e.1
    · exact flats_all e.2 x h
theorem rd_l_is_row_told : ∀ Ed ss Kd, ss.length = 2 → sp_l_is_row_told Ed ss Kd → tb_l_is_row_told (endsOf Kd noE) (start0 N_l_is_row_told ss) := by
  rintro Ed ss Kd hl ⟨n, d, rfl, hn, h1, hf, h⟩
  unfold tb_l_is_row_told N_l_is_row_told
  have no : rowB n d = false → Kd (.bl false) := fun e => by rwa [e] at h
  cases d with
  | tup xs =>
    obtain ⟨c1, c2⟩ := cl1_tup h1
    have hf' := flats_all (n := 63) (xs := xs) hf
    refine seq_gg fun T hT => ?_
    walk_at "ps"
    refine ⟨rfl, fun e => (by cases e), fun _ => ⟨fun e => ?_, fun e => ⟨by omega, ?_⟩⟩⟩
    · exact no (by simp [rowB, show xs.length ≠ n by omega])
    · have fin : ∀ k : D → Prop, k (.lst (xs.filterMap fun x => if isW x = true then none else some x)) → lcD (gN 2) (dNot (dTru (dCall 1 sp_l_is_whole (aCons (xVar 2) aNil)))) (dVar 2) [some (.val (.int (n : Nat))), some (.val (.tup xs)), none] k xs [] := fun k hk => by
        have z : lcD (gN 2) (dNot (dTru (dCall 1 sp_l_is_whole (aCons (xVar 2) aNil)))) (dVar 2) [some (.val (.int (n : Nat))), some (.val (.tup xs)), none] k (xs.map fun x => x) [] := by
          refine lcD_f (fun x => x) (fun x => if isW x = true then none else some x) xs [] (fun x hx k1 k0 h1 h0 => ?_) hk
          walk_at "ps"
          refine ⟨x, rfl, c1 x hx, fun e => ?_, fun e => ?_⟩
          · exact h1 _ (if_neg (by rw [e]; decide))
          · exact h0 (if_pos e)
        rwa [← map_id'] at z
      refine fin _ ?_
      refine ⟨by decide, filt_flat isW (fun x => x) _ (fun x hx _ => hf' x hx), flat_nil, ?_⟩
      rw [eqv_lnil, filt_empty isW (fun x => x)]
      refine ⟨fun e => no ?_, fun e => ?_⟩
      · have : ¬ (xs.all isI = true) := fun z => by
          have : xs.all isW = true := List.all_eq_true.mpr fun x hx => by
            obtain ⟨a, rfl⟩ := isI_int (List.all_eq_true.mp z x hx)
            rfl
          rw [this] at e
          cases e
        show (decide _ && _) = false
        rw [Bool.eq_false_iff.mpr this, Bool.and_false]
      · obtain ⟨v, rfl⟩ := row_ints (fun d => isW_int) (by simpa using e : xs.all isW = true)
        subst hT
        walk_at "ps"
        refine ⟨v, rfl, by simpa using c2, ?_⟩
        have : rowB n (rT v) = (v.map D.int).all isI := by
          simp only [List.length_map] at *
          show (decide _ && _) = _
          rw [decide_eq_true (by rw [List.length_map]; omega), Bool.true_and]
        rw [this] at h
        exact h
  | scr ns => cases cl1_no h1
  | obj _ _ _ => cases cl1_no h1
  | cls _ => cases cl1_no h1
  | rng _ _ => cases cl1_no h1
  | _ =>
    walk_at "ps"
    exact ⟨rfl, fun _ => no rfl, fun e => (by cases e)⟩

theorem ixL {n : Nat} {A : Mx} (h : rectM n A) {i : Nat} (hi : i < n) : atI (A.map rL) (i : Int) = some (rL (A.getD i [])) := by
  rw [atI_map, atI_lt [] (by rw [h.1]; exact hi)]
  rfl
theorem lenL {n : Nat} {A : Mx} (h : rectM n A) : (A.map rL).length = n := by rw [List.length_map, h.1]
theorem zip_with {α β γ : Type} (f : α → β → γ) : ∀ (r : List α) (c : List β), (r.zip c).map (fun p => f p.1 p.2) = List.zipWith f r c
  | [], c => by simp
  | a :: r, [] => by simp
  | a :: r, x :: c => by
    rw [List.zip_cons_cons, List.map_cons, List.zipWith_cons_cons, zip_with f r c]
theorem rngK (k m : Nat) : rngD (k : Int) m = (List.range m).map fun i : Nat => D.int ((k + i : Nat) : Int) := by
  unfold rngD
  exact List.map_congr_left fun i _ => by rw [Int.natCast_add]
theorem range_cons (q m : Nat) {α : Type} (f : Nat → α) : (List.range (m + 1)).map (fun i => f (q + i)) = f q :: (List.range m).map fun i => f (q + 1 + i) := by
  rw [List.range_succ_eq_map, List.map_cons, List.map_map]
  refine congrArg (List.cons (f q)) (List.map_congr_left fun i _ => ?_)
  show f (q + (i + 1)) = f (q + 1 + i)
  congr 1
  omega
def midB : DTS := sSeq (sAsg (dOwnIx 2 (dVar 7)) (gN 8)) (sOwnSet 2 (dVar 7) (dLc (iZp (vCons (dVar 8) (vCons (dVar 6) (vNil)))) (gT 2 (gsC (gN 10) (gsC (gN 11) (gsN)))) (dYes) (dOp (fInt2 DivOk Int.fdiv) (dOp fSub (dOp fRep (dOp fIx (dVar 6) (dVar 1)) (dVar 10)) (dOp fRep (dOp fIx (dVar 8) (dVar 1)) (dVar 11))) (dVar 4)) [10, 11]))
theorem elim_loop {n k : Nat} (n4 : n ≤ 4) (hk : k < n) {L1 : Mx} {b : Nat} (hb4 : b < 8100) (hr1 : rectM n L1) (hb : bdM b L1) {h : Int} (h0 : h ≠ 0) (hh : h.natAbs < 2 ^ b) {dd : D} {s : Int} {sl : Option Sl} {E : ES} :
    ∀ (m q : Nat) (L2 : Mx), q + m = n → k < q → rectM n L2 → (∀ i, i < n → (i ≤ k ∨ q ≤ i) → L2.getD i [] = L1.getD i []) → (∀ i, k < i → i < q → i < n → L2.getD i [] = elimR h k (L1.getD k []) (L1.getD i [])) → ∀ o7 o8,
    (∀ (L2 : Mx) o7 o8, rectM n L2 → (∀ i, i ≤ k → i < n → L2.getD i [] = L1.getD i []) → (∀ i, k < i → i < n → L2.getD i [] = elimR h k (L1.getD k []) (L1.getD i [])) →
      E.nx [some (.val dd), some (.val (.int (k : Nat))), some (.own (.lst (L2.map rL))), some (.val (.int s)), some (.val (.int h)), sl, some (.val (rL (L1.getD k []))), o7, o8, none, none, none]) →
    forD (gN 7) midB E ((List.range m).map fun i : Nat => D.int ((q + i : Nat) : Int))
      [some (.val dd), some (.val (.int (k : Nat))), some (.own (.lst (L2.map rL))), some (.val (.int s)), some (.val (.int h)), sl, some (.val (rL (L1.getD k []))), o7, o8, none, none, none]
  | 0, q, L2, hq, hkq, hr2, h1, h2, o7, o8, hE => by
    unfold forD
    exact hE L2 o7 o8 hr2 (fun i a b => h1 i b (.inl a)) fun i a b => h2 i a (by omega) b
  | m + 1, q, L2, hq, hkq, hr2, h1, h2, o7, o8, hE => by
    rw [range_cons q m (fun j : Nat => D.int (j : Int))]
    unfold forD midB
    have hqn : q < n := by omega
    have e2 : L2.getD q [] = L1.getD q [] := h1 q hqn (.inr (Nat.le_refl _))
    walk_at "ps"
    rw [ixL hr2 hqn, e2]
    walk_at "ps"
    rw [zip_ints]
    have lk := getD_row hr1 hk
    have lq := getD_row hr1 hqn
    have bk := hb _ (getD_mem hr1.1 hk)
    have bq := hb _ (getD_mem hr1.1 hqn)
    refine ⟨by simp only [List.length_map, List.length_zip]; omega, lcD_m _ (fun p : Int × Int => .int ((((L1.getD k []).getD k 0) * p.1 - ((L1.getD q []).getD k 0) * p.2).fdiv h)) _ [] (fun p hp kk hkk => ?_) ?_⟩
    · unfold prD
      walk_at "ps"
      rw [ixV (by rw [lk]; exact hk), ixV (by rw [lq]; exact hk)]
      have m1 := bq _ (List.of_mem_zip hp).1
      have m2 := bk _ (List.of_mem_zip hp).2
      have g1 := getD_bd bk k
      have g2 := getD_bd bq k
      exact ⟨mul_ok g1 m1 (by omega), mul_ok g2 m2 (by omega), ⟨h0, Nat.lt_of_le_of_lt (log_lt hh) (by omega)⟩, hkk⟩
    · rw [lenL hr2, Evl.ixN_nat hqn, List.nil_append]
      have er : (((L1.getD q []).zip (L1.getD k [])).map fun p : Int × Int => D.int ((((L1.getD k []).getD k 0) * p.1 - ((L1.getD q []).getD k 0) * p.2).fdiv h)) = (elimR h k (L1.getD k []) (L1.getD q [])).map D.int := by
        unfold elimR
        rw [← zip_with, List.map_map]
        rfl
      simp only [er]
      have es : (L2.map rL).set q (.lst ((elimR h k (L1.getD k []) (L1.getD q [])).map D.int)) = (L2.set q (elimR h k (L1.getD k []) (L1.getD q []))).map rL := by rw [List.map_set]
      rw [es]
      have hl : (elimR h k (L1.getD k []) (L1.getD q [])).length = n := by rw [elim_len (by rw [lk, lq]), lq]
      refine elim_loop n4 hk hb4 hr1 hb h0 hh m (q + 1) _ (by omega) (by omega) (set_rect hr2 hl) (fun i hi hor => ?_) (fun i a b c => ?_) _ _ hE
      · rw [getD_set (by rw [hr2.1]; exact hqn), if_neg (by omega)]
        exact h1 i hi (by omega)
      · rw [getD_set (by rw [hr2.1]; exact hqn)]
        by_cases e : q = i
        · subst e
          rw [if_pos rfl]
        · rw [if_neg e]
          exact h2 i a (by omega) c
def barB : DTS := sSeq (sAsg (dLc (iR2 (vCons (dVar 1) (vCons (dOwnLen 2) (vNil)))) (gN 7) (dTest (dOp fNe (dOp fIx (dOwnIx 2 (dVar 7)) (dVar 1)) (dC (.int 0)))) (dVar 7) [7]) (gN 5)) (sSeq (sIf (dTest (dOp fEq (dVar 5) (dLst (vNil)))) (sRet (dC (.int 0))) (sPass)) (sSeq (sIf (dTest (dOp fNe (dOp fIx (dVar 5) (dC (.int 0))) (dVar 1))) (sSeq (sOwnPair 2 (dVar 1) (dOp fIx (dVar 5) (dC (.int 0))) (dOwnIx 2 (dOp fIx (dVar 5) (dC (.int 0)))) (dOwnIx 2 (dVar 1))) (sAsg (dOp fSub (dC (.int 0)) (dVar 3)) (gN 3))) (sPass)) (sSeq (sAsg (dOwnIx 2 (dVar 1)) (gN 6)) (sSeq (sFor (iR2 (vCons (dOp fAdd (dVar 1) (dC (.int 1))) (vCons (dOwnLen 2) (vNil)))) (gN 7) midB) (sAsg (dOp fIx (dVar 6) (dVar 1)) (gN 4))))))
theorem bar_tail {n k : Nat} (hn : sz1 n) (hk : k < n) {A0 L : Mx} {s h : Int} (b : BInv n k A0 L s h) (hp : ent L k k ≠ 0) {E : ES} {dd : D} {o5 o6 o7 o8 : Option Sl}
    (hE : ∀ (L2 : Mx) o6 o7 o8, BInv n (k + 1) A0 L2 s (ent L k k) → E.nx [some (.val dd), some (.val (.int (k : Nat))), some (.own (.lst (L2.map rL))), some (.val (.int s)), some (.val (.int (ent L k k))), o5, o6, o7, o8, none, none, none]) :
    sSeq (sAsg (dOwnIx 2 (dVar 1)) (gN 6)) (sSeq (sFor (iR2 (vCons (dOp fAdd (dVar 1) (dC (.int 1))) (vCons (dOwnLen 2) (vNil)))) (gN 7) midB) (sAsg (dOp fIx (dVar 6) (dVar 1)) (gN 4))) E
      [some (.val dd), some (.val (.int (k : Nat))), some (.own (.lst (L.map rL))), some (.val (.int s)), some (.val (.int h)), o5, o6, o7, o8, none, none, none] := by
  have n4 : n ≤ 4 := by unfold sz1 sz at hn; omega
  walk_at "ps"
  rw [ixL b.r hk]
  walk_at "ps"
  rw [lenL b.r, show ((k : Int) + 1) = ((k + 1 : Nat) : Int) by omega, show (((n : Nat) : Int) - ((k + 1 : Nat) : Int)).toNat = n - (k + 1) by omega, rngK]
  refine ⟨by omega, by omega, by omega, by omega, ?_⟩
  refine elim_loop n4 hk (bB_le (by omega)) b.r b.bd b.h0 b.hb (n - (k + 1)) (k + 1) L (by omega) (by omega) b.r (fun i _ _ => rfl) (fun i a b c => by omega) _ _ fun L2 o7 o8 hr hs he => ?_
  have st := binv_step hn hk b hp hr hs he
  show (match atI ((L.getD k []).map D.int) (k : Int) with | some d => _ | none => False)
  rw [ixV (by rw [getD_row b.r hk]; exact hk)]
  exact hE L2 _ _ _ st
theorem bar_loop {n : Nat} (hn : sz1 n) {A0 : Mx} {E : ES} {dd : D} (h0 : detN n A0 = 0 → E.rt (.int 0)) (hE : ∀ (L : Mx) s h o1 o5 o6 o7 o8, BInv n n A0 L s h → E.nx [some (.val dd), o1, some (.own (.lst (L.map rL))), some (.val (.int s)), some (.val (.int h)), o5, o6, o7, o8, none, none, none]) :
    ∀ (m k : Nat) (L : Mx) (s h : Int) (o1 o5 o6 o7 o8 : Option Sl), k + m = n → BInv n k A0 L s h → 
    forD (gN 1) barB E ((List.range m).map fun i : Nat => D.int ((k + i : Nat) : Int)) [some (.val dd), o1, some (.own (.lst (L.map rL))), some (.val (.int s)), some (.val (.int h)), o5, o6, o7, o8, none, none, none]
  | 0, k, L, s, h, o1, o5, o6, o7, o8, hk, b => by
    unfold forD
    have : k = n := by omega
    subst this
    exact hE L s h _ _ _ _ _ b
  | m + 1, k, L, s, h, o1, o5, o6, o7, o8, hkm, b => by
    have n4 : n ≤ 4 := by unfold sz1 sz at hn; omega
    have hk : k < n := by omega
    rw [range_cons k m (fun j : Nat => D.int (j : Int))]
    unfold forD barB
    refine seq_gg fun T hT => ?_
    walk_at "ps"
    rw [lenL b.r, show (((n : Nat) : Int) - ((k : Nat) : Int)).toNat = n - k by omega, rngK]
    refine ⟨by omega, by omega, by omega, by omega, by simp; omega, ?_⟩
    refine lcD_f _ (fun i : Nat => if ent L (k + i) k = 0 then none else some (.int ((k + i : Nat) : Int))) (List.range (n - k)) [] (fun i hi k1 k0 h1 h0 => ?_) ?_
    · have hi := List.mem_range.mp hi
      walk_at "ps"
      rw [ixL b.r (by omega : k + i < n)]
      show (match atI ((L.getD (k + i) []).map D.int) (k : Int) with | some d => _ | none => False)
      rw [ixV (by rw [getD_row b.r (by omega)]; omega)]
      walk_at "ps"
      exact ⟨fun e => h1 _ (if_neg e), fun e => h0 (if_pos e)⟩
    · rw [List.nil_append]
      cases e : (List.range (n - k)).filterMap (fun i : Nat => if ent L (k + i) k = 0 then none else some (D.int ((k + i : Nat) : Int))) with
      | nil =>
        have z : ∀ i, k ≤ i → i < n → ent L i k = 0 := fun i h1 h2 => by
          have := List.filterMap_eq_nil_iff.mp e (i - k) (List.mem_range.mpr (by omega))
          rw [show k + (i - k) = i by omega] at this
          by_cases q : ent L i k = 0
          · exact q
          · rw [if_neg q] at this; cases this
        have d0 := binv_zero hn hk b z
        subst hT
        walk_at "ps"
        exact ⟨by decide, rfl, rfl, fun _ => h0 d0, fun e => (by cases e)⟩
      | cons x l =>
        have hx : x ∈ (List.range (n - k)).filterMap (fun i : Nat => if ent L (k + i) k = 0 then none else some (D.int ((k + i : Nat) : Int))) := by rw [e]; exact List.mem_cons_self
        have hfl : ∀ y ∈ x :: l, D.flat 63 y = true := fun y hy => by
          rw [← e] at hy
          obtain ⟨i, _, ei⟩ := List.mem_filterMap.mp hy
          split at ei
          · cases ei
          · cases ei; rfl
        obtain ⟨i, hi, ei⟩ := List.mem_filterMap.mp hx
        have hi := List.mem_range.mp hi
        clear hx e
        split at ei
        · cases ei
        rename_i ne
        cases ei
        subst hT
        refine seq_gg fun T hT => ?_
        walk_at "ps"
        refine ⟨by decide, flats_one _ hfl, rfl, fun e => ?_, fun _ => ?_⟩
        · rw [eqv_lnil] at e
          cases e
        subst hT
        refine seq_gg fun T hT => ?_
        have ih := fun L s h o1 o5 o6 o7 o8 b => bar_loop hn h0 hE m (k + 1) L s h o1 o5 o6 o7 o8 (by omega) b
        walk_at "ps"
        refine ⟨fun ne2 => ?_, fun e2 => ?_⟩
        · have ki : k < k + i := by omega
          have kin : k + i < n := by omega
          rw [ixL b.r kin]
          walk_at "ps"
          rw [ixL b.r hk]
          walk_at "ps"
          rw [lenL b.r, Evl.ixN_nat hk]
          walk_at "ps"
          rw [List.length_set, lenL b.r, Evl.ixN_nat kin]
          walk_at "ps"
          have es : ((L.map rL).set k (rL (L.getD (k + i) []))).set (k + i) (rL (L.getD k [])) = (swL k (k + i) L).map rL := by
            unfold swL
            rw [List.map_set, List.map_set]
          show T _ [_, _, some (.own (.lst (((L.map rL).set k (rL (L.getD (k + i) []))).set (k + i) (rL (L.getD k []))))), _, _, _, _, _, _, _, _, _]
          rw [es]
          have b2 := binv_swap hn b ki kin
          have ep : ent (swL k (k + i) L) k k ≠ 0 := by
            unfold ent
            rw [sw_get b.r.1 hk kin, if_pos rfl]
            exact ne
          subst hT
          exact bar_tail hn hk b2 ep fun L2 o6 o7 o8 b3 => ih _ _ _ _ _ _ _ _ b3
        · have i0 : i = 0 := by omega
          subst i0
          subst hT
          exact bar_tail hn hk b ne fun L2 o6 o7 o8 b3 => ih _ _ _ _ _ _ _ _ b3
theorem rd_l_determinant : ∀ Ed ss Kd, ss.length = 1 → sp_l_determinant Ed ss Kd → tb_l_determinant (endsOf Kd noE) (start0 N_l_determinant ss) := by
  rintro Ed ss Kd hl ⟨n, A, d, rfl, hd, hn, hA, hb, h⟩
  have n4 : n ≤ 4 := by unfold sz1 sz at hn; omega
  show (sSeq (sTupO 2 3 4 (nLc (iSeq (dVar 0)) (gN 9) (dYes) (dCB fList (vCons (dVar 9) (vNil))) [9]) (dC (.int 1)) (dC (.int 1))) (sSeq (sFor (iR1 (dOwnLen 2)) (gN 1) barB) (sFreeze 2 (sRet (dOp fRep (dVar 3) (dVar 4)))))) _ _
  unfold N_l_determinant
  refine seq_gg fun T hT => ?_
  have fin : T (endsOf Kd noE) [some (.val d), none, some (.own (.lst (A.map rL))), some (.val (.int 1)), some (.val (.int 1)), none, none, none, none, none, none, none] := by
    subst hT
    refine seq_gg fun T hT => ?_
    walk_at "ps"
    rw [lenL hA, rng0]
    refine ⟨by omega, by omega, ?_⟩
    have e0 : ((List.range n).map fun i : Nat => D.int (i : Int)) = (List.range n).map fun i : Nat => D.int ((0 + i : Nat) : Int) := List.map_congr_left fun i _ => by rw [Nat.zero_add]
    rw [e0]
    refine bar_loop hn (fun e => ?_) (fun L s hh o1 o5 o6 o7 o8 b => ?_) n 0 A 1 1 _ _ _ _ _ (by omega) (binv_start hn hA hb)
    · rw [e] at h
      exact h
    · have z := binv_end b
      subst hT
      walk_at "ps"
      rw [z]
      refine ⟨?_, h⟩
      rcases b.sg with rfl | rfl
      · exact mul_okL (by decide) (by decide)
      · exact mul_okL (by decide) (by decide)
  have go : ∀ f : List Int → D, (f = rT ∨ f = rL) → ∀ (E : ES) (K : D → Prop), K (.lst (A.map rL)) → (A.map f).length ≤ 1000000 ∧ lcD (gN 9) dYes (dCB fList (vCons (dVar 9) vNil)) [some (.val d), none, none, none, none, none, none, none, none, none, none, none] K (A.map f) [] := fun f hf E K hK => by
    refine ⟨by rw [List.length_map, hA.1]; omega, lcD_m f rL A [] (fun r hr k hk => ?_) (by rw [List.nil_append]; exact hK)⟩
    rcases hf with rfl | rfl
    · walk_at "ps"
      exact hk
    · walk_at "ps"
      exact hk
  rcases hd with rfl | rfl | rfl
  · walk_at "ps"
    exact go rT (.inl rfl) (endsOf Kd noE) _ ⟨by simp, fin⟩
  · walk_at "ps"
    exact go rL (.inr rfl) (endsOf Kd noE) _ ⟨by simp, fin⟩
  · walk_at "ps"
    exact go rT (.inl rfl) (endsOf Kd noE) _ ⟨by simp, fin⟩

theorem zip_range (row : List Int) : row.zipIdx = (List.range row.length).map fun s => (row.getD s 0, s) := by
  refine List.ext_getElem (by simp) fun i h1 h2 => ?_
  have hi : i < row.length := by simpa using h1
  rw [List.getElem_zipIdx, List.getElem_map, List.getElem_range, Nat.zero_add, List.getD_eq_getElem?_getD, List.getElem?_eq_getElem hi]
  rfl
theorem row_skip {β : Type} (g : Int → β) (row : List Int) (a : Nat) : (List.range row.length).filterMap (fun s => if s = a then none else some (g (row.getD s 0))) = (row.eraseIdx a).map g := by
  have := zip_skip g row 0 a
  rw [zip_range, List.filterMap_map, Nat.zero_add] at this
  exact this
def adjE (n : Nat) (A : Mx) (a p : Nat) : Int := detN (n - 1) ((A.eraseIdx p).map (·.eraseIdx a)) * (1 - 2 * (((a : Int) + (p : Int)).fmod 2))
theorem adjE_eq (n : Nat) (A : Mx) (a p : Nat) : adjE n A a p = cof n A p a := by
  unfold adjE cof
  have e : ((a : Int) + (p : Int)) = ((a + p : Nat) : Int) := by omega
  rw [e, Int.fmod_eq_emod_of_nonneg _ (by decide)]
  simp only
  have : ((a + p : Nat) : Int) % 2 = 0 ∨ ((a + p : Nat) : Int) % 2 = 1 := by omega
  rcases this with q | q
  · rw [q, if_neg (by omega)]; simp
  · rw [q, if_pos (by omega)]; omega
def linB : DTS := sSeq (sAsg (dLc (iEnA (vCons (dVar 0) (vNil))) (gT 2 (gsC (gN 8) (gsC (gN 9) (gsN)))) (dTest (dOp fNe (dVar 8) (dVar 5))) (dLc (iR1 (dVar 2)) (gN 7) (dTest (dOp fNe (dVar 7) (dVar 1))) (dOp fIx (dVar 9) (dVar 7)) [7]) [8, 9]) (gN 6)) (sOwnApp 4 (dOp fRep (dCall 1 sp_l_determinant (aCons (xVar 6) (aNil))) (dOp fSub (dC (.int 1)) (dOp fRep (dC (.int 2)) (dOp (fInt2 (fun _ j => j ≠ 0) Int.fmod) (dOp fAdd (dVar 1) (dVar 5)) (dC (.int 2)))))))
theorem lin_loop {n : Nat} (hn : sz n) {A : Mx} (hA : rectM n A) (hb : bdM 1000 A) {a : Nat} (ha : a < n) {E : ES} {fs : Sl} :
    ∀ (m q : Nat) (ls : List Int) (o5 o6 : Option Sl), q + m = n → ls.length ≤ 10 - m →
    (∀ o5 o6, E.nx [some (.val (mT A)), some (.val (.int (a : Nat))), some (.val (.int (n : Nat))), some fs, some (.own (.lst ((ls ++ (List.range m).map fun i => adjE n A a (q + i)).map D.int))), o5, o6, none, none, none]) →
    forD (gN 5) linB E ((List.range m).map fun i : Nat => D.int ((q + i : Nat) : Int)) [some (.val (mT A)), some (.val (.int (a : Nat))), some (.val (.int (n : Nat))), some fs, some (.own (.lst (ls.map D.int))), o5, o6, none, none, none]
  | 0, q, ls, o5, o6, _, _, hE => by
    unfold forD
    simpa using hE o5 o6
  | m + 1, q, ls, o5, o6, hq, hls, hE => by
    have n4 := hn.le
    have hqn : q < n := by omega
    rw [range_cons q m (fun j : Nat => D.int (j : Int))]
    unfold forD linB
    walk_at "ps"
    rw [enum_rows]
    refine ⟨by simp only [List.length_map, List.length_zipIdx, hA.1]; omega, ?_⟩
    refine lcD_f _ (fun p : List Int × Nat => if p.2 = 0 + q then none else some (rL (p.1.eraseIdx a))) A.zipIdx [] (fun p hp k1 k0 h1 h0 => ?_) ?_
    · obtain ⟨_, q2, q3⟩ := List.mem_zipIdx hp
      have hr : p.1.length = n := hA.2 _ (by rw [q3]; exact List.getElem_mem _)
      unfold prD
      walk_at "ps"
      refine ⟨fun e => ⟨by omega, by omega, ?_⟩, fun e => h0 (if_pos (by omega))⟩
      rw [rng0]
      refine ⟨by simp; omega, lcD_f _ (fun s : Nat => if s = a then none else some (.int (p.1.getD s 0))) (List.range n) [] (fun s hs k3 k2 h3 h2 => ?_) ?_⟩
      · have hs := List.mem_range.mp hs
        walk_at "ps"
        refine ⟨fun e => ?_, fun e => h2 (if_pos (by omega))⟩
        rw [ixV (by omega)]
        exact h3 _ (if_neg (by omega))
      · rw [List.nil_append, ← hr, row_skip D.int p.1 a]
        exact h1 _ (if_neg (by omega))
    · rw [List.nil_append, zip_skip (fun r : List Int => rL (r.eraseIdx a)) A 0 q]
      have em : D.lst ((A.eraseIdx q).map fun r => rL (r.eraseIdx a)) = mL ((A.eraseIdx q).map (·.eraseIdx a)) := by
        simp [mL, List.map_map, Function.comp_def]
      rw [em]
      have hm : (1 - 2 * (((a : Int) + (q : Int)).fmod 2)) = 1 ∨ (1 - 2 * (((a : Int) + (q : Int)).fmod 2)) = -1 := by
        rw [Int.fmod_eq_emod_of_nonneg _ (by decide)]
        omega
      refine ⟨n - 1, _, _, rfl, .inr (.inl rfl), ?_, cut_rect hA hqn ha, cut_bd hb q a, by decide, mul_okL (by decide) (by decide), ?_⟩
      · rcases hn with rfl | rfl | rfl
        · exact .inl rfl
        · exact .inr (.inl rfl)
        · exact .inr (.inr (.inl rfl))
      · refine ⟨?_, by rw [List.length_map]; omega, ?_⟩
        · rcases hm with z | z
          · rw [z]; exact mul_okR (by decide) (by decide)
          · rw [z]; exact mul_okR (by decide) (by decide)
        · have ih := fun o5 o6 => lin_loop hn hA hb ha (E := E) (fs := fs) m (q + 1) (ls ++ [adjE n A a q]) o5 o6 (by omega) (by simp; omega) (fun o5 o6 => by
            have z := hE o5 o6
            rw [range_cons q m (fun j => adjE n A a j)] at z
            simpa using z)
          have el : (ls ++ [adjE n A a q]).map D.int = ls.map D.int ++ [.int (adjE n A a q)] := by simp
          rw [el] at ih
          exact ih _ _
def outB : DTS := sSeq (sOwn 4 (nLst (vNil))) (sSeq (sFor (iR1 (dVar 2)) (gN 5) linB) (sFreeze 4 (sOwnApp 3 (dCB fTuple (vCons (dVar 4) (vNil))))))
theorem out_loop {n : Nat} (hn : sz n) {A : Mx} (hA : rectM n A) (hb : bdM 1000 A) {E : ES} :
    ∀ (m q : Nat) (fs : Mx) (o1 o4 o5 o6 : Option Sl), q + m = n → fs.length ≤ 10 - m →
    (∀ o1 o4 o5 o6, E.nx [some (.val (mT A)), o1, some (.val (.int (n : Nat))), some (.own (.lst ((fs ++ (List.range m).map fun i => (List.range n).map fun p => adjE n A (q + i) p).map rT))), o4, o5, o6, none, none, none]) →
    forD (gN 1) outB E ((List.range m).map fun i : Nat => D.int ((q + i : Nat) : Int)) [some (.val (mT A)), o1, some (.val (.int (n : Nat))), some (.own (.lst (fs.map rT))), o4, o5, o6, none, none, none]
  | 0, q, fs, o1, o4, o5, o6, _, _, hE => by
    unfold forD
    simpa using hE o1 o4 o5 o6
  | m + 1, q, fs, o1, o4, o5, o6, hq, hls, hE => by
    have n4 := hn.le
    have hqn : q < n := by omega
    rw [range_cons q m (fun j : Nat => D.int (j : Int))]
    unfold forD outB
    walk_at "ps"
    refine ⟨by decide, by simp, by omega, by omega, ?_⟩
    rw [rng0]
    have e0 : ((List.range n).map fun i : Nat => D.int (i : Int)) = (List.range n).map fun i : Nat => D.int ((0 + i : Nat) : Int) := List.map_congr_left fun i _ => by rw [Nat.zero_add]
    rw [e0]
    refine lin_loop hn hA hb hqn (fs := .own (.lst (fs.map rT))) n 0 [] o5 o6 (by omega) (by simp) fun o5 o6 => ?_
    walk_at "ps"
    refine ⟨by rw [List.length_map]; omega, ?_⟩
    have er : ((List.range n).map fun i => adjE n A q (0 + i)) = (List.range n).map fun p => adjE n A q p := List.map_congr_left fun i _ => by rw [Nat.zero_add]
    rw [er]
    have ih := fun o1 o4 o5 o6 => out_loop hn hA hb (E := E) m (q + 1) (fs ++ [(List.range n).map fun p => adjE n A q p]) o1 o4 o5 o6 (by omega) (by simp; omega) (fun o1 o4 o5 o6 => by
      have z := hE o1 o4 o5 o6
      rw [range_cons q m (fun j => (List.range n).map fun p => adjE n A j p)] at z
      simpa using z)
    have el : (fs ++ [(List.range n).map fun p => adjE n A q p]).map rT = fs.map rT ++ [rT ((List.range n).map fun p => adjE n A q p)] := by simp
    rw [el] at ih
    exact ih _ _ _ _
theorem rd_l_adjoint : ∀ Ed ss Kd, ss.length = 1 → sp_l_adjoint Ed ss Kd → tb_l_adjoint (endsOf Kd noE) (start0 N_l_adjoint ss) := by
  rintro Ed ss Kd hl ⟨n, A, rfl, hn, hA, hb, h⟩
  have n4 := hn.le
  show (sSeq (sParVO 2 3 (dCB fLen (vCons (dVar 0) (vNil))) (nLst (vNil))) (sSeq (sFor (iR1 (dVar 2)) (gN 1) outB) (sFreeze 3 (sRet (dCB fTuple (vCons (dVar 3) (vNil))))))) _ _
  unfold N_l_adjoint
  walk_at "ps"
  rw [lenT hA, rng0]
  refine ⟨by decide, by simp, by omega, by omega, ?_⟩
  have e0 : ((List.range n).map fun i : Nat => D.int (i : Int)) = (List.range n).map fun i : Nat => D.int ((0 + i : Nat) : Int) := List.map_congr_left fun i _ => by rw [Nat.zero_add]
  rw [e0]
  refine out_loop hn hA hb n 0 [] _ _ _ _ (by omega) (by simp) fun o1 o4 o5 o6 => ?_
  walk_at "ps"
  have ea : ((List.range n).map fun i => (List.range n).map fun p => adjE n A (0 + i) p) = adjM n A := by
    unfold adjM
    refine List.map_congr_left fun i _ => List.map_congr_left fun p _ => ?_
    rw [Nat.zero_add, adjE_eq]
  rw [ea]
  exact h

theorem lcD_P {α : Type} {G : DTG} {Te : DTE} {ρ : Ev} {K : D → Prop} (g : α → D) (P : D → Prop) : ∀ (l : List α) (acc : List D), (∀ a ∈ l, ∀ k : D → Prop, (∀ v, P v → k v) → G (g a) ρ fun ρ1 => Te noE ρ1 k) → (∀ vs : List D, vs.length = l.length → (∀ v ∈ vs, P v) → K (.lst (acc ++ vs))) → lcD G dYes Te ρ K (l.map g) acc
  | [], acc, _, h => by
    unfold lcD
    have := h [] rfl (fun v hv => by cases hv)
    simpa using this
  | a :: l, acc, ht, h => by
    show lcD G dYes Te ρ K (g a :: l.map g) acc
    rw [lcD_y]
    refine ht a List.mem_cons_self _ fun v hv => ?_
    refine lcD_P g P l (acc ++ [v]) (fun e he => ht e (List.mem_cons_of_mem _ he)) fun vs hl hp => ?_
    have := h (v :: vs) (by simp [hl]) fun u hu => by
      rcases List.mem_cons.mp hu with rfl | hu
      · exact hv
      · exact hp u hu
    simpa using this
theorem coll {α : Type} (f : α → D) (Q : α → Prop) : ∀ (vs : List D), (∀ v ∈ vs, ∃ r, v = f r ∧ Q r) → ∃ B : List α, vs = B.map f ∧ ∀ r ∈ B, Q r
  | [], _ => ⟨[], rfl, fun r hr => by cases hr⟩
  | v :: vs, h => by
    obtain ⟨r, rfl, q⟩ := h v List.mem_cons_self
    obtain ⟨B, rfl, hB⟩ := coll f Q vs fun u hu => h u (List.mem_cons_of_mem _ hu)
    exact ⟨r :: B, rfl, fun x hx => by rcases List.mem_cons.mp hx with rfl | hx; exact q; exact hB x hx⟩
theorem rd_l_grab : ∀ Ed ss Kd, ss.length = 2 → sp_l_grab Ed ss Kd → tb_l_grab (endsOf Kd noE) (start0 N_l_grab ss) := by
  rintro Ed ss Kd hl ⟨n, rfl, h0, h1, h⟩
  have hn : n ≠ 0 := by omega
  have hd : DivOk 0 n := ⟨hn, by
    have : n.natAbs < 2 ^ 2000 := by
      have e : (n.natAbs : Int) = n := by omega
      have : ((n.natAbs : Nat) : Int) < ((2 ^ 2000 : Nat) : Int) := by rw [e]; exact_mod_cast h1
      exact_mod_cast this
    have := log_lt this
    omega⟩
  have hm : ∀ x : Int, 0 ≤ x.fmod n ∧ x.fmod n < n := fun x => by
    rw [Int.fmod_eq_emod_of_nonneg x (by omega)]
    exact ⟨Int.emod_nonneg _ hn, Int.emod_lt_of_pos _ h0⟩
  unfold tb_l_grab N_l_grab
  walk_at "pd"
  refine ⟨by decide, fun a => ⟨fun _ => ⟨by decide, fun x => ⟨hn, by decide, fun y => ⟨hd, by decide, h _ (hm x).1 (hm x).2⟩⟩⟩, fun _ => ⟨by decide, by decide, by decide, fun x => ⟨by decide, fun y => ⟨mul_okL (by decide) (by decide), by decide, ?_⟩⟩⟩⟩⟩
  have p1 : ∀ w : Int, -(2 ^ 64) < w.fmod 2305843009213693951 ∧ w.fmod 2305843009213693951 < 2 ^ 64 := fun w => by
    rw [Int.fmod_eq_emod_of_nonneg w (by decide)]
    omega
  have p2 : ∀ w : Int, -(2 ^ 64) < w.fmod 2305843009213693723 ∧ w.fmod 2305843009213693723 < 2 ^ 64 := fun w => by
    rw [Int.fmod_eq_emod_of_nonneg w (by decide)]
    omega
  refine ⟨mul_okL (p1 _).1 (p1 _).2, by decide, mul_okL (p2 _).1 (p2 _).2, by decide, fun w => ⟨mul_okL (by decide) (by decide), by decide, ?_, hn, h _ (hm _).1 (hm _).2⟩⟩
  exact ⟨by decide, by decide⟩
theorem rd_l_one_of : ∀ Ed ss Kd, ss.length = 2 → sp_l_one_of Ed ss Kd → tb_l_one_of (endsOf Kd noE) (start0 N_l_one_of ss) := by
  rintro Ed ss Kd hl ⟨ds, rfl, h0, h1, h⟩
  have hp : 0 < ds.length := List.length_pos_iff.mpr h0
  unfold tb_l_one_of N_l_one_of
  walk_at "ps"
  refine ⟨_, rfl, by omega, ?_, fun r hr0 hr1 => ?_⟩
  · have : (ds.length : Int) ≤ 1000000 := by omega
    exact Int.lt_of_le_of_lt this (by decide)
  · obtain ⟨j, rfl⟩ : ∃ j : Nat, r = (j : Int) := ⟨r.toNat, by omega⟩
    have hj : j < ds.length := by omega
    show (match atI ds (j : Int) with | some d => Kd d | none => False)
    rw [atI_nat (v := ds[j]) (List.getElem?_eq_getElem hj)]
    exact h _ (List.getElem_mem hj)
theorem bag_tail {Kd : List D → Prop} (d i : Int) (h0 : 0 ≤ i) (h1 : i < 1000) (h : ∀ (x y z : Int), Kd [D.int x, D.int y, D.int z]) (T : DTS)
    (hT : T = sSeq (sAsg (dOp (fInt2 (fun _ j => j ≠ 0) Int.fmod) (dCB fInt (vCons (dCB fAbs (vCons (dVar 2) (vNil))) (vNil))) (dOp (fInt2 PowOk fun i j => i ^ j.toNat) (dOp (fInt2 PowOk fun i j => i ^ j.toNat) (dC (.int 10)) (dC (.int 45))) (dC (.int 13)))) (gN 3)) (sSeq (sAsg (dOp fAdd (dOp fAdd (dOp fAdd (dOp fRep (dOp (fInt2 (fun _ j => j ≠ 0) Int.fmod) (dCB fInt (vCons (dVar 3) (vNil))) (dC (.int 2305843009213693723))) (dC (.int 1000457))) (dOp fRep (dC (.int 9029)) (dVar 1))) (dOp fRep (dC (.int 53)) (dCB fInt (vCons (dOp (fCmp fun i j => decide (i < j)) (dVar 2) (dC (.int 0))) (vNil))))) (dC (.int 37))) (gN 4)) (sRetL (vCons (dCB (f2I fun i j => if j > i then j else i) (vCons (dC (.int 0)) (vCons (dOp fSub (dVar 3) (dOp (fInt2 PowOk fun i j => i ^ j.toNat) (dC (.int 10)) (dC (.int 18)))) (vNil)))) (vCons (dOp (fInt2 (fun _ j => j ≠ 0) Int.fmod) (dCB fInt (vCons (dVar 4) (vNil))) (dC (.int 2305843009213693951))) (vCons (dC (.int 0)) (vNil))))))) (o : Sl) :
    T (endsN Kd noE) [some o, some (.val (.int i)), some (.val (.int d)), none, none] := by
  rw [hT]
  walk_at "pd"
  have p2 : ∀ w : Int, -(2 ^ 64) < w.fmod 2305843009213693723 ∧ w.fmod 2305843009213693723 < 2 ^ 64 := fun w => by
    rw [Int.fmod_eq_emod_of_nonneg w (by decide)]
    omega
  refine ⟨⟨by decide, by decide +kernel⟩, ⟨by decide, by decide +kernel⟩, by decide +kernel, by decide, mul_okL (p2 _).1 (p2 _).2, mul_okL (by decide) (by decide), mul_okL (by decide) (by decide), ⟨by decide, by decide +kernel⟩, by decide, by decide, h _ _ _⟩
theorem rd_l_bag : ∀ Ed ss Kd, ss.length = 2 → sp_l_bag Ed ss Kd → tb_l_bag (endsN Kd noE) (start0 N_l_bag ss) := by
  intro Ed ss Kd hl h
  unfold sp_l_bag at h
  split at h
  · rename_i ns i
    obtain ⟨h0, h1, h⟩ := h
    unfold tb_l_bag N_l_bag
    generalize hT : sSeq (sAsg (dOp (fInt2 (fun _ j => j ≠ 0) Int.fmod) _ _) (gN 3)) _ = T
    walk_at "pd"
    refine ⟨fun e => ?_, fun e => ?_⟩
    · obtain ⟨j, rfl⟩ : ∃ j : Nat, i = (j : Int) := ⟨i.toNat, by omega⟩
      have hj : j < ns.length := by omega
      rw [atI_nat (v := ns[j]) (List.getElem?_eq_getElem hj)]
      exact bag_tail _ _ h0 h1 h T hT.symm _
    · show (match intsD ((cutD ns none (some 1)).map D.int) with | some ms => _ | none => False)
      rw [ints_map]
      exact ⟨mul_okL (by decide) (by decide), bag_tail _ _ h0 h1 h T hT.symm _⟩
  · exact h.elim
theorem perm_er {α : Type} : ∀ (l : List α) (j : Nat) (hj : j < l.length), l.Perm (l[j] :: l.eraseIdx j)
  | a :: l, 0, _ => List.Perm.refl _
  | a :: l, j + 1, h => ((perm_er l j (by simpa using h)).cons a).trans (List.Perm.swap _ _ _)
theorem pop_loop {K : List D → Prop} {o1 : Option Sl} : ∀ (l : List Nat) (es acc : List D), l.length = es.length → es.length ≤ 1000 → (∀ rs, es.Perm rs → K (acc ++ rs)) → ∀ ρ0 : Ev, (∃ s1 s2 s3, ρ0 = [some .bag, s1, s2, s3]) →
    popD 2 (gN 3) (dCall 2 sp_l_grab (aCons (xVar 0) (aCons (xVal (dOwnLen 2)) (aNil)))) [3] ρ0 K (l.map fun i : Nat => D.int (i : Nat)) es acc
  | [], [], acc, _, _, h, _, _ => by
    unfold popD
    have := h [] (List.Perm.refl _)
    simpa using this
  | i :: l, e :: es, acc, hl, hs, h, ρ0, ⟨s1, s2, s3, e0⟩ => by
    show popD _ _ _ _ _ _ (D.int (i : Nat) :: l.map _) _ _
    unfold popD
    have hlen : ((e :: es).length : Int) ≤ 1000 := by omega
    generalize hes : e :: es = fs at *
    have hpos : 0 < fs.length := by rw [← hes]; simp
    clear hes
    subst e0
    walk_at "ps"
    refine ⟨_, rfl, by omega, ?_, fun r h0 h1 => ?_⟩
    · exact Int.lt_of_le_of_lt hlen (by decide)
    · obtain ⟨j, rfl⟩ : ∃ j : Nat, r = (j : Int) := ⟨r.toNat, by omega⟩
      have hj : j < fs.length := by omega
      refine ⟨j, fs[j], rfl, by omega, List.getElem?_eq_getElem hj, ?_⟩
      refine pop_loop (o1 := o1) l (fs.eraseIdx j) (acc ++ [fs[j]]) ?_ ?_ (fun rs hp => ?_) _ ⟨_, _, _, rfl⟩
      · rw [List.length_eraseIdx, if_pos hj]
        simp only [List.length_cons] at hl
        omega
      · rw [List.length_eraseIdx]
        split <;> omega
      · have p1 : fs.Perm (fs[j] :: rs) := (perm_er fs j hj).trans (hp.cons _)
        have := h _ p1
        simpa using this
  | [], _ :: _, _, hl, _, _, _, _ => by simp at hl
  | _ :: _, [], _, hl, _, _, _, _ => by simp at hl
theorem rd_l_mixed : ∀ Ed ss Kd, ss.length = 2 → sp_l_mixed Ed ss Kd → tb_l_mixed (endsOf Kd noE) (start0 N_l_mixed ss) := by
  rintro Ed ss Kd hl ⟨ds, rfl, h1, h⟩
  unfold tb_l_mixed N_l_mixed
  walk_at "ps"
  refine ⟨by simp, ?_⟩
  unfold sRetPop
  walk_at "ps"
  rw [rng0]
  refine ⟨by omega, by omega, by simp; omega, pop_loop (o1 := none) (List.range ds.length) ds [] (by simp) h1 (fun rs hp => ?_) _ ⟨_, _, _, rfl⟩⟩
  exact h rs hp
theorem rd_l_size : ∀ Ed ss Kd, ss.length = 1 → sp_l_size Ed ss Kd → tb_l_size (endsOf Kd noE) (start0 N_l_size ss) := by
  rintro Ed ss Kd hl ⟨rfl, h⟩
  unfold tb_l_size N_l_size
  walk_at "ps"
  refine ⟨by decide, _, rfl, by simp, by decide, fun d hd => ?_⟩
  have h2 := h 2 (.inl rfl)
  have h3 := h 3 (.inr (.inl rfl))
  have h4 := h 4 (.inr (.inr rfl))
  simp only [List.mem_cons, List.not_mem_nil, _root_.or_false] at hd
  rcases hd with rfl | rfl | rfl | rfl | rfl | rfl | rfl
  · exact h2
  · exact h3
  · exact h2
  · exact h3
  · exact h2
  · exact h3
  · exact h4
theorem rd_l_number : ∀ Ed ss Kd, ss.length = 2 → sp_l_number Ed ss Kd → tb_l_number (endsOf Kd noE) (start0 N_l_number ss) := by
  rintro Ed ss Kd hl ⟨n, rfl, h0, h1, h⟩
  unfold tb_l_number N_l_number
  walk_at "ps"
  refine ⟨mul_okL (by decide) (by decide), _, rfl, by omega, ?_, fun r h2 h3 => h _ (by omega) (by omega)⟩
  have e1 : (2 : Int) * 2 ^ 1000 + 1 < 2 ^ 2000 := by decide +kernel
  omega

local macro_rules | `(tactic| walk_at "mxg") => `(tactic| simp (config := {decide := true}) only [unitM, mulM, turnM, mulV, dotI, sgR, List.map, List.map_cons, List.map_nil, List.range, List.range.loop, List.headD_cons, List.length_cons, List.length_nil, List.getD, List.getElem?_cons_zero, List.getElem?_cons_succ, Option.getD_some, List.zipWith, List.sum_cons, List.sum_nil, Nat.reduceAdd, Nat.zero_add, List.cons.injEq, and_true, true_and, if_true, reduceIte, if_false, Nat.reduceEqDiff])
def symM (A : Mx) : Prop := turnM A = A
/-- a table told by its entries -/
def genM (n : Nat) (f : Nat → Nat → Int) : Mx := (List.range n).map fun i => (List.range n).map fun j => f i j
theorem gen_sym {n : Nat} (hn : sz n) {f : Nat → Nat → Int} (h : ∀ i j, f i j = f j i) : symM (genM n f) := by
  unfold symM
  have e : turnM (genM n f) = genM n fun i j => f j i := by
    unfold genM
    rcases hn with rfl | rfl | rfl
    · walk_at "mxg"
    · walk_at "mxg"
    · walk_at "mxg"
  rw [e]
  congr 1
  funext i j
  exact h j i
theorem rd_l_some_row : ∀ Ed ss Kd, ss.length = 3 → sp_l_some_row Ed ss Kd → tb_l_some_row (endsOf Kd noE) (start0 N_l_some_row ss) := by
  rintro Ed ss Kd hl ⟨n, b, rfl, hn, h1, h2, h⟩
  unfold tb_l_some_row N_l_some_row
  have n4 := hn.le
  have n0 := hn.pos
  refine seq_gg fun T hT => ?_
  walk_at "ps"
  rw [rng0]
  refine ⟨by omega, by omega, by simp; omega, lcD_P _ (fun v => ∃ r : Int, v = .int r ∧ (-b ≤ r ∧ r ≤ b)) (List.range n) [] (fun i hi k hk => ?_) fun vs hvl hvs => ?_⟩
  · walk_at "ps"
    exact ⟨b, rfl, by omega, h2, fun r a c => hk _ ⟨r, rfl, a, c⟩⟩
  · obtain ⟨v, rfl, hv⟩ := coll D.int _ vs hvs
    have hvn : v.length = n := by simpa using hvl
    rw [List.nil_append]
    show T _ _
    subst hT
    walk_at "ps"
    rw [ints_map]
    have ne : v ≠ [] := fun e => by rw [e] at hvn; simp at hvn; omega
    have hrow : (∃ x ∈ v, x ≠ 0) → Kd (rT v) := fun hx => h v hvn hv hx
    refine ⟨ne, fun mx hm1 hm2 => ⟨fun e => hrow ⟨mx, hm1, by omega⟩, fun e => ⟨ne, fun mn hn1 hn2 => ⟨fun e2 => hrow ⟨mn, hn1, by omega⟩, fun e2 => ?_⟩⟩⟩⟩
    have hz : Kd (rT (1 :: List.replicate (n - 1) 0)) := h _ (by simp; omega) (fun x hx => by
      rcases List.mem_cons.mp hx with rfl | hx
      · omega
      · rw [List.eq_of_mem_replicate hx]
        omega) ⟨1, by simp, by decide⟩
    have e3 : (List.replicate ((n : Int) - 1).toNat [D.int 0]).flatten = (List.replicate (n - 1) (0 : Int)).map D.int := by
      rw [show ((n : Int) - 1).toNat = n - 1 by omega, List.map_replicate]
      generalize n - 1 = m
      induction m with
      | zero => rfl
      | succ m ih => rw [List.replicate_succ, List.flatten_cons, ih, List.replicate_succ]; rfl
    refine ⟨by decide, by decide, by omega, by omega, by decide, ?_, ?_⟩
    · rw [e3]; simp; omega
    · rw [e3]; exact hz
theorem rd_l_some_table : ∀ Ed ss Kd, ss.length = 3 → sp_l_some_table Ed ss Kd → tb_l_some_table (endsOf Kd noE) (start0 N_l_some_table ss) := by
  rintro Ed ss Kd hl ⟨n, b, rfl, hn, h1, h2, h⟩
  unfold tb_l_some_table N_l_some_table
  have n4 := hn.le
  have n0 := hn.pos
  refine seq_gg fun T hT => ?_
  walk_at "ps"
  rw [rng0]
  refine ⟨by omega, by omega, by simp; omega, lcD_P _ (fun v => ∃ r : List Int, v = rL r ∧ (r.length = n ∧ ∀ x ∈ r, -b ≤ x ∧ x ≤ b)) (List.range n) [] (fun i hi k hk => ?_) fun vs hvl hvs => ?_⟩
  · walk_at "ps"
    rw [rng0]
    refine ⟨by omega, by omega, by simp; omega, lcD_P _ (fun v => ∃ r : Int, v = .int r ∧ (-b ≤ r ∧ r ≤ b)) (List.range n) [] (fun i hi k2 hk2 => ?_) fun vs hvl hvs => ?_⟩
    · walk_at "ps"
      exact ⟨b, rfl, by omega, h2, fun r a c => hk2 _ ⟨r, rfl, a, c⟩⟩
    · obtain ⟨v, rfl, hv⟩ := coll D.int _ vs hvs
      rw [List.nil_append]
      exact hk _ ⟨v, rfl, by simpa using hvl, hv⟩
  · obtain ⟨B, rfl, hB⟩ := coll rL _ vs hvs
    have hr : rectM n B := ⟨by simpa using hvl, fun r hr => (hB r hr).1⟩
    rw [List.nil_append]
    show T _ _
    subst hT
    walk_at "ps"
    rw [rng0]
    have hgd : ∀ i j, i < n → j < n → -b ≤ (B.getD i []).getD j 0 ∧ (B.getD i []).getD j 0 ≤ b := fun i j hi hj => by
      have hm := getD_mem hr.1 hi
      refine (hB _ hm).2 _ ?_
      rw [List.getD_eq_getElem?_getD (l := B.getD i []), List.getElem?_eq_getElem (by rw [getD_row hr hi]; exact hj)]
      exact List.getElem_mem _
    have fin : Kd (mT ((List.range n).map fun i => (List.range n).map fun j => (B.getD (min i j) []).getD (max i j) 0)) := by
      refine h _ ⟨by simp, fun r hr => ?_⟩ (fun r hr x hx => ?_) (gen_sym hn fun i j => by rw [Nat.min_comm, Nat.max_comm])
      · obtain ⟨i, _, rfl⟩ := List.mem_map.mp hr
        simp
      · obtain ⟨i, hi, rfl⟩ := List.mem_map.mp hr
        obtain ⟨j, hj, rfl⟩ := List.mem_map.mp hx
        have hi := List.mem_range.mp hi
        have hj := List.mem_range.mp hj
        exact hgd _ _ (by omega) (by omega)
    refine ⟨by omega, by omega, by simp; omega, lcD_m _ (fun i : Nat => .tup ((List.range n).map fun j => .int ((B.getD (min i j) []).getD (max i j) 0))) (List.range n) [] (fun i hi k hk => ?_) (by rw [List.nil_append]; simpa [rT, mT, List.map_map, Function.comp_def] using fin)⟩
    have hi := List.mem_range.mp hi
    walk_at "ps"
    rw [rng0]
    refine ⟨by omega, by omega, by simp; omega, lcD_m _ (fun j : Nat => .int ((B.getD (min i j) []).getD (max i j) 0)) (List.range n) [] (fun j hj k2 hk2 => ?_) (by simpa using hk)⟩
    have hj := List.mem_range.mp hj
    walk_at "ps"
    have e1 : (if (j : Int) < (i : Int) then (j : Int) else (i : Int)) = ((min i j : Nat) : Int) := by split <;> omega
    have e2 : (if (j : Int) > (i : Int) then (j : Int) else (i : Int)) = ((max i j : Nat) : Int) := by split <;> omega
    rw [e1, e2, ixL hr (by omega : min i j < n)]
    show (match atI ((B.getD (min i j) []).map D.int) ((max i j : Nat) : Int) with | some d => _ | none => False)
    rw [ixV (by rw [getD_row hr (by omega)]; omega)]
    exact hk2
theorem perm_map {α β : Type} (f : α → β) {l1 l2 : List β} (p : l1.Perm l2) : ∀ A : List α, l1 = A.map f → ∃ A', A.Perm A' ∧ l2 = A'.map f := by
  induction p with
  | nil => exact fun A e => ⟨A, .refl _, e⟩
  | cons x p ih =>
    intro A e
    cases A with
    | nil => cases e
    | cons a A =>
      rw [List.map_cons] at e
      injection e with e1 e2
      obtain ⟨A', q, e'⟩ := ih A e2
      exact ⟨a :: A', q.cons a, by rw [e1, e']; rfl⟩
  | swap x y l =>
    intro A e
    match A, e with
    | a :: b :: A, e =>
      simp only [List.map_cons, List.cons.injEq] at e
      exact ⟨b :: a :: A, .swap _ _ _, by rw [List.map_cons, List.map_cons, e.1, e.2.1, e.2.2]⟩
  | trans p q ih1 ih2 =>
    intro A e
    obtain ⟨A', p1, e1⟩ := ih1 A e
    obtain ⟨A2, p2, e2⟩ := ih2 A' e1
    exact ⟨A2, p1.trans p2, e2⟩
def leM (b : Nat) (A : Mx) : Prop := ∀ r ∈ A, ∀ x ∈ r, x.natAbs ≤ b
theorem le_add {b : Nat} {r s : List Int} (h1 : ∀ x ∈ r, x.natAbs ≤ b) (h2 : ∀ x ∈ s, x.natAbs ≤ b) {m : Int} (hm : m.natAbs ≤ 2) : ∀ x ∈ addR m r s, x.natAbs ≤ 3 * b := by
  intro x hx
  unfold addR at hx
  obtain ⟨i, hi, rfl⟩ := List.mem_iff_getElem.mp hx
  rw [List.getElem_zipWith]
  simp only [List.length_zipWith] at hi
  have a := h1 _ (List.getElem_mem (l := r) (n := i) (by omega))
  have c := h2 _ (List.getElem_mem (l := s) (n := i) (by omega))
  have d : (m * s[i]).natAbs ≤ 2 * b := by
    rw [Int.natAbs_mul]
    exact Nat.mul_le_mul hm c
  omega
def mixB : DTS := sSeq (sAsg (dCall 2 sp_l_grab (aCons (xVar 0) (aCons (xVar 1) (aNil)))) (gN 6)) (sSeq (sAsg (dOp (fInt2 (fun _ j => j ≠ 0) Int.fmod) (dCB fInt (vCons (dOp fAdd (dOp fAdd (dVar 6) (dC (.int 1))) (dCall 2 sp_l_grab (aCons (xVar 0) (aCons (xVal (dOp fSub (dVar 1) (dC (.int 1)))) (aNil))))) (vNil))) (dVar 1)) (gN 7)) (sSeq (sAsg (dCall 2 sp_l_one_of (aCons (xVar 0) (aCons (xVal (dLst (vCons (dC (.int 1)) (vCons (dNeg (dC (.int 1))) (vCons (dC (.int 1)) (vCons (dNeg (dC (.int 1))) (vCons (dC (.int 2)) (vNil)))))))) (aNil)))) (gN 8)) (sOwnSet 3 (dVar 6) (dLc (iZp (vCons (dOwnIx 3 (dVar 6)) (vCons (dOwnIx 3 (dVar 7)) (vNil)))) (gT 2 (gsC (gN 9) (gsC (gN 10) (gsN)))) (dYes) (dOp fAdd (dVar 9) (dOp fRep (dVar 8) (dVar 10))) [9, 10]))))
theorem mix_loop {n : Nat} (hn : sz n) {E : ES} {o2 : Option Sl} (hE : ∀ (A : Mx) o4 o6 o7 o8, Good n A → leM 243 A → E.nx [some .bag, some (.val (.int (n : Nat))), o2, some (.own (.lst (A.map rL))), o4, none, o6, o7, o8, none, none, none, none, none]) :
    ∀ (l : List Nat) (t : Nat) (A : Mx), l.length + t ≤ 5 → Good n A → leM (3 ^ t) A → ∀ o4 o6 o7 o8,
    forD (gN 4) mixB E (l.map fun i : Nat => D.int (i : Nat)) [some .bag, some (.val (.int (n : Nat))), o2, some (.own (.lst (A.map rL))), o4, none, o6, o7, o8, none, none, none, none, none]
  | [], t, A, ht, hg, hb, o4, o6, o7, o8 => by
    unfold forD
    refine hE A _ _ _ _ hg fun r hr x hx => Nat.le_trans (hb r hr x hx) ?_
    exact Nat.le_trans (Nat.pow_le_pow_right (by decide) (by simpa using ht : t ≤ 5)) (by decide)
  | i :: l, t, A, ht, hg, hb, o4, o6, o7, o8 => by
    have n4 := hn.le
    have n0 := hn.pos
    have n2 : 2 ≤ n := by unfold sz at hn; omega
    show forD _ _ E (D.int (i : Nat) :: l.map _) _
    unfold forD mixB
    have big : (4 : Int) < 2 ^ 2000 := by decide +kernel
    walk_at "ps"
    refine ⟨_, rfl, by omega, Int.lt_of_le_of_lt (by omega : (n : Int) ≤ 4) big, fun r hr0 hr1 => ⟨_, rfl, by omega, Int.lt_of_le_of_lt (by omega : (n : Int) - 1 ≤ 4) big, fun g hg0 hg1 => ⟨by omega, by decide, _, rfl, by simp, by decide, fun d hd => ?_⟩⟩⟩
    obtain ⟨a, rfl⟩ : ∃ a : Nat, r = (a : Int) := ⟨r.toNat, by omega⟩
    obtain ⟨g, rfl⟩ : ∃ a : Nat, g = (a : Int) := ⟨g.toNat, by omega⟩
    have hm : ∃ m : Int, d = .int m ∧ m.natAbs ≤ 2 := by
      simp only [List.mem_cons, List.not_mem_nil, _root_.or_false] at hd
      rcases hd with rfl | rfl | rfl | rfl | rfl
      · exact ⟨1, rfl, by decide⟩
      · exact ⟨-1, rfl, by decide⟩
      · exact ⟨1, rfl, by decide⟩
      · exact ⟨-1, rfl, by decide⟩
      · exact ⟨2, rfl, by decide⟩
    obtain ⟨m, rfl, hm⟩ := hm
    have ha : a < n := by omega
    have ec : ((a : Int) + 1 + (g : Int)).fmod (n : Int) = (((a + 1 + g) % n : Nat) : Int) := by
      rw [Int.fmod_eq_emod_of_nonneg _ (by omega), show ((a : Int) + 1 + (g : Int)) = ((a + 1 + g : Nat) : Int) by omega]
      exact (Int.natCast_emod _ _).symm
    have hto : (a + 1 + g) % n < n := Nat.mod_lt _ n0
    have hne : a ≠ (a + 1 + g) % n := by
      by_cases c : a + 1 + g < n
      · rw [Nat.mod_eq_of_lt c]; omega
      · rw [Nat.mod_eq_sub_mod (by omega), Nat.mod_eq_of_lt (by omega)]; omega
    generalize (a + 1 + g) % n = b at *
    rw [ec, ixL hg.1 ha]
    walk_at "ps"
    rw [ixL hg.1 hto]
    walk_at "ps"
    rw [zip_ints]
    have la := getD_row hg.1 ha
    have lb := getD_row hg.1 hto
    refine ⟨by simp only [List.length_map, List.length_zip]; omega, lcD_m _ (fun p : Int × Int => .int (p.1 + m * p.2)) _ [] (fun p hp kk hkk => ?_) ?_⟩
    · unfold prD
      walk_at "ps"
      exact ⟨mul_okL (by omega) (by omega), hkk⟩
    · rw [lenL hg.1, Evl.ixN_nat ha, List.nil_append]
      have er : (((A.getD a []).zip (A.getD b [])).map fun p : Int × Int => D.int (p.1 + m * p.2)) = (addR m (A.getD a []) (A.getD b [])).map D.int := by
        unfold addR
        rw [← zip_with, List.map_map]
        rfl
      simp only [er]
      have es : (A.map rL).set a (.lst ((addR m (A.getD a []) (A.getD b [])).map D.int)) = (A.set a (addR m (A.getD a []) (A.getD b []))).map rL := by rw [List.map_set]
      rw [es]
      refine mix_loop hn hE l (t + 1) _ (by simp at ht; omega) (good_add hn hg ha hto hne m) (fun r hr x hx => ?_) _ _ _ _
      rw [Nat.pow_succ, Nat.mul_comm]
      rcases List.mem_or_eq_of_mem_set hr with hr | rfl
      · exact Nat.le_trans (hb r hr x hx) (by omega)
      · exact le_add (hb _ (getD_mem hg.1.1 ha)) (hb _ (getD_mem hg.1.1 hto)) hm x hx
theorem le_unit (n : Nat) : leM 1 (unitM n) := by
  intro r hr x hx
  unfold unitM at hr
  obtain ⟨i, _, rfl⟩ := List.mem_map.mp hr
  obtain ⟨j, _, rfl⟩ := List.mem_map.mp hx
  split <;> decide
theorem le_signs {b : Nat} : ∀ (ss : List Int) (A : Mx), (∀ s ∈ ss, s = 1 ∨ s = -1) → leM b A → leM b (List.zipWith sgR ss A)
  | [], A, _, _ => by intro r hr; simp at hr
  | s :: ss, [], _, _ => by intro r hr; simp at hr
  | s :: ss, a :: A, hs, hA => by
    intro r hr x hx
    rw [List.zipWith_cons_cons] at hr
    rcases List.mem_cons.mp hr with rfl | hr
    · unfold sgR at hx
      obtain ⟨y, hy, rfl⟩ := List.mem_map.mp hx
      have := hA a List.mem_cons_self y hy
      rcases hs s List.mem_cons_self with rfl | rfl
      · rw [Int.one_mul]; exact this
      · rw [Int.neg_one_mul, Int.natAbs_neg]; exact this
    · exact le_signs ss A (fun s h => hs s (List.mem_cons_of_mem _ h)) (fun r h => hA r (List.mem_cons_of_mem _ h)) r hr x hx
theorem rd_l_matrix : ∀ Ed ss Kd, ss.length = 3 → sp_l_matrix Ed ss Kd → tb_l_matrix (endsOf Kd noE) (start0 N_l_matrix ss) := by
  rintro Ed ss Kd hl ⟨n, mo, rfl, hn, hmo, h⟩
  have n4 := hn.le
  have n0 := hn.pos
  show (sSeq (sOwn 3 (nLc (iR1 (dVar 1)) (gN 6) (dYes) (dLc (iR1 (dVar 1)) (gN 7) (dYes) (dCB fInt (vCons (dOp fEq (dVar 6) (dVar 7)) (vNil))) [7]) [6])) (sSeq (sFor (iR1 (dCall 2 sp_l_grab (aCons (xVar 0) (aCons (xVal (dOp fAdd (dVar 2) (dC (.int 1)))) (aNil))))) (gN 4) mixB) _)) _ _
  unfold N_l_matrix
  refine seq_gg fun T hT => ?_
  walk_at "ps"
  rw [rng0]
  refine ⟨by omega, by omega, by simp; omega, lcD_m _ (fun i : Nat => rL ((List.range n).map fun j => if i = j then 1 else 0)) (List.range n) [] (fun i hi k hk => ?_) ?_⟩
  · walk_at "ps"
    rw [rng0]
    refine ⟨by omega, by omega, by simp; omega, lcD_m _ (fun j : Nat => .int (if i = j then 1 else 0)) (List.range n) [] (fun j hj k2 hk2 => ?_) (by simpa [rL, List.map_map, Function.comp_def] using hk)⟩
    walk_at "ps"
    have e : ((i : Int) = (j : Int)) ↔ i = j := by omega
    simpa only [e] using hk2
  · rw [List.nil_append]
    have eu : ((List.range n).map fun i : Nat => rL ((List.range n).map fun j => if i = j then 1 else 0)) = (unitM n).map rL := by
      unfold unitM
      rw [List.map_map]
      rfl
    rw [eu]
    show _ ∧ T _ _
    refine ⟨by simp, ?_⟩
    subst hT
    refine seq_gg fun T hT => ?_
    walk_at "ps"
    refine ⟨_, rfl, by omega, ?_, fun r hr0 hr1 => ?_⟩
    · exact Int.lt_of_le_of_lt (by omega : (mo : Int) + 1 ≤ 6) (by decide +kernel)
    · obtain ⟨r, rfl⟩ : ∃ a : Nat, r = (a : Int) := ⟨r.toNat, by omega⟩
      rw [Int.toNat_natCast, rng0]
      refine ⟨by omega, by omega, mix_loop hn (fun A o4 o6 o7 o8 hg hb => ?_) (List.range r) 0 (unitM n) (by simp; omega) (good_unit hn) (le_unit n) _ _ _ _⟩
      subst hT
      simp only [sFreeze, List.getElem?_cons_succ, List.getElem?_cons_zero, List.set]
      refine seq_gg fun T hT => ?_
      walk_at "ps"
      rw [rng0]
      refine ⟨by omega, by omega, by simp; omega, lcD_P _ (fun v => ∃ s : Int, v = .int s ∧ (s = 1 ∨ s = -1)) (List.range n) [] (fun i hi k hk => ?_) fun vs hvl hvs => ?_⟩
      · walk_at "ps"
        refine ⟨_, rfl, by decide, by decide +kernel, fun r a c => ⟨mul_okL (by decide) (by decide), hk _ ⟨_, rfl, by omega⟩⟩⟩
      · obtain ⟨ss, rfl, hss⟩ := coll D.int _ vs hvs
        have hsl : ss.length = n := by simpa using hvl
        rw [List.nil_append]
        show T _ _
        subst hT
        walk_at "ps"
        refine ⟨A.map rL, rfl, by rw [lenL hg.1]; omega, fun es hp => ?_⟩
        obtain ⟨A', p', rfl⟩ := perm_map rL hp A rfl
        have hg' := good_perm hn hg p'
        have ez : zipD (ss.map D.int) (A'.map rL) = (ss.zip A').map fun p => prD (.int p.1) (rL p.2) := by
          unfold zipD
          rw [List.zip_map, List.map_map]
          rfl
        rw [ez]
        refine ⟨by simp only [List.length_map, List.length_zip]; omega, lcD_m _ (fun p : Int × List Int => rT (sgR p.1 p.2)) (ss.zip A') [] (fun p hp k hk => ?_) ?_⟩
        · unfold prD
          walk_at "ps"
          have hr := hg'.1.2 _ (List.of_mem_zip hp).2
          refine ⟨by rw [List.length_map]; omega, lcD_m D.int (fun x => .int (p.1 * x)) p.2 [] (fun x hx k2 hk2 => ?_) (by simpa [rT, sgR, List.map_map, Function.comp_def] using hk)⟩
          walk_at "ps"
          have hs1 := hss _ (List.of_mem_zip hp).1
          exact ⟨mul_okL (by omega) (by omega), hk2⟩
        · rw [List.nil_append]
          have e5 : ((ss.zip A').map fun p : Int × List Int => rT (sgR p.1 p.2)) = (List.zipWith sgR ss A').map rT := by
            rw [← zip_with, List.map_map]
            rfl
          rw [e5]
          have hl' : ss.length = A'.length := by rw [hsl, hg'.1.1]
          exact h _ (good_signs hn hg' hl' hss) (le_signs ss A' hss fun r hr => hb r (p'.mem_iff.mpr hr))

theorem forD_inv {G : DTG} {S : DTS} {E : ES} (Inv : Ev → Prop) (hE : ∀ ρ, Inv ρ → E.nx ρ) : ∀ (ds : List D) (ρ : Ev), Inv ρ →
    (∀ d ∈ ds, ∀ ρ, Inv ρ → ∀ nx : Ev → Prop, (∀ ρ', Inv ρ' → nx ρ') → G d ρ fun ρ1 => S { E with nx := nx, ct := nx, bk := E.nx } ρ1) → forD G S E ds ρ
  | [], ρ, h, _ => hE ρ h
  | d :: ds, ρ, h, hs => by
    unfold forD
    exact hs d List.mem_cons_self ρ h _ fun ρ' h' => forD_inv Inv hE ds ρ' h' fun e he => hs e (List.mem_cons_of_mem _ he)
theorem dot_le {a b : Nat} : ∀ (r c : List Int), (∀ x ∈ r, x.natAbs ≤ a) → (∀ x ∈ c, x.natAbs ≤ b) → (dotI r c).natAbs ≤ r.length * (a * b)
  | [], c, _, _ => by simp [dotI]
  | x :: r, [], _, _ => by simp [dotI]
  | x :: r, y :: c, h1, h2 => by
    have ih := dot_le r c (fun x hx => h1 x (List.mem_cons_of_mem _ hx)) (fun x hx => h2 x (List.mem_cons_of_mem _ hx))
    have hx := h1 x List.mem_cons_self
    have hy := h2 y List.mem_cons_self
    rw [dot_cons]
    have : (x * y).natAbs ≤ a * b := by
      rw [Int.natAbs_mul]
      exact Nat.mul_le_mul hx hy
    rw [List.length_cons, Nat.add_mul, Nat.one_mul]
    omega
theorem getD_le {b : Nat} {r : List Int} (h : ∀ x ∈ r, x.natAbs ≤ b) (j : Nat) : (r.getD j 0).natAbs ≤ b := by
  rw [List.getD_eq_getElem?_getD]
  cases e : r[j]? with
  | none => exact Nat.zero_le _
  | some x => exact h x (List.mem_of_getElem? e)
theorem le_turn {b : Nat} {A : Mx} (h : leM b A) : leM b (turnM A) := by
  intro r hr x hx
  unfold turnM at hr
  obtain ⟨i, _, rfl⟩ := List.mem_map.mp hr
  obtain ⟨q, hq, rfl⟩ := List.mem_map.mp hx
  exact getD_le (h q hq) i
theorem le_mul {n a b : Nat} {A B : Mx} (hA : rectM n A) (ha : leM a A) (hb : leM b B) : leM (n * (a * b)) (mulM A B) := by
  intro r hr x hx
  unfold mulM at hr
  obtain ⟨q, hq, rfl⟩ := List.mem_map.mp hr
  obtain ⟨c, hc, rfl⟩ := List.mem_map.mp hx
  have := dot_le q c (ha q hq) (le_turn hb c hc)
  rw [hA.2 q hq] at this
  exact this
theorem le_mulV {n a b : Nat} {A : Mx} {v : List Int} (hA : rectM n A) (ha : leM a A) (hb : ∀ x ∈ v, x.natAbs ≤ b) : ∀ x ∈ mulV A v, x.natAbs ≤ n * (a * b) := by
  intro x hx
  unfold mulV at hx
  obtain ⟨q, hq, rfl⟩ := List.mem_map.mp hx
  have := dot_le q v (ha q hq) hb
  rw [hA.2 q hq] at this
  exact this
theorem le_tail {b : Nat} {A : Mx} (h : leM b A) (i : Nat) : leM b (A.tail.map (·.eraseIdx i)) := by
  intro r hr x hx
  obtain ⟨q, hq, rfl⟩ := List.mem_map.mp hr
  exact h q (List.mem_of_mem_tail hq) x (List.mem_of_mem_eraseIdx hx)
theorem det_le {b : Nat} : ∀ {n : Nat} {A : Mx}, n ≤ 4 → rectM n A → leM b A → (detN n A).natAbs ≤ (4 * b) ^ n
  | 0, A, _, _, _ => by show (1 : Int).natAbs ≤ _; simp
  | n + 1, A, h4, h, hb => by
    have hh : (A.headD []).length = n + 1 ∧ ∀ x ∈ A.headD [], x.natAbs ≤ b := by
      cases A with
      | nil => simp [rectM] at h
      | cons r A => exact ⟨h.2 r (by simp), hb r (by simp)⟩
    unfold detN
    refine Nat.le_trans (abs_sum 4 (b * (4 * b) ^ n) (fun x i => x * detN n (A.tail.map (·.eraseIdx i))) _ 0 (fun p hp => ?_) (by rw [List.length_zipIdx]; omega)) ?_
    · have hp' := List.mem_zipIdx hp
      have i := det_le (n := n) (by omega) (rect_tail h (i := p.2) (by omega)) (le_tail hb p.2)
      have x : p.1.natAbs ≤ b := by
        obtain ⟨_, _, e⟩ := hp'
        rw [e]
        exact hh.2 _ (List.getElem_mem _)
      show (p.1 * detN n (A.tail.map (·.eraseIdx p.2))).natAbs ≤ _
      rw [Int.natAbs_mul]
      exact Nat.mul_le_mul x i
    · rw [Int.natAbs_zero, Nat.zero_add, Nat.pow_succ, Nat.mul_comm ((4 * b) ^ n), Nat.mul_assoc]
      exact Nat.le_refl _
theorem le_back {n : Nat} (hn : sz n) {A : Mx} (hA : rectM n A) (hd : pm (detN n A) 1) (hb : leM 243 A) : leM (972 ^ 3) (backM n A) := by
  have n4 := hn.le
  intro r hr x hx
  unfold backM scM at hr
  obtain ⟨q, hq, rfl⟩ := List.mem_map.mp hr
  unfold sgR at hx
  obtain ⟨y, hy, rfl⟩ := List.mem_map.mp hx
  unfold adjM at hq
  obtain ⟨p, hp, rfl⟩ := List.mem_map.mp hq
  obtain ⟨a, ha, rfl⟩ := List.mem_map.mp hy
  have ha := List.mem_range.mp ha
  have hp := List.mem_range.mp hp
  have c1 : leM 243 ((A.eraseIdx a).map (·.eraseIdx p)) := by
    intro r hr x hx
    obtain ⟨q, hq, rfl⟩ := List.mem_map.mp hr
    exact hb q (List.mem_of_mem_eraseIdx hq) x (List.mem_of_mem_eraseIdx hx)
  have c2 := det_le (n := n - 1) (by omega) (cut_rect hA ha hp) c1
  have c3 : (4 * 243) ^ (n - 1) ≤ 972 ^ 3 := Nat.pow_le_pow_right (by decide) (by omega)
  have c4 : (cof n A a p).natAbs ≤ 972 ^ 3 := by
    unfold cof
    simp only
    split <;> omega
  rcases hd with e | e
  · rw [e, Int.one_mul]; exact c4
  · rw [e, Int.neg_one_mul, Int.natAbs_neg]; exact c4
theorem okM_le {n b : Nat} {A : Mx} (h : rectM n A) (hb : leM b A) (h60 : b < 1000000000000000000000000000000000000000000000000000000000000) : okM n A :=
  ⟨h, fun r hr x hx => isI_of (Nat.lt_of_le_of_lt (hb r hr x hx) h60)⟩
theorem okV_le {n b : Nat} {v : List Int} (h : v.length = n) (hb : ∀ x ∈ v, x.natAbs ≤ b) (h60 : b < 1000000000000000000000000000000000000000000000000000000000000) : okV n v :=
  ⟨h, fun x hx => isI_of (Nat.lt_of_le_of_lt (hb x hx) h60)⟩
theorem mulV_len {n : Nat} {A : Mx} (h : rectM n A) (v : List Int) : (mulV A v).length = n := by unfold mulV; rw [List.length_map, h.1]
def negV (v : List Int) : List Int := v.map fun x => -x
theorem neg_neg' (v : List Int) : negV (negV v) = v := by
  unfold negV
  rw [List.map_map]
  conv => rhs; rw [← List.map_id v]
  exact List.map_congr_left fun x _ => Int.neg_neg x
theorem fst_neg (v : List Int) : fstV (negV v) = -fstV v := by
  unfold fstV negV
  induction v with
  | nil => rfl
  | cons a v ih =>
    by_cases h : a = 0
    · subst h
      simpa using ih
    · simp [h]
theorem fst_ne {v : List Int} (h : ∃ x ∈ v, x ≠ 0) : fstV v ≠ 0 := by
  unfold fstV
  cases e : v.filter (· ≠ 0) with
  | nil =>
    obtain ⟨x, hx, x0⟩ := h
    have : x ∈ v.filter (· ≠ 0) := List.mem_filter.mpr ⟨hx, by simpa using x0⟩
    rw [e] at this
    cases this
  | cons a l =>
    have : a ∈ v.filter (· ≠ 0) := by rw [e]; exact List.mem_cons_self
    have := (List.mem_filter.mp this).2
    simpa using this
theorem norm_neg {v : List Int} (h : ∃ x ∈ v, x ≠ 0) : normV (negV v) = normV v := by
  have h0 := fst_ne h
  unfold normV
  rw [fst_neg]
  by_cases c : 0 < fstV v
  · rw [if_pos c, if_neg (by omega)]
    exact neg_neg' v
  · rw [if_neg c, if_pos (by omega)]
    rfl
theorem sq_neg (v : List Int) : sqM (negV v) = sqM v := by
  unfold sqM negV
  rw [List.map_map]
  refine List.map_congr_left fun x _ => ?_
  show (v.map fun x => -x).map (fun b => -x * b) = v.map fun b => x * b
  rw [List.map_map]
  exact List.map_congr_left fun y _ => Int.neg_mul_neg x y
theorem dot_zero : ∀ (r : List Int) (m : Nat), dotI r (List.replicate m 0) = 0
  | [], m => by simp [dotI]
  | a :: r, 0 => by simp [dotI]
  | a :: r, m + 1 => by rw [List.replicate_succ, dot_cons, dot_zero r m]; simp
theorem mulV_zero {n : Nat} {A : Mx} (h : rectM n A) : mulV A (List.replicate n 0) = List.replicate n 0 := by
  unfold mulV
  rw [← h.1]
  have : (A.map fun r => dotI r (List.replicate A.length 0)) = A.map fun _ => (0 : Int) := List.map_congr_left fun r _ => dot_zero r _
  rw [this]
  exact List.map_const' ..
theorem rep_zero (n : Nat) : (List.replicate (n : Int).toNat [D.int 0]).flatten = (List.replicate n (0 : Int)).map D.int := by
  rw [Int.toNat_natCast, List.map_replicate]
  induction n with
  | zero => rfl
  | succ m ih => rw [List.replicate_succ, List.flatten_cons, ih, List.replicate_succ]; rfl
theorem neM {A B : Mx} (e : A = B) {k : D → Prop} (h : k (.bl false)) : D.flat 64 (mT A) = true ∧ D.flat 64 (mT B) = true ∧ k (.bl (!(mT A).eqv (mT B))) := by
  subst e
  refine ⟨flat_mT _, flat_mT _, ?_⟩
  rw [eqv_mT, decide_eq_true rfl]
  exact h
theorem neM' {A B : Mx} (e : A = B) : (!(mT A).eqv (mT B)) = false := by rw [eqv_mT, decide_eq_true e]; rfl
theorem neV' {A B : List Int} (e : A = B) : (!(rT A).eqv (rT B)) = false := by rw [eqv_rT, decide_eq_true e]; rfl
theorem eqM' {A B : Mx} (e : A = B) : (mT A).eqv (mT B) = true := by rw [eqv_mT, decide_eq_true e]
theorem eqV' {A B : List Int} (e : A = B) : (rT A).eqv (rT B) = true := by rw [eqv_rT, decide_eq_true e]

/-! ### tables led and moved -/
def ledM (T M : Mx) : Mx := mulM (mulM (turnM M) T) M
def movM (T M : Mx) : Mx := mulM (mulM M T) (turnM M)
def valM (T : Mx) (v : List Int) : Int := dotI v (mulV T v)
def togM (A B : Mx) : Int := (List.zipWith dotI A B).sum
def plusM (A B : Mx) (m : Int) : Mx := List.zipWith (addR m) A B
local macro_rules | `(tactic| walk_at "mxu") => `(tactic| simp (config := {decide := true}) only [plusM, addR, togM, unitM, mulM, turnM, mulV, dotI, sgR, sqM, List.map, List.map_cons, List.map_nil, List.range, List.range.loop, List.headD_cons, List.length_cons, List.length_nil, List.getD, List.getElem?_cons_zero, List.getElem?_cons_succ, Option.getD_some, List.zipWith, List.sum_cons, List.sum_nil, Nat.reduceAdd, Nat.zero_add, List.cons.injEq, and_true, true_and, if_true, reduceIte, if_false, Nat.reduceEqDiff])
theorem turn_turn {n : Nat} (hn : sz n) {A : Mx} (h : rectM n A) : turnM (turnM A) = A := by
  rcases hn with rfl | rfl | rfl
  · obtain ⟨a, b, c, d, rfl⟩ := rect2 h
    walk_at "mxu"
  · obtain ⟨a, b, c, d, e', f, g, i, j, rfl⟩ := rect3 h
    walk_at "mxu"
  · obtain ⟨a, b, c, d, e', f, g, i, j, k, l', m, n, o, p, q, rfl⟩ := rect4 h
    walk_at "mxu"
theorem turn_mul {n : Nat} (hn : sz n) {A B : Mx} (ha : rectM n A) (hb : rectM n B) : turnM (mulM A B) = mulM (turnM B) (turnM A) := by
  rcases hn with rfl | rfl | rfl
  · obtain ⟨a', b', c', d', rfl⟩ := rect2 ha
    obtain ⟨a2, b2, c2, d2, rfl⟩ := rect2 hb
    walk_at "mxu"; grind
  · obtain ⟨a', b', c', d', e', f', g', i', j', rfl⟩ := rect3 ha
    obtain ⟨a2, b2, c2, d2, e2, f2, g2, i2, j2, rfl⟩ := rect3 hb
    walk_at "mxu"; refine ⟨⟨?_, ?_, ?_⟩, ⟨?_, ?_, ?_⟩, ⟨?_, ?_, ?_⟩⟩ <;> grind
  · obtain ⟨a', b', c', d', e', f', g', i', j', k', l', m', n', o', p', q', rfl⟩ := rect4 ha
    obtain ⟨a2, b2, c2, d2, e2, f2, g2, i2, j2, k2, l2, m2, n2, o2, p2, q2, rfl⟩ := rect4 hb
    walk_at "mxu"; refine ⟨⟨?_, ?_, ?_, ?_⟩, ⟨?_, ?_, ?_, ?_⟩, ⟨?_, ?_, ?_, ?_⟩, ⟨?_, ?_, ?_, ?_⟩⟩ <;> grind
theorem dot_turn {n : Nat} (hn : sz n) {M : Mx} (hm : rectM n M) {v w : List Int} (hv : v.length = n) (hw : w.length = n) : dotI v (mulV (turnM M) w) = dotI (mulV M v) w := by
  rcases hn with rfl | rfl | rfl
  · obtain ⟨a, b, rfl⟩ := len2 hv
    obtain ⟨x, y, rfl⟩ := len2 hw
    obtain ⟨a2, b2, c2, d2, rfl⟩ := rect2 hm
    walk_at "mxu"; grind
  · obtain ⟨a, b, c, rfl⟩ := len3 hv
    obtain ⟨x, y, z, rfl⟩ := len3 hw
    obtain ⟨a2, b2, c2, d2, e2, f2, g2, i2, j2, rfl⟩ := rect3 hm
    walk_at "mxu"; grind
  · obtain ⟨a, b, c, d, rfl⟩ := len4 hv
    obtain ⟨x, y, z, u, rfl⟩ := len4 hw
    obtain ⟨a2, b2, c2, d2, e2, f2, g2, i2, j2, k2, l2, m2, n2, o2, p2, q2, rfl⟩ := rect4 hm
    walk_at "mxu"; grind
theorem mov_sq {n : Nat} (hn : sz n) {M : Mx} (hm : rectM n M) {v : List Int} (hv : v.length = n) : movM (sqM v) M = sqM (mulV M v) := by
  unfold movM
  rcases hn with rfl | rfl | rfl
  · obtain ⟨a, b, rfl⟩ := len2 hv
    obtain ⟨a2, b2, c2, d2, rfl⟩ := rect2 hm
    walk_at "mxu"; grind
  · obtain ⟨a, b, c, rfl⟩ := len3 hv
    obtain ⟨a2, b2, c2, d2, e2, f2, g2, i2, j2, rfl⟩ := rect3 hm
    walk_at "mxu"; refine ⟨⟨?_, ?_, ?_⟩, ⟨?_, ?_, ?_⟩, ⟨?_, ?_, ?_⟩⟩ <;> grind
  · obtain ⟨a, b, c, d, rfl⟩ := len4 hv
    obtain ⟨a2, b2, c2, d2, e2, f2, g2, i2, j2, k2, l2, m2, n2, o2, p2, q2, rfl⟩ := rect4 hm
    walk_at "mxu"; refine ⟨⟨?_, ?_, ?_, ?_⟩, ⟨?_, ?_, ?_, ?_⟩, ⟨?_, ?_, ?_, ?_⟩, ⟨?_, ?_, ?_, ?_⟩⟩ <;> grind
theorem tog_sq {n : Nat} (hn : sz n) {M : Mx} (hm : rectM n M) {v : List Int} (hv : v.length = n) : togM M (sqM v) = valM M v := by
  unfold valM
  rcases hn with rfl | rfl | rfl
  · obtain ⟨a, b, rfl⟩ := len2 hv
    obtain ⟨a2, b2, c2, d2, rfl⟩ := rect2 hm
    walk_at "mxu"; grind
  · obtain ⟨a, b, c, rfl⟩ := len3 hv
    obtain ⟨a2, b2, c2, d2, e2, f2, g2, i2, j2, rfl⟩ := rect3 hm
    walk_at "mxu"; grind
  · obtain ⟨a, b, c, d, rfl⟩ := len4 hv
    obtain ⟨a2, b2, c2, d2, e2, f2, g2, i2, j2, k2, l2, m2, n2, o2, p2, q2, rfl⟩ := rect4 hm
    walk_at "mxu"; grind
theorem tog_comm : ∀ (A B : Mx), togM A B = togM B A
  | [], B => by simp [togM]
  | a :: A, [] => by simp [togM]
  | a :: A, b :: B => by
    have := tog_comm A B
    unfold togM at *
    rw [List.zipWith_cons_cons, List.zipWith_cons_cons, List.sum_cons, List.sum_cons, this, dot_comm]
theorem tog_left {n : Nat} (hn : sz n) {A B C : Mx} (ha : rectM n A) (hb : rectM n B) (hc : rectM n C) : togM (mulM A B) C = togM B (mulM (turnM A) C) := by
  rcases hn with rfl | rfl | rfl
  · obtain ⟨a', b', c', d', rfl⟩ := rect2 ha
    obtain ⟨a2, b2, c2, d2, rfl⟩ := rect2 hb
    obtain ⟨a3, b3, c3, d3, rfl⟩ := rect2 hc
    walk_at "mxu"; grind
  · obtain ⟨a', b', c', d', e', f', g', i', j', rfl⟩ := rect3 ha
    obtain ⟨a2, b2, c2, d2, e2, f2, g2, i2, j2, rfl⟩ := rect3 hb
    obtain ⟨a3, b3, c3, d3, e3, f3, g3, i3, j3, rfl⟩ := rect3 hc
    walk_at "mxu"; grind
  · obtain ⟨a', b', c', d', e', f', g', i', j', k', l', m', n', o', p', q', rfl⟩ := rect4 ha
    obtain ⟨a2, b2, c2, d2, e2, f2, g2, i2, j2, k2, l2, m2, n2, o2, p2, q2, rfl⟩ := rect4 hb
    obtain ⟨a3, b3, c3, d3, e3, f3, g3, i3, j3, k3, l3, m3, n3, o3, p3, q3, rfl⟩ := rect4 hc
    walk_at "mxu"; grind
theorem tog_right {n : Nat} (hn : sz n) {A B C : Mx} (ha : rectM n A) (hb : rectM n B) (hc : rectM n C) : togM (mulM A B) C = togM A (mulM C (turnM B)) := by
  rcases hn with rfl | rfl | rfl
  · obtain ⟨a', b', c', d', rfl⟩ := rect2 ha
    obtain ⟨a2, b2, c2, d2, rfl⟩ := rect2 hb
    obtain ⟨a3, b3, c3, d3, rfl⟩ := rect2 hc
    walk_at "mxu"; grind
  · obtain ⟨a', b', c', d', e', f', g', i', j', rfl⟩ := rect3 ha
    obtain ⟨a2, b2, c2, d2, e2, f2, g2, i2, j2, rfl⟩ := rect3 hb
    obtain ⟨a3, b3, c3, d3, e3, f3, g3, i3, j3, rfl⟩ := rect3 hc
    walk_at "mxu"; grind
  · obtain ⟨a', b', c', d', e', f', g', i', j', k', l', m', n', o', p', q', rfl⟩ := rect4 ha
    obtain ⟨a2, b2, c2, d2, e2, f2, g2, i2, j2, k2, l2, m2, n2, o2, p2, q2, rfl⟩ := rect4 hb
    obtain ⟨a3, b3, c3, d3, e3, f3, g3, i3, j3, k3, l3, m3, n3, o3, p3, q3, rfl⟩ := rect4 hc
    walk_at "mxu"; grind
section
variable {n : Nat} (hn : sz n) {A B C T M : Mx} (hA : rectM n A) (hB : rectM n B) (hC : rectM n C) (hT : rectM n T) (hM : rectM n M)
include hn
theorem led_rect (hT : rectM n T) (hM : rectM n M) : rectM n (ledM T M) := mul_rect hn.pos (mul_rect hn.pos (turn_rect hn.pos hM) hT) hM
theorem mov_rect (hT : rectM n T) (hM : rectM n M) : rectM n (movM T M) := mul_rect hn.pos (mul_rect hn.pos hM hT) (turn_rect hn.pos hM)
theorem led_sym (hT : rectM n T) (hM : rectM n M) (s : symM T) : symM (ledM T M) := by
  have tM := turn_rect hn.pos hM
  unfold symM ledM
  rw [turn_mul hn (mul_rect hn.pos tM hT) hM, turn_mul hn tM hT, turn_turn hn hM, s, mul_assoc' hn tM hT hM]
theorem mov_sym (hT : rectM n T) (hM : rectM n M) (s : symM T) : symM (movM T M) := by
  have tM := turn_rect hn.pos hM
  unfold symM movM
  rw [turn_mul hn (mul_rect hn.pos hM hT) tM, turn_mul hn hM hT, turn_turn hn hM, s, mul_assoc' hn hM hT tM]
theorem mov_led (T : Mx) (hM : rectM n M) : movM T M = ledM T (turnM M) := by
  unfold movM ledM
  rw [turn_turn hn hM]
theorem led_mul (hT : rectM n T) (hA : rectM n A) (hB : rectM n B) : ledM T (mulM A B) = ledM (ledM T A) B := by
  have tA := turn_rect hn.pos hA
  have tB := turn_rect hn.pos hB
  unfold ledM
  rw [turn_mul hn hA hB, mul_assoc' hn tB tA hT, ← mul_assoc' hn (mul_rect hn.pos tB (mul_rect hn.pos tA hT)) hA hB, mul_assoc' hn tB (mul_rect hn.pos tA hT) hA]
theorem mov_mul (hT : rectM n T) (hA : rectM n A) (hB : rectM n B) : movM T (mulM A B) = movM (movM T B) A := by
  have tA := turn_rect hn.pos hA
  have tB := turn_rect hn.pos hB
  rw [mov_led hn _ (mul_rect hn.pos hA hB), turn_mul hn hA hB, led_mul hn hT tB tA, ← mov_led hn _ hB, ← mov_led hn _ hA]
theorem led_unit (hT : rectM n T) : ledM T (unitM n) = T := by
  have e : turnM (unitM n) = unitM n := by
    rcases hn with rfl | rfl | rfl <;> decide
  unfold ledM
  rw [e, unit_mul hn hT, mul_unit hn hT]
theorem led_back (hT : rectM n T) (hM : rectM n M) (hd : pm (detN n M) 1) : ledM (ledM T M) (backM n M) = T := by
  rw [← led_mul hn hT hM (back_rect n M), mul_back hn hM hd, led_unit hn hT]
theorem mov_back (hT : rectM n T) (hM : rectM n M) (hd : pm (detN n M) 1) : movM (movM T M) (backM n M) = T := by
  have e : turnM (unitM n) = unitM n := by
    rcases hn with rfl | rfl | rfl <;> decide
  rw [← mov_mul hn hT (back_rect n M) hM, back_mul hn hM hd, mov_led hn _ (unit_rect n), e, led_unit hn hT]
theorem val_led (hT : rectM n T) (hM : rectM n M) {v : List Int} (hv : v.length = n) : valM (ledM T M) v = valM T (mulV M v) := by
  have tM := turn_rect hn.pos hM
  unfold valM ledM
  rw [mul_mulV hn (mul_rect hn.pos tM hT) hM hv, mul_mulV hn tM hT (mulV_len hM v), dot_turn hn hM hv (mulV_len hT _)]
theorem tog_led (hT : rectM n T) (hM : rectM n M) (hA : rectM n A) : togM (movM T M) A = togM T (ledM A M) := by
  have tM := turn_rect hn.pos hM
  unfold movM ledM
  rw [tog_right hn (mul_rect hn.pos hM hT) tM hA, turn_turn hn hM, tog_left hn hM hT (mul_rect hn.pos hA hM), mul_assoc' hn tM hA hM]
end
theorem le_addR {a b : Nat} {m : Int} {r s : List Int} (h1 : ∀ x ∈ r, x.natAbs ≤ a) (h2 : ∀ x ∈ s, x.natAbs ≤ b) : ∀ x ∈ addR m r s, x.natAbs ≤ a + m.natAbs * b := by
  intro x hx
  unfold addR at hx
  obtain ⟨i, hi, rfl⟩ := List.mem_iff_getElem.mp hx
  rw [List.getElem_zipWith]
  simp only [List.length_zipWith] at hi
  have a1 := h1 _ (List.getElem_mem (l := r) (n := i) (by omega))
  have c := h2 _ (List.getElem_mem (l := s) (n := i) (by omega))
  have d : (m * s[i]).natAbs ≤ m.natAbs * b := by
    rw [Int.natAbs_mul]
    exact Nat.mul_le_mul_left _ c
  omega
theorem plus_rect {n : Nat} {A B : Mx} (hA : rectM n A) (hB : rectM n B) (m : Int) : rectM n (plusM A B m) := by
  unfold plusM
  refine ⟨by simp [hA.1, hB.1], fun r hr => ?_⟩
  obtain ⟨i, hi, rfl⟩ := List.mem_iff_getElem.mp hr
  rw [List.getElem_zipWith]
  simp only [List.length_zipWith] at hi
  have a := hA.2 _ (List.getElem_mem (l := A) (n := i) (by omega))
  have b := hB.2 _ (List.getElem_mem (l := B) (n := i) (by omega))
  rw [addR_len (by rw [a, b]), a]
theorem plus_le {n a b : Nat} {A B : Mx} (hA : leM a A) (hB : leM b B) (m : Int) : leM (a + m.natAbs * b) (plusM A B m) := by
  intro r hr
  unfold plusM at hr
  obtain ⟨i, hi, rfl⟩ := List.mem_iff_getElem.mp hr
  rw [List.getElem_zipWith]
  simp only [List.length_zipWith] at hi
  exact le_addR (hA _ (List.getElem_mem (l := A) (n := i) (by omega))) (hB _ (List.getElem_mem (l := B) (n := i) (by omega)))
theorem plus_sym {n : Nat} (hn : sz n) {A B : Mx} (hA : rectM n A) (hB : rectM n B) (m : Int) (sA : symM A) (sB : symM B) : symM (plusM A B m) := by
  unfold symM at *
  have e : turnM (plusM A B m) = plusM (turnM A) (turnM B) m := by
    rcases hn with rfl | rfl | rfl
    · obtain ⟨a', b', c', d', rfl⟩ := rect2 hA
      obtain ⟨a2, b2, c2, d2, rfl⟩ := rect2 hB
      walk_at "mxu"
    · obtain ⟨a', b', c', d', e', f', g', i', j', rfl⟩ := rect3 hA
      obtain ⟨a2, b2, c2, d2, e2, f2, g2, i2, j2, rfl⟩ := rect3 hB
      walk_at "mxu"
    · obtain ⟨a', b', c', d', e', f', g', i', j', k', l', m', n', o', p', q', rfl⟩ := rect4 hA
      obtain ⟨a2, b2, c2, d2, e2, f2, g2, i2, j2, k2, l2, m2, n2, o2, p2, q2, rfl⟩ := rect4 hB
      walk_at "mxu"
  rw [e, sA, sB]
theorem gen_rect (n : Nat) (f : Nat → Nat → Int) : rectM n (genM n f) := by
  unfold genM
  refine ⟨by simp, fun r hr => ?_⟩
  obtain ⟨i, _, rfl⟩ := List.mem_map.mp hr
  simp
theorem gen_le {n b : Nat} {f : Nat → Nat → Int} (h : ∀ i j, i < n → j < n → (f i j).natAbs ≤ b) : leM b (genM n f) := by
  intro r hr x hx
  unfold genM at hr
  obtain ⟨i, hi, rfl⟩ := List.mem_map.mp hr
  obtain ⟨j, hj, rfl⟩ := List.mem_map.mp hx
  exact h i j (List.mem_range.mp hi) (List.mem_range.mp hj)
theorem sq_sym {n : Nat} (hn : sz n) {v : List Int} (hv : v.length = n) : symM (sqM v) := by
  unfold symM
  rcases hn with rfl | rfl | rfl
  · obtain ⟨a, b, rfl⟩ := len2 hv
    walk_at "mxu"; grind
  · obtain ⟨a, b, c, rfl⟩ := len3 hv
    walk_at "mxu"; grind
  · obtain ⟨a, b, c, d, rfl⟩ := len4 hv
    walk_at "mxu"; grind
theorem sq_rect {n : Nat} {v : List Int} (hv : v.length = n) : rectM n (sqM v) := by
  unfold sqM
  refine ⟨by rw [List.length_map, hv], fun r hr => ?_⟩
  obtain ⟨i, _, rfl⟩ := List.mem_map.mp hr
  rw [List.length_map, hv]
theorem sq_le {b : Nat} {v : List Int} (h : ∀ x ∈ v, x.natAbs ≤ b) : leM (b * b) (sqM v) := by
  intro r hr x hx
  unfold sqM at hr
  obtain ⟨i, hi, rfl⟩ := List.mem_map.mp hr
  obtain ⟨j, hj, rfl⟩ := List.mem_map.mp hx
  rw [Int.natAbs_mul]
  exact Nat.mul_le_mul (h i hi) (h j hj)
theorem led_le {n a b : Nat} (hn : sz n) {T M : Mx} (hT : rectM n T) (hM : rectM n M) (h1 : leM a T) (h2 : leM b M) : leM (n * (n * (b * a) * b)) (ledM T M) :=
  le_mul (mul_rect hn.pos (turn_rect hn.pos hM) hT) (le_mul (turn_rect hn.pos hM) (le_turn h2) h1) h2
theorem mov_le {n a b : Nat} (hn : sz n) {T M : Mx} (hT : rectM n T) (hM : rectM n M) (h1 : leM a T) (h2 : leM b M) : leM (n * (n * (b * a) * b)) (movM T M) :=
  le_mul (mul_rect hn.pos hM hT) (le_mul hM h2 h1) (le_turn h2)
theorem leM.mono {a b : Nat} {A : Mx} (h : leM a A) (hab : a ≤ b) : leM b A := fun r hr x hx => Nat.le_trans (h r hr x hx) hab
theorem adj_le {n b : Nat} (hn : sz n) {A : Mx} (hA : rectM n A) (hb : leM b A) : leM ((4 * b) ^ (n - 1)) (adjM n A) := by
  have n4 := hn.le
  intro r hr x hx
  unfold adjM at hr
  obtain ⟨p, hp, rfl⟩ := List.mem_map.mp hr
  obtain ⟨a, ha, rfl⟩ := List.mem_map.mp hx
  have ha := List.mem_range.mp ha
  have hp := List.mem_range.mp hp
  have c1 : leM b ((A.eraseIdx a).map (·.eraseIdx p)) := by
    intro r hr x hx
    obtain ⟨q, hq, rfl⟩ := List.mem_map.mp hr
    exact hb q (List.mem_of_mem_eraseIdx hq) x (List.mem_of_mem_eraseIdx hx)
  have c2 := det_le (n := n - 1) (by omega) (cut_rect hA ha hp) c1
  unfold cof
  simp only
  split <;> omega
theorem adj_sym {n : Nat} (hn : sz n) {A : Mx} (hA : rectM n A) (s : symM A) : symM (adjM n A) := by
  unfold symM
  have e : turnM (adjM n A) = adjM n (turnM A) := by
    rcases hn with rfl | rfl | rfl
    · obtain ⟨a, b, c, d, rfl⟩ := rect2 hA
      walk_at "mxu"
      walk_at "mxt"
    · obtain ⟨a, b, c, d, e', f, g, i, j, rfl⟩ := rect3 hA
      walk_at "mxu"
      walk_at "mxt"
      grind
    · obtain ⟨a, b, c, d, e', f, g, i, j, k, l', m, n, o, p, q, rfl⟩ := rect4 hA
      walk_at "mxu"
      walk_at "mxt"
      refine ⟨⟨?_, ?_, ?_, ?_⟩, ⟨?_, ?_, ?_, ?_⟩, ⟨?_, ?_, ?_, ?_⟩, ⟨?_, ?_, ?_, ?_⟩⟩ <;> grind
  rw [e, s]

/-! ### positive tables -/
def corner (k : Nat) (A : Mx) : Mx := (A.take k).map fun r => r.take k
def minB (n : Nat) (A : Mx) : Bool := (List.range n).all fun i => decide (0 < detN (i + 1) (corner (i + 1) A))
theorem sq_nn (x : Int) : 0 ≤ x * x := by
  rcases Int.le_total 0 x with h | h
  · exact Int.mul_nonneg h h
  · have := Int.mul_nonneg (show 0 ≤ -x by omega) (show 0 ≤ -x by omega)
    rwa [Int.neg_mul_neg] at this
theorem sq_pos' {x : Int} (h : x ≠ 0) : 0 < x * x := by
  rcases Int.lt_or_gt_of_ne h with h | h
  · have := Int.mul_pos (show 0 < -x by omega) (show 0 < -x by omega)
    rwa [Int.neg_mul_neg] at this
  · exact Int.mul_pos h h
theorem pos_of_mul {a q : Int} (ha : 0 < a) (h : 0 < a * q) : 0 < q := by
  rcases Int.lt_or_le 0 q with z | z
  · exact z
  · have := Int.mul_le_mul_of_nonneg_left z (Int.le_of_lt ha)
    rw [Int.mul_zero] at this
    omega
def q2 (a b c x y : Int) : Int := a * x * x + 2 * b * x * y + c * y * y
theorem pd2 {a b c : Int} (ha : 0 < a) (hd : 0 < a * c - b * b) {x y : Int} (h : x ≠ 0 ∨ y ≠ 0) : 0 < q2 a b c x y := by
  refine pos_of_mul ha ?_
  have e : a * q2 a b c x y = (a * x + b * y) * (a * x + b * y) + (a * c - b * b) * (y * y) := by unfold q2; grind
  rw [e]
  have s := sq_nn (a * x + b * y)
  by_cases hy : y = 0
  · subst hy
    have hx : x ≠ 0 := by omega
    have : a * x + b * 0 ≠ 0 := by
      rw [Int.mul_zero, Int.add_zero]
      exact Int.mul_ne_zero (by omega) hx
    have := sq_pos' this
    simp only [Int.mul_zero] at *
    omega
  · have := Int.mul_pos hd (sq_pos' hy)
    omega
def q3 (a b c d e f x y z : Int) : Int := a * x * x + d * y * y + f * z * z + 2 * b * x * y + 2 * c * x * z + 2 * e * y * z
def d3 (a b c d e f : Int) : Int := a * (d * f - e * e) - b * (b * f - e * c) + c * (b * e - d * c)
theorem pd3 {a b c d e f : Int} (ha : 0 < a) (h2 : 0 < a * d - b * b) (h3 : 0 < d3 a b c d e f) {x y z : Int} (h : x ≠ 0 ∨ y ≠ 0 ∨ z ≠ 0) : 0 < q3 a b c d e f x y z := by
  refine pos_of_mul ha ?_
  have e1 : a * q3 a b c d e f x y z = (a * x + b * y + c * z) * (a * x + b * y + c * z) + q2 (a * d - b * b) (a * e - b * c) (a * f - c * c) y z := by unfold q3 q2; grind
  rw [e1]
  have s := sq_nn (a * x + b * y + c * z)
  by_cases hy : y = 0 ∧ z = 0
  · obtain ⟨rfl, rfl⟩ := hy
    have hx : x ≠ 0 := by omega
    have : a * x + b * 0 + c * 0 ≠ 0 := by
      rw [Int.mul_zero, Int.mul_zero, Int.add_zero, Int.add_zero]
      exact Int.mul_ne_zero (by omega) hx
    have := sq_pos' this
    have z0 : q2 (a * d - b * b) (a * e - b * c) (a * f - c * c) 0 0 = 0 := by unfold q2; simp
    omega
  · have hd : 0 < (a * d - b * b) * (a * f - c * c) - (a * e - b * c) * (a * e - b * c) := by
      have e2 : (a * d - b * b) * (a * f - c * c) - (a * e - b * c) * (a * e - b * c) = a * d3 a b c d e f := by unfold d3; grind
      rw [e2]
      exact Int.mul_pos ha h3
    have := pd2 h2 hd (x := y) (y := z) (by omega)
    omega
def q4 (a b c d e f g i j k x y z w : Int) : Int := a * x * x + e * y * y + i * z * z + k * w * w + 2 * b * x * y + 2 * c * x * z + 2 * d * x * w + 2 * f * y * z + 2 * g * y * w + 2 * j * z * w
def d4 (a b c d e f g i j k : Int) : Int := a * (e * (i * k - j * j) - f * (f * k - j * g) + g * (f * j - i * g)) - b * (b * (i * k - j * j) - f * (c * k - j * d) + g * (c * j - i * d)) + c * (b * (f * k - j * g) - e * (c * k - j * d) + g * (c * g - f * d)) - d * (b * (f * j - i * g) - e * (c * j - i * d) + f * (c * g - f * d))
theorem pd4 {a b c d e f g i j k : Int} (ha : 0 < a) (h2 : 0 < a * e - b * b) (h3 : 0 < d3 a b c e f i) (h4 : 0 < d4 a b c d e f g i j k) {x y z w : Int} (h : x ≠ 0 ∨ y ≠ 0 ∨ z ≠ 0 ∨ w ≠ 0) : 0 < q4 a b c d e f g i j k x y z w := by
  refine pos_of_mul ha ?_
  have e1 : a * q4 a b c d e f g i j k x y z w = (a * x + b * y + c * z + d * w) * (a * x + b * y + c * z + d * w) + q3 (a * e - b * b) (a * f - b * c) (a * g - b * d) (a * i - c * c) (a * j - c * d) (a * k - d * d) y z w := by unfold q4 q3; grind
  rw [e1]
  have s := sq_nn (a * x + b * y + c * z + d * w)
  by_cases hy : y = 0 ∧ z = 0 ∧ w = 0
  · obtain ⟨rfl, rfl, rfl⟩ := hy
    have hx : x ≠ 0 := by omega
    have : a * x + b * 0 + c * 0 + d * 0 ≠ 0 := by
      simp only [Int.mul_zero, Int.add_zero]
      exact Int.mul_ne_zero (by omega) hx
    have := sq_pos' this
    have z0 : q3 (a * e - b * b) (a * f - b * c) (a * g - b * d) (a * i - c * c) (a * j - c * d) (a * k - d * d) 0 0 0 = 0 := by unfold q3; simp
    omega
  · have hd2 : 0 < (a * e - b * b) * (a * i - c * c) - (a * f - b * c) * (a * f - b * c) := by
      have e2 : (a * e - b * b) * (a * i - c * c) - (a * f - b * c) * (a * f - b * c) = a * d3 a b c e f i := by unfold d3; grind
      rw [e2]
      exact Int.mul_pos ha h3
    have hd3 : 0 < d3 (a * e - b * b) (a * f - b * c) (a * g - b * d) (a * i - c * c) (a * j - c * d) (a * k - d * d) := by
      have e2 : d3 (a * e - b * b) (a * f - b * c) (a * g - b * d) (a * i - c * c) (a * j - c * d) (a * k - d * d) = a * a * d4 a b c d e f g i j k := by unfold d3 d4; grind
      rw [e2]
      exact Int.mul_pos (Int.mul_pos ha ha) h4
    have := pd3 h2 hd2 hd3 (x := y) (y := z) (z := w) (by omega)
    omega
/-- the form is above 0 at all rows but 0 -/
def PDf (n : Nat) (A : Mx) : Prop := ∀ v : List Int, v.length = n → (∃ x ∈ v, x ≠ 0) → 0 < valM A v
theorem minB_iff {n : Nat} {A : Mx} : minB n A = true ↔ ∀ i, i < n → 0 < detN (i + 1) (corner (i + 1) A) := by
  unfold minB
  rw [List.all_eq_true]
  exact ⟨fun h i hi => of_decide_eq_true (h i (List.mem_range.mpr hi)), fun h i hi => decide_eq_true (h i (List.mem_range.mp hi))⟩
theorem sym2 {a b c d : Int} (s : symM [[a, b], [c, d]]) : c = b := by
  unfold symM at s
  simp (config := {decide := true}) only [turnM, List.map, List.map_cons, List.map_nil, List.range, List.range.loop, List.headD_cons, List.length_cons, List.length_nil, List.getD, List.getElem?_cons_zero, List.getElem?_cons_succ, Option.getD_some, Nat.reduceAdd, Nat.zero_add, List.cons.injEq, and_true, true_and] at s
  omega
theorem sym3 {a b c d e f g i j : Int} (s : symM [[a, b, c], [d, e, f], [g, i, j]]) : d = b ∧ g = c ∧ i = f := by
  unfold symM at s
  simp (config := {decide := true}) only [turnM, List.map, List.map_cons, List.map_nil, List.range, List.range.loop, List.headD_cons, List.length_cons, List.length_nil, List.getD, List.getElem?_cons_zero, List.getElem?_cons_succ, Option.getD_some, Nat.reduceAdd, Nat.zero_add, List.cons.injEq, and_true, true_and] at s
  omega
theorem sym4 {a b c d e f g i j k l m n o p q : Int} (s : symM [[a, b, c, d], [e, f, g, i], [j, k, l, m], [n, o, p, q]]) : e = b ∧ j = c ∧ n = d ∧ k = g ∧ o = i ∧ p = m := by
  unfold symM at s
  simp (config := {decide := true}) only [turnM, List.map, List.map_cons, List.map_nil, List.range, List.range.loop, List.headD_cons, List.length_cons, List.length_nil, List.getD, List.getElem?_cons_zero, List.getElem?_cons_succ, Option.getD_some, Nat.reduceAdd, Nat.zero_add, List.cons.injEq, and_true, true_and] at s
  omega
theorem min2 {a b d : Int} : minB 2 [[a, b], [b, d]] = true ↔ 0 < a ∧ 0 < a * d - b * b := by
  rw [minB_iff]
  constructor
  · intro h
    have h0 := h 0 (by omega)
    have h1 := h 1 (by omega)
    simp only [corner, List.take, List.map, Nat.zero_add, Nat.reduceAdd, det1, det2] at h0 h1
    exact ⟨h0, h1⟩
  · rintro ⟨h0, h1⟩ i hi
    have : i = 0 ∨ i = 1 := by omega
    rcases this with rfl | rfl <;> simp only [corner, List.take, List.map, Nat.zero_add, Nat.reduceAdd, det1, det2] <;> assumption
theorem min3 {a b c e f j : Int} : minB 3 [[a, b, c], [b, e, f], [c, f, j]] = true ↔ 0 < a ∧ 0 < a * e - b * b ∧ 0 < d3 a b c e f j := by
  rw [minB_iff]
  constructor
  · intro h
    have h0 := h 0 (by omega)
    have h1 := h 1 (by omega)
    have h2 := h 2 (by omega)
    simp only [corner, List.take, List.map, Nat.zero_add, Nat.reduceAdd, det1, det2, det3] at h0 h1 h2
    exact ⟨h0, h1, h2⟩
  · rintro ⟨h0, h1, h2⟩ i hi
    have : i = 0 ∨ i = 1 ∨ i = 2 := by omega
    rcases this with rfl | rfl | rfl <;> simp only [corner, List.take, List.map, Nat.zero_add, Nat.reduceAdd, det1, det2, det3] <;> assumption
theorem min4 {a b c d f g i l m q : Int} : minB 4 [[a, b, c, d], [b, f, g, i], [c, g, l, m], [d, i, m, q]] = true ↔ 0 < a ∧ 0 < a * f - b * b ∧ 0 < d3 a b c f g l ∧ 0 < d4 a b c d f g i l m q := by
  rw [minB_iff]
  constructor
  · intro h
    have h0 := h 0 (by omega)
    have h1 := h 1 (by omega)
    have h2 := h 2 (by omega)
    have h3 := h 3 (by omega)
    simp only [corner, List.take, List.map, Nat.zero_add, Nat.reduceAdd, det1, det2, det3, det4] at h0 h1 h2 h3
    exact ⟨h0, h1, h2, h3⟩
  · rintro ⟨h0, h1, h2, h3⟩ i hi
    have : i = 0 ∨ i = 1 ∨ i = 2 ∨ i = 3 := by omega
    rcases this with rfl | rfl | rfl | rfl <;> simp only [corner, List.take, List.map, Nat.zero_add, Nat.reduceAdd, det1, det2, det3, det4] <;> assumption
theorem val2 (a b d x y : Int) : valM [[a, b], [b, d]] [x, y] = q2 a b d x y := by
  unfold valM q2
  walk_at "mxu"; grind
theorem val3 (a b c e f j x y z : Int) : valM [[a, b, c], [b, e, f], [c, f, j]] [x, y, z] = q3 a b c e f j x y z := by
  unfold valM q3
  walk_at "mxu"; grind
theorem val4 (a b c d f g i l m q x y z w : Int) : valM [[a, b, c, d], [b, f, g, i], [c, g, l, m], [d, i, m, q]] [x, y, z, w] = q4 a b c d f g i l m q x y z w := by
  unfold valM q4
  walk_at "mxu"; grind
/-- the first minors above 0, and the form above 0: the same -/
theorem min_pos {n : Nat} (hn : sz n) {A : Mx} (h : rectM n A) (s : symM A) : minB n A = true ↔ PDf n A := by
  rcases hn with rfl | rfl | rfl
  · obtain ⟨a, b, c, d, rfl⟩ := rect2 h
    obtain rfl := sym2 s
    rw [min2]
    constructor
    · rintro ⟨h0, h1⟩ v hv hne
      obtain ⟨x, y, rfl⟩ := len2 hv
      rw [val2]
      exact pd2 h0 h1 (by simpa using hne)
    · intro p
      have h0 := p [1, 0] rfl ⟨1, by simp, by decide⟩
      rw [val2] at h0
      have h0 : 0 < a := by unfold q2 at h0; simpa using h0
      refine ⟨h0, pos_of_mul h0 ?_⟩
      have h1 := p [-c, a] rfl ⟨a, by simp, by omega⟩
      rw [val2] at h1
      have e : q2 a c d (-c) a = a * (a * d - c * c) := by unfold q2; grind
      rwa [e] at h1
  · obtain ⟨a, b, c, d, e, f, g, i, j, rfl⟩ := rect3 h
    obtain ⟨rfl, rfl, rfl⟩ := sym3 s
    rw [min3]
    constructor
    · rintro ⟨h0, h1, h2⟩ v hv hne
      obtain ⟨x, y, z, rfl⟩ := len3 hv
      rw [val3]
      exact pd3 h0 h1 h2 (by simpa using hne)
    · intro p
      have h0 := p [1, 0, 0] rfl ⟨1, by simp, by decide⟩
      rw [val3] at h0
      have h0 : 0 < a := by unfold q3 at h0; simpa using h0
      have h1 : 0 < a * e - d * d := by
        refine pos_of_mul h0 ?_
        have h1 := p [-d, a, 0] rfl ⟨a, by simp, by omega⟩
        rw [val3] at h1
        have e1 : q3 a d g e i j (-d) a 0 = a * (a * e - d * d) := by unfold q3; grind
        rwa [e1] at h1
      refine ⟨h0, h1, pos_of_mul h1 ?_⟩
      have h2 := p [d * i - g * e, d * g - a * i, a * e - d * d] rfl ⟨a * e - d * d, by simp, by omega⟩
      rw [val3] at h2
      have e1 : q3 a d g e i j (d * i - g * e) (d * g - a * i) (a * e - d * d) = (a * e - d * d) * d3 a d g e i j := by unfold q3 d3; grind
      rwa [e1] at h2
  · obtain ⟨a, b, c, d, e, f, g, i, j, k, l, m, n, o, p', q, rfl⟩ := rect4 h
    obtain ⟨rfl, rfl, rfl, rfl, rfl, rfl⟩ := sym4 s
    rw [min4]
    constructor
    · rintro ⟨h0, h1, h2, h3⟩ v hv hne
      obtain ⟨x, y, z, w, rfl⟩ := len4 hv
      rw [val4]
      exact pd4 h0 h1 h2 h3 (by simpa using hne)
    · intro p
      have h0 := p [1, 0, 0, 0] rfl ⟨1, by simp, by decide⟩
      rw [val4] at h0
      have h0 : 0 < a := by unfold q4 at h0; simpa using h0
      have h1 : 0 < a * f - e * e := by
        refine pos_of_mul h0 ?_
        have h1 := p [-e, a, 0, 0] rfl ⟨a, by simp, by omega⟩
        rw [val4] at h1
        have e1 : q4 a e j n f k o l p' q (-e) a 0 0 = a * (a * f - e * e) := by unfold q4; grind
        rwa [e1] at h1
      have h2 : 0 < d3 a e j f k l := by
        refine pos_of_mul h1 ?_
        have h2 := p [e * k - j * f, e * j - a * k, a * f - e * e, 0] rfl ⟨a * f - e * e, by simp, by omega⟩
        rw [val4] at h2
        have e1 : q4 a e j n f k o l p' q (e * k - j * f) (e * j - a * k) (a * f - e * e) 0 = (a * f - e * e) * d3 a e j f k l := by unfold q4 d3; grind
        rwa [e1] at h2
      refine ⟨h0, h1, h2, pos_of_mul h2 ?_⟩
      have h3 := p [-(e * (k * p' - l * o) - j * (f * p' - k * o) + n * (f * l - k * k)), a * (k * p' - l * o) - j * (e * p' - j * o) + n * (e * l - j * k), -(a * (f * p' - k * o) - e * (e * p' - j * o) + n * (e * k - j * f)), d3 a e j f k l] rfl ⟨d3 a e j f k l, by simp, by omega⟩
      rw [val4] at h3
      have e1 : q4 a e j n f k o l p' q (-(e * (k * p' - l * o) - j * (f * p' - k * o) + n * (f * l - k * k))) (a * (k * p' - l * o) - j * (e * p' - j * o) + n * (e * l - j * k)) (-(a * (f * p' - k * o) - e * (e * p' - j * o) + n * (e * k - j * f))) (d3 a e j f k l) = d3 a e j f k l * d4 a e j n f k o l p' q := by unfold q4 d3 d4; grind
      rwa [e1] at h3
/-! closures -/
theorem mulV_ne {n : Nat} (hn : sz n) {M : Mx} (hM : rectM n M) (hd : pm (detN n M) 1) {v : List Int} (hv : v.length = n) (h : ∃ x ∈ v, x ≠ 0) : ∃ x ∈ mulV M v, x ≠ 0 := by
  refine Classical.byContradiction fun hc => ?_
  have hz : mulV M v = List.replicate n 0 := by
    refine List.eq_replicate_iff.mpr ⟨mulV_len hM v, fun x hx => ?_⟩
    exact Classical.byContradiction fun z => hc ⟨x, hx, z⟩
  have e : mulV (backM n M) (mulV M v) = v := by rw [← mul_mulV hn (back_rect n M) hM hv, back_mul hn hM hd, unit_mulV hn hv]
  rw [hz, mulV_zero (back_rect n M)] at e
  obtain ⟨x, hx, hx0⟩ := h
  rw [← e] at hx
  exact hx0 (List.eq_of_mem_replicate hx)
theorem pos_led {n : Nat} (hn : sz n) {T M : Mx} (hT : rectM n T) (hM : rectM n M) (hd : pm (detN n M) 1) (p : PDf n T) : PDf n (ledM T M) := fun v hv hne => by
  rw [val_led hn hT hM hv]
  exact p _ (mulV_len hM v) (mulV_ne hn hM hd hv hne)
theorem val_plus {n : Nat} (hn : sz n) {A B : Mx} (hA : rectM n A) (hB : rectM n B) (m : Int) {v : List Int} (hv : v.length = n) : valM (plusM A B m) v = valM A v + m * valM B v := by
  unfold valM
  rcases hn with rfl | rfl | rfl
  · obtain ⟨x, y, rfl⟩ := len2 hv
    obtain ⟨a', b', c', d', rfl⟩ := rect2 hA
    obtain ⟨a2, b2, c2, d2, rfl⟩ := rect2 hB
    walk_at "mxu"; grind
  · obtain ⟨x, y, z, rfl⟩ := len3 hv
    obtain ⟨a', b', c', d', e', f', g', i', j', rfl⟩ := rect3 hA
    obtain ⟨a2, b2, c2, d2, e2, f2, g2, i2, j2, rfl⟩ := rect3 hB
    walk_at "mxu"; grind
  · obtain ⟨x, y, z, u, rfl⟩ := len4 hv
    obtain ⟨a', b', c', d', e', f', g', i', j', k', l', m', n', o', p', q', rfl⟩ := rect4 hA
    obtain ⟨a2, b2, c2, d2, e2, f2, g2, i2, j2, k2, l2, m2, n2, o2, p2, q2, rfl⟩ := rect4 hB
    walk_at "mxu"; grind
theorem pos_plus {n : Nat} (hn : sz n) {A B : Mx} (hA : rectM n A) (hB : rectM n B) {m : Int} (hm : 0 ≤ m) (pA : PDf n A) (pB : PDf n B) : PDf n (plusM A B m) := fun v hv hne => by
  rw [val_plus hn hA hB m hv]
  have a := pA v hv hne
  have b := Int.mul_nonneg hm (Int.le_of_lt (pB v hv hne))
  omega

/-! ### what the defs about tables promise -/
def Tab (n b : Nat) (A : Mx) : Prop := rectM n A ∧ symM A ∧ leM b A
def sp_require_table : DSp := fun _ ss K => ∃ (n : Nat) (A : Mx), ss = [.val (.int n), .val (mT A)] ∧ sz n ∧ okM n A ∧ symM A ∧ K .non
def sp_pairing_in : DSp := fun _ ss K => ∃ (n : Nat) (T : Mx) (v w : List Int), ss = [.val (mT T), .val (rT v), .val (rT w)] ∧ sz n ∧ okM n T ∧ okV n v ∧ okV n w ∧ K (.int (dotI v (mulV T w)))
def sp_value_in : DSp := fun _ ss K => ∃ (n : Nat) (T : Mx) (v : List Int), ss = [.val (mT T), .val (rT v)] ∧ sz n ∧ okM n T ∧ okV n v ∧ K (.int (valM T v))
def sp_table_led : DSp := fun _ ss K => ∃ (n : Nat) (T M : Mx), ss = [.val (mT T), .val (mT M)] ∧ sz n ∧ okM n T ∧ okM n M ∧ K (mT (ledM T M))
def sp_table_moved : DSp := fun _ ss K => ∃ (n : Nat) (T M : Mx), ss = [.val (mT T), .val (mT M)] ∧ sz n ∧ okM n T ∧ okM n M ∧ K (mT (movM T M))
def sp_together_of : DSp := fun _ ss K => ∃ (n : Nat) (A B : Mx), ss = [.val (mT A), .val (mT B)] ∧ sz n ∧ okM n A ∧ okM n B ∧ K (.int (togM A B))
def sp_require_moving : DSp := fun _ ss K => ∃ (n : Nat) (T M : Mx), ss = [.val (mT T), .val (mT M)] ∧ sz n ∧ okM n T ∧ symM T ∧ okM n M ∧ pm (detN n M) 1 ∧ K .non
def sp_led_table : DSp := fun _ ss K => ∃ (n : Nat) (T M : Mx), ss = [.val (mT T), .val (mT M)] ∧ sz n ∧ okM n T ∧ symM T ∧ okM n M ∧ pm (detN n M) 1 ∧ K (mT (ledM T M))
def sp_moved_table : DSp := fun _ ss K => ∃ (n : Nat) (T M : Mx), ss = [.val (mT T), .val (mT M)] ∧ sz n ∧ okM n T ∧ symM T ∧ okM n M ∧ pm (detN n M) 1 ∧ K (mT (movM T M))
def sp_table_value : DSp := fun _ ss K => ∃ (n : Nat) (T : Mx) (v : List Int), ss = [.val (mT T), .val (rT v)] ∧ sz n ∧ okM n T ∧ symM T ∧ okV n v ∧ K (.int (valM T v))
def sp_together : DSp := fun _ ss K => ∃ (n : Nat) (A B : Mx), ss = [.val (mT A), .val (mT B)] ∧ sz n ∧ okM n A ∧ symM A ∧ okM n B ∧ symM B ∧ K (.int (togM A B))
/-! the law's own -/
def nmD (n : Nat) : List D := if n = 4 then [.str "A4", .str "D4"] else if n = 3 then [.str "A3"] else [.str "A2"]
def sp_l_names : DSp := fun _ ss K => ∃ (n : Nat), ss = [.val (.int n)] ∧ sz n ∧ K (.lst (nmD n))
def sp_l_told : DSp := fun _ ss K => ∃ (n : Nat) (d : D), ss = [.val d] ∧ sz n ∧ d ∈ nmD n ∧ ∀ A, Tab n 2 A → PDf n A → K (mT A)
def sp_l_plain_rays : DSp := fun _ ss K => ∃ (n : Nat), ss = [.val (.int n)] ∧ sz n ∧ ∀ vs : Mx, vs.length ≤ 20 → (∀ v ∈ vs, v.length = n ∧ ∀ x ∈ v, x.natAbs ≤ 1) → K (.lst (vs.map rT))
def sp_l_summed : DSp := fun _ ss K => ∃ (n : Nat) (vs : Mx) (ws : List Int), ss = [.val (.int n), .val (.lst (vs.map rT)), .val (.lst (ws.map D.int))] ∧ sz n ∧ vs.length ≤ 20 ∧ ws.length ≤ 20 ∧ (∀ v ∈ vs, v.length = n ∧ ∀ x ∈ v, x.natAbs ≤ 2) ∧ (∀ w ∈ ws, w.natAbs ≤ 4) ∧ ∀ A, Tab n 400 A → K (mT A)
def sp_l_begun : DSp := fun _ ss K => ∃ (n : Nat), ss = [.bag, .val (.int n)] ∧ sz n ∧ ∀ A, Tab n 3000 A → K (mT A)
def sp_l_positive : DSp := fun _ ss K => ∃ (n : Nat), ss = [.bag, .val (.int n)] ∧ sz n ∧ ∀ A, Tab n (10 ^ 11) A → PDf n A → K (mT A)
def sp_l_wide : DSp := fun _ ss K => ∃ (n : Nat), ss = [.bag, .val (.int n)] ∧ sz n ∧ ∀ A, Tab n (10 ^ 30) A → PDf n A → K (mT A)
def sp_l_pairing : DSp := fun _ ss K => ∃ (n : Nat) (T : Mx) (v w : List Int), ss = [.val (mT T), .val (rT v), .val (rT w)] ∧ sz n ∧ okM n T ∧ okV n v ∧ okV n w ∧ K (.int (dotI v (mulV T w)))
def sp_l_value : DSp := fun _ ss K => ∃ (n : Nat) (T : Mx) (v : List Int), ss = [.val (mT T), .val (rT v)] ∧ sz n ∧ okM n T ∧ okV n v ∧ K (.int (valM T v))
def sp_l_led : DSp := fun _ ss K => ∃ (n : Nat) (T M : Mx), ss = [.val (mT T), .val (mT M)] ∧ sz n ∧ okM n T ∧ okM n M ∧ K (mT (ledM T M))
def sp_l_moved : DSp := fun _ ss K => ∃ (n : Nat) (T M : Mx), ss = [.val (mT T), .val (mT M)] ∧ sz n ∧ okM n T ∧ okM n M ∧ K (mT (movM T M))
def sp_l_together : DSp := fun _ ss K => ∃ (n : Nat) (A B : Mx), ss = [.val (mT A), .val (mT B)] ∧ sz n ∧ okM n A ∧ okM n B ∧ K (.int (togM A B))
def sp_l_plus : DSp := fun _ ss K => ∃ (n : Nat) (A B : Mx) (m : Int), ss = [.val (mT A), .val (mT B), .val (.int m)] ∧ sz n ∧ rectM n A ∧ rectM n B ∧ bdM 10000 B ∧ m.natAbs < 2 ^ 10000 ∧ K (mT (plusM A B m))
def sp_l_is_positive : DSp := fun _ ss K => ∃ (n : Nat) (A : Mx), ss = [.val (mT A)] ∧ sz n ∧ rectM n A ∧ bdM 1000 A ∧ K (.bl (minB n A))
/-! ### the bodies -/
def tb_require_table : DTS := sIf (dNot (dTru (dCall 2 sp_is_table_of (aCons (xVar 0) (aCons (xVar 1) (aNil)))))) (sNever) (sPass)
def N_require_table : List Str := ["size", "value"]
def tb_pairing_in : DTS := sRet (dCall 2 sp_dot (aCons (xVar 1) (aCons (xVal (dCall 2 sp_row_led (aCons (xVar 0) (aCons (xVar 2) (aNil))))) (aNil))))
def N_pairing_in : List Str := ["table", "one", "other"]
def tb_value_in : DTS := sRet (dCall 3 sp_pairing_in (aCons (xVar 0) (aCons (xVar 1) (aCons (xVar 1) (aNil)))))
def N_value_in : List Str := ["table", "row"]
def tb_table_led : DTS := sRet (dCall 2 sp_product_in (aCons (xVal (dCall 2 sp_product_in (aCons (xVal (dCall 1 sp_turned_over (aCons (xVar 1) (aNil)))) (aCons (xVar 0) (aNil))))) (aCons (xVar 1) (aNil))))
def N_table_led : List Str := ["table", "matrix"]
def tb_table_moved : DTS := sRet (dCall 2 sp_product_in (aCons (xVal (dCall 2 sp_product_in (aCons (xVar 1) (aCons (xVar 0) (aNil))))) (aCons (xVal (dCall 1 sp_turned_over (aCons (xVar 1) (aNil)))) (aNil))))
def N_table_moved : List Str := ["table", "matrix"]
def tb_together_of : DTS := sRet (dCB fSum (vCons (dLc (iZp (vCons (dVar 0) (vCons (dVar 1) (vNil)))) (gT 2 (gsC (gN 2) (gsC (gN 3) (gsN)))) (dYes) (dCall 2 sp_dot (aCons (xVar 2) (aCons (xVar 3) (aNil)))) [2, 3]) (vNil)))
def N_together_of : List Str := ["one", "other", "row", "line"]
def tb_require_moving : DTS := sSeq (sAsg (dCall 1 sp_size_told (aCons (xVar 0) (aNil))) (gN 2)) (sSeq (sDrop (dCall 2 sp_require_table (aCons (xVar 2) (aCons (xVar 0) (aNil))))) (sDrop (dCall 2 sp_require_matrix (aCons (xVar 2) (aCons (xVar 1) (aNil))))))
def N_require_moving : List Str := ["table", "matrix", "size"]
def tb_led_table : DTS := sSeq (sDrop (dCall 2 sp_require_moving (aCons (xVar 0) (aCons (xVar 1) (aNil))))) (sRet (dCall 2 sp_table_led (aCons (xVar 0) (aCons (xVar 1) (aNil)))))
def N_led_table : List Str := ["table", "matrix"]
def tb_moved_table : DTS := sSeq (sDrop (dCall 2 sp_require_moving (aCons (xVar 0) (aCons (xVar 1) (aNil))))) (sRet (dCall 2 sp_table_moved (aCons (xVar 0) (aCons (xVar 1) (aNil)))))
def N_moved_table : List Str := ["table", "matrix"]
def tb_table_value : DTS := sSeq (sAsg (dCall 1 sp_size_told (aCons (xVar 0) (aNil))) (gN 2)) (sSeq (sDrop (dCall 2 sp_require_table (aCons (xVar 2) (aCons (xVar 0) (aNil))))) (sSeq (sDrop (dCall 2 sp_require_row (aCons (xVar 2) (aCons (xVar 1) (aNil))))) (sRet (dCall 2 sp_value_in (aCons (xVar 0) (aCons (xVar 1) (aNil)))))))
def N_table_value : List Str := ["table", "row", "size"]
def tb_together : DTS := sSeq (sAsg (dCall 1 sp_size_told (aCons (xVar 0) (aNil))) (gN 2)) (sSeq (sDrop (dCall 2 sp_require_table (aCons (xVar 2) (aCons (xVar 0) (aNil))))) (sSeq (sDrop (dCall 2 sp_require_table (aCons (xVar 2) (aCons (xVar 1) (aNil))))) (sRet (dCall 2 sp_together_of (aCons (xVar 0) (aCons (xVar 1) (aNil)))))))
def N_together : List Str := ["one", "other", "size"]
def tb_l_names : DTS := sRet (dIf (dTest (dOp fEq (dVar 0) (dC (.int 4)))) (dLst (vCons (dC (.str "A4")) (vCons (dC (.str "D4")) (vNil)))) (dLst (vCons (dOp fAdd (dC (.str "A")) (dCB fStrI (vCons (dVar 0) (vNil)))) (vNil))))
def N_l_names : List Str := ["_law_size_here"]
def tb_l_told : DTS := sSeq (sIf (dTest (dOp fEq (dVar 0) (dC (.str "D4")))) (sRet (dTup (vCons (dTup (vCons (dC (.int 2)) (vCons (dC (.int 1)) (vCons (dC (.int 1)) (vCons (dC (.int 1)) (vNil)))))) (vCons (dTup (vCons (dC (.int 1)) (vCons (dC (.int 2)) (vCons (dC (.int 1)) (vCons (dC (.int 1)) (vNil)))))) (vCons (dTup (vCons (dC (.int 1)) (vCons (dC (.int 1)) (vCons (dC (.int 2)) (vCons (dC (.int 0)) (vNil)))))) (vCons (dTup (vCons (dC (.int 1)) (vCons (dC (.int 1)) (vCons (dC (.int 0)) (vCons (dC (.int 2)) (vNil)))))) (vNil))))))) (sPass)) (sSeq (sAsg (dCB fIntS (vCons (dSlS (dVar 0) (oSome (dC (.int 1))) (oNone)) (vNil))) (gN 1)) (sRet (dCB fTuple (vCons (dLc (iR1 (dVar 1)) (gN 2) (dYes) (dCB fTuple (vCons (dLc (iR1 (dVar 1)) (gN 3) (dYes) (dOp fAdd (dC (.int 1)) (dCB fInt (vCons (dOp fEq (dVar 2) (dVar 3)) (vNil)))) [3]) (vNil))) [2]) (vNil)))))
def N_l_told : List Str := ["_law_name", "_law_size_here", "_law_at", "_law_to"]
def tb_l_plain_rays : DTS := sSeq (sAsg (dLc (iR1 (dVar 0)) (gN 2) (dYes) (dCB fTuple (vCons (dLc (iR1 (dVar 0)) (gN 3) (dYes) (dCB fInt (vCons (dOp fEq (dVar 2) (dVar 3)) (vNil))) [3]) (vNil))) [2]) (gN 1)) (sSeq (sFor (iR1 (dVar 0)) (gN 2) (sAsg (dOp fAdd (dVar 1) (dLc (iR2 (vCons (dOp fAdd (dVar 2) (dC (.int 1))) (vCons (dVar 0) (vNil)))) (gN 3) (dYes) (dCB fTuple (vCons (dLc (iR1 (dVar 0)) (gN 4) (dYes) (dOp fSub (dCB fInt (vCons (dOp fEq (dVar 4) (dVar 2)) (vNil))) (dCB fInt (vCons (dOp fEq (dVar 4) (dVar 3)) (vNil)))) [4]) (vNil))) [3])) (gN 1))) (sRet (dVar 1)))
def N_l_plain_rays : List Str := ["_law_size_here", "_law_found", "_law_at", "_law_to", "_law_place"]
def tb_l_summed : DTS := sSeq (sOwn 3 (nLst (vNil))) (sSeq (sFor (iR1 (dVar 0)) (gN 4) (sOwnApp 3 (dCB fTuple (vCons (dLc (iR1 (dVar 0)) (gN 5) (dYes) (dCB fSum (vCons (dLc (iZp (vCons (dVar 1) (vCons (dVar 2) (vNil)))) (gT 2 (gsC (gN 6) (gsC (gN 7) (gsN)))) (dYes) (dOp fRep (dOp fRep (dVar 7) (dOp fIx (dVar 6) (dVar 4))) (dOp fIx (dVar 6) (dVar 5))) [6, 7]) (vNil))) [5]) (vNil))))) (sFreeze 3 (sRet (dCB fTuple (vCons (dVar 3) (vNil))))))
def N_l_summed : List Str := ["_law_size_here", "_law_rows", "_law_weights", "_law_found", "_law_at", "_law_to", "_law_row", "_law_weight"]
def tb_l_begun : DTS := sSeq (sPar 3 4 (dCall 2 sp_l_grab (aCons (xVar 0) (aCons (xVal (dC (.int 7))) (aNil)))) (dCall 2 sp_l_one_of (aCons (xVar 0) (aCons (xVal (dCall 1 sp_l_names (aCons (xVar 1) (aNil)))) (aNil))))) (sSeq (sIf (dTest (dOp fEq (dVar 3) (dC (.int 0)))) (sRet (dCall 1 sp_l_told (aCons (xVar 4) (aNil)))) (sPass)) (sSeq (sIf (dTest (dOp fEq (dVar 3) (dC (.int 1)))) (sRet (dCall 1 sp_l_adjoint (aCons (xVal (dCall 1 sp_l_told (aCons (xVar 4) (aNil)))) (aNil)))) (sPass)) (sSeq (sIf (dTest (dOp fEq (dVar 3) (dC (.int 2)))) (sSeq (sAsg (dSl (dCall 2 sp_l_mixed (aCons (xVar 0) (aCons (xVal (dCall 1 sp_l_plain_rays (aCons (xVar 1) (aNil)))) (aNil)))) (oNone) (oSome (dOp fAdd (dVar 1) (dCall 2 sp_l_grab (aCons (xVar 0) (aCons (xVal (dC (.int 4))) (aNil))))))) (gN 5)) (sRet (dCall 3 sp_l_summed (aCons (xVar 1) (aCons (xVar 5) (aCons (xVal (dLc (iSeq (dVar 5)) (gN 11) (dYes) (dOp fAdd (dC (.int 1)) (dCall 2 sp_l_grab (aCons (xVar 0) (aCons (xVal (dC (.int 4))) (aNil))))) [11])) (aNil))))))) (sPass)) (sSeq (sIf (dTest (dOp fEq (dVar 3) (dC (.int 3)))) (sSeq (sAsg (dLc (iR1 (dOp fAdd (dVar 1) (dCall 2 sp_l_grab (aCons (xVar 0) (aCons (xVal (dC (.int 3))) (aNil)))))) (gN 10) (dYes) (dCall 3 sp_l_some_row (aCons (xVar 0) (aCons (xVar 1) (aCons (xVal (dC (.int 2))) (aNil))))) [10]) (gN 6)) (sRet (dCall 3 sp_l_summed (aCons (xVar 1) (aCons (xVar 6) (aCons (xVal (dOp fRep (dLst (vCons (dC (.int 1)) (vNil))) (dCB fLen (vCons (dVar 6) (vNil))))) (aNil))))))) (sPass)) (sSeq (sIf (dTest (dOp fEq (dVar 3) (dC (.int 4)))) (sSeq (sAsg (dLc (iR1 (dVar 1)) (gN 10) (dYes) (dOp fAdd (dC (.int 1)) (dCall 2 sp_l_grab (aCons (xVar 0) (aCons (xVal (dC (.int 6))) (aNil))))) [10]) (gN 7)) (sRet (dCB fTuple (vCons (dLc (iR1 (dVar 1)) (gN 12) (dYes) (dCB fTuple (vCons (dLc (iR1 (dVar 1)) (gN 13) (dYes) (dOp fRep (dOp fIx (dVar 7) (dVar 12)) (dCB fInt (vCons (dOp fEq (dVar 12) (dVar 13)) (vNil)))) [13]) (vNil))) [12]) (vNil))))) (sPass)) (sSeq (sPar 8 9 (dCall 3 sp_l_some_table (aCons (xVar 0) (aCons (xVar 1) (aCons (xVal (dC (.int 1))) (aNil))))) (dOp fAdd (dC (.int 2)) (dCall 2 sp_l_grab (aCons (xVar 0) (aCons (xVal (dC (.int 3))) (aNil)))))) (sSeq (sAsg (dIf (dTest (dOp fEq (dVar 3) (dC (.int 5)))) (dCall 1 sp_l_told (aCons (xVar 4) (aNil))) (dCall 1 sp_l_adjoint (aCons (xVal (dCall 1 sp_l_told (aCons (xVar 4) (aNil)))) (aNil)))) (gN 2)) (sRet (dCall 3 sp_l_plus (aCons (xVar 8) (aCons (xVar 2) (aCons (xVar 9) (aNil)))))))))))))
def N_l_begun : List Str := ["_law_bag_here", "_law_size_here", "_law_told_here", "_law_way", "_law_name", "_law_rays", "_law_rows", "_law_numbers", "_law_change", "_law_many", "_law_turn", "_law_ray", "_law_at", "_law_to"]
def tb_l_positive : DTS := sSeq (sAsg (dCall 2 sp_l_begun (aCons (xVar 0) (aCons (xVar 1) (aNil)))) (gN 2)) (sSeq (sIf (dNot (dTru (dCall 1 sp_l_is_positive (aCons (xVar 2) (aNil))))) (sSeq (sAsg (dCB fTuple (vCons (dLc (iR1 (dVar 1)) (gN 4) (dYes) (dCB fTuple (vCons (dLc (iR1 (dVar 1)) (gN 5) (dYes) (dCB fInt (vCons (dOp fEq (dVar 4) (dVar 5)) (vNil))) [5]) (vNil))) [4]) (vNil))) (gN 3)) (sAsg (dCall 3 sp_l_plus (aCons (xVar 2) (aCons (xVar 3) (aCons (xVal (dC (.int 12))) (aNil))))) (gN 2))) (sPass)) (sSeq (sIf (dNot (dTru (dCall 1 sp_l_is_positive (aCons (xVar 2) (aNil))))) (sAsg (dCall 1 sp_l_told (aCons (xVal (dOp fIx (dCall 1 sp_l_names (aCons (xVar 1) (aNil))) (dC (.int 0)))) (aNil))) (gN 2)) (sPass)) (sSeq (sIf (dTest (dOp fEq (dCall 2 sp_l_grab (aCons (xVar 0) (aCons (xVal (dC (.int 6))) (aNil)))) (dC (.int 0)))) (sAsg (dCall 3 sp_l_plus (aCons (xVar 2) (aCons (xVar 2) (aCons (xVal (dCall 2 sp_l_grab (aCons (xVar 0) (aCons (xVal (dC (.int 4))) (aNil))))) (aNil))))) (gN 2)) (sPass)) (sRet (dIf (dTest (dOp fEq (dCall 2 sp_l_grab (aCons (xVar 0) (aCons (xVal (dC (.int 2))) (aNil)))) (dC (.int 0)))) (dCall 2 sp_l_led (aCons (xVar 2) (aCons (xVal (dCall 3 sp_l_matrix (aCons (xVar 0) (aCons (xVar 1) (aCons (xVal (dC (.int 3))) (aNil)))))) (aNil)))) (dVar 2))))))
def N_l_positive : List Str := ["_law_bag_here", "_law_size_here", "_law_found", "_law_plain", "_law_at", "_law_to"]
def tb_l_wide : DTS := sSeq (sPar 3 4 (dCall 2 sp_l_positive (aCons (xVar 0) (aCons (xVar 1) (aNil)))) (dCall 2 sp_l_positive (aCons (xVar 0) (aCons (xVar 1) (aNil))))) (sSeq (sAsg (dCall 3 sp_l_plus (aCons (xVar 4) (aCons (xVar 3) (aCons (xVal (dCall 2 sp_l_one_of (aCons (xVar 0) (aCons (xVal (dLst (vCons (dC (.int 1)) (vCons (dC (.int 9)) (vCons (dC (.int 1000)) (vCons (dOp (fInt2 PowOk fun i j => i ^ j.toNat) (dC (.int 10)) (dC (.int 9))) (vCons (dOp fAdd (dOp (fInt2 PowOk fun i j => i ^ j.toNat) (dC (.int 10)) (dC (.int 12))) (dC (.int 7))) (vNil)))))))) (aNil))))) (aNil))))) (gN 2)) (sRet (dCall 2 sp_l_led (aCons (xVar 2) (aCons (xVal (dCall 3 sp_l_matrix (aCons (xVar 0) (aCons (xVar 1) (aCons (xVal (dC (.int 5))) (aNil)))))) (aNil))))))
def N_l_wide : List Str := ["_law_bag_here", "_law_size_here", "_law_found", "_law_one", "_law_other"]
def tb_l_pairing : DTS := sSeq (sAsg (dC (.int 0)) (gN 3)) (sSeq (sFor (iZp (vCons (dVar 1) (vCons (dVar 0) (vNil)))) (gT 2 (gsC (gN 4) (gsC (gN 5) (gsN)))) (sAsg (dOp fAdd (dVar 3) (dOp fRep (dVar 4) (dCB fSum (vCons (dLc (iZp (vCons (dVar 5) (vCons (dVar 2) (vNil)))) (gT 2 (gsC (gN 6) (gsC (gN 7) (gsN)))) (dYes) (dOp fRep (dVar 6) (dVar 7)) [6, 7]) (vNil))))) (gN 3))) (sRet (dVar 3)))
def N_l_pairing : List Str := ["_law_table", "_law_one", "_law_other", "_law_found", "_law_here", "_law_line", "_law_number_here", "_law_there"]
def tb_l_value : DTS := sRet (dCall 3 sp_l_pairing (aCons (xVar 0) (aCons (xVar 1) (aCons (xVar 1) (aNil)))))
def N_l_value : List Str := ["_law_table", "_law_row"]
def tb_l_led : DTS := sRet (dCall 2 sp_l_product (aCons (xVal (dCall 2 sp_l_product (aCons (xVal (dCall 1 sp_l_turned (aCons (xVar 1) (aNil)))) (aCons (xVar 0) (aNil))))) (aCons (xVar 1) (aNil))))
def N_l_led : List Str := ["_law_table", "_law_matrix_here"]
def tb_l_moved : DTS := sRet (dCall 2 sp_l_product (aCons (xVal (dCall 2 sp_l_product (aCons (xVar 1) (aCons (xVar 0) (aNil))))) (aCons (xVal (dCall 1 sp_l_turned (aCons (xVar 1) (aNil)))) (aNil))))
def N_l_moved : List Str := ["_law_table", "_law_matrix_here"]
def tb_l_together : DTS := sRet (dCB fSum (vCons (dLc (iZp (vCons (dVar 0) (vCons (dVar 1) (vNil)))) (gT 2 (gsC (gN 2) (gsC (gN 3) (gsN)))) (dYes) (dCB fSum (vCons (dLc (iZp (vCons (dVar 2) (vCons (dVar 3) (vNil)))) (gT 2 (gsC (gN 4) (gsC (gN 5) (gsN)))) (dYes) (dOp fRep (dVar 4) (dVar 5)) [4, 5]) (vNil))) [2, 3]) (vNil)))
def N_l_together : List Str := ["_law_one", "_law_other", "_law_row", "_law_line", "_law_here", "_law_there"]
def tb_l_plus : DTS := sRet (dCB fTuple (vCons (dLc (iZp (vCons (dVar 0) (vCons (dVar 1) (vNil)))) (gT 2 (gsC (gN 3) (gsC (gN 4) (gsN)))) (dYes) (dCB fTuple (vCons (dLc (iZp (vCons (dVar 3) (vCons (dVar 4) (vNil)))) (gT 2 (gsC (gN 5) (gsC (gN 6) (gsN)))) (dYes) (dOp fAdd (dVar 5) (dOp fRep (dVar 2) (dVar 6))) [5, 6]) (vNil))) [3, 4]) (vNil)))
def N_l_plus : List Str := ["_law_one", "_law_other", "_law_factor", "_law_row", "_law_line", "_law_here", "_law_there"]
def tb_l_is_positive : DTS := sSeq (sFor (iR2 (vCons (dC (.int 1)) (vCons (dOp fAdd (dCB fLen (vCons (dVar 0) (vNil))) (dC (.int 1))) (vNil)))) (gN 1) (sIf (dTest (dOp (fCmp fun i j => decide (i ≤ j)) (dCall 1 sp_l_determinant (aCons (xVal (dLc (iSeq (dSl (dVar 0) (oNone) (oSome (dVar 1)))) (gN 2) (dYes) (dSl (dVar 2) (oNone) (oSome (dVar 1))) [2])) (aNil))) (dC (.int 0)))) (sRet (dC (.bl false))) (sPass))) (sRet (dC (.bl true)))
def N_l_is_positive : List Str := ["_law_table", "_law_many", "_law_row"]

local macro_rules | `(tactic| walk_at "ps") => `(tactic| simp only [fStrI, fIntS, fSlS, dSlS, sp_require_table, sp_pairing_in, sp_value_in, sp_table_led, sp_table_moved, sp_together_of, sp_require_moving, sp_led_table, sp_moved_table, sp_table_value, sp_together, sp_l_names, sp_l_told, sp_l_plain_rays, sp_l_summed, sp_l_begun, sp_l_positive, sp_l_wide, sp_l_pairing, sp_l_value, sp_l_led, sp_l_moved, sp_l_together, sp_l_plus, sp_l_is_positive, sp_is_whole, sp_is_integer, sp_is_row_of, sp_are_rows_of, sp_is_even, sp_is_table_of, sp_is_matrix_of, sp_require_size, sp_require_row, sp_require_matrix, sp_size_told, sp_without, sp_cofactor, sp_adjoint_of, sp_turned_over, sp_product_in, sp_dot, sp_unit_of, sp_back_in, sp_row_led, sp_row_normal, sp_square_of, sp_is_row, sp_is_table, sp_is_matrix, sp_unit_matrix, sp_matrix_product, sp_matrix_back, sp_normal_row, sp_square, sp_led_row, sp_l_bag, sp_l_grab, sp_l_one_of, sp_l_mixed, sp_l_size, sp_l_number, sp_l_some_row, sp_l_some_table, sp_l_matrix, sp_l_turned, sp_l_row_led, sp_l_product, sp_l_determinant, sp_l_adjoint, sp_l_back, sp_l_square, sp_l_normal, sp_l_is_whole, sp_l_are_rows, sp_l_is_table, sp_l_is_matrix, sp_l_is_short, sp_l_is_row_told, sp_l_near, sp_l_judged_right, sp_l_products_right, sSeq, sAsg, sPar, sRet, sRetN, sDrop, sPass, sIf, sRetL, sBag, sBagCall, gN, gT, gsC, gsN, dVar, xVar, xVal, dC, dOp, dNeg, dTest, dTru, dAnd, dOr, dNot, dAndV, dOrV, dNotV, dIf, dChain, vNil, vCons, aNil, aCons, dTup, dLst, dDic0, dCB, dCall, dIsi, dSl, oNone, oSome, dBag,  fAdd, fSub, fInt2, fCmp, fEq, fNe, fIn, fIsN, fRep, fLen, fAbs, f2I, fInt, fGcd, fTuple, fList, fIx, iSeq, iR1, dLc, dYes, endsOf, endsN, start0, List.map, List.append, List.replicate, List.length, List.cons_append, List.nil_append, List.set, List.getElem?_cons_zero, List.getElem?_cons_succ, Nat.reduceSub, Nat.reduceAdd, List.length_cons, List.length_nil, Nat.sub_self,  decide_eq_true_eq, decide_eq_false_iff_not, Bool.false_eq_true, reduceCtorEq, true_and, and_true, if_true, if_false, forall_const, false_implies, implies_true, true_implies, List.getElem?_nil, at0, at1, sFor, wipeD, Bool.not_eq_true', Bool.not_eq_false', Bool.not_true, Bool.not_false, iR2, iZp, iEnA, vStar, nLst, nLc, nList, sPar3, sOwn, sTupO, sParVO, sParOV, sOwnSet, sOwnApp, sOwnPair, putD, dOwnIx, dOwnLen, sFreeze, dLc2, fSl, fMax, fMin, fAnyT, List.map_nil, List.map_cons, Int.toNat_natCast])
theorem cut_mem {α : Type} {xs : List α} {lo hi : Option Int} {x : α} (h : x ∈ cutD xs lo hi) : x ∈ xs := List.mem_of_mem_drop (List.mem_of_mem_take h)
theorem cut_len {α : Type} (xs : List α) (lo hi : Option Int) : (cutD xs lo hi).length ≤ xs.length := by
  unfold cutD
  rw [List.length_take, List.length_drop]
  omega
theorem bd_le {b : Nat} {A : Mx} (h : leM b A) (hb : b < 2 ^ 10000) : bdM 10000 A := fun r hr x hx => Nat.lt_of_le_of_lt (h r hr x hx) hb
theorem okM.le {n : Nat} {A : Mx} (h : okM n A) : leM (2 ^ 1000) A := fun r hr x hx => Nat.le_of_lt (h.bd r hr x hx)
theorem okV.le {n : Nat} {v : List Int} (h : okV n v) : ∀ x ∈ v, x.natAbs ≤ 2 ^ 1000 := fun x hx => Nat.le_of_lt (isI_lt (h.2 x hx))
theorem cap400 {n : Nat} (hn : sz n) : n * (2 ^ 1000 * 2 ^ 1000) < 2 ^ 10000 := Nat.lt_of_le_of_lt (Nat.mul_le_mul_right _ hn.le) (by decide)
theorem mulV_bd {n : Nat} (hn : sz n) {T : Mx} (hT : okM n T) {v : List Int} (hv : okV n v) : bdV 10000 (mulV T v) := fun x hx => Nat.lt_of_le_of_lt (le_mulV hT.1 hT.le hv.le x hx) (cap400 hn)
theorem mul_bd {n : Nat} (hn : sz n) {A B : Mx} (hA : okM n A) (hB : okM n B) : bdM 10000 (mulM A B) := bd_le (le_mul hA.1 hA.le hB.le) (cap400 hn)
theorem okM.turn {n : Nat} (hn : sz n) {A : Mx} (h : okM n A) : okM n (turnM A) := by
  refine ⟨turn_rect hn.pos h.1, fun r hr x hx => ?_⟩
  unfold turnM at hr
  obtain ⟨i, hi, rfl⟩ := List.mem_map.mp hr
  obtain ⟨q, hq, rfl⟩ := List.mem_map.mp hx
  have hi : i < n := by
    have := List.mem_range.mp hi
    rwa [hd_len h.1 hn.pos] at this
  have lq := h.1.2 q hq
  rw [List.getD_eq_getElem?_getD, List.getElem?_eq_getElem (by omega)]
  exact h.2 q hq _ (List.getElem_mem _)
theorem tabB_of {n : Nat} {A : Mx} (h : okM n A) (s : symM A) : tabB n (mT A) = true := by
  unfold tabB
  rw [rowsB_of h, toM_mT, Bool.true_and]
  exact decide_eq_true s
theorem rd_require_table : ∀ Ed ss Kd, ss.length = 2 → sp_require_table Ed ss Kd → tb_require_table (endsOf Kd noE) (start0 N_require_table ss) := by
  rintro Ed ss Kd hl ⟨n, A, rfl, hn, hA, hs, h⟩
  unfold tb_require_table N_require_table
  walk_at "ps"
  refine ⟨n, _, rfl, hn, cl2_mT (by have := hn.le; omega) hA.1, fun e => ?_, fun e => h⟩
  rw [tabB_of hA hs] at e; cases e
theorem rd_pairing_in : ∀ Ed ss Kd, ss.length = 3 → sp_pairing_in Ed ss Kd → tb_pairing_in (endsOf Kd noE) (start0 N_pairing_in ss) := by
  rintro Ed ss Kd hl ⟨n, T, v, w, rfl, hn, hT, hv, hw, h⟩
  unfold tb_pairing_in N_pairing_in
  walk_at "ps"
  exact ⟨n, T, w, rfl, hn, hT.1, hw.1, up200 hT.bd, hw.bd, v, mulV T w, rfl, by have := hn.le; have := hv.1; omega, hv.bd, mulV_bd hn hT hw, h⟩
theorem rd_value_in : ∀ Ed ss Kd, ss.length = 2 → sp_value_in Ed ss Kd → tb_value_in (endsOf Kd noE) (start0 N_value_in ss) := by
  rintro Ed ss Kd hl ⟨n, T, v, rfl, hn, hT, hv, h⟩
  unfold tb_value_in N_value_in
  walk_at "ps"
  exact ⟨n, T, v, v, rfl, hn, hT, hv, hv, h⟩
theorem rd_table_led : ∀ Ed ss Kd, ss.length = 2 → sp_table_led Ed ss Kd → tb_table_led (endsOf Kd noE) (start0 N_table_led ss) := by
  rintro Ed ss Kd hl ⟨n, T, M, rfl, hn, hT, hM, h⟩
  unfold tb_table_led N_table_led
  walk_at "ps"
  have oM := hM.turn hn
  exact ⟨n, M, rfl, hn, hM.1, n, turnM M, T, rfl, hn, oM.1, hT.1, up200 oM.bd, up200 hT.bd, n, mulM (turnM M) T, M, rfl, hn, mul_rect hn.pos oM.1 hT.1, hM.1, mul_bd hn oM hT, up200 hM.bd, h⟩
theorem rd_table_moved : ∀ Ed ss Kd, ss.length = 2 → sp_table_moved Ed ss Kd → tb_table_moved (endsOf Kd noE) (start0 N_table_moved ss) := by
  rintro Ed ss Kd hl ⟨n, T, M, rfl, hn, hT, hM, h⟩
  unfold tb_table_moved N_table_moved
  walk_at "ps"
  have oM := hM.turn hn
  exact ⟨n, M, T, rfl, hn, hM.1, hT.1, up200 hM.bd, up200 hT.bd, n, M, rfl, hn, hM.1, n, mulM M T, turnM M, rfl, hn, mul_rect hn.pos hM.1 hT.1, oM.1, mul_bd hn hM hT, up200 oM.bd, h⟩
theorem rd_l_led : ∀ Ed ss Kd, ss.length = 2 → sp_l_led Ed ss Kd → tb_l_led (endsOf Kd noE) (start0 N_l_led ss) := by
  rintro Ed ss Kd hl ⟨n, T, M, rfl, hn, hT, hM, h⟩
  unfold tb_l_led N_l_led
  walk_at "ps"
  have oM := hM.turn hn
  exact ⟨n, M, rfl, hn, hM.1, n, turnM M, T, rfl, hn, oM.1, hT.1, up200 oM.bd, up200 hT.bd, n, mulM (turnM M) T, M, rfl, hn, mul_rect hn.pos oM.1 hT.1, hM.1, mul_bd hn oM hT, up200 hM.bd, h⟩
theorem rd_l_moved : ∀ Ed ss Kd, ss.length = 2 → sp_l_moved Ed ss Kd → tb_l_moved (endsOf Kd noE) (start0 N_l_moved ss) := by
  rintro Ed ss Kd hl ⟨n, T, M, rfl, hn, hT, hM, h⟩
  unfold tb_l_moved N_l_moved
  walk_at "ps"
  have oM := hM.turn hn
  exact ⟨n, M, T, rfl, hn, hM.1, hT.1, up200 hM.bd, up200 hT.bd, n, M, rfl, hn, hM.1, n, mulM M T, turnM M, rfl, hn, mul_rect hn.pos hM.1 hT.1, oM.1, mul_bd hn hM hT, up200 oM.bd, h⟩
theorem zip_rows (A B : Mx) : zipD (A.map rT) (B.map rT) = (A.zip B).map fun p => prD (rT p.1) (rT p.2) := by
  unfold zipD
  rw [List.zip_map, List.map_map]
  rfl
theorem rd_together_of : ∀ Ed ss Kd, ss.length = 2 → sp_together_of Ed ss Kd → tb_together_of (endsOf Kd noE) (start0 N_together_of ss) := by
  rintro Ed ss Kd hl ⟨n, A, B, rfl, hn, hA, hB, h⟩
  unfold tb_together_of N_together_of
  have n4 := hn.le
  walk_at "ps"
  rw [zip_rows]
  refine ⟨by simp only [List.length_map, List.length_zip, hA.1.1]; omega, lcD_s _ (fun p : List Int × List Int => dotI p.1 p.2) (A.zip B) (fun p hp k hk => ?_) ?_⟩
  · unfold prD
    walk_at "ps"
    have h1 := (List.of_mem_zip hp).1
    have h2 := (List.of_mem_zip hp).2
    exact ⟨p.1, p.2, rfl, by rw [hA.1.2 _ h1]; omega, up200 hA.bd _ h1, up200 hB.bd _ h2, hk⟩
  · rw [zip_with]
    exact h
theorem rd_l_together : ∀ Ed ss Kd, ss.length = 2 → sp_l_together Ed ss Kd → tb_l_together (endsOf Kd noE) (start0 N_l_together ss) := by
  rintro Ed ss Kd hl ⟨n, A, B, rfl, hn, hA, hB, h⟩
  unfold tb_l_together N_l_together
  have n4 := hn.le
  walk_at "ps"
  rw [zip_rows]
  refine ⟨by simp only [List.length_map, List.length_zip, hA.1.1]; omega, lcD_s _ (fun p : List Int × List Int => dotI p.1 p.2) (A.zip B) (fun p hp k hk => ?_) ?_⟩
  · unfold prD
    walk_at "ps"
    have h1 := (List.of_mem_zip hp).1
    have h2 := (List.of_mem_zip hp).2
    refine dot_read (by rw [hA.1.2 _ h1]; omega) (up200 hA.bd _ h1) (up200 hB.bd _ h2) hk fun x y hx hy k hk => ?_
    unfold prD
    walk_at "ps"
    exact ⟨mul_ok hx hy (by decide), hk⟩
  · rw [zip_with]
    exact h
theorem rd_require_moving : ∀ Ed ss Kd, ss.length = 2 → sp_require_moving Ed ss Kd → tb_require_moving (endsOf Kd noE) (start0 N_require_moving ss) := by
  rintro Ed ss Kd hl ⟨n, T, M, rfl, hn, hT, sT, hM, dM, h⟩
  unfold tb_require_moving N_require_moving
  walk_at "ps"
  refine ⟨T.map rT, rfl, by rw [lenT hT.1]; exact hn, ?_⟩
  rw [lenT hT.1]
  exact ⟨n, T, rfl, hn, hT, sT, n, M, rfl, hn, hM, dM, h⟩
theorem rd_led_table : ∀ Ed ss Kd, ss.length = 2 → sp_led_table Ed ss Kd → tb_led_table (endsOf Kd noE) (start0 N_led_table ss) := by
  rintro Ed ss Kd hl ⟨n, T, M, rfl, hn, hT, sT, hM, dM, h⟩
  unfold tb_led_table N_led_table
  walk_at "ps"
  exact ⟨n, T, M, rfl, hn, hT, sT, hM, dM, n, T, M, rfl, hn, hT, hM, h⟩
theorem rd_moved_table : ∀ Ed ss Kd, ss.length = 2 → sp_moved_table Ed ss Kd → tb_moved_table (endsOf Kd noE) (start0 N_moved_table ss) := by
  rintro Ed ss Kd hl ⟨n, T, M, rfl, hn, hT, sT, hM, dM, h⟩
  unfold tb_moved_table N_moved_table
  walk_at "ps"
  exact ⟨n, T, M, rfl, hn, hT, sT, hM, dM, n, T, M, rfl, hn, hT, hM, h⟩
theorem rd_table_value : ∀ Ed ss Kd, ss.length = 2 → sp_table_value Ed ss Kd → tb_table_value (endsOf Kd noE) (start0 N_table_value ss) := by
  rintro Ed ss Kd hl ⟨n, T, v, rfl, hn, hT, sT, hv, h⟩
  unfold tb_table_value N_table_value
  walk_at "ps"
  refine ⟨T.map rT, rfl, by rw [lenT hT.1]; exact hn, ?_⟩
  rw [lenT hT.1]
  exact ⟨n, T, rfl, hn, hT, sT, n, v, rfl, hn, hv, n, T, v, rfl, hn, hT, hv, h⟩
theorem rd_together : ∀ Ed ss Kd, ss.length = 2 → sp_together Ed ss Kd → tb_together (endsOf Kd noE) (start0 N_together ss) := by
  rintro Ed ss Kd hl ⟨n, A, B, rfl, hn, hA, sA, hB, sB, h⟩
  unfold tb_together N_together
  walk_at "ps"
  refine ⟨A.map rT, rfl, by rw [lenT hA.1]; exact hn, ?_⟩
  rw [lenT hA.1]
  exact ⟨n, A, rfl, hn, hA, sA, n, B, rfl, hn, hB, sB, n, A, B, rfl, hn, hA, hB, h⟩
theorem rd_l_value : ∀ Ed ss Kd, ss.length = 2 → sp_l_value Ed ss Kd → tb_l_value (endsOf Kd noE) (start0 N_l_value ss) := by
  rintro Ed ss Kd hl ⟨n, T, v, rfl, hn, hT, hv, h⟩
  unfold tb_l_value N_l_value
  walk_at "ps"
  exact ⟨n, T, v, v, rfl, hn, hT, hv, hv, h⟩
theorem pair_loop {n : Nat} (n4 : n ≤ 4) {w : List Int} (hw : bdV 1000 w) (hwl : w.length = n) {dT dv : D} {E : ES} : ∀ (v : List Int) (T : Mx) (acc : Int), bdV 1000 v → bdM 1000 T → (∀ r ∈ T, r.length = n) → v.length = T.length → ∀ o4 o5,
    (∀ o4 o5, E.nx [some (.val dT), some (.val dv), some (.val (rT w)), some (.val (.int (acc + dotI v (mulV T w)))), o4, o5, none, none]) →
    forD (gT 2 (gsC (gN 4) (gsC (gN 5) (gsN)))) (sAsg (dOp fAdd (dVar 3) (dOp fRep (dVar 4) (dCB fSum (vCons (dLc (iZp (vCons (dVar 5) (vCons (dVar 2) (vNil)))) (gT 2 (gsC (gN 6) (gsC (gN 7) (gsN)))) (dYes) (dOp fRep (dVar 6) (dVar 7)) [6, 7]) (vNil))))) (gN 3))
      E (zipD (v.map D.int) (T.map rT)) [some (.val dT), some (.val dv), some (.val (rT w)), some (.val (.int acc)), o4, o5, none, none]
  | [], [], acc, _, _, _, _, o4, o5, h => by
    have := h o4 o5
    simpa [zipD, forD, dotI] using this
  | x :: v, r :: T, acc, hv, hT, hr, hl, o4, o5, h => by
    have hx := hv x List.mem_cons_self
    have hrl := hr r List.mem_cons_self
    have hrb := hT r List.mem_cons_self
    show forD _ _ E (prD (.int x) (rT r) :: zipD (v.map D.int) (T.map rT)) _
    unfold forD prD
    walk_at "ps"
    have up : ∀ {l : List Int}, bdV 1000 l → bdV 10000 l := fun h x hx => Nat.lt_of_lt_of_le (h x hx) (Nat.pow_le_pow_right (by decide) (by decide))
    have dn : (dotI r w).natAbs < 2 ^ 10000 := by
      refine Nat.lt_of_le_of_lt (dot_le r w (fun x hx => Nat.le_of_lt (hrb x hx)) (fun x hx => Nat.le_of_lt (hw x hx))) ?_
      rw [hrl]
      exact Nat.lt_of_le_of_lt (Nat.mul_le_mul_right _ n4) (by decide)
    have ih := fun o4 o5 => pair_loop n4 hw hwl (dT := dT) (dv := dv) (E := E) v T (acc + x * dotI r w) (fun y hy => hv y (List.mem_cons_of_mem _ hy)) (fun y hy => hT y (List.mem_cons_of_mem _ hy)) (fun y hy => hr y (List.mem_cons_of_mem _ hy)) (by simpa using hl) o4 o5 fun o4 o5 => by
      have := h o4 o5
      unfold mulV at this
      rw [List.map_cons, dot_cons, ← Int.add_assoc] at this
      exact this
    refine dot_read (by omega) (up hrb) (up hw) ?_ fun a b ha hb k hk => ?_
    · exact ⟨mul_ok hx dn (by decide), ih _ _⟩
    · unfold prD
      walk_at "ps"
      exact ⟨mul_ok ha hb (by decide), hk⟩
  | [], _ :: _, _, _, _, _, hl, _, _, _ => by simp at hl
  | _ :: _, [], _, _, _, _, hl, _, _, _ => by simp at hl
theorem okV.b200 {n : Nat} {v : List Int} (h : okV n v) : bdV 1000 v := fun x hx => isI_lt (h.2 x hx)
theorem rd_l_pairing : ∀ Ed ss Kd, ss.length = 3 → sp_l_pairing Ed ss Kd → tb_l_pairing (endsOf Kd noE) (start0 N_l_pairing ss) := by
  rintro Ed ss Kd hl ⟨n, T, v, w, rfl, hn, hT, hv, hw, h⟩
  unfold tb_l_pairing N_l_pairing
  refine seq_gg fun U hU => ?_
  walk_at "ps"
  subst hU
  refine seq_gg fun U hU => ?_
  walk_at "ps"
  refine pair_loop hn.le hw.b200 hw.1 v T 0 hv.b200 hT.bd hT.1.2 (by rw [hv.1, hT.1.1]) _ _ fun o4 o5 => ?_
  subst hU
  walk_at "ps"
  rw [Int.zero_add]
  exact h
theorem rd_l_plus : ∀ Ed ss Kd, ss.length = 3 → sp_l_plus Ed ss Kd → tb_l_plus (endsOf Kd noE) (start0 N_l_plus ss) := by
  rintro Ed ss Kd hl ⟨n, A, B, m, rfl, hn, hA, hB, bB, hm, h⟩
  unfold tb_l_plus N_l_plus
  have n4 := hn.le
  walk_at "ps"
  rw [zip_rows]
  refine ⟨by simp only [List.length_map, List.length_zip, hA.1]; omega, lcD_m _ (fun p : List Int × List Int => rT (addR m p.1 p.2)) (A.zip B) [] (fun p hp k hk => ?_) ?_⟩
  · unfold prD
    have h1 := (List.of_mem_zip hp).1
    have h2 := (List.of_mem_zip hp).2
    walk_at "ps"
    rw [zip_ints]
    refine ⟨by simp only [List.length_map, List.length_zip, hA.2 _ h1]; omega, lcD_m _ (fun q : Int × Int => .int (q.1 + m * q.2)) (p.1.zip p.2) [] (fun q hq k2 hk2 => ?_) ?_⟩
    · unfold prD
      walk_at "ps"
      exact ⟨mul_ok hm (bB _ h2 _ (List.of_mem_zip hq).2) (by decide), hk2⟩
    · rw [List.nil_append]
      have er : ((p.1.zip p.2).map fun q : Int × Int => D.int (q.1 + m * q.2)) = (addR m p.1 p.2).map D.int := by
        unfold addR
        rw [← zip_with, List.map_map]
        rfl
      rw [er]
      exact hk
  · rw [List.nil_append]
    have er : ((A.zip B).map fun p : List Int × List Int => rT (addR m p.1 p.2)) = (plusM A B m).map rT := by
      unfold plusM
      rw [← zip_with, List.map_map]
      rfl
    rw [er]
    exact h
theorem forD_cnt {G : DTG} {S : DTS} {E : ES} (P : Nat → Ev → Prop) (f : Nat → D) : ∀ (n k : Nat),
    (∀ i ρ, k ≤ i → i < k + n → P i ρ → ∀ nx : Ev → Prop, (∀ ρ', P (i + 1) ρ' → nx ρ') → G (f i) ρ fun ρ1 => S { E with nx := nx, ct := nx, bk := E.nx } ρ1) → (∀ ρ, P (k + n) ρ → E.nx ρ) → ∀ ρ, P k ρ → forD G S E ((List.range' k n).map f) ρ
  | 0, k, _, he, ρ, h => he ρ h
  | n + 1, k, hs, he, ρ, h => by
    rw [List.range'_succ, List.map_cons]
    unfold forD
    exact hs k ρ (Nat.le_refl _) (by omega) h _ fun ρ' h' => forD_cnt P f n (k + 1) (fun i ρ h1 h2 => hs i ρ (by omega) (by omega)) (fun ρ h => he ρ (by rwa [show k + (n + 1) = k + 1 + n by omega])) ρ' h'
theorem rng_at (lo n : Nat) : rngD (lo : Int) n = (List.range' lo n).map fun i : Nat => D.int (i : Nat) := by
  rw [rngK, List.range'_eq_map_range, List.map_map]
  rfl
theorem corner_rect {n m : Nat} {A : Mx} (hA : rectM n A) (h : m ≤ n) : rectM m (corner m A) := by
  refine ⟨by unfold corner; rw [List.length_map, List.length_take, hA.1]; omega, fun r hr => ?_⟩
  obtain ⟨q, hq, rfl⟩ := List.mem_map.mp hr
  rw [List.length_take, hA.2 q (List.mem_of_mem_take hq)]
  omega
theorem corner_bd {m b : Nat} {A : Mx} (hb : bdM b A) : bdM b (corner m A) := by
  intro r hr x hx
  obtain ⟨q, hq, rfl⟩ := List.mem_map.mp hr
  exact hb q (List.mem_of_mem_take hq) x (List.mem_of_mem_take hx)
theorem rd_l_is_positive : ∀ Ed ss Kd, ss.length = 1 → sp_l_is_positive Ed ss Kd → tb_l_is_positive (endsOf Kd noE) (start0 N_l_is_positive ss) := by
  rintro Ed ss Kd hl ⟨n, A, rfl, hn, hA, hb, h⟩
  unfold tb_l_is_positive N_l_is_positive
  have n4 := hn.le
  refine seq_gg fun T hT => ?_
  walk_at "ps"
  rw [lenT hA]
  rw [show (((n : Nat) : Int) + 1 - 1).toNat = n by omega, show (1 : Int) = ((1 : Nat) : Int) from rfl, rng_at]
  refine ⟨by decide, by decide, by omega, by omega, forD_cnt (fun i ρ => (∃ o1, ρ = [some (.val (mT A)), o1, none]) ∧ ∀ j, j + 1 < i → 0 < detN (j + 1) (corner (j + 1) A)) _ n 1 ?_ ?_ _ ⟨⟨_, rfl⟩, fun j hj => by omega⟩⟩
  · rintro m ρ hm1 hmn ⟨⟨o1, rfl⟩, hpos⟩ nx hnx
    have hmn : m ≤ n := by omega
    walk_at "ps"
    rw [cut_hi _ m (by rw [lenT hA]; exact hmn), ← List.map_take]
    refine ⟨by rw [List.length_map, List.length_take]; omega, lcD_m rT (fun r => rT (r.take m)) (A.take m) [] (fun r hr k hk => ?_) ?_⟩
    · walk_at "ps"
      have hr' := List.mem_of_mem_take hr
      rw [cut_hi _ m (by rw [List.length_map, hA.2 r hr']; exact hmn), ← List.map_take]
      exact hk
    · rw [List.nil_append]
      have es : ((A.take m).map fun r => rT (r.take m)) = (corner m A).map rT := by unfold corner; rw [List.map_map]; rfl
      rw [es]
      obtain ⟨m', rfl⟩ : ∃ m', m = m' + 1 := ⟨m - 1, by omega⟩
      refine ⟨m' + 1, _, _, rfl, .inr (.inr rfl), by unfold sz1 sz; omega, corner_rect hA hmn, corner_bd hb, fun hle => ?_, fun hle => hnx _ ⟨⟨_, rfl⟩, fun j hj => ?_⟩⟩
      · have e : minB n A = false := by
          cases hm : minB n A with
          | false => rfl
          | true =>
            have := minB_iff.mp hm m' (by omega)
            omega
        rw [e] at h
        exact h
      · by_cases ej : j = m'
        · subst ej
          omega
        · exact hpos j (by omega)
  · rintro ρ ⟨⟨o1, rfl⟩, hpos⟩
    subst hT
    walk_at "ps"
    have e : minB n A = true := minB_iff.mpr fun i hi => hpos i (by omega)
    rw [e] at h
    exact h

theorem nm2 : nmD 2 = [.str "A2"] := rfl
theorem nm3 : nmD 3 = [.str "A3"] := rfl
theorem nm4 : nmD 4 = [.str "A4", .str "D4"] := rfl
theorem rd_l_names : ∀ Ed ss Kd, ss.length = 1 → sp_l_names Ed ss Kd → tb_l_names (endsOf Kd noE) (start0 N_l_names ss) := by
  rintro Ed ss Kd hl ⟨n, rfl, hn, h⟩
  unfold tb_l_names N_l_names
  rcases hn with rfl | rfl | rfl
  · rw [nm2] at h
    walk_at "ps"
    refine ⟨fun e => absurd e (by decide), fun _ => ⟨by decide, by decide +kernel, by decide, ?_⟩⟩
    have e : ((Str.ofString "A") ++ (toString (((2 : Nat) : Int)) : Str)) = Str.ofString "A2" := by decide +kernel
    rw [e]
    exact h
  · rw [nm3] at h
    walk_at "ps"
    refine ⟨fun e => absurd e (by decide), fun _ => ⟨by decide, by decide +kernel, by decide, ?_⟩⟩
    have e : ((Str.ofString "A") ++ (toString (((3 : Nat) : Int)) : Str)) = Str.ofString "A3" := by decide +kernel
    rw [e]
    exact h
  · rw [nm4] at h
    walk_at "ps"
    exact ⟨fun _ => ⟨by decide, h⟩, fun e => absurd rfl e⟩
def idM (n : Nat) : Mx := genM n fun i j => 1 + if i = j then 1 else 0
theorem id_tab {n : Nat} (hn : sz n) : Tab n 2 (idM n) := by
  refine ⟨gen_rect n _, gen_sym hn fun i j => ?_, gen_le fun i j _ _ => by split <;> decide⟩
  by_cases e : i = j
  · rw [if_pos e, if_pos e.symm]
  · rw [if_neg e, if_neg (fun z => e z.symm)]
def d4M : Mx := [[2, 1, 1, 1], [1, 2, 1, 1], [1, 1, 2, 0], [1, 1, 0, 2]]
theorem d4_tab : Tab 4 2 d4M := by
  refine ⟨⟨rfl, fun r hr => ?_⟩, by unfold symM; decide, fun r hr x hx => ?_⟩
  · simp only [d4M, List.mem_cons, List.not_mem_nil, _root_.or_false] at hr
    rcases hr with rfl | rfl | rfl | rfl <;> rfl
  · simp only [d4M, List.mem_cons, List.not_mem_nil, _root_.or_false] at hr
    rcases hr with rfl | rfl | rfl | rfl <;> simp only [List.mem_cons, List.not_mem_nil, _root_.or_false] at hx <;> rcases hx with rfl | rfl | rfl | rfl <;> decide
theorem id_pos {n : Nat} (hn : sz n) : PDf n (idM n) := (min_pos hn (id_tab hn).1 (id_tab hn).2.1).mp (by rcases hn with rfl | rfl | rfl <;> decide)
theorem d4_pos : PDf 4 d4M := (min_pos (.inr (.inr rfl)) d4_tab.1 d4_tab.2.1).mp (by decide)
theorem rd_l_told : ∀ Ed ss Kd, ss.length = 1 → sp_l_told Ed ss Kd → tb_l_told (endsOf Kd noE) (start0 N_l_told ss) := by
  rintro Ed ss Kd hl ⟨n, d, rfl, hn, hd, h⟩
  have n4 := hn.le
  unfold tb_l_told N_l_told
  refine seq_gg fun T hT => ?_
  have key : ∀ x : Str, (cutS x (some 1) none).length ≤ 640 → x.length ≤ 1000000 → PySem.intText? (cutS x (some 1) none) = some (n : Int) → T (endsOf Kd noE) [some (.val (.str x)), none, none, none] := fun x h1 h2 h3 => by
    subst hT
    refine seq_gg fun T hT => ?_
    walk_at "ps"
    refine ⟨h2, (n : Int), h3, h1, ?_⟩
    subst hT
    walk_at "ps"
    rw [rng0]
    refine ⟨by omega, by omega, by simp; omega, lcD_m _ (fun i : Nat => .tup ((List.range n).map fun j => .int (1 + if i = j then 1 else 0))) (List.range n) [] (fun i hi k hk => ?_) ?_⟩
    · walk_at "ps"
      rw [rng0]
      refine ⟨by omega, by omega, by simp; omega, lcD_m _ (fun j : Nat => .int (1 + if i = j then 1 else 0)) (List.range n) [] (fun j hj k2 hk2 => ?_) (by simpa using hk)⟩
      walk_at "ps"
      have e : ((i : Int) = (j : Int)) ↔ i = j := by omega
      simpa only [e] using hk2
    · have := h _ (id_tab hn) (id_pos hn)
      rw [List.nil_append]
      simpa [rT, mT, idM, genM, List.map_map, Function.comp_def] using this
  have s4 : ∀ x : Str, x ≠ Str.ofString "D4" → T (endsOf Kd noE) [some (.val (.str x)), none, none, none] → sIf (dTest (dOp fEq (dVar 0) (dC (.str "D4")))) (sRet (dTup (vCons (dTup (vCons (dC (.int 2)) (vCons (dC (.int 1)) (vCons (dC (.int 1)) (vCons (dC (.int 1)) (vNil)))))) (vCons (dTup (vCons (dC (.int 1)) (vCons (dC (.int 2)) (vCons (dC (.int 1)) (vCons (dC (.int 1)) (vNil)))))) (vCons (dTup (vCons (dC (.int 1)) (vCons (dC (.int 1)) (vCons (dC (.int 2)) (vCons (dC (.int 0)) (vNil)))))) (vCons (dTup (vCons (dC (.int 1)) (vCons (dC (.int 1)) (vCons (dC (.int 0)) (vCons (dC (.int 2)) (vNil)))))) (vNil))))))) (sPass) { endsOf Kd noE with nx := fun ρ' => T (endsOf Kd noE) ρ' } [some (.val (.str x)), none, none, none] := fun x hx hT2 => by
    walk_at "ps"
    exact ⟨fun e => absurd e hx, fun _ => hT2⟩
  rcases hn with rfl | rfl | rfl
  · rw [nm2] at hd
    cases List.mem_singleton.mp hd
    exact s4 _ (by decide +kernel) (key _ (by decide +kernel) (by decide +kernel) (by decide +kernel))
  · rw [nm3] at hd
    cases List.mem_singleton.mp hd
    exact s4 _ (by decide +kernel) (key _ (by decide +kernel) (by decide +kernel) (by decide +kernel))
  · rw [nm4] at hd
    simp only [List.mem_cons, List.not_mem_nil, _root_.or_false] at hd
    rcases hd with rfl | rfl
    · exact s4 _ (by decide +kernel) (key _ (by decide +kernel) (by decide +kernel) (by decide +kernel))
    · walk_at "ps"
      have := h _ d4_tab d4_pos
      exact ⟨⟨by decide, by decide, by decide, by decide, by decide, this⟩, fun e => absurd trivial e⟩

def rayB : DTS := sAsg (dOp fAdd (dVar 1) (dLc (iR2 (vCons (dOp fAdd (dVar 2) (dC (.int 1))) (vCons (dVar 0) (vNil)))) (gN 3) (dYes) (dCB fTuple (vCons (dLc (iR1 (dVar 0)) (gN 4) (dYes) (dOp fSub (dCB fInt (vCons (dOp fEq (dVar 4) (dVar 2)) (vNil))) (dCB fInt (vCons (dOp fEq (dVar 4) (dVar 3)) (vNil)))) [4]) (vNil))) [3])) (gN 1)
def rayOk (n : Nat) (vs : Mx) : Prop := ∀ v ∈ vs, v.length = n ∧ ∀ x ∈ v, x.natAbs ≤ 1
theorem ray_loop {n : Nat} (n4 : n ≤ 4) {E : ES} (hE : ∀ (vs : Mx) o2, vs.length ≤ 20 → rayOk n vs → E.nx [some (.val (.int (n : Nat))), some (.val (.lst (vs.map rT))), o2, none, none]) :
    ∀ (l : List Nat) (vs : Mx) (o2 : Option Sl), (∀ a ∈ l, a < n) → vs.length + 4 * l.length ≤ 20 → rayOk n vs →
    forD (gN 2) rayB E (l.map fun i : Nat => D.int (i : Nat)) [some (.val (.int (n : Nat))), some (.val (.lst (vs.map rT))), o2, none, none]
  | [], vs, o2, _, hl, hv => by
    unfold forD
    exact hE vs o2 (by simpa using hl) hv
  | a :: l, vs, o2, hal, hl, hv => by
    have han := hal a List.mem_cons_self
    show forD _ _ E (D.int (a : Nat) :: l.map _) _
    simp only [List.length_cons] at hl
    unfold forD rayB
    walk_at "ps"
    rw [show ((a : Int) + 1) = ((a + 1 : Nat) : Int) by omega, rngK]
    have hlen : ((((n : Nat) : Int) - ((a + 1 : Nat) : Int)).toNat) ≤ 4 := by omega
    · refine ⟨by omega, by omega, by omega, by omega, by simp; omega, ?_⟩
      refine lcD_m _ (fun i : Nat => rT ((List.range n).map fun p => (if p = a then (1 : Int) else 0) - (if p = a + 1 + i then 1 else 0))) (List.range ((((n : Nat) : Int) - ((a + 1 : Nat) : Int)).toNat)) [] (fun i hi k hk => ?_) ?_
      · walk_at "ps"
        rw [rng0]
        refine ⟨by omega, by omega, by simp; omega, lcD_m _ (fun p : Nat => .int ((if p = a then (1 : Int) else 0) - (if p = a + 1 + i then 1 else 0))) (List.range n) [] (fun p hp k2 hk2 => ?_) (by simpa [rT, List.map_map, Function.comp_def] using hk)⟩
        walk_at "ps"
        have e1 : ((p : Int) = (a : Int)) ↔ p = a := by omega
        have e2 : ((p : Int) = ((a + 1 + i : Nat) : Int)) ↔ p = a + 1 + i := by omega
        simpa only [e1, e2] using hk2
      · rw [List.nil_append]
        refine ⟨by simp; omega, ?_⟩
        have em : (vs.map rT ++ (List.range ((((n : Nat) : Int) - ((a + 1 : Nat) : Int)).toNat)).map fun i : Nat => rT ((List.range n).map fun p => (if p = a then (1 : Int) else 0) - (if p = a + 1 + i then 1 else 0)))
            = (vs ++ (List.range ((((n : Nat) : Int) - ((a + 1 : Nat) : Int)).toNat)).map fun i : Nat => ((List.range n).map fun p => (if p = a then (1 : Int) else 0) - (if p = a + 1 + i then 1 else 0))).map rT := by
          rw [List.map_append, List.map_map]
          rfl
        rw [em]
        refine ray_loop n4 hE l _ _ (fun b hb => hal b (List.mem_cons_of_mem _ hb)) (by simp; omega) fun v hv' => ?_
        rcases List.mem_append.mp hv' with hv' | hv'
        · exact hv v hv'
        · obtain ⟨i, _, rfl⟩ := List.mem_map.mp hv'
          refine ⟨by simp, fun x hx => ?_⟩
          obtain ⟨p, _, rfl⟩ := List.mem_map.mp hx
          split <;> split <;> decide
theorem rd_l_plain_rays : ∀ Ed ss Kd, ss.length = 1 → sp_l_plain_rays Ed ss Kd → tb_l_plain_rays (endsOf Kd noE) (start0 N_l_plain_rays ss) := by
  rintro Ed ss Kd hl ⟨n, rfl, hn, h⟩
  have n4 := hn.le
  show (sSeq _ (sSeq (sFor (iR1 (dVar 0)) (gN 2) rayB) _)) _ _
  unfold N_l_plain_rays
  refine seq_gg fun T hT => ?_
  walk_at "ps"
  rw [rng0]
  refine ⟨by omega, by omega, by simp; omega, lcD_m _ (fun i : Nat => rT ((List.range n).map fun j => if i = j then 1 else 0)) (List.range n) [] (fun i hi k hk => ?_) ?_⟩
  · walk_at "ps"
    rw [rng0]
    refine ⟨by omega, by omega, by simp; omega, lcD_m _ (fun j : Nat => .int (if i = j then 1 else 0)) (List.range n) [] (fun j hj k2 hk2 => ?_) (by simpa [rT, List.map_map, Function.comp_def] using hk)⟩
    walk_at "ps"
    have e : ((i : Int) = (j : Int)) ↔ i = j := by omega
    simpa only [e] using hk2
  · rw [List.nil_append]
    have eu : ((List.range n).map fun i : Nat => rT ((List.range n).map fun j => if i = j then 1 else 0)) = (unitM n).map rT := by
      unfold unitM
      rw [List.map_map]
      rfl
    rw [eu]
    show T _ [_, some (.val (.lst ((unitM n).map rT))), _, _, _]
    subst hT
    refine seq_gg fun T hT => ?_
    walk_at "ps"
    rw [rng0]
    refine ⟨by omega, by omega, ray_loop n4 (fun vs o2 h1 h2 => ?_) _ _ _ (fun a ha => List.mem_range.mp ha) (by rw [(unit_rect n).1]; simp; omega) (fun v hv => ⟨(unit_rect n).2 v hv, le_unit n v hv⟩)⟩
    subst hT
    walk_at "ps"
    exact h vs h1 h2
def sumF (vs : Mx) (ws : List Int) (i j : Nat) : Int := ((vs.zip ws).map fun p => p.2 * (p.1.getD i 0) * (p.1.getD j 0)).sum
theorem sum_abs {α : Type} (f : α → Int) (B : Nat) : ∀ l : List α, (∀ x ∈ l, (f x).natAbs ≤ B) → ((l.map f).sum).natAbs ≤ l.length * B
  | [], _ => by simp
  | a :: l, h => by
    have ih := sum_abs f B l fun x hx => h x (List.mem_cons_of_mem _ hx)
    have h1 := h a List.mem_cons_self
    rw [List.map_cons, List.sum_cons, List.length_cons, Nat.add_mul, Nat.one_mul]
    omega
theorem sumF_sym (vs : Mx) (ws : List Int) (i j : Nat) : sumF vs ws i j = sumF vs ws j i := by
  unfold sumF
  congr 1
  exact List.map_congr_left fun p _ => by grind
theorem sumF_le {vs : Mx} {ws : List Int} (h1 : vs.length ≤ 20) (hv : ∀ v ∈ vs, ∀ x ∈ v, x.natAbs ≤ 2) (hw : ∀ w ∈ ws, w.natAbs ≤ 4) (i j : Nat) : (sumF vs ws i j).natAbs ≤ 400 := by
  unfold sumF
  have := sum_abs (fun p : List Int × Int => p.2 * (p.1.getD i 0) * (p.1.getD j 0)) 16 (vs.zip ws) fun p hp => by
    have a := hw _ (List.of_mem_zip hp).2
    have b := getD_le (hv _ (List.of_mem_zip hp).1) i
    have c := getD_le (hv _ (List.of_mem_zip hp).1) j
    rw [Int.natAbs_mul, Int.natAbs_mul]
    exact Nat.le_trans (Nat.mul_le_mul (Nat.mul_le_mul a b) c) (by decide)
  have l : (vs.zip ws).length ≤ 20 := by rw [List.length_zip]; omega
  omega
theorem zip_rw (vs : Mx) (ws : List Int) : zipD (vs.map rT) (ws.map D.int) = (vs.zip ws).map fun p => prD (rT p.1) (.int p.2) := by
  unfold zipD
  rw [List.zip_map, List.map_map]
  rfl
def sumB : DTS := sOwnApp 3 (dCB fTuple (vCons (dLc (iR1 (dVar 0)) (gN 5) (dYes) (dCB fSum (vCons (dLc (iZp (vCons (dVar 1) (vCons (dVar 2) (vNil)))) (gT 2 (gsC (gN 6) (gsC (gN 7) (gsN)))) (dYes) (dOp fRep (dOp fRep (dVar 7) (dOp fIx (dVar 6) (dVar 4))) (dOp fIx (dVar 6) (dVar 5))) [6, 7]) (vNil))) [5]) (vNil)))
theorem sum_loop {n : Nat} (n4 : n ≤ 4) {vs : Mx} {ws : List Int} (h1 : vs.length ≤ 20) (hv : ∀ v ∈ vs, v.length = n ∧ ∀ x ∈ v, x.natAbs ≤ 2) (hw : ∀ w ∈ ws, w.natAbs ≤ 4) {E : ES} :
    ∀ (m q : Nat) (fs : Mx) (o4 : Option Sl), q + m = n → fs.length ≤ 10 - m →
    (∀ o4, E.nx [some (.val (.int (n : Nat))), some (.val (.lst (vs.map rT))), some (.val (.lst (ws.map D.int))), some (.own (.lst ((fs ++ (List.range m).map fun i => (List.range n).map fun j => sumF vs ws (q + i) j).map rT))), o4, none, none, none]) →
    forD (gN 4) sumB E ((List.range m).map fun i : Nat => D.int ((q + i : Nat) : Int)) [some (.val (.int (n : Nat))), some (.val (.lst (vs.map rT))), some (.val (.lst (ws.map D.int))), some (.own (.lst (fs.map rT))), o4, none, none, none]
  | 0, q, fs, o4, _, _, hE => by
    unfold forD
    simpa using hE o4
  | m + 1, q, fs, o4, hq, hls, hE => by
    have hqn : q < n := by omega
    rw [range_cons q m (fun j : Nat => D.int (j : Int))]
    unfold forD sumB
    walk_at "ps"
    rw [rng0]
    refine ⟨by omega, by omega, by simp; omega, lcD_m _ (fun j : Nat => .int (sumF vs ws q j)) (List.range n) [] (fun j hj k hk => ?_) ?_⟩
    · have hj := List.mem_range.mp hj
      walk_at "ps"
      rw [zip_rw]
      refine ⟨by simp only [List.length_map, List.length_zip]; omega, lcD_s _ (fun p : List Int × Int => p.2 * (p.1.getD q 0) * (p.1.getD j 0)) (vs.zip ws) (fun p hp k2 hk2 => ?_) hk⟩
      have hv' := hv _ (List.of_mem_zip hp).1
      have hw' := hw _ (List.of_mem_zip hp).2
      have g1 := getD_le hv'.2 q
      have g2 := getD_le hv'.2 j
      unfold prD
      walk_at "ps"
      rw [ixV (by omega)]
      walk_at "ps"
      rw [ixV (by omega)]
      have mm : (p.2 * p.1.getD q 0).natAbs ≤ 8 := by
        rw [Int.natAbs_mul]
        exact Nat.le_trans (Nat.mul_le_mul hw' g1) (by decide)
      exact ⟨mul_okL (by omega) (by omega), mul_okL (by omega) (by omega), hk2⟩
    · rw [List.nil_append]
      have er : (.tup ((List.range n).map fun j : Nat => D.int (sumF vs ws q j)) : D) = rT ((List.range n).map fun j => sumF vs ws q j) := by
        simp [rT, List.map_map, Function.comp_def]
      simp only [er]
      have el : fs.map rT ++ [rT ((List.range n).map fun j => sumF vs ws q j)] = (fs ++ [(List.range n).map fun j => sumF vs ws q j]).map rT := by simp
      rw [el]
      refine ⟨by rw [List.length_map]; omega, sum_loop n4 h1 hv hw m (q + 1) (fs ++ [(List.range n).map fun j => sumF vs ws q j]) _ (by omega) (by simp; omega) fun o4 => ?_⟩
      have z := hE o4
      rw [range_cons q m (fun i => (List.range n).map fun j => sumF vs ws i j)] at z
      simpa using z
theorem rd_l_summed : ∀ Ed ss Kd, ss.length = 3 → sp_l_summed Ed ss Kd → tb_l_summed (endsOf Kd noE) (start0 N_l_summed ss) := by
  rintro Ed ss Kd hl ⟨n, vs, ws, rfl, hn, h1, h2, hv, hw, h⟩
  have n4 := hn.le
  show (sSeq (sOwn 3 (nLst (vNil))) (sSeq (sFor (iR1 (dVar 0)) (gN 4) sumB) _)) _ _
  unfold N_l_summed
  refine seq_gg fun T hT => ?_
  walk_at "ps"
  refine ⟨by decide, by simp, ?_⟩
  subst hT
  refine seq_gg fun T hT => ?_
  walk_at "ps"
  rw [rng0]
  have e0 : ((List.range n).map fun i : Nat => D.int (i : Int)) = (List.range n).map fun i : Nat => D.int ((0 + i : Nat) : Int) := List.map_congr_left fun i _ => by rw [Nat.zero_add]
  rw [e0]
  refine ⟨by omega, by omega, sum_loop n4 h1 hv hw n 0 [] none (by omega) (by simp) fun o4 => ?_⟩
  subst hT
  walk_at "ps"
  have eg : ((List.range n).map fun i => (List.range n).map fun j => sumF vs ws (0 + i) j) = genM n (sumF vs ws) := by
    unfold genM
    exact List.map_congr_left fun i _ => by rw [Nat.zero_add]
  rw [eg]
  exact h _ ⟨gen_rect n _, gen_sym hn (sumF_sym vs ws), gen_le fun i j _ _ => sumF_le h1 (fun v hv' => (hv v hv').2) hw i j⟩
theorem Tab.mono {n a b : Nat} {A : Mx} (h : Tab n a A) (hab : a ≤ b) : Tab n b A := ⟨h.1, h.2.1, h.2.2.mono hab⟩
theorem bd200 {b : Nat} {A : Mx} (h : leM b A) (hb : b < 2 ^ 1000) : bdM 1000 A := fun r hr x hx => Nat.lt_of_le_of_lt (h r hr x hx) hb
theorem nm_ne {n : Nat} (hn : sz n) : nmD n ≠ [] ∧ (nmD n).length ≤ 1000000 := by
  rcases hn with rfl | rfl | rfl
  · rw [nm2]; simp
  · rw [nm3]; simp
  · rw [nm4]; simp
theorem adj_tab {n : Nat} (hn : sz n) {A : Mx} (h : Tab n 2 A) : Tab n 512 (adjM n A) :=
  ⟨adj_rect n A, adj_sym hn h.1 h.2.1, (adj_le hn h.1 h.2.2).mono (Nat.le_trans (Nat.pow_le_pow_right (by decide) (by have := hn.le; omega : n - 1 ≤ 3)) (by decide))⟩
theorem rd_l_begun : ∀ Ed ss Kd, ss.length = 2 → sp_l_begun Ed ss Kd → tb_l_begun (endsOf Kd noE) (start0 N_l_begun ss) := by
  rintro Ed ss Kd hl ⟨n, rfl, hn, h⟩
  have n4 := hn.le
  have n0 := hn.pos
  unfold tb_l_begun N_l_begun
  have big : ∀ k : Int, k ≤ 1000 → k < 2 ^ 2000 := fun k hk => Int.lt_of_le_of_lt hk (by decide +kernel)
  refine seq_gg fun T hT => ?_
  walk_at "ps"
  refine ⟨7, rfl, by decide, big _ (by decide), fun way hw0 hw1 => ⟨n, rfl, hn, _, rfl, (nm_ne hn).1, (nm_ne hn).2, fun nm hnm => ?_⟩⟩
  -- a told table
  subst hT
  refine seq_gg fun T hT => ?_
  walk_at "ps"
  refine ⟨fun e => ⟨n, nm, rfl, hn, hnm, fun A hA pA => h A (hA.mono (by decide))⟩, fun e0 => ?_⟩
  -- its adjoint
  subst hT
  refine seq_gg fun T hT => ?_
  walk_at "ps"
  refine ⟨fun e => ⟨n, nm, rfl, hn, hnm, fun A hA pA => ⟨n, A, rfl, hn, hA.1, bd200 hA.2.2 (by decide), h _ ((adj_tab hn hA).mono (by decide))⟩⟩, fun e1 => ?_⟩
  -- rays with weights
  subst hT
  refine seq_gg fun T hT => ?_
  walk_at "ps"
  refine ⟨fun e => ⟨n, rfl, hn, fun vs hvl hvs => ⟨_, rfl, by rw [List.length_map]; omega, fun es hp => ?_⟩⟩, fun e2 => ?_⟩
  · obtain ⟨vs', p', rfl⟩ := perm_map rT hp vs rfl
    refine ⟨4, rfl, by decide, big _ (by decide), fun g hg0 hg1 => ?_⟩
    rw [cut_map]
    generalize hus : cutD vs' none (some ((n : Int) + g)) = us
    have hul : us.length ≤ 20 := by
      rw [← hus]
      exact Nat.le_trans (cut_len _ _ _) (by rw [← p'.length_eq]; exact hvl)
    have huv : ∀ u ∈ us, u.length = n ∧ ∀ x ∈ u, x.natAbs ≤ 2 := fun u hu => by
      rw [← hus] at hu
      obtain ⟨a, b⟩ := hvs u (p'.mem_iff.mpr (cut_mem hu))
      exact ⟨a, fun x hx => Nat.le_trans (b x hx) (by decide)⟩
    refine ⟨by rw [List.length_map]; omega, ?_⟩
    refine lcD_P rT (fun v => ∃ w : Int, v = .int w ∧ w.natAbs ≤ 4) us [] (fun u hu k hk => ?_) fun ws hwl hws => ?_
    · walk_at "ps"
      exact ⟨4, rfl, by decide, big _ (by decide), fun r a c => hk _ ⟨_, rfl, by omega⟩⟩
    · obtain ⟨ws, rfl, hw⟩ := coll D.int _ ws hws
      rw [List.nil_append]
      have hwl' : ws.length = us.length := by simpa using hwl
      exact ⟨n, us, ws, rfl, hn, hul, by omega, huv, hw, fun A hA => h A (hA.mono (by decide))⟩
  -- drawn rows
  subst hT
  refine seq_gg fun T hT => ?_
  walk_at "ps"
  refine ⟨fun e => ⟨3, rfl, by decide, big _ (by decide), fun g hg0 hg1 => ?_⟩, fun e3 => ?_⟩
  · obtain ⟨g, rfl⟩ : ∃ j : Nat, g = (j : Int) := ⟨g.toNat, by omega⟩
    rw [show ((n : Int) + (g : Int)).toNat = n + g by omega, rng0]
    refine ⟨by omega, by omega, by simp; omega, lcD_P _ (fun v => ∃ r : List Int, v = rT r ∧ (r.length = n ∧ ∀ x ∈ r, x.natAbs ≤ 2)) (List.range (n + g)) [] (fun i hi k hk => ?_) fun vs hvl hvs => ?_⟩
    · walk_at "ps"
      exact ⟨n, 2, rfl, hn, by decide, by decide +kernel, fun v hv hb _ => hk _ ⟨v, rfl, hv, fun x hx => by have := hb x hx; omega⟩⟩
    · obtain ⟨us, rfl, hu⟩ := coll rT _ vs hvs
      have hul : us.length = n + g := by simpa using hvl
      rw [List.nil_append]
      walk_at "ps"
      have er : (List.replicate (us.map rT).length [D.int 1]).flatten = (List.replicate us.length (1 : Int)).map D.int := by
        rw [List.length_map, List.map_replicate]
        generalize us.length = m
        induction m with
        | zero => rfl
        | succ m ih => rw [List.replicate_succ, List.flatten_cons, ih, List.replicate_succ]; rfl
      rw [er]
      refine ⟨by decide, by rw [List.length_map]; omega, by rw [List.length_map]; omega, by simp; omega, n, us, List.replicate us.length 1, rfl, hn, by omega, by simp; omega, hu, fun w hw => by rw [List.eq_of_mem_replicate hw]; decide, fun A hA => h A (hA.mono (by decide))⟩
  -- a diagonal
  subst hT
  refine seq_gg fun T hT => ?_
  walk_at "ps"
  refine ⟨fun e => ?_, fun e4 => ?_⟩
  · rw [rng0]
    refine ⟨by omega, by omega, by simp; omega, lcD_P _ (fun v => ∃ w : Int, v = .int w ∧ w.natAbs ≤ 6) (List.range n) [] (fun i hi k hk => ?_) fun ws hwl hws => ?_⟩
    · walk_at "ps"
      exact ⟨6, rfl, by decide, big _ (by decide), fun r a c => hk _ ⟨_, rfl, by omega⟩⟩
    · obtain ⟨ws, rfl, hw⟩ := coll D.int _ ws hws
      have hwl' : ws.length = n := by simpa using hwl
      rw [List.nil_append]
      have ht : Tab n 3000 (genM n fun i j => ws.getD i 0 * (if i = j then 1 else 0)) := by
        refine ⟨gen_rect n _, gen_sym hn fun i j => ?_, gen_le fun i j _ _ => ?_⟩
        · by_cases e : i = j
          · subst e; rfl
          · rw [if_neg e, if_neg (fun z => e z.symm)]; simp
        · have := getD_le hw i
          by_cases e : i = j
          · rw [if_pos e, Int.mul_one]; omega
          · rw [if_neg e]; simp
      refine ⟨by omega, by omega, by simp; omega, lcD_m _ (fun i : Nat => .tup ((List.range n).map fun j => .int (ws.getD i 0 * (if i = j then 1 else 0)))) (List.range n) [] (fun i hi k hk => ?_) (by rw [List.nil_append]; have := h _ ht; simpa [rT, mT, genM, List.map_map, Function.comp_def] using this)⟩
      have hi := List.mem_range.mp hi
      walk_at "ps"
      rw [rng0]
      refine ⟨by omega, by omega, by simp; omega, lcD_m _ (fun j : Nat => .int (ws.getD i 0 * (if i = j then 1 else 0))) (List.range n) [] (fun j hj k2 hk2 => ?_) (by simpa using hk)⟩
      walk_at "ps"
      rw [ixV (by omega)]
      walk_at "ps"
      have e : ((i : Int) = (j : Int)) ↔ i = j := by omega
      have := getD_le hw i
      exact ⟨mul_okL (by omega) (by omega), by simpa only [e] using hk2⟩
  -- near a told table
  subst hT
  refine seq_gg fun T hT => ?_
  walk_at "ps"
  refine ⟨n, 1, rfl, hn, by decide, by decide +kernel, fun C hC bC sC => ⟨3, rfl, by decide, big _ (by decide), fun g hg0 hg1 => ?_⟩⟩
  have lC : leM 1 C := fun r hr x hx => by have := bC r hr x hx; omega
  subst hT
  refine seq_gg fun T hT => ?_
  have fin : ∀ B, Tab n 512 B → T (endsOf Kd noE) [some .bag, some (.val (.int (n : Nat))), some (.val (mT B)), some (.val (.int way)), some (.val nm), none, none, none, some (.val (mT C)), some (.val (.int (2 + g))), none, none, none, none] := fun B hB => by
    subst hT
    walk_at "ps"
    have hg : (2 + g).natAbs ≤ 4 := by omega
    refine ⟨n, C, B, 2 + g, rfl, hn, hC, hB.1, up200 (bd200 hB.2.2 (by decide)), Nat.lt_of_le_of_lt hg (by decide), h _ ⟨plus_rect hC hB.1 _, plus_sym hn hC hB.1 _ sC hB.2.1, (plus_le (n := n) lC hB.2.2 (2 + g)).mono ?_⟩⟩
    have := Nat.mul_le_mul_right 512 hg
    omega
  walk_at "ps"
  exact ⟨fun e => ⟨n, nm, rfl, hn, hnm, fun A hA pA => fin A (hA.mono (by decide))⟩, fun e => ⟨n, nm, rfl, hn, hnm, fun A hA pA => ⟨n, A, rfl, hn, hA.1, bd200 hA.2.2 (by decide), fin _ (adj_tab hn hA)⟩⟩⟩
theorem Tab.ok {n b : Nat} {A : Mx} (h : Tab n b A) (hb : b < 1000000000000000000000000000000000000000000000000000000000000) : okM n A := okM_le h.1 h.2.2 hb
theorem led_cap {n : Nat} (n4 : n ≤ 4) (a b : Nat) : n * (n * (b * a) * b) ≤ 16 * (b * a * b) := by
  have h1 : n * (b * a) * b ≤ 4 * (b * a) * b := Nat.mul_le_mul_right _ (Nat.mul_le_mul_right _ n4)
  have h2 : n * (n * (b * a) * b) ≤ 4 * (4 * (b * a) * b) := Nat.mul_le_mul n4 h1
  have h3 : 4 * (4 * (b * a) * b) = 16 * (b * a * b) := by rw [Nat.mul_assoc 4 (b * a) b]; omega
  omega
theorem led_tab {n a b c : Nat} (hn : sz n) {T M : Mx} (hT : Tab n a T) (hM : rectM n M) (h2 : leM b M) (hc : 16 * (b * a * b) ≤ c) : Tab n c (ledM T M) :=
  ⟨led_rect hn hT.1 hM, led_sym hn hT.1 hM hT.2.1, (led_le hn hT.1 hM hT.2.2 h2).mono (Nat.le_trans (led_cap hn.le a b) hc)⟩
theorem mov_tab {n a b c : Nat} (hn : sz n) {T M : Mx} (hT : Tab n a T) (hM : rectM n M) (h2 : leM b M) (hc : 16 * (b * a * b) ≤ c) : Tab n c (movM T M) :=
  ⟨mov_rect hn hT.1 hM, mov_sym hn hT.1 hM hT.2.1, (mov_le hn hT.1 hM hT.2.2 h2).mono (Nat.le_trans (led_cap hn.le a b) hc)⟩
theorem plus_tab {n a b k c : Nat} (hn : sz n) {A B : Mx} (hA : Tab n a A) (hB : Tab n b B) {m : Int} (hm : m.natAbs ≤ k) (hc : a + k * b ≤ c) : Tab n c (plusM A B m) :=
  ⟨plus_rect hA.1 hB.1 m, plus_sym hn hA.1 hB.1 m hA.2.1 hB.2.1, (plus_le (n := n) hA.2.2 hB.2.2 m).mono (Nat.le_trans (Nat.add_le_add_left (Nat.mul_le_mul_right _ hm) _) hc)⟩
theorem unit_tab {n : Nat} (hn : sz n) : Tab n 1 (unitM n) := ⟨unit_rect n, by rcases hn with rfl | rfl | rfl <;> (unfold symM; decide), le_unit n⟩
theorem rd_l_positive : ∀ Ed ss Kd, ss.length = 2 → sp_l_positive Ed ss Kd → tb_l_positive (endsOf Kd noE) (start0 N_l_positive ss) := by
  rintro Ed ss Kd hl ⟨n, rfl, hn, h⟩
  have n4 := hn.le
  have n0 := hn.pos
  unfold tb_l_positive N_l_positive
  have big : ∀ k : Int, k ≤ 1000 → k < 2 ^ 2000 := fun k hk => Int.lt_of_le_of_lt hk (by decide +kernel)
  refine seq_gg fun T hT => ?_
  walk_at "ps"
  refine ⟨n, rfl, hn, fun A hA => ?_⟩
  subst hT
  refine seq_gg fun T hT => ?_
  have next : ∀ B o3, Tab n 3012 B → T (endsOf Kd noE) [some .bag, some (.val (.int (n : Nat))), some (.val (mT B)), o3, none, none] := fun B o3 hB => by
    subst hT
    refine seq_gg fun T hT => ?_
    have next2 : ∀ C, Tab n 3012 C → PDf n C → T (endsOf Kd noE) [some .bag, some (.val (.int (n : Nat))), some (.val (mT C)), o3, none, none] := fun C hC pC => by
      subst hT
      refine seq_gg fun T hT => ?_
      have next3 : ∀ C, Tab n 12048 C → PDf n C → T (endsOf Kd noE) [some .bag, some (.val (.int (n : Nat))), some (.val (mT C)), o3, none, none] := fun C hC pC => by
        subst hT
        walk_at "ps"
        refine ⟨2, rfl, by decide, big _ (by decide), fun g hg0 hg1 => ⟨fun e => ⟨n, 3, rfl, hn, by decide, fun M gM lM => ⟨n, C, M, rfl, hn, hC.ok (by decide), okM_le gM.1 lM (by decide), h _ (led_tab hn hC gM.1 lM (by decide)) (pos_led hn hC.1 gM.1 (good_det hn gM) pC)⟩⟩, fun e => h _ (hC.mono (by decide)) pC⟩⟩
      walk_at "ps"
      refine ⟨6, rfl, by decide, big _ (by decide), fun g hg0 hg1 => ⟨fun e => ⟨4, rfl, by decide, big _ (by decide), fun m hm0 hm1 => ?_⟩, fun e => next3 C (hC.mono (by decide)) pC⟩⟩
      have hm : m.natAbs ≤ 3 := by omega
      exact ⟨n, C, C, m, rfl, hn, hC.1, hC.1, up200 (bd200 hC.2.2 (by decide)), Nat.lt_of_le_of_lt hm (by decide), next3 _ (plus_tab hn hC hC hm (by decide)) (pos_plus hn hC.1 hC.1 hm0 pC pC)⟩
    walk_at "ps"
    refine ⟨n, B, rfl, hn, hB.1, bd200 hB.2.2 (by decide), ⟨fun e => ⟨n, rfl, hn, ?_⟩, fun e => next2 B hB ((min_pos hn hB.1 hB.2.1).mp e)⟩⟩
    have tl : ∀ nm, nm ∈ nmD n → sp_l_told noE [.val nm] fun d => T (endsOf Kd noE) [some .bag, some (.val (.int (n : Nat))), some (.val d), o3, none, none] := fun nm hnm => ⟨n, nm, rfl, hn, hnm, fun A hA pA => next2 A (hA.mono (by decide)) pA⟩
    rcases hn with rfl | rfl | rfl
    · rw [nm2] at tl ⊢
      simp only [at0]
      exact tl _ (by simp)
    · rw [nm3] at tl ⊢
      simp only [at0]
      exact tl _ (by simp)
    · rw [nm4] at tl ⊢
      simp only [at0]
      exact tl _ (by simp)
  walk_at "ps"
  refine ⟨n, A, rfl, hn, hA.1, bd200 hA.2.2 (by decide), ⟨fun e => ?_, fun e => next A _ (hA.mono (by decide))⟩⟩
  rw [rng0]
  refine ⟨by omega, by omega, by simp; omega, lcD_m _ (fun i : Nat => .tup ((List.range n).map fun j => .int (if i = j then 1 else 0))) (List.range n) [] (fun i hi k hk => ?_) ?_⟩
  · walk_at "ps"
    rw [rng0]
    refine ⟨by omega, by omega, by simp; omega, lcD_m _ (fun j : Nat => .int (if i = j then 1 else 0)) (List.range n) [] (fun j hj k2 hk2 => ?_) (by simpa using hk)⟩
    walk_at "ps"
    have e : ((i : Int) = (j : Int)) ↔ i = j := by omega
    simpa only [e] using hk2
  · rw [List.nil_append]
    have eu : D.tup ((List.range n).map fun i : Nat => .tup ((List.range n).map fun j => .int (if i = j then 1 else 0))) = mT (unitM n) := by
      simp [rT, mT, unitM, List.map_map, Function.comp_def]
    refine ⟨n, A, unitM n, 12, by rw [eu], hn, hA.1, unit_rect n, up200 (bd200 (unit_tab hn).2.2 (by decide)), by decide, ?_⟩
    exact next _ _ (plus_tab hn hA (unit_tab hn) (k := 12) (by decide) (by decide))
theorem rd_l_wide : ∀ Ed ss Kd, ss.length = 2 → sp_l_wide Ed ss Kd → tb_l_wide (endsOf Kd noE) (start0 N_l_wide ss) := by
  rintro Ed ss Kd hl ⟨n, rfl, hn, h⟩
  unfold tb_l_wide N_l_wide
  refine seq_gg fun T hT => ?_
  walk_at "ps"
  refine ⟨n, rfl, hn, fun A hA pA => ⟨n, rfl, hn, fun B hB pB => ?_⟩⟩
  subst hT
  refine seq_gg fun T hT => ?_
  have p9 : (10 : Int) ^ (Int.toNat 9) = 1000000000 := by decide
  have p12 : (10 : Int) ^ (Int.toNat 12) = 1000000000000 := by decide
  walk_at "ps"
  rw [p9, p12]
  refine ⟨⟨by decide, by decide +kernel⟩, ⟨by decide, by decide +kernel⟩, by decide, _, rfl, by simp, by simp, fun d hd => ?_⟩
  have hm : ∃ m : Int, d = .int m ∧ m.natAbs ≤ 1000000000007 ∧ 0 ≤ m := by
    simp only [List.mem_cons, List.not_mem_nil, _root_.or_false] at hd
    rcases hd with rfl | rfl | rfl | rfl | rfl <;> exact ⟨_, rfl, by decide, by decide⟩
  obtain ⟨m, rfl, hm, hm0⟩ := hm
  refine ⟨n, B, A, m, rfl, hn, hB.1, hA.1, up200 (bd200 hA.2.2 (by decide)), Nat.lt_of_le_of_lt hm (by decide), ?_⟩
  have hp : Tab n (10 ^ 24) (plusM B A m) := plus_tab hn hB hA hm (by decide)
  subst hT
  walk_at "ps"
  refine ⟨n, 5, rfl, hn, by decide, fun M gM lM => ⟨n, plusM B A m, M, rfl, hn, hp.ok (by decide), okM_le gM.1 lM (by decide), h _ (led_tab hn hp gM.1 lM (by decide)) (pos_led hn hp.1 gM.1 (good_det hn gM) (pos_plus hn hB.1 hA.1 hm0 pB pA))⟩⟩

/-! ### forms: what the defs promise -/
def minL (n : Nat) (A : Mx) : List Int := (List.range n).map fun i => detN (i + 1) (corner (i + 1) A)
def gcdF (f : Int) (ns : List Int) : Int := ns.foldl (fun a x => ((Nat.gcd a.natAbs x.natAbs : Nat) : Int)) f
/-- the greatest integer that divides all -/
def contM (A : Mx) : Int := gcdF 0 A.flatten
def clearM (A : Mx) : Mx := A.map fun r => r.map fun x => x.fdiv (contM A)
def timesM (m : Int) (A : Mx) : Mx := A.map (sgR m)
def numS (i : Int) : Str := Str.ofString (toString i)
def strF (A : Mx) : Str := Str.ofString "form " ++ Txt.join (Str.ofString "/") (A.map fun r => Txt.join (Str.ofString " ") (r.map numS))
def diagM (xs : List Int) : Mx := (List.range xs.length).map fun i => (List.range xs.length).map fun j => if i = j then xs.getD i 0 else 0
/-- a form, as data -/
def Fo (cl : Cl) (n : Nat) (A : Mx) : D := .obj cl.Form none [some (.int (detN n A)), some (.int (n : Nat)), some (mT A)]
def So (cl : Cl) (A : Mx) : D := .obj cl.Sure none [some (mT A)]
def sp_divisor_of : DSp := fun _ ss K => ∃ v : List Int, ss = [.val (rL v)] ∧ K (.int (gcdF 0 v))
def sp_sum_in : DSp := fun _ ss K => ∃ (n : Nat) (A B : Mx), ss = [.val (mT A), .val (mT B)] ∧ sz n ∧ rectM n A ∧ rectM n B ∧ bdM 10000 B ∧ K (mT (plusM A B 1))
def sp_corner_of : DSp := fun _ ss K => ∃ (n m : Nat) (A : Mx), ss = [.val (mT A), .val (.int m)] ∧ rectM n A ∧ m ≤ n ∧ n ≤ 1000 ∧ K (mT (corner m A))
def sp_minors_in : DSp := fun _ ss K => ∃ (n : Nat) (A : Mx), ss = [.val (mT A)] ∧ sz n ∧ rectM n A ∧ bdM 1000 A ∧ K (rT (minL n A))
def sp_is_positive_in : DSp := fun _ ss K => ∃ (n : Nat) (A : Mx), ss = [.val (mT A)] ∧ sz n ∧ rectM n A ∧ bdM 1000 A ∧ K (.bl (minB n A))
def sp_Sure___init__ (_ : Cl) : DSo := fun _ ss K => ∃ d, ss = [.val d] ∧ K [some d]
def sp_table_told (cl : Cl) : DSp := fun _ ss K => (∃ A, ss = [.val (So cl A)] ∧ K (mT A)) ∨ ∃ n A, ss = [.val (mT A)] ∧ sz n ∧ okM n A ∧ symM A ∧ PDf n A ∧ K (mT A)
def sp_Form___init__ (cl : Cl) : DSo := fun _ ss K => ∃ n A d, ss = [.val d] ∧ sz n ∧ rectM n A ∧ bdM 1000 A ∧ (d = So cl A ∨ (d = mT A ∧ okM n A ∧ symM A ∧ PDf n A)) ∧ K [some (.int (detN n A)), some (.int (n : Nat)), some (mT A)]
def sp_form_with (cl : Cl) : DSp := fun _ ss K => ∃ n A, ss = [.val (mT A)] ∧ sz n ∧ rectM n A ∧ bdM 1000 A ∧ K (Fo cl n A)
def sp_Form_diagonal (cl : Cl) : DSp := fun _ ss K => ∃ xs : List Int, ss = .val (.cls cl.Form) :: xs.map (fun x => .val (.int x)) ∧ sz xs.length ∧ (∀ x ∈ xs, 1 ≤ x ∧ x ≤ 1000) ∧ K (Fo cl xs.length (diagM xs))
def sp_Form_size (cl : Cl) : DSp := fun _ ss K => ∃ n A, ss = [.val (Fo cl n A)] ∧ K (.int (n : Nat))
def sp_Form_table (cl : Cl) : DSp := fun _ ss K => ∃ n A, ss = [.val (Fo cl n A)] ∧ K (mT A)
def sp_Form_determinant (cl : Cl) : DSp := fun _ ss K => ∃ n A, ss = [.val (Fo cl n A)] ∧ K (.int (detN n A))
def sp_Form_minors (cl : Cl) : DSp := fun _ ss K => ∃ n A, ss = [.val (Fo cl n A)] ∧ sz n ∧ rectM n A ∧ bdM 1000 A ∧ K (rT (minL n A))
def sp_Form_adjoint (cl : Cl) : DSp := fun _ ss K => ∃ n A, ss = [.val (Fo cl n A)] ∧ sz n ∧ rectM n A ∧ bdM 1000 A ∧ bdM 1000 (adjM n A) ∧ K (Fo cl n (adjM n A))
def sp_Form_content (cl : Cl) : DSp := fun _ ss K => ∃ n A, ss = [.val (Fo cl n A)] ∧ sz n ∧ rectM n A ∧ K (.int (contM A))
def sp_Form_value (cl : Cl) : DSp := fun _ ss K => ∃ n A v, ss = [.val (Fo cl n A), .val (rT v)] ∧ sz n ∧ okM n A ∧ okV n v ∧ K (.int (valM A v))
def sp_Form_pairing (cl : Cl) : DSp := fun _ ss K => ∃ n A v w, ss = [.val (Fo cl n A), .val (rT v), .val (rT w)] ∧ sz n ∧ okM n A ∧ okV n v ∧ okV n w ∧ K (.int (dotI v (mulV A w)))
def sp_Form_cleared (cl : Cl) : DSp := fun _ ss K => ∃ n A, ss = [.val (Fo cl n A)] ∧ sz n ∧ rectM n A ∧ bdM 1000 A ∧ contM A ≠ 0 ∧ K (Fo cl n (clearM A))
def sp_Form___eq__ (cl : Cl) : DSp := fun _ ss K => ∃ n A d, ss = [.val (Fo cl n A), .val d] ∧ ((∃ m B, d = Fo cl m B ∧ K (.bl (decide (A = B)))) ∨ (d.noScr = true ∧ K (.bl false)))
def sp_Form___len__ (cl : Cl) : DSp := fun _ ss K => ∃ n A, ss = [.val (Fo cl n A)] ∧ sz n ∧ rectM n A ∧ K (.int (n : Nat))
def sp_Form___str__ (cl : Cl) : DSp := fun _ ss K => ∃ n A, ss = [.val (Fo cl n A)] ∧ sz n ∧ okM n A ∧ K (.str (strF A))
def sp_content_in : DSp := fun _ ss K => ∃ n A, ss = [.val (mT A)] ∧ sz n ∧ rectM n A ∧ K (.int (contM A))
def sp_cleared_table : DSp := fun _ ss K => ∃ n A, ss = [.val (mT A)] ∧ sz n ∧ rectM n A ∧ bdM 1000 A ∧ contM A ≠ 0 ∧ K (mT (clearM A))
def sp_times_in : DSp := fun _ ss K => ∃ (n : Nat) (A : Mx) (m : Int), ss = [.val (mT A), .val (.int m)] ∧ sz n ∧ rectM n A ∧ bdM 10000 A ∧ m.natAbs < 2 ^ 10000 ∧ K (mT (timesM m A))
def sp_l_common : DSp := fun _ ss K => ∃ v : List Int, (ss = [.val (rL v)] ∨ ss = [.val (rT v)]) ∧ K (.int (gcdF 0 v))
def sp_l_content : DSp := fun _ ss K => ∃ n A, ss = [.val (mT A)] ∧ sz n ∧ rectM n A ∧ K (.int (contM A))
def sp_l_cleared : DSp := fun _ ss K => ∃ n A, ss = [.val (mT A)] ∧ sz n ∧ rectM n A ∧ bdM 1000 A ∧ contM A ≠ 0 ∧ K (mT (clearM A))
/-! ### the bodies -/
def tb_divisor_of : DTS := sSeq (sAsg (dC (.int 0)) (gN 1)) (sSeq (sFor (iSeq (dVar 0)) (gN 2) (sAsg (dCB fGcd (vCons (dVar 1) (vCons (dVar 2) (vNil)))) (gN 1))) (sRet (dVar 1)))
def N_divisor_of : List Str := ["numbers", "found", "number"]
def tb_sum_in : DTS := sRet (dCB fTuple (vCons (dLc (iZp (vCons (dVar 0) (vCons (dVar 1) (vNil)))) (gT 2 (gsC (gN 3) (gsC (gN 4) (gsN)))) (dYes) (dCB fTuple (vCons (dLc (iZp (vCons (dVar 3) (vCons (dVar 4) (vNil)))) (gT 2 (gsC (gN 5) (gsC (gN 6) (gsN)))) (dYes) (dOp fAdd (dVar 5) (dOp fRep (dVar 2) (dVar 6))) [5, 6]) (vNil))) [3, 4]) (vNil)))
def N_sum_in : List Str := ["one", "other", "factor", "row", "line", "here", "there"]
def tb_corner_of : DTS := sRet (dCB fTuple (vCons (dLc (iSeq (dSl (dVar 0) (oNone) (oSome (dVar 1)))) (gN 2) (dYes) (dSl (dVar 2) (oNone) (oSome (dVar 1))) [2]) (vNil)))
def N_corner_of : List Str := ["table", "many", "row"]
def tb_minors_in : DTS := sRet (dCB fTuple (vCons (dLc (iR2 (vCons (dC (.int 1)) (vCons (dOp fAdd (dCB fLen (vCons (dVar 0) (vNil))) (dC (.int 1))) (vNil)))) (gN 1) (dYes) (dCall 1 sp_determinant_of (aCons (xVal (dCall 2 sp_corner_of (aCons (xVar 0) (aCons (xVar 1) (aNil))))) (aNil))) [1]) (vNil)))
def N_minors_in : List Str := ["table", "many"]
def tb_is_positive_in : DTS := sRet (dCB (fAllB fun bs => bs.all id) (vCons (dLc (iSeq (dCall 1 sp_minors_in (aCons (xVar 0) (aNil)))) (gN 1) (dYes) (dOp (fCmp fun i j => decide (j < i)) (dVar 1) (dC (.int 0))) [1]) (vNil)))
def N_is_positive_in : List Str := ["table", "minor"]
def tb_Sure___init__ (cl : Cl) : DTS := sOwnFld cl.Sure 0 0 (dVar 1)
def N_Sure___init__ : List Str := ["self", "table"]
def tb_table_told (cl : Cl) : DTS := sSeq (sIf (dTru (dIsiC cl.Sure [cl.Form, cl.Sure] (dVar 0))) (sRet (dFld cl.Sure 0 (dVar 0))) (sPass)) (sSeq (sIf (dOr (dNot (dTru (dCall 2 sp_is_table_of (aCons (xVal (dCall 1 sp_size_told (aCons (xVar 0) (aNil)))) (aCons (xVar 0) (aNil)))))) (dNot (dTru (dCall 1 sp_is_positive_in (aCons (xVar 0) (aNil)))))) (sNever) (sPass)) (sRet (dVar 0)))
def N_table_told : List Str := ["value"]
def tb_Form___init__ (cl : Cl) : DTS := sSeq (sOwnFld cl.Form 0 2 (dCall 1 (sp_table_told cl) (aCons (xVar 1) (aNil)))) (sSeq (sOwnFld cl.Form 0 1 (dCB fLen (vCons (dOwnFld cl.Form 0 2) (vNil)))) (sOwnFld cl.Form 0 0 (dCall 1 sp_determinant_of (aCons (xVal (dOwnFld cl.Form 0 2)) (aNil)))))
def N_Form___init__ : List Str := ["self", "table"]
def tb_Form_diagonal (cl : Cl) : DTS := sSeq (sIf (dOr (dTest (dOp (fIn true) (dCB fLen (vCons (dVar 1) (vNil))) (dC (.tup (([2, 3, 4] : List Int).map D.int))))) (dNot (dTru (dCB (fAllB fun bs => bs.all id) (vCons (dLc (iSeq (dVar 1)) (gN 4) (dYes) (dAndV (dCall 1 sp_is_integer (aCons (xVar 4) (aNil))) (dOp (fCmp fun i j => decide (j ≤ i)) (dVar 4) (dC (.int 1)))) [4]) (vNil)))))) (sNever) (sPass)) (sSeq (sAsg (dCB fRg1 (vCons (dCB fLen (vCons (dVar 1) (vNil))) (vNil))) (gN 2)) (sRet (dMakeL cl.Form 0 1 (sp_Form___init__ cl) (aCons (xVal (dCB fTuple (vCons (dLc (iRgv (dVar 2)) (gN 3) (dYes) (dCB fTuple (vCons (dLc (iRgv (dVar 2)) (gN 5) (dYes) (dIf (dTest (dOp fEq (dVar 3) (dVar 5))) (dOp fIx (dVar 1) (dVar 3)) (dC (.int 0))) [5]) (vNil))) [3]) (vNil)))) (aNil)))))
def N_Form_diagonal : List Str := ["cls", "numbers", "size", "at", "number", "place"]
def tb_Form_size (cl : Cl) : DTS := sRet (dFld cl.Form 1 (dVar 0))
def N_Form_size : List Str := ["self"]
def tb_Form_table (cl : Cl) : DTS := sRet (dFld cl.Form 2 (dVar 0))
def N_Form_table : List Str := ["self"]
def tb_Form_determinant (cl : Cl) : DTS := sRet (dFld cl.Form 0 (dVar 0))
def N_Form_determinant : List Str := ["self"]
def tb_Form_minors (cl : Cl) : DTS := sRet (dCall 1 sp_minors_in (aCons (xVal (dFld cl.Form 2 (dVar 0))) (aNil)))
def N_Form_minors : List Str := ["self"]
def tb_Form_adjoint (cl : Cl) : DTS := sRet (dCall 1 (sp_form_with cl) (aCons (xVal (dCall 1 sp_adjoint_of (aCons (xVal (dFld cl.Form 2 (dVar 0))) (aNil)))) (aNil)))
def N_Form_adjoint : List Str := ["self"]
def tb_Form_content (cl : Cl) : DTS := sRet (dCall 1 sp_content_in (aCons (xVal (dFld cl.Form 2 (dVar 0))) (aNil)))
def N_Form_content : List Str := ["self"]
def tb_Form_value (cl : Cl) : DTS := sSeq (sDrop (dCall 2 sp_require_row (aCons (xVal (dFld cl.Form 1 (dVar 0))) (aCons (xVar 1) (aNil))))) (sRet (dCall 2 sp_value_in (aCons (xVal (dFld cl.Form 2 (dVar 0))) (aCons (xVar 1) (aNil)))))
def N_Form_value : List Str := ["self", "row"]
def tb_Form_pairing (cl : Cl) : DTS := sSeq (sDrop (dCall 2 sp_require_row (aCons (xVal (dFld cl.Form 1 (dVar 0))) (aCons (xVar 1) (aNil))))) (sSeq (sDrop (dCall 2 sp_require_row (aCons (xVal (dFld cl.Form 1 (dVar 0))) (aCons (xVar 2) (aNil))))) (sRet (dCall 3 sp_pairing_in (aCons (xVal (dFld cl.Form 2 (dVar 0))) (aCons (xVar 1) (aCons (xVar 2) (aNil)))))))
def N_Form_pairing : List Str := ["self", "one", "other"]
def tb_Form_cleared (cl : Cl) : DTS := sRet (dCall 1 (sp_form_with cl) (aCons (xVal (dCall 1 sp_cleared_table (aCons (xVal (dFld cl.Form 2 (dVar 0))) (aNil)))) (aNil)))
def N_Form_cleared : List Str := ["self"]
def tb_Form___eq__ (cl : Cl) : DTS := sRet (dAndV (dIsiC cl.Form [cl.Form, cl.Sure] (dVar 1)) (dOp fEq (dFld cl.Form 2 (dVar 0)) (dFld cl.Form 2 (dVar 1))))
def N_Form___eq__ : List Str := ["self", "other"]
def tb_Form___len__ (cl : Cl) : DTS := sRet (dCB fLen (vCons (dFld cl.Form 2 (dVar 0)) (vNil)))
def N_Form___len__ : List Str := ["self"]
def tb_Form___str__ (cl : Cl) : DTS := sSeq (sAsg (dLc (iSeq (dFld cl.Form 2 (dVar 0))) (gN 2) (dYes) (dJoin (dC (.str " ")) (dLc (iSeq (dVar 2)) (gN 3) (dYes) (dCB fStrI (vCons (dVar 3) (vNil))) [3])) [2]) (gN 1)) (sRet (dJn2 (dC (.str "form ")) (dFmt (dJoin (dC (.str "/")) (dVar 1)))))
def N_Form___str__ : List Str := ["self", "lines", "row", "number"]
def tb_form_with (cl : Cl) : DTS := sRet (dMake cl.Form 1 (sp_Form___init__ cl) (aCons (xVal (dMake cl.Sure 1 (sp_Sure___init__ cl) (aCons (xVar 0) (aNil)))) (aNil)))
def N_form_with : List Str := ["table"]
def tb_content_in : DTS := sRet (dCall 1 sp_divisor_of (aCons (xVal (dLc2 (iSeq (dVar 0)) (gN 1) (dYes) (iSeq (dVar 1)) (gN 2) (dYes) (dVar 2) [1, 2] [2])) (aNil)))
def N_content_in : List Str := ["table", "row", "number"]
def tb_cleared_table : DTS := sSeq (sAsg (dCall 1 sp_content_in (aCons (xVar 0) (aNil))) (gN 1)) (sRet (dCB fTuple (vCons (dLc (iSeq (dVar 0)) (gN 2) (dYes) (dCB fTuple (vCons (dLc (iSeq (dVar 2)) (gN 3) (dYes) (dOp (fInt2 DivOk Int.fdiv) (dVar 3) (dVar 1)) [3]) (vNil))) [2]) (vNil))))
def N_cleared_table : List Str := ["table", "content", "row", "number"]
def tb_times_in : DTS := sRet (dCB fTuple (vCons (dLc (iSeq (dVar 0)) (gN 2) (dYes) (dCB fTuple (vCons (dLc (iSeq (dVar 2)) (gN 3) (dYes) (dOp fRep (dVar 1) (dVar 3)) [3]) (vNil))) [2]) (vNil)))
def N_times_in : List Str := ["table", "factor", "row", "number"]
def tb_l_common : DTS := sSeq (sAsg (dC (.int 0)) (gN 1)) (sSeq (sFor (iSeq (dVar 0)) (gN 2) (sSeq (sPar 3 4 (dVar 1) (dCB fAbs (vCons (dVar 2) (vNil)))) (sSeq (sWhile (dTest (dOp fNe (dVar 4) (dC (.int 0)))) (sPar 3 4 (dVar 4) (dOp (fInt2 (fun _ j => j ≠ 0) Int.fmod) (dCB fInt (vCons (dVar 3) (vNil))) (dVar 4)))) (sAsg (dVar 3) (gN 1))))) (sRet (dVar 1)))
def N_l_common : List Str := ["_law_numbers", "_law_found", "_law_number_here", "_law_one", "_law_other"]
def tb_l_content : DTS := sRet (dCall 1 sp_l_common (aCons (xVal (dLc (iSeq (dVar 0)) (gN 1) (dYes) (dCall 1 sp_l_common (aCons (xVar 1) (aNil))) [1])) (aNil)))
def N_l_content : List Str := ["_law_table", "_law_row"]
def tb_l_cleared : DTS := sSeq (sAsg (dCall 1 sp_l_content (aCons (xVar 0) (aNil))) (gN 1)) (sRet (dCB fTuple (vCons (dLc (iSeq (dVar 0)) (gN 2) (dYes) (dCB fTuple (vCons (dLc (iSeq (dVar 2)) (gN 3) (dYes) (dOp (fInt2 DivOk Int.fdiv) (dVar 3) (dVar 1)) [3]) (vNil))) [2]) (vNil))))
def N_l_cleared : List Str := ["_law_table", "_law_shared", "_law_row", "_law_number_here"]

local macro_rules | `(tactic| walk_at "ps") => `(tactic| simp only [sp_divisor_of, sp_sum_in, sp_corner_of, sp_minors_in, sp_is_positive_in, sp_Sure___init__, sp_table_told, sp_Form___init__, sp_form_with, sp_Form_diagonal, sp_Form_size, sp_Form_table, sp_Form_determinant, sp_Form_minors, sp_Form_adjoint, sp_Form_content, sp_Form_value, sp_Form_pairing, sp_Form_cleared, sp_Form___eq__, sp_Form___len__, sp_Form___str__, sp_content_in, sp_cleared_table, sp_times_in, sp_l_common, sp_l_content, sp_l_cleared, dFld, dOwnFld, sOwnFld, dMake, dMeth, dProp, dCMeth, dMakeL, dIsiC, dJoin, fJoin, dFmt, fFmt, dJn2, fRg1, iRgv, fOwn2, fOwnNe, fNotB, okY, fLenOwn, fStrOwn, fBinOwn, fBinInt, endsI, sNever, sWhile, fStrI, fIntS, fSlS, dSlS, sp_require_table, sp_pairing_in, sp_value_in, sp_table_led, sp_table_moved, sp_together_of, sp_require_moving, sp_led_table, sp_moved_table, sp_table_value, sp_together, sp_l_names, sp_l_told, sp_l_plain_rays, sp_l_summed, sp_l_begun, sp_l_positive, sp_l_wide, sp_l_pairing, sp_l_value, sp_l_led, sp_l_moved, sp_l_together, sp_l_plus, sp_l_is_positive, sp_is_whole, sp_is_integer, sp_is_row_of, sp_are_rows_of, sp_is_even, sp_is_table_of, sp_is_matrix_of, sp_require_size, sp_require_row, sp_require_matrix, sp_size_told, sp_without, sp_cofactor, sp_adjoint_of, sp_turned_over, sp_product_in, sp_dot, sp_unit_of, sp_back_in, sp_row_led, sp_row_normal, sp_square_of, sp_is_row, sp_is_table, sp_is_matrix, sp_unit_matrix, sp_matrix_product, sp_matrix_back, sp_normal_row, sp_square, sp_led_row, sp_l_bag, sp_l_grab, sp_l_one_of, sp_l_mixed, sp_l_size, sp_l_number, sp_l_some_row, sp_l_some_table, sp_l_matrix, sp_l_turned, sp_l_row_led, sp_l_product, sp_l_determinant, sp_l_adjoint, sp_l_back, sp_l_square, sp_l_normal, sp_l_is_whole, sp_l_are_rows, sp_l_is_table, sp_l_is_matrix, sp_l_is_short, sp_l_is_row_told, sp_l_near, sp_l_judged_right, sp_l_products_right, sSeq, sAsg, sPar, sRet, sRetN, sDrop, sPass, sIf, sRetL, sBag, sBagCall, gN, gT, gsC, gsN, dVar, xVar, xVal, dC, dOp, dNeg, dTest, dTru, dAnd, dOr, dNot, dAndV, dOrV, dNotV, dIf, dChain, vNil, vCons, aNil, aCons, dTup, dLst, dDic0, dCB, dCall, dIsi, dSl, oNone, oSome, dBag,  fAdd, fSub, fInt2, fCmp, fEq, fNe, fIn, fIsN, fRep, fLen, fAbs, f2I, fInt, fGcd, fTuple, fList, fIx, iSeq, iR1, dLc, dYes, endsOf, endsN, start0, List.map, List.append, List.replicate, List.length, List.cons_append, List.nil_append, List.set, List.getElem?_cons_zero, List.getElem?_cons_succ, Nat.reduceSub, Nat.reduceAdd, List.length_cons, List.length_nil, Nat.sub_self,  decide_eq_true_eq, decide_eq_false_iff_not, Bool.false_eq_true, reduceCtorEq, true_and, and_true, if_true, if_false, forall_const, false_implies, implies_true, true_implies, List.getElem?_nil, at0, at1, sFor, wipeD, Bool.not_eq_true', Bool.not_eq_false', Bool.not_true, Bool.not_false, iR2, iZp, iEnA, vStar, nLst, nLc, nList, sPar3, sOwn, sTupO, sParVO, sParOV, sOwnSet, sOwnApp, sOwnPair, putD, dOwnIx, dOwnLen, sFreeze, dLc2, fSl, fMax, fMin, fAnyT, List.map_nil, List.map_cons, Int.toNat_natCast])
variable {cl : Cl}
theorem gcdF_append (f : Int) (v w : List Int) : gcdF f (v ++ w) = gcdF (gcdF f v) w := by unfold gcdF; rw [List.foldl_append]
theorem rd_divisor_of : ∀ Ed ss Kd, ss.length = 1 → sp_divisor_of Ed ss Kd → tb_divisor_of (endsOf Kd noE) (start0 N_divisor_of ss) := by
  rintro Ed ss Kd hl ⟨v, rfl, h⟩
  unfold tb_divisor_of N_divisor_of
  refine seq_gg fun T hT => ?_
  walk_at "ps"
  subst hT
  refine seq_gg fun T hT => ?_
  walk_at "ps"
  have key : ∀ (ns : List Int) (f : Int) (o2 : Option Sl), (∀ o2, T (endsOf Kd noE) [some (.val (rL v)), some (.val (.int (gcdF f ns))), o2]) →
      forD (gN 2) (sAsg (dCB fGcd (vCons (dVar 1) (vCons (dVar 2) vNil))) (gN 1)) { endsOf Kd noE with nx := fun ρ' => T (endsOf Kd noE) ρ' } (ns.map D.int) [some (.val (rL v)), some (.val (.int f)), o2] := by
    intro ns
    induction ns with
    | nil => intro f o2 hh; exact hh o2
    | cons x ns ih =>
      intro f o2 hh
      rw [List.map_cons]
      unfold forD
      walk_at "ps"
      exact ih _ _ hh
  refine key v 0 none fun o2 => ?_
  subst hT
  walk_at "ps"
  exact h
theorem rd_corner_of : ∀ Ed ss Kd, ss.length = 2 → sp_corner_of Ed ss Kd → tb_corner_of (endsOf Kd noE) (start0 N_corner_of ss) := by
  rintro Ed ss Kd hl ⟨n, m, A, rfl, hA, hm, h1000, h⟩
  unfold tb_corner_of N_corner_of
  walk_at "ps"
  rw [cut_hi _ m (by rw [lenT hA]; exact hm), ← List.map_take]
  refine ⟨by simp only [List.length_map, List.length_take]; omega, lcD_m rT (fun r => rT (r.take m)) (A.take m) [] (fun r hr k hk => ?_) ?_⟩
  · walk_at "ps"
    rw [cut_hi _ m (by rw [List.length_map, hA.2 r (List.mem_of_mem_take hr)]; exact hm), ← List.map_take]
    exact hk
  · rw [List.nil_append]
    have es : ((A.take m).map fun r => rT (r.take m)) = (corner m A).map rT := by unfold corner; rw [List.map_map]; rfl
    rw [es]
    exact h
theorem rd_minors_in : ∀ Ed ss Kd, ss.length = 1 → sp_minors_in Ed ss Kd → tb_minors_in (endsOf Kd noE) (start0 N_minors_in ss) := by
  rintro Ed ss Kd hl ⟨n, A, rfl, hn, hA, hb, h⟩
  unfold tb_minors_in N_minors_in
  have n4 := hn.le
  walk_at "ps"
  rw [lenT hA, show (((n : Nat) : Int) + 1 - 1).toNat = n by omega, show (1 : Int) = ((1 : Nat) : Int) from rfl, rngK]
  refine ⟨by decide, by decide, by omega, by omega, by simp; omega, lcD_m _ (fun i : Nat => .int (detN (1 + i) (corner (1 + i) A))) (List.range n) [] (fun i hi k hk => ?_) ?_⟩
  · have hi := List.mem_range.mp hi
    walk_at "ps"
    exact ⟨n, 1 + i, A, rfl, hA, by omega, by omega, 1 + i, _, _, rfl, .inl rfl, (by omega : 1 + i ≤ 4), corner_rect hA (by omega), corner_bd hb, hk⟩
  · rw [List.nil_append]
    have es : ((List.range n).map fun i : Nat => D.int (detN (1 + i) (corner (1 + i) A))) = (minL n A).map D.int := by
      unfold minL
      rw [List.map_map]
      refine List.map_congr_left fun i _ => ?_
      simp only [Function.comp_def, Nat.add_comm 1 i]
    rw [es]
    exact h
theorem min_all (n : Nat) (A : Mx) : (minL n A).all (fun x => decide (0 < x)) = minB n A := by
  unfold minL minB
  rw [List.all_map]
  rfl
theorem rd_is_positive_in : ∀ Ed ss Kd, ss.length = 1 → sp_is_positive_in Ed ss Kd → tb_is_positive_in (endsOf Kd noE) (start0 N_is_positive_in ss) := by
  rintro Ed ss Kd hl ⟨n, A, rfl, hn, hA, hb, h⟩
  unfold tb_is_positive_in N_is_positive_in
  walk_at "ps"
  refine ⟨n, A, rfl, hn, hA, hb, by rw [List.length_map]; unfold minL; rw [List.length_map, List.length_range]; have := hn.le; omega, lcD_b D.int (fun x => decide (0 < x)) (minL n A) (fun x hx k hk => ?_) ?_⟩
  · walk_at "ps"
    exact hk
  · rw [all_id, min_all]
    exact h
theorem rd_Sure___init__ : ∀ Ed ss Kd y, ss.length = 1 → sp_Sure___init__ cl Ed ss Kd → tb_Sure___init__ cl (endsI cl.Sure y Kd fun _ => False) (start0 N_Sure___init__ (.own (.obj cl.Sure (some y) []) :: ss)) := by
  rintro Ed ss Kd y hl ⟨d, rfl, h⟩
  unfold tb_Sure___init__ N_Sure___init__
  walk_at "ps"
  exact ⟨rfl, h⟩
theorem rd_table_told : ∀ Ed ss Kd, ss.length = 1 → sp_table_told cl Ed ss Kd → tb_table_told cl (endsOf Kd noE) (start0 N_table_told ss) := by
  rintro Ed ss Kd hl (⟨A, rfl, h⟩ | ⟨n, A, rfl, hn, hA, hs, hp, h⟩)
  · unfold tb_table_told N_table_told So
    walk_at "ps"
    exact ⟨by simp, h, fun e => absurd trivial e⟩
  · unfold tb_table_told N_table_told
    have n4 := hn.le
    walk_at "ps"
    refine ⟨_, rfl, by rw [lenT hA.1]; exact hn, n, _, by rw [lenT hA.1], hn, cl2_mT (by omega) hA.1, fun e => ?_, fun e => ⟨n, A, rfl, hn, hA.1, hA.bd, fun e2 => ?_, fun _ => h⟩⟩
    · rw [tabB_of hA hs] at e; cases e
    · rw [(min_pos hn hA.1 hs).mpr hp] at e2; cases e2
theorem rd_Form___init__ : ∀ Ed ss Kd y, ss.length = 1 → sp_Form___init__ cl Ed ss Kd → tb_Form___init__ cl (endsI cl.Form y Kd fun _ => False) (start0 N_Form___init__ (.own (.obj cl.Form (some y) []) :: ss)) := by
  rintro Ed ss Kd y hl ⟨n, A, d, rfl, hn, hA, hb, hd, h⟩
  unfold tb_Form___init__ N_Form___init__
  have n4 := hn.le
  walk_at "ps"
  have next : sp_determinant_of noE [.val (mT A)] fun d => Kd [some d, some (.int (n : Nat)), some (mT A)] := ⟨n, A, _, rfl, .inl rfl, by omega, hA, hb, h⟩
  have fin : ∀ d : D, soleObj 0 [some (Sl.own (D.obj cl.Form (some y) (putD' 2 (mT A) []))), some (Sl.val d)] = true ∧ soleObj 0 [some (Sl.own (D.obj cl.Form (some y) (putD' 1 (.int ((A.map rT).length : Nat)) (putD' 2 (mT A) [])))), some (Sl.val d)] = true ∧
      sp_determinant_of noE [.val (mT A)] fun d => Kd [some d, some (.int ((A.map rT).length : Nat)), some (mT A)] := fun d => ⟨rfl, rfl, by rw [lenT hA]; exact next⟩
  rcases hd with rfl | ⟨rfl, hok, hs, hp⟩
  · exact ⟨rfl, .inl ⟨A, rfl, fin _⟩⟩
  · exact ⟨rfl, .inr ⟨n, A, rfl, hn, hok, hs, hp, fin _⟩⟩
theorem rd_form_with : ∀ Ed ss Kd, ss.length = 1 → sp_form_with cl Ed ss Kd → tb_form_with cl (endsOf Kd noE) (start0 N_form_with ss) := by
  rintro Ed ss Kd hl ⟨n, A, rfl, hn, hA, hb, h⟩
  unfold tb_form_with N_form_with
  walk_at "ps"
  exact ⟨_, rfl, n, A, _, rfl, hn, hA, hb, .inl rfl, h⟩
theorem rd_Form_size : ∀ Ed ss Kd, ss.length = 1 → sp_Form_size cl Ed ss Kd → tb_Form_size cl (endsOf Kd noE) (start0 N_Form_size ss) := by
  rintro Ed ss Kd hl ⟨n, A, rfl, h⟩
  exact ⟨rfl, h⟩
theorem rd_Form_table : ∀ Ed ss Kd, ss.length = 1 → sp_Form_table cl Ed ss Kd → tb_Form_table cl (endsOf Kd noE) (start0 N_Form_table ss) := by
  rintro Ed ss Kd hl ⟨n, A, rfl, h⟩
  exact ⟨rfl, h⟩
theorem rd_Form_determinant : ∀ Ed ss Kd, ss.length = 1 → sp_Form_determinant cl Ed ss Kd → tb_Form_determinant cl (endsOf Kd noE) (start0 N_Form_determinant ss) := by
  rintro Ed ss Kd hl ⟨n, A, rfl, h⟩
  exact ⟨rfl, h⟩
theorem rd_Form_minors : ∀ Ed ss Kd, ss.length = 1 → sp_Form_minors cl Ed ss Kd → tb_Form_minors cl (endsOf Kd noE) (start0 N_Form_minors ss) := by
  rintro Ed ss Kd hl ⟨n, A, rfl, hn, hA, hb, h⟩
  unfold tb_Form_minors N_Form_minors Fo
  walk_at "ps"
  exact ⟨n, A, rfl, hn, hA, hb, h⟩
theorem rd_Form_adjoint : ∀ Ed ss Kd, ss.length = 1 → sp_Form_adjoint cl Ed ss Kd → tb_Form_adjoint cl (endsOf Kd noE) (start0 N_Form_adjoint ss) := by
  rintro Ed ss Kd hl ⟨n, A, rfl, hn, hA, hb, hb2, h⟩
  unfold tb_Form_adjoint N_Form_adjoint Fo
  walk_at "ps"
  exact ⟨n, A, rfl, hn, hA, hb, n, adjM n A, rfl, hn, adj_rect n A, hb2, h⟩
theorem rd_Form_content : ∀ Ed ss Kd, ss.length = 1 → sp_Form_content cl Ed ss Kd → tb_Form_content cl (endsOf Kd noE) (start0 N_Form_content ss) := by
  rintro Ed ss Kd hl ⟨n, A, rfl, hn, hA, h⟩
  unfold tb_Form_content N_Form_content Fo
  walk_at "ps"
  exact ⟨n, A, rfl, hn, hA, h⟩
theorem rd_Form_value : ∀ Ed ss Kd, ss.length = 2 → sp_Form_value cl Ed ss Kd → tb_Form_value cl (endsOf Kd noE) (start0 N_Form_value ss) := by
  rintro Ed ss Kd hl ⟨n, A, v, rfl, hn, hA, hv, h⟩
  unfold tb_Form_value N_Form_value Fo
  walk_at "ps"
  exact ⟨n, v, rfl, hn, hv, n, A, v, rfl, hn, hA, hv, h⟩
theorem rd_Form_pairing : ∀ Ed ss Kd, ss.length = 3 → sp_Form_pairing cl Ed ss Kd → tb_Form_pairing cl (endsOf Kd noE) (start0 N_Form_pairing ss) := by
  rintro Ed ss Kd hl ⟨n, A, v, w, rfl, hn, hA, hv, hw, h⟩
  unfold tb_Form_pairing N_Form_pairing Fo
  walk_at "ps"
  exact ⟨n, v, rfl, hn, hv, n, w, rfl, hn, hw, n, A, v, w, rfl, hn, hA, hv, hw, h⟩
theorem flat_loop {n : Nat} {d0 : D} {K : D → Prop} : ∀ (l : Mx) (acc : List Int), (∀ r ∈ l, r.length ≤ 4) → acc.length + 4 * l.length ≤ 1000 → K (.lst ((acc ++ l.flatten).map D.int)) →
    lc2D (gN 1) dYes (iSeq (dVar 1)) (gN 2) dYes (dVar 2) [2] [some (.val d0), none, none] K (l.map rT) (acc.map D.int)
  | [], acc, _, _, h => by
    simp only [List.map_nil, lc2D]
    simpa using h
  | r :: l, acc, hl, hb, h => by
    have hr := hl r List.mem_cons_self
    simp only [List.map_cons, lc2D]
    walk_at "ps"
    simp only [List.length_map, List.length_cons] at hb ⊢
    refine ⟨rfl, by omega, lcI_m D.int D.int r _ (fun x hx k hk => ?_) ?_⟩
    · walk_at "ps"
      exact hk
    · rw [← List.map_append]
      exact flat_loop (n := n) l (acc ++ r) (fun q hq => hl q (List.mem_cons_of_mem _ hq)) (by rw [List.length_append]; omega) (by simpa using h)
theorem rd_content_in : ∀ Ed ss Kd, ss.length = 1 → sp_content_in Ed ss Kd → tb_content_in (endsOf Kd noE) (start0 N_content_in ss) := by
  rintro Ed ss Kd hl ⟨n, A, rfl, hn, hA, h⟩
  unfold tb_content_in N_content_in
  have n4 := hn.le
  walk_at "ps"
  refine ⟨rfl, flat_loop (n := n) A [] (fun r hr => by rw [hA.2 r hr]; exact n4) (by have := hA.1; simp; omega) ⟨A.flatten, by rw [List.nil_append], h⟩⟩
theorem gcdF_dvd : ∀ (v : List Int) (f : Int), gcdF f v ∣ f ∧ ∀ x ∈ v, gcdF f v ∣ x
  | [], f => ⟨Int.dvd_refl f, fun x hx => by simp at hx⟩
  | x :: v, f => by
    have ih := gcdF_dvd v ((Nat.gcd f.natAbs x.natAbs : Nat) : Int)
    have h1 : ((Nat.gcd f.natAbs x.natAbs : Nat) : Int) ∣ f := Int.gcd_dvd_left f x
    have h2 : ((Nat.gcd f.natAbs x.natAbs : Nat) : Int) ∣ x := Int.gcd_dvd_right f x
    exact ⟨Int.dvd_trans ih.1 h1, fun y hy => by
      rcases List.mem_cons.mp hy with rfl | hy
      · exact Int.dvd_trans ih.1 h2
      · exact ih.2 y hy⟩
theorem gcdF_nn : ∀ (v : List Int) (f : Int), 0 ≤ f → 0 ≤ gcdF f v
  | [], f, h => h
  | x :: v, f, _ => gcdF_nn v _ (Int.natCast_nonneg _)
theorem gcdF_le {f : Int} {v : List Int} {b : Nat} (hb : ∀ x ∈ v, x.natAbs < 2 ^ b) (hf : f = 0) : (gcdF f v).natAbs < 2 ^ b ∨ gcdF f v = 0 := by
  by_cases e : ∃ x ∈ v, x ≠ 0
  · obtain ⟨x, hx, hne⟩ := e
    have := Int.natAbs_dvd_natAbs.mpr ((gcdF_dvd v f).2 x hx)
    exact .inl (Nat.lt_of_le_of_lt (Nat.le_of_dvd (by omega) this) (hb x hx))
  · refine .inr ?_
    subst hf
    have : ∀ w : List Int, (∀ x ∈ w, x = 0) → gcdF 0 w = 0 := by
      intro w
      induction w with
      | nil => intro _; rfl
      | cons y w ih =>
        intro h
        have e0 : y = 0 := h y List.mem_cons_self
        subst e0
        exact ih fun x hx => h x (List.mem_cons_of_mem _ hx)
    exact this v fun x hx => by
      by_cases z : x = 0
      · exact z
      · exact absurd ⟨x, hx, z⟩ e
theorem cont_bd {b : Nat} {A : Mx} (h : bdM b A) : (contM A).natAbs < 2 ^ b := by
  rcases gcdF_le (f := 0) (v := A.flatten) (b := b) (fun x hx => by
    obtain ⟨r, hr, hx⟩ := List.mem_flatten.mp hx
    exact h r hr x hx) rfl with h | h
  · exact h
  · unfold contM
    rw [h]
    exact Nat.pow_pos (by decide)
theorem lg_lt {x : Int} {b c : Nat} (h : x.natAbs < 2 ^ b) (hc : b < c) : x.natAbs.log2 < c := by
  rcases Nat.eq_zero_or_pos x.natAbs with z | z
  · rw [z]
    exact Nat.lt_of_le_of_lt (by decide : Nat.log2 0 ≤ 0) (by omega)
  · exact Nat.lt_trans ((Nat.log2_lt (by omega)).mpr h) hc
theorem rd_cleared_table : ∀ Ed ss Kd, ss.length = 1 → sp_cleared_table Ed ss Kd → tb_cleared_table (endsOf Kd noE) (start0 N_cleared_table ss) := by
  rintro Ed ss Kd hl ⟨n, A, rfl, hn, hA, hb, h0, h⟩
  unfold tb_cleared_table N_cleared_table
  have n4 := hn.le
  refine seq_gg fun T hT => ?_
  walk_at "ps"
  refine ⟨n, A, rfl, hn, hA, ?_⟩
  subst hT
  walk_at "ps"
  refine ⟨by rw [lenT hA]; omega, lcD_m rT (fun r => rT (r.map fun x => x.fdiv (contM A))) A [] (fun r hr k hk => ?_) ?_⟩
  · walk_at "ps"
    refine ⟨by rw [List.length_map, hA.2 r hr]; omega, lcD_m D.int (fun x => .int (x.fdiv (contM A))) r [] (fun x hx k2 hk2 => ?_) ?_⟩
    · walk_at "ps"
      exact ⟨⟨h0, lg_lt (cont_bd hb) (by decide)⟩, hk2⟩
    · rw [List.nil_append]
      have : (r.map fun x => D.int (x.fdiv (contM A))) = (r.map fun x => x.fdiv (contM A)).map D.int := by rw [List.map_map]; rfl
      rw [this]
      exact hk
  · rw [List.nil_append]
    have : (A.map fun r => rT (r.map fun x => x.fdiv (contM A))) = (clearM A).map rT := by unfold clearM; rw [List.map_map]; rfl
    rw [this]
    exact h
theorem fdiv_le (x c : Int) : (x.fdiv c).natAbs ≤ x.natAbs + 1 := fdiv_abs x c
theorem clear_rect {n : Nat} {A : Mx} (hA : rectM n A) : rectM n (clearM A) := by
  refine ⟨by unfold clearM; rw [List.length_map, hA.1], fun r hr => ?_⟩
  obtain ⟨q, hq, rfl⟩ := List.mem_map.mp hr
  rw [List.length_map, hA.2 q hq]
theorem clear_exact {A : Mx} {r : List Int} (hr : r ∈ A) {x : Int} (hx : x ∈ r) (h0 : contM A ≠ 0) : contM A * x.fdiv (contM A) = x := by
  obtain ⟨k, hk⟩ := (gcdF_dvd A.flatten 0).2 x (List.mem_flatten.mpr ⟨r, hr, hx⟩)
  have hk : x = contM A * k := hk
  rw [hk, Int.mul_fdiv_cancel_left _ h0]
theorem clear_bd {b : Nat} {A : Mx} (h : bdM b A) (h0 : contM A ≠ 0) : bdM b (clearM A) := by
  intro r hr x hx
  obtain ⟨q, hq, rfl⟩ := List.mem_map.mp hr
  obtain ⟨y, hy, rfl⟩ := List.mem_map.mp hx
  have e := clear_exact hq hy h0
  refine Nat.lt_of_le_of_lt ?_ (h q hq y hy)
  have e2 : y.natAbs = (contM A).natAbs * (y.fdiv (contM A)).natAbs := by rw [← Int.natAbs_mul, e]
  rw [e2]
  exact Nat.le_mul_of_pos_left _ (by omega)
theorem rd_Form_cleared : ∀ Ed ss Kd, ss.length = 1 → sp_Form_cleared cl Ed ss Kd → tb_Form_cleared cl (endsOf Kd noE) (start0 N_Form_cleared ss) := by
  rintro Ed ss Kd hl ⟨n, A, rfl, hn, hA, hb, h0, h⟩
  unfold tb_Form_cleared N_Form_cleared Fo
  walk_at "ps"
  exact ⟨n, A, rfl, hn, hA, hb, h0, n, clearM A, rfl, hn, clear_rect hA, clear_bd hb h0, h⟩
theorem rd_Form___eq__ : ∀ Ed ss Kd, ss.length = 2 → sp_Form___eq__ cl Ed ss Kd → tb_Form___eq__ cl (endsOf Kd noE) (start0 N_Form___eq__ ss) := by
  rintro Ed ss Kd hl ⟨n, A, d, rfl, h⟩
  unfold tb_Form___eq__ N_Form___eq__ Fo
  rcases h with ⟨m, B, rfl, h⟩ | ⟨hd, h⟩
  · unfold Fo
    walk_at "ps"
    refine ⟨by simp, ⟨flat_mT A, flat_mT B, ?_⟩, fun e => absurd trivial e⟩
    rw [eqv_mT]
    exact h
  · cases d with
    | obj _ _ _ => cases hd
    | cls _ => cases hd
    | rng _ _ => cases hd
    | scr _ => cases hd
    | _ =>
      walk_at "ps"
      exact h
theorem rd_Form___len__ : ∀ Ed ss Kd, ss.length = 1 → sp_Form___len__ cl Ed ss Kd → tb_Form___len__ cl (endsOf Kd noE) (start0 N_Form___len__ ss) := by
  rintro Ed ss Kd hl ⟨n, A, rfl, hn, hA, h⟩
  unfold tb_Form___len__ N_Form___len__ Fo
  walk_at "ps"
  rw [lenT hA]
  exact h

variable {cl : Cl}
theorem rd_times_in : ∀ Ed ss Kd, ss.length = 2 → sp_times_in Ed ss Kd → tb_times_in (endsOf Kd noE) (start0 N_times_in ss) := by
  rintro Ed ss Kd hl ⟨n, A, m, rfl, hn, hA, hb, hm, h⟩
  unfold tb_times_in N_times_in
  have n4 := hn.le
  walk_at "ps"
  refine ⟨by rw [lenT hA]; omega, lcD_m rT (fun r => rT (sgR m r)) A [] (fun r hr k hk => ?_) ?_⟩
  · walk_at "ps"
    refine ⟨by rw [List.length_map, hA.2 r hr]; omega, lcD_m D.int (fun x => .int (m * x)) r [] (fun x hx k2 hk2 => ?_) ?_⟩
    · walk_at "ps"
      exact ⟨mul_ok hm (hb r hr x hx) (by decide), hk2⟩
    · rw [List.nil_append]
      have : (r.map fun x => D.int (m * x)) = (sgR m r).map D.int := by unfold sgR; rw [List.map_map]; rfl
      rw [this]
      exact hk
  · rw [List.nil_append]
    have : (A.map fun r => rT (sgR m r)) = (timesM m A).map rT := by unfold timesM; rw [List.map_map]; rfl
    rw [this]
    exact h
theorem len_num (i : Int) (h : i.natAbs.log2 < 1920) : (numS i).length ≤ 1921 := by
  have e := int_text_length_le (k := 1920) (by decide) h
  show (Str.ofString (toString i)).length ≤ 1921
  rw [PySem.ofString_length]
  exact e
theorem strs_map {α : Type} (f : α → Str) : ∀ l : List α, strsD (l.map fun a => D.str (f a)) = some (l.map f)
  | [] => rfl
  | a :: l => by
    show (strsD (l.map fun a => D.str (f a))).map (f a :: ·) = _
    rw [strs_map f l]
    rfl
theorem sum_le (B : Nat) : ∀ l : List Nat, (∀ x ∈ l, x ≤ B) → l.sum ≤ l.length * B
  | [], _ => by simp
  | x :: l, h => by
    have := sum_le B l fun y hy => h y (List.mem_cons_of_mem _ hy)
    have h1 := h x List.mem_cons_self
    rw [List.sum_cons, List.length_cons, Nat.add_mul]
    omega
theorem join_len (s : Str) : ∀ l : List Str, (Str.join s l).length ≤ (l.map (·.length)).sum + l.length * s.length
  | [] => by show Str.empty.length ≤ _; exact Nat.zero_le _
  | [x] => by show x.length ≤ _; simp
  | x :: y :: l => by
    show (x ++ s ++ Str.join s (y :: l)).length ≤ _
    have ih := join_len s (y :: l)
    rw [Str.length_append, Str.length_append, List.map_cons, List.sum_cons, List.length_cons, Nat.add_mul]
    omega
theorem row_len {r : List Int} (hr : r.length ≤ 4) (h : ∀ x ∈ r, x.natAbs.log2 < 1920) : (Txt.join (Str.ofString " ") (r.map numS)).length ≤ 8000 := by
  rw [show Txt.join (Str.ofString " ") (r.map numS) = Str.join (Str.ofString " ") (r.map numS) from TL.join_eq _ _]
  refine Nat.le_trans (join_len _ _) ?_
  have := sum_le 1921 ((r.map numS).map (·.length)) (fun y hy => by
    obtain ⟨z, hz, rfl⟩ := List.mem_map.mp hy
    obtain ⟨x, hx, rfl⟩ := List.mem_map.mp hz
    exact len_num x (h x hx))
  have e : (Str.ofString " ").length = 1 := by decide +kernel
  rw [e]
  simp only [List.length_map] at this ⊢
  have : r.length * 1921 ≤ 4 * 1921 := Nat.mul_le_mul_right _ hr
  omega
theorem lines_read {n : Nat} {A : Mx} (n4 : n ≤ 4) (hA : rectM n A) (hl : ∀ r ∈ A, ∀ x ∈ r, x.natAbs.log2 < 1920) {i j : Nat} (hij : i ≠ j) {N : Nat} {ρ : Ev} (hi : i < ρ.length) (hj : j < ρ.length) {K : D → Prop}
    (h : K (.lst (A.map fun r => .str (Txt.join (Str.ofString " ") (r.map numS))))) :
    lcD (gN i) dYes (dJoin (dC (.str " ")) (dLc (iSeq (dVar i)) (gN j) dYes (dCB fStrI (vCons (dVar j) vNil)) [j])) ρ K (A.map rT) [] := by
  refine lcD_m rT (fun r => .str (Txt.join (Str.ofString " ") (r.map numS))) A [] (fun r hr k hk => ?_) (by simpa using h)
  walk_at "ps"
  rw [List.getElem?_set_self hi]
  show _ ∧ _
  refine ⟨by rw [List.length_map, hA.2 r hr]; omega, ?_⟩
  refine lcD_m D.int (fun x => .str (numS x)) r [] (fun x hx k2 hk2 => ?_) ?_
  · walk_at "ps"
    rw [List.getElem?_set_self (by simp; exact hj)]
    exact ⟨hl r hr x hx, hk2⟩
  · rw [List.nil_append]
    refine ⟨r.map numS, strs_map numS r, ?_, hk⟩
    have := sum_le 1921 ((r.map numS).map (·.length)) (fun y hy => by
      obtain ⟨z, hz, rfl⟩ := List.mem_map.mp hy
      obtain ⟨x, hx, rfl⟩ := List.mem_map.mp hz
      exact len_num x (hl r hr x hx))
    have e : (Str.ofString " ").length = 1 := by decide +kernel
    rw [e]
    simp only [List.length_map] at this ⊢
    have h4 : r.length ≤ 4 := by rw [hA.2 r hr]; exact n4
    have : r.length * 1921 ≤ 4 * 1921 := Nat.mul_le_mul_right _ h4
    omega
theorem lines_ok {n : Nat} {A : Mx} (n4 : n ≤ 4) (hA : rectM n A) (hl : ∀ r ∈ A, ∀ x ∈ r, x.natAbs.log2 < 1920) :
    strsD (A.map fun r => D.str (Txt.join (Str.ofString " ") (r.map numS))) = some (A.map fun r => Txt.join (Str.ofString " ") (r.map numS)) ∧
    ((A.map fun r => Txt.join (Str.ofString " ") (r.map numS)).map (·.length)).sum + (A.map fun r => Txt.join (Str.ofString " ") (r.map numS)).length * (Str.ofString "/").length ≤ 32004 := by
  refine ⟨strs_map _ A, ?_⟩
  have := sum_le 8000 ((A.map fun r => Txt.join (Str.ofString " ") (r.map numS)).map (·.length)) (fun y hy => by
    obtain ⟨z, hz, rfl⟩ := List.mem_map.mp hy
    obtain ⟨r, hr, rfl⟩ := List.mem_map.mp hz
    exact row_len (by rw [hA.2 r hr]; exact n4) (hl r hr))
  have e : (Str.ofString "/").length = 1 := by decide +kernel
  rw [e]
  simp only [List.length_map] at this ⊢
  have h4 : A.length ≤ 4 := by rw [hA.1]; exact n4
  have : A.length * 8000 ≤ 4 * 8000 := Nat.mul_le_mul_right _ h4
  omega
theorem isI_log {x : Int} (h : isI (.int x) = true) : x.natAbs.log2 < 1920 := lg_lt (isI_lt h) (by decide)
theorem rd_Form___str__ : ∀ Ed ss Kd, ss.length = 1 → sp_Form___str__ cl Ed ss Kd → tb_Form___str__ cl (endsOf Kd noE) (start0 N_Form___str__ ss) := by
  rintro Ed ss Kd hl ⟨n, A, rfl, hn, hA, h⟩
  unfold tb_Form___str__ N_Form___str__ Fo
  have n4 := hn.le
  have lg : ∀ r ∈ A, ∀ x ∈ r, x.natAbs.log2 < 1920 := fun r hr x hx => isI_log (hA.2 r hr x hx)
  refine seq_gg fun T hT => ?_
  walk_at "ps"
  refine ⟨by rw [lenT hA.1]; omega, ?_⟩
  refine lines_read (N := 4) n4 hA.1 lg (by decide) (by show 2 < 4; decide) (by show 3 < 4; decide) ?_
  subst hT
  obtain ⟨l1, l2⟩ := lines_ok n4 hA.1 lg
  walk_at "ps"
  have jl : (Txt.join (Str.ofString "/") (A.map fun r => Txt.join (Str.ofString " ") (r.map numS))).length ≤ 32004 := by
    rw [show Txt.join (Str.ofString "/") (A.map fun r => Txt.join (Str.ofString " ") (r.map numS)) = Str.join (Str.ofString "/") (A.map fun r => Txt.join (Str.ofString " ") (r.map numS)) from TL.join_eq _ _]
    exact Nat.le_trans (join_len _ _) l2
  have e5 : (Str.ofString "form ").length = 5 := by decide +kernel
  rw [e5]
  exact ⟨by decide, _, l1, Nat.le_trans l2 (by decide), by omega, by omega, h⟩
theorem gcd_step {x y : Int} (hx : 0 ≤ x) (hy : 0 < y) : Nat.gcd y.natAbs (x.fmod y).natAbs = Nat.gcd x.natAbs y.natAbs := by
  rw [Int.fmod_eq_emod_of_nonneg x (by omega), Int.natAbs_emod_of_nonneg hx, Nat.gcd_comm x.natAbs y.natAbs, Nat.gcd_rec y.natAbs x.natAbs, Nat.gcd_comm]
def eucB : DTS := sWhile (dTest (dOp fNe (dVar 4) (dC (.int 0)))) (sPar 3 4 (dVar 4) (dOp (fInt2 (fun _ j => j ≠ 0) Int.fmod) (dCB fInt (vCons (dVar 3) (vNil))) (dVar 4)))
theorem euclid2 (E : ES) (s0 s1 s2 : Option Sl) (f n : Int) (h0 : 0 ≤ f) (hE : ∀ o4, E.nx [s0, s1, s2, some (.val (.int (Nat.gcd f.natAbs n.natAbs : Nat))), o4]) :
    eucB E [s0, s1, s2, some (.val (.int f)), some (.val (.int (if n < 0 then -n else n)))] := by
  unfold eucB
  refine ⟨fun m ρ => ∃ x y : Int, ρ = [s0, s1, s2, some (.val (.int x)), some (.val (.int y))] ∧ 0 ≤ x ∧ 0 ≤ y ∧ m = y.toNat ∧ Nat.gcd x.natAbs y.natAbs = Nat.gcd f.natAbs n.natAbs, ⟨_, f, _, rfl, h0, by split <;> omega, rfl, ?_⟩, ?_⟩
  · split
    · rw [Int.natAbs_neg]
    · rfl
  · rintro m ρ ⟨x, y, rfl, hx, hy, rfl, hg⟩
    walk_at "ps"
    refine ⟨fun h => ?_, fun h => ⟨h, ?_⟩⟩
    · have ey : y = 0 := by omega
      subst ey
      have : Nat.gcd f.natAbs n.natAbs = x.natAbs := by rw [← hg]; simp
      have ex : ((Nat.gcd f.natAbs n.natAbs : Nat) : Int) = x := by omega
      have z := hE (some (.val (.int 0)))
      rw [ex] at z
      exact z
    · have hy' : 0 < y := by omega
      have hm0 : 0 ≤ x.fmod y := by rw [Int.fmod_eq_emod_of_nonneg x hy]; exact Int.emod_nonneg _ (by omega)
      have hm1 : x.fmod y < y := by rw [Int.fmod_eq_emod_of_nonneg x hy]; exact Int.emod_lt_of_pos _ hy'
      exact ⟨(x.fmod y).toNat, by omega, y, x.fmod y, rfl, hy, hm0, rfl, by rw [gcd_step hx hy']; exact hg⟩
theorem com_loop (E : ES) (d : D) : ∀ (ns : List Int) (f : Int) (o2 o3 o4 : Option Sl), 0 ≤ f → (∀ o2 o3 o4, E.nx [some (.val d), some (.val (.int (gcdF f ns))), o2, o3, o4]) →
    forD (gN 2) (sSeq (sPar 3 4 (dVar 1) (dCB fAbs (vCons (dVar 2) (vNil)))) (sSeq eucB (sAsg (dVar 3) (gN 1)))) E (ns.map D.int) [some (.val d), some (.val (.int f)), o2, o3, o4]
  | [], f, o2, o3, o4, _, h => h o2 o3 o4
  | n :: ns, f, o2, o3, o4, h0, h => by
    show forD _ _ _ (.int n :: ns.map D.int) _
    unfold forD
    refine seq_gg fun T hT => ?_
    walk_at "ps"
    subst hT
    refine euclid2 _ _ _ _ f n h0 fun o4 => ?_
    walk_at "ps"
    exact com_loop E d ns _ _ _ _ (Int.natCast_nonneg _) h
theorem rd_l_common : ∀ Ed ss Kd, ss.length = 1 → sp_l_common Ed ss Kd → tb_l_common (endsOf Kd noE) (start0 N_l_common ss) := by
  rintro Ed ss Kd hl ⟨v, h0, h⟩
  obtain ⟨d, rfl, hd⟩ : ∃ d, ss = [.val d] ∧ (d = rL v ∨ d = rT v) := h0.elim (fun e => ⟨_, e, .inl rfl⟩) fun e => ⟨_, e, .inr rfl⟩
  unfold tb_l_common N_l_common
  refine seq_gg fun T hT => ?_
  walk_at "ps"
  subst hT
  refine seq_gg fun T hT => ?_
  have fin : ∀ o2 o3 o4, T (endsOf Kd noE) [some (.val d), some (.val (.int (gcdF 0 v))), o2, o3, o4] := fun o2 o3 o4 => by
    subst hT
    walk_at "ps"
    exact h
  rcases hd with rfl | rfl
  · exact com_loop _ _ v 0 none none none (by decide) fin
  · exact com_loop _ _ v 0 none none none (by decide) fin
theorem gcdF_gcd : ∀ (v : List Int) (f : Int), 0 ≤ f → gcdF f v = ((Nat.gcd f.natAbs (gcdF 0 v).natAbs : Nat) : Int)
  | [], f, h => by
    show f = ((Nat.gcd f.natAbs (0 : Int).natAbs : Nat) : Int)
    simp
    omega
  | x :: v, f, h => by
    have e1 : gcdF f (x :: v) = gcdF ((Nat.gcd f.natAbs x.natAbs : Nat) : Int) v := rfl
    have e2 : gcdF 0 (x :: v) = gcdF ((Nat.gcd (0 : Int).natAbs x.natAbs : Nat) : Int) v := rfl
    rw [e1, e2, gcdF_gcd v _ (Int.natCast_nonneg _), gcdF_gcd v ((Nat.gcd (0 : Int).natAbs x.natAbs : Nat) : Int) (Int.natCast_nonneg _)]
    simp [Nat.gcd_assoc]
theorem gcdF_rows : ∀ (A : Mx) (f : Int), 0 ≤ f → gcdF f (A.map (gcdF 0)) = gcdF f A.flatten
  | [], f, _ => rfl
  | r :: A, f, h => by
    rw [List.flatten_cons, gcdF_append, List.map_cons]
    have e : gcdF f (gcdF 0 r :: A.map (gcdF 0)) = gcdF ((Nat.gcd f.natAbs (gcdF 0 r).natAbs : Nat) : Int) (A.map (gcdF 0)) := rfl
    rw [e, gcdF_rows A _ (Int.natCast_nonneg _), ← gcdF_gcd r f h]
theorem rd_l_content : ∀ Ed ss Kd, ss.length = 1 → sp_l_content Ed ss Kd → tb_l_content (endsOf Kd noE) (start0 N_l_content ss) := by
  rintro Ed ss Kd hl ⟨n, A, rfl, hn, hA, h⟩
  unfold tb_l_content N_l_content
  have n4 := hn.le
  walk_at "ps"
  refine ⟨by rw [lenT hA]; omega, lcD_m rT (fun r => .int (gcdF 0 r)) A [] (fun r hr k hk => ?_) ?_⟩
  · walk_at "ps"
    exact ⟨r, .inr rfl, hk⟩
  · rw [List.nil_append]
    refine ⟨A.map (gcdF 0),   .inl (by show _ = [Sl.val (D.lst ((A.map (gcdF 0)).map D.int))]; rw [List.map_map]; rfl), ?_⟩
    rw [gcdF_rows A 0 (Int.le_refl 0)]
    exact h
theorem rd_l_cleared : ∀ Ed ss Kd, ss.length = 1 → sp_l_cleared Ed ss Kd → tb_l_cleared (endsOf Kd noE) (start0 N_l_cleared ss) := by
  rintro Ed ss Kd hl ⟨n, A, rfl, hn, hA, hb, h0, h⟩
  exact rd_cleared_table Ed [.val (mT A)] Kd rfl ⟨n, A, rfl, hn, hA, hb, h0, h⟩
theorem diag_rect (xs : List Int) : rectM xs.length (diagM xs) := by
  refine ⟨by unfold diagM; rw [List.length_map, List.length_range], fun r hr => ?_⟩
  obtain ⟨i, _, rfl⟩ := List.mem_map.mp hr
  rw [List.length_map, List.length_range]
theorem diag_pos {xs : List Int} (hn : sz xs.length) (h : ∀ x ∈ xs, 1 ≤ x) : PDf xs.length (diagM xs) ∧ symM (diagM xs) := by
  have hs : symM (diagM xs) := by
    rcases hn with e | e | e
    · obtain ⟨a, b, rfl⟩ := len2 e; rfl
    · obtain ⟨a, b, c, rfl⟩ := len3 e; rfl
    · obtain ⟨a, b, c, d, rfl⟩ := len4 e; rfl
  refine ⟨(min_pos hn (diag_rect xs) hs).mp ?_, hs⟩
  rcases hn with e | e | e
  · obtain ⟨a, b, rfl⟩ := len2 e
    have ha := h a (by simp)
    have hb := h b (by simp)
    show minB 2 [[a, 0], [0, b]] = true
    rw [min2]
    exact ⟨by omega, by have := Int.mul_pos (show 0 < a by omega) (show 0 < b by omega); omega⟩
  · obtain ⟨a, b, c, rfl⟩ := len3 e
    have ha := h a (by simp)
    have hb := h b (by simp)
    have hc := h c (by simp)
    show minB 3 [[a, 0, 0], [0, b, 0], [0, 0, c]] = true
    rw [min3]
    have h2 := Int.mul_pos (show 0 < a by omega) (show 0 < b by omega)
    have h3 := Int.mul_pos h2 (show 0 < c by omega)
    refine ⟨by omega, by omega, ?_⟩
    have : d3 a 0 0 b 0 c = a * b * c := by unfold d3; grind
    omega
  · obtain ⟨a, b, c, d, rfl⟩ := len4 e
    have ha := h a (by simp)
    have hb := h b (by simp)
    have hc := h c (by simp)
    have hd := h d (by simp)
    show minB 4 [[a, 0, 0, 0], [0, b, 0, 0], [0, 0, c, 0], [0, 0, 0, d]] = true
    rw [min4]
    have h2 := Int.mul_pos (show 0 < a by omega) (show 0 < b by omega)
    have h3 := Int.mul_pos h2 (show 0 < c by omega)
    have h4 := Int.mul_pos h3 (show 0 < d by omega)
    refine ⟨by omega, by omega, ?_, ?_⟩
    · have : d3 a 0 0 b 0 c = a * b * c := by unfold d3; grind
      omega
    · have : d4 a 0 0 0 b 0 0 c 0 d = a * b * c * d := by unfold d4; grind
      omega
theorem allVal_ints : ∀ xs : List Int, allVal (xs.map fun x => Sl.val (.int x)) = true
  | [] => rfl
  | _ :: xs => allVal_ints xs
theorem slD_ints : ∀ xs : List Int, slD (xs.map fun x => Sl.val (.int x)) = xs.map D.int
  | [] => rfl
  | x :: xs => congrArg (D.int x :: ·) (slD_ints xs)
theorem rd_Form_diagonal : ∀ Ed ss Kd, sp_Form_diagonal cl Ed ss Kd → ∃ s0 rest, ss = s0 :: rest ∧ allVal rest = true ∧ tb_Form_diagonal cl (endsOf Kd fun _ => False) (start0 N_Form_diagonal [s0, .val (.tup (slD rest))]) := by
  rintro Ed ss Kd ⟨xs, rfl, hn, hx, h⟩
  refine ⟨_, _, rfl, allVal_ints xs, ?_⟩
  rw [slD_ints]
  have n4 := hn.le
  unfold tb_Form_diagonal N_Form_diagonal
  refine seq_gg fun T hT => ?_
  have s1 : T (endsOf Kd fun _ => False) [some (.val (.cls cl.Form)), some (.val (rT xs)), none, none, none, none] := by
    subst hT
    walk_at "ps"
    have en : (((xs.map D.int).length : Nat) : Int) = ((xs.length : Nat) : Int) := by rw [List.length_map]
    rw [en, Int.sub_zero, Int.toNat_natCast, rng0]
    refine ⟨⟨by decide, by decide, by omega, by omega⟩, by simp; omega, lcD_m _ (fun i : Nat => .tup ((List.range xs.length).map fun j => .int (if i = j then xs.getD i 0 else 0))) (List.range xs.length) [] (fun i hi k hk => ?_) ?_⟩
    · have hi := List.mem_range.mp hi
      walk_at "ps"
      rw [Int.sub_zero, Int.toNat_natCast, rng0]
      refine ⟨⟨by decide, by decide, by omega, by omega⟩, by simp; omega, lcD_m _ (fun j : Nat => .int (if i = j then xs.getD i 0 else 0)) (List.range xs.length) [] (fun j hj k2 hk2 => ?_) (by simpa using hk)⟩
      walk_at "ps"
      have e : ((i : Int) = (j : Int)) ↔ i = j := by omega
      rw [ixV hi]
      refine ⟨fun z => ?_, fun z => ?_⟩
      · rw [if_pos (e.mp z)] at hk2
        exact hk2
      · rw [if_neg (fun y => z (e.mpr y))] at hk2
        exact hk2
    · rw [List.nil_append]
      have ed : D.tup ((List.range xs.length).map fun i : Nat => .tup ((List.range xs.length).map fun j => .int (if i = j then xs.getD i 0 else 0))) = mT (diagM xs) := by
        simp [rT, mT, diagM, List.map_map, Function.comp_def]
      obtain ⟨hp, hs⟩ := diag_pos hn fun x hxx => (hx x hxx).1
      have hok : okM xs.length (diagM xs) := okM_le (diag_rect xs) (b := 1000) (by
        intro r hr x hxr
        obtain ⟨i, hi, rfl⟩ := List.mem_map.mp hr
        obtain ⟨j, hj, rfl⟩ := List.mem_map.mp hxr
        split
        · have hi := List.mem_range.mp hi
          have e : xs.getD i 0 ∈ xs := by simp [List.getD, List.getElem?_eq_getElem hi]
          have := hx _ e
          omega
        · decide) (by decide)
      exact ⟨xs.length, diagM xs, _, rfl, hn, diag_rect xs, hok.bd, .inr ⟨ed, hok, hs, hp⟩, h⟩
  walk_at "ps"
  have en : (((xs.map D.int).length : Nat) : Int) = ((xs.length : Nat) : Int) := by rw [List.length_map]
  rw [en]
  refine ⟨rfl, rfl, fun e => ?_, fun _ => ⟨by rw [List.length_map]; omega, lcD_b D.int (fun _ => true) xs (fun x hxx k hk => ?_) ?_⟩⟩
  · have z := szIn hn
    have q : ([D.int 2, D.int 3, D.int 4].any fun e => e.eqv1 (D.int (xs.length : Nat))) = true := z
    rw [q] at e
    cases e
  · walk_at "ps"
    have h1 := hx x hxx
    refine ⟨_, rfl, rfl, ?_⟩
    rw [isI_of (by omega)]
    rw [decide_eq_true h1.1]
    exact ⟨fun _ => hk, fun e => nomatch e⟩
  · have : (xs.map fun _ => true).all id = true := by simp
    rw [this]
    exact ⟨(fun e => nomatch e), fun _ => s1⟩

/-! ### plain mathematics -/
theorem gcdF_scale {g : Int} (hg : 0 ≤ g) : ∀ (v : List Int) (f : Int), 0 ≤ f → gcdF (g * f) (v.map (g * ·)) = g * gcdF f v
  | [], f, _ => rfl
  | x :: v, f, h => by
    have e : gcdF (g * f) ((x :: v).map (g * ·)) = gcdF ((Nat.gcd (g * f).natAbs (g * x).natAbs : Nat) : Int) (v.map (g * ·)) := rfl
    have e2 : ((Nat.gcd (g * f).natAbs (g * x).natAbs : Nat) : Int) = g * ((Nat.gcd f.natAbs x.natAbs : Nat) : Int) := by
      rw [Int.natAbs_mul, Int.natAbs_mul, Nat.gcd_mul_left, Int.natCast_mul]
      congr 1
      omega
    rw [e, e2, gcdF_scale hg v _ (Int.natCast_nonneg _)]
    rfl
theorem cont_nn (A : Mx) : 0 ≤ contM A := gcdF_nn _ _ (Int.le_refl 0)
theorem cont_clear {A : Mx} (h0 : contM A ≠ 0) : contM (clearM A) = 1 := by
  have e : (clearM A).flatten = A.flatten.map fun x => x.fdiv (contM A) := by
    unfold clearM
    rw [List.map_flatten]
  have e2 : A.flatten = (A.flatten.map fun x => x.fdiv (contM A)).map (contM A * ·) := by
    rw [List.map_map]
    have : (A.flatten.map fun x => contM A * x.fdiv (contM A)) = A.flatten.map id := List.map_congr_left fun x hx => by
      obtain ⟨r, hr, hx⟩ := List.mem_flatten.mp hx
      exact clear_exact hr hx h0
    rw [List.map_id] at this
    exact this.symm
  have s := gcdF_scale (cont_nn A) (A.flatten.map fun x => x.fdiv (contM A)) 0 (Int.le_refl 0)
  rw [← e2, Int.mul_zero] at s
  have s' : contM A = contM A * contM (clearM A) := by
    have : contM (clearM A) = gcdF 0 (A.flatten.map fun x => x.fdiv (contM A)) := by unfold contM; rw [e]; rfl
    rw [this]
    exact s
  have p := cont_nn A
  have : contM A * (contM (clearM A) - 1) = 0 := by rw [Int.mul_sub, Int.mul_one, ← s']; omega
  rcases Int.mul_eq_zero.mp this with z | z
  · exact absurd z h0
  · omega
theorem clear_one {A : Mx} (h : contM A = 1) : clearM A = A := by
  unfold clearM
  rw [h]
  simp
theorem clear_iff {A : Mx} (h0 : contM A ≠ 0) : clearM A = A ↔ contM A = 1 := ⟨fun e => by rw [← e]; exact cont_clear h0, clear_one⟩
theorem pos_head {n : Nat} (hn : sz n) {A : Mx} (hA : rectM n A) (hs : symM A) (hp : PDf n A) : ∃ r ∈ A, ∃ x ∈ r, x ≠ 0 := by
  have hm := (min_pos hn hA hs).mpr hp
  rcases hn with rfl | rfl | rfl
  · obtain ⟨a, b, c, d, rfl⟩ := rect2 hA
    obtain rfl := sym2 hs
    exact ⟨_, List.mem_cons_self, a, List.mem_cons_self, by have := (min2.mp hm).1; omega⟩
  · obtain ⟨a, b, c, d, e, f, g, i, j, rfl⟩ := rect3 hA
    obtain ⟨rfl, rfl, rfl⟩ := sym3 hs
    exact ⟨_, List.mem_cons_self, a, List.mem_cons_self, by have := (min3.mp hm).1; omega⟩
  · obtain ⟨a, b, c, d, e, f, g, i, j, k, l, m, o, p, q, s, rfl⟩ := rect4 hA
    obtain ⟨rfl, rfl, rfl, rfl, rfl, rfl⟩ := sym4 hs
    exact ⟨_, List.mem_cons_self, a, List.mem_cons_self, by have := (min4.mp hm).1; omega⟩
theorem cont_ne {n : Nat} (hn : sz n) {A : Mx} (hA : rectM n A) (hs : symM A) (hp : PDf n A) : contM A ≠ 0 := fun e => by
  obtain ⟨r, hr, x, hx, h0⟩ := pos_head hn hA hs hp
  have d := (gcdF_dvd A.flatten 0).2 x (List.mem_flatten.mpr ⟨r, hr, hx⟩)
  have d : contM A ∣ x := d
  rw [e] at d
  exact h0 (Int.zero_dvd.mp d)
theorem pair_sym {n : Nat} (hn : sz n) {A : Mx} (hA : rectM n A) (hs : symM A) {v w : List Int} (hv : v.length = n) (hw : w.length = n) : dotI v (mulV A w) = dotI w (mulV A v) := by
  have h := dot_turn hn hA hv hw
  rw [show turnM A = A from hs] at h
  rw [h, dot_comm]
theorem val_add {n : Nat} (hn : sz n) {A : Mx} (hA : rectM n A) (hs : symM A) {v w : List Int} (hv : v.length = n) (hw : w.length = n) : valM A (addR 1 v w) = valM A v + 2 * dotI v (mulV A w) + valM A w := by
  rcases hn with rfl | rfl | rfl
  · obtain ⟨a, b, c, d, rfl⟩ := rect2 hA
    obtain rfl := sym2 hs
    obtain ⟨x, y, rfl⟩ := len2 hv
    obtain ⟨z, t, rfl⟩ := len2 hw
    simp only [valM, mulV, addR, dotI, List.map_cons, List.map_nil, List.zipWith, List.sum_cons, List.sum_nil]
    grind
  · obtain ⟨a, b, c, d, e, f, g, i, j, rfl⟩ := rect3 hA
    obtain ⟨rfl, rfl, rfl⟩ := sym3 hs
    obtain ⟨x, y, z, rfl⟩ := len3 hv
    obtain ⟨x', y', z', rfl⟩ := len3 hw
    simp only [valM, mulV, addR, dotI, List.map_cons, List.map_nil, List.zipWith, List.sum_cons, List.sum_nil]
    grind
  · obtain ⟨a, b, c, d, e, f, g, i, j, k, l, m, o, p, q, s, rfl⟩ := rect4 hA
    obtain ⟨rfl, rfl, rfl, rfl, rfl, rfl⟩ := sym4 hs
    obtain ⟨x, y, z, t, rfl⟩ := len4 hv
    obtain ⟨x', y', z', t', rfl⟩ := len4 hw
    simp only [valM, mulV, addR, dotI, List.map_cons, List.map_nil, List.zipWith, List.sum_cons, List.sum_nil]
    grind
mutual
theorem eqv_self : ∀ (n : Nat) (d : D), D.flat n d = true → PyData.eqv d.py d.py = true
  | _, .non, _ => by simp [D.py, PyData.eqv]
  | _, .bl b, _ => by simp [D.py, PyData.eqv]
  | _, .int b, _ => by simp [D.py, PyData.eqv]
  | _, .str b, _ => by simp [D.py, PyData.eqv]
  | 0, .tup xs, h => by simp [D.flat] at h
  | n + 1, .tup xs, h => by
    have := eqvAll_self n xs (by simpa [D.flat] using h)
    simp [D.py, PyData.eqv, this]
  | 0, .lst xs, h => by simp [D.flat] at h
  | n + 1, .lst xs, h => by
    have := eqvAll_self n xs (by simpa [D.flat] using h)
    simp [D.py, PyData.eqv, this]
  | _, .dic _, h => by simp [D.flat] at h
  | _, .scr _, h => by simp [D.flat] at h
  | _, .obj _ _ _, h => by simp [D.flat] at h
  | _, .cls _, h => by simp [D.flat] at h
  | _, .rng _ _, h => by simp [D.flat] at h
theorem eqvAll_self : ∀ (n : Nat) (ds : List D), flats n ds = true → PyData.eqvAll (pys ds) (pys ds) = true
  | _, [], _ => by simp [pys, PyData.eqvAll]
  | n, d :: ds, h => by
    have h' : D.flat n d = true ∧ flats n ds = true := by simpa [flats] using h
    simp [pys, PyData.eqvAll, eqv_self n d h'.1, eqvAll_self n ds h'.2]
end
theorem eqv_same {d : D} (h : D.flat 64 d = true) : d.eqv d = true := eqv_self 64 d h
theorem flat63_mT (A : Mx) : D.flat 63 (mT A) = true := by
  show flats 62 (A.map rT) = true
  exact flats_row 61 A
theorem flat63_rT (v : List Int) : D.flat 63 (rT v) = true := by
  show flats 62 (v.map D.int) = true
  exact flats_int 62 v
theorem flat_tup {xs : List D} (h : ∀ d ∈ xs, D.flat 63 d = true) : D.flat 64 (.tup xs) = true := by
  show flats 63 xs = true
  have : ∀ l : List D, (∀ d ∈ l, D.flat 63 d = true) → flats 63 l = true := by
    intro l
    induction l with
    | nil => intro _; rfl
    | cons a l ih =>
      intro h
      show (D.flat 63 a && flats 63 l) = true
      rw [h a List.mem_cons_self, ih fun d hd => h d (List.mem_cons_of_mem _ hd)]
      rfl
  exact this xs h
def sp_l_is_told (cl : Cl) : DSp := fun _ ss K => ∃ n A, ss = [.val (mT A)] ∧ sz n ∧ Tab n (10 ^ 30) A ∧ PDf n A ∧ K (.bl true)
def sp_l_values_right (cl : Cl) : DSp := fun _ ss K => ∃ n A, ss = [.bag, .val (mT A)] ∧ sz n ∧ Tab n (10 ^ 30) A ∧ PDf n A ∧ K (.bl true)
def sp_law (cl : Cl) : DSp := fun _ ss K => match ss with
  | [.val (.scr ns)] => ns.length ≤ 63 ∧ K (.bl true)
  | _ => False
def tb_l_is_told (cl : Cl) : DTS := sSeq (sPar 3 4 (dMake cl.Form 1 (sp_Form___init__ cl) (aCons (xVar 0) (aNil))) (dCB fLen (vCons (dVar 0) (vNil)))) (sSeq (sIf (dTest (dOp fNe (dTup (vCons (dProp cl.Form (sp_Form_size cl) (dVar 3)) (vCons (dProp cl.Form (sp_Form_table cl) (dVar 3)) (vCons (dProp cl.Form (sp_Form_determinant cl) (dVar 3)) (vCons (dCB (fLenOwn cl.Form (sp_Form___len__ cl)) (vCons (dVar 3) (vNil))) (vNil)))))) (dTup (vCons (dVar 4) (vCons (dVar 0) (vCons (dCall 1 sp_l_determinant (aCons (xVar 0) (aNil))) (vCons (dVar 4) (vNil)))))))) (sRet (dC (.bl false))) (sPass)) (sSeq (sAsg (dLc (iR2 (vCons (dC (.int 1)) (vCons (dOp fAdd (dVar 4) (dC (.int 1))) (vNil)))) (gN 5) (dYes) (dCall 1 sp_l_determinant (aCons (xVal (dLc (iSeq (dSl (dVar 0) (oNone) (oSome (dVar 5)))) (gN 6) (dYes) (dSl (dVar 6) (oNone) (oSome (dVar 5))) [6])) (aNil))) [5]) (gN 1)) (sSeq (sIf (dOr (dTest (dOp fNe (dProp cl.Form (sp_Form_minors cl) (dVar 3)) (dCB fTuple (vCons (dVar 1) (vNil))))) (dOr (dTest (dOp fNe (dProp cl.Form (sp_Form_table cl) (dProp cl.Form (sp_Form_adjoint cl) (dVar 3))) (dCall 1 sp_l_adjoint (aCons (xVar 0) (aNil))))) (dTest (dOp fNe (dProp cl.Form (sp_Form_content cl) (dVar 3)) (dCall 1 sp_l_content (aCons (xVar 0) (aNil))))))) (sRet (dC (.bl false))) (sPass)) (sSeq (sIf (dTest (dOp fNe (dCB (fStrOwn cl.Form (sp_Form___str__ cl)) (vCons (dVar 3) (vNil))) (dOp fAdd (dC (.str "form ")) (dJoin (dC (.str "/")) (dLc (iSeq (dVar 0)) (gN 6) (dYes) (dJoin (dC (.str " ")) (dLc (iSeq (dVar 6)) (gN 7) (dYes) (dCB fStrI (vCons (dVar 7) (vNil))) [7])) [6]))))) (sRet (dC (.bl false))) (sPass)) (sSeq (sAsg (dProp cl.Form (sp_Form_cleared cl) (dVar 3)) (gN 2)) (sSeq (sIf (dOr (dTest (dOp fNe (dProp cl.Form (sp_Form_table cl) (dVar 2)) (dCall 1 sp_l_cleared (aCons (xVar 0) (aNil))))) (dOr (dTest (dOp fNe (dProp cl.Form (sp_Form_content cl) (dVar 2)) (dC (.int 1)))) (dTest (dOp fNe (dProp cl.Form (sp_Form_table cl) (dVar 3)) (dVar 0))))) (sRet (dC (.bl false))) (sPass)) (sRet (dAndV (dOp (fOwn2 cl.Form (sp_Form___eq__ cl)) (dVar 3) (dMake cl.Form 1 (sp_Form___init__ cl) (aCons (xVar 0) (aNil)))) (dAndV (dOp (fOwnNe cl.Form (sp_Form___eq__ cl)) (dVar 3) (dVar 0)) (dAndV (dOp (fOwnNe cl.Form (sp_Form___eq__ cl)) (dVar 3) (dC .non)) (dOp fEq (dOp (fOwn2 cl.Form (sp_Form___eq__ cl)) (dVar 2) (dVar 3)) (dOp fEq (dProp cl.Form (sp_Form_content cl) (dVar 3)) (dC (.int 1))))))))))))))
def N_l_is_told : List Str := ["_law_table", "_law_minors", "_law_cleared_here", "_law_form", "_law_size_here", "_law_many", "_law_row", "_law_number_here"]
def tb_l_values_right (cl : Cl) : DTS := sSeq (sPar 3 4 (dMake cl.Form 1 (sp_Form___init__ cl) (aCons (xVar 1) (aNil))) (dCB fLen (vCons (dVar 1) (vNil)))) (sSeq (sPar 5 6 (dCall 3 sp_l_some_row (aCons (xVar 0) (aCons (xVar 4) (aCons (xVal (dC (.int 20))) (aNil))))) (dCall 3 sp_l_some_row (aCons (xVar 0) (aCons (xVar 4) (aCons (xVal (dOp (fInt2 PowOk fun i j => i ^ j.toNat) (dC (.int 10)) (dC (.int 12)))) (aNil)))))) (sSeq (sIf (dOr (dTest (dOp fNe (dMeth cl.Form 1 (sp_Form_value cl) (dVar 3) (aCons (xVar 5) (aNil))) (dCall 2 sp_l_value (aCons (xVar 1) (aCons (xVar 5) (aNil)))))) (dOr (dTest (dOp fNe (dMeth cl.Form 1 (sp_Form_value cl) (dVar 3) (aCons (xVar 6) (aNil))) (dCall 2 sp_l_value (aCons (xVar 1) (aCons (xVar 6) (aNil)))))) (dTest (dOp (fCmp fun i j => decide (i < j)) (dMeth cl.Form 1 (sp_Form_value cl) (dVar 3) (aCons (xVar 5) (aNil))) (dC (.int 1)))))) (sRet (dC (.bl false))) (sPass)) (sSeq (sIf (dOr (dTest (dOp fNe (dMeth cl.Form 2 (sp_Form_pairing cl) (dVar 3) (aCons (xVar 5) (aCons (xVar 6) (aNil)))) (dCall 3 sp_l_pairing (aCons (xVar 1) (aCons (xVar 5) (aCons (xVar 6) (aNil))))))) (dTest (dOp fNe (dMeth cl.Form 2 (sp_Form_pairing cl) (dVar 3) (aCons (xVar 5) (aCons (xVar 6) (aNil)))) (dMeth cl.Form 2 (sp_Form_pairing cl) (dVar 3) (aCons (xVar 6) (aCons (xVar 5) (aNil))))))) (sRet (dC (.bl false))) (sPass)) (sSeq (sAsg (dCB fTuple (vCons (dLc (iZp (vCons (dVar 5) (vCons (dVar 6) (vNil)))) (gT 2 (gsC (gN 7) (gsC (gN 8) (gsN)))) (dYes) (dOp fAdd (dVar 7) (dVar 8)) [7, 8]) (vNil))) (gN 2)) (sRet (dAndV (dOp fEq (dMeth cl.Form 1 (sp_Form_value cl) (dVar 3) (aCons (xVar 2) (aNil))) (dOp fAdd (dOp fAdd (dMeth cl.Form 1 (sp_Form_value cl) (dVar 3) (aCons (xVar 5) (aNil))) (dOp fRep (dC (.int 2)) (dMeth cl.Form 2 (sp_Form_pairing cl) (dVar 3) (aCons (xVar 5) (aCons (xVar 6) (aNil)))))) (dMeth cl.Form 1 (sp_Form_value cl) (dVar 3) (aCons (xVar 6) (aNil))))) (dOp fEq (dMeth cl.Form 1 (sp_Form_value cl) (dVar 3) (aCons (xVal (dOp fRep (dTup (vCons (dC (.int 0)) (vNil))) (dVar 4))) (aNil))) (dC (.int 0)))))))))
def N_l_values_right : List Str := ["_law_bag_here", "_law_table", "_law_both", "_law_form", "_law_size_here", "_law_one", "_law_other", "_law_here", "_law_there"]
def tb_law (cl : Cl) : DTS := sSeq (sFor (iR1 (dCB (f2I fun i j => if j > i then j else i) (vCons (dC (.int 1)) (vCons (dCB (f2I fun i j => if j < i then j else i) (vCons (dC (.int 3)) (vCons (dCB fLen (vCons (dVar 0) (vNil))) (vNil)))) (vNil))))) (gN 1) (sSeq (sBagCall 4 2 sp_l_bag (aCons (xVar 0) (aCons (xVar 1) (aNil)))) (sSeq (sAsg (dCall 1 sp_l_size (aCons (xVar 4) (aNil))) (gN 5)) (sSeq (sPar 9 10 (dCall 2 sp_l_positive (aCons (xVar 4) (aCons (xVar 5) (aNil)))) (dCall 2 sp_l_wide (aCons (xVar 4) (aCons (xVar 5) (aNil))))) (sSeq (sIf (dOr (dNot (dTru (dCall 1 (sp_l_is_told cl) (aCons (xVar 9) (aNil))))) (dOr (dNot (dTru (dCall 1 (sp_l_is_told cl) (aCons (xVar 10) (aNil))))) (dTest (dOp fNe (dOp (fOwn2 cl.Form (sp_Form___eq__ cl)) (dMake cl.Form 1 (sp_Form___init__ cl) (aCons (xVar 9) (aNil))) (dMake cl.Form 1 (sp_Form___init__ cl) (aCons (xVar 10) (aNil)))) (dOp fEq (dVar 9) (dVar 10)))))) (sRet (dC (.bl false))) (sPass)) (sSeq (sIf (dOr (dNot (dTru (dCall 2 (sp_l_values_right cl) (aCons (xVar 4) (aCons (xVar 9) (aNil)))))) (dNot (dTru (dCall 2 (sp_l_values_right cl) (aCons (xVar 4) (aCons (xVar 10) (aNil))))))) (sRet (dC (.bl false))) (sPass)) (sSeq (sAsg (dLc (iR1 (dC (.int 4))) (gN 12) (dYes) (dOp fAdd (dC (.int 1)) (dCall 2 sp_l_grab (aCons (xVar 4) (aCons (xVal (dC (.int 9))) (aNil))))) [12]) (gN 6)) (sSeq (sAsg (dLst (vCons (dCMeth cl.Form 2 (sp_Form_diagonal cl) (aCons (xVal (dOp fIx (dVar 6) (dC (.int 0)))) (aCons (xVal (dOp fIx (dVar 6) (dC (.int 1)))) (aNil)))) (vCons (dCMeth cl.Form 3 (sp_Form_diagonal cl) (aCons (xVal (dOp fIx (dVar 6) (dC (.int 0)))) (aCons (xVal (dOp fIx (dVar 6) (dC (.int 1)))) (aCons (xVal (dOp fIx (dVar 6) (dC (.int 2)))) (aNil))))) (vNil)))) (gN 7)) (sFor (iSeq (dOp fAdd (dVar 7) (dLst (vCons (dCMeth cl.Form 4 (sp_Form_diagonal cl) (aCons (xVal (dOp fIx (dVar 6) (dC (.int 0)))) (aCons (xVal (dOp fIx (dVar 6) (dC (.int 1)))) (aCons (xVal (dOp fIx (dVar 6) (dC (.int 2)))) (aCons (xVal (dOp fIx (dVar 6) (dC (.int 3)))) (aNil)))))) (vNil))))) (gN 8) (sSeq (sAsg (dLc (iR1 (dProp cl.Form (sp_Form_size cl) (dVar 8))) (gN 13) (dYes) (dLc (iR1 (dProp cl.Form (sp_Form_size cl) (dVar 8))) (gN 14) (dYes) (dOp fRep (dOp fIx (dVar 6) (dVar 13)) (dCB fInt (vCons (dOp fEq (dVar 13) (dVar 14)) (vNil)))) [14]) [13]) (gN 11)) (sIf (dTest (dOp fNe (dProp cl.Form (sp_Form_table cl) (dVar 8)) (dCB fTuple (vCons (dLc (iSeq (dVar 11)) (gN 15) (dYes) (dCB fTuple (vCons (dVar 15) (vNil))) [15]) (vNil))))) (sRet (dC (.bl false))) (sPass)))))))))))) (sSeq (sAsg (dMake cl.Form 1 (sp_Form___init__ cl) (aCons (xVal (dTup (vCons (dTup (vCons (dC (.int 3)) (vCons (dNeg (dC (.int 1))) (vCons (dNeg (dC (.int 1))) (vNil))))) (vCons (dTup (vCons (dNeg (dC (.int 1))) (vCons (dC (.int 3)) (vCons (dNeg (dC (.int 1))) (vNil))))) (vCons (dTup (vCons (dNeg (dC (.int 1))) (vCons (dNeg (dC (.int 1))) (vCons (dC (.int 3)) (vNil))))) (vNil)))))) (aNil))) (gN 2)) (sSeq (sAsg (dLst (vCons (dProp cl.Form (sp_Form_determinant cl) (dVar 2)) (vCons (dProp cl.Form (sp_Form_minors cl) (dVar 2)) (vCons (dProp cl.Form (sp_Form_content cl) (dProp cl.Form (sp_Form_adjoint cl) (dVar 2))) (vCons (dProp cl.Form (sp_Form_table cl) (dProp cl.Form (sp_Form_cleared cl) (dProp cl.Form (sp_Form_adjoint cl) (dVar 2)))) (vCons (dMeth cl.Form 2 (sp_Form_pairing cl) (dVar 2) (aCons (xVal (dTup (vCons (dC (.int 1)) (vCons (dC (.int 1)) (vCons (dC (.int 0)) (vNil)))))) (aCons (xVal (dTup (vCons (dC (.int 0)) (vCons (dC (.int 1)) (vCons (dC (.int 1)) (vNil)))))) (aNil)))) (vCons (dCB (fStrOwn cl.Form (sp_Form___str__ cl)) (vCons (dVar 2) (vNil))) (vNil)))))))) (gN 3)) (sRet (dOp fEq (dVar 3) (dLst (vCons (dC (.int 16)) (vCons (dTup (vCons (dC (.int 3)) (vCons (dC (.int 8)) (vCons (dC (.int 16)) (vNil))))) (vCons (dC (.int 4)) (vCons (dTup (vCons (dTup (vCons (dC (.int 2)) (vCons (dC (.int 1)) (vCons (dC (.int 1)) (vNil))))) (vCons (dTup (vCons (dC (.int 1)) (vCons (dC (.int 2)) (vCons (dC (.int 1)) (vNil))))) (vCons (dTup (vCons (dC (.int 1)) (vCons (dC (.int 1)) (vCons (dC (.int 2)) (vNil))))) (vNil))))) (vCons (dC (.int 0)) (vCons (dC (.str "form 3 -1 -1/-1 3 -1/-1 -1 3")) (vNil))))))))))))
def N_law : List Str := ["_law_script", "_law_spot", "_law_body", "_law_told_here", "_law_bag_here", "_law_size_here", "_law_numbers", "_law_forms", "_law_form", "_law_one", "_law_other", "_law_due", "_law_turn", "_law_at", "_law_to", "_law_row"]

local macro_rules | `(tactic| walk_at "ps") => `(tactic| simp only [sp_l_is_told, sp_l_values_right, sp_law, sp_divisor_of, sp_sum_in, sp_corner_of, sp_minors_in, sp_is_positive_in, sp_Sure___init__, sp_table_told, sp_Form___init__, sp_form_with, sp_Form_diagonal, sp_Form_size, sp_Form_table, sp_Form_determinant, sp_Form_minors, sp_Form_adjoint, sp_Form_content, sp_Form_value, sp_Form_pairing, sp_Form_cleared, sp_Form___eq__, sp_Form___len__, sp_Form___str__, sp_content_in, sp_cleared_table, sp_times_in, sp_l_common, sp_l_content, sp_l_cleared, dFld, dOwnFld, sOwnFld, dMake, dMeth, dProp, dCMeth, dMakeL, dIsiC, dJoin, fJoin, dFmt, fFmt, dJn2, fRg1, iRgv, fOwn2, fOwnNe, fNotB, okY, fLenOwn, fStrOwn, fBinOwn, fBinInt, endsI, sNever, sWhile, fStrI, fIntS, fSlS, dSlS, sp_require_table, sp_pairing_in, sp_value_in, sp_table_led, sp_table_moved, sp_together_of, sp_require_moving, sp_led_table, sp_moved_table, sp_table_value, sp_together, sp_l_names, sp_l_told, sp_l_plain_rays, sp_l_summed, sp_l_begun, sp_l_positive, sp_l_wide, sp_l_pairing, sp_l_value, sp_l_led, sp_l_moved, sp_l_together, sp_l_plus, sp_l_is_positive, sp_is_whole, sp_is_integer, sp_is_row_of, sp_are_rows_of, sp_is_even, sp_is_table_of, sp_is_matrix_of, sp_require_size, sp_require_row, sp_require_matrix, sp_size_told, sp_without, sp_cofactor, sp_adjoint_of, sp_turned_over, sp_product_in, sp_dot, sp_unit_of, sp_back_in, sp_row_led, sp_row_normal, sp_square_of, sp_is_row, sp_is_table, sp_is_matrix, sp_unit_matrix, sp_matrix_product, sp_matrix_back, sp_normal_row, sp_square, sp_led_row, sp_l_bag, sp_l_grab, sp_l_one_of, sp_l_mixed, sp_l_size, sp_l_number, sp_l_some_row, sp_l_some_table, sp_l_matrix, sp_l_turned, sp_l_row_led, sp_l_product, sp_l_determinant, sp_l_adjoint, sp_l_back, sp_l_square, sp_l_normal, sp_l_is_whole, sp_l_are_rows, sp_l_is_table, sp_l_is_matrix, sp_l_is_short, sp_l_is_row_told, sp_l_near, sp_l_judged_right, sp_l_products_right, sSeq, sAsg, sPar, sRet, sRetN, sDrop, sPass, sIf, sRetL, sBag, sBagCall, gN, gT, gsC, gsN, dVar, xVar, xVal, dC, dOp, dNeg, dTest, dTru, dAnd, dOr, dNot, dAndV, dOrV, dNotV, dIf, dChain, vNil, vCons, aNil, aCons, dTup, dLst, dDic0, dCB, dCall, dIsi, dSl, oNone, oSome, dBag,  fAdd, fSub, fInt2, fCmp, fEq, fNe, fIn, fIsN, fRep, fLen, fAbs, f2I, fInt, fGcd, fTuple, fList, fIx, iSeq, iR1, dLc, dYes, endsOf, endsN, start0, List.map, List.append, List.replicate, List.length, List.cons_append, List.nil_append, List.set, List.getElem?_cons_zero, List.getElem?_cons_succ, Nat.reduceSub, Nat.reduceAdd, List.length_cons, List.length_nil, Nat.sub_self,  decide_eq_true_eq, decide_eq_false_iff_not, Bool.false_eq_true, reduceCtorEq, true_and, and_true, if_true, if_false, forall_const, false_implies, implies_true, true_implies, List.getElem?_nil, at0, at1, sFor, wipeD, Bool.not_eq_true', Bool.not_eq_false', Bool.not_true, Bool.not_false, iR2, iZp, iEnA, vStar, nLst, nLc, nList, sPar3, sOwn, sTupO, sParVO, sParOV, sOwnSet, sOwnApp, sOwnPair, putD, dOwnIx, dOwnLen, sFreeze, dLc2, fSl, fMax, fMin, fAnyT, List.map_nil, List.map_cons, Int.toNat_natCast])
variable {cl : Cl}
theorem rd_l_is_told : ∀ Ed ss Kd, ss.length = 1 → sp_l_is_told cl Ed ss Kd → tb_l_is_told cl (endsOf Kd noE) (start0 N_l_is_told ss) := by
  rintro Ed ss Kd hl ⟨n, A, rfl, hn, hT, hp, h⟩
  have n4 := hn.le
  have hA := hT.1
  have hs := hT.2.1
  have hok : okM n A := hT.ok (by decide)
  have hb := hok.bd
  have h0 := cont_ne hn hA hs hp
  have hadj : bdM 1000 (adjM n A) := by
    intro r hr x hx
    have := adj_le hn hA hT.2.2 r hr x hx
    refine Nat.lt_of_le_of_lt this ?_
    rcases hn with rfl | rfl | rfl <;> decide
  have lg : ∀ r ∈ A, ∀ x ∈ r, x.natAbs.log2 < 1920 := fun r hr x hx => isI_log (hok.2 r hr x hx)
  unfold tb_l_is_told N_l_is_told
  refine seq_gg fun T hT => ?_
  walk_at "ps"
  rw [lenT hA]
  refine ⟨n, A, _, rfl, hn, hA, hb, .inr ⟨rfl, hok, hs, hp⟩, ?_⟩
  show T (endsOf Kd noE) [some (.val (mT A)), none, none, some (.val (Fo cl n A)), some (.val (.int (n : Nat))), none, none, none]
  subst hT
  refine seq_gg fun T hT => ?_
  walk_at "ps"
  refine ⟨rfl, n, A, rfl, rfl, n, A, rfl, rfl, n, A, rfl, rfl, n, A, rfl, hn, hA, by omega, by omega, by decide, n, A, _, rfl, .inl rfl, .inr hn, hA, hb, by decide, ?_⟩
  have f1 : D.flat 64 (.tup [.int (n : Nat), mT A, .int (detN n A), .int (n : Nat)]) = true := flat_tup fun d hd => by
    simp only [List.mem_cons, List.not_mem_nil, _root_.or_false] at hd
    rcases hd with rfl | rfl | rfl | rfl
    · rfl
    · exact flat63_mT A
    · rfl
    · rfl
  refine ⟨f1, f1, ?_⟩
  rw [eqv_same f1]
  refine ⟨(fun e => nomatch e), fun _ => ?_⟩
  subst hT
  refine seq_gg fun T hT => ?_
  walk_at "ps"
  rw [show (((n : Nat) : Int) + 1 - 1).toNat = n by omega, show (1 : Int) = ((1 : Nat) : Int) from rfl, rngK]
  refine ⟨by decide, by decide, by omega, by omega, by simp; omega, lcD_m _ (fun i : Nat => .int (detN (1 + i) (corner (1 + i) A))) (List.range n) [] (fun i hi k hk => ?_) ?_⟩
  · have hi := List.mem_range.mp hi
    generalize hm : 1 + i = m at hk ⊢
    have hmn : m ≤ n := by omega
    walk_at "ps"
    rw [cut_hi _ m (by rw [lenT hA]; exact hmn), ← List.map_take]
    refine ⟨by rw [List.length_map, List.length_take]; omega, lcD_m rT (fun r => rT (r.take m)) (A.take m) [] (fun r hr k hk => ?_) ?_⟩
    · walk_at "ps"
      rw [cut_hi _ m (by rw [List.length_map, hA.2 r (List.mem_of_mem_take hr)]; exact hmn), ← List.map_take]
      exact hk
    · rw [List.nil_append]
      have es : ((A.take m).map fun r => rT (r.take m)) = (corner m A).map rT := by unfold corner; rw [List.map_map]; rfl
      rw [es]
      exact ⟨m, _, _, rfl, .inr (.inr rfl), by unfold sz1 sz; omega, corner_rect hA hmn, corner_bd hb, hk⟩
  rw [List.nil_append]
  have es : ((List.range n).map fun i : Nat => D.int (detN (1 + i) (corner (1 + i) A))) = (minL n A).map D.int := by
    unfold minL
    rw [List.map_map]
    refine List.map_congr_left fun i _ => ?_
    simp only [Function.comp_def, Nat.add_comm 1 i]
  rw [es]
  subst hT
  refine seq_gg fun T hT => ?_
  walk_at "ps"
  refine ⟨rfl, n, A, rfl, hn, hA, hb, flat_rT _, flat_rT _, ?_⟩
  rw [eqV' rfl]
  refine ⟨(fun e => nomatch e), fun _ => ⟨rfl, n, A, rfl, hn, hA, hb, hadj, rfl, n, adjM n A, rfl, n, A, rfl, hn, hA, hb, flat_mT _, flat_mT _, ?_⟩⟩
  rw [eqM' rfl]
  refine ⟨(fun e => nomatch e), fun _ => ⟨rfl, n, A, rfl, hn, hA, n, A, rfl, hn, hA, fun e => absurd rfl e, fun _ => ?_⟩⟩
  subst hT
  refine seq_gg fun T hT => ?_
  obtain ⟨l1, l2⟩ := lines_ok n4 hA lg
  have jl : (Txt.join (Str.ofString "/") (A.map fun r => Txt.join (Str.ofString " ") (r.map numS))).length ≤ 32004 := by
    rw [show Txt.join (Str.ofString "/") (A.map fun r => Txt.join (Str.ofString " ") (r.map numS)) = Str.join (Str.ofString "/") (A.map fun r => Txt.join (Str.ofString " ") (r.map numS)) from TL.join_eq _ _]
    exact Nat.le_trans (join_len _ _) l2
  have e5 : (Str.ofString "form ").length = 5 := by decide +kernel
  walk_at "ps"
  refine ⟨rfl, n, A, rfl, hn, hok, ?_⟩
  refine ⟨by rw [lenT hA]; omega, lines_read (N := 8) n4 hA lg (by decide) (by show 6 < 8; decide) (by show 7 < 8; decide) ?_⟩
  refine ⟨_, l1, Nat.le_trans l2 (by decide), ?_, fun e => absurd rfl e, fun _ => ?_⟩
  · have e5' : (Str.ofString "form ").length = 5 := by decide +kernel
    omega
  subst hT
  refine seq_gg fun T hT => ?_
  walk_at "ps"
  refine ⟨rfl, n, A, rfl, hn, hA, hb, h0, ?_⟩
  subst hT
  refine seq_gg fun T hT => ?_
  walk_at "ps"
  refine ⟨rfl, n, clearM A, rfl, n, A, rfl, hn, hA, hb, h0, flat_mT _, flat_mT _, ?_⟩
  rw [eqM' rfl]
  refine ⟨(fun e => nomatch e), fun _ => ⟨rfl, n, clearM A, rfl, hn, clear_rect hA, ?_⟩⟩
  rw [cont_clear h0]
  refine ⟨fun e => absurd rfl e, fun _ => ⟨rfl, n, A, rfl, flat_mT _, flat_mT _, ?_⟩⟩
  rw [eqM' rfl]
  refine ⟨(fun e => nomatch e), fun _ => ?_⟩
  subst hT
  walk_at "ps"
  refine ⟨n, A, _, rfl, hn, hA, hb, .inr ⟨rfl, hok, hs, hp⟩, ?_⟩
  refine ⟨rfl, n, A, _, rfl, .inl ⟨n, A, rfl, fun _ => ?_, fun e => absurd rfl e⟩⟩
  refine ⟨rfl, rfl, n, A, _, rfl, .inr ⟨rfl, ?_⟩⟩
  refine ⟨rfl, rfl, n, A, _, rfl, .inr ⟨rfl, ?_⟩⟩
  refine ⟨rfl, by simp [Fo], n, clearM A, _, rfl, .inl ⟨n, A, rfl, ?_⟩⟩
  refine ⟨rfl, n, A, rfl, hn, hA, rfl, rfl, ?_⟩
  have e : decide (clearM A = A) = decide (contM A = 1) := by
    rw [Bool.eq_iff_iff, decide_eq_true_eq, decide_eq_true_eq]
    exact clear_iff h0
  rw [e, eqv_same rfl]
  exact h

variable {cl : Cl}
theorem val_zero {n : Nat} {T : Mx} (h : rectM n T) : valM T (List.replicate n 0) = 0 := by
  unfold valM
  rw [mulV_zero h]
  exact dot_zero _ n
theorem repZ {n : Nat} {k : D → Prop} (hn : n ≤ 4) (h : k (rT (List.replicate n 0))) : (-(2 ^ 62) : Int) ≤ (n : Int) ∧ (n : Int) ≤ 1000 ∧ 1 ≤ 1000 ∧ k (.tup (List.replicate n [D.int 0]).flatten) := by
  have rz := rep_zero n
  rw [Int.toNat_natCast] at rz
  rw [rz]
  exact ⟨by omega, by omega, by decide, h⟩
theorem okZ (n : Nat) : okV n (List.replicate n 0) := okV_le (by simp) (b := 0) (fun x hx => by rw [List.eq_of_mem_replicate hx]; decide) (by decide)
theorem rd_l_values_right : ∀ Ed ss Kd, ss.length = 2 → sp_l_values_right cl Ed ss Kd → tb_l_values_right cl (endsOf Kd noE) (start0 N_l_values_right ss) := by
  rintro Ed ss Kd hl ⟨n, A, rfl, hn, hT, hp, h⟩
  have n4 := hn.le
  have hA := hT.1
  have hs := hT.2.1
  have hok : okM n A := hT.ok (by decide)
  have hb := hok.bd
  unfold tb_l_values_right N_l_values_right
  refine seq_gg fun T hT => ?_
  walk_at "ps"
  rw [lenT hA]
  refine ⟨n, A, _, rfl, hn, hA, hb, .inr ⟨rfl, hok, hs, hp⟩, ?_⟩
  show T (endsOf Kd noE) [some .bag, some (.val (mT A)), none, some (.val (Fo cl n A)), some (.val (.int (n : Nat))), none, none, none, none]
  subst hT
  refine seq_gg fun T hT => ?_
  have p12 : (10 : Int) ^ (Int.toNat 12) = 1000000000000 := by decide
  walk_at "ps"
  rw [p12]
  refine ⟨n, 20, rfl, hn, by decide, by decide +kernel, fun v vl vb vne => ⟨⟨by decide, by decide +kernel⟩, n, 1000000000000, rfl, hn, by decide, by decide +kernel, fun w wl wb _ => ?_⟩⟩
  have ov : okV n v := okV_le vl (b := 20) (fun x hx => by have := vb x hx; omega) (by decide)
  have ow : okV n w := okV_le wl (b := 1000000000000) (fun x hx => by have := wb x hx; omega) (by decide)
  have pv := hp v vl vne
  subst hT
  refine seq_gg fun T hT => ?_
  walk_at "ps"
  refine ⟨rfl, n, A, v, rfl, hn, hok, ov, n, A, v, rfl, hn, hok, ov, fun e => absurd rfl e, fun _ => ?_⟩
  refine ⟨rfl, n, A, w, rfl, hn, hok, ow, n, A, w, rfl, hn, hok, ow, fun e => absurd rfl e, fun _ => ?_⟩
  refine ⟨rfl, n, A, v, rfl, hn, hok, ov, fun e => absurd pv (by omega), fun _ => ?_⟩
  subst hT
  refine seq_gg fun T hT => ?_
  walk_at "ps"
  refine ⟨rfl, n, A, v, w, rfl, hn, hok, ov, ow, n, A, v, w, rfl, hn, hok, ov, ow, fun e => absurd rfl e, fun _ => ?_⟩
  refine ⟨rfl, n, A, v, w, rfl, hn, hok, ov, ow, ?_⟩
  refine ⟨rfl, n, A, w, v, rfl, hn, hok, ow, ov, fun e => absurd (pair_sym hn hA hs vl wl) e, fun _ => ?_⟩
  subst hT
  refine seq_gg fun T hT => ?_
  walk_at "ps"
  rw [zip_ints]
  refine ⟨by simp only [List.length_map, List.length_zip]; omega, lcD_m _ (fun q : Int × Int => .int (q.1 + q.2)) (v.zip w) [] (fun q hq k2 hk2 => ?_) ?_⟩
  · unfold prD
    walk_at "ps"
    exact hk2
  rw [List.nil_append]
  have er : ((v.zip w).map fun q : Int × Int => D.int (q.1 + q.2)) = (addR 1 v w).map D.int := by
    unfold addR
    rw [← zip_with, List.map_map]
    refine List.map_congr_left fun q _ => ?_
    simp only [Function.comp_def, Int.one_mul]
  rw [er]
  have bl : (addR 1 v w).length = n := by rw [addR_len (by omega)]; exact vl
  have ob : okV n (addR 1 v w) := okV_le bl (b := 20 + (1 : Int).natAbs * 1000000000000) (le_addR (fun x hx => by have := vb x hx; omega) (fun x hx => by have := wb x hx; omega)) (by decide)
  subst hT
  walk_at "ps"
  refine ⟨rfl, n, A, _, rfl, hn, hok, ob, ?_⟩
  refine ⟨rfl, n, A, v, rfl, hn, hok, ov, ?_⟩
  refine ⟨rfl, n, A, v, w, rfl, hn, hok, ov, ow, ?_⟩
  refine ⟨mul_okL (by decide) (by decide), rfl, n, A, w, rfl, hn, hok, ow, fun _ => ?_, fun e => absurd (val_add hn hA hs vl wl) e⟩
  have rz := rep_zero n
  rw [Int.toNat_natCast] at rz
  refine ⟨rfl, by decide, by omega, by omega, by decide, n, A, List.replicate n 0, by rw [rz]; rfl, hn, hok, okZ n, ?_⟩
  rw [val_zero hA]
  exact h

variable {cl : Cl}
theorem rngD_mem {lo : Int} {n : Nat} {d : D} (h : d ∈ rngD lo n) : ∃ i : Nat, d = .int (lo + i) ∧ i < n := by
  unfold rngD at h
  obtain ⟨i, hi, rfl⟩ := List.mem_map.mp h
  exact ⟨i, rfl, List.mem_range.mp hi⟩
def diaB (cl : Cl) : DTS := sSeq (sAsg (dLc (iR1 (dProp cl.Form (sp_Form_size cl) (dVar 8))) (gN 13) (dYes) (dLc (iR1 (dProp cl.Form (sp_Form_size cl) (dVar 8))) (gN 14) (dYes) (dOp fRep (dOp fIx (dVar 6) (dVar 13)) (dCB fInt (vCons (dOp fEq (dVar 13) (dVar 14)) (vNil)))) [14]) [13]) (gN 11)) (sIf (dTest (dOp fNe (dProp cl.Form (sp_Form_table cl) (dVar 8)) (dCB fTuple (vCons (dLc (iSeq (dVar 11)) (gN 15) (dYes) (dCB fTuple (vCons (dVar 15) (vNil))) [15]) (vNil))))) (sRet (dC (.bl false))) (sPass))
theorem dia_body {ns xs : List Int} (hl : xs.length ≤ ns.length) (hx : ∀ i, i < xs.length → ns.getD i 0 = xs.getD i 0) (h4 : xs.length ≤ 4) (hb : ∀ x ∈ xs, 1 ≤ x ∧ x ≤ 1000) {E : ES} {o0 o1 o2 o3 o4 o5 o7 o9 o10 o11 o12 : Option Sl}
    (hE : ∀ o11, E.nx [o0, o1, o2, o3, o4, o5, some (.val (rL ns)), o7, some (.val (Fo cl xs.length (diagM xs))), o9, o10, o11, o12, none, none, none]) :
    diaB cl E [o0, o1, o2, o3, o4, o5, some (.val (rL ns)), o7, some (.val (Fo cl xs.length (diagM xs))), o9, o10, o11, o12, none, none, none] := by
  unfold diaB
  refine seq_gg fun T hT => ?_
  walk_at "ps"
  have en : ∀ i : Nat, i < xs.length → atI (ns.map D.int) (i : Nat) = some (.int (xs.getD i 0)) := fun i hi => by rw [ixV (by omega), hx i hi]
  refine ⟨rfl, xs.length, diagM xs, rfl, by omega, by omega, by rw [rng0]; simp; omega, ?_⟩
  rw [rng0]
  refine lcD_m _ (fun i : Nat => rL ((List.range xs.length).map fun j => if i = j then xs.getD i 0 else 0)) (List.range xs.length) [] (fun i hi k hk => ?_) ?_
  · have hi := List.mem_range.mp hi
    walk_at "ps"
    refine ⟨rfl, xs.length, diagM xs, rfl, by omega, by omega, by rw [rng0]; simp; omega, ?_⟩
    rw [rng0]
    refine lcD_m _ (fun j : Nat => .int (if i = j then xs.getD i 0 else 0)) (List.range xs.length) [] (fun j hj k2 hk2 => ?_) ?_
    rotate_left
    · rw [List.nil_append, show ((List.range xs.length).map fun j : Nat => D.int (if i = j then xs.getD i 0 else 0)) = ((List.range xs.length).map fun j => if i = j then xs.getD i 0 else 0).map D.int by rw [List.map_map]; rfl]
      exact hk
    walk_at "ps"
    rw [en i hi]
    have e : ((i : Int) = (j : Int)) ↔ i = j := by omega
    have em : xs.getD i 0 * (if (i : Int) = (j : Int) then 1 else 0) = if i = j then xs.getD i 0 else 0 := by
      by_cases z : i = j
      · rw [if_pos z, if_pos (e.mpr z), Int.mul_one]
      · rw [if_neg z, if_neg (fun y => z (e.mp y)), Int.mul_zero]
    refine ⟨mul_okR (by split <;> decide) (by split <;> decide), ?_⟩
    rw [em]
    exact hk2
  rw [List.nil_append]
  subst hT
  walk_at "ps"
  refine ⟨rfl, xs.length, diagM xs, rfl, ?_⟩
  simp only [List.length_map, List.length_range]
  refine ⟨by omega, ?_⟩
  refine lcD_m (fun i : Nat => rL ((List.range xs.length).map fun j => if i = j then xs.getD i 0 else 0)) (fun i : Nat => rT ((List.range xs.length).map fun j => if i = j then xs.getD i 0 else 0)) (List.range xs.length) [] (fun i hi k hk => ?_) ?_
  · walk_at "ps"
    exact hk
  rw [List.nil_append]
  have ed : ((List.range xs.length).map fun i : Nat => rT ((List.range xs.length).map fun j => if i = j then xs.getD i 0 else 0)) = (diagM xs).map rT := by
    unfold diagM
    rw [List.map_map]
    rfl
  rw [ed]
  refine ⟨flat_mT _, flat_mT _, ?_⟩
  rw [eqM' rfl]
  exact ⟨(fun e => nomatch e), fun _ => hE _⟩
def bodM : Mx := [[3, -1, -1], [-1, 3, -1], [-1, -1, 3]]
theorem rd_law : ∀ Ed ss Kd, ss.length = 1 → sp_law cl Ed ss Kd → tb_law cl (endsOf Kd noE) (start0 N_law ss) := by
  intro Ed ss Kd hl h
  unfold sp_law at h
  split at h
  · rename_i ns
    obtain ⟨hn, h⟩ := h
    unfold tb_law N_law
    refine seq_gg fun T hT => ?_
    generalize hS : sSeq (sBagCall _ _ _ _) _ = S
    walk_at "ps"
    have hlen : ∀ x : Int, 0 ≤ x → x ≤ 63 → 0 ≤ (if (if x < 3 then x else 3) > 1 then (if x < 3 then x else 3) else 1) ∧ (if (if x < 3 then x else 3) > 1 then (if x < 3 then x else 3) else 1) ≤ 3 := fun x h1 h2 => by
      split <;> split <;> omega
    have hl2 := hlen ns.length (by omega) (by omega)
    generalize (if (if (ns.length : Int) < 3 then (ns.length : Int) else 3) > 1 then (if (ns.length : Int) < 3 then (ns.length : Int) else 3) else 1) = n at *
    refine ⟨by omega, by omega, forD_inv (fun ρ => ∃ o1 o4 o5 o6 o7 o8 o9 o10 o11, ρ = [some (.val (.scr ns)), o1, none, none, o4, o5, o6, o7, o8, o9, o10, o11, none, none, none, none]) ?_ _ _ ⟨_, _, _, _, _, _, _, _, _, rfl⟩ ?_⟩
    · rintro ρ ⟨o1, o4, o5, o6, o7, o8, o9, o10, o11, rfl⟩
      subst hT
      dsimp only
      refine seq_gg fun U hU => ?_
      have z3 : sz 3 := .inr (.inl rfl)
      have rB : rectM 3 bodM := ⟨rfl, fun r hr => by
        simp only [bodM, List.mem_cons, List.not_mem_nil, _root_.or_false] at hr
        rcases hr with rfl | rfl | rfl <;> rfl⟩
      have sB : symM bodM := by unfold symM; decide
      have lB : leM 3 bodM := by unfold leM bodM; decide
      have oB : okM 3 bodM := okM_le rB lB (by decide)
      have pB : PDf 3 bodM := (min_pos z3 rB sB).mp (by decide)
      have fin : U (endsOf Kd noE) [some (.val (.scr ns)), o1, some (.val (Fo cl 3 bodM)), none, o4, o5, o6, o7, o8, o9, o10, o11, none, none, none, none] := by
        subst hU
        refine seq_gg fun U hU => ?_
        have eA : adjM 3 bodM = [[8, 4, 4], [4, 8, 4], [4, 4, 8]] := by decide
        have cA : contM (adjM 3 bodM) = 4 := by rw [eA]; decide
        have c0 : contM (adjM 3 bodM) ≠ 0 := by rw [cA]; decide
        have lA : leM 8 (adjM 3 bodM) := by rw [eA]; unfold leM; decide
        have bA : bdM 1000 (adjM 3 bodM) := bd200 lA (Nat.lt_of_lt_of_le (by decide : 8 < 2 ^ 4) (Nat.pow_le_pow_right (by decide) (by decide)))
        have v1 : okV 3 [1, 1, 0] := okV_le rfl (b := 1) (by decide) (by decide)
        have v2 : okV 3 [0, 1, 1] := okV_le rfl (b := 1) (by decide) (by decide)
        walk_at "ps"
        refine ⟨rfl, 3, bodM, rfl, rfl, 3, bodM, rfl, z3, rB, oB.bd, rfl, 3, bodM, rfl, z3, rB, oB.bd, bA, ?_⟩
        refine ⟨rfl, 3, adjM 3 bodM, rfl, z3, adj_rect 3 bodM, rfl, 3, bodM, rfl, z3, rB, oB.bd, bA, ?_⟩
        refine ⟨rfl, 3, adjM 3 bodM, rfl, z3, adj_rect 3 bodM, bA, c0, ?_⟩
        refine ⟨rfl, 3, clearM (adjM 3 bodM), rfl, ?_⟩
        refine ⟨rfl, by decide, by decide, 3, bodM, [1, 1, 0], [0, 1, 1], rfl, z3, oB, v1, v2, ?_⟩
        refine ⟨rfl, 3, bodM, rfl, z3, oB, by decide, ?_⟩
        have q1 : detN 3 bodM = 16 := by decide
        have q2 : minL 3 bodM = [3, 8, 16] := by decide
        have q3 : clearM (adjM 3 bodM) = [[2, 1, 1], [1, 2, 1], [1, 1, 2]] := by unfold clearM; rw [cA, eA]; decide
        have q4 : dotI [1, 1, 0] (mulV bodM [0, 1, 1]) = 0 := by decide
        have q5 : strF bodM = Str.ofString "form 3 -1 -1/-1 3 -1/-1 -1 3" := by decide +kernel
        rw [q1, q2, cA, q3, q4, q5]
        subst hU
        have fl : D.flat 64 (.lst [.int 16, .tup [.int 3, .int 8, .int 16], .int 4, .tup [.tup [.int 2, .int 1, .int 1], .tup [.int 1, .int 2, .int 1], .tup [.int 1, .int 1, .int 2]], .int 0, .str (Str.ofString "form 3 -1 -1/-1 3 -1/-1 -1 3")]) = true := by decide +kernel
        walk_at "ps"
        refine ⟨by decide, by decide, by decide, by decide, by decide, by decide, fl, fl, ?_⟩
        have z : ∀ x y : D, x = y → D.flat 64 y = true → (x.eqv y) = true := fun x y e f => by rw [e]; exact eqv_same f
        exact Eq.mp (congrArg (fun b => Kd (.bl b)) (z _ _ rfl fl).symm) h
      clear hU
      walk_at "ps"
      refine ⟨by decide, by decide, by decide, by decide, 3, bodM, _, rfl, z3, rB, oB.bd, .inr ⟨rfl, oB, sB, pB⟩, fin⟩
    · rintro d hd ρ ⟨o1, o4, o5, o6, o7, o8, o9, o10, o11, rfl⟩ nx hnx
      obtain ⟨i, rfl, hi⟩ := rngD_mem hd
      clear hd hT
      subst hS
      show (sSeq _ _) _ (List.set _ _ _)
      refine seq_gg fun U hU => ?_
      walk_at "ps"
      refine ⟨by omega, by omega, by decide, ?_⟩
      subst hU
      refine seq_gg fun U hU => ?_
      walk_at "ps"
      refine fun m hm => ?_
      subst hU
      refine seq_gg fun U hU => ?_
      walk_at "ps"
      refine ⟨m, rfl, hm, fun A tA pA => ⟨m, rfl, hm, fun B tB pB => ?_⟩⟩
      have tA' : Tab m (10 ^ 30) A := tA.mono (by decide)
      have oA : okM m A := tA'.ok (by decide)
      have oB : okM m B := tB.ok (by decide)
      subst hU
      refine seq_gg fun U hU => ?_
      walk_at "ps"
      refine ⟨m, A, rfl, hm, tA', pA, m, B, rfl, hm, tB, pB, m, A, _, rfl, hm, tA.1, oA.bd, .inr ⟨rfl, oA, tA.2.1, pA⟩, m, B, _, rfl, hm, tB.1, oB.bd, .inr ⟨rfl, oB, tB.2.1, pB⟩, m, A, _, rfl, .inl ⟨m, B, rfl, flat_mT A, flat_mT B, rfl, rfl, ?_⟩⟩
      rw [eqv_mT, eqv_same rfl]
      refine ⟨(fun e => nomatch e), fun _ => ?_⟩
      subst hU
      refine seq_gg fun U hU => ?_
      walk_at "ps"
      refine ⟨m, A, rfl, hm, tA', pA, m, B, rfl, hm, tB, pB, ?_⟩
      subst hU
      refine seq_gg fun U hU => ?_
      walk_at "ps"
      refine ⟨by decide, by decide, by decide, lcD_P _ (fun d => ∃ x : Int, d = .int x ∧ 1 ≤ x ∧ x ≤ 1000) (List.range (4 : Int).toNat) [] (fun i hi k hk => ?_) fun vs vl hvs => ?_⟩
      · walk_at "ps"
        exact ⟨9, rfl, by decide, by decide +kernel, fun g hg0 hg1 => hk _ ⟨1 + g, rfl, by omega, by omega⟩⟩
      obtain ⟨ms, rfl, hms⟩ := coll D.int (fun x => 1 ≤ x ∧ x ≤ 1000) vs hvs
      rw [List.length_map] at vl
      obtain ⟨a, b, c, d, rfl⟩ := len4 (show ms.length = 4 from vl)
      rw [List.nil_append]
      have ha := hms a (by simp)
      have hb := hms b (by simp)
      have hc := hms c (by simp)
      have hd := hms d (by simp)
      subst hU
      refine seq_gg fun U hU => ?_
      have i0 : atI [D.int a, .int b, .int c, .int d] 0 = some (.int a) := rfl
      have i1 : atI [D.int a, .int b, .int c, .int d] 1 = some (.int b) := rfl
      have i2 : atI [D.int a, .int b, .int c, .int d] 2 = some (.int c) := rfl
      have i3 : atI [D.int a, .int b, .int c, .int d] 3 = some (.int d) := rfl
      walk_at "ps"
      simp only [i0, i1, i2]
      have b2 : ∀ x ∈ [a, b], 1 ≤ x ∧ x ≤ 1000 := fun x hx => hms x (List.mem_of_mem_take (i := 2) hx)
      have b3 : ∀ x ∈ [a, b, c], 1 ≤ x ∧ x ≤ 1000 := fun x hx => hms x (List.mem_of_mem_take (i := 3) hx)
      refine ⟨[a, b], rfl, .inl rfl, b2, [a, b, c], rfl, .inr (.inl rfl), b3, by decide, ?_⟩
      subst hU
      show sFor _ (gN 8) (diaB cl) _ _
      walk_at "ps"
      simp only [i0, i1, i2, i3]
      refine ⟨[a, b, c, d], rfl, .inr (.inr rfl), hms, by decide, by decide, ?_⟩
      refine forD_inv (fun ρ => ∃ o8 o11, ρ = [some (.val (.scr ns)), some (.val (.int (0 + (i : Int)))), none, none, some .bag, some (.val (.int (m : Nat))), some (.val (rL [a, b, c, d])), some (.val (.lst [Fo cl 2 (diagM [a, b]), Fo cl 3 (diagM [a, b, c])])), o8, some (.val (mT A)), some (.val (mT B)), o11, none, none, none, none]) ?_ _ _ ⟨_, _, rfl⟩ ?_
      · rintro ρ ⟨o8, o11, rfl⟩
        exact hnx _ ⟨_, _, _, _, _, _, _, _, _, rfl⟩
      · rintro dd hdd ρ ⟨o8, o11, rfl⟩ nx2 hnx2
        simp only [List.mem_cons, List.not_mem_nil, _root_.or_false] at hdd
        rcases hdd with rfl | rfl | rfl
        · exact dia_body (ns := [a, b, c, d]) (xs := [a, b]) (by show 2 ≤ 4; decide) (fun i hi => by
            have hi : i < 2 := hi
            match i, hi with
            | 0, _ => rfl
            | 1, _ => rfl) (by show 2 ≤ 4; decide) b2 (fun o => hnx2 _ ⟨_, _, rfl⟩)
        · exact dia_body (ns := [a, b, c, d]) (xs := [a, b, c]) (by show 3 ≤ 4; decide) (fun i hi => by
            have hi : i < 3 := hi
            match i, hi with
            | 0, _ => rfl
            | 1, _ => rfl
            | 2, _ => rfl) (by show 3 ≤ 4; decide) b3 (fun o => hnx2 _ ⟨_, _, rfl⟩)
        · exact dia_body (ns := [a, b, c, d]) (xs := [a, b, c, d]) (Nat.le_refl _) (fun i hi => rfl) (by show 4 ≤ 4; decide) hms (fun o => hnx2 _ ⟨_, _, rfl⟩)
  · exact h.elim

/-! ### the places of the text -/
def top (i : Nat) : Stmt := PySem.Challenge.pw_ballgrids_k07_forms_told.main.body.getD i (.Pass ⟨0, 0, 0, 0⟩)
abbrev s_l_bag : Stmt := top 43
abbrev s_l_grab : Stmt := top 44
abbrev s_l_one_of : Stmt := top 45
abbrev s_l_size : Stmt := top 47
abbrev s_l_names : Stmt := top 52
abbrev s_l_told : Stmt := top 53
abbrev s_l_determinant : Stmt := top 65
abbrev s_l_adjoint : Stmt := top 66
abbrev s_l_plain_rays : Stmt := top 54
abbrev s_l_mixed : Stmt := top 46
abbrev s_l_summed : Stmt := top 55
abbrev s_l_number : Stmt := top 48
abbrev s_l_some_row : Stmt := top 49
abbrev s_l_some_table : Stmt := top 50
abbrev s_l_plus : Stmt := top 67
abbrev s_l_begun : Stmt := top 56
abbrev s_l_is_positive : Stmt := top 68
abbrev s_l_matrix : Stmt := top 51
abbrev s_l_turned : Stmt := top 61
abbrev s_l_row_led : Stmt := top 62
abbrev s_l_product : Stmt := top 63
abbrev s_l_led : Stmt := top 64
abbrev s_l_positive : Stmt := top 57
abbrev s_l_wide : Stmt := top 58
abbrev s_size_told : Stmt := top 22
abbrev s_is_whole : Stmt := top 10
abbrev s_is_integer : Stmt := top 11
abbrev s_is_row_of : Stmt := top 17
abbrev s_are_rows_of : Stmt := top 18
abbrev s_is_even : Stmt := top 19
abbrev s_is_table_of : Stmt := top 20
abbrev s_corner_of : Stmt := top 32
abbrev s_determinant_of : Stmt := top 14
abbrev s_minors_in : Stmt := top 33
abbrev s_is_positive_in : Stmt := top 34
abbrev s_table_told : Stmt := top 36
abbrev s_Form___init__ : Stmt := memb (top 37) 1
abbrev s_Form___len__ : Stmt := memb (top 37) 16
abbrev s_Form_determinant : Stmt := memb (top 37) 5
abbrev s_Form_table : Stmt := memb (top 37) 4
abbrev s_Form_size : Stmt := memb (top 37) 3
abbrev s_Form_minors : Stmt := memb (top 37) 6
abbrev s_without : Stmt := top 23
abbrev s_cofactor : Stmt := top 24
abbrev s_adjoint_of : Stmt := top 25
abbrev s_Sure___init__ : Stmt := memb (top 35) 1
abbrev s_form_with : Stmt := top 38
abbrev s_Form_adjoint : Stmt := memb (top 37) 7
abbrev s_divisor_of : Stmt := top 12
abbrev s_content_in : Stmt := top 39
abbrev s_Form_content : Stmt := memb (top 37) 8
abbrev s_l_common : Stmt := top 69
abbrev s_l_content : Stmt := top 70
abbrev s_Form___str__ : Stmt := memb (top 37) 17
abbrev s_cleared_table : Stmt := top 40
abbrev s_Form_cleared : Stmt := memb (top 37) 12
abbrev s_l_cleared : Stmt := top 71
abbrev s_Form___eq__ : Stmt := memb (top 37) 15
abbrev s_l_is_told : Stmt := top 72
abbrev s_require_row : Stmt := top 21
abbrev s_dot : Stmt := top 26
abbrev s_row_led : Stmt := top 27
abbrev s_pairing_in : Stmt := top 28
abbrev s_value_in : Stmt := top 29
abbrev s_Form_value : Stmt := memb (top 37) 9
abbrev s_l_pairing : Stmt := top 59
abbrev s_l_value : Stmt := top 60
abbrev s_Form_pairing : Stmt := memb (top 37) 10
abbrev s_l_values_right : Stmt := top 73
abbrev s_Form_diagonal : Stmt := memb (top 37) 2
abbrev s_law : Stmt := top 74
theorem sc_l_bag : FnScope N_l_bag ["_law_script", "_law_spot"] (defScope s_l_bag) := ⟨rfl, rfl, rfl, by decide +kernel, rfl, by decide +kernel, by decide +kernel⟩
theorem sc_l_grab : FnScope N_l_grab ["_law_bag_here", "_law_total"] (defScope s_l_grab) := ⟨rfl, rfl, rfl, by decide +kernel, rfl, by decide +kernel, by decide +kernel⟩
theorem sc_l_one_of : FnScope N_l_one_of ["_law_bag_here", "_law_items"] (defScope s_l_one_of) := ⟨rfl, rfl, rfl, by decide +kernel, rfl, by decide +kernel, by decide +kernel⟩
theorem sc_l_size : FnScope N_l_size ["_law_bag_here"] (defScope s_l_size) := ⟨rfl, rfl, rfl, by decide +kernel, rfl, by decide +kernel, by decide +kernel⟩
theorem sc_l_names : FnScope N_l_names ["_law_size_here"] (defScope s_l_names) := ⟨rfl, rfl, rfl, by decide +kernel, rfl, by decide +kernel, by decide +kernel⟩
theorem sc_l_told : FnScope N_l_told ["_law_name"] (defScope s_l_told) := ⟨rfl, rfl, rfl, by decide +kernel, rfl, by decide +kernel, by decide +kernel⟩
theorem sc_l_determinant : FnScope N_l_determinant ["_law_rows"] (defScope s_l_determinant) := ⟨rfl, rfl, rfl, by decide +kernel, rfl, by decide +kernel, by decide +kernel⟩
theorem sc_l_adjoint : FnScope N_l_adjoint ["_law_table"] (defScope s_l_adjoint) := ⟨rfl, rfl, rfl, by decide +kernel, rfl, by decide +kernel, by decide +kernel⟩
theorem sc_l_plain_rays : FnScope N_l_plain_rays ["_law_size_here"] (defScope s_l_plain_rays) := ⟨rfl, rfl, rfl, by decide +kernel, rfl, by decide +kernel, by decide +kernel⟩
theorem sc_l_mixed : FnScope N_l_mixed ["_law_bag_here", "_law_items"] (defScope s_l_mixed) := ⟨rfl, rfl, rfl, by decide +kernel, rfl, by decide +kernel, by decide +kernel⟩
theorem sc_l_summed : FnScope N_l_summed ["_law_size_here", "_law_rows", "_law_weights"] (defScope s_l_summed) := ⟨rfl, rfl, rfl, by decide +kernel, rfl, by decide +kernel, by decide +kernel⟩
theorem sc_l_number : FnScope N_l_number ["_law_bag_here", "_law_spread"] (defScope s_l_number) := ⟨rfl, rfl, rfl, by decide +kernel, rfl, by decide +kernel, by decide +kernel⟩
theorem sc_l_some_row : FnScope N_l_some_row ["_law_bag_here", "_law_size_here", "_law_spread"] (defScope s_l_some_row) := ⟨rfl, rfl, rfl, by decide +kernel, rfl, by decide +kernel, by decide +kernel⟩
theorem sc_l_some_table : FnScope N_l_some_table ["_law_bag_here", "_law_size_here", "_law_spread"] (defScope s_l_some_table) := ⟨rfl, rfl, rfl, by decide +kernel, rfl, by decide +kernel, by decide +kernel⟩
theorem sc_l_plus : FnScope N_l_plus ["_law_one", "_law_other", "_law_factor"] (defScope s_l_plus) := ⟨rfl, rfl, rfl, by decide +kernel, rfl, by decide +kernel, by decide +kernel⟩
theorem sc_l_begun : FnScope N_l_begun ["_law_bag_here", "_law_size_here"] (defScope s_l_begun) := ⟨rfl, rfl, rfl, by decide +kernel, rfl, by decide +kernel, by decide +kernel⟩
theorem sc_l_is_positive : FnScope N_l_is_positive ["_law_table"] (defScope s_l_is_positive) := ⟨rfl, rfl, rfl, by decide +kernel, rfl, by decide +kernel, by decide +kernel⟩
theorem sc_l_matrix : FnScope N_l_matrix ["_law_bag_here", "_law_size_here", "_law_most"] (defScope s_l_matrix) := ⟨rfl, rfl, rfl, by decide +kernel, rfl, by decide +kernel, by decide +kernel⟩
theorem sc_l_turned : FnScope N_l_turned ["_law_rows"] (defScope s_l_turned) := ⟨rfl, rfl, rfl, by decide +kernel, rfl, by decide +kernel, by decide +kernel⟩
theorem sc_l_row_led : FnScope N_l_row_led ["_law_matrix_here", "_law_row"] (defScope s_l_row_led) := ⟨rfl, rfl, rfl, by decide +kernel, rfl, by decide +kernel, by decide +kernel⟩
theorem sc_l_product : FnScope N_l_product ["_law_one", "_law_other"] (defScope s_l_product) := ⟨rfl, rfl, rfl, by decide +kernel, rfl, by decide +kernel, by decide +kernel⟩
theorem sc_l_led : FnScope N_l_led ["_law_table", "_law_matrix_here"] (defScope s_l_led) := ⟨rfl, rfl, rfl, by decide +kernel, rfl, by decide +kernel, by decide +kernel⟩
theorem sc_l_positive : FnScope N_l_positive ["_law_bag_here", "_law_size_here"] (defScope s_l_positive) := ⟨rfl, rfl, rfl, by decide +kernel, rfl, by decide +kernel, by decide +kernel⟩
theorem sc_l_wide : FnScope N_l_wide ["_law_bag_here", "_law_size_here"] (defScope s_l_wide) := ⟨rfl, rfl, rfl, by decide +kernel, rfl, by decide +kernel, by decide +kernel⟩
theorem sc_size_told : FnScope N_size_told ["value"] (defScope s_size_told) := ⟨rfl, rfl, rfl, by decide +kernel, rfl, by decide +kernel, by decide +kernel⟩
theorem sc_is_whole : FnScope N_is_whole ["value"] (defScope s_is_whole) := ⟨rfl, rfl, rfl, by decide +kernel, rfl, by decide +kernel, by decide +kernel⟩
theorem sc_is_integer : FnScope N_is_integer ["value"] (defScope s_is_integer) := ⟨rfl, rfl, rfl, by decide +kernel, rfl, by decide +kernel, by decide +kernel⟩
theorem sc_is_row_of : FnScope N_is_row_of ["size", "value"] (defScope s_is_row_of) := ⟨rfl, rfl, rfl, by decide +kernel, rfl, by decide +kernel, by decide +kernel⟩
theorem sc_are_rows_of : FnScope N_are_rows_of ["size", "value"] (defScope s_are_rows_of) := ⟨rfl, rfl, rfl, by decide +kernel, rfl, by decide +kernel, by decide +kernel⟩
theorem sc_is_even : FnScope N_is_even ["rows"] (defScope s_is_even) := ⟨rfl, rfl, rfl, by decide +kernel, rfl, by decide +kernel, by decide +kernel⟩
theorem sc_is_table_of : FnScope N_is_table_of ["size", "value"] (defScope s_is_table_of) := ⟨rfl, rfl, rfl, by decide +kernel, rfl, by decide +kernel, by decide +kernel⟩
theorem sc_corner_of : FnScope N_corner_of ["table", "many"] (defScope s_corner_of) := ⟨rfl, rfl, rfl, by decide +kernel, rfl, by decide +kernel, by decide +kernel⟩
theorem sc_determinant_of : FnScope N_determinant_of ["lines"] (defScope s_determinant_of) := ⟨rfl, rfl, rfl, by decide +kernel, rfl, by decide +kernel, by decide +kernel⟩
theorem sc_minors_in : FnScope N_minors_in ["table"] (defScope s_minors_in) := ⟨rfl, rfl, rfl, by decide +kernel, rfl, by decide +kernel, by decide +kernel⟩
theorem sc_is_positive_in : FnScope N_is_positive_in ["table"] (defScope s_is_positive_in) := ⟨rfl, rfl, rfl, by decide +kernel, rfl, by decide +kernel, by decide +kernel⟩
theorem sc_table_told : FnScope N_table_told ["value"] (defScope s_table_told) := ⟨rfl, rfl, rfl, by decide +kernel, rfl, by decide +kernel, by decide +kernel⟩
theorem sc_Form___init__ : FnScope N_Form___init__ ["self", "table"] (defScope s_Form___init__) := ⟨rfl, rfl, rfl, by decide +kernel, rfl, by decide +kernel, by decide +kernel⟩
theorem sc_Form___len__ : FnScope N_Form___len__ ["self"] (defScope s_Form___len__) := ⟨rfl, rfl, rfl, by decide +kernel, rfl, by decide +kernel, by decide +kernel⟩
theorem sc_Form_determinant : FnScope N_Form_determinant ["self"] (defScope s_Form_determinant) := ⟨rfl, rfl, rfl, by decide +kernel, rfl, by decide +kernel, by decide +kernel⟩
theorem sc_Form_table : FnScope N_Form_table ["self"] (defScope s_Form_table) := ⟨rfl, rfl, rfl, by decide +kernel, rfl, by decide +kernel, by decide +kernel⟩
theorem sc_Form_size : FnScope N_Form_size ["self"] (defScope s_Form_size) := ⟨rfl, rfl, rfl, by decide +kernel, rfl, by decide +kernel, by decide +kernel⟩
theorem sc_Form_minors : FnScope N_Form_minors ["self"] (defScope s_Form_minors) := ⟨rfl, rfl, rfl, by decide +kernel, rfl, by decide +kernel, by decide +kernel⟩
theorem sc_without : FnScope N_without ["rows", "at", "place"] (defScope s_without) := ⟨rfl, rfl, rfl, by decide +kernel, rfl, by decide +kernel, by decide +kernel⟩
theorem sc_cofactor : FnScope N_cofactor ["rows", "at", "place"] (defScope s_cofactor) := ⟨rfl, rfl, rfl, by decide +kernel, rfl, by decide +kernel, by decide +kernel⟩
theorem sc_adjoint_of : FnScope N_adjoint_of ["rows"] (defScope s_adjoint_of) := ⟨rfl, rfl, rfl, by decide +kernel, rfl, by decide +kernel, by decide +kernel⟩
theorem sc_Sure___init__ : FnScope N_Sure___init__ ["self", "table"] (defScope s_Sure___init__) := ⟨rfl, rfl, rfl, by decide +kernel, rfl, by decide +kernel, by decide +kernel⟩
theorem sc_form_with : FnScope N_form_with ["table"] (defScope s_form_with) := ⟨rfl, rfl, rfl, by decide +kernel, rfl, by decide +kernel, by decide +kernel⟩
theorem sc_Form_adjoint : FnScope N_Form_adjoint ["self"] (defScope s_Form_adjoint) := ⟨rfl, rfl, rfl, by decide +kernel, rfl, by decide +kernel, by decide +kernel⟩
theorem sc_divisor_of : FnScope N_divisor_of ["numbers"] (defScope s_divisor_of) := ⟨rfl, rfl, rfl, by decide +kernel, rfl, by decide +kernel, by decide +kernel⟩
theorem sc_content_in : FnScope N_content_in ["table"] (defScope s_content_in) := ⟨rfl, rfl, rfl, by decide +kernel, rfl, by decide +kernel, by decide +kernel⟩
theorem sc_Form_content : FnScope N_Form_content ["self"] (defScope s_Form_content) := ⟨rfl, rfl, rfl, by decide +kernel, rfl, by decide +kernel, by decide +kernel⟩
theorem sc_l_common : FnScope N_l_common ["_law_numbers"] (defScope s_l_common) := ⟨rfl, rfl, rfl, by decide +kernel, rfl, by decide +kernel, by decide +kernel⟩
theorem sc_l_content : FnScope N_l_content ["_law_table"] (defScope s_l_content) := ⟨rfl, rfl, rfl, by decide +kernel, rfl, by decide +kernel, by decide +kernel⟩
theorem sc_Form___str__ : FnScope N_Form___str__ ["self"] (defScope s_Form___str__) := ⟨rfl, rfl, rfl, by decide +kernel, rfl, by decide +kernel, by decide +kernel⟩
theorem sc_cleared_table : FnScope N_cleared_table ["table"] (defScope s_cleared_table) := ⟨rfl, rfl, rfl, by decide +kernel, rfl, by decide +kernel, by decide +kernel⟩
theorem sc_Form_cleared : FnScope N_Form_cleared ["self"] (defScope s_Form_cleared) := ⟨rfl, rfl, rfl, by decide +kernel, rfl, by decide +kernel, by decide +kernel⟩
theorem sc_l_cleared : FnScope N_l_cleared ["_law_table"] (defScope s_l_cleared) := ⟨rfl, rfl, rfl, by decide +kernel, rfl, by decide +kernel, by decide +kernel⟩
theorem sc_Form___eq__ : FnScope N_Form___eq__ ["self", "other"] (defScope s_Form___eq__) := ⟨rfl, rfl, rfl, by decide +kernel, rfl, by decide +kernel, by decide +kernel⟩
theorem sc_l_is_told : FnScope N_l_is_told ["_law_table"] (defScope s_l_is_told) := ⟨rfl, rfl, rfl, by decide +kernel, rfl, by decide +kernel, by decide +kernel⟩
theorem sc_require_row : FnScope N_require_row ["size", "value"] (defScope s_require_row) := ⟨rfl, rfl, rfl, by decide +kernel, rfl, by decide +kernel, by decide +kernel⟩
theorem sc_dot : FnScope N_dot ["one", "other"] (defScope s_dot) := ⟨rfl, rfl, rfl, by decide +kernel, rfl, by decide +kernel, by decide +kernel⟩
theorem sc_row_led : FnScope N_row_led ["matrix", "row"] (defScope s_row_led) := ⟨rfl, rfl, rfl, by decide +kernel, rfl, by decide +kernel, by decide +kernel⟩
theorem sc_pairing_in : FnScope N_pairing_in ["table", "one", "other"] (defScope s_pairing_in) := ⟨rfl, rfl, rfl, by decide +kernel, rfl, by decide +kernel, by decide +kernel⟩
theorem sc_value_in : FnScope N_value_in ["table", "row"] (defScope s_value_in) := ⟨rfl, rfl, rfl, by decide +kernel, rfl, by decide +kernel, by decide +kernel⟩
theorem sc_Form_value : FnScope N_Form_value ["self", "row"] (defScope s_Form_value) := ⟨rfl, rfl, rfl, by decide +kernel, rfl, by decide +kernel, by decide +kernel⟩
theorem sc_l_pairing : FnScope N_l_pairing ["_law_table", "_law_one", "_law_other"] (defScope s_l_pairing) := ⟨rfl, rfl, rfl, by decide +kernel, rfl, by decide +kernel, by decide +kernel⟩
theorem sc_l_value : FnScope N_l_value ["_law_table", "_law_row"] (defScope s_l_value) := ⟨rfl, rfl, rfl, by decide +kernel, rfl, by decide +kernel, by decide +kernel⟩
theorem sc_Form_pairing : FnScope N_Form_pairing ["self", "one", "other"] (defScope s_Form_pairing) := ⟨rfl, rfl, rfl, by decide +kernel, rfl, by decide +kernel, by decide +kernel⟩
theorem sc_l_values_right : FnScope N_l_values_right ["_law_bag_here", "_law_table"] (defScope s_l_values_right) := ⟨rfl, rfl, rfl, by decide +kernel, rfl, by decide +kernel, by decide +kernel⟩
theorem sc_Form_diagonal : FnScope N_Form_diagonal ["cls", "numbers"] (defScope s_Form_diagonal) := ⟨rfl, rfl, rfl, by decide +kernel, rfl, by decide +kernel, by decide +kernel⟩
theorem sc_law : FnScope N_law ["_law_script"] (defScope s_law) := ⟨rfl, rfl, rfl, by decide +kernel, rfl, by decide +kernel, by decide +kernel⟩
/-- what the module's own names hold -/
structure Blt (K : PySem.W.Frag) (mg : Str → Option Value) : Prop where
  b_abs : mg "abs" = none
  b_all : mg "all" = none
  b_bool : mg "bool" = none
  b_enumerate : mg "enumerate" = none
  b_int : mg "int" = none
  b_isinstance : mg "isinstance" = none
  b_len : mg "len" = none
  b_list : mg "list" = none
  b_max : mg "max" = none
  b_min : mg "min" = none
  b_range : mg "range" = none
  b_str : mg "str" = none
  b_sum : mg "sum" = none
  b_tuple : mg "tuple" = none
  b_zip : mg "zip" = none
  f_gcd : mg "gcd" = some (.builtin "math.gcd")
  c_BEYOND : ∃ t, mg "BEYOND" = some (.int (1000000000000000000000000000000000000000000000000000000000000) t)
  t_SIZES : ∃ a, mg "SIZES" = some (.ref a) ∧ TupIn K a [2, 3, 4]
section
variable {P : Program} {w : World} {K : PySem.W.Frag} {mg : Str → Option Value} {base : Heap}
theorem ok_l_bag (bl : Blt K mg) {f : Addr} {fd : FuncData} (F : Fun K "_law_bag" "_law_bag" s_l_bag f fd) : FnG P w K mg base CX0 1 f (spN K 2 sp_l_bag) :=
  fn_okN F sc_l_bag rfl (fun _ _ _ _ _ _ us hl => match us, hl with | [_, _], _ => rfl) (fun cdv A outer s H E hg hr => b_cons (s_set 2 sc_l_bag.nd (d_if (t_cmp op_lt od_cmp (d_var 1) (d_callB call_len cd_len bl.b_len bt_len (v_cons (d_var 0) (v_nil))) (nomark _)) (d_ix (d_var 0) (d_var 1)) (d_op op_addA od_add (d_op op_addA od_add (d_callB (cr_sum rfl) cd_sum bl.b_sum bt_sum (v_cons (d_slice (d_var 0) (o_none) (o_some (d_int))) (v_nil))) (d_op op_mulA od_mul (d_int) (d_var 1))) (d_int)))) (b_cons (s_set 3 sc_l_bag.nd (d_op op_modN od_int2 (d_callTy call_int1 cd_int bl.b_int bt_int (v_cons (d_callB call_abs cd_abs bl.b_abs bt_abs (v_cons (d_var 2) (v_nil))) (v_nil))) (d_op op_powB od_int2 (d_op op_powB od_int2 (d_int) (d_int)) (d_int)))) (b_cons (s_set 4 sc_l_bag.nd (d_op op_addA od_add (d_op op_addA od_add (d_op op_addA od_add (d_op op_mulA od_mul (d_op op_modN od_int2 (d_callTy call_int1 cd_int bl.b_int bt_int (v_cons (d_var 3) (v_nil))) (d_int)) (d_int)) (d_op op_mulA od_mul (d_int) (d_var 1))) (d_op op_mulA od_mul (d_int) (d_callTy call_int1 cd_int bl.b_int bt_int (v_cons (d_cmp op_lt od_cmp (d_var 2) (d_int) (nomark _)) (v_nil))))) (d_int))) (b_one (s_retL (v_cons (d_callB (call_max2 rfl) cd_2I bl.b_max bt_max (v_cons (d_int) (v_cons (d_op op_sub od_sub (d_var 3) (d_op op_powB od_int2 (d_int) (d_int))) (v_nil)))) (v_cons (d_op op_modN od_int2 (d_callTy call_int1 cd_int bl.b_int bt_int (v_cons (d_var 4) (v_nil))) (d_int)) (v_cons (d_int) (v_nil))))))))) rd_l_bag
theorem ok_l_grab (bl : Blt K mg) {f : Addr} {fd : FuncData} (F : Fun K "_law_grab" "_law_grab" s_l_grab f fd) : FnG P w K mg base CX0 1 f (spD K 2 sp_l_grab) :=
  fn_ok F sc_l_grab rfl (fun _ _ _ _ _ _ us hl => match us, hl with | [_, _], _ => rfl) (fun cdv A outer s H E hg hr => b_cons (s_if (t_cmp op_gt od_cmp (d_bag 0 0) (d_int) (nomark _)) (b_cons (s_set 4 sc_l_grab.nd (d_op op_modN od_int2 (d_callTy call_int1 cd_int bl.b_int bt_int (v_cons (d_bag 0 0) (v_nil))) (d_var 1))) (b_cons (s_bag 0 0 (d_op op_fdivB od_int2 (d_bag 0 0) (d_var 1))) (b_one (s_ret (d_var 4))))) (b_nil)) (b_cons (s_bag 0 2 (d_op op_addA od_add (d_bag 0 2) (d_int))) (b_cons (s_set 2 sc_l_grab.nd (d_op op_modN od_int2 (d_callTy call_int1 cd_int bl.b_int bt_int (v_cons (d_op op_addA od_add (d_bag 0 1) (d_op op_mulA od_mul (d_int) (d_bag 0 2))) (v_nil))) (d_int))) (b_cons (s_set 3 sc_l_grab.nd (d_op op_addA od_add (d_op op_mulA od_mul (d_op op_modN od_int2 (d_callTy call_int1 cd_int bl.b_int bt_int (v_cons (d_op op_mulA od_mul (d_var 2) (d_var 2)) (v_nil))) (d_int)) (d_var 2)) (d_op op_mulA od_mul (d_int) (d_bag 0 2)))) (b_one (s_ret (d_op op_modN od_int2 (d_callTy call_int1 cd_int bl.b_int bt_int (v_cons (d_op op_fdivB od_int2 (d_op op_modN od_int2 (d_callTy call_int1 cd_int bl.b_int bt_int (v_cons (d_var 3) (v_nil))) (d_int)) (d_int)) (v_nil))) (d_var 1)))))))) rd_l_grab
theorem ok_l_one_of (bl : Blt K mg) (c_l_grab : Callee P w K mg base CX0 1 "_law_grab" 2 sp_l_grab) {f : Addr} {fd : FuncData} (F : Fun K "_law_one_of" "_law_one_of" s_l_one_of f fd) : FnG P w K mg base CX0 2 f (spD K 2 sp_l_one_of) :=
  fn_ok F sc_l_one_of rfl (fun _ _ _ _ _ _ us hl => match us, hl with | [_, _], _ => rfl) (fun cdv A outer s H E hg hr => b_one (s_ret (d_ix (d_var 1) (d_call c_l_grab hg (hr.mono (by decide)) passN (a_cons (x_var 0) (a_cons (x_val (d_callB call_len cd_len bl.b_len bt_len (v_cons (d_var 1) (v_nil)))) (a_nil))))))) rd_l_one_of
theorem ok_l_size (bl : Blt K mg) (c_l_one_of : Callee P w K mg base CX0 2 "_law_one_of" 2 sp_l_one_of) {f : Addr} {fd : FuncData} (F : Fun K "_law_size" "_law_size" s_l_size f fd) : FnG P w K mg base CX0 3 f (spD K 1 sp_l_size) :=
  fn_ok F sc_l_size rfl (fun _ _ _ _ _ _ us hl => match us, hl with | [_], _ => rfl) (fun cdv A outer s H E hg hr => b_one (s_ret (d_call c_l_one_of hg (hr.mono (by decide)) passN (a_cons (x_var 0) (a_cons (x_val (d_lst (v_cons (d_int) (v_cons (d_int) (v_cons (d_int) (v_cons (d_int) (v_cons (d_int) (v_cons (d_int) (v_cons (d_int) (v_nil)))))))))) (a_nil)))))) rd_l_size
theorem ok_l_names (bl : Blt K mg) {f : Addr} {fd : FuncData} (F : Fun K "_law_names" "_law_names" s_l_names f fd) : FnG P w K mg base CX0 1 f (spD K 1 sp_l_names) :=
  fn_ok F sc_l_names rfl (fun _ _ _ _ _ _ us hl => match us, hl with | [_], _ => rfl) (fun cdv A outer s H E hg hr => b_one (s_ret (d_if (t_cmp (op_eqA hr.units) od_eq (d_var 0) (d_int) (nomark _)) (d_lst (v_cons (d_str) (v_cons (d_str) (v_nil)))) (d_lst (v_cons (d_op op_addA od_add (d_str) (d_callTy call_str_int cd_strI bl.b_str bt_str (v_cons (d_var 0) (v_nil)))) (v_nil)))))) rd_l_names
theorem ok_l_told (bl : Blt K mg) {f : Addr} {fd : FuncData} (F : Fun K "_law_told" "_law_told" s_l_told f fd) : FnG P w K mg base CX0 1 f (spD K 1 sp_l_told) :=
  fn_ok F sc_l_told rfl (fun _ _ _ _ _ _ us hl => match us, hl with | [_], _ => rfl) (fun cdv A outer s H E hg hr => b_cons (s_if (t_cmp (op_eqA hr.units) od_eq (d_var 0) (d_str) (nomark _)) (b_one (s_ret (d_tup (v_cons (d_tup (v_cons (d_int) (v_cons (d_int) (v_cons (d_int) (v_cons (d_int) (v_nil)))))) (v_cons (d_tup (v_cons (d_int) (v_cons (d_int) (v_cons (d_int) (v_cons (d_int) (v_nil)))))) (v_cons (d_tup (v_cons (d_int) (v_cons (d_int) (v_cons (d_int) (v_cons (d_int) (v_nil)))))) (v_cons (d_tup (v_cons (d_int) (v_cons (d_int) (v_cons (d_int) (v_cons (d_int) (v_nil)))))) (v_nil)))))))) (b_nil)) (b_cons (s_set 1 sc_l_told.nd (d_callTy call_int_str cd_intS bl.b_int bt_int (v_cons (d_sliceS (d_var 0) (o_some (d_int)) (o_none)) v_nil))) (b_one (s_ret (d_callTy call_tuple_of cd_tuple bl.b_tuple bt_tuple (v_cons (d_lc (own := [("_law_at", 2)]) rfl sc_l_told.nd (i_range1 (d_var 1) bl.b_range) (blkOk_by (own := [("_law_at", 2)]) (N := N_l_told) (sc := defScope s_l_told) (by decide +kernel)) (fun _ _ _ _ _ => g_name 2 sc_l_told.nd) (fun _ _ _ _ _ => ts_nil) (fun _ _ _ _ _ => d_callTy call_tuple_of cd_tuple bl.b_tuple bt_tuple (v_cons (d_lc (own := [("_law_to", 3)]) rfl sc_l_told.nd (i_range1 (d_var 1) bl.b_range) (blkOk_by (own := [("_law_to", 3)]) (N := N_l_told) rfl) (fun _ _ _ _ _ => g_name 3 sc_l_told.nd) (fun _ _ _ _ _ => ts_nil) (fun _ _ _ _ _ => d_op op_addA od_add (d_int) (d_callTy call_int1 cd_int bl.b_int bt_int (v_cons (d_cmp (op_eqA hr.units) od_eq (d_var 2) (d_var 3) (nomark _)) (v_nil))))) (v_nil)))) (v_nil))))))) rd_l_told
theorem ok_l_determinant (bl : Blt K mg) {f : Addr} {fd : FuncData} (F : Fun K "_law_determinant" "_law_determinant" s_l_determinant f fd) : FnG P w K mg base CX0 1 f (spD K 1 sp_l_determinant) :=
  fn_ok F sc_l_determinant rfl (fun _ _ _ _ _ _ us hl => match us, hl with | [_], _ => rfl) (fun cdv A outer s H E hg hr => b_cons (s_tupO 2 3 4 rfl sc_l_determinant.nd (n_lc (own := [("_law_row", 9)]) rfl sc_l_determinant.nd (i_seq (d_var 0)) (blkOk_by (own := [("_law_row", 9)]) (N := N_l_determinant) (sc := defScope s_l_determinant) (by decide +kernel)) (fun _ _ _ _ _ => g_name 9 sc_l_determinant.nd) (fun _ _ _ _ _ => ts_nil) (fun _ _ _ _ _ => d_callTy call_list_of cd_list bl.b_list bt_list (v_cons (d_var 9) (v_nil)))) (d_int) (d_int) (hw := by rfl)) (b_cons (s_for PassesOwn.never rfl (i_range1 (d_ownLen 2 bl.b_len) bl.b_range) (g_name 1 sc_l_determinant.nd) (b_cons (s_setLc (own := [("_law_place", 7)]) 5 rfl sc_l_determinant.nd rfl rfl (sw_true rfl rfl rfl (by decide +kernel)) (i_range2 (v_cons (d_var 1) (v_cons (d_ownLen 2 bl.b_len) (v_nil))) bl.b_range) (blkOk_by (own := [("_law_place", 7)]) (N := N_l_determinant) (sc := defScope s_l_determinant) (by decide +kernel)) (fun _ _ _ _ _ => g_name 7 sc_l_determinant.nd) (fun _ _ _ _ _ => ts_one (t_cmp (op_neA hr.units) od_ne (d_ix (d_ownIx 2 (d_var 7)) (d_var 1)) (d_int) (nomark _))) (fun _ _ _ _ _ => d_var 7)) (b_cons (s_if (t_cmp (op_eqA hr.units) od_eq (d_var 5) (d_lst (v_nil)) (nomark _)) (b_one (s_ret (d_int))) (b_nil)) (b_cons (s_if (t_cmp (op_neA hr.units) od_ne (d_ix (d_var 5) (d_int)) (d_var 1) (nomark _)) (b_cons (s_ownPair 2 rfl (d_ownIx 2 (d_ix (d_var 5) (d_int))) (d_ownIx 2 (d_var 1)) (d_var 1) (d_ix (d_var 5) (d_int)) (hw := by rfl)) (b_one (s_set 3 sc_l_determinant.nd (d_op op_sub od_sub (d_int) (d_var 3))))) (b_nil)) (b_cons (s_set 6 sc_l_determinant.nd (d_ownIx 2 (d_var 1))) (b_cons (s_for PassesOwn.never rfl (i_range2 (v_cons (d_op op_addA od_add (d_var 1) (d_int)) (v_cons (d_ownLen 2 bl.b_len) (v_nil))) bl.b_range) (g_name 7 sc_l_determinant.nd) (b_cons (s_set 8 sc_l_determinant.nd (d_ownIx 2 (d_var 7))) (b_one (s_ownSet 2 (d_var 7) (d_lc (own := [("_law_one", 10), ("_law_other", 11)]) rfl sc_l_determinant.nd (i_zip (v_cons (d_var 8) (v_cons (d_var 6) (v_nil))) bl.b_zip) (blkOk_by (own := [("_law_one", 10), ("_law_other", 11)]) (N := N_l_determinant) (sc := defScope s_l_determinant) (by decide +kernel)) (fun _ _ _ _ _ => g_tup rfl (gs_cons (g_name 10 sc_l_determinant.nd) (gs_cons (g_name 11 sc_l_determinant.nd) (gs_nil)))) (fun _ _ _ _ _ => ts_nil) (fun _ _ _ _ _ => d_op op_fdivB od_int2 (d_op op_sub od_sub (d_op op_mulA od_mul (d_ix (d_var 6) (d_var 1)) (d_var 10)) (d_op op_mulA od_mul (d_ix (d_var 8) (d_var 1)) (d_var 11))) (d_var 4))))))) (b_one (s_set 4 sc_l_determinant.nd (d_ix (d_var 6) (d_var 1)))))))))) (b_freeze 2 (b_one (s_ret (d_op op_mulA od_mul (d_var 3) (d_var 4))))))) rd_l_determinant
theorem ok_l_adjoint (bl : Blt K mg) (c_l_determinant : Callee P w K mg base CX0 1 "_law_determinant" 1 sp_l_determinant) {f : Addr} {fd : FuncData} (F : Fun K "_law_adjoint" "_law_adjoint" s_l_adjoint f fd) : FnG P w K mg base CX0 2 f (spD K 1 sp_l_adjoint) :=
  fn_ok F sc_l_adjoint rfl (fun _ _ _ _ _ _ us hl => match us, hl with | [_], _ => rfl) (fun cdv A outer s H E hg hr => b_cons (s_tupVO 2 3 rfl sc_l_adjoint.nd (d_callB call_len cd_len bl.b_len bt_len (v_cons (d_var 0) (v_nil))) (n_lst (v_nil)) (hw := by rfl)) (b_cons (s_for PassesOwn.never rfl (i_range1 (d_var 2) bl.b_range) (g_name 1 sc_l_adjoint.nd) (b_cons (s_own 4 sc_l_adjoint.nd (n_lst (v_nil))) (b_cons (s_for PassesOwn.never rfl (i_range1 (d_var 2) bl.b_range) (g_name 5 sc_l_adjoint.nd) (b_cons (s_setLc (own := [("_law_index", 8), ("_law_row", 9)]) 6 rfl sc_l_adjoint.nd rfl rfl (sw_true rfl rfl rfl (by decide +kernel)) (i_enumA (v_cons (d_var 0) (v_nil)) bl.b_enumerate) (blkOk_by (own := [("_law_index", 8), ("_law_row", 9)]) (N := N_l_adjoint) (sc := defScope s_l_adjoint) (by decide +kernel)) (fun _ _ _ _ _ => g_tup rfl (gs_cons (g_name 8 sc_l_adjoint.nd) (gs_cons (g_name 9 sc_l_adjoint.nd) (gs_nil)))) (fun _ _ _ _ _ => ts_one (t_cmp (op_neA hr.units) od_ne (d_var 8) (d_var 5) (nomark _))) (fun _ _ _ _ _ => d_lc (own := [("_law_spot", 7)]) rfl sc_l_adjoint.nd (i_range1 (d_var 2) bl.b_range) (blkOk_by (own := [("_law_spot", 7)]) (N := N_l_adjoint) rfl) (fun _ _ _ _ _ => g_name 7 sc_l_adjoint.nd) (fun _ _ _ _ _ => ts_one (t_cmp (op_neA hr.units) od_ne (d_var 7) (d_var 1) (nomark _))) (fun _ _ _ _ _ => d_ix (d_var 9) (d_var 7)))) (b_one (s_ownApp 4 (d_op op_mulA od_mul (d_call c_l_determinant hg (hr.mono (by decide)) passN (a_cons (x_var 6) (a_nil))) (d_op op_sub od_sub (d_int) (d_op op_mulA od_mul (d_int) (d_op op_modN od_int2 (d_op op_addA od_add (d_var 1) (d_var 5)) (d_int))))))))) (b_freeze 4 (b_one (s_ownApp 3 (d_callTy call_tuple_of cd_tuple bl.b_tuple bt_tuple (v_cons (d_var 4) (v_nil))))))))) (b_freeze 3 (b_one (s_ret (d_callTy call_tuple_of cd_tuple bl.b_tuple bt_tuple (v_cons (d_var 3) (v_nil)))))))) rd_l_adjoint
theorem ok_l_plain_rays (bl : Blt K mg) {f : Addr} {fd : FuncData} (F : Fun K "_law_plain_rays" "_law_plain_rays" s_l_plain_rays f fd) : FnG P w K mg base CX0 1 f (spD K 1 sp_l_plain_rays) :=
  fn_ok F sc_l_plain_rays rfl (fun _ _ _ _ _ _ us hl => match us, hl with | [_], _ => rfl) (fun cdv A outer s H E hg hr => b_cons (s_setLc (own := [("_law_at", 2)]) 1 rfl sc_l_plain_rays.nd rfl rfl (sw_true rfl rfl rfl (by decide +kernel)) (i_range1 (d_var 0) bl.b_range) (blkOk_by (own := [("_law_at", 2)]) (N := N_l_plain_rays) (sc := defScope s_l_plain_rays) (by decide +kernel)) (fun _ _ _ _ _ => g_name 2 sc_l_plain_rays.nd) (fun _ _ _ _ _ => ts_nil) (fun _ _ _ _ _ => d_callTy call_tuple_of cd_tuple bl.b_tuple bt_tuple (v_cons (d_lc (own := [("_law_to", 3)]) rfl sc_l_plain_rays.nd (i_range1 (d_var 0) bl.b_range) (blkOk_by (own := [("_law_to", 3)]) (N := N_l_plain_rays) rfl) (fun _ _ _ _ _ => g_name 3 sc_l_plain_rays.nd) (fun _ _ _ _ _ => ts_nil) (fun _ _ _ _ _ => d_callTy call_int1 cd_int bl.b_int bt_int (v_cons (d_cmp (op_eqA hr.units) od_eq (d_var 2) (d_var 3) (nomark _)) (v_nil)))) (v_nil)))) (b_cons (s_for PassesOwn.never rfl (i_range1 (d_var 0) bl.b_range) (g_name 2 sc_l_plain_rays.nd) (b_one (s_set 1 sc_l_plain_rays.nd (d_op op_addA od_add (d_var 1) (d_lc (own := [("_law_to", 3)]) rfl sc_l_plain_rays.nd (i_range2 (v_cons (d_op op_addA od_add (d_var 2) (d_int)) (v_cons (d_var 0) (v_nil))) bl.b_range) (blkOk_by (own := [("_law_to", 3)]) (N := N_l_plain_rays) (sc := defScope s_l_plain_rays) (by decide +kernel)) (fun _ _ _ _ _ => g_name 3 sc_l_plain_rays.nd) (fun _ _ _ _ _ => ts_nil) (fun _ _ _ _ _ => d_callTy call_tuple_of cd_tuple bl.b_tuple bt_tuple (v_cons (d_lc (own := [("_law_place", 4)]) rfl sc_l_plain_rays.nd (i_range1 (d_var 0) bl.b_range) (blkOk_by (own := [("_law_place", 4)]) (N := N_l_plain_rays) rfl) (fun _ _ _ _ _ => g_name 4 sc_l_plain_rays.nd) (fun _ _ _ _ _ => ts_nil) (fun _ _ _ _ _ => d_op op_sub od_sub (d_callTy call_int1 cd_int bl.b_int bt_int (v_cons (d_cmp (op_eqA hr.units) od_eq (d_var 4) (d_var 2) (nomark _)) (v_nil))) (d_callTy call_int1 cd_int bl.b_int bt_int (v_cons (d_cmp (op_eqA hr.units) od_eq (d_var 4) (d_var 3) (nomark _)) (v_nil))))) (v_nil)))))))) (b_one (s_ret (d_var 1))))) rd_l_plain_rays
theorem ok_l_mixed (bl : Blt K mg) (c_l_grab : Callee P w K mg base CX0 1 "_law_grab" 2 sp_l_grab) {f : Addr} {fd : FuncData} (F : Fun K "_law_mixed" "_law_mixed" s_l_mixed f fd) : FnG P w K mg base CX0 2 f (spD K 2 sp_l_mixed) :=
  fn_ok F sc_l_mixed rfl (fun _ _ _ _ _ _ us hl => match us, hl with | [_, _], _ => rfl) (fun cdv A outer s H E hg hr => b_cons (s_own 2 sc_l_mixed.nd (n_list bl.b_list (v_cons (d_var 1) (v_nil)))) (b_one (s_retPop (own := [("_law_turn", 3)]) 2 rfl sc_l_mixed.nd (i_range1 (d_callB call_len cd_len bl.b_len bt_len (v_cons (d_var 1) (v_nil))) bl.b_range) (blkOk_by (own := [("_law_turn", 3)]) (N := N_l_mixed) (sc := defScope s_l_mixed) (by decide +kernel)) (fun _ _ _ _ _ => g_name 3 sc_l_mixed.nd) (fun _ _ _ _ _ => pe_bm PySem.F.plainAttrs_list PySem.F.slot_list_pop PySem.F.type_list_pop mt_popAt (pv 2) (pa_cons (d_call c_l_grab hg (hr.mono (by decide)) passN (a_cons (x_var 0) (a_cons (x_val (d_ownLen 2 bl.b_len)) (a_nil)))) pa_nil))))) rd_l_mixed
theorem ok_l_summed (bl : Blt K mg) {f : Addr} {fd : FuncData} (F : Fun K "_law_summed" "_law_summed" s_l_summed f fd) : FnG P w K mg base CX0 1 f (spD K 3 sp_l_summed) :=
  fn_ok F sc_l_summed rfl (fun _ _ _ _ _ _ us hl => match us, hl with | [_, _, _], _ => rfl) (fun cdv A outer s H E hg hr => b_cons (s_own 3 sc_l_summed.nd (n_lst (v_nil))) (b_cons (s_for PassesOwn.never rfl (i_range1 (d_var 0) bl.b_range) (g_name 4 sc_l_summed.nd) (b_one (s_ownApp 3 (d_callTy call_tuple_of cd_tuple bl.b_tuple bt_tuple (v_cons (d_lc (own := [("_law_to", 5)]) rfl sc_l_summed.nd (i_range1 (d_var 0) bl.b_range) (blkOk_by (own := [("_law_to", 5)]) (N := N_l_summed) (sc := defScope s_l_summed) (by decide +kernel)) (fun _ _ _ _ _ => g_name 5 sc_l_summed.nd) (fun _ _ _ _ _ => ts_nil) (fun _ _ _ _ _ => d_callB (cr_sum rfl) cd_sum bl.b_sum bt_sum (v_cons (d_lc (own := [("_law_row", 6), ("_law_weight", 7)]) rfl sc_l_summed.nd (i_zip (v_cons (d_var 1) (v_cons (d_var 2) (v_nil))) bl.b_zip) (blkOk_by (own := [("_law_row", 6), ("_law_weight", 7)]) (N := N_l_summed) rfl) (fun _ _ _ _ _ => g_tup rfl (gs_cons (g_name 6 sc_l_summed.nd) (gs_cons (g_name 7 sc_l_summed.nd) (gs_nil)))) (fun _ _ _ _ _ => ts_nil) (fun _ _ _ _ _ => d_op op_mulA od_mul (d_op op_mulA od_mul (d_var 7) (d_ix (d_var 6) (d_var 4))) (d_ix (d_var 6) (d_var 5)))) (v_nil)))) (v_nil)))))) (b_freeze 3 (b_one (s_ret (d_callTy call_tuple_of cd_tuple bl.b_tuple bt_tuple (v_cons (d_var 3) (v_nil)))))))) rd_l_summed
theorem ok_l_number (bl : Blt K mg) (c_l_grab : Callee P w K mg base CX0 1 "_law_grab" 2 sp_l_grab) {f : Addr} {fd : FuncData} (F : Fun K "_law_number" "_law_number" s_l_number f fd) : FnG P w K mg base CX0 2 f (spD K 2 sp_l_number) :=
  fn_ok F sc_l_number rfl (fun _ _ _ _ _ _ us hl => match us, hl with | [_, _], _ => rfl) (fun cdv A outer s H E hg hr => b_one (s_ret (d_op op_sub od_sub (d_call c_l_grab hg (hr.mono (by decide)) passN (a_cons (x_var 0) (a_cons (x_val (d_op op_addA od_add (d_op op_mulA od_mul (d_int) (d_var 1)) (d_int))) (a_nil)))) (d_var 1)))) rd_l_number
theorem ok_l_some_row (bl : Blt K mg) (c_l_number : Callee P w K mg base CX0 2 "_law_number" 2 sp_l_number) {f : Addr} {fd : FuncData} (F : Fun K "_law_some_row" "_law_some_row" s_l_some_row f fd) : FnG P w K mg base CX0 3 f (spD K 3 sp_l_some_row) :=
  fn_ok F sc_l_some_row rfl (fun _ _ _ _ _ _ us hl => match us, hl with | [_, _, _], _ => rfl) (fun cdv A outer s H E hg hr => b_cons (s_set 3 sc_l_some_row.nd (d_callTy call_tuple_of cd_tuple bl.b_tuple bt_tuple (v_cons (d_lc (own := [("_law_turn", 4)]) rfl sc_l_some_row.nd (i_range1 (d_var 1) bl.b_range) (blkOk_by (own := [("_law_turn", 4)]) (N := N_l_some_row) (sc := defScope s_l_some_row) (by decide +kernel)) (fun _ _ _ _ _ => g_name 4 sc_l_some_row.nd) (fun _ _ _ _ _ => ts_nil) (fun _ _ _ _ _ => d_call c_l_number hg (hr.mono (by decide)) passN (a_cons (x_var 0) (a_cons (x_var 2) (a_nil))))) (v_nil)))) (b_one (s_ret (d_if (t_w (w_or (t_cmp op_gt od_cmp (d_callB (cr_maxT rfl) cd_maxT bl.b_max bt_max (v_cons (d_var 3) (v_nil))) (d_int) (nomark _)) (w_or1 (t_cmp op_lt od_cmp (d_callB (cr_minT rfl) cd_minT bl.b_min bt_min (v_cons (d_var 3) (v_nil))) (d_int) (nomark _))))) (d_var 3) (d_op op_addA od_add (d_tup (v_cons (d_int) (v_nil))) (d_op op_mulA od_mul (d_tup (v_cons (d_int) (v_nil))) (d_op op_sub od_sub (d_var 1) (d_int)))))))) rd_l_some_row
theorem ok_l_some_table (bl : Blt K mg) (c_l_number : Callee P w K mg base CX0 2 "_law_number" 2 sp_l_number) {f : Addr} {fd : FuncData} (F : Fun K "_law_some_table" "_law_some_table" s_l_some_table f fd) : FnG P w K mg base CX0 3 f (spD K 3 sp_l_some_table) :=
  fn_ok F sc_l_some_table rfl (fun _ _ _ _ _ _ us hl => match us, hl with | [_, _, _], _ => rfl) (fun cdv A outer s H E hg hr => b_cons (s_set 3 sc_l_some_table.nd (d_lc (own := [("_law_line", 4)]) rfl sc_l_some_table.nd (i_range1 (d_var 1) bl.b_range) (blkOk_by (own := [("_law_line", 4)]) (N := N_l_some_table) (sc := defScope s_l_some_table) (by decide +kernel)) (fun _ _ _ _ _ => g_name 4 sc_l_some_table.nd) (fun _ _ _ _ _ => ts_nil) (fun _ _ _ _ _ => d_lc (own := [("_law_turn", 5)]) rfl sc_l_some_table.nd (i_range1 (d_var 1) bl.b_range) (blkOk_by (own := [("_law_turn", 5)]) (N := N_l_some_table) rfl) (fun _ _ _ _ _ => g_name 5 sc_l_some_table.nd) (fun _ _ _ _ _ => ts_nil) (fun _ _ _ _ _ => d_call c_l_number hg (hr.mono (by decide)) passN (a_cons (x_var 0) (a_cons (x_var 2) (a_nil))))))) (b_one (s_ret (d_callTy call_tuple_of cd_tuple bl.b_tuple bt_tuple (v_cons (d_lc (own := [("_law_at", 6)]) rfl sc_l_some_table.nd (i_range1 (d_var 1) bl.b_range) (blkOk_by (own := [("_law_at", 6)]) (N := N_l_some_table) (sc := defScope s_l_some_table) (by decide +kernel)) (fun _ _ _ _ _ => g_name 6 sc_l_some_table.nd) (fun _ _ _ _ _ => ts_nil) (fun _ _ _ _ _ => d_callTy call_tuple_of cd_tuple bl.b_tuple bt_tuple (v_cons (d_lc (own := [("_law_to", 7)]) rfl sc_l_some_table.nd (i_range1 (d_var 1) bl.b_range) (blkOk_by (own := [("_law_to", 7)]) (N := N_l_some_table) rfl) (fun _ _ _ _ _ => g_name 7 sc_l_some_table.nd) (fun _ _ _ _ _ => ts_nil) (fun _ _ _ _ _ => d_ix (d_ix (d_var 3) (d_callB (call_min2 rfl) cd_2I bl.b_min bt_min (v_cons (d_var 6) (v_cons (d_var 7) (v_nil))))) (d_callB (call_max2 rfl) cd_2I bl.b_max bt_max (v_cons (d_var 6) (v_cons (d_var 7) (v_nil)))))) (v_nil)))) (v_nil)))))) rd_l_some_table
theorem ok_l_plus (bl : Blt K mg) {f : Addr} {fd : FuncData} (F : Fun K "_law_plus" "_law_plus" s_l_plus f fd) : FnG P w K mg base CX0 1 f (spD K 3 sp_l_plus) :=
  fn_ok F sc_l_plus rfl (fun _ _ _ _ _ _ us hl => match us, hl with | [_, _, _], _ => rfl) (fun cdv A outer s H E hg hr => b_one (s_ret (d_callTy call_tuple_of cd_tuple bl.b_tuple bt_tuple (v_cons (d_lc (own := [("_law_row", 3), ("_law_line", 4)]) rfl sc_l_plus.nd (i_zip (v_cons (d_var 0) (v_cons (d_var 1) (v_nil))) bl.b_zip) (blkOk_by (own := [("_law_row", 3), ("_law_line", 4)]) (N := N_l_plus) (sc := defScope s_l_plus) (by decide +kernel)) (fun _ _ _ _ _ => g_tup rfl (gs_cons (g_name 3 sc_l_plus.nd) (gs_cons (g_name 4 sc_l_plus.nd) (gs_nil)))) (fun _ _ _ _ _ => ts_nil) (fun _ _ _ _ _ => d_callTy call_tuple_of cd_tuple bl.b_tuple bt_tuple (v_cons (d_lc (own := [("_law_here", 5), ("_law_there", 6)]) rfl sc_l_plus.nd (i_zip (v_cons (d_var 3) (v_cons (d_var 4) (v_nil))) bl.b_zip) (blkOk_by (own := [("_law_here", 5), ("_law_there", 6)]) (N := N_l_plus) rfl) (fun _ _ _ _ _ => g_tup rfl (gs_cons (g_name 5 sc_l_plus.nd) (gs_cons (g_name 6 sc_l_plus.nd) (gs_nil)))) (fun _ _ _ _ _ => ts_nil) (fun _ _ _ _ _ => d_op op_addA od_add (d_var 5) (d_op op_mulA od_mul (d_var 2) (d_var 6)))) (v_nil)))) (v_nil))))) rd_l_plus
theorem ok_l_begun (bl : Blt K mg) (c_l_grab : Callee P w K mg base CX0 1 "_law_grab" 2 sp_l_grab) (c_l_names : Callee P w K mg base CX0 1 "_law_names" 1 sp_l_names) (c_l_one_of : Callee P w K mg base CX0 2 "_law_one_of" 2 sp_l_one_of) (c_l_told : Callee P w K mg base CX0 1 "_law_told" 1 sp_l_told) (c_l_adjoint : Callee P w K mg base CX0 2 "_law_adjoint" 1 sp_l_adjoint) (c_l_plain_rays : Callee P w K mg base CX0 1 "_law_plain_rays" 1 sp_l_plain_rays) (c_l_mixed : Callee P w K mg base CX0 2 "_law_mixed" 2 sp_l_mixed) (c_l_summed : Callee P w K mg base CX0 1 "_law_summed" 3 sp_l_summed) (c_l_some_row : Callee P w K mg base CX0 3 "_law_some_row" 3 sp_l_some_row) (c_l_some_table : Callee P w K mg base CX0 3 "_law_some_table" 3 sp_l_some_table) (c_l_plus : Callee P w K mg base CX0 1 "_law_plus" 3 sp_l_plus) {f : Addr} {fd : FuncData} (F : Fun K "_law_begun" "_law_begun" s_l_begun f fd) : FnG P w K mg base CX0 4 f (spD K 2 sp_l_begun) :=
  fn_ok F sc_l_begun rfl (fun _ _ _ _ _ _ us hl => match us, hl with | [_, _], _ => rfl) (fun cdv A outer s H E hg hr => b_cons (s_par 3 4 rfl sc_l_begun.nd (d_call c_l_grab hg (hr.mono (by decide)) passN (a_cons (x_var 0) (a_cons (x_val (d_int)) (a_nil)))) (d_call c_l_one_of hg (hr.mono (by decide)) passN (a_cons (x_var 0) (a_cons (x_val (d_call c_l_names hg (hr.mono (by decide)) passN (a_cons (x_var 1) (a_nil)))) (a_nil)))) (hw := by rfl)) (b_cons (s_if (t_cmp (op_eqA hr.units) od_eq (d_var 3) (d_int) (nomark _)) (b_one (s_ret (d_call c_l_told hg (hr.mono (by decide)) passN (a_cons (x_var 4) (a_nil))))) (b_nil)) (b_cons (s_if (t_cmp (op_eqA hr.units) od_eq (d_var 3) (d_int) (nomark _)) (b_one (s_ret (d_call c_l_adjoint hg (hr.mono (by decide)) passN (a_cons (x_val (d_call c_l_told hg (hr.mono (by decide)) passN (a_cons (x_var 4) (a_nil)))) (a_nil))))) (b_nil)) (b_cons (s_if (t_cmp (op_eqA hr.units) od_eq (d_var 3) (d_int) (nomark _)) (b_cons (s_set 5 sc_l_begun.nd (d_slice (d_call c_l_mixed hg (hr.mono (by decide)) passN (a_cons (x_var 0) (a_cons (x_val (d_call c_l_plain_rays hg (hr.mono (by decide)) passN (a_cons (x_var 1) (a_nil)))) (a_nil)))) (o_none) (o_some (d_op op_addA od_add (d_var 1) (d_call c_l_grab hg (hr.mono (by decide)) passN (a_cons (x_var 0) (a_cons (x_val (d_int)) (a_nil)))))))) (b_one (s_ret (d_call c_l_summed hg (hr.mono (by decide)) passN (a_cons (x_var 1) (a_cons (x_var 5) (a_cons (x_val (d_lc (own := [("_law_ray", 11)]) rfl sc_l_begun.nd (i_seq (d_var 5)) (blkOk_by (own := [("_law_ray", 11)]) (N := N_l_begun) (sc := defScope s_l_begun) (by decide +kernel)) (fun _ _ _ _ _ => g_name 11 sc_l_begun.nd) (fun _ _ _ _ _ => ts_nil) (fun _ _ _ _ _ => d_op op_addA od_add (d_int) (d_call c_l_grab hg (hr.mono (by decide)) passN (a_cons (x_var 0) (a_cons (x_val (d_int)) (a_nil))))))) (a_nil)))))))) (b_nil)) (b_cons (s_if (t_cmp (op_eqA hr.units) od_eq (d_var 3) (d_int) (nomark _)) (b_cons (s_setLc (own := [("_law_turn", 10)]) 6 rfl sc_l_begun.nd rfl rfl (sw_true rfl rfl rfl (by decide +kernel)) (i_range1 (d_op op_addA od_add (d_var 1) (d_call c_l_grab hg (hr.mono (by decide)) passN (a_cons (x_var 0) (a_cons (x_val (d_int)) (a_nil))))) bl.b_range) (blkOk_by (own := [("_law_turn", 10)]) (N := N_l_begun) (sc := defScope s_l_begun) (by decide +kernel)) (fun _ _ _ _ _ => g_name 10 sc_l_begun.nd) (fun _ _ _ _ _ => ts_nil) (fun _ _ _ _ _ => d_call c_l_some_row hg (hr.mono (by decide)) passN (a_cons (x_var 0) (a_cons (x_var 1) (a_cons (x_val (d_int)) (a_nil)))))) (b_one (s_ret (d_call c_l_summed hg (hr.mono (by decide)) passN (a_cons (x_var 1) (a_cons (x_var 6) (a_cons (x_val (d_op op_mulA od_mul (d_lst (v_cons (d_int) (v_nil))) (d_callB call_len cd_len bl.b_len bt_len (v_cons (d_var 6) (v_nil))))) (a_nil)))))))) (b_nil)) (b_cons (s_if (t_cmp (op_eqA hr.units) od_eq (d_var 3) (d_int) (nomark _)) (b_cons (s_set 7 sc_l_begun.nd (d_lc (own := [("_law_turn", 10)]) rfl sc_l_begun.nd (i_range1 (d_var 1) bl.b_range) (blkOk_by (own := [("_law_turn", 10)]) (N := N_l_begun) (sc := defScope s_l_begun) (by decide +kernel)) (fun _ _ _ _ _ => g_name 10 sc_l_begun.nd) (fun _ _ _ _ _ => ts_nil) (fun _ _ _ _ _ => d_op op_addA od_add (d_int) (d_call c_l_grab hg (hr.mono (by decide)) passN (a_cons (x_var 0) (a_cons (x_val (d_int)) (a_nil))))))) (b_one (s_ret (d_callTy call_tuple_of cd_tuple bl.b_tuple bt_tuple (v_cons (d_lc (own := [("_law_at", 12)]) rfl sc_l_begun.nd (i_range1 (d_var 1) bl.b_range) (blkOk_by (own := [("_law_at", 12)]) (N := N_l_begun) (sc := defScope s_l_begun) (by decide +kernel)) (fun _ _ _ _ _ => g_name 12 sc_l_begun.nd) (fun _ _ _ _ _ => ts_nil) (fun _ _ _ _ _ => d_callTy call_tuple_of cd_tuple bl.b_tuple bt_tuple (v_cons (d_lc (own := [("_law_to", 13)]) rfl sc_l_begun.nd (i_range1 (d_var 1) bl.b_range) (blkOk_by (own := [("_law_to", 13)]) (N := N_l_begun) rfl) (fun _ _ _ _ _ => g_name 13 sc_l_begun.nd) (fun _ _ _ _ _ => ts_nil) (fun _ _ _ _ _ => d_op op_mulA od_mul (d_ix (d_var 7) (d_var 12)) (d_callTy call_int1 cd_int bl.b_int bt_int (v_cons (d_cmp (op_eqA hr.units) od_eq (d_var 12) (d_var 13) (nomark _)) (v_nil))))) (v_nil)))) (v_nil)))))) (b_nil)) (b_cons (s_par 8 9 rfl sc_l_begun.nd (d_call c_l_some_table hg (hr.mono (by decide)) passN (a_cons (x_var 0) (a_cons (x_var 1) (a_cons (x_val (d_int)) (a_nil))))) (d_op op_addA od_add (d_int) (d_call c_l_grab hg (hr.mono (by decide)) passN (a_cons (x_var 0) (a_cons (x_val (d_int)) (a_nil))))) (hw := by rfl)) (b_cons (s_set 2 sc_l_begun.nd (d_if (t_cmp (op_eqA hr.units) od_eq (d_var 3) (d_int) (nomark _)) (d_call c_l_told hg (hr.mono (by decide)) passN (a_cons (x_var 4) (a_nil))) (d_call c_l_adjoint hg (hr.mono (by decide)) passN (a_cons (x_val (d_call c_l_told hg (hr.mono (by decide)) passN (a_cons (x_var 4) (a_nil)))) (a_nil))))) (b_one (s_ret (d_call c_l_plus hg (hr.mono (by decide)) passN (a_cons (x_var 8) (a_cons (x_var 2) (a_cons (x_var 9) (a_nil))))))))))))))) rd_l_begun
theorem ok_l_is_positive (bl : Blt K mg) (c_l_determinant : Callee P w K mg base CX0 1 "_law_determinant" 1 sp_l_determinant) {f : Addr} {fd : FuncData} (F : Fun K "_law_is_positive" "_law_is_positive" s_l_is_positive f fd) : FnG P w K mg base CX0 2 f (spD K 1 sp_l_is_positive) :=
  fn_ok F sc_l_is_positive rfl (fun _ _ _ _ _ _ us hl => match us, hl with | [_], _ => rfl) (fun cdv A outer s H E hg hr => b_cons (s_for PassesOwn.never rfl (i_range2 (v_cons (d_int) (v_cons (d_op op_addA od_add (d_callB call_len cd_len bl.b_len bt_len (v_cons (d_var 0) (v_nil))) (d_int)) (v_nil))) bl.b_range) (g_name 1 sc_l_is_positive.nd) (b_one (s_if (t_cmp op_le od_cmp (d_call c_l_determinant hg (hr.mono (by decide)) passN (a_cons (x_val (d_lc (own := [("_law_row", 2)]) rfl sc_l_is_positive.nd (i_seq (d_slice (d_var 0) (o_none) (o_some (d_var 1)))) (blkOk_by (own := [("_law_row", 2)]) (N := N_l_is_positive) (sc := defScope s_l_is_positive) (by decide +kernel)) (fun _ _ _ _ _ => g_name 2 sc_l_is_positive.nd) (fun _ _ _ _ _ => ts_nil) (fun _ _ _ _ _ => d_slice (d_var 2) (o_none) (o_some (d_var 1))))) (a_nil))) (d_int) (nomark _)) (b_one (s_ret (d_bl))) (b_nil)))) (b_one (s_ret (d_bl)))) rd_l_is_positive
theorem ok_l_matrix (bl : Blt K mg) (c_l_grab : Callee P w K mg base CX0 1 "_law_grab" 2 sp_l_grab) (c_l_one_of : Callee P w K mg base CX0 2 "_law_one_of" 2 sp_l_one_of) (c_l_mixed : Callee P w K mg base CX0 2 "_law_mixed" 2 sp_l_mixed) {f : Addr} {fd : FuncData} (F : Fun K "_law_matrix" "_law_matrix" s_l_matrix f fd) : FnG P w K mg base CX0 3 f (spD K 3 sp_l_matrix) :=
  fn_ok F sc_l_matrix rfl (fun _ _ _ _ _ _ us hl => match us, hl with | [_, _, _], _ => rfl) (fun cdv A outer s H E hg hr => b_cons (s_ownLc (own := [("_law_at", 6)]) 3 rfl sc_l_matrix.nd rfl rfl (sw_true rfl rfl rfl (by decide +kernel)) (i_range1 (d_var 1) bl.b_range) (blkOk_by (own := [("_law_at", 6)]) (N := N_l_matrix) (sc := defScope s_l_matrix) (by decide +kernel)) (fun _ _ _ _ _ => g_name 6 sc_l_matrix.nd) (fun _ _ _ _ _ => ts_nil) (fun _ _ _ _ _ => d_lc (own := [("_law_to", 7)]) rfl sc_l_matrix.nd (i_range1 (d_var 1) bl.b_range) (blkOk_by (own := [("_law_to", 7)]) (N := N_l_matrix) rfl) (fun _ _ _ _ _ => g_name 7 sc_l_matrix.nd) (fun _ _ _ _ _ => ts_nil) (fun _ _ _ _ _ => d_callTy call_int1 cd_int bl.b_int bt_int (v_cons (d_cmp (op_eqA hr.units) od_eq (d_var 6) (d_var 7) (nomark _)) (v_nil))))) (b_cons (s_for PassesOwn.never rfl (i_range1 (d_call c_l_grab hg (hr.mono (by decide)) passN (a_cons (x_var 0) (a_cons (x_val (d_op op_addA od_add (d_var 2) (d_int))) (a_nil)))) bl.b_range) (g_name 4 sc_l_matrix.nd) (b_cons (s_set 6 sc_l_matrix.nd (d_call c_l_grab hg (hr.mono (by decide)) passN (a_cons (x_var 0) (a_cons (x_var 1) (a_nil))))) (b_cons (s_set 7 sc_l_matrix.nd (d_op op_modN od_int2 (d_callTy call_int1 cd_int bl.b_int bt_int (v_cons (d_op op_addA od_add (d_op op_addA od_add (d_var 6) (d_int)) (d_call c_l_grab hg (hr.mono (by decide)) passN (a_cons (x_var 0) (a_cons (x_val (d_op op_sub od_sub (d_var 1) (d_int))) (a_nil))))) (v_nil))) (d_var 1))) (b_cons (s_set 8 sc_l_matrix.nd (d_call c_l_one_of hg (hr.mono (by decide)) passN (a_cons (x_var 0) (a_cons (x_val (d_lst (v_cons (d_int) (v_cons (d_neg (d_int)) (v_cons (d_int) (v_cons (d_neg (d_int)) (v_cons (d_int) (v_nil)))))))) (a_nil))))) (b_one (s_ownSet 3 (d_var 6) (d_lc (own := [("_law_one", 9), ("_law_other", 10)]) rfl sc_l_matrix.nd (i_zip (v_cons (d_ownIx 3 (d_var 6)) (v_cons (d_ownIx 3 (d_var 7)) (v_nil))) bl.b_zip) (blkOk_by (own := [("_law_one", 9), ("_law_other", 10)]) (N := N_l_matrix) (sc := defScope s_l_matrix) (by decide +kernel)) (fun _ _ _ _ _ => g_tup rfl (gs_cons (g_name 9 sc_l_matrix.nd) (gs_cons (g_name 10 sc_l_matrix.nd) (gs_nil)))) (fun _ _ _ _ _ => ts_nil) (fun _ _ _ _ _ => d_op op_addA od_add (d_var 9) (d_op op_mulA od_mul (d_var 8) (d_var 10)))))))))) (b_freeze 3 (b_cons (s_setLc (own := [("_law_turn", 4)]) 5 rfl sc_l_matrix.nd rfl rfl (sw_true rfl rfl rfl (by decide +kernel)) (i_range1 (d_var 1) bl.b_range) (blkOk_by (own := [("_law_turn", 4)]) (N := N_l_matrix) (sc := defScope s_l_matrix) (by decide +kernel)) (fun _ _ _ _ _ => g_name 4 sc_l_matrix.nd) (fun _ _ _ _ _ => ts_nil) (fun _ _ _ _ _ => d_op op_sub od_sub (d_int) (d_op op_mulA od_mul (d_int) (d_call c_l_grab hg (hr.mono (by decide)) passN (a_cons (x_var 0) (a_cons (x_val (d_int)) (a_nil))))))) (b_one (s_ret (d_callTy call_tuple_of cd_tuple bl.b_tuple bt_tuple (v_cons (d_lc (own := [("_law_sign", 11), ("_law_row", 12)]) rfl sc_l_matrix.nd (i_zip (v_cons (d_var 5) (v_cons (d_call c_l_mixed hg (hr.mono (by decide)) passN (a_cons (x_var 0) (a_cons (x_var 3) (a_nil)))) (v_nil))) bl.b_zip) (blkOk_by (own := [("_law_sign", 11), ("_law_row", 12)]) (N := N_l_matrix) (sc := defScope s_l_matrix) (by decide +kernel)) (fun _ _ _ _ _ => g_tup rfl (gs_cons (g_name 11 sc_l_matrix.nd) (gs_cons (g_name 12 sc_l_matrix.nd) (gs_nil)))) (fun _ _ _ _ _ => ts_nil) (fun _ _ _ _ _ => d_callTy call_tuple_of cd_tuple bl.b_tuple bt_tuple (v_cons (d_lc (own := [("_law_number_here", 13)]) rfl sc_l_matrix.nd (i_seq (d_var 12)) (blkOk_by (own := [("_law_number_here", 13)]) (N := N_l_matrix) rfl) (fun _ _ _ _ _ => g_name 13 sc_l_matrix.nd) (fun _ _ _ _ _ => ts_nil) (fun _ _ _ _ _ => d_op op_mulA od_mul (d_var 11) (d_var 13))) (v_nil)))) (v_nil))))))))) rd_l_matrix
theorem ok_l_turned (bl : Blt K mg) {f : Addr} {fd : FuncData} (F : Fun K "_law_turned" "_law_turned" s_l_turned f fd) : FnG P w K mg base CX0 1 f (spD K 1 sp_l_turned) :=
  fn_ok F sc_l_turned rfl (fun _ _ _ _ _ _ us hl => match us, hl with | [_], _ => rfl) (fun cdv A outer s H E hg hr => b_one (s_ret (d_callTy call_tuple_of cd_tuple bl.b_tuple bt_tuple (v_cons (d_lc (own := [("_law_at", 1)]) rfl sc_l_turned.nd (i_range1 (d_callB call_len cd_len bl.b_len bt_len (v_cons (d_ix (d_var 0) (d_int)) (v_nil))) bl.b_range) (blkOk_by (own := [("_law_at", 1)]) (N := N_l_turned) (sc := defScope s_l_turned) (by decide +kernel)) (fun _ _ _ _ _ => g_name 1 sc_l_turned.nd) (fun _ _ _ _ _ => ts_nil) (fun _ _ _ _ _ => d_callTy call_tuple_of cd_tuple bl.b_tuple bt_tuple (v_cons (d_lc (own := [("_law_row", 2)]) rfl sc_l_turned.nd (i_seq (d_var 0)) (blkOk_by (own := [("_law_row", 2)]) (N := N_l_turned) rfl) (fun _ _ _ _ _ => g_name 2 sc_l_turned.nd) (fun _ _ _ _ _ => ts_nil) (fun _ _ _ _ _ => d_ix (d_var 2) (d_var 1))) (v_nil)))) (v_nil))))) rd_l_turned
theorem ok_l_row_led (bl : Blt K mg) {f : Addr} {fd : FuncData} (F : Fun K "_law_row_led" "_law_row_led" s_l_row_led f fd) : FnG P w K mg base CX0 1 f (spD K 2 sp_l_row_led) :=
  fn_ok F sc_l_row_led rfl (fun _ _ _ _ _ _ us hl => match us, hl with | [_, _], _ => rfl) (fun cdv A outer s H E hg hr => b_one (s_ret (d_callTy call_tuple_of cd_tuple bl.b_tuple bt_tuple (v_cons (d_lc (own := [("_law_line", 2)]) rfl sc_l_row_led.nd (i_seq (d_var 0)) (blkOk_by (own := [("_law_line", 2)]) (N := N_l_row_led) (sc := defScope s_l_row_led) (by decide +kernel)) (fun _ _ _ _ _ => g_name 2 sc_l_row_led.nd) (fun _ _ _ _ _ => ts_nil) (fun _ _ _ _ _ => d_callB (cr_sum rfl) cd_sum bl.b_sum bt_sum (v_cons (d_lc (own := [("_law_number_here", 3), ("_law_there", 4)]) rfl sc_l_row_led.nd (i_zip (v_cons (d_var 2) (v_cons (d_var 1) (v_nil))) bl.b_zip) (blkOk_by (own := [("_law_number_here", 3), ("_law_there", 4)]) (N := N_l_row_led) rfl) (fun _ _ _ _ _ => g_tup rfl (gs_cons (g_name 3 sc_l_row_led.nd) (gs_cons (g_name 4 sc_l_row_led.nd) (gs_nil)))) (fun _ _ _ _ _ => ts_nil) (fun _ _ _ _ _ => d_op op_mulA od_mul (d_var 3) (d_var 4))) (v_nil)))) (v_nil))))) rd_l_row_led
theorem ok_l_product (bl : Blt K mg) (c_l_turned : Callee P w K mg base CX0 1 "_law_turned" 1 sp_l_turned) (c_l_row_led : Callee P w K mg base CX0 1 "_law_row_led" 2 sp_l_row_led) {f : Addr} {fd : FuncData} (F : Fun K "_law_product" "_law_product" s_l_product f fd) : FnG P w K mg base CX0 2 f (spD K 2 sp_l_product) :=
  fn_ok F sc_l_product rfl (fun _ _ _ _ _ _ us hl => match us, hl with | [_, _], _ => rfl) (fun cdv A outer s H E hg hr => b_cons (s_set 2 sc_l_product.nd (d_call c_l_turned hg (hr.mono (by decide)) passN (a_cons (x_var 1) (a_nil)))) (b_one (s_ret (d_callTy call_tuple_of cd_tuple bl.b_tuple bt_tuple (v_cons (d_lc (own := [("_law_row", 3)]) rfl sc_l_product.nd (i_seq (d_var 0)) (blkOk_by (own := [("_law_row", 3)]) (N := N_l_product) (sc := defScope s_l_product) (by decide +kernel)) (fun _ _ _ _ _ => g_name 3 sc_l_product.nd) (fun _ _ _ _ _ => ts_nil) (fun _ _ _ _ _ => d_call c_l_row_led hg (hr.mono (by decide)) passN (a_cons (x_var 2) (a_cons (x_var 3) (a_nil))))) (v_nil)))))) rd_l_product
theorem ok_l_led (bl : Blt K mg) (c_l_turned : Callee P w K mg base CX0 1 "_law_turned" 1 sp_l_turned) (c_l_product : Callee P w K mg base CX0 2 "_law_product" 2 sp_l_product) {f : Addr} {fd : FuncData} (F : Fun K "_law_led" "_law_led" s_l_led f fd) : FnG P w K mg base CX0 3 f (spD K 2 sp_l_led) :=
  fn_ok F sc_l_led rfl (fun _ _ _ _ _ _ us hl => match us, hl with | [_, _], _ => rfl) (fun cdv A outer s H E hg hr => b_one (s_ret (d_call c_l_product hg (hr.mono (by decide)) passN (a_cons (x_val (d_call c_l_product hg (hr.mono (by decide)) passN (a_cons (x_val (d_call c_l_turned hg (hr.mono (by decide)) passN (a_cons (x_var 1) (a_nil)))) (a_cons (x_var 0) (a_nil))))) (a_cons (x_var 1) (a_nil)))))) rd_l_led
theorem ok_l_positive (bl : Blt K mg) (c_l_begun : Callee P w K mg base CX0 4 "_law_begun" 2 sp_l_begun) (c_l_is_positive : Callee P w K mg base CX0 2 "_law_is_positive" 1 sp_l_is_positive) (c_l_plus : Callee P w K mg base CX0 1 "_law_plus" 3 sp_l_plus) (c_l_names : Callee P w K mg base CX0 1 "_law_names" 1 sp_l_names) (c_l_told : Callee P w K mg base CX0 1 "_law_told" 1 sp_l_told) (c_l_grab : Callee P w K mg base CX0 1 "_law_grab" 2 sp_l_grab) (c_l_matrix : Callee P w K mg base CX0 3 "_law_matrix" 3 sp_l_matrix) (c_l_led : Callee P w K mg base CX0 3 "_law_led" 2 sp_l_led) {f : Addr} {fd : FuncData} (F : Fun K "_law_positive" "_law_positive" s_l_positive f fd) : FnG P w K mg base CX0 5 f (spD K 2 sp_l_positive) :=
  fn_ok F sc_l_positive rfl (fun _ _ _ _ _ _ us hl => match us, hl with | [_, _], _ => rfl) (fun cdv A outer s H E hg hr => b_cons (s_set 2 sc_l_positive.nd (d_call c_l_begun hg (hr.mono (by decide)) passN (a_cons (x_var 0) (a_cons (x_var 1) (a_nil))))) (b_cons (s_if (t_not (t_tru (d_call c_l_is_positive hg (hr.mono (by decide)) passN (a_cons (x_var 2) (a_nil))))) (b_cons (s_set 3 sc_l_positive.nd (d_callTy call_tuple_of cd_tuple bl.b_tuple bt_tuple (v_cons (d_lc (own := [("_law_at", 4)]) rfl sc_l_positive.nd (i_range1 (d_var 1) bl.b_range) (blkOk_by (own := [("_law_at", 4)]) (N := N_l_positive) (sc := defScope s_l_positive) (by decide +kernel)) (fun _ _ _ _ _ => g_name 4 sc_l_positive.nd) (fun _ _ _ _ _ => ts_nil) (fun _ _ _ _ _ => d_callTy call_tuple_of cd_tuple bl.b_tuple bt_tuple (v_cons (d_lc (own := [("_law_to", 5)]) rfl sc_l_positive.nd (i_range1 (d_var 1) bl.b_range) (blkOk_by (own := [("_law_to", 5)]) (N := N_l_positive) rfl) (fun _ _ _ _ _ => g_name 5 sc_l_positive.nd) (fun _ _ _ _ _ => ts_nil) (fun _ _ _ _ _ => d_callTy call_int1 cd_int bl.b_int bt_int (v_cons (d_cmp (op_eqA hr.units) od_eq (d_var 4) (d_var 5) (nomark _)) (v_nil)))) (v_nil)))) (v_nil)))) (b_one (s_set 2 sc_l_positive.nd (d_call c_l_plus hg (hr.mono (by decide)) passN (a_cons (x_var 2) (a_cons (x_var 3) (a_cons (x_val (d_int)) (a_nil)))))))) (b_nil)) (b_cons (s_if (t_not (t_tru (d_call c_l_is_positive hg (hr.mono (by decide)) passN (a_cons (x_var 2) (a_nil))))) (b_one (s_set 2 sc_l_positive.nd (d_call c_l_told hg (hr.mono (by decide)) passN (a_cons (x_val (d_ix (d_call c_l_names hg (hr.mono (by decide)) passN (a_cons (x_var 1) (a_nil))) (d_int))) (a_nil))))) (b_nil)) (b_cons (s_if (t_cmp (op_eqA hr.units) od_eq (d_call c_l_grab hg (hr.mono (by decide)) passN (a_cons (x_var 0) (a_cons (x_val (d_int)) (a_nil)))) (d_int) (nomark _)) (b_one (s_set 2 sc_l_positive.nd (d_call c_l_plus hg (hr.mono (by decide)) passN (a_cons (x_var 2) (a_cons (x_var 2) (a_cons (x_val (d_call c_l_grab hg (hr.mono (by decide)) passN (a_cons (x_var 0) (a_cons (x_val (d_int)) (a_nil))))) (a_nil))))))) (b_nil)) (b_one (s_ret (d_if (t_cmp (op_eqA hr.units) od_eq (d_call c_l_grab hg (hr.mono (by decide)) passN (a_cons (x_var 0) (a_cons (x_val (d_int)) (a_nil)))) (d_int) (nomark _)) (d_call c_l_led hg (hr.mono (by decide)) passN (a_cons (x_var 2) (a_cons (x_val (d_call c_l_matrix hg (hr.mono (by decide)) passN (a_cons (x_var 0) (a_cons (x_var 1) (a_cons (x_val (d_int)) (a_nil)))))) (a_nil)))) (d_var 2)))))))) rd_l_positive
theorem ok_l_wide (bl : Blt K mg) (c_l_positive : Callee P w K mg base CX0 5 "_law_positive" 2 sp_l_positive) (c_l_one_of : Callee P w K mg base CX0 2 "_law_one_of" 2 sp_l_one_of) (c_l_plus : Callee P w K mg base CX0 1 "_law_plus" 3 sp_l_plus) (c_l_matrix : Callee P w K mg base CX0 3 "_law_matrix" 3 sp_l_matrix) (c_l_led : Callee P w K mg base CX0 3 "_law_led" 2 sp_l_led) {f : Addr} {fd : FuncData} (F : Fun K "_law_wide" "_law_wide" s_l_wide f fd) : FnG P w K mg base CX0 6 f (spD K 2 sp_l_wide) :=
  fn_ok F sc_l_wide rfl (fun _ _ _ _ _ _ us hl => match us, hl with | [_, _], _ => rfl) (fun cdv A outer s H E hg hr => b_cons (s_par 3 4 rfl sc_l_wide.nd (d_call c_l_positive hg (hr.mono (by decide)) passN (a_cons (x_var 0) (a_cons (x_var 1) (a_nil)))) (d_call c_l_positive hg (hr.mono (by decide)) passN (a_cons (x_var 0) (a_cons (x_var 1) (a_nil)))) (hw := by rfl)) (b_cons (s_set 2 sc_l_wide.nd (d_call c_l_plus hg (hr.mono (by decide)) passN (a_cons (x_var 4) (a_cons (x_var 3) (a_cons (x_val (d_call c_l_one_of hg (hr.mono (by decide)) passN (a_cons (x_var 0) (a_cons (x_val (d_lst (v_cons (d_int) (v_cons (d_int) (v_cons (d_int) (v_cons (d_op op_powB od_int2 (d_int) (d_int)) (v_cons (d_op op_addA od_add (d_op op_powB od_int2 (d_int) (d_int)) (d_int)) (v_nil)))))))) (a_nil))))) (a_nil)))))) (b_one (s_ret (d_call c_l_led hg (hr.mono (by decide)) passN (a_cons (x_var 2) (a_cons (x_val (d_call c_l_matrix hg (hr.mono (by decide)) passN (a_cons (x_var 0) (a_cons (x_var 1) (a_cons (x_val (d_int)) (a_nil)))))) (a_nil)))))))) rd_l_wide
theorem ok_size_told (bl : Blt K mg) {f : Addr} {fd : FuncData} (F : Fun K "size_told" "size_told" s_size_told f fd) : FnG P w K mg base CX0 1 f (spD K 1 sp_size_told) :=
  fn_ok F sc_size_told rfl (fun _ _ _ _ _ _ us hl => match us, hl with | [_], _ => rfl) (fun cdv A outer s H E hg hr => b_one (s_ret (d_if (t_w (w_and (t_tru (d_isi (d_var 0) bl.b_isinstance bl.b_tuple bt_tuple)) (w_and1 (t_cmp op_in_seq od_in (d_callB call_len cd_len bl.b_len bt_len (v_cons (d_var 0) (v_nil))) (d_globT rfl bl.t_SIZES) (by rfl))))) (d_callB call_len cd_len bl.b_len bt_len (v_cons (d_var 0) (v_nil))) (d_neg (d_int))))) rd_size_told
theorem ok_is_whole (bl : Blt K mg) {f : Addr} {fd : FuncData} (F : Fun K "is_whole" "is_whole" s_is_whole f fd) : FnG P w K mg base CX0 1 f (spD K 1 sp_is_whole) :=
  fn_ok F sc_is_whole rfl (fun _ _ _ _ _ _ us hl => match us, hl with | [_], _ => rfl) (fun cdv A outer s H E hg hr => b_one (s_ret (d_and (d_isi (d_var 0) bl.b_isinstance bl.b_int bt_int) (d_one (d_not (d_isi (d_var 0) bl.b_isinstance bl.b_bool bt_bool)))))) rd_is_whole
theorem ok_is_integer (bl : Blt K mg) (c_is_whole : Callee P w K mg base CX0 1 "is_whole" 1 sp_is_whole) {f : Addr} {fd : FuncData} (F : Fun K "is_integer" "is_integer" s_is_integer f fd) : FnG P w K mg base CX0 2 f (spD K 1 sp_is_integer) :=
  fn_ok F sc_is_integer rfl (fun _ _ _ _ _ _ us hl => match us, hl with | [_], _ => rfl) (fun cdv A outer s H E hg hr => b_one (s_ret (d_and (d_call c_is_whole hg (hr.mono (by decide)) passN (a_cons (x_var 0) (a_nil))) (d_one (d_chain op_lt op_lt od_cmp od_cmp (d_neg (d_globI rfl bl.c_BEYOND.choose_spec ⟨_, rfl⟩)) (d_var 0) (d_globI rfl bl.c_BEYOND.choose_spec ⟨_, rfl⟩)))))) rd_is_integer
theorem ok_is_row_of (bl : Blt K mg) (c_is_integer : Callee P w K mg base CX0 2 "is_integer" 1 sp_is_integer) {f : Addr} {fd : FuncData} (F : Fun K "is_row_of" "is_row_of" s_is_row_of f fd) : FnG P w K mg base CX0 3 f (spD K 2 sp_is_row_of) :=
  fn_ok F sc_is_row_of rfl (fun _ _ _ _ _ _ us hl => match us, hl with | [_, _], _ => rfl) (fun cdv A outer s H E hg hr => b_one (s_ret (d_and (d_isi (d_var 1) bl.b_isinstance bl.b_tuple bt_tuple) (d_and (d_cmp (op_eqA hr.units) od_eq (d_callB call_len cd_len bl.b_len bt_len (v_cons (d_var 1) (v_nil))) (d_var 0) (nomark _)) (d_one (d_callB (cr_all rfl) cd_allB bl.b_all bt_all (v_cons (d_lc (own := [("one", 2)]) rfl sc_is_row_of.nd (i_seq (d_var 1)) (blkOk_by (own := [("one", 2)]) (N := N_is_row_of) (sc := defScope s_is_row_of) (by decide +kernel)) (fun _ _ _ _ _ => g_name 2 sc_is_row_of.nd) (fun _ _ _ _ _ => ts_nil) (fun _ _ _ _ _ => d_call c_is_integer hg (hr.mono (by decide)) passN (a_cons (x_var 2) (a_nil)))) (v_nil)))))))) rd_is_row_of
theorem ok_are_rows_of (bl : Blt K mg) (c_is_row_of : Callee P w K mg base CX0 3 "is_row_of" 2 sp_is_row_of) {f : Addr} {fd : FuncData} (F : Fun K "are_rows_of" "are_rows_of" s_are_rows_of f fd) : FnG P w K mg base CX0 4 f (spD K 2 sp_are_rows_of) :=
  fn_ok F sc_are_rows_of rfl (fun _ _ _ _ _ _ us hl => match us, hl with | [_, _], _ => rfl) (fun cdv A outer s H E hg hr => b_one (s_ret (d_and (d_isi (d_var 1) bl.b_isinstance bl.b_tuple bt_tuple) (d_and (d_cmp (op_eqA hr.units) od_eq (d_callB call_len cd_len bl.b_len bt_len (v_cons (d_var 1) (v_nil))) (d_var 0) (nomark _)) (d_one (d_callB (cr_all rfl) cd_allB bl.b_all bt_all (v_cons (d_lc (own := [("row", 2)]) rfl sc_are_rows_of.nd (i_seq (d_var 1)) (blkOk_by (own := [("row", 2)]) (N := N_are_rows_of) (sc := defScope s_are_rows_of) (by decide +kernel)) (fun _ _ _ _ _ => g_name 2 sc_are_rows_of.nd) (fun _ _ _ _ _ => ts_nil) (fun _ _ _ _ _ => d_call c_is_row_of hg (hr.mono (by decide)) passN (a_cons (x_var 0) (a_cons (x_var 2) (a_nil))))) (v_nil)))))))) rd_are_rows_of
theorem ok_is_even (bl : Blt K mg) {f : Addr} {fd : FuncData} (F : Fun K "is_even" "is_even" s_is_even f fd) : FnG P w K mg base CX0 1 f (spD K 1 sp_is_even) :=
  fn_ok F sc_is_even rfl (fun _ _ _ _ _ _ us hl => match us, hl with | [_], _ => rfl) (fun cdv A outer s H E hg hr => b_one (s_ret (d_callB (cr_all rfl) cd_allB bl.b_all bt_all (v_cons (d_lc2 (own := [("i", 1), ("j", 2)]) (vs1 := [2]) rfl sc_is_even.nd (i_range1 (d_callB call_len cd_len bl.b_len bt_len (v_cons (d_var 0) (v_nil))) bl.b_range) (blkOk_by (own := [("i", 1), ("j", 2)]) (N := N_is_even) (sc := defScope s_is_even) (by decide +kernel)) (fun _ _ _ _ _ => g_name 1 sc_is_even.nd) (fun _ _ _ _ _ => ts_nil) (fun _ _ _ _ _ => i_range1 (d_var 1) bl.b_range) (fun _ _ _ _ _ => g_name 2 sc_is_even.nd) (fun _ _ _ _ _ => ts_nil) (fun _ _ _ _ _ => d_cmp (op_eqA hr.units) od_eq (d_ix (d_ix (d_var 0) (d_var 1)) (d_var 2)) (d_ix (d_ix (d_var 0) (d_var 2)) (d_var 1)) (nomark _))) (v_nil))))) rd_is_even
theorem ok_is_table_of (bl : Blt K mg) (c_are_rows_of : Callee P w K mg base CX0 4 "are_rows_of" 2 sp_are_rows_of) (c_is_even : Callee P w K mg base CX0 1 "is_even" 1 sp_is_even) {f : Addr} {fd : FuncData} (F : Fun K "is_table_of" "is_table_of" s_is_table_of f fd) : FnG P w K mg base CX0 5 f (spD K 2 sp_is_table_of) :=
  fn_ok F sc_is_table_of rfl (fun _ _ _ _ _ _ us hl => match us, hl with | [_, _], _ => rfl) (fun cdv A outer s H E hg hr => b_one (s_ret (d_and (d_call c_are_rows_of hg (hr.mono (by decide)) passN (a_cons (x_var 0) (a_cons (x_var 1) (a_nil)))) (d_one (d_call c_is_even hg (hr.mono (by decide)) passN (a_cons (x_var 1) (a_nil))))))) rd_is_table_of
theorem ok_corner_of (bl : Blt K mg) {f : Addr} {fd : FuncData} (F : Fun K "corner_of" "corner_of" s_corner_of f fd) : FnG P w K mg base CX0 1 f (spD K 2 sp_corner_of) :=
  fn_ok F sc_corner_of rfl (fun _ _ _ _ _ _ us hl => match us, hl with | [_, _], _ => rfl) (fun cdv A outer s H E hg hr => b_one (s_ret (d_callTy call_tuple_of cd_tuple bl.b_tuple bt_tuple (v_cons (d_lc (own := [("row", 2)]) rfl sc_corner_of.nd (i_seq (d_slice (d_var 0) (o_none) (o_some (d_var 1)))) (blkOk_by (own := [("row", 2)]) (N := N_corner_of) (sc := defScope s_corner_of) (by decide +kernel)) (fun _ _ _ _ _ => g_name 2 sc_corner_of.nd) (fun _ _ _ _ _ => ts_nil) (fun _ _ _ _ _ => d_slice (d_var 2) (o_none) (o_some (d_var 1)))) (v_nil))))) rd_corner_of
theorem ok_determinant_of_0 (bl : Blt K mg) (c_determinant_of : Callee P w K mg base CX0 1 "determinant_of" 1 (dsp 0)) {f : Addr} {fd : FuncData} (F : Fun K "determinant_of" "determinant_of" s_determinant_of f fd) : FnG P w K mg base CX0 2 f (spD K 1 (dsp 1)) :=
  fn_ok F sc_determinant_of rfl (fun _ _ _ _ _ _ us hl => match us, hl with | [_], _ => rfl) (fun cdv A outer s H E hg hr => b_cons (s_if (t_cmp (op_eqA hr.units) od_eq (d_callB call_len cd_len bl.b_len bt_len (v_cons (d_var 0) (v_nil))) (d_int) (nomark _)) (b_one (s_ret (d_int))) (b_nil)) (b_cons (s_set 1 sc_determinant_of.nd (d_int)) (b_cons (s_for PassesOwn.never rfl (i_enumA (v_cons (d_ix (d_var 0) (d_int)) (v_nil)) bl.b_enumerate) (g_tup rfl (gs_cons (g_name 2 sc_determinant_of.nd) (gs_cons (g_name 3 sc_determinant_of.nd) (gs_nil)))) (b_one (s_if (t_cmp (op_neA hr.units) od_ne (d_var 3) (d_int) (nomark _)) (b_cons (s_set 4 sc_determinant_of.nd (d_op op_mulA od_mul (d_var 3) (d_call c_determinant_of hg (hr.mono (by decide)) passN (a_cons (x_val (d_lc (own := [("line", 5)]) rfl sc_determinant_of.nd (i_seq (d_slice (d_var 0) (o_some (d_int)) (o_none))) (blkOk_by (own := [("line", 5)]) (N := N_determinant_of) (sc := defScope s_determinant_of) (by decide +kernel)) (fun _ _ _ _ _ => g_name 5 sc_determinant_of.nd) (fun _ _ _ _ _ => ts_nil) (fun _ _ _ _ _ => d_lst (v_star (d_slice (d_var 5) (o_none) (o_some (d_var 2))) (v_star (d_slice (d_var 5) (o_some (d_op op_addA od_add (d_var 2) (d_int))) (o_none)) (v_nil)))))) (a_nil))))) (b_one (s_set 1 sc_determinant_of.nd (d_if (t_cmp (op_eqA hr.units) od_eq (d_op op_modN od_int2 (d_var 2) (d_int)) (d_int) (nomark _)) (d_op op_sub od_sub (d_var 1) (d_var 4)) (d_op op_addA od_add (d_var 1) (d_var 4)))))) (b_nil)))) (b_one (s_ret (d_var 1)))))) (rd_determinant_of 0 (by decide))
theorem ok_determinant_of_1 (bl : Blt K mg) (c_determinant_of : Callee P w K mg base CX0 2 "determinant_of" 1 (dsp 1)) {f : Addr} {fd : FuncData} (F : Fun K "determinant_of" "determinant_of" s_determinant_of f fd) : FnG P w K mg base CX0 3 f (spD K 1 (dsp 2)) :=
  fn_ok F sc_determinant_of rfl (fun _ _ _ _ _ _ us hl => match us, hl with | [_], _ => rfl) (fun cdv A outer s H E hg hr => b_cons (s_if (t_cmp (op_eqA hr.units) od_eq (d_callB call_len cd_len bl.b_len bt_len (v_cons (d_var 0) (v_nil))) (d_int) (nomark _)) (b_one (s_ret (d_int))) (b_nil)) (b_cons (s_set 1 sc_determinant_of.nd (d_int)) (b_cons (s_for PassesOwn.never rfl (i_enumA (v_cons (d_ix (d_var 0) (d_int)) (v_nil)) bl.b_enumerate) (g_tup rfl (gs_cons (g_name 2 sc_determinant_of.nd) (gs_cons (g_name 3 sc_determinant_of.nd) (gs_nil)))) (b_one (s_if (t_cmp (op_neA hr.units) od_ne (d_var 3) (d_int) (nomark _)) (b_cons (s_set 4 sc_determinant_of.nd (d_op op_mulA od_mul (d_var 3) (d_call c_determinant_of hg (hr.mono (by decide)) passN (a_cons (x_val (d_lc (own := [("line", 5)]) rfl sc_determinant_of.nd (i_seq (d_slice (d_var 0) (o_some (d_int)) (o_none))) (blkOk_by (own := [("line", 5)]) (N := N_determinant_of) (sc := defScope s_determinant_of) (by decide +kernel)) (fun _ _ _ _ _ => g_name 5 sc_determinant_of.nd) (fun _ _ _ _ _ => ts_nil) (fun _ _ _ _ _ => d_lst (v_star (d_slice (d_var 5) (o_none) (o_some (d_var 2))) (v_star (d_slice (d_var 5) (o_some (d_op op_addA od_add (d_var 2) (d_int))) (o_none)) (v_nil)))))) (a_nil))))) (b_one (s_set 1 sc_determinant_of.nd (d_if (t_cmp (op_eqA hr.units) od_eq (d_op op_modN od_int2 (d_var 2) (d_int)) (d_int) (nomark _)) (d_op op_sub od_sub (d_var 1) (d_var 4)) (d_op op_addA od_add (d_var 1) (d_var 4)))))) (b_nil)))) (b_one (s_ret (d_var 1)))))) (rd_determinant_of 1 (by decide))
theorem ok_determinant_of_2 (bl : Blt K mg) (c_determinant_of : Callee P w K mg base CX0 3 "determinant_of" 1 (dsp 2)) {f : Addr} {fd : FuncData} (F : Fun K "determinant_of" "determinant_of" s_determinant_of f fd) : FnG P w K mg base CX0 4 f (spD K 1 (dsp 3)) :=
  fn_ok F sc_determinant_of rfl (fun _ _ _ _ _ _ us hl => match us, hl with | [_], _ => rfl) (fun cdv A outer s H E hg hr => b_cons (s_if (t_cmp (op_eqA hr.units) od_eq (d_callB call_len cd_len bl.b_len bt_len (v_cons (d_var 0) (v_nil))) (d_int) (nomark _)) (b_one (s_ret (d_int))) (b_nil)) (b_cons (s_set 1 sc_determinant_of.nd (d_int)) (b_cons (s_for PassesOwn.never rfl (i_enumA (v_cons (d_ix (d_var 0) (d_int)) (v_nil)) bl.b_enumerate) (g_tup rfl (gs_cons (g_name 2 sc_determinant_of.nd) (gs_cons (g_name 3 sc_determinant_of.nd) (gs_nil)))) (b_one (s_if (t_cmp (op_neA hr.units) od_ne (d_var 3) (d_int) (nomark _)) (b_cons (s_set 4 sc_determinant_of.nd (d_op op_mulA od_mul (d_var 3) (d_call c_determinant_of hg (hr.mono (by decide)) passN (a_cons (x_val (d_lc (own := [("line", 5)]) rfl sc_determinant_of.nd (i_seq (d_slice (d_var 0) (o_some (d_int)) (o_none))) (blkOk_by (own := [("line", 5)]) (N := N_determinant_of) (sc := defScope s_determinant_of) (by decide +kernel)) (fun _ _ _ _ _ => g_name 5 sc_determinant_of.nd) (fun _ _ _ _ _ => ts_nil) (fun _ _ _ _ _ => d_lst (v_star (d_slice (d_var 5) (o_none) (o_some (d_var 2))) (v_star (d_slice (d_var 5) (o_some (d_op op_addA od_add (d_var 2) (d_int))) (o_none)) (v_nil)))))) (a_nil))))) (b_one (s_set 1 sc_determinant_of.nd (d_if (t_cmp (op_eqA hr.units) od_eq (d_op op_modN od_int2 (d_var 2) (d_int)) (d_int) (nomark _)) (d_op op_sub od_sub (d_var 1) (d_var 4)) (d_op op_addA od_add (d_var 1) (d_var 4)))))) (b_nil)))) (b_one (s_ret (d_var 1)))))) (rd_determinant_of 2 (by decide))
theorem ok_determinant_of_3 (bl : Blt K mg) (c_determinant_of : Callee P w K mg base CX0 4 "determinant_of" 1 (dsp 3)) {f : Addr} {fd : FuncData} (F : Fun K "determinant_of" "determinant_of" s_determinant_of f fd) : FnG P w K mg base CX0 5 f (spD K 1 (dsp 4)) :=
  fn_ok F sc_determinant_of rfl (fun _ _ _ _ _ _ us hl => match us, hl with | [_], _ => rfl) (fun cdv A outer s H E hg hr => b_cons (s_if (t_cmp (op_eqA hr.units) od_eq (d_callB call_len cd_len bl.b_len bt_len (v_cons (d_var 0) (v_nil))) (d_int) (nomark _)) (b_one (s_ret (d_int))) (b_nil)) (b_cons (s_set 1 sc_determinant_of.nd (d_int)) (b_cons (s_for PassesOwn.never rfl (i_enumA (v_cons (d_ix (d_var 0) (d_int)) (v_nil)) bl.b_enumerate) (g_tup rfl (gs_cons (g_name 2 sc_determinant_of.nd) (gs_cons (g_name 3 sc_determinant_of.nd) (gs_nil)))) (b_one (s_if (t_cmp (op_neA hr.units) od_ne (d_var 3) (d_int) (nomark _)) (b_cons (s_set 4 sc_determinant_of.nd (d_op op_mulA od_mul (d_var 3) (d_call c_determinant_of hg (hr.mono (by decide)) passN (a_cons (x_val (d_lc (own := [("line", 5)]) rfl sc_determinant_of.nd (i_seq (d_slice (d_var 0) (o_some (d_int)) (o_none))) (blkOk_by (own := [("line", 5)]) (N := N_determinant_of) (sc := defScope s_determinant_of) (by decide +kernel)) (fun _ _ _ _ _ => g_name 5 sc_determinant_of.nd) (fun _ _ _ _ _ => ts_nil) (fun _ _ _ _ _ => d_lst (v_star (d_slice (d_var 5) (o_none) (o_some (d_var 2))) (v_star (d_slice (d_var 5) (o_some (d_op op_addA od_add (d_var 2) (d_int))) (o_none)) (v_nil)))))) (a_nil))))) (b_one (s_set 1 sc_determinant_of.nd (d_if (t_cmp (op_eqA hr.units) od_eq (d_op op_modN od_int2 (d_var 2) (d_int)) (d_int) (nomark _)) (d_op op_sub od_sub (d_var 1) (d_var 4)) (d_op op_addA od_add (d_var 1) (d_var 4)))))) (b_nil)))) (b_one (s_ret (d_var 1)))))) (rd_determinant_of 3 (by decide))
theorem ok_determinant_of_4 (bl : Blt K mg) (c_determinant_of : Callee P w K mg base CX0 5 "determinant_of" 1 (dsp 4)) {f : Addr} {fd : FuncData} (F : Fun K "determinant_of" "determinant_of" s_determinant_of f fd) : FnG P w K mg base CX0 6 f (spD K 1 (dsp 5)) :=
  fn_ok F sc_determinant_of rfl (fun _ _ _ _ _ _ us hl => match us, hl with | [_], _ => rfl) (fun cdv A outer s H E hg hr => b_cons (s_if (t_cmp (op_eqA hr.units) od_eq (d_callB call_len cd_len bl.b_len bt_len (v_cons (d_var 0) (v_nil))) (d_int) (nomark _)) (b_one (s_ret (d_int))) (b_nil)) (b_cons (s_set 1 sc_determinant_of.nd (d_int)) (b_cons (s_for PassesOwn.never rfl (i_enumA (v_cons (d_ix (d_var 0) (d_int)) (v_nil)) bl.b_enumerate) (g_tup rfl (gs_cons (g_name 2 sc_determinant_of.nd) (gs_cons (g_name 3 sc_determinant_of.nd) (gs_nil)))) (b_one (s_if (t_cmp (op_neA hr.units) od_ne (d_var 3) (d_int) (nomark _)) (b_cons (s_set 4 sc_determinant_of.nd (d_op op_mulA od_mul (d_var 3) (d_call c_determinant_of hg (hr.mono (by decide)) passN (a_cons (x_val (d_lc (own := [("line", 5)]) rfl sc_determinant_of.nd (i_seq (d_slice (d_var 0) (o_some (d_int)) (o_none))) (blkOk_by (own := [("line", 5)]) (N := N_determinant_of) (sc := defScope s_determinant_of) (by decide +kernel)) (fun _ _ _ _ _ => g_name 5 sc_determinant_of.nd) (fun _ _ _ _ _ => ts_nil) (fun _ _ _ _ _ => d_lst (v_star (d_slice (d_var 5) (o_none) (o_some (d_var 2))) (v_star (d_slice (d_var 5) (o_some (d_op op_addA od_add (d_var 2) (d_int))) (o_none)) (v_nil)))))) (a_nil))))) (b_one (s_set 1 sc_determinant_of.nd (d_if (t_cmp (op_eqA hr.units) od_eq (d_op op_modN od_int2 (d_var 2) (d_int)) (d_int) (nomark _)) (d_op op_sub od_sub (d_var 1) (d_var 4)) (d_op op_addA od_add (d_var 1) (d_var 4)))))) (b_nil)))) (b_one (s_ret (d_var 1)))))) (rd_determinant_of 4 (by decide))
theorem ok_minors_in (bl : Blt K mg) (c_corner_of : Callee P w K mg base CX0 1 "corner_of" 2 sp_corner_of) (c_determinant_of : Callee P w K mg base CX0 6 "determinant_of" 1 sp_determinant_of) {f : Addr} {fd : FuncData} (F : Fun K "minors_in" "minors_in" s_minors_in f fd) : FnG P w K mg base CX0 7 f (spD K 1 sp_minors_in) :=
  fn_ok F sc_minors_in rfl (fun _ _ _ _ _ _ us hl => match us, hl with | [_], _ => rfl) (fun cdv A outer s H E hg hr => b_one (s_ret (d_callTy call_tuple_of cd_tuple bl.b_tuple bt_tuple (v_cons (d_lc (own := [("many", 1)]) rfl sc_minors_in.nd (i_range2 (v_cons (d_int) (v_cons (d_op op_addA od_add (d_callB call_len cd_len bl.b_len bt_len (v_cons (d_var 0) (v_nil))) (d_int)) (v_nil))) bl.b_range) (blkOk_by (own := [("many", 1)]) (N := N_minors_in) (sc := defScope s_minors_in) (by decide +kernel)) (fun _ _ _ _ _ => g_name 1 sc_minors_in.nd) (fun _ _ _ _ _ => ts_nil) (fun _ _ _ _ _ => d_call c_determinant_of hg (hr.mono (by decide)) passN (a_cons (x_val (d_call c_corner_of hg (hr.mono (by decide)) passN (a_cons (x_var 0) (a_cons (x_var 1) (a_nil))))) (a_nil)))) (v_nil))))) rd_minors_in
theorem ok_is_positive_in (bl : Blt K mg) (c_minors_in : Callee P w K mg base CX0 7 "minors_in" 1 sp_minors_in) {f : Addr} {fd : FuncData} (F : Fun K "is_positive_in" "is_positive_in" s_is_positive_in f fd) : FnG P w K mg base CX0 8 f (spD K 1 sp_is_positive_in) :=
  fn_ok F sc_is_positive_in rfl (fun _ _ _ _ _ _ us hl => match us, hl with | [_], _ => rfl) (fun cdv A outer s H E hg hr => b_one (s_ret (d_callB (cr_all rfl) cd_allB bl.b_all bt_all (v_cons (d_lc (own := [("minor", 1)]) rfl sc_is_positive_in.nd (i_seq (d_call c_minors_in hg (hr.mono (by decide)) passN (a_cons (x_var 0) (a_nil)))) (blkOk_by (own := [("minor", 1)]) (N := N_is_positive_in) (sc := defScope s_is_positive_in) (by decide +kernel)) (fun _ _ _ _ _ => g_name 1 sc_is_positive_in.nd) (fun _ _ _ _ _ => ts_nil) (fun _ _ _ _ _ => d_cmp op_gt od_cmp (d_var 1) (d_int) (nomark _))) (v_nil))))) rd_is_positive_in
theorem ok_table_told (bl : Blt K mg) (cl : Cl) (fc : Fct K mg cl) (c_size_told : Callee P w K mg base CX0 1 "size_told" 1 sp_size_told) (c_is_table_of : Callee P w K mg base CX0 5 "is_table_of" 2 sp_is_table_of) (c_is_positive_in : Callee P w K mg base CX0 8 "is_positive_in" 1 sp_is_positive_in) {f : Addr} {fd : FuncData} (F : Fun K "table_told" "table_told" s_table_told f fd) : FnG P w K mg base CX0 9 f (spD K 1 (sp_table_told cl)) :=
  fn_ok F sc_table_told rfl (fun _ _ _ _ _ _ us hl => match us, hl with | [_], _ => rfl) (fun cdv A outer s H E hg hr => b_cons (s_if (t_tru (d_isiC (d_var 0) fc.i_Sure bl.b_isinstance fc.n_Sure)) (b_one (s_ret (d_fld fc.f_Sure rfl (d_var 0)))) (b_nil)) (b_cons (s_if (t_w (w_or (t_not (t_tru (d_call c_is_table_of hg (hr.mono (by decide)) passN (a_cons (x_val (d_call c_size_told hg (hr.mono (by decide)) passN (a_cons (x_var 0) (a_nil)))) (a_cons (x_var 0) (a_nil)))))) (w_or1 (t_not (t_tru (d_call c_is_positive_in hg (hr.mono (by decide)) passN (a_cons (x_var 0) (a_nil)))))))) (b_one (s_never)) (b_nil)) (b_one (s_ret (d_var 0))))) rd_table_told
theorem ok_Form___init__ (bl : Blt K mg) (cl : Cl) (fc : Fct K mg cl) (c_table_told : Callee P w K mg base CX0 9 "table_told" 1 (sp_table_told cl)) (c_determinant_of : Callee P w K mg base CX0 6 "determinant_of" 1 sp_determinant_of) {f : Addr} {fd : FuncData} (F : Fun K "__init__" "Form.__init__" s_Form___init__ f fd) : FnG P w K mg base CX0 10 f (spI K cl.Form 1 (sp_Form___init__ cl)) :=
  fn_okI F sc_Form___init__ rfl (fun _ _ _ _ _ _ us hl => match us, hl with | [_, _], _ => rfl) (fun cdv A outer s H E hg hr => b_cons (s_ownFld 0 fc.f_Form rfl (d_call c_table_told hg (hr.mono (by decide)) passN (a_cons (x_var 1) (a_nil)))) (b_cons (s_ownFld 0 fc.f_Form rfl (d_callB call_len cd_len bl.b_len bt_len (v_cons (d_ownFld 0 fc.f_Form rfl) (v_nil)))) (b_one (s_ownFld 0 fc.f_Form rfl (d_call c_determinant_of hg (hr.mono (by decide)) passN (a_cons (x_val (d_ownFld 0 fc.f_Form rfl)) (a_nil))))))) rd_Form___init__
theorem ok_Form___len__ (bl : Blt K mg) (cl : Cl) (fc : Fct K mg cl) {f : Addr} {fd : FuncData} (F : Fun K "__len__" "Form.__len__" s_Form___len__ f fd) : FnG P w K mg base CX0 1 f (spD K 1 (sp_Form___len__ cl)) :=
  fn_ok F sc_Form___len__ rfl (fun _ _ _ _ _ _ us hl => match us, hl with | [_], _ => rfl) (fun cdv A outer s H E hg hr => b_one (s_ret (d_callB call_len cd_len bl.b_len bt_len (v_cons (d_fld fc.f_Form rfl (d_var 0)) (v_nil))))) rd_Form___len__
theorem ok_Form_determinant (bl : Blt K mg) (cl : Cl) (fc : Fct K mg cl) {f : Addr} {fd : FuncData} (F : Fun K "determinant" "Form.determinant" s_Form_determinant f fd) : FnG P w K mg base CX0 1 f (spD K 1 (sp_Form_determinant cl)) :=
  fn_ok F sc_Form_determinant rfl (fun _ _ _ _ _ _ us hl => match us, hl with | [_], _ => rfl) (fun cdv A outer s H E hg hr => b_one (s_ret (d_fld fc.f_Form rfl (d_var 0)))) rd_Form_determinant
theorem ok_Form_table (bl : Blt K mg) (cl : Cl) (fc : Fct K mg cl) {f : Addr} {fd : FuncData} (F : Fun K "table" "Form.table" s_Form_table f fd) : FnG P w K mg base CX0 1 f (spD K 1 (sp_Form_table cl)) :=
  fn_ok F sc_Form_table rfl (fun _ _ _ _ _ _ us hl => match us, hl with | [_], _ => rfl) (fun cdv A outer s H E hg hr => b_one (s_ret (d_fld fc.f_Form rfl (d_var 0)))) rd_Form_table
theorem ok_Form_size (bl : Blt K mg) (cl : Cl) (fc : Fct K mg cl) {f : Addr} {fd : FuncData} (F : Fun K "size" "Form.size" s_Form_size f fd) : FnG P w K mg base CX0 1 f (spD K 1 (sp_Form_size cl)) :=
  fn_ok F sc_Form_size rfl (fun _ _ _ _ _ _ us hl => match us, hl with | [_], _ => rfl) (fun cdv A outer s H E hg hr => b_one (s_ret (d_fld fc.f_Form rfl (d_var 0)))) rd_Form_size
theorem ok_Form_minors (bl : Blt K mg) (cl : Cl) (fc : Fct K mg cl) (c_minors_in : Callee P w K mg base CX0 7 "minors_in" 1 sp_minors_in) {f : Addr} {fd : FuncData} (F : Fun K "minors" "Form.minors" s_Form_minors f fd) : FnG P w K mg base CX0 8 f (spD K 1 (sp_Form_minors cl)) :=
  fn_ok F sc_Form_minors rfl (fun _ _ _ _ _ _ us hl => match us, hl with | [_], _ => rfl) (fun cdv A outer s H E hg hr => b_one (s_ret (d_call c_minors_in hg (hr.mono (by decide)) passN (a_cons (x_val (d_fld fc.f_Form rfl (d_var 0))) (a_nil))))) rd_Form_minors
theorem ok_without (bl : Blt K mg) {f : Addr} {fd : FuncData} (F : Fun K "without" "without" s_without f fd) : FnG P w K mg base CX0 1 f (spD K 3 sp_without) :=
  fn_ok F sc_without rfl (fun _ _ _ _ _ _ us hl => match us, hl with | [_, _, _], _ => rfl) (fun cdv A outer s H E hg hr => b_one (s_ret (d_lc (own := [("index", 3), ("row", 4)]) rfl sc_without.nd (i_enumA (v_cons (d_var 0) (v_nil)) bl.b_enumerate) (blkOk_by (own := [("index", 3), ("row", 4)]) (N := N_without) (sc := defScope s_without) (by decide +kernel)) (fun _ _ _ _ _ => g_tup rfl (gs_cons (g_name 3 sc_without.nd) (gs_cons (g_name 4 sc_without.nd) (gs_nil)))) (fun _ _ _ _ _ => ts_one (t_cmp (op_neA hr.units) od_ne (d_var 3) (d_var 1) (nomark _))) (fun _ _ _ _ _ => d_lst (v_star (d_slice (d_var 4) (o_none) (o_some (d_var 2))) (v_star (d_slice (d_var 4) (o_some (d_op op_addA od_add (d_var 2) (d_int))) (o_none)) (v_nil))))))) rd_without
theorem ok_cofactor (bl : Blt K mg) (c_without : Callee P w K mg base CX0 1 "without" 3 sp_without) (c_determinant_of : Callee P w K mg base CX0 6 "determinant_of" 1 sp_determinant_of) {f : Addr} {fd : FuncData} (F : Fun K "cofactor" "cofactor" s_cofactor f fd) : FnG P w K mg base CX0 7 f (spD K 3 sp_cofactor) :=
  fn_ok F sc_cofactor rfl (fun _ _ _ _ _ _ us hl => match us, hl with | [_, _, _], _ => rfl) (fun cdv A outer s H E hg hr => b_cons (s_set 3 sc_cofactor.nd (d_call c_determinant_of hg (hr.mono (by decide)) passN (a_cons (x_val (d_call c_without hg (hr.mono (by decide)) passN (a_cons (x_var 0) (a_cons (x_var 1) (a_cons (x_var 2) (a_nil)))))) (a_nil)))) (b_one (s_ret (d_if (t_cmp (op_eqA hr.units) od_eq (d_op op_modN od_int2 (d_op op_addA od_add (d_var 1) (d_var 2)) (d_int)) (d_int) (nomark _)) (d_neg (d_var 3)) (d_var 3))))) rd_cofactor
theorem ok_adjoint_of (bl : Blt K mg) (c_cofactor : Callee P w K mg base CX0 7 "cofactor" 3 sp_cofactor) {f : Addr} {fd : FuncData} (F : Fun K "adjoint_of" "adjoint_of" s_adjoint_of f fd) : FnG P w K mg base CX0 8 f (spD K 1 sp_adjoint_of) :=
  fn_ok F sc_adjoint_of rfl (fun _ _ _ _ _ _ us hl => match us, hl with | [_], _ => rfl) (fun cdv A outer s H E hg hr => b_cons (s_set 1 sc_adjoint_of.nd (d_callB call_len cd_len bl.b_len bt_len (v_cons (d_var 0) (v_nil)))) (b_one (s_ret (d_callTy call_tuple_of cd_tuple bl.b_tuple bt_tuple (v_cons (d_lc (own := [("place", 2)]) rfl sc_adjoint_of.nd (i_range1 (d_var 1) bl.b_range) (blkOk_by (own := [("place", 2)]) (N := N_adjoint_of) (sc := defScope s_adjoint_of) (by decide +kernel)) (fun _ _ _ _ _ => g_name 2 sc_adjoint_of.nd) (fun _ _ _ _ _ => ts_nil) (fun _ _ _ _ _ => d_callTy call_tuple_of cd_tuple bl.b_tuple bt_tuple (v_cons (d_lc (own := [("at", 3)]) rfl sc_adjoint_of.nd (i_range1 (d_var 1) bl.b_range) (blkOk_by (own := [("at", 3)]) (N := N_adjoint_of) rfl) (fun _ _ _ _ _ => g_name 3 sc_adjoint_of.nd) (fun _ _ _ _ _ => ts_nil) (fun _ _ _ _ _ => d_call c_cofactor hg (hr.mono (by decide)) passN (a_cons (x_var 0) (a_cons (x_var 3) (a_cons (x_var 2) (a_nil)))))) (v_nil)))) (v_nil)))))) rd_adjoint_of
theorem ok_Sure___init__ (bl : Blt K mg) (cl : Cl) (fc : Fct K mg cl) {f : Addr} {fd : FuncData} (F : Fun K "__init__" "Sure.__init__" s_Sure___init__ f fd) : FnG P w K mg base CX0 1 f (spI K cl.Sure 1 (sp_Sure___init__ cl)) :=
  fn_okI F sc_Sure___init__ rfl (fun _ _ _ _ _ _ us hl => match us, hl with | [_, _], _ => rfl) (fun cdv A outer s H E hg hr => b_one (s_ownFld 0 fc.f_Sure rfl (d_var 1))) rd_Sure___init__
theorem ok_form_with (bl : Blt K mg) (cl : Cl) (fc : Fct K mg cl) (c_Sure___init__ : CalleeI P w K mg base CX0 1 "Sure" cl.Sure 1 (sp_Sure___init__ cl)) (c_Form___init__ : CalleeI P w K mg base CX0 10 "Form" cl.Form 1 (sp_Form___init__ cl)) {f : Addr} {fd : FuncData} (F : Fun K "form_with" "form_with" s_form_with f fd) : FnG P w K mg base CX0 12 f (spD K 1 (sp_form_with cl)) :=
  fn_ok F sc_form_with rfl (fun _ _ _ _ _ _ us hl => match us, hl with | [_], _ => rfl) (fun cdv A outer s H E hg hr => b_one (s_ret (d_make c_Form___init__ hg (hr.mono (by decide)) passN (a_cons (x_val (d_make c_Sure___init__ hg (hr.mono (by decide)) passN (a_cons (x_var 0) (a_nil)))) (a_nil))))) rd_form_with
theorem ok_Form_adjoint (bl : Blt K mg) (cl : Cl) (fc : Fct K mg cl) (c_adjoint_of : Callee P w K mg base CX0 8 "adjoint_of" 1 sp_adjoint_of) (c_form_with : Callee P w K mg base CX0 12 "form_with" 1 (sp_form_with cl)) {f : Addr} {fd : FuncData} (F : Fun K "adjoint" "Form.adjoint" s_Form_adjoint f fd) : FnG P w K mg base CX0 13 f (spD K 1 (sp_Form_adjoint cl)) :=
  fn_ok F sc_Form_adjoint rfl (fun _ _ _ _ _ _ us hl => match us, hl with | [_], _ => rfl) (fun cdv A outer s H E hg hr => b_one (s_ret (d_call c_form_with hg (hr.mono (by decide)) passN (a_cons (x_val (d_call c_adjoint_of hg (hr.mono (by decide)) passN (a_cons (x_val (d_fld fc.f_Form rfl (d_var 0))) (a_nil)))) (a_nil))))) rd_Form_adjoint
theorem ok_divisor_of (bl : Blt K mg) {f : Addr} {fd : FuncData} (F : Fun K "divisor_of" "divisor_of" s_divisor_of f fd) : FnG P w K mg base CX0 1 f (spD K 1 sp_divisor_of) :=
  fn_ok F sc_divisor_of rfl (fun _ _ _ _ _ _ us hl => match us, hl with | [_], _ => rfl) (fun cdv A outer s H E hg hr => b_cons (s_set 1 sc_divisor_of.nd (d_int)) (b_cons (s_for PassesOwn.never rfl (i_seq (d_var 0)) (g_name 2 sc_divisor_of.nd) (b_one (s_set 1 sc_divisor_of.nd (d_callF cr_gcd cd_gcd bl.f_gcd (v_cons (d_var 1) (v_cons (d_var 2) (v_nil))))))) (b_one (s_ret (d_var 1))))) rd_divisor_of
theorem ok_content_in (bl : Blt K mg) (c_divisor_of : Callee P w K mg base CX0 1 "divisor_of" 1 sp_divisor_of) {f : Addr} {fd : FuncData} (F : Fun K "content_in" "content_in" s_content_in f fd) : FnG P w K mg base CX0 2 f (spD K 1 sp_content_in) :=
  fn_ok F sc_content_in rfl (fun _ _ _ _ _ _ us hl => match us, hl with | [_], _ => rfl) (fun cdv A outer s H E hg hr => b_one (s_ret (d_call c_divisor_of hg (hr.mono (by decide)) passN (a_cons (x_val (d_lc2 (own := [("row", 1), ("number", 2)]) (vs1 := [2]) rfl sc_content_in.nd (i_seq (d_var 0)) (blkOk_by (own := [("row", 1), ("number", 2)]) (N := N_content_in) (sc := defScope s_content_in) (by decide +kernel)) (fun _ _ _ _ _ => g_name 1 sc_content_in.nd) (fun _ _ _ _ _ => ts_nil) (fun _ _ _ _ _ => i_seq (d_var 1)) (fun _ _ _ _ _ => g_name 2 sc_content_in.nd) (fun _ _ _ _ _ => ts_nil) (fun _ _ _ _ _ => d_var 2))) (a_nil))))) rd_content_in
theorem ok_Form_content (bl : Blt K mg) (cl : Cl) (fc : Fct K mg cl) (c_content_in : Callee P w K mg base CX0 2 "content_in" 1 sp_content_in) {f : Addr} {fd : FuncData} (F : Fun K "content" "Form.content" s_Form_content f fd) : FnG P w K mg base CX0 3 f (spD K 1 (sp_Form_content cl)) :=
  fn_ok F sc_Form_content rfl (fun _ _ _ _ _ _ us hl => match us, hl with | [_], _ => rfl) (fun cdv A outer s H E hg hr => b_one (s_ret (d_call c_content_in hg (hr.mono (by decide)) passN (a_cons (x_val (d_fld fc.f_Form rfl (d_var 0))) (a_nil))))) rd_Form_content
theorem ok_l_common (bl : Blt K mg) {f : Addr} {fd : FuncData} (F : Fun K "_law_common" "_law_common" s_l_common f fd) : FnG P w K mg base CX0 1 f (spD K 1 sp_l_common) :=
  fn_ok F sc_l_common rfl (fun _ _ _ _ _ _ us hl => match us, hl with | [_], _ => rfl) (fun cdv A outer s H E hg hr => b_cons (s_set 1 sc_l_common.nd (d_int)) (b_cons (s_for PassesOwn.never rfl (i_seq (d_var 0)) (g_name 2 sc_l_common.nd) (b_cons (s_par 3 4 rfl sc_l_common.nd (d_var 1) (d_callB call_abs cd_abs bl.b_abs bt_abs (v_cons (d_var 2) (v_nil))) (hw := by rfl)) (b_cons (s_while PassesOwn.never (t_cmp (op_neA hr.units) od_ne (d_var 4) (d_int) (nomark _)) (b_one (s_par 3 4 rfl sc_l_common.nd (d_var 4) (d_op op_modN od_int2 (d_callTy call_int1 cd_int bl.b_int bt_int (v_cons (d_var 3) (v_nil))) (d_var 4)) (hw := by rfl)))) (b_one (s_set 1 sc_l_common.nd (d_var 3)))))) (b_one (s_ret (d_var 1))))) rd_l_common
theorem ok_l_content (bl : Blt K mg) (c_l_common : Callee P w K mg base CX0 1 "_law_common" 1 sp_l_common) {f : Addr} {fd : FuncData} (F : Fun K "_law_content" "_law_content" s_l_content f fd) : FnG P w K mg base CX0 2 f (spD K 1 sp_l_content) :=
  fn_ok F sc_l_content rfl (fun _ _ _ _ _ _ us hl => match us, hl with | [_], _ => rfl) (fun cdv A outer s H E hg hr => b_one (s_ret (d_call c_l_common hg (hr.mono (by decide)) passN (a_cons (x_val (d_lc (own := [("_law_row", 1)]) rfl sc_l_content.nd (i_seq (d_var 0)) (blkOk_by (own := [("_law_row", 1)]) (N := N_l_content) (sc := defScope s_l_content) (by decide +kernel)) (fun _ _ _ _ _ => g_name 1 sc_l_content.nd) (fun _ _ _ _ _ => ts_nil) (fun _ _ _ _ _ => d_call c_l_common hg (hr.mono (by decide)) passN (a_cons (x_var 1) (a_nil))))) (a_nil))))) rd_l_content
theorem ok_Form___str__ (bl : Blt K mg) (cl : Cl) (fc : Fct K mg cl) {f : Addr} {fd : FuncData} (F : Fun K "__str__" "Form.__str__" s_Form___str__ f fd) : FnG P w K mg base CX0 1 f (spD K 1 (sp_Form___str__ cl)) :=
  fn_ok F sc_Form___str__ rfl (fun _ _ _ _ _ _ us hl => match us, hl with | [_], _ => rfl) (fun cdv A outer s H E hg hr => b_cons (s_setLc (own := [("row", 2)]) 1 rfl sc_Form___str__.nd rfl rfl (sw_true rfl rfl rfl (by decide +kernel)) (i_seq (d_fld fc.f_Form rfl (d_var 0))) (blkOk_by (own := [("row", 2)]) (N := N_Form___str__) (sc := defScope s_Form___str__) (by decide +kernel)) (fun _ _ _ _ _ => g_name 2 sc_Form___str__.nd) (fun _ _ _ _ _ => ts_nil) (fun _ _ _ _ _ => d_join (d_str) (d_lc (own := [("number", 3)]) rfl sc_Form___str__.nd (i_seq (d_var 2)) (blkOk_by (own := [("number", 3)]) (N := N_Form___str__) rfl) (fun _ _ _ _ _ => g_name 3 sc_Form___str__.nd) (fun _ _ _ _ _ => ts_nil) (fun _ _ _ _ _ => d_callTy call_str_int cd_strI bl.b_str bt_str (v_cons (d_var 3) (v_nil)))))) (b_one (s_ret (d_jn2 (d_str) (d_fmt (d_join (d_str) (d_var 1))))))) rd_Form___str__
theorem ok_cleared_table (bl : Blt K mg) (c_content_in : Callee P w K mg base CX0 2 "content_in" 1 sp_content_in) {f : Addr} {fd : FuncData} (F : Fun K "cleared_table" "cleared_table" s_cleared_table f fd) : FnG P w K mg base CX0 3 f (spD K 1 sp_cleared_table) :=
  fn_ok F sc_cleared_table rfl (fun _ _ _ _ _ _ us hl => match us, hl with | [_], _ => rfl) (fun cdv A outer s H E hg hr => b_cons (s_set 1 sc_cleared_table.nd (d_call c_content_in hg (hr.mono (by decide)) passN (a_cons (x_var 0) (a_nil)))) (b_one (s_ret (d_callTy call_tuple_of cd_tuple bl.b_tuple bt_tuple (v_cons (d_lc (own := [("row", 2)]) rfl sc_cleared_table.nd (i_seq (d_var 0)) (blkOk_by (own := [("row", 2)]) (N := N_cleared_table) (sc := defScope s_cleared_table) (by decide +kernel)) (fun _ _ _ _ _ => g_name 2 sc_cleared_table.nd) (fun _ _ _ _ _ => ts_nil) (fun _ _ _ _ _ => d_callTy call_tuple_of cd_tuple bl.b_tuple bt_tuple (v_cons (d_lc (own := [("number", 3)]) rfl sc_cleared_table.nd (i_seq (d_var 2)) (blkOk_by (own := [("number", 3)]) (N := N_cleared_table) rfl) (fun _ _ _ _ _ => g_name 3 sc_cleared_table.nd) (fun _ _ _ _ _ => ts_nil) (fun _ _ _ _ _ => d_op op_fdivB od_int2 (d_var 3) (d_var 1))) (v_nil)))) (v_nil)))))) rd_cleared_table
theorem ok_Form_cleared (bl : Blt K mg) (cl : Cl) (fc : Fct K mg cl) (c_cleared_table : Callee P w K mg base CX0 3 "cleared_table" 1 sp_cleared_table) (c_form_with : Callee P w K mg base CX0 12 "form_with" 1 (sp_form_with cl)) {f : Addr} {fd : FuncData} (F : Fun K "cleared" "Form.cleared" s_Form_cleared f fd) : FnG P w K mg base CX0 13 f (spD K 1 (sp_Form_cleared cl)) :=
  fn_ok F sc_Form_cleared rfl (fun _ _ _ _ _ _ us hl => match us, hl with | [_], _ => rfl) (fun cdv A outer s H E hg hr => b_one (s_ret (d_call c_form_with hg (hr.mono (by decide)) passN (a_cons (x_val (d_call c_cleared_table hg (hr.mono (by decide)) passN (a_cons (x_val (d_fld fc.f_Form rfl (d_var 0))) (a_nil)))) (a_nil))))) rd_Form_cleared
theorem ok_l_cleared (bl : Blt K mg) (c_l_content : Callee P w K mg base CX0 2 "_law_content" 1 sp_l_content) {f : Addr} {fd : FuncData} (F : Fun K "_law_cleared" "_law_cleared" s_l_cleared f fd) : FnG P w K mg base CX0 3 f (spD K 1 sp_l_cleared) :=
  fn_ok F sc_l_cleared rfl (fun _ _ _ _ _ _ us hl => match us, hl with | [_], _ => rfl) (fun cdv A outer s H E hg hr => b_cons (s_set 1 sc_l_cleared.nd (d_call c_l_content hg (hr.mono (by decide)) passN (a_cons (x_var 0) (a_nil)))) (b_one (s_ret (d_callTy call_tuple_of cd_tuple bl.b_tuple bt_tuple (v_cons (d_lc (own := [("_law_row", 2)]) rfl sc_l_cleared.nd (i_seq (d_var 0)) (blkOk_by (own := [("_law_row", 2)]) (N := N_l_cleared) (sc := defScope s_l_cleared) (by decide +kernel)) (fun _ _ _ _ _ => g_name 2 sc_l_cleared.nd) (fun _ _ _ _ _ => ts_nil) (fun _ _ _ _ _ => d_callTy call_tuple_of cd_tuple bl.b_tuple bt_tuple (v_cons (d_lc (own := [("_law_number_here", 3)]) rfl sc_l_cleared.nd (i_seq (d_var 2)) (blkOk_by (own := [("_law_number_here", 3)]) (N := N_l_cleared) rfl) (fun _ _ _ _ _ => g_name 3 sc_l_cleared.nd) (fun _ _ _ _ _ => ts_nil) (fun _ _ _ _ _ => d_op op_fdivB od_int2 (d_var 3) (d_var 1))) (v_nil)))) (v_nil)))))) rd_l_cleared
theorem ok_Form___eq__ (bl : Blt K mg) (cl : Cl) (fc : Fct K mg cl) {f : Addr} {fd : FuncData} (F : Fun K "__eq__" "Form.__eq__" s_Form___eq__ f fd) : FnG P w K mg base CX0 1 f (spD K 2 (sp_Form___eq__ cl)) :=
  fn_ok F sc_Form___eq__ rfl (fun _ _ _ _ _ _ us hl => match us, hl with | [_, _], _ => rfl) (fun cdv A outer s H E hg hr => b_one (s_ret (d_and (d_isiC (d_var 1) fc.i_Form bl.b_isinstance fc.n_Form) (d_one (d_cmp (op_eqA hr.units) od_eq (d_fld fc.f_Form rfl (d_var 0)) (d_fld fc.f_Form rfl (d_var 1)) (nomark _)))))) rd_Form___eq__
theorem ok_l_is_told (bl : Blt K mg) (cl : Cl) (fc : Fct K mg cl) (c_Form___init__ : CalleeI P w K mg base CX0 10 "Form" cl.Form 1 (sp_Form___init__ cl)) (c_Form___len__ : CalleeO P w K mg base CX0 1 cl.Form "__len__" 1 (sp_Form___len__ cl)) (c_Form_determinant : CalleeP P w K mg base 1 cl.Form "determinant" (sp_Form_determinant cl)) (c_Form_table : CalleeP P w K mg base 1 cl.Form "table" (sp_Form_table cl)) (c_Form_size : CalleeP P w K mg base 1 cl.Form "size" (sp_Form_size cl)) (c_l_determinant : Callee P w K mg base CX0 1 "_law_determinant" 1 sp_l_determinant) (c_Form_minors : CalleeP P w K mg base 8 cl.Form "minors" (sp_Form_minors cl)) (c_Form_adjoint : CalleeP P w K mg base 13 cl.Form "adjoint" (sp_Form_adjoint cl)) (c_l_adjoint : Callee P w K mg base CX0 2 "_law_adjoint" 1 sp_l_adjoint) (c_Form_content : CalleeP P w K mg base 3 cl.Form "content" (sp_Form_content cl)) (c_l_content : Callee P w K mg base CX0 2 "_law_content" 1 sp_l_content) (c_Form___str__ : CalleeO P w K mg base CX0 1 cl.Form "__str__" 1 (sp_Form___str__ cl)) (c_Form_cleared : CalleeM P w K mg base CX0 13 cl.Form "cleared" 1 (sp_Form_cleared cl)) (c_l_cleared : Callee P w K mg base CX0 3 "_law_cleared" 1 sp_l_cleared) (c_Form___eq__ : CalleeO P w K mg base CX0 1 cl.Form "__eq__" 2 (sp_Form___eq__ cl)) {f : Addr} {fd : FuncData} (F : Fun K "_law_is_told" "_law_is_told" s_l_is_told f fd) : FnG P w K mg base CX0 15 f (spD K 1 (sp_l_is_told cl)) :=
  fn_ok F sc_l_is_told rfl (fun _ _ _ _ _ _ us hl => match us, hl with | [_], _ => rfl) (fun cdv A outer s H E hg hr => b_cons (s_par 3 4 rfl sc_l_is_told.nd (d_make c_Form___init__ hg (hr.mono (by decide)) passN (a_cons (x_var 0) (a_nil))) (d_callB call_len cd_len bl.b_len bt_len (v_cons (d_var 0) (v_nil))) (hw := by rfl)) (b_cons (s_if (t_cmp (op_neA hr.units) od_ne (d_tup (v_cons (m_prop fc.k_Form c_Form_size hg (hr.mono (by decide)) (d_var 3)) (v_cons (m_prop fc.k_Form c_Form_table hg (hr.mono (by decide)) (d_var 3)) (v_cons (m_prop fc.k_Form c_Form_determinant hg (hr.mono (by decide)) (d_var 3)) (v_cons (d_callB (o_len (EX := E0) c_Form___len__ hg (hr.mono (by decide)) passN) cd_lenOwn bl.b_len bt_len (v_cons (d_var 3) (v_nil))) (v_nil)))))) (d_tup (v_cons (d_var 4) (v_cons (d_var 0) (v_cons (d_call c_l_determinant hg (hr.mono (by decide)) passN (a_cons (x_var 0) (a_nil))) (v_cons (d_var 4) (v_nil)))))) (nomark _)) (b_one (s_ret (d_bl))) (b_nil)) (b_cons (s_setLc (own := [("_law_many", 5)]) 1 rfl sc_l_is_told.nd rfl rfl (sw_true rfl rfl rfl (by decide +kernel)) (i_range2 (v_cons (d_int) (v_cons (d_op op_addA od_add (d_var 4) (d_int)) (v_nil))) bl.b_range) (blkOk_by (own := [("_law_many", 5)]) (N := N_l_is_told) (sc := defScope s_l_is_told) (by decide +kernel)) (fun _ _ _ _ _ => g_name 5 sc_l_is_told.nd) (fun _ _ _ _ _ => ts_nil) (fun _ _ _ _ _ => d_call c_l_determinant hg (hr.mono (by decide)) passN (a_cons (x_val (d_lc (own := [("_law_row", 6)]) rfl sc_l_is_told.nd (i_seq (d_slice (d_var 0) (o_none) (o_some (d_var 5)))) (blkOk_by (own := [("_law_row", 6)]) (N := N_l_is_told) rfl) (fun _ _ _ _ _ => g_name 6 sc_l_is_told.nd) (fun _ _ _ _ _ => ts_nil) (fun _ _ _ _ _ => d_slice (d_var 6) (o_none) (o_some (d_var 5))))) (a_nil)))) (b_cons (s_if (t_w (w_or (t_cmp (op_neA hr.units) od_ne (m_prop fc.k_Form c_Form_minors hg (hr.mono (by decide)) (d_var 3)) (d_callTy call_tuple_of cd_tuple bl.b_tuple bt_tuple (v_cons (d_var 1) (v_nil))) (nomark _)) (w_or (t_cmp (op_neA hr.units) od_ne (m_prop fc.k_Form c_Form_table hg (hr.mono (by decide)) (m_prop fc.k_Form c_Form_adjoint hg (hr.mono (by decide)) (d_var 3))) (d_call c_l_adjoint hg (hr.mono (by decide)) passN (a_cons (x_var 0) (a_nil))) (nomark _)) (w_or1 (t_cmp (op_neA hr.units) od_ne (m_prop fc.k_Form c_Form_content hg (hr.mono (by decide)) (d_var 3)) (d_call c_l_content hg (hr.mono (by decide)) passN (a_cons (x_var 0) (a_nil))) (nomark _)))))) (b_one (s_ret (d_bl))) (b_nil)) (b_cons (s_if (t_cmp (op_neA hr.units) od_ne (d_callTy (o_str (EX := E0) c_Form___str__ hg (hr.mono (by decide)) passN) cd_strOwn bl.b_str bt_str (v_cons (d_var 3) (v_nil))) (d_op op_addA od_add (d_str) (d_join (d_str) (d_lc (own := [("_law_row", 6)]) rfl sc_l_is_told.nd (i_seq (d_var 0)) (blkOk_by (own := [("_law_row", 6)]) (N := N_l_is_told) (sc := defScope s_l_is_told) (by decide +kernel)) (fun _ _ _ _ _ => g_name 6 sc_l_is_told.nd) (fun _ _ _ _ _ => ts_nil) (fun _ _ _ _ _ => d_join (d_str) (d_lc (own := [("_law_number_here", 7)]) rfl sc_l_is_told.nd (i_seq (d_var 6)) (blkOk_by (own := [("_law_number_here", 7)]) (N := N_l_is_told) rfl) (fun _ _ _ _ _ => g_name 7 sc_l_is_told.nd) (fun _ _ _ _ _ => ts_nil) (fun _ _ _ _ _ => d_callTy call_str_int cd_strI bl.b_str bt_str (v_cons (d_var 7) (v_nil)))))))) (nomark _)) (b_one (s_ret (d_bl))) (b_nil)) (b_cons (s_set 2 sc_l_is_told.nd (m_meth0 fc.k_Form c_Form_cleared hg (hr.mono (by decide)) passN (d_var 3))) (b_cons (s_if (t_w (w_or (t_cmp (op_neA hr.units) od_ne (m_prop fc.k_Form c_Form_table hg (hr.mono (by decide)) (d_var 2)) (d_call c_l_cleared hg (hr.mono (by decide)) passN (a_cons (x_var 0) (a_nil))) (nomark _)) (w_or (t_cmp (op_neA hr.units) od_ne (m_prop fc.k_Form c_Form_content hg (hr.mono (by decide)) (d_var 2)) (d_int) (nomark _)) (w_or1 (t_cmp (op_neA hr.units) od_ne (m_prop fc.k_Form c_Form_table hg (hr.mono (by decide)) (d_var 3)) (d_var 0) (nomark _)))))) (b_one (s_ret (d_bl))) (b_nil)) (b_one (s_ret (d_and (d_cmp (o_eq (EX := E0) fc.o_Form c_Form___eq__ hg (hr.mono (by decide)) passN) od_own2 (d_var 3) (d_make c_Form___init__ hg (hr.mono (by decide)) passN (a_cons (x_var 0) (a_nil))) (nomark _)) (d_and (d_cmp (o_ne (EX := E0) fc.o_Form c_Form___eq__ hg (hr.mono (by decide)) passN) od_ownNe (d_var 3) (d_var 0) (nomark _)) (d_and (d_cmp (o_ne (EX := E0) fc.o_Form c_Form___eq__ hg (hr.mono (by decide)) passN) od_ownNe (d_var 3) (d_non) (nomark _)) (d_one (d_cmp (op_eqA hr.units) od_eq (d_cmp (o_eq (EX := E0) fc.o_Form c_Form___eq__ hg (hr.mono (by decide)) passN) od_own2 (d_var 2) (d_var 3) (nomark _)) (d_cmp (op_eqA hr.units) od_eq (m_prop fc.k_Form c_Form_content hg (hr.mono (by decide)) (d_var 3)) (d_int) (nomark _)) (nomark _))))))))))))))) rd_l_is_told
theorem ok_require_row (bl : Blt K mg) (c_is_row_of : Callee P w K mg base CX0 3 "is_row_of" 2 sp_is_row_of) {f : Addr} {fd : FuncData} (F : Fun K "require_row" "require_row" s_require_row f fd) : FnG P w K mg base CX0 4 f (spD K 2 sp_require_row) :=
  fn_ok F sc_require_row rfl (fun _ _ _ _ _ _ us hl => match us, hl with | [_, _], _ => rfl) (fun cdv A outer s H E hg hr => b_one (s_if (t_not (t_tru (d_call c_is_row_of hg (hr.mono (by decide)) passN (a_cons (x_var 0) (a_cons (x_var 1) (a_nil)))))) (b_one (s_never)) (b_nil))) rd_require_row
theorem ok_dot (bl : Blt K mg) {f : Addr} {fd : FuncData} (F : Fun K "dot" "dot" s_dot f fd) : FnG P w K mg base CX0 1 f (spD K 2 sp_dot) :=
  fn_ok F sc_dot rfl (fun _ _ _ _ _ _ us hl => match us, hl with | [_, _], _ => rfl) (fun cdv A outer s H E hg hr => b_one (s_ret (d_callB (cr_sum rfl) cd_sum bl.b_sum bt_sum (v_cons (d_lc (own := [("left", 2), ("right", 3)]) rfl sc_dot.nd (i_zip (v_cons (d_var 0) (v_cons (d_var 1) (v_nil))) bl.b_zip) (blkOk_by (own := [("left", 2), ("right", 3)]) (N := N_dot) (sc := defScope s_dot) (by decide +kernel)) (fun _ _ _ _ _ => g_tup rfl (gs_cons (g_name 2 sc_dot.nd) (gs_cons (g_name 3 sc_dot.nd) (gs_nil)))) (fun _ _ _ _ _ => ts_nil) (fun _ _ _ _ _ => d_op op_mulA od_mul (d_var 2) (d_var 3))) (v_nil))))) rd_dot
theorem ok_row_led (bl : Blt K mg) (c_dot : Callee P w K mg base CX0 1 "dot" 2 sp_dot) {f : Addr} {fd : FuncData} (F : Fun K "row_led" "row_led" s_row_led f fd) : FnG P w K mg base CX0 2 f (spD K 2 sp_row_led) :=
  fn_ok F sc_row_led rfl (fun _ _ _ _ _ _ us hl => match us, hl with | [_, _], _ => rfl) (fun cdv A outer s H E hg hr => b_one (s_ret (d_callTy call_tuple_of cd_tuple bl.b_tuple bt_tuple (v_cons (d_lc (own := [("line", 2)]) rfl sc_row_led.nd (i_seq (d_var 0)) (blkOk_by (own := [("line", 2)]) (N := N_row_led) (sc := defScope s_row_led) (by decide +kernel)) (fun _ _ _ _ _ => g_name 2 sc_row_led.nd) (fun _ _ _ _ _ => ts_nil) (fun _ _ _ _ _ => d_call c_dot hg (hr.mono (by decide)) passN (a_cons (x_var 2) (a_cons (x_var 1) (a_nil))))) (v_nil))))) rd_row_led
theorem ok_pairing_in (bl : Blt K mg) (c_row_led : Callee P w K mg base CX0 2 "row_led" 2 sp_row_led) (c_dot : Callee P w K mg base CX0 1 "dot" 2 sp_dot) {f : Addr} {fd : FuncData} (F : Fun K "pairing_in" "pairing_in" s_pairing_in f fd) : FnG P w K mg base CX0 3 f (spD K 3 sp_pairing_in) :=
  fn_ok F sc_pairing_in rfl (fun _ _ _ _ _ _ us hl => match us, hl with | [_, _, _], _ => rfl) (fun cdv A outer s H E hg hr => b_one (s_ret (d_call c_dot hg (hr.mono (by decide)) passN (a_cons (x_var 1) (a_cons (x_val (d_call c_row_led hg (hr.mono (by decide)) passN (a_cons (x_var 0) (a_cons (x_var 2) (a_nil))))) (a_nil)))))) rd_pairing_in
theorem ok_value_in (bl : Blt K mg) (c_pairing_in : Callee P w K mg base CX0 3 "pairing_in" 3 sp_pairing_in) {f : Addr} {fd : FuncData} (F : Fun K "value_in" "value_in" s_value_in f fd) : FnG P w K mg base CX0 4 f (spD K 2 sp_value_in) :=
  fn_ok F sc_value_in rfl (fun _ _ _ _ _ _ us hl => match us, hl with | [_, _], _ => rfl) (fun cdv A outer s H E hg hr => b_one (s_ret (d_call c_pairing_in hg (hr.mono (by decide)) passN (a_cons (x_var 0) (a_cons (x_var 1) (a_cons (x_var 1) (a_nil))))))) rd_value_in
theorem ok_Form_value (bl : Blt K mg) (cl : Cl) (fc : Fct K mg cl) (c_require_row : Callee P w K mg base CX0 4 "require_row" 2 sp_require_row) (c_value_in : Callee P w K mg base CX0 4 "value_in" 2 sp_value_in) {f : Addr} {fd : FuncData} (F : Fun K "value" "Form.value" s_Form_value f fd) : FnG P w K mg base CX0 5 f (spD K 2 (sp_Form_value cl)) :=
  fn_ok F sc_Form_value rfl (fun _ _ _ _ _ _ us hl => match us, hl with | [_, _], _ => rfl) (fun cdv A outer s H E hg hr => b_cons (s_expr (d_call c_require_row hg (hr.mono (by decide)) passN (a_cons (x_val (d_fld fc.f_Form rfl (d_var 0))) (a_cons (x_var 1) (a_nil))))) (b_one (s_ret (d_call c_value_in hg (hr.mono (by decide)) passN (a_cons (x_val (d_fld fc.f_Form rfl (d_var 0))) (a_cons (x_var 1) (a_nil))))))) rd_Form_value
theorem ok_l_pairing (bl : Blt K mg) {f : Addr} {fd : FuncData} (F : Fun K "_law_pairing" "_law_pairing" s_l_pairing f fd) : FnG P w K mg base CX0 1 f (spD K 3 sp_l_pairing) :=
  fn_ok F sc_l_pairing rfl (fun _ _ _ _ _ _ us hl => match us, hl with | [_, _, _], _ => rfl) (fun cdv A outer s H E hg hr => b_cons (s_set 3 sc_l_pairing.nd (d_int)) (b_cons (s_for PassesOwn.never rfl (i_zip (v_cons (d_var 1) (v_cons (d_var 0) (v_nil))) bl.b_zip) (g_tup rfl (gs_cons (g_name 4 sc_l_pairing.nd) (gs_cons (g_name 5 sc_l_pairing.nd) (gs_nil)))) (b_one (s_set 3 sc_l_pairing.nd (d_op op_addA od_add (d_var 3) (d_op op_mulA od_mul (d_var 4) (d_callB (cr_sum rfl) cd_sum bl.b_sum bt_sum (v_cons (d_lc (own := [("_law_number_here", 6), ("_law_there", 7)]) rfl sc_l_pairing.nd (i_zip (v_cons (d_var 5) (v_cons (d_var 2) (v_nil))) bl.b_zip) (blkOk_by (own := [("_law_number_here", 6), ("_law_there", 7)]) (N := N_l_pairing) (sc := defScope s_l_pairing) (by decide +kernel)) (fun _ _ _ _ _ => g_tup rfl (gs_cons (g_name 6 sc_l_pairing.nd) (gs_cons (g_name 7 sc_l_pairing.nd) (gs_nil)))) (fun _ _ _ _ _ => ts_nil) (fun _ _ _ _ _ => d_op op_mulA od_mul (d_var 6) (d_var 7))) (v_nil)))))))) (b_one (s_ret (d_var 3))))) rd_l_pairing
theorem ok_l_value (bl : Blt K mg) (c_l_pairing : Callee P w K mg base CX0 1 "_law_pairing" 3 sp_l_pairing) {f : Addr} {fd : FuncData} (F : Fun K "_law_value" "_law_value" s_l_value f fd) : FnG P w K mg base CX0 2 f (spD K 2 sp_l_value) :=
  fn_ok F sc_l_value rfl (fun _ _ _ _ _ _ us hl => match us, hl with | [_, _], _ => rfl) (fun cdv A outer s H E hg hr => b_one (s_ret (d_call c_l_pairing hg (hr.mono (by decide)) passN (a_cons (x_var 0) (a_cons (x_var 1) (a_cons (x_var 1) (a_nil))))))) rd_l_value
theorem ok_Form_pairing (bl : Blt K mg) (cl : Cl) (fc : Fct K mg cl) (c_require_row : Callee P w K mg base CX0 4 "require_row" 2 sp_require_row) (c_pairing_in : Callee P w K mg base CX0 3 "pairing_in" 3 sp_pairing_in) {f : Addr} {fd : FuncData} (F : Fun K "pairing" "Form.pairing" s_Form_pairing f fd) : FnG P w K mg base CX0 5 f (spD K 3 (sp_Form_pairing cl)) :=
  fn_ok F sc_Form_pairing rfl (fun _ _ _ _ _ _ us hl => match us, hl with | [_, _, _], _ => rfl) (fun cdv A outer s H E hg hr => b_cons (s_expr (d_call c_require_row hg (hr.mono (by decide)) passN (a_cons (x_val (d_fld fc.f_Form rfl (d_var 0))) (a_cons (x_var 1) (a_nil))))) (b_cons (s_expr (d_call c_require_row hg (hr.mono (by decide)) passN (a_cons (x_val (d_fld fc.f_Form rfl (d_var 0))) (a_cons (x_var 2) (a_nil))))) (b_one (s_ret (d_call c_pairing_in hg (hr.mono (by decide)) passN (a_cons (x_val (d_fld fc.f_Form rfl (d_var 0))) (a_cons (x_var 1) (a_cons (x_var 2) (a_nil))))))))) rd_Form_pairing
theorem ok_l_values_right (bl : Blt K mg) (cl : Cl) (fc : Fct K mg cl) (c_Form___init__ : CalleeI P w K mg base CX0 10 "Form" cl.Form 1 (sp_Form___init__ cl)) (c_l_some_row : Callee P w K mg base CX0 3 "_law_some_row" 3 sp_l_some_row) (c_Form_value : CalleeM P w K mg base CX0 5 cl.Form "value" 2 (sp_Form_value cl)) (c_l_value : Callee P w K mg base CX0 2 "_law_value" 2 sp_l_value) (c_Form_pairing : CalleeM P w K mg base CX0 5 cl.Form "pairing" 3 (sp_Form_pairing cl)) (c_l_pairing : Callee P w K mg base CX0 1 "_law_pairing" 3 sp_l_pairing) {f : Addr} {fd : FuncData} (F : Fun K "_law_values_right" "_law_values_right" s_l_values_right f fd) : FnG P w K mg base CX0 12 f (spD K 2 (sp_l_values_right cl)) :=
  fn_ok F sc_l_values_right rfl (fun _ _ _ _ _ _ us hl => match us, hl with | [_, _], _ => rfl) (fun cdv A outer s H E hg hr => b_cons (s_par 3 4 rfl sc_l_values_right.nd (d_make c_Form___init__ hg (hr.mono (by decide)) passN (a_cons (x_var 1) (a_nil))) (d_callB call_len cd_len bl.b_len bt_len (v_cons (d_var 1) (v_nil))) (hw := by rfl)) (b_cons (s_par 5 6 rfl sc_l_values_right.nd (d_call c_l_some_row hg (hr.mono (by decide)) passN (a_cons (x_var 0) (a_cons (x_var 4) (a_cons (x_val (d_int)) (a_nil))))) (d_call c_l_some_row hg (hr.mono (by decide)) passN (a_cons (x_var 0) (a_cons (x_var 4) (a_cons (x_val (d_op op_powB od_int2 (d_int) (d_int))) (a_nil))))) (hw := by rfl)) (b_cons (s_if (t_w (w_or (t_cmp (op_neA hr.units) od_ne (m_meth fc.k_Form c_Form_value hg (hr.mono (by decide)) passN (d_var 3) (a_cons (x_var 5) (a_nil))) (d_call c_l_value hg (hr.mono (by decide)) passN (a_cons (x_var 1) (a_cons (x_var 5) (a_nil)))) (nomark _)) (w_or (t_cmp (op_neA hr.units) od_ne (m_meth fc.k_Form c_Form_value hg (hr.mono (by decide)) passN (d_var 3) (a_cons (x_var 6) (a_nil))) (d_call c_l_value hg (hr.mono (by decide)) passN (a_cons (x_var 1) (a_cons (x_var 6) (a_nil)))) (nomark _)) (w_or1 (t_cmp op_lt od_cmp (m_meth fc.k_Form c_Form_value hg (hr.mono (by decide)) passN (d_var 3) (a_cons (x_var 5) (a_nil))) (d_int) (nomark _)))))) (b_one (s_ret (d_bl))) (b_nil)) (b_cons (s_if (t_w (w_or (t_cmp (op_neA hr.units) od_ne (m_meth fc.k_Form c_Form_pairing hg (hr.mono (by decide)) passN (d_var 3) (a_cons (x_var 5) (a_cons (x_var 6) (a_nil)))) (d_call c_l_pairing hg (hr.mono (by decide)) passN (a_cons (x_var 1) (a_cons (x_var 5) (a_cons (x_var 6) (a_nil))))) (nomark _)) (w_or1 (t_cmp (op_neA hr.units) od_ne (m_meth fc.k_Form c_Form_pairing hg (hr.mono (by decide)) passN (d_var 3) (a_cons (x_var 5) (a_cons (x_var 6) (a_nil)))) (m_meth fc.k_Form c_Form_pairing hg (hr.mono (by decide)) passN (d_var 3) (a_cons (x_var 6) (a_cons (x_var 5) (a_nil)))) (nomark _))))) (b_one (s_ret (d_bl))) (b_nil)) (b_cons (s_set 2 sc_l_values_right.nd (d_callTy call_tuple_of cd_tuple bl.b_tuple bt_tuple (v_cons (d_lc (own := [("_law_here", 7), ("_law_there", 8)]) rfl sc_l_values_right.nd (i_zip (v_cons (d_var 5) (v_cons (d_var 6) (v_nil))) bl.b_zip) (blkOk_by (own := [("_law_here", 7), ("_law_there", 8)]) (N := N_l_values_right) (sc := defScope s_l_values_right) (by decide +kernel)) (fun _ _ _ _ _ => g_tup rfl (gs_cons (g_name 7 sc_l_values_right.nd) (gs_cons (g_name 8 sc_l_values_right.nd) (gs_nil)))) (fun _ _ _ _ _ => ts_nil) (fun _ _ _ _ _ => d_op op_addA od_add (d_var 7) (d_var 8))) (v_nil)))) (b_one (s_ret (d_and (d_cmp (op_eqA hr.units) od_eq (m_meth fc.k_Form c_Form_value hg (hr.mono (by decide)) passN (d_var 3) (a_cons (x_var 2) (a_nil))) (d_op op_addA od_add (d_op op_addA od_add (m_meth fc.k_Form c_Form_value hg (hr.mono (by decide)) passN (d_var 3) (a_cons (x_var 5) (a_nil))) (d_op op_mulA od_mul (d_int) (m_meth fc.k_Form c_Form_pairing hg (hr.mono (by decide)) passN (d_var 3) (a_cons (x_var 5) (a_cons (x_var 6) (a_nil)))))) (m_meth fc.k_Form c_Form_value hg (hr.mono (by decide)) passN (d_var 3) (a_cons (x_var 6) (a_nil)))) (nomark _)) (d_one (d_cmp (op_eqA hr.units) od_eq (m_meth fc.k_Form c_Form_value hg (hr.mono (by decide)) passN (d_var 3) (a_cons (x_val (d_op op_mulA od_mul (d_tup (v_cons (d_int) (v_nil))) (d_var 4))) (a_nil))) (d_int) (nomark _))))))))))) rd_l_values_right
theorem ok_Form_diagonal_3 (bl : Blt K mg) (cl : Cl) (fc : Fct K mg cl) (c_is_integer : Callee P w K mg base CX0 2 "is_integer" 1 sp_is_integer) (c_Form___init__ : CalleeI P w K mg base CX0 10 "Form" cl.Form 1 (sp_Form___init__ cl)) {f : Addr} {fd : FuncData} (F : Fun K "diagonal" "Form.diagonal" s_Form_diagonal f fd) : FnG P w K mg base CX0 12 f (spD K 4 (sp_Form_diagonal cl)) :=
  fn_star1_ok F sc_Form_diagonal (by decide) (fun _ _ _ _ _ _ u us hl => match us, hl with | [_, _, _], _ => rfl) (fun cdv A outer s H E hg hr => b_cons (s_if (t_w (w_or (t_cmp op_notIn_seq od_in (d_callB call_len cd_len bl.b_len bt_len (v_cons (d_var 1) (v_nil))) (d_globT rfl bl.t_SIZES) (by rfl)) (w_or1 (t_not (t_tru (d_callB (cr_all rfl) cd_allB bl.b_all bt_all (v_cons (d_lc (own := [("number", 4)]) rfl sc_Form_diagonal.nd (i_seq (d_var 1)) (blkOk_by (own := [("number", 4)]) (N := N_Form_diagonal) (sc := defScope s_Form_diagonal) (by decide +kernel)) (fun _ _ _ _ _ => g_name 4 sc_Form_diagonal.nd) (fun _ _ _ _ _ => ts_nil) (fun _ _ _ _ _ => d_and (d_call c_is_integer hg (hr.mono (by decide)) passN (a_cons (x_var 4) (a_nil))) (d_one (d_cmp op_ge od_cmp (d_var 4) (d_int) (nomark _))))) (v_nil)))))))) (b_one (s_never)) (b_nil)) (b_cons (s_set 2 sc_Form_diagonal.nd (d_callTy cr_range1 cd_rg1 bl.b_range bt_range (v_cons (d_callB call_len cd_len bl.b_len bt_len (v_cons (d_var 1) (v_nil))) (v_nil)))) (b_one (s_ret (m_makeL 0 c_Form___init__ hg (hr.mono (by decide)) passN (a_cons (x_val (d_callTy call_tuple_of cd_tuple bl.b_tuple bt_tuple (v_cons (d_lc (own := [("at", 3)]) rfl sc_Form_diagonal.nd (i_rgv (d_var 2)) (blkOk_by (own := [("at", 3)]) (N := N_Form_diagonal) (sc := defScope s_Form_diagonal) (by decide +kernel)) (fun _ _ _ _ _ => g_name 3 sc_Form_diagonal.nd) (fun _ _ _ _ _ => ts_nil) (fun _ _ _ _ _ => d_callTy call_tuple_of cd_tuple bl.b_tuple bt_tuple (v_cons (d_lc (own := [("place", 5)]) rfl sc_Form_diagonal.nd (i_rgv (d_var 2)) (blkOk_by (own := [("place", 5)]) (N := N_Form_diagonal) rfl) (fun _ _ _ _ _ => g_name 5 sc_Form_diagonal.nd) (fun _ _ _ _ _ => ts_nil) (fun _ _ _ _ _ => d_if (t_cmp (op_eqA hr.units) od_eq (d_var 3) (d_var 5) (nomark _)) (d_ix (d_var 1) (d_var 3)) (d_int))) (v_nil)))) (v_nil)))) (a_nil))))))) (fun Ed ss Kd _ h => rd_Form_diagonal Ed ss Kd h)
theorem ok_Form_diagonal_2 (bl : Blt K mg) (cl : Cl) (fc : Fct K mg cl) (c_is_integer : Callee P w K mg base CX0 2 "is_integer" 1 sp_is_integer) (c_Form___init__ : CalleeI P w K mg base CX0 10 "Form" cl.Form 1 (sp_Form___init__ cl)) {f : Addr} {fd : FuncData} (F : Fun K "diagonal" "Form.diagonal" s_Form_diagonal f fd) : FnG P w K mg base CX0 12 f (spD K 3 (sp_Form_diagonal cl)) :=
  fn_star1_ok F sc_Form_diagonal (by decide) (fun _ _ _ _ _ _ u us hl => match us, hl with | [_, _], _ => rfl) (fun cdv A outer s H E hg hr => b_cons (s_if (t_w (w_or (t_cmp op_notIn_seq od_in (d_callB call_len cd_len bl.b_len bt_len (v_cons (d_var 1) (v_nil))) (d_globT rfl bl.t_SIZES) (by rfl)) (w_or1 (t_not (t_tru (d_callB (cr_all rfl) cd_allB bl.b_all bt_all (v_cons (d_lc (own := [("number", 4)]) rfl sc_Form_diagonal.nd (i_seq (d_var 1)) (blkOk_by (own := [("number", 4)]) (N := N_Form_diagonal) (sc := defScope s_Form_diagonal) (by decide +kernel)) (fun _ _ _ _ _ => g_name 4 sc_Form_diagonal.nd) (fun _ _ _ _ _ => ts_nil) (fun _ _ _ _ _ => d_and (d_call c_is_integer hg (hr.mono (by decide)) passN (a_cons (x_var 4) (a_nil))) (d_one (d_cmp op_ge od_cmp (d_var 4) (d_int) (nomark _))))) (v_nil)))))))) (b_one (s_never)) (b_nil)) (b_cons (s_set 2 sc_Form_diagonal.nd (d_callTy cr_range1 cd_rg1 bl.b_range bt_range (v_cons (d_callB call_len cd_len bl.b_len bt_len (v_cons (d_var 1) (v_nil))) (v_nil)))) (b_one (s_ret (m_makeL 0 c_Form___init__ hg (hr.mono (by decide)) passN (a_cons (x_val (d_callTy call_tuple_of cd_tuple bl.b_tuple bt_tuple (v_cons (d_lc (own := [("at", 3)]) rfl sc_Form_diagonal.nd (i_rgv (d_var 2)) (blkOk_by (own := [("at", 3)]) (N := N_Form_diagonal) (sc := defScope s_Form_diagonal) (by decide +kernel)) (fun _ _ _ _ _ => g_name 3 sc_Form_diagonal.nd) (fun _ _ _ _ _ => ts_nil) (fun _ _ _ _ _ => d_callTy call_tuple_of cd_tuple bl.b_tuple bt_tuple (v_cons (d_lc (own := [("place", 5)]) rfl sc_Form_diagonal.nd (i_rgv (d_var 2)) (blkOk_by (own := [("place", 5)]) (N := N_Form_diagonal) rfl) (fun _ _ _ _ _ => g_name 5 sc_Form_diagonal.nd) (fun _ _ _ _ _ => ts_nil) (fun _ _ _ _ _ => d_if (t_cmp (op_eqA hr.units) od_eq (d_var 3) (d_var 5) (nomark _)) (d_ix (d_var 1) (d_var 3)) (d_int))) (v_nil)))) (v_nil)))) (a_nil))))))) (fun Ed ss Kd _ h => rd_Form_diagonal Ed ss Kd h)
theorem ok_Form_diagonal_4 (bl : Blt K mg) (cl : Cl) (fc : Fct K mg cl) (c_is_integer : Callee P w K mg base CX0 2 "is_integer" 1 sp_is_integer) (c_Form___init__ : CalleeI P w K mg base CX0 10 "Form" cl.Form 1 (sp_Form___init__ cl)) {f : Addr} {fd : FuncData} (F : Fun K "diagonal" "Form.diagonal" s_Form_diagonal f fd) : FnG P w K mg base CX0 12 f (spD K 5 (sp_Form_diagonal cl)) :=
  fn_star1_ok F sc_Form_diagonal (by decide) (fun _ _ _ _ _ _ u us hl => match us, hl with | [_, _, _, _], _ => rfl) (fun cdv A outer s H E hg hr => b_cons (s_if (t_w (w_or (t_cmp op_notIn_seq od_in (d_callB call_len cd_len bl.b_len bt_len (v_cons (d_var 1) (v_nil))) (d_globT rfl bl.t_SIZES) (by rfl)) (w_or1 (t_not (t_tru (d_callB (cr_all rfl) cd_allB bl.b_all bt_all (v_cons (d_lc (own := [("number", 4)]) rfl sc_Form_diagonal.nd (i_seq (d_var 1)) (blkOk_by (own := [("number", 4)]) (N := N_Form_diagonal) (sc := defScope s_Form_diagonal) (by decide +kernel)) (fun _ _ _ _ _ => g_name 4 sc_Form_diagonal.nd) (fun _ _ _ _ _ => ts_nil) (fun _ _ _ _ _ => d_and (d_call c_is_integer hg (hr.mono (by decide)) passN (a_cons (x_var 4) (a_nil))) (d_one (d_cmp op_ge od_cmp (d_var 4) (d_int) (nomark _))))) (v_nil)))))))) (b_one (s_never)) (b_nil)) (b_cons (s_set 2 sc_Form_diagonal.nd (d_callTy cr_range1 cd_rg1 bl.b_range bt_range (v_cons (d_callB call_len cd_len bl.b_len bt_len (v_cons (d_var 1) (v_nil))) (v_nil)))) (b_one (s_ret (m_makeL 0 c_Form___init__ hg (hr.mono (by decide)) passN (a_cons (x_val (d_callTy call_tuple_of cd_tuple bl.b_tuple bt_tuple (v_cons (d_lc (own := [("at", 3)]) rfl sc_Form_diagonal.nd (i_rgv (d_var 2)) (blkOk_by (own := [("at", 3)]) (N := N_Form_diagonal) (sc := defScope s_Form_diagonal) (by decide +kernel)) (fun _ _ _ _ _ => g_name 3 sc_Form_diagonal.nd) (fun _ _ _ _ _ => ts_nil) (fun _ _ _ _ _ => d_callTy call_tuple_of cd_tuple bl.b_tuple bt_tuple (v_cons (d_lc (own := [("place", 5)]) rfl sc_Form_diagonal.nd (i_rgv (d_var 2)) (blkOk_by (own := [("place", 5)]) (N := N_Form_diagonal) rfl) (fun _ _ _ _ _ => g_name 5 sc_Form_diagonal.nd) (fun _ _ _ _ _ => ts_nil) (fun _ _ _ _ _ => d_if (t_cmp (op_eqA hr.units) od_eq (d_var 3) (d_var 5) (nomark _)) (d_ix (d_var 1) (d_var 3)) (d_int))) (v_nil)))) (v_nil)))) (a_nil))))))) (fun Ed ss Kd _ h => rd_Form_diagonal Ed ss Kd h)
theorem ok_law (bl : Blt K mg) (cl : Cl) (fc : Fct K mg cl) (c_l_bag : CalleeN P w K mg base CX0 1 "_law_bag" 2 sp_l_bag) (c_l_size : Callee P w K mg base CX0 3 "_law_size" 1 sp_l_size) (c_l_positive : Callee P w K mg base CX0 5 "_law_positive" 2 sp_l_positive) (c_l_wide : Callee P w K mg base CX0 6 "_law_wide" 2 sp_l_wide) (c_l_is_told : Callee P w K mg base CX0 15 "_law_is_told" 1 (sp_l_is_told cl)) (c_Form___init__ : CalleeI P w K mg base CX0 10 "Form" cl.Form 1 (sp_Form___init__ cl)) (c_Form___eq__ : CalleeO P w K mg base CX0 1 cl.Form "__eq__" 2 (sp_Form___eq__ cl)) (c_l_values_right : Callee P w K mg base CX0 12 "_law_values_right" 2 (sp_l_values_right cl)) (c_l_grab : Callee P w K mg base CX0 1 "_law_grab" 2 sp_l_grab) (c_Form_diagonal_3 : CalleeC P w K mg base CX0 12 cl.Form "diagonal" 4 (sp_Form_diagonal cl)) (c_Form_diagonal_2 : CalleeC P w K mg base CX0 12 cl.Form "diagonal" 3 (sp_Form_diagonal cl)) (c_Form_diagonal_4 : CalleeC P w K mg base CX0 12 cl.Form "diagonal" 5 (sp_Form_diagonal cl)) (c_Form_size : CalleeP P w K mg base 1 cl.Form "size" (sp_Form_size cl)) (c_Form_table : CalleeP P w K mg base 1 cl.Form "table" (sp_Form_table cl)) (c_Form___str__ : CalleeO P w K mg base CX0 1 cl.Form "__str__" 1 (sp_Form___str__ cl)) (c_Form_pairing : CalleeM P w K mg base CX0 5 cl.Form "pairing" 3 (sp_Form_pairing cl)) (c_Form_adjoint : CalleeP P w K mg base 13 cl.Form "adjoint" (sp_Form_adjoint cl)) (c_Form_cleared : CalleeM P w K mg base CX0 13 cl.Form "cleared" 1 (sp_Form_cleared cl)) (c_Form_content : CalleeP P w K mg base 3 cl.Form "content" (sp_Form_content cl)) (c_Form_minors : CalleeP P w K mg base 8 cl.Form "minors" (sp_Form_minors cl)) (c_Form_determinant : CalleeP P w K mg base 1 cl.Form "determinant" (sp_Form_determinant cl)) {f : Addr} {fd : FuncData} (F : Fun K "law" "law" s_law f fd) : FnG P w K mg base CX0 16 f (spD K 1 (sp_law cl)) :=
  fn_ok F sc_law rfl (fun _ _ _ _ _ _ us hl => match us, hl with | [_], _ => rfl) (fun cdv A outer s H E hg hr => b_cons (s_for PassesOwn.never rfl (i_range1 (d_callB (call_max2 rfl) cd_2I bl.b_max bt_max (v_cons (d_int) (v_cons (d_callB (call_min2 rfl) cd_2I bl.b_min bt_min (v_cons (d_int) (v_cons (d_callB call_len cd_len bl.b_len bt_len (v_cons (d_var 0) (v_nil))) (v_nil)))) (v_nil)))) bl.b_range) (g_name 1 sc_law.nd) (b_cons (s_bagCall 4 c_l_bag hg (hr.mono (by decide)) passN sc_law.nd (a_cons (x_var 0) (a_cons (x_var 1) (a_nil)))) (b_cons (s_set 5 sc_law.nd (d_call c_l_size hg (hr.mono (by decide)) passN (a_cons (x_var 4) (a_nil)))) (b_cons (s_par 9 10 rfl sc_law.nd (d_call c_l_positive hg (hr.mono (by decide)) passN (a_cons (x_var 4) (a_cons (x_var 5) (a_nil)))) (d_call c_l_wide hg (hr.mono (by decide)) passN (a_cons (x_var 4) (a_cons (x_var 5) (a_nil)))) (hw := by rfl)) (b_cons (s_if (t_w (w_or (t_not (t_tru (d_call c_l_is_told hg (hr.mono (by decide)) passN (a_cons (x_var 9) (a_nil))))) (w_or (t_not (t_tru (d_call c_l_is_told hg (hr.mono (by decide)) passN (a_cons (x_var 10) (a_nil))))) (w_or1 (t_cmp (op_neA hr.units) od_ne (d_cmp (o_eq (EX := E0) fc.o_Form c_Form___eq__ hg (hr.mono (by decide)) passN) od_own2 (d_make c_Form___init__ hg (hr.mono (by decide)) passN (a_cons (x_var 9) (a_nil))) (d_make c_Form___init__ hg (hr.mono (by decide)) passN (a_cons (x_var 10) (a_nil))) (nomark _)) (d_cmp (op_eqA hr.units) od_eq (d_var 9) (d_var 10) (nomark _)) (nomark _)))))) (b_one (s_ret (d_bl))) (b_nil)) (b_cons (s_if (t_w (w_or (t_not (t_tru (d_call c_l_values_right hg (hr.mono (by decide)) passN (a_cons (x_var 4) (a_cons (x_var 9) (a_nil)))))) (w_or1 (t_not (t_tru (d_call c_l_values_right hg (hr.mono (by decide)) passN (a_cons (x_var 4) (a_cons (x_var 10) (a_nil))))))))) (b_one (s_ret (d_bl))) (b_nil)) (b_cons (s_set 6 sc_law.nd (d_lc (own := [("_law_turn", 12)]) rfl sc_law.nd (i_range1 (d_int) bl.b_range) (blkOk_by (own := [("_law_turn", 12)]) (N := N_law) (sc := defScope s_law) (by decide +kernel)) (fun _ _ _ _ _ => g_name 12 sc_law.nd) (fun _ _ _ _ _ => ts_nil) (fun _ _ _ _ _ => d_op op_addA od_add (d_int) (d_call c_l_grab hg (hr.mono (by decide)) passN (a_cons (x_var 4) (a_cons (x_val (d_int)) (a_nil))))))) (b_cons (s_set 7 sc_law.nd (d_lst (v_cons (m_cmeth fc.n_Form c_Form_diagonal_2 hg (hr.mono (by decide)) passN (a_cons (x_val (d_ix (d_var 6) (d_int))) (a_cons (x_val (d_ix (d_var 6) (d_int))) (a_nil)))) (v_cons (m_cmeth fc.n_Form c_Form_diagonal_3 hg (hr.mono (by decide)) passN (a_cons (x_val (d_ix (d_var 6) (d_int))) (a_cons (x_val (d_ix (d_var 6) (d_int))) (a_cons (x_val (d_ix (d_var 6) (d_int))) (a_nil))))) (v_nil))))) (b_one (s_for PassesOwn.never rfl (i_seq (d_op op_addA od_add (d_var 7) (d_lst (v_cons (m_cmeth fc.n_Form c_Form_diagonal_4 hg (hr.mono (by decide)) passN (a_cons (x_val (d_ix (d_var 6) (d_int))) (a_cons (x_val (d_ix (d_var 6) (d_int))) (a_cons (x_val (d_ix (d_var 6) (d_int))) (a_cons (x_val (d_ix (d_var 6) (d_int))) (a_nil)))))) (v_nil))))) (g_name 8 sc_law.nd) (b_cons (s_setLc (own := [("_law_at", 13)]) 11 rfl sc_law.nd rfl rfl (sw_true rfl rfl rfl (by decide +kernel)) (i_range1 (m_prop fc.k_Form c_Form_size hg (hr.mono (by decide)) (d_var 8)) bl.b_range) (blkOk_by (own := [("_law_at", 13)]) (N := N_law) (sc := defScope s_law) (by decide +kernel)) (fun _ _ _ _ _ => g_name 13 sc_law.nd) (fun _ _ _ _ _ => ts_nil) (fun _ _ _ _ _ => d_lc (own := [("_law_to", 14)]) rfl sc_law.nd (i_range1 (m_prop fc.k_Form c_Form_size hg (hr.mono (by decide)) (d_var 8)) bl.b_range) (blkOk_by (own := [("_law_to", 14)]) (N := N_law) rfl) (fun _ _ _ _ _ => g_name 14 sc_law.nd) (fun _ _ _ _ _ => ts_nil) (fun _ _ _ _ _ => d_op op_mulA od_mul (d_ix (d_var 6) (d_var 13)) (d_callTy call_int1 cd_int bl.b_int bt_int (v_cons (d_cmp (op_eqA hr.units) od_eq (d_var 13) (d_var 14) (nomark _)) (v_nil)))))) (b_one (s_if (t_cmp (op_neA hr.units) od_ne (m_prop fc.k_Form c_Form_table hg (hr.mono (by decide)) (d_var 8)) (d_callTy call_tuple_of cd_tuple bl.b_tuple bt_tuple (v_cons (d_lc (own := [("_law_row", 15)]) rfl sc_law.nd (i_seq (d_var 11)) (blkOk_by (own := [("_law_row", 15)]) (N := N_law) (sc := defScope s_law) (by decide +kernel)) (fun _ _ _ _ _ => g_name 15 sc_law.nd) (fun _ _ _ _ _ => ts_nil) (fun _ _ _ _ _ => d_callTy call_tuple_of cd_tuple bl.b_tuple bt_tuple (v_cons (d_var 15) (v_nil)))) (v_nil))) (nomark _)) (b_one (s_ret (d_bl))) (b_nil)))))))))))))) (b_cons (s_set 2 sc_law.nd (d_make c_Form___init__ hg (hr.mono (by decide)) passN (a_cons (x_val (d_tup (v_cons (d_tup (v_cons (d_int) (v_cons (d_neg (d_int)) (v_cons (d_neg (d_int)) (v_nil))))) (v_cons (d_tup (v_cons (d_neg (d_int)) (v_cons (d_int) (v_cons (d_neg (d_int)) (v_nil))))) (v_cons (d_tup (v_cons (d_neg (d_int)) (v_cons (d_neg (d_int)) (v_cons (d_int) (v_nil))))) (v_nil)))))) (a_nil)))) (b_cons (s_set 3 sc_law.nd (d_lst (v_cons (m_prop fc.k_Form c_Form_determinant hg (hr.mono (by decide)) (d_var 2)) (v_cons (m_prop fc.k_Form c_Form_minors hg (hr.mono (by decide)) (d_var 2)) (v_cons (m_prop fc.k_Form c_Form_content hg (hr.mono (by decide)) (m_prop fc.k_Form c_Form_adjoint hg (hr.mono (by decide)) (d_var 2))) (v_cons (m_prop fc.k_Form c_Form_table hg (hr.mono (by decide)) (m_meth0 fc.k_Form c_Form_cleared hg (hr.mono (by decide)) passN (m_prop fc.k_Form c_Form_adjoint hg (hr.mono (by decide)) (d_var 2)))) (v_cons (m_meth fc.k_Form c_Form_pairing hg (hr.mono (by decide)) passN (d_var 2) (a_cons (x_val (d_tup (v_cons (d_int) (v_cons (d_int) (v_cons (d_int) (v_nil)))))) (a_cons (x_val (d_tup (v_cons (d_int) (v_cons (d_int) (v_cons (d_int) (v_nil)))))) (a_nil)))) (v_cons (d_callTy (o_str (EX := E0) c_Form___str__ hg (hr.mono (by decide)) passN) cd_strOwn bl.b_str bt_str (v_cons (d_var 2) (v_nil))) (v_nil))))))))) (b_one (s_ret (d_cmp (op_eqA hr.units) od_eq (d_var 3) (d_lst (v_cons (d_int) (v_cons (d_tup (v_cons (d_int) (v_cons (d_int) (v_cons (d_int) (v_nil))))) (v_cons (d_int) (v_cons (d_tup (v_cons (d_tup (v_cons (d_int) (v_cons (d_int) (v_cons (d_int) (v_nil))))) (v_cons (d_tup (v_cons (d_int) (v_cons (d_int) (v_cons (d_int) (v_nil))))) (v_cons (d_tup (v_cons (d_int) (v_cons (d_int) (v_cons (d_int) (v_nil))))) (v_nil))))) (v_cons (d_int) (v_cons (d_str) (v_nil)))))))) (nomark _))))))) rd_law
end
/-! ### the facts of the top, and the head -/
theorem all_mk {P : Program} {w : World} {K : PySem.W.Frag} {h : Heap} {mg : Str → Option Value} {fa f0 f1 f2 f3 f4 f5 f6 f7 f8 f9 f10 f11 f12 f13 f14 f15 f16 f17 f18 f19 f20 f21 f22 f23 f24 f25 f26 f27 f28 f29 f30 f31 f32 f33 f34 f35 f36 f37 f38 f39 f40 f41 f42 f43 f44 f45 f46 f47 f48 f49 f50 f51 f52 f53 f54 f55 f56 f57 f58 f59 f60 f61 f62 f63 f64 f65 f66 f67 f68 f69 f70 c_Form d_Form_own_determinant d_Form_own_size d_Form_own_table c_Sure d_Sure_own_table r38 r39 r40 r41 r47 r50 r69 : Addr} (X : K.In h) (G : h.Ns mainGlobals mg) (hfa : mg "law" = some (.ref fa))
    {od0 an0 od1 an1 od2 an2 od3 an3 od4 an4 od5 an5 od6 an6 od7 an7 od8 an8 od9 an9 od10 an10 od11 an11 od12 an12 od13 an13 od14 an14 od15 an15 od16 an16 od17 an17 od18 an18 od19 an19 od20 an20 od21 an21 od22 an22 od23 an23 od24 an24 od25 an25 od26 an26 od27 an27 od28 an28 od29 an29 od30 an30 od31 an31 od32 an32 od33 an33 od34 an34 od35 an35 od36 an36 od37 an37 od38 an38 od39 an39 od40 an40 od41 an41 od42 an42 od43 an43 od44 an44 od45 an45 od46 an46 od47 an47 od48 an48 od49 an49 od50 an50 od51 an51 od52 an52 od53 an53 od54 an54 od55 an55 od56 an56 od57 an57 od58 an58 od59 an59 od60 an60 od61 an61 od62 an62 od63 an63 od64 an64 od65 an65 od66 an66 od67 an67 od68 an68 od69 an69 od70 an70 : Option Addr} {sl0 sl1 sl2 sl3 sl4 sl5 sl6 sl7 sl8 sl9 sl10 sl11 sl12 sl13 sl14 sl15 sl16 sl17 sl18 sl19 sl20 sl21 sl22 sl23 sl24 sl25 sl26 sl27 sl28 sl29 sl30 sl31 sl32 sl33 sl34 sl35 sl36 sl37 sl38 sl39 sl40 sl41 sl42 sl43 sl44 sl45 sl46 sl47 sl48 sl49 sl50 sl51 sl52 sl53 sl54 sl55 sl56 sl57 sl58 sl59 sl60 sl61 sl62 sl63 sl64 sl65 sl66 sl67 sl68 sl69 sl70 : Array (Option Value)} {oc0 kV0 dc0 pm0 cd0 ct0 oc1 kV1 dc1 pm1 cd1 ct1 oc2 kV2 dc2 pm2 cd2 ct2 oc3 kV3 dc3 pm3 cd3 ct3 oc4 kV4 dc4 pm4 cd4 ct4 oc5 kV5 dc5 pm5 cd5 ct5 oc6 kV6 dc6 pm6 cd6 ct6 oc7 kV7 dc7 pm7 cd7 ct7 oc8 kV8 dc8 pm8 cd8 ct8 oc9 kV9 dc9 pm9 cd9 ct9 oc10 kV10 dc10 pm10 cd10 ct10 oc11 kV11 dc11 pm11 cd11 ct11 oc12 kV12 dc12 pm12 cd12 ct12 oc13 kV13 dc13 pm13 cd13 ct13 oc14 kV14 dc14 pm14 cd14 ct14 oc15 kV15 dc15 pm15 cd15 ct15 oc16 kV16 dc16 pm16 cd16 ct16 oc17 kV17 dc17 pm17 cd17 ct17 oc18 kV18 dc18 pm18 cd18 ct18 oc19 kV19 dc19 pm19 cd19 ct19 oc20 kV20 dc20 pm20 cd20 ct20 oc21 kV21 dc21 pm21 cd21 ct21 oc22 kV22 dc22 pm22 cd22 ct22 oc23 kV23 dc23 pm23 cd23 ct23 oc24 kV24 dc24 pm24 cd24 ct24 oc25 kV25 dc25 pm25 cd25 ct25 oc26 kV26 dc26 pm26 cd26 ct26 oc27 kV27 dc27 pm27 cd27 ct27 oc28 kV28 dc28 pm28 cd28 ct28 oc29 kV29 dc29 pm29 cd29 ct29 oc30 kV30 dc30 pm30 cd30 ct30 oc31 kV31 dc31 pm31 cd31 ct31 oc32 kV32 dc32 pm32 cd32 ct32 oc33 kV33 dc33 pm33 cd33 ct33 oc34 kV34 dc34 pm34 cd34 ct34 oc35 kV35 dc35 pm35 cd35 ct35 oc36 kV36 dc36 pm36 cd36 ct36 oc37 kV37 dc37 pm37 cd37 ct37 oc38 kV38 dc38 pm38 cd38 ct38 oc39 kV39 dc39 pm39 cd39 ct39 oc40 kV40 dc40 pm40 cd40 ct40 oc41 kV41 dc41 pm41 cd41 ct41 oc42 kV42 dc42 pm42 cd42 ct42 oc43 kV43 dc43 pm43 cd43 ct43 oc44 kV44 dc44 pm44 cd44 ct44 oc45 kV45 dc45 pm45 cd45 ct45 oc46 kV46 dc46 pm46 cd46 ct46 oc47 kV47 dc47 pm47 cd47 ct47 oc48 kV48 dc48 pm48 cd48 ct48 oc49 kV49 dc49 pm49 cd49 ct49 oc50 kV50 dc50 pm50 cd50 ct50 oc51 kV51 dc51 pm51 cd51 ct51 oc52 kV52 dc52 pm52 cd52 ct52 oc53 kV53 dc53 pm53 cd53 ct53 oc54 kV54 dc54 pm54 cd54 ct54 oc55 kV55 dc55 pm55 cd55 ct55 oc56 kV56 dc56 pm56 cd56 ct56 oc57 kV57 dc57 pm57 cd57 ct57 oc58 kV58 dc58 pm58 cd58 ct58 oc59 kV59 dc59 pm59 cd59 ct59 oc60 kV60 dc60 pm60 cd60 ct60 oc61 kV61 dc61 pm61 cd61 ct61 oc62 kV62 dc62 pm62 cd62 ct62 oc63 kV63 dc63 pm63 cd63 ct63 oc64 kV64 dc64 pm64 cd64 ct64 oc65 kV65 dc65 pm65 cd65 ct65 oc66 kV66 dc66 pm66 cd66 ct66 oc67 kV67 dc67 pm67 cd67 ct67 oc68 kV68 dc68 pm68 cd68 ct68 oc69 kV69 dc69 pm69 cd69 ct69 oc70 kV70 dc70 pm70 cd70 ct70 : Value}
    {rest38 rest39 rest40 rest41 rest47 rest50 rest69 : List Value}
    {t_BEYOND t_SIZES_0 t_SIZES_1 t_SIZES_2 : Tok}
    {A_SIZES : Addr} {O_SIZES : Option Addr} {n_SIZES : Nat} {S_SIZES : Array (Option Value)}
    (cn_Form : PySem.W.nsIn K mainGlobals "Form" = some (some (.ref c_Form)))
    (pg_Form : PySem.W.plainGet K c_Form Str.empty = true)
    (ic_Form : PySem.W.isClsIn K c_Form = true)
    (po_Form : PySem.W.plainOver K c_Form = true)
    (sa_Form : PySem.W.findIn K (.ref c_Form) "__setattr__" = some (some (.builtin "object.__setattr__")))
    (s1_Form_own_determinant : PySem.W.findIn K (.ref c_Form) "own_determinant" = some (some (.ref d_Form_own_determinant)))
    (s2_Form_own_determinant : PySem.W.specialIn K (.ref d_Form_own_determinant) "__get__" = some (some (.builtin "member_descriptor.__get__")))
    (s3_Form_own_determinant : PySem.W.takesIn K (.ref d_Form_own_determinant) = some true)
    (s4_Form_own_determinant : PySem.W.typeIn K (.ref d_Form_own_determinant) = some (.type "member_descriptor"))
    (s5_Form_own_determinant : PySem.W.slotIn K d_Form_own_determinant c_Form = some 0)
    (s1_Form_own_size : PySem.W.findIn K (.ref c_Form) "own_size" = some (some (.ref d_Form_own_size)))
    (s2_Form_own_size : PySem.W.specialIn K (.ref d_Form_own_size) "__get__" = some (some (.builtin "member_descriptor.__get__")))
    (s3_Form_own_size : PySem.W.takesIn K (.ref d_Form_own_size) = some true)
    (s4_Form_own_size : PySem.W.typeIn K (.ref d_Form_own_size) = some (.type "member_descriptor"))
    (s5_Form_own_size : PySem.W.slotIn K d_Form_own_size c_Form = some 1)
    (s1_Form_own_table : PySem.W.findIn K (.ref c_Form) "own_table" = some (some (.ref d_Form_own_table)))
    (s2_Form_own_table : PySem.W.specialIn K (.ref d_Form_own_table) "__get__" = some (some (.builtin "member_descriptor.__get__")))
    (s3_Form_own_table : PySem.W.takesIn K (.ref d_Form_own_table) = some true)
    (s4_Form_own_table : PySem.W.typeIn K (.ref d_Form_own_table) = some (.type "member_descriptor"))
    (s5_Form_own_table : PySem.W.slotIn K d_Form_own_table c_Form = some 2)
    (mk_Form : PySem.W.makesIn K c_Form = true)
    (kp_Form : PySem.W.keepIn K (.ref c_Form) = true)
    (ca_Form : PySem.W.findIn K (.ref c_Form) "__class__" = some (some (.builtin "object.__class__")))
    (cm_Form : PySem.W.mroIn K c_Form (.type "object") = some true)
    (k1_Form_NoneType : PySem.W.kitOne K (.type "NoneType") (.ref c_Form) = some false)
    (k1_Form_bool : PySem.W.kitOne K (.type "bool") (.ref c_Form) = some false)
    (k1_Form_int : PySem.W.kitOne K (.type "int") (.ref c_Form) = some false)
    (k1_Form_str : PySem.W.kitOne K (.type "str") (.ref c_Form) = some false)
    (k1_Form_tuple : PySem.W.kitOne K (.type "tuple") (.ref c_Form) = some false)
    (k1_Form_list : PySem.W.kitOne K (.type "list") (.ref c_Form) = some false)
    (k1_Form_dict : PySem.W.kitOne K (.type "dict") (.ref c_Form) = some false)
    (cn_Sure : PySem.W.nsIn K mainGlobals "Sure" = some (some (.ref c_Sure)))
    (pg_Sure : PySem.W.plainGet K c_Sure Str.empty = true)
    (ic_Sure : PySem.W.isClsIn K c_Sure = true)
    (po_Sure : PySem.W.plainOver K c_Sure = true)
    (sa_Sure : PySem.W.findIn K (.ref c_Sure) "__setattr__" = some (some (.builtin "object.__setattr__")))
    (s1_Sure_own_table : PySem.W.findIn K (.ref c_Sure) "own_table" = some (some (.ref d_Sure_own_table)))
    (s2_Sure_own_table : PySem.W.specialIn K (.ref d_Sure_own_table) "__get__" = some (some (.builtin "member_descriptor.__get__")))
    (s3_Sure_own_table : PySem.W.takesIn K (.ref d_Sure_own_table) = some true)
    (s4_Sure_own_table : PySem.W.typeIn K (.ref d_Sure_own_table) = some (.type "member_descriptor"))
    (s5_Sure_own_table : PySem.W.slotIn K d_Sure_own_table c_Sure = some 0)
    (mk_Sure : PySem.W.makesIn K c_Sure = true)
    (kp_Sure : PySem.W.keepIn K (.ref c_Sure) = true)
    (ca_Sure : PySem.W.findIn K (.ref c_Sure) "__class__" = some (some (.builtin "object.__class__")))
    (cm_Sure : PySem.W.mroIn K c_Sure (.type "object") = some true)
    (k1_Sure_NoneType : PySem.W.kitOne K (.type "NoneType") (.ref c_Sure) = some false)
    (k1_Sure_bool : PySem.W.kitOne K (.type "bool") (.ref c_Sure) = some false)
    (k1_Sure_int : PySem.W.kitOne K (.type "int") (.ref c_Sure) = some false)
    (k1_Sure_str : PySem.W.kitOne K (.type "str") (.ref c_Sure) = some false)
    (k1_Sure_tuple : PySem.W.kitOne K (.type "tuple") (.ref c_Sure) = some false)
    (k1_Sure_list : PySem.W.kitOne K (.type "list") (.ref c_Sure) = some false)
    (k1_Sure_dict : PySem.W.kitOne K (.type "dict") (.ref c_Sure) = some false)
    (k2_Form_Sure : PySem.W.kitOne K (.ref c_Form) (.ref c_Sure) = some false)
    (k2_Sure_Form : PySem.W.kitOne K (.ref c_Sure) (.ref c_Form) = some false)
    (cng : PySem.W.specialIn K (.builtin "object.__class__") "__get__" = some (some (.builtin "getset_descriptor.__get__")))
    (ctk : PySem.W.takesIn K (.builtin "object.__class__") = some true)
    (nf_NoneType : PySem.W.notFirst K c_Form (.type "NoneType") = true)
    (nf_bool : PySem.W.notFirst K c_Form (.type "bool") = true)
    (nf_int : PySem.W.notFirst K c_Form (.type "int") = true)
    (nf_str : PySem.W.notFirst K c_Form (.type "str") = true)
    (nf_tuple : PySem.W.notFirst K c_Form (.type "tuple") = true)
    (nf_list : PySem.W.notFirst K c_Form (.type "list") = true)
    (nf_dict : PySem.W.notFirst K c_Form (.type "dict") = true)
    (ne_Form : PySem.W.findIn K (.ref c_Form) "__ne__" = some (some (.builtin "object.__ne__")))
    (a_l_bag : PySem.W.nsIn K mainGlobals "_law_bag" = some (some (.ref f0)))
    (l_l_bag : K.lookup f0 = some ⟨oc0, od0, .func (PySem.W.fnOf "_law_bag" "_law_bag" (defArgs s_l_bag) (defBody s_l_bag) (defScope s_l_bag) .none kV0 dc0 pm0 an0 cd0 ct0), sl0⟩)
    (k_l_bag : PySem.W.codeIn K cd0 "_law_bag" = true)
    (p_l_bag : PySem.W.keepIn K (.ref f0) = true)
    (a_l_grab : PySem.W.nsIn K mainGlobals "_law_grab" = some (some (.ref f1)))
    (l_l_grab : K.lookup f1 = some ⟨oc1, od1, .func (PySem.W.fnOf "_law_grab" "_law_grab" (defArgs s_l_grab) (defBody s_l_grab) (defScope s_l_grab) .none kV1 dc1 pm1 an1 cd1 ct1), sl1⟩)
    (k_l_grab : PySem.W.codeIn K cd1 "_law_grab" = true)
    (p_l_grab : PySem.W.keepIn K (.ref f1) = true)
    (a_l_one_of : PySem.W.nsIn K mainGlobals "_law_one_of" = some (some (.ref f2)))
    (l_l_one_of : K.lookup f2 = some ⟨oc2, od2, .func (PySem.W.fnOf "_law_one_of" "_law_one_of" (defArgs s_l_one_of) (defBody s_l_one_of) (defScope s_l_one_of) .none kV2 dc2 pm2 an2 cd2 ct2), sl2⟩)
    (k_l_one_of : PySem.W.codeIn K cd2 "_law_one_of" = true)
    (p_l_one_of : PySem.W.keepIn K (.ref f2) = true)
    (a_l_size : PySem.W.nsIn K mainGlobals "_law_size" = some (some (.ref f3)))
    (l_l_size : K.lookup f3 = some ⟨oc3, od3, .func (PySem.W.fnOf "_law_size" "_law_size" (defArgs s_l_size) (defBody s_l_size) (defScope s_l_size) .none kV3 dc3 pm3 an3 cd3 ct3), sl3⟩)
    (k_l_size : PySem.W.codeIn K cd3 "_law_size" = true)
    (p_l_size : PySem.W.keepIn K (.ref f3) = true)
    (a_l_names : PySem.W.nsIn K mainGlobals "_law_names" = some (some (.ref f4)))
    (l_l_names : K.lookup f4 = some ⟨oc4, od4, .func (PySem.W.fnOf "_law_names" "_law_names" (defArgs s_l_names) (defBody s_l_names) (defScope s_l_names) .none kV4 dc4 pm4 an4 cd4 ct4), sl4⟩)
    (k_l_names : PySem.W.codeIn K cd4 "_law_names" = true)
    (p_l_names : PySem.W.keepIn K (.ref f4) = true)
    (a_l_told : PySem.W.nsIn K mainGlobals "_law_told" = some (some (.ref f5)))
    (l_l_told : K.lookup f5 = some ⟨oc5, od5, .func (PySem.W.fnOf "_law_told" "_law_told" (defArgs s_l_told) (defBody s_l_told) (defScope s_l_told) .none kV5 dc5 pm5 an5 cd5 ct5), sl5⟩)
    (k_l_told : PySem.W.codeIn K cd5 "_law_told" = true)
    (p_l_told : PySem.W.keepIn K (.ref f5) = true)
    (a_l_determinant : PySem.W.nsIn K mainGlobals "_law_determinant" = some (some (.ref f6)))
    (l_l_determinant : K.lookup f6 = some ⟨oc6, od6, .func (PySem.W.fnOf "_law_determinant" "_law_determinant" (defArgs s_l_determinant) (defBody s_l_determinant) (defScope s_l_determinant) .none kV6 dc6 pm6 an6 cd6 ct6), sl6⟩)
    (k_l_determinant : PySem.W.codeIn K cd6 "_law_determinant" = true)
    (p_l_determinant : PySem.W.keepIn K (.ref f6) = true)
    (a_l_adjoint : PySem.W.nsIn K mainGlobals "_law_adjoint" = some (some (.ref f7)))
    (l_l_adjoint : K.lookup f7 = some ⟨oc7, od7, .func (PySem.W.fnOf "_law_adjoint" "_law_adjoint" (defArgs s_l_adjoint) (defBody s_l_adjoint) (defScope s_l_adjoint) .none kV7 dc7 pm7 an7 cd7 ct7), sl7⟩)
    (k_l_adjoint : PySem.W.codeIn K cd7 "_law_adjoint" = true)
    (p_l_adjoint : PySem.W.keepIn K (.ref f7) = true)
    (a_l_plain_rays : PySem.W.nsIn K mainGlobals "_law_plain_rays" = some (some (.ref f8)))
    (l_l_plain_rays : K.lookup f8 = some ⟨oc8, od8, .func (PySem.W.fnOf "_law_plain_rays" "_law_plain_rays" (defArgs s_l_plain_rays) (defBody s_l_plain_rays) (defScope s_l_plain_rays) .none kV8 dc8 pm8 an8 cd8 ct8), sl8⟩)
    (k_l_plain_rays : PySem.W.codeIn K cd8 "_law_plain_rays" = true)
    (p_l_plain_rays : PySem.W.keepIn K (.ref f8) = true)
    (a_l_mixed : PySem.W.nsIn K mainGlobals "_law_mixed" = some (some (.ref f9)))
    (l_l_mixed : K.lookup f9 = some ⟨oc9, od9, .func (PySem.W.fnOf "_law_mixed" "_law_mixed" (defArgs s_l_mixed) (defBody s_l_mixed) (defScope s_l_mixed) .none kV9 dc9 pm9 an9 cd9 ct9), sl9⟩)
    (k_l_mixed : PySem.W.codeIn K cd9 "_law_mixed" = true)
    (p_l_mixed : PySem.W.keepIn K (.ref f9) = true)
    (a_l_summed : PySem.W.nsIn K mainGlobals "_law_summed" = some (some (.ref f10)))
    (l_l_summed : K.lookup f10 = some ⟨oc10, od10, .func (PySem.W.fnOf "_law_summed" "_law_summed" (defArgs s_l_summed) (defBody s_l_summed) (defScope s_l_summed) .none kV10 dc10 pm10 an10 cd10 ct10), sl10⟩)
    (k_l_summed : PySem.W.codeIn K cd10 "_law_summed" = true)
    (p_l_summed : PySem.W.keepIn K (.ref f10) = true)
    (a_l_number : PySem.W.nsIn K mainGlobals "_law_number" = some (some (.ref f11)))
    (l_l_number : K.lookup f11 = some ⟨oc11, od11, .func (PySem.W.fnOf "_law_number" "_law_number" (defArgs s_l_number) (defBody s_l_number) (defScope s_l_number) .none kV11 dc11 pm11 an11 cd11 ct11), sl11⟩)
    (k_l_number : PySem.W.codeIn K cd11 "_law_number" = true)
    (p_l_number : PySem.W.keepIn K (.ref f11) = true)
    (a_l_some_row : PySem.W.nsIn K mainGlobals "_law_some_row" = some (some (.ref f12)))
    (l_l_some_row : K.lookup f12 = some ⟨oc12, od12, .func (PySem.W.fnOf "_law_some_row" "_law_some_row" (defArgs s_l_some_row) (defBody s_l_some_row) (defScope s_l_some_row) .none kV12 dc12 pm12 an12 cd12 ct12), sl12⟩)
    (k_l_some_row : PySem.W.codeIn K cd12 "_law_some_row" = true)
    (p_l_some_row : PySem.W.keepIn K (.ref f12) = true)
    (a_l_some_table : PySem.W.nsIn K mainGlobals "_law_some_table" = some (some (.ref f13)))
    (l_l_some_table : K.lookup f13 = some ⟨oc13, od13, .func (PySem.W.fnOf "_law_some_table" "_law_some_table" (defArgs s_l_some_table) (defBody s_l_some_table) (defScope s_l_some_table) .none kV13 dc13 pm13 an13 cd13 ct13), sl13⟩)
    (k_l_some_table : PySem.W.codeIn K cd13 "_law_some_table" = true)
    (p_l_some_table : PySem.W.keepIn K (.ref f13) = true)
    (a_l_plus : PySem.W.nsIn K mainGlobals "_law_plus" = some (some (.ref f14)))
    (l_l_plus : K.lookup f14 = some ⟨oc14, od14, .func (PySem.W.fnOf "_law_plus" "_law_plus" (defArgs s_l_plus) (defBody s_l_plus) (defScope s_l_plus) .none kV14 dc14 pm14 an14 cd14 ct14), sl14⟩)
    (k_l_plus : PySem.W.codeIn K cd14 "_law_plus" = true)
    (p_l_plus : PySem.W.keepIn K (.ref f14) = true)
    (a_l_begun : PySem.W.nsIn K mainGlobals "_law_begun" = some (some (.ref f15)))
    (l_l_begun : K.lookup f15 = some ⟨oc15, od15, .func (PySem.W.fnOf "_law_begun" "_law_begun" (defArgs s_l_begun) (defBody s_l_begun) (defScope s_l_begun) .none kV15 dc15 pm15 an15 cd15 ct15), sl15⟩)
    (k_l_begun : PySem.W.codeIn K cd15 "_law_begun" = true)
    (p_l_begun : PySem.W.keepIn K (.ref f15) = true)
    (a_l_is_positive : PySem.W.nsIn K mainGlobals "_law_is_positive" = some (some (.ref f16)))
    (l_l_is_positive : K.lookup f16 = some ⟨oc16, od16, .func (PySem.W.fnOf "_law_is_positive" "_law_is_positive" (defArgs s_l_is_positive) (defBody s_l_is_positive) (defScope s_l_is_positive) .none kV16 dc16 pm16 an16 cd16 ct16), sl16⟩)
    (k_l_is_positive : PySem.W.codeIn K cd16 "_law_is_positive" = true)
    (p_l_is_positive : PySem.W.keepIn K (.ref f16) = true)
    (a_l_matrix : PySem.W.nsIn K mainGlobals "_law_matrix" = some (some (.ref f17)))
    (l_l_matrix : K.lookup f17 = some ⟨oc17, od17, .func (PySem.W.fnOf "_law_matrix" "_law_matrix" (defArgs s_l_matrix) (defBody s_l_matrix) (defScope s_l_matrix) .none kV17 dc17 pm17 an17 cd17 ct17), sl17⟩)
    (k_l_matrix : PySem.W.codeIn K cd17 "_law_matrix" = true)
    (p_l_matrix : PySem.W.keepIn K (.ref f17) = true)
    (a_l_turned : PySem.W.nsIn K mainGlobals "_law_turned" = some (some (.ref f18)))
    (l_l_turned : K.lookup f18 = some ⟨oc18, od18, .func (PySem.W.fnOf "_law_turned" "_law_turned" (defArgs s_l_turned) (defBody s_l_turned) (defScope s_l_turned) .none kV18 dc18 pm18 an18 cd18 ct18), sl18⟩)
    (k_l_turned : PySem.W.codeIn K cd18 "_law_turned" = true)
    (p_l_turned : PySem.W.keepIn K (.ref f18) = true)
    (a_l_row_led : PySem.W.nsIn K mainGlobals "_law_row_led" = some (some (.ref f19)))
    (l_l_row_led : K.lookup f19 = some ⟨oc19, od19, .func (PySem.W.fnOf "_law_row_led" "_law_row_led" (defArgs s_l_row_led) (defBody s_l_row_led) (defScope s_l_row_led) .none kV19 dc19 pm19 an19 cd19 ct19), sl19⟩)
    (k_l_row_led : PySem.W.codeIn K cd19 "_law_row_led" = true)
    (p_l_row_led : PySem.W.keepIn K (.ref f19) = true)
    (a_l_product : PySem.W.nsIn K mainGlobals "_law_product" = some (some (.ref f20)))
    (l_l_product : K.lookup f20 = some ⟨oc20, od20, .func (PySem.W.fnOf "_law_product" "_law_product" (defArgs s_l_product) (defBody s_l_product) (defScope s_l_product) .none kV20 dc20 pm20 an20 cd20 ct20), sl20⟩)
    (k_l_product : PySem.W.codeIn K cd20 "_law_product" = true)
    (p_l_product : PySem.W.keepIn K (.ref f20) = true)
    (a_l_led : PySem.W.nsIn K mainGlobals "_law_led" = some (some (.ref f21)))
    (l_l_led : K.lookup f21 = some ⟨oc21, od21, .func (PySem.W.fnOf "_law_led" "_law_led" (defArgs s_l_led) (defBody s_l_led) (defScope s_l_led) .none kV21 dc21 pm21 an21 cd21 ct21), sl21⟩)
    (k_l_led : PySem.W.codeIn K cd21 "_law_led" = true)
    (p_l_led : PySem.W.keepIn K (.ref f21) = true)
    (a_l_positive : PySem.W.nsIn K mainGlobals "_law_positive" = some (some (.ref f22)))
    (l_l_positive : K.lookup f22 = some ⟨oc22, od22, .func (PySem.W.fnOf "_law_positive" "_law_positive" (defArgs s_l_positive) (defBody s_l_positive) (defScope s_l_positive) .none kV22 dc22 pm22 an22 cd22 ct22), sl22⟩)
    (k_l_positive : PySem.W.codeIn K cd22 "_law_positive" = true)
    (p_l_positive : PySem.W.keepIn K (.ref f22) = true)
    (a_l_wide : PySem.W.nsIn K mainGlobals "_law_wide" = some (some (.ref f23)))
    (l_l_wide : K.lookup f23 = some ⟨oc23, od23, .func (PySem.W.fnOf "_law_wide" "_law_wide" (defArgs s_l_wide) (defBody s_l_wide) (defScope s_l_wide) .none kV23 dc23 pm23 an23 cd23 ct23), sl23⟩)
    (k_l_wide : PySem.W.codeIn K cd23 "_law_wide" = true)
    (p_l_wide : PySem.W.keepIn K (.ref f23) = true)
    (a_size_told : PySem.W.nsIn K mainGlobals "size_told" = some (some (.ref f24)))
    (l_size_told : K.lookup f24 = some ⟨oc24, od24, .func (PySem.W.fnOf "size_told" "size_told" (defArgs s_size_told) (defBody s_size_told) (defScope s_size_told) .none kV24 dc24 pm24 an24 cd24 ct24), sl24⟩)
    (k_size_told : PySem.W.codeIn K cd24 "size_told" = true)
    (p_size_told : PySem.W.keepIn K (.ref f24) = true)
    (a_is_whole : PySem.W.nsIn K mainGlobals "is_whole" = some (some (.ref f25)))
    (l_is_whole : K.lookup f25 = some ⟨oc25, od25, .func (PySem.W.fnOf "is_whole" "is_whole" (defArgs s_is_whole) (defBody s_is_whole) (defScope s_is_whole) .none kV25 dc25 pm25 an25 cd25 ct25), sl25⟩)
    (k_is_whole : PySem.W.codeIn K cd25 "is_whole" = true)
    (p_is_whole : PySem.W.keepIn K (.ref f25) = true)
    (a_is_integer : PySem.W.nsIn K mainGlobals "is_integer" = some (some (.ref f26)))
    (l_is_integer : K.lookup f26 = some ⟨oc26, od26, .func (PySem.W.fnOf "is_integer" "is_integer" (defArgs s_is_integer) (defBody s_is_integer) (defScope s_is_integer) .none kV26 dc26 pm26 an26 cd26 ct26), sl26⟩)
    (k_is_integer : PySem.W.codeIn K cd26 "is_integer" = true)
    (p_is_integer : PySem.W.keepIn K (.ref f26) = true)
    (a_is_row_of : PySem.W.nsIn K mainGlobals "is_row_of" = some (some (.ref f27)))
    (l_is_row_of : K.lookup f27 = some ⟨oc27, od27, .func (PySem.W.fnOf "is_row_of" "is_row_of" (defArgs s_is_row_of) (defBody s_is_row_of) (defScope s_is_row_of) .none kV27 dc27 pm27 an27 cd27 ct27), sl27⟩)
    (k_is_row_of : PySem.W.codeIn K cd27 "is_row_of" = true)
    (p_is_row_of : PySem.W.keepIn K (.ref f27) = true)
    (a_are_rows_of : PySem.W.nsIn K mainGlobals "are_rows_of" = some (some (.ref f28)))
    (l_are_rows_of : K.lookup f28 = some ⟨oc28, od28, .func (PySem.W.fnOf "are_rows_of" "are_rows_of" (defArgs s_are_rows_of) (defBody s_are_rows_of) (defScope s_are_rows_of) .none kV28 dc28 pm28 an28 cd28 ct28), sl28⟩)
    (k_are_rows_of : PySem.W.codeIn K cd28 "are_rows_of" = true)
    (p_are_rows_of : PySem.W.keepIn K (.ref f28) = true)
    (a_is_even : PySem.W.nsIn K mainGlobals "is_even" = some (some (.ref f29)))
    (l_is_even : K.lookup f29 = some ⟨oc29, od29, .func (PySem.W.fnOf "is_even" "is_even" (defArgs s_is_even) (defBody s_is_even) (defScope s_is_even) .none kV29 dc29 pm29 an29 cd29 ct29), sl29⟩)
    (k_is_even : PySem.W.codeIn K cd29 "is_even" = true)
    (p_is_even : PySem.W.keepIn K (.ref f29) = true)
    (a_is_table_of : PySem.W.nsIn K mainGlobals "is_table_of" = some (some (.ref f30)))
    (l_is_table_of : K.lookup f30 = some ⟨oc30, od30, .func (PySem.W.fnOf "is_table_of" "is_table_of" (defArgs s_is_table_of) (defBody s_is_table_of) (defScope s_is_table_of) .none kV30 dc30 pm30 an30 cd30 ct30), sl30⟩)
    (k_is_table_of : PySem.W.codeIn K cd30 "is_table_of" = true)
    (p_is_table_of : PySem.W.keepIn K (.ref f30) = true)
    (a_corner_of : PySem.W.nsIn K mainGlobals "corner_of" = some (some (.ref f31)))
    (l_corner_of : K.lookup f31 = some ⟨oc31, od31, .func (PySem.W.fnOf "corner_of" "corner_of" (defArgs s_corner_of) (defBody s_corner_of) (defScope s_corner_of) .none kV31 dc31 pm31 an31 cd31 ct31), sl31⟩)
    (k_corner_of : PySem.W.codeIn K cd31 "corner_of" = true)
    (p_corner_of : PySem.W.keepIn K (.ref f31) = true)
    (a_determinant_of : PySem.W.nsIn K mainGlobals "determinant_of" = some (some (.ref f32)))
    (l_determinant_of : K.lookup f32 = some ⟨oc32, od32, .func (PySem.W.fnOf "determinant_of" "determinant_of" (defArgs s_determinant_of) (defBody s_determinant_of) (defScope s_determinant_of) .none kV32 dc32 pm32 an32 cd32 ct32), sl32⟩)
    (k_determinant_of : PySem.W.codeIn K cd32 "determinant_of" = true)
    (p_determinant_of : PySem.W.keepIn K (.ref f32) = true)
    (a_minors_in : PySem.W.nsIn K mainGlobals "minors_in" = some (some (.ref f33)))
    (l_minors_in : K.lookup f33 = some ⟨oc33, od33, .func (PySem.W.fnOf "minors_in" "minors_in" (defArgs s_minors_in) (defBody s_minors_in) (defScope s_minors_in) .none kV33 dc33 pm33 an33 cd33 ct33), sl33⟩)
    (k_minors_in : PySem.W.codeIn K cd33 "minors_in" = true)
    (p_minors_in : PySem.W.keepIn K (.ref f33) = true)
    (a_is_positive_in : PySem.W.nsIn K mainGlobals "is_positive_in" = some (some (.ref f34)))
    (l_is_positive_in : K.lookup f34 = some ⟨oc34, od34, .func (PySem.W.fnOf "is_positive_in" "is_positive_in" (defArgs s_is_positive_in) (defBody s_is_positive_in) (defScope s_is_positive_in) .none kV34 dc34 pm34 an34 cd34 ct34), sl34⟩)
    (k_is_positive_in : PySem.W.codeIn K cd34 "is_positive_in" = true)
    (p_is_positive_in : PySem.W.keepIn K (.ref f34) = true)
    (a_table_told : PySem.W.nsIn K mainGlobals "table_told" = some (some (.ref f35)))
    (l_table_told : K.lookup f35 = some ⟨oc35, od35, .func (PySem.W.fnOf "table_told" "table_told" (defArgs s_table_told) (defBody s_table_told) (defScope s_table_told) .none kV35 dc35 pm35 an35 cd35 ct35), sl35⟩)
    (k_table_told : PySem.W.codeIn K cd35 "table_told" = true)
    (p_table_told : PySem.W.keepIn K (.ref f35) = true)
    (a_Form___init__ : PySem.W.findIn K (.ref c_Form) "__init__" = some (some (.ref f36)))
    (i_Form___init__ : PySem.W.isFn K (.ref f36) = true)
    (l_Form___init__ : K.lookup f36 = some ⟨oc36, od36, .func (PySem.W.fnOf "__init__" "Form.__init__" (defArgs s_Form___init__) (defBody s_Form___init__) (defScope s_Form___init__) .none kV36 dc36 pm36 an36 cd36 ct36), sl36⟩)
    (k_Form___init__ : PySem.W.codeIn K cd36 "Form.__init__" = true)
    (p_Form___init__ : PySem.W.keepIn K (.ref f36) = true)
    (a_Form___len__ : PySem.W.findIn K (.ref c_Form) "__len__" = some (some (.ref f37)))
    (i_Form___len__ : PySem.W.isFn K (.ref f37) = true)
    (l_Form___len__ : K.lookup f37 = some ⟨oc37, od37, .func (PySem.W.fnOf "__len__" "Form.__len__" (defArgs s_Form___len__) (defBody s_Form___len__) (defScope s_Form___len__) .none kV37 dc37 pm37 an37 cd37 ct37), sl37⟩)
    (k_Form___len__ : PySem.W.codeIn K cd37 "Form.__len__" = true)
    (p_Form___len__ : PySem.W.keepIn K (.ref f37) = true)
    (a_Form_determinant : PySem.W.findIn K (.ref c_Form) "determinant" = some (some (.ref r38)))
    (g_Form_determinant : PySem.W.specialIn K (.ref r38) "__get__" = some (some (.builtin "property.__get__")))
    (t_Form_determinant : PySem.W.takesIn K (.ref r38) = some true)
    (r_Form_determinant : PySem.W.recIn K r38 "property" = some (.ref f38 :: rest38))
    (l_Form_determinant : K.lookup f38 = some ⟨oc38, od38, .func (PySem.W.fnOf "determinant" "Form.determinant" (defArgs s_Form_determinant) (defBody s_Form_determinant) (defScope s_Form_determinant) .none kV38 dc38 pm38 an38 cd38 ct38), sl38⟩)
    (k_Form_determinant : PySem.W.codeIn K cd38 "Form.determinant" = true)
    (p_Form_determinant : PySem.W.keepIn K (.ref f38) = true)
    (a_Form_table : PySem.W.findIn K (.ref c_Form) "table" = some (some (.ref r39)))
    (g_Form_table : PySem.W.specialIn K (.ref r39) "__get__" = some (some (.builtin "property.__get__")))
    (t_Form_table : PySem.W.takesIn K (.ref r39) = some true)
    (r_Form_table : PySem.W.recIn K r39 "property" = some (.ref f39 :: rest39))
    (l_Form_table : K.lookup f39 = some ⟨oc39, od39, .func (PySem.W.fnOf "table" "Form.table" (defArgs s_Form_table) (defBody s_Form_table) (defScope s_Form_table) .none kV39 dc39 pm39 an39 cd39 ct39), sl39⟩)
    (k_Form_table : PySem.W.codeIn K cd39 "Form.table" = true)
    (p_Form_table : PySem.W.keepIn K (.ref f39) = true)
    (a_Form_size : PySem.W.findIn K (.ref c_Form) "size" = some (some (.ref r40)))
    (g_Form_size : PySem.W.specialIn K (.ref r40) "__get__" = some (some (.builtin "property.__get__")))
    (t_Form_size : PySem.W.takesIn K (.ref r40) = some true)
    (r_Form_size : PySem.W.recIn K r40 "property" = some (.ref f40 :: rest40))
    (l_Form_size : K.lookup f40 = some ⟨oc40, od40, .func (PySem.W.fnOf "size" "Form.size" (defArgs s_Form_size) (defBody s_Form_size) (defScope s_Form_size) .none kV40 dc40 pm40 an40 cd40 ct40), sl40⟩)
    (k_Form_size : PySem.W.codeIn K cd40 "Form.size" = true)
    (p_Form_size : PySem.W.keepIn K (.ref f40) = true)
    (a_Form_minors : PySem.W.findIn K (.ref c_Form) "minors" = some (some (.ref r41)))
    (g_Form_minors : PySem.W.specialIn K (.ref r41) "__get__" = some (some (.builtin "property.__get__")))
    (t_Form_minors : PySem.W.takesIn K (.ref r41) = some true)
    (r_Form_minors : PySem.W.recIn K r41 "property" = some (.ref f41 :: rest41))
    (l_Form_minors : K.lookup f41 = some ⟨oc41, od41, .func (PySem.W.fnOf "minors" "Form.minors" (defArgs s_Form_minors) (defBody s_Form_minors) (defScope s_Form_minors) .none kV41 dc41 pm41 an41 cd41 ct41), sl41⟩)
    (k_Form_minors : PySem.W.codeIn K cd41 "Form.minors" = true)
    (p_Form_minors : PySem.W.keepIn K (.ref f41) = true)
    (a_without : PySem.W.nsIn K mainGlobals "without" = some (some (.ref f42)))
    (l_without : K.lookup f42 = some ⟨oc42, od42, .func (PySem.W.fnOf "without" "without" (defArgs s_without) (defBody s_without) (defScope s_without) .none kV42 dc42 pm42 an42 cd42 ct42), sl42⟩)
    (k_without : PySem.W.codeIn K cd42 "without" = true)
    (p_without : PySem.W.keepIn K (.ref f42) = true)
    (a_cofactor : PySem.W.nsIn K mainGlobals "cofactor" = some (some (.ref f43)))
    (l_cofactor : K.lookup f43 = some ⟨oc43, od43, .func (PySem.W.fnOf "cofactor" "cofactor" (defArgs s_cofactor) (defBody s_cofactor) (defScope s_cofactor) .none kV43 dc43 pm43 an43 cd43 ct43), sl43⟩)
    (k_cofactor : PySem.W.codeIn K cd43 "cofactor" = true)
    (p_cofactor : PySem.W.keepIn K (.ref f43) = true)
    (a_adjoint_of : PySem.W.nsIn K mainGlobals "adjoint_of" = some (some (.ref f44)))
    (l_adjoint_of : K.lookup f44 = some ⟨oc44, od44, .func (PySem.W.fnOf "adjoint_of" "adjoint_of" (defArgs s_adjoint_of) (defBody s_adjoint_of) (defScope s_adjoint_of) .none kV44 dc44 pm44 an44 cd44 ct44), sl44⟩)
    (k_adjoint_of : PySem.W.codeIn K cd44 "adjoint_of" = true)
    (p_adjoint_of : PySem.W.keepIn K (.ref f44) = true)
    (a_Sure___init__ : PySem.W.findIn K (.ref c_Sure) "__init__" = some (some (.ref f45)))
    (i_Sure___init__ : PySem.W.isFn K (.ref f45) = true)
    (l_Sure___init__ : K.lookup f45 = some ⟨oc45, od45, .func (PySem.W.fnOf "__init__" "Sure.__init__" (defArgs s_Sure___init__) (defBody s_Sure___init__) (defScope s_Sure___init__) .none kV45 dc45 pm45 an45 cd45 ct45), sl45⟩)
    (k_Sure___init__ : PySem.W.codeIn K cd45 "Sure.__init__" = true)
    (p_Sure___init__ : PySem.W.keepIn K (.ref f45) = true)
    (a_form_with : PySem.W.nsIn K mainGlobals "form_with" = some (some (.ref f46)))
    (l_form_with : K.lookup f46 = some ⟨oc46, od46, .func (PySem.W.fnOf "form_with" "form_with" (defArgs s_form_with) (defBody s_form_with) (defScope s_form_with) .none kV46 dc46 pm46 an46 cd46 ct46), sl46⟩)
    (k_form_with : PySem.W.codeIn K cd46 "form_with" = true)
    (p_form_with : PySem.W.keepIn K (.ref f46) = true)
    (a_Form_adjoint : PySem.W.findIn K (.ref c_Form) "adjoint" = some (some (.ref r47)))
    (g_Form_adjoint : PySem.W.specialIn K (.ref r47) "__get__" = some (some (.builtin "property.__get__")))
    (t_Form_adjoint : PySem.W.takesIn K (.ref r47) = some true)
    (r_Form_adjoint : PySem.W.recIn K r47 "property" = some (.ref f47 :: rest47))
    (l_Form_adjoint : K.lookup f47 = some ⟨oc47, od47, .func (PySem.W.fnOf "adjoint" "Form.adjoint" (defArgs s_Form_adjoint) (defBody s_Form_adjoint) (defScope s_Form_adjoint) .none kV47 dc47 pm47 an47 cd47 ct47), sl47⟩)
    (k_Form_adjoint : PySem.W.codeIn K cd47 "Form.adjoint" = true)
    (p_Form_adjoint : PySem.W.keepIn K (.ref f47) = true)
    (a_divisor_of : PySem.W.nsIn K mainGlobals "divisor_of" = some (some (.ref f48)))
    (l_divisor_of : K.lookup f48 = some ⟨oc48, od48, .func (PySem.W.fnOf "divisor_of" "divisor_of" (defArgs s_divisor_of) (defBody s_divisor_of) (defScope s_divisor_of) .none kV48 dc48 pm48 an48 cd48 ct48), sl48⟩)
    (k_divisor_of : PySem.W.codeIn K cd48 "divisor_of" = true)
    (p_divisor_of : PySem.W.keepIn K (.ref f48) = true)
    (a_content_in : PySem.W.nsIn K mainGlobals "content_in" = some (some (.ref f49)))
    (l_content_in : K.lookup f49 = some ⟨oc49, od49, .func (PySem.W.fnOf "content_in" "content_in" (defArgs s_content_in) (defBody s_content_in) (defScope s_content_in) .none kV49 dc49 pm49 an49 cd49 ct49), sl49⟩)
    (k_content_in : PySem.W.codeIn K cd49 "content_in" = true)
    (p_content_in : PySem.W.keepIn K (.ref f49) = true)
    (a_Form_content : PySem.W.findIn K (.ref c_Form) "content" = some (some (.ref r50)))
    (g_Form_content : PySem.W.specialIn K (.ref r50) "__get__" = some (some (.builtin "property.__get__")))
    (t_Form_content : PySem.W.takesIn K (.ref r50) = some true)
    (r_Form_content : PySem.W.recIn K r50 "property" = some (.ref f50 :: rest50))
    (l_Form_content : K.lookup f50 = some ⟨oc50, od50, .func (PySem.W.fnOf "content" "Form.content" (defArgs s_Form_content) (defBody s_Form_content) (defScope s_Form_content) .none kV50 dc50 pm50 an50 cd50 ct50), sl50⟩)
    (k_Form_content : PySem.W.codeIn K cd50 "Form.content" = true)
    (p_Form_content : PySem.W.keepIn K (.ref f50) = true)
    (a_l_common : PySem.W.nsIn K mainGlobals "_law_common" = some (some (.ref f51)))
    (l_l_common : K.lookup f51 = some ⟨oc51, od51, .func (PySem.W.fnOf "_law_common" "_law_common" (defArgs s_l_common) (defBody s_l_common) (defScope s_l_common) .none kV51 dc51 pm51 an51 cd51 ct51), sl51⟩)
    (k_l_common : PySem.W.codeIn K cd51 "_law_common" = true)
    (p_l_common : PySem.W.keepIn K (.ref f51) = true)
    (a_l_content : PySem.W.nsIn K mainGlobals "_law_content" = some (some (.ref f52)))
    (l_l_content : K.lookup f52 = some ⟨oc52, od52, .func (PySem.W.fnOf "_law_content" "_law_content" (defArgs s_l_content) (defBody s_l_content) (defScope s_l_content) .none kV52 dc52 pm52 an52 cd52 ct52), sl52⟩)
    (k_l_content : PySem.W.codeIn K cd52 "_law_content" = true)
    (p_l_content : PySem.W.keepIn K (.ref f52) = true)
    (a_Form___str__ : PySem.W.findIn K (.ref c_Form) "__str__" = some (some (.ref f53)))
    (i_Form___str__ : PySem.W.isFn K (.ref f53) = true)
    (l_Form___str__ : K.lookup f53 = some ⟨oc53, od53, .func (PySem.W.fnOf "__str__" "Form.__str__" (defArgs s_Form___str__) (defBody s_Form___str__) (defScope s_Form___str__) .none kV53 dc53 pm53 an53 cd53 ct53), sl53⟩)
    (k_Form___str__ : PySem.W.codeIn K cd53 "Form.__str__" = true)
    (p_Form___str__ : PySem.W.keepIn K (.ref f53) = true)
    (a_cleared_table : PySem.W.nsIn K mainGlobals "cleared_table" = some (some (.ref f54)))
    (l_cleared_table : K.lookup f54 = some ⟨oc54, od54, .func (PySem.W.fnOf "cleared_table" "cleared_table" (defArgs s_cleared_table) (defBody s_cleared_table) (defScope s_cleared_table) .none kV54 dc54 pm54 an54 cd54 ct54), sl54⟩)
    (k_cleared_table : PySem.W.codeIn K cd54 "cleared_table" = true)
    (p_cleared_table : PySem.W.keepIn K (.ref f54) = true)
    (a_Form_cleared : PySem.W.findIn K (.ref c_Form) "cleared" = some (some (.ref f55)))
    (i_Form_cleared : PySem.W.isFn K (.ref f55) = true)
    (l_Form_cleared : K.lookup f55 = some ⟨oc55, od55, .func (PySem.W.fnOf "cleared" "Form.cleared" (defArgs s_Form_cleared) (defBody s_Form_cleared) (defScope s_Form_cleared) .none kV55 dc55 pm55 an55 cd55 ct55), sl55⟩)
    (k_Form_cleared : PySem.W.codeIn K cd55 "Form.cleared" = true)
    (p_Form_cleared : PySem.W.keepIn K (.ref f55) = true)
    (a_l_cleared : PySem.W.nsIn K mainGlobals "_law_cleared" = some (some (.ref f56)))
    (l_l_cleared : K.lookup f56 = some ⟨oc56, od56, .func (PySem.W.fnOf "_law_cleared" "_law_cleared" (defArgs s_l_cleared) (defBody s_l_cleared) (defScope s_l_cleared) .none kV56 dc56 pm56 an56 cd56 ct56), sl56⟩)
    (k_l_cleared : PySem.W.codeIn K cd56 "_law_cleared" = true)
    (p_l_cleared : PySem.W.keepIn K (.ref f56) = true)
    (a_Form___eq__ : PySem.W.findIn K (.ref c_Form) "__eq__" = some (some (.ref f57)))
    (i_Form___eq__ : PySem.W.isFn K (.ref f57) = true)
    (l_Form___eq__ : K.lookup f57 = some ⟨oc57, od57, .func (PySem.W.fnOf "__eq__" "Form.__eq__" (defArgs s_Form___eq__) (defBody s_Form___eq__) (defScope s_Form___eq__) .none kV57 dc57 pm57 an57 cd57 ct57), sl57⟩)
    (k_Form___eq__ : PySem.W.codeIn K cd57 "Form.__eq__" = true)
    (p_Form___eq__ : PySem.W.keepIn K (.ref f57) = true)
    (a_l_is_told : PySem.W.nsIn K mainGlobals "_law_is_told" = some (some (.ref f58)))
    (l_l_is_told : K.lookup f58 = some ⟨oc58, od58, .func (PySem.W.fnOf "_law_is_told" "_law_is_told" (defArgs s_l_is_told) (defBody s_l_is_told) (defScope s_l_is_told) .none kV58 dc58 pm58 an58 cd58 ct58), sl58⟩)
    (k_l_is_told : PySem.W.codeIn K cd58 "_law_is_told" = true)
    (p_l_is_told : PySem.W.keepIn K (.ref f58) = true)
    (a_require_row : PySem.W.nsIn K mainGlobals "require_row" = some (some (.ref f59)))
    (l_require_row : K.lookup f59 = some ⟨oc59, od59, .func (PySem.W.fnOf "require_row" "require_row" (defArgs s_require_row) (defBody s_require_row) (defScope s_require_row) .none kV59 dc59 pm59 an59 cd59 ct59), sl59⟩)
    (k_require_row : PySem.W.codeIn K cd59 "require_row" = true)
    (p_require_row : PySem.W.keepIn K (.ref f59) = true)
    (a_dot : PySem.W.nsIn K mainGlobals "dot" = some (some (.ref f60)))
    (l_dot : K.lookup f60 = some ⟨oc60, od60, .func (PySem.W.fnOf "dot" "dot" (defArgs s_dot) (defBody s_dot) (defScope s_dot) .none kV60 dc60 pm60 an60 cd60 ct60), sl60⟩)
    (k_dot : PySem.W.codeIn K cd60 "dot" = true)
    (p_dot : PySem.W.keepIn K (.ref f60) = true)
    (a_row_led : PySem.W.nsIn K mainGlobals "row_led" = some (some (.ref f61)))
    (l_row_led : K.lookup f61 = some ⟨oc61, od61, .func (PySem.W.fnOf "row_led" "row_led" (defArgs s_row_led) (defBody s_row_led) (defScope s_row_led) .none kV61 dc61 pm61 an61 cd61 ct61), sl61⟩)
    (k_row_led : PySem.W.codeIn K cd61 "row_led" = true)
    (p_row_led : PySem.W.keepIn K (.ref f61) = true)
    (a_pairing_in : PySem.W.nsIn K mainGlobals "pairing_in" = some (some (.ref f62)))
    (l_pairing_in : K.lookup f62 = some ⟨oc62, od62, .func (PySem.W.fnOf "pairing_in" "pairing_in" (defArgs s_pairing_in) (defBody s_pairing_in) (defScope s_pairing_in) .none kV62 dc62 pm62 an62 cd62 ct62), sl62⟩)
    (k_pairing_in : PySem.W.codeIn K cd62 "pairing_in" = true)
    (p_pairing_in : PySem.W.keepIn K (.ref f62) = true)
    (a_value_in : PySem.W.nsIn K mainGlobals "value_in" = some (some (.ref f63)))
    (l_value_in : K.lookup f63 = some ⟨oc63, od63, .func (PySem.W.fnOf "value_in" "value_in" (defArgs s_value_in) (defBody s_value_in) (defScope s_value_in) .none kV63 dc63 pm63 an63 cd63 ct63), sl63⟩)
    (k_value_in : PySem.W.codeIn K cd63 "value_in" = true)
    (p_value_in : PySem.W.keepIn K (.ref f63) = true)
    (a_Form_value : PySem.W.findIn K (.ref c_Form) "value" = some (some (.ref f64)))
    (i_Form_value : PySem.W.isFn K (.ref f64) = true)
    (l_Form_value : K.lookup f64 = some ⟨oc64, od64, .func (PySem.W.fnOf "value" "Form.value" (defArgs s_Form_value) (defBody s_Form_value) (defScope s_Form_value) .none kV64 dc64 pm64 an64 cd64 ct64), sl64⟩)
    (k_Form_value : PySem.W.codeIn K cd64 "Form.value" = true)
    (p_Form_value : PySem.W.keepIn K (.ref f64) = true)
    (a_l_pairing : PySem.W.nsIn K mainGlobals "_law_pairing" = some (some (.ref f65)))
    (l_l_pairing : K.lookup f65 = some ⟨oc65, od65, .func (PySem.W.fnOf "_law_pairing" "_law_pairing" (defArgs s_l_pairing) (defBody s_l_pairing) (defScope s_l_pairing) .none kV65 dc65 pm65 an65 cd65 ct65), sl65⟩)
    (k_l_pairing : PySem.W.codeIn K cd65 "_law_pairing" = true)
    (p_l_pairing : PySem.W.keepIn K (.ref f65) = true)
    (a_l_value : PySem.W.nsIn K mainGlobals "_law_value" = some (some (.ref f66)))
    (l_l_value : K.lookup f66 = some ⟨oc66, od66, .func (PySem.W.fnOf "_law_value" "_law_value" (defArgs s_l_value) (defBody s_l_value) (defScope s_l_value) .none kV66 dc66 pm66 an66 cd66 ct66), sl66⟩)
    (k_l_value : PySem.W.codeIn K cd66 "_law_value" = true)
    (p_l_value : PySem.W.keepIn K (.ref f66) = true)
    (a_Form_pairing : PySem.W.findIn K (.ref c_Form) "pairing" = some (some (.ref f67)))
    (i_Form_pairing : PySem.W.isFn K (.ref f67) = true)
    (l_Form_pairing : K.lookup f67 = some ⟨oc67, od67, .func (PySem.W.fnOf "pairing" "Form.pairing" (defArgs s_Form_pairing) (defBody s_Form_pairing) (defScope s_Form_pairing) .none kV67 dc67 pm67 an67 cd67 ct67), sl67⟩)
    (k_Form_pairing : PySem.W.codeIn K cd67 "Form.pairing" = true)
    (p_Form_pairing : PySem.W.keepIn K (.ref f67) = true)
    (a_l_values_right : PySem.W.nsIn K mainGlobals "_law_values_right" = some (some (.ref f68)))
    (l_l_values_right : K.lookup f68 = some ⟨oc68, od68, .func (PySem.W.fnOf "_law_values_right" "_law_values_right" (defArgs s_l_values_right) (defBody s_l_values_right) (defScope s_l_values_right) .none kV68 dc68 pm68 an68 cd68 ct68), sl68⟩)
    (k_l_values_right : PySem.W.codeIn K cd68 "_law_values_right" = true)
    (p_l_values_right : PySem.W.keepIn K (.ref f68) = true)
    (e_Form_diagonal : PySem.W.readsIn K c_Form (.type "type") = true)
    (h_Form_diagonal : PySem.W.specialIn K (.ref c_Form) "__getattribute__" = some (some (.builtin "type.__getattribute__")))
    (a_Form_diagonal : PySem.W.findCls K (.ref c_Form) (.type "type") "diagonal" = some (.get (.builtin "classmethod.__get__") (.ref r69) .none (.ref c_Form)))
    (r_Form_diagonal : PySem.W.recIn K r69 "classmethod" = some (.ref f69 :: rest69))
    (i_Form_diagonal : PySem.W.fnIn K f69 = true)
    (l_Form_diagonal : K.lookup f69 = some ⟨oc69, od69, .func (PySem.W.fnOf "diagonal" "Form.diagonal" (defArgs s_Form_diagonal) (defBody s_Form_diagonal) (defScope s_Form_diagonal) .none kV69 dc69 pm69 an69 cd69 ct69), sl69⟩)
    (k_Form_diagonal : PySem.W.codeIn K cd69 "Form.diagonal" = true)
    (p_Form_diagonal : PySem.W.keepIn K (.ref f69) = true)
    (a_law : PySem.W.nsIn K mainGlobals "law" = some (some (.ref f70)))
    (l_law : K.lookup f70 = some ⟨oc70, od70, .func (PySem.W.fnOf "law" "law" (defArgs s_law) (defBody s_law) (defScope s_law) .none kV70 dc70 pm70 an70 cd70 ct70), sl70⟩)
    (k_law : PySem.W.codeIn K cd70 "law" = true)
    (p_law : PySem.W.keepIn K (.ref f70) = true)
    (z_abs : PySem.W.nsIn K mainGlobals "abs" = some none)
    (z_all : PySem.W.nsIn K mainGlobals "all" = some none)
    (z_bool : PySem.W.nsIn K mainGlobals "bool" = some none)
    (z_enumerate : PySem.W.nsIn K mainGlobals "enumerate" = some none)
    (z_int : PySem.W.nsIn K mainGlobals "int" = some none)
    (z_isinstance : PySem.W.nsIn K mainGlobals "isinstance" = some none)
    (z_len : PySem.W.nsIn K mainGlobals "len" = some none)
    (z_list : PySem.W.nsIn K mainGlobals "list" = some none)
    (z_max : PySem.W.nsIn K mainGlobals "max" = some none)
    (z_min : PySem.W.nsIn K mainGlobals "min" = some none)
    (z_range : PySem.W.nsIn K mainGlobals "range" = some none)
    (z_str : PySem.W.nsIn K mainGlobals "str" = some none)
    (z_sum : PySem.W.nsIn K mainGlobals "sum" = some none)
    (z_tuple : PySem.W.nsIn K mainGlobals "tuple" = some none)
    (z_zip : PySem.W.nsIn K mainGlobals "zip" = some none)
    (g_gcd : PySem.W.nsIn K mainGlobals "gcd" = some (some (.builtin "math.gcd")))
    (i_BEYOND : PySem.W.nsIn K mainGlobals "BEYOND" = some (some (.int (1000000000000000000000000000000000000000000000000000000000000) t_BEYOND)))
    (i_SIZES : PySem.W.nsIn K mainGlobals "SIZES" = some (some (.ref A_SIZES)))
    (j_SIZES : K.lookup A_SIZES = some ⟨.type "tuple", O_SIZES, .seq #[.int (2) t_SIZES_0, .int (3) t_SIZES_1, .int (4) t_SIZES_2] n_SIZES, S_SIZES⟩)
    : ∃ cl : Cl, ∀ base : Heap, K.In base → base.Ns mainGlobals mg → FnG P w K mg base CX0 16 fa (spD K 1 (sp_law cl)) := by
  have e := hfa.symm.trans (PySem.W.mg_of X G a_law)
  cases e
  have bl : Blt K mg := ⟨PySem.W.ns_none_of X G z_abs, PySem.W.ns_none_of X G z_all, PySem.W.ns_none_of X G z_bool, PySem.W.ns_none_of X G z_enumerate, PySem.W.ns_none_of X G z_int, PySem.W.ns_none_of X G z_isinstance, PySem.W.ns_none_of X G z_len, PySem.W.ns_none_of X G z_list, PySem.W.ns_none_of X G z_max, PySem.W.ns_none_of X G z_min, PySem.W.ns_none_of X G z_range, PySem.W.ns_none_of X G z_str, PySem.W.ns_none_of X G z_sum, PySem.W.ns_none_of X G z_tuple, PySem.W.ns_none_of X G z_zip, PySem.W.mg_of X G g_gcd, ⟨_, PySem.W.mg_of X G i_BEYOND⟩, ⟨_, PySem.W.mg_of X G i_SIZES, _, _, _, j_SIZES, rfl, rfl, (by show 3 ≤ _; decide), .cons ⟨_, rfl⟩ (.cons ⟨_, rfl⟩ (.cons ⟨_, rfl⟩ (.nil)))⟩⟩
  have nee : c_Form ≠ c_Sure := fun z => by
    have y := k2_Form_Sure
    rw [z] at y
    have := y.symm.trans (show PySem.W.kitOne K (.ref c_Sure) (.ref c_Sure) = some true from if_pos (beq_self_eq_true _))
    cases this
  obtain ⟨cl, e1, e2⟩ : ∃ cl : Cl, cl.Form = c_Form ∧ cl.Sure = c_Sure := ⟨⟨c_Form, c_Sure, nee⟩, rfl, rfl⟩
  subst e1 e2
  have K_Form : SlX.SCls K cl.Form := ⟨pg_Form, ic_Form, po_Form, sa_Form⟩
  have J_Form : SlX.SIsi K cl.Form := ⟨ca_Form, cng, ctk, cm_Form⟩
  have K_Sure : SlX.SCls K cl.Sure := ⟨pg_Sure, ic_Sure, po_Sure, sa_Sure⟩
  have J_Sure : SlX.SIsi K cl.Sure := ⟨ca_Sure, cng, ctk, cm_Sure⟩
  have I_Form : ClsI K cl.Form [cl.Form, cl.Sure] := ⟨fun n hn => by
    simp only [List.mem_cons, List.not_mem_nil, _root_.or_false] at hn
    rcases hn with rfl | rfl | rfl | rfl | rfl | rfl | rfl
    · exact k1_Form_NoneType
    · exact k1_Form_bool
    · exact k1_Form_int
    · exact k1_Form_str
    · exact k1_Form_tuple
    · exact k1_Form_list
    · exact k1_Form_dict
    , fun D hD => by
    simp only [List.mem_cons, List.not_mem_nil, _root_.or_false] at hD
    rcases hD with rfl | rfl
    · exact ⟨K_Form, J_Form, by rw [decide_eq_true rfl]; exact (show PySem.W.kitOne K (.ref cl.Form) (.ref cl.Form) = some true from if_pos (beq_self_eq_true _))⟩
    · exact ⟨K_Sure, J_Sure, by rw [decide_eq_false (Ne.symm cl.ne)]; exact k2_Sure_Form⟩
    ⟩
  have I_Sure : ClsI K cl.Sure [cl.Form, cl.Sure] := ⟨fun n hn => by
    simp only [List.mem_cons, List.not_mem_nil, _root_.or_false] at hn
    rcases hn with rfl | rfl | rfl | rfl | rfl | rfl | rfl
    · exact k1_Sure_NoneType
    · exact k1_Sure_bool
    · exact k1_Sure_int
    · exact k1_Sure_str
    · exact k1_Sure_tuple
    · exact k1_Sure_list
    · exact k1_Sure_dict
    , fun D hD => by
    simp only [List.mem_cons, List.not_mem_nil, _root_.or_false] at hD
    rcases hD with rfl | rfl
    · exact ⟨K_Form, J_Form, by rw [decide_eq_false (cl.ne)]; exact k2_Form_Sure⟩
    · exact ⟨K_Sure, J_Sure, by rw [decide_eq_true rfl]; exact (show PySem.W.kitOne K (.ref cl.Sure) (.ref cl.Sure) = some true from if_pos (beq_self_eq_true _))⟩
    ⟩
  have nfF : NotF K cl.Form := fun n hn => by
    simp only [plainTys, List.mem_cons, List.not_mem_nil, _root_.or_false] at hn
    rcases hn with rfl | rfl | rfl | rfl | rfl | rfl | rfl
    · exact nf_NoneType
    · exact nf_bool
    · exact nf_int
    · exact nf_str
    · exact nf_tuple
    · exact nf_list
    · exact nf_dict
  have fc : Fct K mg cl := ⟨PySem.W.mg_of X G cn_Form, PySem.W.mg_of X G cn_Sure, K_Form, K_Sure, clsF3 K_Form ⟨s1_Form_own_determinant, s2_Form_own_determinant, s3_Form_own_determinant, s4_Form_own_determinant, s5_Form_own_determinant, by decide⟩ ⟨s1_Form_own_size, s2_Form_own_size, s3_Form_own_size, s4_Form_own_size, s5_Form_own_size, by decide⟩ ⟨s1_Form_own_table, s2_Form_own_table, s3_Form_own_table, s4_Form_own_table, s5_Form_own_table, by decide⟩, clsF1 K_Sure ⟨s1_Sure_own_table, s2_Sure_own_table, s3_Sure_own_table, s4_Sure_own_table, s5_Sure_own_table, by decide⟩, I_Form, I_Sure, ⟨nfF, cm_Form, ne_Form⟩⟩
  refine ⟨cl, ?_⟩
  intro base _ _
  have F_l_bag := fun_mk (st := s_l_bag) l_l_bag k_l_bag p_l_bag
  have C_l_bag : CalleeN P w K mg base CX0 1 "_law_bag" 2 sp_l_bag := ⟨_, PySem.W.mg_of X G a_l_bag, p_l_bag, ok_l_bag bl  F_l_bag⟩
  have F_l_grab := fun_mk (st := s_l_grab) l_l_grab k_l_grab p_l_grab
  have C_l_grab : Callee P w K mg base CX0 1 "_law_grab" 2 sp_l_grab := ⟨_, PySem.W.mg_of X G a_l_grab, p_l_grab, ok_l_grab bl  F_l_grab⟩
  have F_l_one_of := fun_mk (st := s_l_one_of) l_l_one_of k_l_one_of p_l_one_of
  have C_l_one_of : Callee P w K mg base CX0 2 "_law_one_of" 2 sp_l_one_of := ⟨_, PySem.W.mg_of X G a_l_one_of, p_l_one_of, ok_l_one_of bl C_l_grab F_l_one_of⟩
  have F_l_size := fun_mk (st := s_l_size) l_l_size k_l_size p_l_size
  have C_l_size : Callee P w K mg base CX0 3 "_law_size" 1 sp_l_size := ⟨_, PySem.W.mg_of X G a_l_size, p_l_size, ok_l_size bl C_l_one_of F_l_size⟩
  have F_l_names := fun_mk (st := s_l_names) l_l_names k_l_names p_l_names
  have C_l_names : Callee P w K mg base CX0 1 "_law_names" 1 sp_l_names := ⟨_, PySem.W.mg_of X G a_l_names, p_l_names, ok_l_names bl  F_l_names⟩
  have F_l_told := fun_mk (st := s_l_told) l_l_told k_l_told p_l_told
  have C_l_told : Callee P w K mg base CX0 1 "_law_told" 1 sp_l_told := ⟨_, PySem.W.mg_of X G a_l_told, p_l_told, ok_l_told bl  F_l_told⟩
  have F_l_determinant := fun_mk (st := s_l_determinant) l_l_determinant k_l_determinant p_l_determinant
  have C_l_determinant : Callee P w K mg base CX0 1 "_law_determinant" 1 sp_l_determinant := ⟨_, PySem.W.mg_of X G a_l_determinant, p_l_determinant, ok_l_determinant bl  F_l_determinant⟩
  have F_l_adjoint := fun_mk (st := s_l_adjoint) l_l_adjoint k_l_adjoint p_l_adjoint
  have C_l_adjoint : Callee P w K mg base CX0 2 "_law_adjoint" 1 sp_l_adjoint := ⟨_, PySem.W.mg_of X G a_l_adjoint, p_l_adjoint, ok_l_adjoint bl C_l_determinant F_l_adjoint⟩
  have F_l_plain_rays := fun_mk (st := s_l_plain_rays) l_l_plain_rays k_l_plain_rays p_l_plain_rays
  have C_l_plain_rays : Callee P w K mg base CX0 1 "_law_plain_rays" 1 sp_l_plain_rays := ⟨_, PySem.W.mg_of X G a_l_plain_rays, p_l_plain_rays, ok_l_plain_rays bl  F_l_plain_rays⟩
  have F_l_mixed := fun_mk (st := s_l_mixed) l_l_mixed k_l_mixed p_l_mixed
  have C_l_mixed : Callee P w K mg base CX0 2 "_law_mixed" 2 sp_l_mixed := ⟨_, PySem.W.mg_of X G a_l_mixed, p_l_mixed, ok_l_mixed bl C_l_grab F_l_mixed⟩
  have F_l_summed := fun_mk (st := s_l_summed) l_l_summed k_l_summed p_l_summed
  have C_l_summed : Callee P w K mg base CX0 1 "_law_summed" 3 sp_l_summed := ⟨_, PySem.W.mg_of X G a_l_summed, p_l_summed, ok_l_summed bl  F_l_summed⟩
  have F_l_number := fun_mk (st := s_l_number) l_l_number k_l_number p_l_number
  have C_l_number : Callee P w K mg base CX0 2 "_law_number" 2 sp_l_number := ⟨_, PySem.W.mg_of X G a_l_number, p_l_number, ok_l_number bl C_l_grab F_l_number⟩
  have F_l_some_row := fun_mk (st := s_l_some_row) l_l_some_row k_l_some_row p_l_some_row
  have C_l_some_row : Callee P w K mg base CX0 3 "_law_some_row" 3 sp_l_some_row := ⟨_, PySem.W.mg_of X G a_l_some_row, p_l_some_row, ok_l_some_row bl C_l_number F_l_some_row⟩
  have F_l_some_table := fun_mk (st := s_l_some_table) l_l_some_table k_l_some_table p_l_some_table
  have C_l_some_table : Callee P w K mg base CX0 3 "_law_some_table" 3 sp_l_some_table := ⟨_, PySem.W.mg_of X G a_l_some_table, p_l_some_table, ok_l_some_table bl C_l_number F_l_some_table⟩
  have F_l_plus := fun_mk (st := s_l_plus) l_l_plus k_l_plus p_l_plus
  have C_l_plus : Callee P w K mg base CX0 1 "_law_plus" 3 sp_l_plus := ⟨_, PySem.W.mg_of X G a_l_plus, p_l_plus, ok_l_plus bl  F_l_plus⟩
  have F_l_begun := fun_mk (st := s_l_begun) l_l_begun k_l_begun p_l_begun
  have C_l_begun : Callee P w K mg base CX0 4 "_law_begun" 2 sp_l_begun := ⟨_, PySem.W.mg_of X G a_l_begun, p_l_begun, ok_l_begun bl C_l_grab C_l_names C_l_one_of C_l_told C_l_adjoint C_l_plain_rays C_l_mixed C_l_summed C_l_some_row C_l_some_table C_l_plus F_l_begun⟩
  have F_l_is_positive := fun_mk (st := s_l_is_positive) l_l_is_positive k_l_is_positive p_l_is_positive
  have C_l_is_positive : Callee P w K mg base CX0 2 "_law_is_positive" 1 sp_l_is_positive := ⟨_, PySem.W.mg_of X G a_l_is_positive, p_l_is_positive, ok_l_is_positive bl C_l_determinant F_l_is_positive⟩
  have F_l_matrix := fun_mk (st := s_l_matrix) l_l_matrix k_l_matrix p_l_matrix
  have C_l_matrix : Callee P w K mg base CX0 3 "_law_matrix" 3 sp_l_matrix := ⟨_, PySem.W.mg_of X G a_l_matrix, p_l_matrix, ok_l_matrix bl C_l_grab C_l_one_of C_l_mixed F_l_matrix⟩
  have F_l_turned := fun_mk (st := s_l_turned) l_l_turned k_l_turned p_l_turned
  have C_l_turned : Callee P w K mg base CX0 1 "_law_turned" 1 sp_l_turned := ⟨_, PySem.W.mg_of X G a_l_turned, p_l_turned, ok_l_turned bl  F_l_turned⟩
  have F_l_row_led := fun_mk (st := s_l_row_led) l_l_row_led k_l_row_led p_l_row_led
  have C_l_row_led : Callee P w K mg base CX0 1 "_law_row_led" 2 sp_l_row_led := ⟨_, PySem.W.mg_of X G a_l_row_led, p_l_row_led, ok_l_row_led bl  F_l_row_led⟩
  have F_l_product := fun_mk (st := s_l_product) l_l_product k_l_product p_l_product
  have C_l_product : Callee P w K mg base CX0 2 "_law_product" 2 sp_l_product := ⟨_, PySem.W.mg_of X G a_l_product, p_l_product, ok_l_product bl C_l_turned C_l_row_led F_l_product⟩
  have F_l_led := fun_mk (st := s_l_led) l_l_led k_l_led p_l_led
  have C_l_led : Callee P w K mg base CX0 3 "_law_led" 2 sp_l_led := ⟨_, PySem.W.mg_of X G a_l_led, p_l_led, ok_l_led bl C_l_turned C_l_product F_l_led⟩
  have F_l_positive := fun_mk (st := s_l_positive) l_l_positive k_l_positive p_l_positive
  have C_l_positive : Callee P w K mg base CX0 5 "_law_positive" 2 sp_l_positive := ⟨_, PySem.W.mg_of X G a_l_positive, p_l_positive, ok_l_positive bl C_l_begun C_l_is_positive C_l_plus C_l_names C_l_told C_l_grab C_l_matrix C_l_led F_l_positive⟩
  have F_l_wide := fun_mk (st := s_l_wide) l_l_wide k_l_wide p_l_wide
  have C_l_wide : Callee P w K mg base CX0 6 "_law_wide" 2 sp_l_wide := ⟨_, PySem.W.mg_of X G a_l_wide, p_l_wide, ok_l_wide bl C_l_positive C_l_one_of C_l_plus C_l_matrix C_l_led F_l_wide⟩
  have F_size_told := fun_mk (st := s_size_told) l_size_told k_size_told p_size_told
  have C_size_told : Callee P w K mg base CX0 1 "size_told" 1 sp_size_told := ⟨_, PySem.W.mg_of X G a_size_told, p_size_told, ok_size_told bl  F_size_told⟩
  have F_is_whole := fun_mk (st := s_is_whole) l_is_whole k_is_whole p_is_whole
  have C_is_whole : Callee P w K mg base CX0 1 "is_whole" 1 sp_is_whole := ⟨_, PySem.W.mg_of X G a_is_whole, p_is_whole, ok_is_whole bl  F_is_whole⟩
  have F_is_integer := fun_mk (st := s_is_integer) l_is_integer k_is_integer p_is_integer
  have C_is_integer : Callee P w K mg base CX0 2 "is_integer" 1 sp_is_integer := ⟨_, PySem.W.mg_of X G a_is_integer, p_is_integer, ok_is_integer bl C_is_whole F_is_integer⟩
  have F_is_row_of := fun_mk (st := s_is_row_of) l_is_row_of k_is_row_of p_is_row_of
  have C_is_row_of : Callee P w K mg base CX0 3 "is_row_of" 2 sp_is_row_of := ⟨_, PySem.W.mg_of X G a_is_row_of, p_is_row_of, ok_is_row_of bl C_is_integer F_is_row_of⟩
  have F_are_rows_of := fun_mk (st := s_are_rows_of) l_are_rows_of k_are_rows_of p_are_rows_of
  have C_are_rows_of : Callee P w K mg base CX0 4 "are_rows_of" 2 sp_are_rows_of := ⟨_, PySem.W.mg_of X G a_are_rows_of, p_are_rows_of, ok_are_rows_of bl C_is_row_of F_are_rows_of⟩
  have F_is_even := fun_mk (st := s_is_even) l_is_even k_is_even p_is_even
  have C_is_even : Callee P w K mg base CX0 1 "is_even" 1 sp_is_even := ⟨_, PySem.W.mg_of X G a_is_even, p_is_even, ok_is_even bl  F_is_even⟩
  have F_is_table_of := fun_mk (st := s_is_table_of) l_is_table_of k_is_table_of p_is_table_of
  have C_is_table_of : Callee P w K mg base CX0 5 "is_table_of" 2 sp_is_table_of := ⟨_, PySem.W.mg_of X G a_is_table_of, p_is_table_of, ok_is_table_of bl C_are_rows_of C_is_even F_is_table_of⟩
  have F_corner_of := fun_mk (st := s_corner_of) l_corner_of k_corner_of p_corner_of
  have C_corner_of : Callee P w K mg base CX0 1 "corner_of" 2 sp_corner_of := ⟨_, PySem.W.mg_of X G a_corner_of, p_corner_of, ok_corner_of bl  F_corner_of⟩
  have F_determinant_of := fun_mk (st := s_determinant_of) l_determinant_of k_determinant_of p_determinant_of
  have D0_determinant_of : Callee P w K mg base CX0 1 "determinant_of" 1 (dsp 0) := ⟨_, PySem.W.mg_of X G a_determinant_of, p_determinant_of, fun A outer s H us vs Q E hg hr he hv hsp => by obtain ⟨c, ss, Kd, Ed, _, _, _, _, _, hT, _⟩ := hsp; exact hT.elim⟩
  have D1_determinant_of : Callee P w K mg base CX0 2 "determinant_of" 1 (dsp 1) := ⟨_, PySem.W.mg_of X G a_determinant_of, p_determinant_of, ok_determinant_of_0 bl D0_determinant_of F_determinant_of⟩
  have D2_determinant_of : Callee P w K mg base CX0 3 "determinant_of" 1 (dsp 2) := ⟨_, PySem.W.mg_of X G a_determinant_of, p_determinant_of, ok_determinant_of_1 bl D1_determinant_of F_determinant_of⟩
  have D3_determinant_of : Callee P w K mg base CX0 4 "determinant_of" 1 (dsp 3) := ⟨_, PySem.W.mg_of X G a_determinant_of, p_determinant_of, ok_determinant_of_2 bl D2_determinant_of F_determinant_of⟩
  have D4_determinant_of : Callee P w K mg base CX0 5 "determinant_of" 1 (dsp 4) := ⟨_, PySem.W.mg_of X G a_determinant_of, p_determinant_of, ok_determinant_of_3 bl D3_determinant_of F_determinant_of⟩
  have C_determinant_of : Callee P w K mg base CX0 6 "determinant_of" 1 (dsp 5) := ⟨_, PySem.W.mg_of X G a_determinant_of, p_determinant_of, ok_determinant_of_4 bl D4_determinant_of F_determinant_of⟩
  have F_minors_in := fun_mk (st := s_minors_in) l_minors_in k_minors_in p_minors_in
  have C_minors_in : Callee P w K mg base CX0 7 "minors_in" 1 sp_minors_in := ⟨_, PySem.W.mg_of X G a_minors_in, p_minors_in, ok_minors_in bl C_corner_of C_determinant_of F_minors_in⟩
  have F_is_positive_in := fun_mk (st := s_is_positive_in) l_is_positive_in k_is_positive_in p_is_positive_in
  have C_is_positive_in : Callee P w K mg base CX0 8 "is_positive_in" 1 sp_is_positive_in := ⟨_, PySem.W.mg_of X G a_is_positive_in, p_is_positive_in, ok_is_positive_in bl C_minors_in F_is_positive_in⟩
  have F_table_told := fun_mk (st := s_table_told) l_table_told k_table_told p_table_told
  have C_table_told : Callee P w K mg base CX0 9 "table_told" 1 (sp_table_told cl) := ⟨_, PySem.W.mg_of X G a_table_told, p_table_told, ok_table_told bl cl fc C_size_told C_is_table_of C_is_positive_in F_table_told⟩
  have F_Form___init__ := fun_mk (st := s_Form___init__) l_Form___init__ k_Form___init__ p_Form___init__
  have C_Form___init__ : CalleeI P w K mg base CX0 10 "Form" cl.Form 1 (sp_Form___init__ cl) := ⟨_, fc.n_Form, ⟨mk_Form, a_Form___init__, i_Form___init__, kp_Form⟩, ok_Form___init__ bl cl fc C_table_told C_determinant_of F_Form___init__⟩
  have F_Form___len__ := fun_mk (st := s_Form___len__) l_Form___len__ k_Form___len__ p_Form___len__
  have C_Form___len__ : CalleeO P w K mg base CX0 1 cl.Form "__len__" 1 (sp_Form___len__ cl) := ⟨_, ⟨a_Form___len__, i_Form___len__⟩, ok_Form___len__ bl cl fc  F_Form___len__⟩
  have F_Form_determinant := fun_mk (st := s_Form_determinant) l_Form_determinant k_Form_determinant p_Form_determinant
  have C_Form_determinant : CalleeP P w K mg base 1 cl.Form "determinant" (sp_Form_determinant cl) := ⟨_, ⟨⟨_, a_Form_determinant, g_Form_determinant, t_Form_determinant, _, r_Form_determinant⟩⟩, ok_Form_determinant bl cl fc  F_Form_determinant⟩
  have F_Form_table := fun_mk (st := s_Form_table) l_Form_table k_Form_table p_Form_table
  have C_Form_table : CalleeP P w K mg base 1 cl.Form "table" (sp_Form_table cl) := ⟨_, ⟨⟨_, a_Form_table, g_Form_table, t_Form_table, _, r_Form_table⟩⟩, ok_Form_table bl cl fc  F_Form_table⟩
  have F_Form_size := fun_mk (st := s_Form_size) l_Form_size k_Form_size p_Form_size
  have C_Form_size : CalleeP P w K mg base 1 cl.Form "size" (sp_Form_size cl) := ⟨_, ⟨⟨_, a_Form_size, g_Form_size, t_Form_size, _, r_Form_size⟩⟩, ok_Form_size bl cl fc  F_Form_size⟩
  have F_Form_minors := fun_mk (st := s_Form_minors) l_Form_minors k_Form_minors p_Form_minors
  have C_Form_minors : CalleeP P w K mg base 8 cl.Form "minors" (sp_Form_minors cl) := ⟨_, ⟨⟨_, a_Form_minors, g_Form_minors, t_Form_minors, _, r_Form_minors⟩⟩, ok_Form_minors bl cl fc C_minors_in F_Form_minors⟩
  have F_without := fun_mk (st := s_without) l_without k_without p_without
  have C_without : Callee P w K mg base CX0 1 "without" 3 sp_without := ⟨_, PySem.W.mg_of X G a_without, p_without, ok_without bl  F_without⟩
  have F_cofactor := fun_mk (st := s_cofactor) l_cofactor k_cofactor p_cofactor
  have C_cofactor : Callee P w K mg base CX0 7 "cofactor" 3 sp_cofactor := ⟨_, PySem.W.mg_of X G a_cofactor, p_cofactor, ok_cofactor bl C_without C_determinant_of F_cofactor⟩
  have F_adjoint_of := fun_mk (st := s_adjoint_of) l_adjoint_of k_adjoint_of p_adjoint_of
  have C_adjoint_of : Callee P w K mg base CX0 8 "adjoint_of" 1 sp_adjoint_of := ⟨_, PySem.W.mg_of X G a_adjoint_of, p_adjoint_of, ok_adjoint_of bl C_cofactor F_adjoint_of⟩
  have F_Sure___init__ := fun_mk (st := s_Sure___init__) l_Sure___init__ k_Sure___init__ p_Sure___init__
  have C_Sure___init__ : CalleeI P w K mg base CX0 1 "Sure" cl.Sure 1 (sp_Sure___init__ cl) := ⟨_, fc.n_Sure, ⟨mk_Sure, a_Sure___init__, i_Sure___init__, kp_Sure⟩, ok_Sure___init__ bl cl fc  F_Sure___init__⟩
  have F_form_with := fun_mk (st := s_form_with) l_form_with k_form_with p_form_with
  have C_form_with : Callee P w K mg base CX0 12 "form_with" 1 (sp_form_with cl) := ⟨_, PySem.W.mg_of X G a_form_with, p_form_with, ok_form_with bl cl fc C_Sure___init__ C_Form___init__ F_form_with⟩
  have F_Form_adjoint := fun_mk (st := s_Form_adjoint) l_Form_adjoint k_Form_adjoint p_Form_adjoint
  have C_Form_adjoint : CalleeP P w K mg base 13 cl.Form "adjoint" (sp_Form_adjoint cl) := ⟨_, ⟨⟨_, a_Form_adjoint, g_Form_adjoint, t_Form_adjoint, _, r_Form_adjoint⟩⟩, ok_Form_adjoint bl cl fc C_adjoint_of C_form_with F_Form_adjoint⟩
  have F_divisor_of := fun_mk (st := s_divisor_of) l_divisor_of k_divisor_of p_divisor_of
  have C_divisor_of : Callee P w K mg base CX0 1 "divisor_of" 1 sp_divisor_of := ⟨_, PySem.W.mg_of X G a_divisor_of, p_divisor_of, ok_divisor_of bl  F_divisor_of⟩
  have F_content_in := fun_mk (st := s_content_in) l_content_in k_content_in p_content_in
  have C_content_in : Callee P w K mg base CX0 2 "content_in" 1 sp_content_in := ⟨_, PySem.W.mg_of X G a_content_in, p_content_in, ok_content_in bl C_divisor_of F_content_in⟩
  have F_Form_content := fun_mk (st := s_Form_content) l_Form_content k_Form_content p_Form_content
  have C_Form_content : CalleeP P w K mg base 3 cl.Form "content" (sp_Form_content cl) := ⟨_, ⟨⟨_, a_Form_content, g_Form_content, t_Form_content, _, r_Form_content⟩⟩, ok_Form_content bl cl fc C_content_in F_Form_content⟩
  have F_l_common := fun_mk (st := s_l_common) l_l_common k_l_common p_l_common
  have C_l_common : Callee P w K mg base CX0 1 "_law_common" 1 sp_l_common := ⟨_, PySem.W.mg_of X G a_l_common, p_l_common, ok_l_common bl  F_l_common⟩
  have F_l_content := fun_mk (st := s_l_content) l_l_content k_l_content p_l_content
  have C_l_content : Callee P w K mg base CX0 2 "_law_content" 1 sp_l_content := ⟨_, PySem.W.mg_of X G a_l_content, p_l_content, ok_l_content bl C_l_common F_l_content⟩
  have F_Form___str__ := fun_mk (st := s_Form___str__) l_Form___str__ k_Form___str__ p_Form___str__
  have C_Form___str__ : CalleeO P w K mg base CX0 1 cl.Form "__str__" 1 (sp_Form___str__ cl) := ⟨_, ⟨a_Form___str__, i_Form___str__⟩, ok_Form___str__ bl cl fc  F_Form___str__⟩
  have F_cleared_table := fun_mk (st := s_cleared_table) l_cleared_table k_cleared_table p_cleared_table
  have C_cleared_table : Callee P w K mg base CX0 3 "cleared_table" 1 sp_cleared_table := ⟨_, PySem.W.mg_of X G a_cleared_table, p_cleared_table, ok_cleared_table bl C_content_in F_cleared_table⟩
  have F_Form_cleared := fun_mk (st := s_Form_cleared) l_Form_cleared k_Form_cleared p_Form_cleared
  have C_Form_cleared : CalleeM P w K mg base CX0 13 cl.Form "cleared" 1 (sp_Form_cleared cl) := ⟨_, ⟨a_Form_cleared, i_Form_cleared, p_Form_cleared⟩, ok_Form_cleared bl cl fc C_cleared_table C_form_with F_Form_cleared⟩
  have F_l_cleared := fun_mk (st := s_l_cleared) l_l_cleared k_l_cleared p_l_cleared
  have C_l_cleared : Callee P w K mg base CX0 3 "_law_cleared" 1 sp_l_cleared := ⟨_, PySem.W.mg_of X G a_l_cleared, p_l_cleared, ok_l_cleared bl C_l_content F_l_cleared⟩
  have F_Form___eq__ := fun_mk (st := s_Form___eq__) l_Form___eq__ k_Form___eq__ p_Form___eq__
  have C_Form___eq__ : CalleeO P w K mg base CX0 1 cl.Form "__eq__" 2 (sp_Form___eq__ cl) := ⟨_, ⟨a_Form___eq__, i_Form___eq__⟩, ok_Form___eq__ bl cl fc  F_Form___eq__⟩
  have F_l_is_told := fun_mk (st := s_l_is_told) l_l_is_told k_l_is_told p_l_is_told
  have C_l_is_told : Callee P w K mg base CX0 15 "_law_is_told" 1 (sp_l_is_told cl) := ⟨_, PySem.W.mg_of X G a_l_is_told, p_l_is_told, ok_l_is_told bl cl fc C_Form___init__ C_Form___len__ C_Form_determinant C_Form_table C_Form_size C_l_determinant C_Form_minors C_Form_adjoint C_l_adjoint C_Form_content C_l_content C_Form___str__ C_Form_cleared C_l_cleared C_Form___eq__ F_l_is_told⟩
  have F_require_row := fun_mk (st := s_require_row) l_require_row k_require_row p_require_row
  have C_require_row : Callee P w K mg base CX0 4 "require_row" 2 sp_require_row := ⟨_, PySem.W.mg_of X G a_require_row, p_require_row, ok_require_row bl C_is_row_of F_require_row⟩
  have F_dot := fun_mk (st := s_dot) l_dot k_dot p_dot
  have C_dot : Callee P w K mg base CX0 1 "dot" 2 sp_dot := ⟨_, PySem.W.mg_of X G a_dot, p_dot, ok_dot bl  F_dot⟩
  have F_row_led := fun_mk (st := s_row_led) l_row_led k_row_led p_row_led
  have C_row_led : Callee P w K mg base CX0 2 "row_led" 2 sp_row_led := ⟨_, PySem.W.mg_of X G a_row_led, p_row_led, ok_row_led bl C_dot F_row_led⟩
  have F_pairing_in := fun_mk (st := s_pairing_in) l_pairing_in k_pairing_in p_pairing_in
  have C_pairing_in : Callee P w K mg base CX0 3 "pairing_in" 3 sp_pairing_in := ⟨_, PySem.W.mg_of X G a_pairing_in, p_pairing_in, ok_pairing_in bl C_row_led C_dot F_pairing_in⟩
  have F_value_in := fun_mk (st := s_value_in) l_value_in k_value_in p_value_in
  have C_value_in : Callee P w K mg base CX0 4 "value_in" 2 sp_value_in := ⟨_, PySem.W.mg_of X G a_value_in, p_value_in, ok_value_in bl C_pairing_in F_value_in⟩
  have F_Form_value := fun_mk (st := s_Form_value) l_Form_value k_Form_value p_Form_value
  have C_Form_value : CalleeM P w K mg base CX0 5 cl.Form "value" 2 (sp_Form_value cl) := ⟨_, ⟨a_Form_value, i_Form_value, p_Form_value⟩, ok_Form_value bl cl fc C_require_row C_value_in F_Form_value⟩
  have F_l_pairing := fun_mk (st := s_l_pairing) l_l_pairing k_l_pairing p_l_pairing
  have C_l_pairing : Callee P w K mg base CX0 1 "_law_pairing" 3 sp_l_pairing := ⟨_, PySem.W.mg_of X G a_l_pairing, p_l_pairing, ok_l_pairing bl  F_l_pairing⟩
  have F_l_value := fun_mk (st := s_l_value) l_l_value k_l_value p_l_value
  have C_l_value : Callee P w K mg base CX0 2 "_law_value" 2 sp_l_value := ⟨_, PySem.W.mg_of X G a_l_value, p_l_value, ok_l_value bl C_l_pairing F_l_value⟩
  have F_Form_pairing := fun_mk (st := s_Form_pairing) l_Form_pairing k_Form_pairing p_Form_pairing
  have C_Form_pairing : CalleeM P w K mg base CX0 5 cl.Form "pairing" 3 (sp_Form_pairing cl) := ⟨_, ⟨a_Form_pairing, i_Form_pairing, p_Form_pairing⟩, ok_Form_pairing bl cl fc C_require_row C_pairing_in F_Form_pairing⟩
  have F_l_values_right := fun_mk (st := s_l_values_right) l_l_values_right k_l_values_right p_l_values_right
  have C_l_values_right : Callee P w K mg base CX0 12 "_law_values_right" 2 (sp_l_values_right cl) := ⟨_, PySem.W.mg_of X G a_l_values_right, p_l_values_right, ok_l_values_right bl cl fc C_Form___init__ C_l_some_row C_Form_value C_l_value C_Form_pairing C_l_pairing F_l_values_right⟩
  have F_Form_diagonal_3 := fun_mk (st := s_Form_diagonal) l_Form_diagonal k_Form_diagonal p_Form_diagonal
  have C_Form_diagonal_3 : CalleeC P w K mg base CX0 12 cl.Form "diagonal" 4 (sp_Form_diagonal cl) := ⟨_, _, _, ⟨e_Form_diagonal, h_Form_diagonal⟩, ⟨a_Form_diagonal, ⟨_, r_Form_diagonal⟩, i_Form_diagonal⟩, ok_Form_diagonal_3 bl cl fc C_is_integer C_Form___init__ F_Form_diagonal_3⟩
  have F_Form_diagonal_2 := fun_mk (st := s_Form_diagonal) l_Form_diagonal k_Form_diagonal p_Form_diagonal
  have C_Form_diagonal_2 : CalleeC P w K mg base CX0 12 cl.Form "diagonal" 3 (sp_Form_diagonal cl) := ⟨_, _, _, ⟨e_Form_diagonal, h_Form_diagonal⟩, ⟨a_Form_diagonal, ⟨_, r_Form_diagonal⟩, i_Form_diagonal⟩, ok_Form_diagonal_2 bl cl fc C_is_integer C_Form___init__ F_Form_diagonal_2⟩
  have F_Form_diagonal_4 := fun_mk (st := s_Form_diagonal) l_Form_diagonal k_Form_diagonal p_Form_diagonal
  have C_Form_diagonal_4 : CalleeC P w K mg base CX0 12 cl.Form "diagonal" 5 (sp_Form_diagonal cl) := ⟨_, _, _, ⟨e_Form_diagonal, h_Form_diagonal⟩, ⟨a_Form_diagonal, ⟨_, r_Form_diagonal⟩, i_Form_diagonal⟩, ok_Form_diagonal_4 bl cl fc C_is_integer C_Form___init__ F_Form_diagonal_4⟩
  have F_law := fun_mk (st := s_law) l_law k_law p_law
  exact ok_law (P := P) (w := w) (base := base) bl cl fc C_l_bag C_l_size C_l_positive C_l_wide C_l_is_told C_Form___init__ C_Form___eq__ C_l_values_right C_l_grab C_Form_diagonal_3 C_Form_diagonal_2 C_Form_diagonal_4 C_Form_size C_Form_table C_Form___str__ C_Form_pairing C_Form_adjoint C_Form_cleared C_Form_content C_Form_minors C_Form_determinant F_law
end PD
open PySem PySem.W PyProof.Rows
set_option maxRecDepth 100000 in
set_option maxHeartbeats 0 in
theorem PySem.Challenge.cw_ballgrids_k07_forms_told_holds : PySem.Challenge.rw_ballgrids_k07_forms_told.Holds := by
  w_on; o_law; k_head; (case hw => w_witness2)
  k_fill
  refine PD.walkC (k := 16) (T := PD.sp_law) (l := PySem.Challenge.rw_ballgrids_k07_forms_told) rfl (by decide) rfl ⟨rfl, by decide, by decide⟩ (fun w h Y => PySem.W.kIn_of Y) ?F (fun cl ns hn => ⟨hn, rfl⟩)
  case F =>
    intro w mg fa h KX G hmg
    refine' PD.all_mk KX G hmg ?cn_Form ?pg_Form ?ic_Form ?po_Form ?sa_Form ?s1_Form_own_determinant ?s2_Form_own_determinant ?s3_Form_own_determinant ?s4_Form_own_determinant ?s5_Form_own_determinant ?s1_Form_own_size ?s2_Form_own_size ?s3_Form_own_size ?s4_Form_own_size ?s5_Form_own_size ?s1_Form_own_table ?s2_Form_own_table ?s3_Form_own_table ?s4_Form_own_table ?s5_Form_own_table ?mk_Form ?kp_Form ?ca_Form ?cm_Form ?k1_Form_NoneType ?k1_Form_bool ?k1_Form_int ?k1_Form_str ?k1_Form_tuple ?k1_Form_list ?k1_Form_dict ?cn_Sure ?pg_Sure ?ic_Sure ?po_Sure ?sa_Sure ?s1_Sure_own_table ?s2_Sure_own_table ?s3_Sure_own_table ?s4_Sure_own_table ?s5_Sure_own_table ?mk_Sure ?kp_Sure ?ca_Sure ?cm_Sure ?k1_Sure_NoneType ?k1_Sure_bool ?k1_Sure_int ?k1_Sure_str ?k1_Sure_tuple ?k1_Sure_list ?k1_Sure_dict ?k2_Form_Sure ?k2_Sure_Form ?cng ?ctk ?nf_NoneType ?nf_bool ?nf_int ?nf_str ?nf_tuple ?nf_list ?nf_dict ?ne_Form ?a_l_bag ?l_l_bag ?k_l_bag ?p_l_bag ?a_l_grab ?l_l_grab ?k_l_grab ?p_l_grab ?a_l_one_of ?l_l_one_of ?k_l_one_of ?p_l_one_of ?a_l_size ?l_l_size ?k_l_size ?p_l_size ?a_l_names ?l_l_names ?k_l_names ?p_l_names ?a_l_told ?l_l_told ?k_l_told ?p_l_told ?a_l_determinant ?l_l_determinant ?k_l_determinant ?p_l_determinant ?a_l_adjoint ?l_l_adjoint ?k_l_adjoint ?p_l_adjoint ?a_l_plain_rays ?l_l_plain_rays ?k_l_plain_rays ?p_l_plain_rays ?a_l_mixed ?l_l_mixed ?k_l_mixed ?p_l_mixed ?a_l_summed ?l_l_summed ?k_l_summed ?p_l_summed ?a_l_number ?l_l_number ?k_l_number ?p_l_number ?a_l_some_row ?l_l_some_row ?k_l_some_row ?p_l_some_row ?a_l_some_table ?l_l_some_table ?k_l_some_table ?p_l_some_table ?a_l_plus ?l_l_plus ?k_l_plus ?p_l_plus ?a_l_begun ?l_l_begun ?k_l_begun ?p_l_begun ?a_l_is_positive ?l_l_is_positive ?k_l_is_positive ?p_l_is_positive ?a_l_matrix ?l_l_matrix ?k_l_matrix ?p_l_matrix ?a_l_turned ?l_l_turned ?k_l_turned ?p_l_turned ?a_l_row_led ?l_l_row_led ?k_l_row_led ?p_l_row_led ?a_l_product ?l_l_product ?k_l_product ?p_l_product ?a_l_led ?l_l_led ?k_l_led ?p_l_led ?a_l_positive ?l_l_positive ?k_l_positive ?p_l_positive ?a_l_wide ?l_l_wide ?k_l_wide ?p_l_wide ?a_size_told ?l_size_told ?k_size_told ?p_size_told ?a_is_whole ?l_is_whole ?k_is_whole ?p_is_whole ?a_is_integer ?l_is_integer ?k_is_integer ?p_is_integer ?a_is_row_of ?l_is_row_of ?k_is_row_of ?p_is_row_of ?a_are_rows_of ?l_are_rows_of ?k_are_rows_of ?p_are_rows_of ?a_is_even ?l_is_even ?k_is_even ?p_is_even ?a_is_table_of ?l_is_table_of ?k_is_table_of ?p_is_table_of ?a_corner_of ?l_corner_of ?k_corner_of ?p_corner_of ?a_determinant_of ?l_determinant_of ?k_determinant_of ?p_determinant_of ?a_minors_in ?l_minors_in ?k_minors_in ?p_minors_in ?a_is_positive_in ?l_is_positive_in ?k_is_positive_in ?p_is_positive_in ?a_table_told ?l_table_told ?k_table_told ?p_table_told ?a_Form___init__ ?i_Form___init__ ?l_Form___init__ ?k_Form___init__ ?p_Form___init__ ?a_Form___len__ ?i_Form___len__ ?l_Form___len__ ?k_Form___len__ ?p_Form___len__ ?a_Form_determinant ?g_Form_determinant ?t_Form_determinant ?r_Form_determinant ?l_Form_determinant ?k_Form_determinant ?p_Form_determinant ?a_Form_table ?g_Form_table ?t_Form_table ?r_Form_table ?l_Form_table ?k_Form_table ?p_Form_table ?a_Form_size ?g_Form_size ?t_Form_size ?r_Form_size ?l_Form_size ?k_Form_size ?p_Form_size ?a_Form_minors ?g_Form_minors ?t_Form_minors ?r_Form_minors ?l_Form_minors ?k_Form_minors ?p_Form_minors ?a_without ?l_without ?k_without ?p_without ?a_cofactor ?l_cofactor ?k_cofactor ?p_cofactor ?a_adjoint_of ?l_adjoint_of ?k_adjoint_of ?p_adjoint_of ?a_Sure___init__ ?i_Sure___init__ ?l_Sure___init__ ?k_Sure___init__ ?p_Sure___init__ ?a_form_with ?l_form_with ?k_form_with ?p_form_with ?a_Form_adjoint ?g_Form_adjoint ?t_Form_adjoint ?r_Form_adjoint ?l_Form_adjoint ?k_Form_adjoint ?p_Form_adjoint ?a_divisor_of ?l_divisor_of ?k_divisor_of ?p_divisor_of ?a_content_in ?l_content_in ?k_content_in ?p_content_in ?a_Form_content ?g_Form_content ?t_Form_content ?r_Form_content ?l_Form_content ?k_Form_content ?p_Form_content ?a_l_common ?l_l_common ?k_l_common ?p_l_common ?a_l_content ?l_l_content ?k_l_content ?p_l_content ?a_Form___str__ ?i_Form___str__ ?l_Form___str__ ?k_Form___str__ ?p_Form___str__ ?a_cleared_table ?l_cleared_table ?k_cleared_table ?p_cleared_table ?a_Form_cleared ?i_Form_cleared ?l_Form_cleared ?k_Form_cleared ?p_Form_cleared ?a_l_cleared ?l_l_cleared ?k_l_cleared ?p_l_cleared ?a_Form___eq__ ?i_Form___eq__ ?l_Form___eq__ ?k_Form___eq__ ?p_Form___eq__ ?a_l_is_told ?l_l_is_told ?k_l_is_told ?p_l_is_told ?a_require_row ?l_require_row ?k_require_row ?p_require_row ?a_dot ?l_dot ?k_dot ?p_dot ?a_row_led ?l_row_led ?k_row_led ?p_row_led ?a_pairing_in ?l_pairing_in ?k_pairing_in ?p_pairing_in ?a_value_in ?l_value_in ?k_value_in ?p_value_in ?a_Form_value ?i_Form_value ?l_Form_value ?k_Form_value ?p_Form_value ?a_l_pairing ?l_l_pairing ?k_l_pairing ?p_l_pairing ?a_l_value ?l_l_value ?k_l_value ?p_l_value ?a_Form_pairing ?i_Form_pairing ?l_Form_pairing ?k_Form_pairing ?p_Form_pairing ?a_l_values_right ?l_l_values_right ?k_l_values_right ?p_l_values_right ?e_Form_diagonal ?h_Form_diagonal ?a_Form_diagonal ?r_Form_diagonal ?i_Form_diagonal ?l_Form_diagonal ?k_Form_diagonal ?p_Form_diagonal ?a_law ?l_law ?k_law ?p_law ?z_abs ?z_all ?z_bool ?z_enumerate ?z_int ?z_isinstance ?z_len ?z_list ?z_max ?z_min ?z_range ?z_str ?z_sum ?z_tuple ?z_zip ?g_gcd ?i_BEYOND ?i_SIZES ?j_SIZES
    (case cn_Form => k_is)
    (case pg_Form => k_is)
    (case ic_Form => k_is)
    (case po_Form => k_is)
    (case sa_Form => k_is)
    (case s1_Form_own_determinant => k_is)
    (case s2_Form_own_determinant => k_is)
    (case s3_Form_own_determinant => k_is)
    (case s4_Form_own_determinant => k_is)
    (case s5_Form_own_determinant => k_is)
    (case s1_Form_own_size => k_is)
    (case s2_Form_own_size => k_is)
    (case s3_Form_own_size => k_is)
    (case s4_Form_own_size => k_is)
    (case s5_Form_own_size => k_is)
    (case s1_Form_own_table => k_is)
    (case s2_Form_own_table => k_is)
    (case s3_Form_own_table => k_is)
    (case s4_Form_own_table => k_is)
    (case s5_Form_own_table => k_is)
    (case mk_Form => k_is)
    (case kp_Form => k_is)
    (case ca_Form => k_is)
    (case cm_Form => k_is)
    (case k1_Form_NoneType => kit_is)
    (case k1_Form_bool => kit_is)
    (case k1_Form_int => kit_is)
    (case k1_Form_str => kit_is)
    (case k1_Form_tuple => kit_is)
    (case k1_Form_list => kit_is)
    (case k1_Form_dict => kit_is)
    (case cn_Sure => k_is)
    (case pg_Sure => k_is)
    (case ic_Sure => k_is)
    (case po_Sure => k_is)
    (case sa_Sure => k_is)
    (case s1_Sure_own_table => k_is)
    (case s2_Sure_own_table => k_is)
    (case s3_Sure_own_table => k_is)
    (case s4_Sure_own_table => k_is)
    (case s5_Sure_own_table => k_is)
    (case mk_Sure => k_is)
    (case kp_Sure => k_is)
    (case ca_Sure => k_is)
    (case cm_Sure => k_is)
    (case k1_Sure_NoneType => kit_is)
    (case k1_Sure_bool => kit_is)
    (case k1_Sure_int => kit_is)
    (case k1_Sure_str => kit_is)
    (case k1_Sure_tuple => kit_is)
    (case k1_Sure_list => kit_is)
    (case k1_Sure_dict => kit_is)
    (case k2_Form_Sure => kit_is)
    (case k2_Sure_Form => kit_is)
    (case cng => k_is)
    (case ctk => k_is)
    (case nf_NoneType => k_is)
    (case nf_bool => k_is)
    (case nf_int => k_is)
    (case nf_str => k_is)
    (case nf_tuple => k_is)
    (case nf_list => k_is)
    (case nf_dict => k_is)
    (case ne_Form => k_is)
    (case a_l_bag => k_is)
    (case l_l_bag => k_is)
    (case k_l_bag => k_is)
    (case p_l_bag => k_is)
    (case a_l_grab => k_is)
    (case l_l_grab => k_is)
    (case k_l_grab => k_is)
    (case p_l_grab => k_is)
    (case a_l_one_of => k_is)
    (case l_l_one_of => k_is)
    (case k_l_one_of => k_is)
    (case p_l_one_of => k_is)
    (case a_l_size => k_is)
    (case l_l_size => k_is)
    (case k_l_size => k_is)
    (case p_l_size => k_is)
    (case a_l_names => k_is)
    (case l_l_names => k_is)
    (case k_l_names => k_is)
    (case p_l_names => k_is)
    (case a_l_told => k_is)
    (case l_l_told => k_is)
    (case k_l_told => k_is)
    (case p_l_told => k_is)
    (case a_l_determinant => k_is)
    (case l_l_determinant => k_is)
    (case k_l_determinant => k_is)
    (case p_l_determinant => k_is)
    (case a_l_adjoint => k_is)
    (case l_l_adjoint => k_is)
    (case k_l_adjoint => k_is)
    (case p_l_adjoint => k_is)
    (case a_l_plain_rays => k_is)
    (case l_l_plain_rays => k_is)
    (case k_l_plain_rays => k_is)
    (case p_l_plain_rays => k_is)
    (case a_l_mixed => k_is)
    (case l_l_mixed => k_is)
    (case k_l_mixed => k_is)
    (case p_l_mixed => k_is)
    (case a_l_summed => k_is)
    (case l_l_summed => k_is)
    (case k_l_summed => k_is)
    (case p_l_summed => k_is)
    (case a_l_number => k_is)
    (case l_l_number => k_is)
    (case k_l_number => k_is)
    (case p_l_number => k_is)
    (case a_l_some_row => k_is)
    (case l_l_some_row => k_is)
    (case k_l_some_row => k_is)
    (case p_l_some_row => k_is)
    (case a_l_some_table => k_is)
    (case l_l_some_table => k_is)
    (case k_l_some_table => k_is)
    (case p_l_some_table => k_is)
    (case a_l_plus => k_is)
    (case l_l_plus => k_is)
    (case k_l_plus => k_is)
    (case p_l_plus => k_is)
    (case a_l_begun => k_is)
    (case l_l_begun => k_is)
    (case k_l_begun => k_is)
    (case p_l_begun => k_is)
    (case a_l_is_positive => k_is)
    (case l_l_is_positive => k_is)
    (case k_l_is_positive => k_is)
    (case p_l_is_positive => k_is)
    (case a_l_matrix => k_is)
    (case l_l_matrix => k_is)
    (case k_l_matrix => k_is)
    (case p_l_matrix => k_is)
    (case a_l_turned => k_is)
    (case l_l_turned => k_is)
    (case k_l_turned => k_is)
    (case p_l_turned => k_is)
    (case a_l_row_led => k_is)
    (case l_l_row_led => k_is)
    (case k_l_row_led => k_is)
    (case p_l_row_led => k_is)
    (case a_l_product => k_is)
    (case l_l_product => k_is)
    (case k_l_product => k_is)
    (case p_l_product => k_is)
    (case a_l_led => k_is)
    (case l_l_led => k_is)
    (case k_l_led => k_is)
    (case p_l_led => k_is)
    (case a_l_positive => k_is)
    (case l_l_positive => k_is)
    (case k_l_positive => k_is)
    (case p_l_positive => k_is)
    (case a_l_wide => k_is)
    (case l_l_wide => k_is)
    (case k_l_wide => k_is)
    (case p_l_wide => k_is)
    (case a_size_told => k_is)
    (case l_size_told => k_is)
    (case k_size_told => k_is)
    (case p_size_told => k_is)
    (case a_is_whole => k_is)
    (case l_is_whole => k_is)
    (case k_is_whole => k_is)
    (case p_is_whole => k_is)
    (case a_is_integer => k_is)
    (case l_is_integer => k_is)
    (case k_is_integer => k_is)
    (case p_is_integer => k_is)
    (case a_is_row_of => k_is)
    (case l_is_row_of => k_is)
    (case k_is_row_of => k_is)
    (case p_is_row_of => k_is)
    (case a_are_rows_of => k_is)
    (case l_are_rows_of => k_is)
    (case k_are_rows_of => k_is)
    (case p_are_rows_of => k_is)
    (case a_is_even => k_is)
    (case l_is_even => k_is)
    (case k_is_even => k_is)
    (case p_is_even => k_is)
    (case a_is_table_of => k_is)
    (case l_is_table_of => k_is)
    (case k_is_table_of => k_is)
    (case p_is_table_of => k_is)
    (case a_corner_of => k_is)
    (case l_corner_of => k_is)
    (case k_corner_of => k_is)
    (case p_corner_of => k_is)
    (case a_determinant_of => k_is)
    (case l_determinant_of => k_is)
    (case k_determinant_of => k_is)
    (case p_determinant_of => k_is)
    (case a_minors_in => k_is)
    (case l_minors_in => k_is)
    (case k_minors_in => k_is)
    (case p_minors_in => k_is)
    (case a_is_positive_in => k_is)
    (case l_is_positive_in => k_is)
    (case k_is_positive_in => k_is)
    (case p_is_positive_in => k_is)
    (case a_table_told => k_is)
    (case l_table_told => k_is)
    (case k_table_told => k_is)
    (case p_table_told => k_is)
    (case a_Form___init__ => k_is)
    (case i_Form___init__ => k_is)
    (case l_Form___init__ => k_is)
    (case k_Form___init__ => k_is)
    (case p_Form___init__ => k_is)
    (case a_Form___len__ => k_is)
    (case i_Form___len__ => k_is)
    (case l_Form___len__ => k_is)
    (case k_Form___len__ => k_is)
    (case p_Form___len__ => k_is)
    (case a_Form_determinant => k_is)
    (case g_Form_determinant => k_is)
    (case t_Form_determinant => k_is)
    (case r_Form_determinant => k_is)
    (case l_Form_determinant => k_is)
    (case k_Form_determinant => k_is)
    (case p_Form_determinant => k_is)
    (case a_Form_table => k_is)
    (case g_Form_table => k_is)
    (case t_Form_table => k_is)
    (case r_Form_table => k_is)
    (case l_Form_table => k_is)
    (case k_Form_table => k_is)
    (case p_Form_table => k_is)
    (case a_Form_size => k_is)
    (case g_Form_size => k_is)
    (case t_Form_size => k_is)
    (case r_Form_size => k_is)
    (case l_Form_size => k_is)
    (case k_Form_size => k_is)
    (case p_Form_size => k_is)
    (case a_Form_minors => k_is)
    (case g_Form_minors => k_is)
    (case t_Form_minors => k_is)
    (case r_Form_minors => k_is)
    (case l_Form_minors => k_is)
    (case k_Form_minors => k_is)
    (case p_Form_minors => k_is)
    (case a_without => k_is)
    (case l_without => k_is)
    (case k_without => k_is)
    (case p_without => k_is)
    (case a_cofactor => k_is)
    (case l_cofactor => k_is)
    (case k_cofactor => k_is)
    (case p_cofactor => k_is)
    (case a_adjoint_of => k_is)
    (case l_adjoint_of => k_is)
    (case k_adjoint_of => k_is)
    (case p_adjoint_of => k_is)
    (case a_Sure___init__ => k_is)
    (case i_Sure___init__ => k_is)
    (case l_Sure___init__ => k_is)
    (case k_Sure___init__ => k_is)
    (case p_Sure___init__ => k_is)
    (case a_form_with => k_is)
    (case l_form_with => k_is)
    (case k_form_with => k_is)
    (case p_form_with => k_is)
    (case a_Form_adjoint => k_is)
    (case g_Form_adjoint => k_is)
    (case t_Form_adjoint => k_is)
    (case r_Form_adjoint => k_is)
    (case l_Form_adjoint => k_is)
    (case k_Form_adjoint => k_is)
    (case p_Form_adjoint => k_is)
    (case a_divisor_of => k_is)
    (case l_divisor_of => k_is)
    (case k_divisor_of => k_is)
    (case p_divisor_of => k_is)
    (case a_content_in => k_is)
    (case l_content_in => k_is)
    (case k_content_in => k_is)
    (case p_content_in => k_is)
    (case a_Form_content => k_is)
    (case g_Form_content => k_is)
    (case t_Form_content => k_is)
    (case r_Form_content => k_is)
    (case l_Form_content => k_is)
    (case k_Form_content => k_is)
    (case p_Form_content => k_is)
    (case a_l_common => k_is)
    (case l_l_common => k_is)
    (case k_l_common => k_is)
    (case p_l_common => k_is)
    (case a_l_content => k_is)
    (case l_l_content => k_is)
    (case k_l_content => k_is)
    (case p_l_content => k_is)
    (case a_Form___str__ => k_is)
    (case i_Form___str__ => k_is)
    (case l_Form___str__ => k_is)
    (case k_Form___str__ => k_is)
    (case p_Form___str__ => k_is)
    (case a_cleared_table => k_is)
    (case l_cleared_table => k_is)
    (case k_cleared_table => k_is)
    (case p_cleared_table => k_is)
    (case a_Form_cleared => k_is)
    (case i_Form_cleared => k_is)
    (case l_Form_cleared => k_is)
    (case k_Form_cleared => k_is)
    (case p_Form_cleared => k_is)
    (case a_l_cleared => k_is)
    (case l_l_cleared => k_is)
    (case k_l_cleared => k_is)
    (case p_l_cleared => k_is)
    (case a_Form___eq__ => k_is)
    (case i_Form___eq__ => k_is)
    (case l_Form___eq__ => k_is)
    (case k_Form___eq__ => k_is)
    (case p_Form___eq__ => k_is)
    (case a_l_is_told => k_is)
    (case l_l_is_told => k_is)
    (case k_l_is_told => k_is)
    (case p_l_is_told => k_is)
    (case a_require_row => k_is)
    (case l_require_row => k_is)
    (case k_require_row => k_is)
    (case p_require_row => k_is)
    (case a_dot => k_is)
    (case l_dot => k_is)
    (case k_dot => k_is)
    (case p_dot => k_is)
    (case a_row_led => k_is)
    (case l_row_led => k_is)
    (case k_row_led => k_is)
    (case p_row_led => k_is)
    (case a_pairing_in => k_is)
    (case l_pairing_in => k_is)
    (case k_pairing_in => k_is)
    (case p_pairing_in => k_is)
    (case a_value_in => k_is)
    (case l_value_in => k_is)
    (case k_value_in => k_is)
    (case p_value_in => k_is)
    (case a_Form_value => k_is)
    (case i_Form_value => k_is)
    (case l_Form_value => k_is)
    (case k_Form_value => k_is)
    (case p_Form_value => k_is)
    (case a_l_pairing => k_is)
    (case l_l_pairing => k_is)
    (case k_l_pairing => k_is)
    (case p_l_pairing => k_is)
    (case a_l_value => k_is)
    (case l_l_value => k_is)
    (case k_l_value => k_is)
    (case p_l_value => k_is)
    (case a_Form_pairing => k_is)
    (case i_Form_pairing => k_is)
    (case l_Form_pairing => k_is)
    (case k_Form_pairing => k_is)
    (case p_Form_pairing => k_is)
    (case a_l_values_right => k_is)
    (case l_l_values_right => k_is)
    (case k_l_values_right => k_is)
    (case p_l_values_right => k_is)
    (case e_Form_diagonal => k_is)
    (case h_Form_diagonal => k_is)
    (case a_Form_diagonal => k_is)
    (case r_Form_diagonal => k_is)
    (case i_Form_diagonal => k_is)
    (case l_Form_diagonal => k_is)
    (case k_Form_diagonal => k_is)
    (case p_Form_diagonal => k_is)
    (case a_law => k_is)
    (case l_law => k_is)
    (case k_law => k_is)
    (case p_law => k_is)
    (case z_abs => k_is)
    (case z_all => k_is)
    (case z_bool => k_is)
    (case z_enumerate => k_is)
    (case z_int => k_is)
    (case z_isinstance => k_is)
    (case z_len => k_is)
    (case z_list => k_is)
    (case z_max => k_is)
    (case z_min => k_is)
    (case z_range => k_is)
    (case z_str => k_is)
    (case z_sum => k_is)
    (case z_tuple => k_is)
    (case z_zip => k_is)
    (case g_gcd => k_is)
    (case i_BEYOND => k_is)
    (case i_SIZES => k_is)
    (case j_SIZES => k_is)
