import PyProof.Rows.All
import Wide.All
import OpenK.AllK
import Wide.FinOn
import HandS.ForMost
import HandS.WideBits
import HandS.IsInst
import HandS.Conv
import HandS.RaiseMore
import HandS.Walk
import HandS.Defaults
import HandS.Codes
import HandS.Exc
import HandS.Deep
import HandS.DictTup
import HandS.Head0
import HandS.Head1
import HandS.Head2
import HandS.HeadEnd
import HandS.HeadHook1
import HandS.HeadHook2
import KE.KBits
import PyProof.StrLawsChain
import PyProof.StrLawsTight
import PySem.Challenge.RW_fivefields_k71_against
set_option Elab.async false
set_option linter.all false
set_option maxRecDepth 100000
/-! Data layer: trees of data over the abstract heap, an expression as a function of the slots' data. -/
namespace DL
open PySem L2

inductive D where
  | non | bl (b : Bool) | int (i : Int) | str (x : Str)
  | lst (xs : List D) | tup (xs : List D) | ins (c : Nat) (fs : List D) | raw (v : V)
  /-- the script: ints that are read alone -/
  | scr (ns : List Int)
  /-- an attribute of which nothing is told -/
  | any
  /-- a def as a value; a dict that stays as it is -/
  | fn (i : Nat) | dct (ks : List Key) (ds : List D)

/-- a list, a tuple, a dict with plain keys -/
def ben : HO → Prop
  | .lst _ => True
  | .tup _ => True
  | .dK _ => True
  | _ => False
/-- what may be hidden -/
def dic : HO → Prop
  | .dT _ => True
  | _ => False
section
variable (K : PySem.W.Frag) (cl : Nat → Addr) (nm : Nat → List Str) (fn : Nat → Addr) (G : Hp)
mutual
def Rep0 : D → V → Prop
  | .non, v => v = .non
  | .bl b, v => v = .bl b
  | .int i, v => v = .int i
  | .str x, v => v = .str x
  | .lst ds, v => ∃ p vs, v = .ref p ∧ G p = some (.lst vs) ∧ RepL0 ds vs
  | .tup ds, v => ∃ p vs, v = .ref p ∧ SqT K G p vs ∧ RepL0 ds vs
  | .ins n ds, v => ∃ p dx vs, v = .ref p ∧ G p = some (.ins (cl n) dx ((nm n).zip vs)) ∧ vs.length = (nm n).length ∧ RepL0 ds vs
  | .raw w, v => v = w
  | .scr ns, v => ∃ p, v = .ref p ∧ SqL K G p (ns.map V.int)
  | .any, _ => True
  | .fn i, v => v = .ref (fn i)
  | .dct ks ds, v => ∃ p vs, v = .ref p ∧ G p = some (.dK (ks.zip vs)) ∧ vs.length = ks.length ∧ RepL0 ds vs
def RepL0 : List D → List V → Prop
  | [], vs => vs = []
  | d :: ds, vs => ∃ v r, vs = v :: r ∧ Rep0 d v ∧ RepL0 ds r
end
end

/-- the classes: where each stands, the names of its instances' attributes in order; what is kept hidden (dicts that keep what was told), and what holds of it -/
structure Cf where
  cl : Nat → Addr
  nm : Nat → List Str
  fn : Nat → Addr
  /-- attributes of an instance that keeps nothing hidden -/
  pl : List (Str × V) → Prop
  hid : Hp → Addr → Prop
  /-- what holds of it; the first heap: what may be read -/
  inv : Hp → Hp → Prop
  imo : ∀ G G' H, Same G G' → inv G H → inv G' H
  hno : ∀ H a o, H a = some o → hid H a → dic o
  add : ∀ H p o, H p = none → ben o → (∀ G, inv G H → inv G (upd H p o)) ∧ ∀ a, a ≠ p → hid (upd H p o) a → hid H a
  adI : ∀ H p dx C fs, H p = none → H dx = none → dx ≠ p → pl fs → (∀ G, inv G H → inv G (upd (upd H dx (.own p)) p (.ins C dx fs))) ∧ ∀ a, a ≠ p → a ≠ dx → hid (upd (upd H dx (.own p)) p (.ins C dx fs)) a → hid H a
  chI : ∀ H p dx C fs fs', H p = some (.ins C dx fs) → pl fs → pl fs' → (∀ G, inv G H → inv G (upd H p (.ins C dx fs'))) ∧ ∀ a, hid (upd H p (.ins C dx fs')) a → hid H a
  chg : ∀ H p o o', H p = some o → ben o → ben o' → (∀ G, inv G H → inv G (upd H p o')) ∧ ∀ a, hid (upd H p o') a → hid H a

abbrev Rep (K : PySem.W.Frag) (c : Cf) (G : Hp) : D → V → Prop := Rep0 K c.cl c.nm c.fn G
abbrev RepL (K : PySem.W.Frag) (c : Cf) (G : Hp) : List D → List V → Prop := RepL0 K c.cl c.nm c.fn G
/-- what may be read lies in what stands -/
structure Sm (c : Cf) (G H : Hp) : Prop where
  s : Same G H
  i : c.inv G H
  t : ∀ a kvs, G a ≠ some (.dT kvs)
instance {c : Cf} {G H : Hp} : CoeFun (Sm c G H) (fun _ => Same G H) := ⟨Sm.s⟩
theorem Sm.none {c : Cf} {G H : Hp} (s : Sm c G H) {p : Addr} (h : H p = Option.none) : G p = Option.none := s.s.free h
theorem Sm.seq {K : PySem.W.Frag} {c : Cf} {G H : Hp} {p : Addr} {xs : List V} (s : Sm c G H) (h : SqL K G p xs) : SqL K H p xs := s.s.seq h
section
variable {K : PySem.W.Frag} {c : Cf} {G G' G1 G2 H H' H1 H2 : Hp}
mutual
theorem Rep0.mono (s : Same G G') : ∀ {d : D} {v : V}, Rep K c G d v → Rep K c G' d v
  | .non, _, h => h
  | .bl _, _, h => h
  | .int _, _, h => h
  | .str _, _, h => h
  | .raw _, _, h => h
  | .scr _, _, h => by
    obtain ⟨p, e, q⟩ := h
    exact ⟨p, e, s.seq q⟩
  | .any, _, _ => True.intro
  | .fn _, _, h => h
  | .dct ks ds, _, h => by
    obtain ⟨p, vs, e, q, l, r⟩ := h
    exact ⟨p, vs, e, s _ _ q, l, RepL0.mono s r⟩
  | .lst ds, _, h => by
    obtain ⟨p, vs, e, q, r⟩ := h
    exact ⟨p, vs, e, s _ _ q, RepL0.mono s r⟩
  | .tup ds, _, h => by
    obtain ⟨p, vs, e, q, r⟩ := h
    refine ⟨p, vs, e, ?_, RepL0.mono s r⟩
    rcases q with (q | ⟨o, q⟩) | q
    · exact .inl (.inl (s _ _ q))
    · exact .inl (.inr ⟨o, s _ _ q⟩)
    · exact .inr q
  | .ins n ds, _, h => by
    obtain ⟨p, dx, vs, e, q, l, r⟩ := h
    exact ⟨p, dx, vs, e, s _ _ q, l, RepL0.mono s r⟩
theorem RepL0.mono (s : Same G G') : ∀ {ds : List D} {vs : List V}, RepL K c G ds vs → RepL K c G' ds vs
  | [], _, h => h
  | d :: ds, _, h => by
    obtain ⟨v, r, e, h1, h2⟩ := h
    exact ⟨v, r, e, Rep0.mono s h1, RepL0.mono s h2⟩
end
theorem RepL0.length : ∀ {ds : List D} {vs : List V}, RepL K c G ds vs → vs.length = ds.length
  | [], _, h => by cases h; rfl
  | d :: ds, _, h => by
    obtain ⟨v, r, rfl, _, h2⟩ := h
    simp [RepL0.length h2]
theorem RepL0.get : ∀ {ds : List D} {vs : List V} {i : Nat} {d : D}, RepL K c G ds vs → ds[i]? = some d → ∃ v, vs[i]? = some v ∧ Rep K c G d v
  | [], _, _, _, _, e => by simp at e
  | d :: ds, _, 0, x, h, e => by
    obtain ⟨v, r, rfl, h1, h2⟩ := h
    simp at e; subst e
    exact ⟨v, by simp, h1⟩
  | d :: ds, _, i + 1, x, h, e => by
    obtain ⟨v, r, rfl, h1, h2⟩ := h
    obtain ⟨u, e1, e2⟩ := RepL0.get (i := i) h2 (by simpa using e)
    exact ⟨u, by simpa using e1, e2⟩
theorem RepL0.getV : ∀ {ds : List D} {vs : List V} {i : Nat} {v : V}, RepL K c G ds vs → vs[i]? = some v → ∃ d, ds[i]? = some d ∧ Rep K c G d v
  | [], _, _, _, h, e => by cases h; simp at e
  | d :: ds, _, 0, x, h, e => by
    obtain ⟨v, r, rfl, h1, h2⟩ := h
    simp at e; subst e
    exact ⟨d, by simp, h1⟩
  | d :: ds, _, i + 1, x, h, e => by
    obtain ⟨v, r, rfl, h1, h2⟩ := h
    obtain ⟨u, e1, e2⟩ := RepL0.getV (i := i) h2 (by simpa using e)
    exact ⟨u, by simpa using e1, e2⟩
theorem RepL0.append : ∀ {ds es : List D} {vs us : List V}, RepL K c G ds vs → RepL K c G es us → RepL K c G (ds ++ es) (vs ++ us)
  | [], _, _, _, h, q => by cases h; exact q
  | d :: ds, _, _, _, h, q => by
    obtain ⟨v, r, rfl, h1, h2⟩ := h
    exact ⟨v, r ++ _, rfl, h1, RepL0.append h2 q⟩
theorem RepL0.one {d : D} {v : V} (h : Rep K c G d v) : RepL K c G [d] [v] := ⟨v, [], rfl, h, rfl⟩
theorem RepL0.set : ∀ {ds : List D} {vs : List V} {i : Nat} {d : D} {v : V}, RepL K c G ds vs → Rep K c G d v → RepL K c G (ds.set i d) (vs.set i v)
  | [], _, _, _, _, h, _ => by cases h; rfl
  | _ :: ds, _, 0, _, _, h, q => by
    obtain ⟨v, r, rfl, h1, h2⟩ := h
    exact ⟨_, r, rfl, q, h2⟩
  | _ :: ds, _, i + 1, _, _, h, q => by
    obtain ⟨v, r, rfl, h1, h2⟩ := h
    exact ⟨v, _, rfl, h1, RepL0.set h2 q⟩
theorem RepL0.take : ∀ {ds : List D} {vs : List V} (n : Nat), RepL K c G ds vs → RepL K c G (ds.take n) (vs.take n)
  | _, _, 0, _ => rfl
  | [], _, _ + 1, h => by cases h; rfl
  | d :: ds, _, n + 1, h => by
    obtain ⟨v, r, rfl, h1, h2⟩ := h
    exact ⟨v, _, rfl, h1, RepL0.take n h2⟩
theorem RepL0.drop : ∀ {ds : List D} {vs : List V} (n : Nat), RepL K c G ds vs → RepL K c G (ds.drop n) (vs.drop n)
  | _, _, 0, h => h
  | [], _, _ + 1, h => by cases h; rfl
  | d :: ds, _, n + 1, h => by
    obtain ⟨v, r, rfl, h1, h2⟩ := h
    exact RepL0.drop n h2

/-! ### the step: what may be read (G), all that stands (H) -/
structure Gr (c : Cf) (G H G' H' : Hp) : Prop where
  g : Same G G'
  h : ∀ a o, H a = some o → ¬ c.hid H a → H' a = some o
  d : ∀ a, H' a = none → H a = none
  m : ∀ a o, H a = some o → c.hid H' a → c.hid H a
  s : Sm c G' H'
  f : ∀ a o, H a = some o → G a = none → G' a = none
theorem Gr.refl (s : Sm c G H) : Gr c G H G H := ⟨.refl _, fun _ _ h _ => h, fun _ h => h, fun _ _ _ h => h, s, fun _ _ _ h => h⟩
theorem some_of {H : Hp} {a : Addr} {p : Prop} (h : H a = none → p) (n : ¬ p) : ∃ o, H a = some o := by
  cases q : H a with
  | none => exact (n (h q)).elim
  | some o => exact ⟨o, rfl⟩
theorem Gr.ex (a : Gr c G H G1 H1) {x : Addr} {o : HO} (e : H x = some o) : ∃ o', H1 x = some o' := by
  cases q : H1 x with
  | none => rw [a.d x q] at e; cases e
  | some o' => exact ⟨o', rfl⟩
theorem Gr.trans (a : Gr c G H G1 H1) (b : Gr c G1 H1 G2 H2) : Gr c G H G2 H2 :=
  ⟨a.g.trans b.g, fun x o e n => b.h x o (a.h x o e n) fun z => n (a.m x o e z), fun x e => a.d x (b.d x e),
    fun x o e z => let ⟨o', e'⟩ := a.ex e; a.m x o e (b.m x o' e' z), b.s, fun x o e n => let ⟨o', e'⟩ := a.ex e; b.f x o' e' (a.f x o e n)⟩
theorem Gr.hl {p : Addr} {vs : List V} (a : Gr c G H G1 H1) (e : H p = some (.lst vs)) : H1 p = some (.lst vs) := a.h p _ e fun z => c.hno H p _ e z
theorem Gr.hi {p C dx : Addr} {fs : List (Str × V)} (a : Gr c G H G1 H1) (e : H p = some (.ins C dx fs)) : H1 p = some (.ins C dx fs) := a.h p _ e fun z => c.hno H p _ e z
theorem Gr.hn {p : Addr} (a : Gr c G H G1 H1) (e : H1 p = none) : H p = none := a.d p e
theorem _root_.L2.Same.new {H : Hp} {p : Addr} {o : HO} (h : H p = none) : Same H (upd H p o) := fun a u e => by
  rw [upd_ne (ne_of_none e h)]; exact e
theorem _root_.L2.Same.none {G H : Hp} (s : Same G H) {p : Addr} (h : H p = Option.none) : G p = Option.none := s.free h
/-- a new list, a new tuple, that is not read -/
theorem Gr.add {p : Addr} {o : HO} (s : Sm c G H) (h : H p = none) (b : ben o) : Gr c G H G (upd H p o) :=
  ⟨.refl _, fun a u e _ => by rw [upd_ne (ne_of_none e h)]; exact e, fun a e => by
    by_cases z : a = p
    · subst z; exact h
    · rw [upd_ne z] at e; exact e, fun a u e z => (c.add H p o h b).2 a (ne_of_none e h) z, ⟨fun a u e => by rw [upd_ne (ne_of_none (s a u e) h)]; exact s a u e, (c.add H p o h b).1 G s.i, s.t⟩, fun _ _ _ n => n⟩
theorem ben_dT {o : HO} (b : ben o) : ∀ kvs, o ≠ .dT kvs := fun kvs e => by subst e; exact b
theorem no_dT {G : Hp} {p : Addr} {o : HO} (t : ∀ a kvs, G a ≠ some (.dT kvs)) (b : ∀ kvs, o ≠ .dT kvs) : ∀ a kvs, (upd G p o) a ≠ some (.dT kvs) := fun a kvs e => by
  by_cases z : a = p
  · subst z; rw [upd_same] at e; exact b kvs (Option.some.inj e)
  · rw [upd_ne z] at e; exact t a kvs e
/-- a new list, a new tuple, to be read -/
theorem Gr.new {p : Addr} {o : HO} (s : Sm c G H) (h : H p = none) (b : ben o) : Gr c G H (upd G p o) (upd H p o) :=
  let g := Gr.add (c := c) (o := o) s h b
  ⟨Same.new (s.none h), g.h, g.d, g.m, ⟨fun a u e => by
    by_cases z : a = p
    · subst z; rw [upd_same] at e ⊢; exact e
    · rw [upd_ne z] at e ⊢; exact s a u e, c.imo _ _ _ (Same.new (s.none h)) g.s.i, no_dT s.t (ben_dT b)⟩, fun a u e n => by rw [upd_ne (ne_of_none e h)]; exact n⟩
/-- a list, a dict that was not there at the start has changed -/
theorem Gr.chgB {p : Addr} {o o' : HO} (a : Gr c G H G1 H1) (n : H p = none) (m : G1 p = none) (e : H1 p = some o) (b : ben o) (b' : ben o') : Gr c G H G1 (upd H1 p o') :=
  ⟨a.g, fun x o q z => by rw [upd_ne (ne_of_none q n)]; exact a.h x o q z, fun x q => by
    by_cases z : x = p
    · subst z; exact n
    · rw [upd_ne z] at q; exact a.d x q, fun x o q z => a.m x o q ((c.chg H1 p _ _ e b b').2 x z), ⟨fun x o q => by rw [upd_ne (ne_of_none q m)]; exact a.s x o q, (c.chg H1 p o o' e b b').1 _ a.s.i, a.s.t⟩, a.f⟩
theorem Gr.chg {p : Addr} {xs ys : List V} (a : Gr c G H G1 H1) (n : H p = none) (m : G1 p = none) (e : H1 p = some (.lst xs)) : Gr c G H G1 (upd H1 p (.lst ys)) := a.chgB n m e True.intro True.intro
theorem Gr.hk {p : Addr} {kvs : List (Key × V)} (a : Gr c G H G1 H1) (e : H p = some (.dK kvs)) : H1 p = some (.dK kvs) := a.h p _ e fun z => c.hno H p _ e z
/-- a new instance that is not read -/
theorem Gr.addI {p dx C : Addr} {fs : List (Str × V)} (s : Sm c G H) (h : H p = none) (hd : H dx = none) (ne : dx ≠ p) (b : c.pl fs) : Gr c G H G (upd (upd H dx (.own p)) p (.ins C dx fs)) :=
  have up : ∀ a u, H a = some u → (upd (upd H dx (.own p)) p (.ins C dx fs)) a = some u := fun a u e => by rw [upd_ne (ne_of_none e h), upd_ne (ne_of_none e hd)]; exact e
  ⟨.refl _, fun a u e _ => up a u e, fun a e => by
    by_cases z : a = p
    · subst z; exact h
    · rw [upd_ne z] at e
      by_cases y : a = dx
      · subst y; exact hd
      · rw [upd_ne y] at e; exact e, fun a u e z => (c.adI H p dx C fs h hd ne b).2 a (ne_of_none e h) (ne_of_none e hd) z, ⟨fun a u e => up a u (s a u e), (c.adI H p dx C fs h hd ne b).1 _ s.i, s.t⟩, fun _ _ _ n => n⟩
/-- an instance that was not there at the start has changed -/
theorem Gr.chI {p dx C : Addr} {fs fs' : List (Str × V)} (a : Gr c G H G1 H1) (n : H p = none) (m : G1 p = none) (e : H1 p = some (.ins C dx fs)) (b : c.pl fs) (b' : c.pl fs') : Gr c G H G1 (upd H1 p (.ins C dx fs')) :=
  ⟨a.g, fun x o q z => by rw [upd_ne (ne_of_none q n)]; exact a.h x o q z, fun x q => by
    by_cases z : x = p
    · subst z; exact n
    · rw [upd_ne z] at q; exact a.d x q, fun x o q z => a.m x o q ((c.chI H1 p dx C fs fs' e b b').2 x z), ⟨fun x o q => by rw [upd_ne (ne_of_none q m)]; exact a.s x o q, (c.chI H1 p dx C fs fs' e b b').1 _ a.s.i, a.s.t⟩, a.f⟩

/-! ### slots: unknown, a value to be read, a list of the def's own that it may change -/
inductive S3 where
  | un | val (d : D) | own (ds : List D)
abbrev Sl := List S3
structure Slots (K : PySem.W.Frag) (c : Cf) (G H : Hp) (ρ : Sl) (σ : St) : Prop where
  len : ρ.length = σ.length
  val : ∀ (i : Nat) (d : D), ρ[i]? = some (.val d) → ∃ v, σ[i]? = some (some v) ∧ Rep K c G d v
  own : ∀ (i : Nat) (ds : List D), ρ[i]? = some (.own ds) → ∃ p vs, σ[i]? = some (some (.ref p)) ∧ G p = none ∧ H p = some (.lst vs) ∧ RepL K c G ds vs
  dis : ∀ (i j : Nat) (ds es : List D) (p : Addr), ρ[i]? = some (.own ds) → ρ[j]? = some (.own es) → σ[i]? = some (some (.ref p)) → σ[j]? = some (some (.ref p)) → i = j
variable {ρ : Sl} {σ : St}
theorem Slots.step (h : Slots K c G H ρ σ) (g : Gr c G H G' H') : Slots K c G' H' ρ σ :=
  ⟨h.len, fun i d e => let ⟨v, a, b⟩ := h.val i d e; ⟨v, a, b.mono g.g⟩,
    fun i ds e => let ⟨p, vs, a, b, q, r⟩ := h.own i ds e; ⟨p, vs, a, g.f p _ q b, g.hl q, r.mono g.g⟩, h.dis⟩
theorem set_eq {α : Type} {l : List α} {i j : Nat} {x y : α} (h : (l.set i x)[j]? = some y) : (i = j ∧ i < l.length ∧ y = x) ∨ (i ≠ j ∧ l[j]? = some y) := by
  by_cases hj : i = j
  · subst hj
    by_cases hi : i < l.length
    · rw [List.getElem?_set_self hi] at h
      exact .inl ⟨rfl, hi, (Option.some.inj h).symm⟩
    · rw [List.getElem?_eq_none (by simpa using hi)] at h; cases h
  · rw [List.getElem?_set_ne hj] at h
    exact .inr ⟨hj, h⟩
theorem Slots.set {i : Nat} {d : D} {v : V} (h : Slots K c G H ρ σ) (r : Rep K c G d v) : Slots K c G H (ρ.set i (.val d)) (σ.set i (some v)) := by
  refine ⟨by simp [h.len], fun j x e => ?_, fun j x e => ?_, fun j k x y p e1 e2 e3 e4 => ?_⟩
  · rcases set_eq e with ⟨rfl, hi, z⟩ | ⟨hj, e⟩
    · cases z
      exact ⟨v, List.getElem?_set_self (by rw [← h.len]; exact hi), r⟩
    · rw [List.getElem?_set_ne hj]
      exact h.val j x e
  · rcases set_eq e with ⟨rfl, hi, z⟩ | ⟨hj, e⟩
    · cases z
    · rw [List.getElem?_set_ne hj]
      exact h.own j x e
  · rcases set_eq e1 with ⟨rfl, hi, z⟩ | ⟨hj, e1⟩
    · cases z
    · rcases set_eq e2 with ⟨rfl, hi, z⟩ | ⟨hk, e2⟩
      · cases z
      · rw [List.getElem?_set_ne hj] at e3
        rw [List.getElem?_set_ne hk] at e4
        exact h.dis j k x y p e1 e2 e3 e4
theorem Slots.unset {i : Nat} (h : Slots K c G H ρ σ) (o : Option V) : Slots K c G H (ρ.set i .un) (σ.set i o) := by
  refine ⟨by simp [h.len], fun j x e => ?_, fun j x e => ?_, fun j k x y p e1 e2 e3 e4 => ?_⟩
  · rcases set_eq e with ⟨rfl, hi, z⟩ | ⟨hj, e⟩
    · cases z
    · rw [List.getElem?_set_ne hj]
      exact h.val j x e
  · rcases set_eq e with ⟨rfl, hi, z⟩ | ⟨hj, e⟩
    · cases z
    · rw [List.getElem?_set_ne hj]
      exact h.own j x e
  · rcases set_eq e1 with ⟨rfl, hi, z⟩ | ⟨hj, e1⟩
    · cases z
    · rcases set_eq e2 with ⟨rfl, hi, z⟩ | ⟨hk, e2⟩
      · cases z
      · rw [List.getElem?_set_ne hj] at e3
        rw [List.getElem?_set_ne hk] at e4
        exact h.dis j k x y p e1 e2 e3 e4
/-- the comprehension's own names forgotten -/
def wipeD (ρ : Sl) : List Nat → Sl
  | [] => ρ
  | v :: vs => (wipeD ρ vs).set v .un
theorem Slots.wipe (h : Slots K c G H ρ σ) : ∀ vs, Slots K c G H (wipeD ρ vs) (L2.wipe σ vs)
  | [] => h
  | v :: vs => (h.wipe vs).unset none
end

/-! ### expressions -/
abbrev DE := Sl → Option D
abbrev DB := Sl → Option Bool
abbrev DA := Sl → Option (List D)
section
variable (K : PySem.W.Frag) (c : Cf)
def tD (f : DE) : TE := fun σ H Q => ∃ G ρ d, Sm c G H ∧ Slots K c G H ρ σ ∧ f ρ = some d ∧ ∀ v G' H', Gr c G H G' H' → Rep K c G' d v → Q v H'
def tDT (f : DB) : TT := fun σ H Q => ∃ G ρ b, Sm c G H ∧ Slots K c G H ρ σ ∧ f ρ = some b ∧ ∀ G' H', Gr c G H G' H' → Q b H'
def tDA (f : DA) : TA := fun σ H Q => ∃ G ρ ds, Sm c G H ∧ Slots K c G H ρ σ ∧ f ρ = some ds ∧ ∀ vs G' H', Gr c G H G' H' → RepL K c G' ds vs → Q vs H'
end
section
variable {X : Cx} {K : PySem.W.Frag} {c : Cf} {e a b : Expr} {es : List Expr} {pos : Pos}
theorem _root_.L2.PE.imp {t t' : TE} (h : PE X e t) (i : ∀ σ H Q, t' σ H Q → t σ H Q) : PE X e t' := ⟨fun pins s σ H Q I q => h.run pins s σ H Q I (i σ H Q q)⟩
theorem _root_.L2.PT.imp {t t' : TT} (h : PT X e t) (i : ∀ σ H Q, t' σ H Q → t σ H Q) : PT X e t' := ⟨fun pins s σ H Q I q => h.run pins s σ H Q I (i σ H Q q)⟩
theorem _root_.L2.PW.imp {t t' : TT} (h : PW X e t) (i : ∀ σ H Q, t' σ H Q → t σ H Q) : PW X e t' := ⟨fun w pins s σ H Q I q => h.run w pins s σ H Q I (i σ H Q q)⟩
theorem _root_.L2.PA.imp {t t' : TA} (h : PA X es t) (i : ∀ σ H Q, t' σ H Q → t σ H Q) : PA X es t' := ⟨fun p pins s σ H Q I q => h.run p pins s σ H Q I (i σ H Q q)⟩
theorem _root_.L2.PS.imp {st : Stmt} {t t' : TS} (h : PS X st t) (i : ∀ D σ H, t' D σ H → t D σ H) : PS X st t' := ⟨fun pins s σ H D I q => h.run pins s σ H D I (i D σ H q)⟩
theorem _root_.L2.PSs.imp {st : List Stmt} {t t' : TS} (h : PSs X st t) (i : ∀ D σ H, t' D σ H → t D σ H) : PSs X st t' := ⟨fun pins s σ H D I q => h.run pins s σ H D I (i D σ H q)⟩

def dVar (i : Nat) : DE := fun ρ => match ρ[i]? with | some (.val d) => some d | _ => none
theorem dVar_some {i : Nat} {ρ : Sl} {d : D} (e : dVar i ρ = some d) : ρ[i]? = some (.val d) := by
  unfold dVar at e
  split at e
  · rename_i q; cases e; exact q
  · cases e
theorem d_var (i : Nat) {x : Str} (hN : X.N[i]? = some x := by rfl) (hv : Vis X.env.scope x := by first | exact Or.inl rfl | exact Or.inr (Or.inl rfl) | exact Or.inr (Or.inr rfl)) (hd : (x == ("__debug__" : Str)) = false := by decide)
    (hcd : (x == ("__classdict__" : Str)) = false := by decide) : PE X (.Name x pos) (tD K c (dVar i)) := (pe_var hN hv hd hcd).imp fun σ H Q ⟨G, ρ, d, s, sl, e, k⟩ => by
  obtain ⟨v, h1, h2⟩ := sl.val i d (dVar_some e)
  exact ⟨v, h1, k v G H (.refl s) h2⟩
/-- a constant that needs no heap -/
def dC (d : D) : DE := fun _ => some d
theorem tD_of_tC {d : D} {v : V} (r : ∀ G, Rep K c G d v) {σ : St} {H : Hp} {Q : VK} (h : tD K c (dC d) σ H Q) : tC v σ H Q := by
  obtain ⟨G, ρ, d', s, sl, e, k⟩ := h
  cases e
  exact k v G H (.refl s) (r G)
theorem d_int {i j} : PE X (.Constant (.int i) j pos) (tD K c (dC (.int i))) := pe_int.imp fun _ _ _ h => tD_of_tC (d := .int i) (fun _ => rfl) h
theorem d_bl {b j} : PE X (.Constant (.bool b) j pos) (tD K c (dC (.bl b))) := pe_bl.imp fun _ _ _ h => tD_of_tC (d := .bl b) (fun _ => rfl) h
theorem d_non {j} : PE X (.Constant .none j pos) (tD K c (dC .non)) := pe_non.imp fun _ _ _ h => tD_of_tC (d := .non) (fun _ => rfl) h
theorem d_str {x j} : PE X (.Constant (.str x) j pos) (tD K c (dC (.str x))) := pe_str.imp fun _ _ _ h => tD_of_tC (d := .str x) (fun _ => rfl) h
/-- a constant of the module -/
def GlobD (K : PySem.W.Frag) (c : Cf) (mg : Str → Option Value) (x : Str) (d : D) : Prop := ∃ u v, mg x = some u ∧ RelV v u ∧ ∀ G, Rep K c G d v
theorem d_glob {x : Str} {d : D} (h : GlobD K c X.mg x d) (hg : Gl X x := by rfl) (hd : (x == ("__debug__" : Str)) = false := by decide) : PE X (.Name x pos) (tD K c (dC d)) := by
  obtain ⟨u, v, hm, r, q⟩ := h
  exact (pe_glob hg hm r hd).imp fun _ _ _ h => tD_of_tC q h

/-! ### operators -/
def OpD (X : Cx) (K : PySem.W.Frag) (c : Cf) (f : Value → Value → Sem Value) (o : D → D → Option D) : Prop :=
  ∃ r, OpR X f r ∧ ∀ x y z, o x y = some z → ∀ G H u w Q, Sm c G H → Rep K c G x u → Rep K c G y w → (∀ v G' H', Gr c G H G' H' → Rep K c G' z v → Q v H') → r u w H Q
def dOp (o : D → D → Option D) (f g : DE) : DE := fun ρ => (f ρ).bind fun x => (g ρ).bind fun y => o x y
theorem dOp_step {o : D → D → Option D} {f g : DE} {r : R2}
    (hr : ∀ x y z, o x y = some z → ∀ G H u w Q, Sm c G H → Rep K c G x u → Rep K c G y w → (∀ v G' H', Gr c G H G' H' → Rep K c G' z v → Q v H') → r u w H Q) :
    ∀ σ H Q, tD K c (dOp o f g) σ H Q → tOp r (tD K c f) (tD K c g) σ H Q := by
  rintro σ H Q ⟨G, ρ, d, s, sl, e, k⟩
  unfold dOp at e
  obtain ⟨x, ex, e⟩ := Option.bind_eq_some_iff.mp e
  obtain ⟨y, ey, e⟩ := Option.bind_eq_some_iff.mp e
  exact ⟨G, ρ, x, s, sl, ex, fun u G1 H1 g1 r1 => ⟨G1, ρ, y, g1.s, sl.step g1, ey, fun w G2 H2 g2 r2 =>
    hr x y d e G2 H2 u w Q g2.s (r1.mono g2.g) r2 fun v G' H' g3 r3 => k v G' H' ((g1.trans g2).trans g3) r3⟩⟩
theorem d_op {op : Operator} {o : D → D → Option D} {f g : DE} (ho : OpD X K c (binaryOp op) o) (ha : PE X a (tD K c f)) (hb : PE X b (tD K c g)) : PE X (.BinOp a op b pos) (tD K c (dOp o f g)) := by
  obtain ⟨r, h1, h2⟩ := ho
  exact (pe_op h1 ha hb).imp (dOp_step h2)
theorem d_cmp {op : CmpOp} {o : D → D → Option D} {f g : DE} (ho : OpD X K c (compareOp op) o) (ha : PE X a (tD K c f)) (hb : PE X b (tD K c g)) (hm : behindInMarks op b = false := by first | exact nomark _ | rfl) : PE X (.Compare a [op] [b] pos) (tD K c (dOp o f g)) := by
  obtain ⟨r, h1, h2⟩ := ho
  exact (pe_cmpR h1 ha hb hm).imp (dOp_step h2)
/-- as a test -/
def asB (f : DE) : DB := fun ρ => match f ρ with | some (.bl b) => some b | _ => none
theorem asB_some {f : DE} {ρ : Sl} {b : Bool} (h : asB f ρ = some b) : f ρ = some (.bl b) := by
  unfold asB at h
  split at h
  · rename_i e; cases h; exact e
  · cases h
theorem tDT_tB {f : DE} {σ : St} {H : Hp} {Q : Bool → Hp → Prop} (h : tDT K c (asB f) σ H Q) : tD K c f σ H fun x H1 => ∃ k, x = .bl k ∧ Q k H1 := by
  obtain ⟨G, ρ, b, s, sl, e, k⟩ := h
  exact ⟨G, ρ, _, s, sl, asB_some e, fun v G' H' g r => ⟨b, r, k G' H' g⟩⟩
theorem d_tcmp {op : CmpOp} {o : D → D → Option D} {f g : DE} (ho : OpD X K c (compareOp op) o) (ha : PE X a (tD K c f)) (hb : PE X b (tD K c g)) (hm : behindInMarks op b = false := by first | exact nomark _ | rfl) : PT X (.Compare a [op] [b] pos) (tDT K c (asB (dOp o f g))) := by
  obtain ⟨r, h1, h2⟩ := ho
  exact (pt_cmpR h1 ha hb hm).imp fun σ H Q h => dOp_step h2 σ H _ (tDT_tB h)
/-- a op b op' c -/
def dChain (o o' : D → D → Option D) (f g h : DE) : DE := fun ρ => (f ρ).bind fun x => (g ρ).bind fun y => match o x y with
  | some (.bl true) => (h ρ).bind fun z => o' y z
  | some (.bl false) => some (.bl false)
  | _ => none
theorem dChain_step {o o' : D → D → Option D} {f g h : DE} {r r' : R2}
    (hr : ∀ x y z, o x y = some z → ∀ G H u w Q, Sm c G H → Rep K c G x u → Rep K c G y w → (∀ v G' H', Gr c G H G' H' → Rep K c G' z v → Q v H') → r u w H Q)
    (hr' : ∀ x y z, o' x y = some z → ∀ G H u w Q, Sm c G H → Rep K c G x u → Rep K c G y w → (∀ v G' H', Gr c G H G' H' → Rep K c G' z v → Q v H') → r' u w H Q) :
    ∀ σ H Q, tD K c (dChain o o' f g h) σ H Q → tChain r r' (tD K c f) (tD K c g) (tD K c h) σ H Q := by
  rintro σ H Q ⟨G, ρ, d, s, sl, e, k⟩
  unfold dChain at e
  obtain ⟨x, ex, e⟩ := Option.bind_eq_some_iff.mp e
  obtain ⟨y, ey, e⟩ := Option.bind_eq_some_iff.mp e
  refine ⟨G, ρ, x, s, sl, ex, fun u G1 H1 g1 r1 => ⟨G1, ρ, y, g1.s, sl.step g1, ey, fun w G2 H2 g2 r2 => ?_⟩⟩
  split at e
  · rename_i q
    refine hr x y _ q G2 H2 u w _ g2.s (r1.mono g2.g) r2 fun v G3 H3 g3 r3 => ⟨true, r3, ?_⟩
    refine iteT ?_
    obtain ⟨z, ez, e⟩ := Option.bind_eq_some_iff.mp e
    exact ⟨G3, ρ, z, g3.s, sl.step ((g1.trans g2).trans g3), ez, fun w' G4 H4 g4 r4 => hr' y z d e G4 H4 w w' Q g4.s ((r2.mono g3.g).mono g4.g) r4 fun v' G' H' g5 r5 => k v' G' H' ((((g1.trans g2).trans g3).trans g4).trans g5) r5⟩
  · rename_i q
    cases e
    refine hr x y _ q G2 H2 u w _ g2.s (r1.mono g2.g) r2 fun v G3 H3 g3 r3 => ⟨false, r3, ?_⟩
    refine iteF ?_
    exact k (.bl false) G3 H3 ((g1.trans g2).trans g3) rfl
  · cases e
theorem d_chain {c1 : Expr} {op op' : CmpOp} {o o' : D → D → Option D} {f g h : DE} (ho : OpD X K c (compareOp op) o) (ho' : OpD X K c (compareOp op') o') (ha : PE X a (tD K c f)) (hb : PE X b (tD K c g)) (hc : PE X c1 (tD K c h))
    (hm : lastMarks [op, op'] [b, c1] = false := by with_unfolding_all rfl) : PE X (.Compare a [op, op'] [b, c1] pos) (tD K c (dChain o o' f g h)) := by
  obtain ⟨r, h1, h2⟩ := ho
  obtain ⟨r', h1', h2'⟩ := ho'
  exact (pe_chain h1 h1' ha hb hc hm).imp (dChain_step h2 h2')
theorem d_tchain {c1 : Expr} {op op' : CmpOp} {o o' : D → D → Option D} {f g h : DE} (ho : OpD X K c (compareOp op) o) (ho' : OpD X K c (compareOp op') o') (ha : PE X a (tD K c f)) (hb : PE X b (tD K c g)) (hc : PE X c1 (tD K c h))
    (hm : lastMarks [op, op'] [b, c1] = false := by with_unfolding_all rfl) : PT X (.Compare a [op, op'] [b, c1] pos) (tDT K c (asB (dChain o o' f g h))) := by
  obtain ⟨r, h1, h2⟩ := ho
  obtain ⟨r', h1', h2'⟩ := ho'
  exact (pt_chain h1 h1' ha hb hc hm).imp fun σ H Q q => dChain_step h2 h2' σ H _ (tDT_tB q)
theorem d_test {f : DE} (h : PE X e (tD K c f)) (he : ∀ whole, isTrue e X.env whole = (do let v ← whole; standAt e.pos; holding [v] (truthy v)) := by intro _; rfl) : PT X e (tDT K c (asB f)) :=
  (pt_val h he).imp fun _ _ _ q => tDT_tB q
/-! and, or, not -/
def dAndT (f g : DB) : DB := fun ρ => match f ρ with | some true => g ρ | some false => some false | none => none
def dOrT (f g : DB) : DB := fun ρ => match f ρ with | some true => some true | some false => g ρ | none => none
def dNotT (f : DB) : DB := fun ρ => (f ρ).map (!·)
theorem dAndT_step {f g : DB} : ∀ σ H Q, tDT K c (dAndT f g) σ H Q → tAnd (tDT K c f) (tDT K c g) σ H Q := by
  rintro σ H Q ⟨G, ρ, b, s, sl, e, k⟩
  unfold dAndT at e
  split at e
  · rename_i q
    refine ⟨G, ρ, true, s, sl, q, fun G1 H1 g1 => ?_⟩
    refine iteT ?_
    exact ⟨G1, ρ, b, g1.s, sl.step g1, e, fun G' H' g2 => k G' H' (g1.trans g2)⟩
  · rename_i q
    cases e
    refine ⟨G, ρ, false, s, sl, q, fun G1 H1 g1 => ?_⟩
    refine iteF ?_
    exact k G1 H1 g1
  · cases e
theorem dOrT_step {f g : DB} : ∀ σ H Q, tDT K c (dOrT f g) σ H Q → tOr (tDT K c f) (tDT K c g) σ H Q := by
  rintro σ H Q ⟨G, ρ, b, s, sl, e, k⟩
  unfold dOrT at e
  split at e
  · rename_i q
    cases e
    refine ⟨G, ρ, true, s, sl, q, fun G1 H1 g1 => ?_⟩
    refine iteT ?_
    exact k G1 H1 g1
  · rename_i q
    refine ⟨G, ρ, false, s, sl, q, fun G1 H1 g1 => ?_⟩
    refine iteF ?_
    exact ⟨G1, ρ, b, g1.s, sl.step g1, e, fun G' H' g2 => k G' H' (g1.trans g2)⟩
  · cases e
theorem d_wand1 {f : DB} (ha : PT X a (tDT K c f)) : PW X (.BoolOp .And [a] pos) (tDT K c f) := pw_and1 ha
theorem d_wor1 {f : DB} (ha : PT X a (tDT K c f)) : PW X (.BoolOp .Or [a] pos) (tDT K c f) := pw_or1 ha
theorem d_wand {f g : DB} (ha : PT X a (tDT K c f)) (hb : PW X (.BoolOp .And (b :: es) pos) (tDT K c g)) : PW X (.BoolOp .And (a :: b :: es) pos) (tDT K c (dAndT f g)) := (pw_and ha hb).imp dAndT_step
theorem d_wor {f g : DB} (ha : PT X a (tDT K c f)) (hb : PW X (.BoolOp .Or (b :: es) pos) (tDT K c g)) : PW X (.BoolOp .Or (a :: b :: es) pos) (tDT K c (dOrT f g)) := (pw_or ha hb).imp dOrT_step
theorem d_tnot {f : DB} (ha : PT X a (tDT K c f)) : PT X (.UnaryOp .Not a pos) (tDT K c (dNotT f)) := (pt_not ha).imp fun σ H Q ⟨G, ρ, b, s, sl, e, k⟩ => by
  unfold dNotT at e
  obtain ⟨b', e1, rfl⟩ := Option.map_eq_some_iff.mp e
  exact ⟨G, ρ, b', s, sl, e1, k⟩
def dAnd (f g : DE) : DE := fun ρ => match f ρ with | some (.bl true) => g ρ | some (.bl false) => some (.bl false) | _ => none
def dOr (f g : DE) : DE := fun ρ => match f ρ with | some (.bl true) => some (.bl true) | some (.bl false) => g ρ | _ => none
def dNot (f : DE) : DE := fun ρ => match f ρ with | some (.bl b) => some (.bl (!b)) | _ => none
theorem d_one {op} {f : DE} (ha : PE X a (tD K c f)) : PE X (.BoolOp op [a] pos) (tD K c f) := pe_one ha
theorem d_and {f g : DE} (ha : PE X a (tD K c f)) (hb : PE X (.BoolOp .And (b :: es) pos) (tD K c g)) : PE X (.BoolOp .And (a :: b :: es) pos) (tD K c (dAnd f g)) := (pe_and ha hb).imp fun σ H Q ⟨G, ρ, d, s, sl, e, k⟩ => by
  unfold dAnd at e
  split at e
  · rename_i q
    refine ⟨G, ρ, _, s, sl, q, fun v G1 H1 g1 r1 => ⟨true, r1, ?_⟩⟩
    refine iteT ?_
    exact ⟨G1, ρ, d, g1.s, sl.step g1, e, fun v' G' H' g2 r2 => k v' G' H' (g1.trans g2) r2⟩
  · rename_i q
    cases e
    refine ⟨G, ρ, _, s, sl, q, fun v G1 H1 g1 r1 => ⟨false, r1, ?_⟩⟩
    refine iteF ?_
    exact k _ G1 H1 g1 rfl
  · cases e
theorem d_or {f g : DE} (ha : PE X a (tD K c f)) (hb : PE X (.BoolOp .Or (b :: es) pos) (tD K c g)) : PE X (.BoolOp .Or (a :: b :: es) pos) (tD K c (dOr f g)) := (pe_or ha hb).imp fun σ H Q ⟨G, ρ, d, s, sl, e, k⟩ => by
  unfold dOr at e
  split at e
  · rename_i q
    cases e
    refine ⟨G, ρ, _, s, sl, q, fun v G1 H1 g1 r1 => ⟨true, r1, ?_⟩⟩
    refine iteT ?_
    exact k _ G1 H1 g1 rfl
  · rename_i q
    refine ⟨G, ρ, _, s, sl, q, fun v G1 H1 g1 r1 => ⟨false, r1, ?_⟩⟩
    refine iteF ?_
    exact ⟨G1, ρ, d, g1.s, sl.step g1, e, fun v' G' H' g2 r2 => k v' G' H' (g1.trans g2) r2⟩
  · cases e
theorem d_not {f : DE} (ha : PE X a (tD K c f)) : PE X (.UnaryOp .Not a pos) (tD K c (dNot f)) := (pe_not ha).imp fun σ H Q ⟨G, ρ, d, s, sl, e, k⟩ => by
  unfold dNot at e
  split at e
  · rename_i b q
    cases e
    exact ⟨G, ρ, _, s, sl, q, fun v G1 H1 g1 r1 => ⟨b, r1, k _ G1 H1 g1 rfl⟩⟩
  · cases e
def dIf (t : DB) (f g : DE) : DE := fun ρ => match t ρ with | some true => f ρ | some false => g ρ | none => none
theorem d_if {t : DB} {c1 : Expr} {f g : DE} (hc : PT X c1 (tDT K c t)) (ha : PE X a (tD K c f)) (hb : PE X b (tD K c g)) : PE X (.IfExp c1 a b pos) (tD K c (dIf t f g)) := (pe_ifExp hc ha hb).imp fun σ H Q ⟨G, ρ, d, s, sl, e, k⟩ => by
  unfold dIf at e
  split at e
  · rename_i q
    refine ⟨G, ρ, _, s, sl, q, fun G1 H1 g1 => ?_⟩
    refine iteT ?_
    exact ⟨G1, ρ, d, g1.s, sl.step g1, e, fun v' G' H' g2 r2 => k v' G' H' (g1.trans g2) r2⟩
  · rename_i q
    refine ⟨G, ρ, _, s, sl, q, fun G1 H1 g1 => ?_⟩
    refine iteF ?_
    exact ⟨G1, ρ, d, g1.s, sl.step g1, e, fun v' G' H' g2 r2 => k v' G' H' (g1.trans g2) r2⟩
  · cases e
/-! arguments -/
def aNil : DA := fun _ => some []
def aCons (f : DE) (g : DA) : DA := fun ρ => (f ρ).bind fun x => (g ρ).map fun r => x :: r
theorem a_nil : PA X [] (tDA K c aNil) := pa_nil.imp fun σ H Q ⟨G, ρ, d, s, sl, e, k⟩ => by
  cases e
  exact k [] G H (.refl s) rfl
theorem a_cons {f : DE} {g : DA} (ha : PE X e (tD K c f)) (hr : PA X es (tDA K c g)) (hs : starEach (e :: es) X.env = (false, eval e X.env) :: starEach es X.env := by rfl) : PA X (e :: es) (tDA K c (aCons f g)) := (pa_cons ha hr hs).imp fun σ H Q ⟨G, ρ, d, s, sl, e, k⟩ => by
  unfold aCons at e
  obtain ⟨x, ex, e⟩ := Option.bind_eq_some_iff.mp e
  obtain ⟨r, er, rfl⟩ := Option.map_eq_some_iff.mp e
  exact ⟨G, ρ, x, s, sl, ex, fun u G1 H1 g1 r1 => ⟨G1, ρ, r, g1.s, sl.step g1, er, fun vs G2 H2 g2 r2 => k (u :: vs) G2 H2 (g1.trans g2) ⟨u, vs, rfl, r1.mono g2.g, r2⟩⟩⟩
/-- displays -/
def dTup (g : DA) : DE := fun ρ => (g ρ).bind fun ds => if ds.length ≤ 100000 then some (.tup ds) else none
theorem line100 {n : Nat} (h : n ≤ 100000) : n ≤ sizeLine := Nat.le_trans h (by decide)
theorem d_tup {g : DA} {x1} (h : PA X es (tDA K c g)) : PE X (.Tuple es x1 pos) (tD K c (dTup g)) := (pe_tup h).imp fun σ H Q ⟨G, ρ, d, s, sl, e, k⟩ => by
  unfold dTup at e
  obtain ⟨ds, ed, e⟩ := Option.bind_eq_some_iff.mp e
  split at e
  · rename_i hl
    cases e
    exact ⟨G, ρ, ds, s, sl, ed, fun vs G1 H1 g1 r1 => ⟨by rw [r1.length]; exact line100 hl, fun p hp => k _ _ _ (g1.trans (.new g1.s hp True.intro)) ⟨p, vs, rfl, SqT.of upd_same, r1.mono (Same.new (g1.s.none hp))⟩⟩⟩
  · cases e
/-- a new list that nobody else has -/
abbrev DOw := Sl → Option (List D)
def tDo (K : PySem.W.Frag) (c : Cf) (f : DOw) : TE := fun σ H Q => ∃ G ρ ds, Sm c G H ∧ Slots K c G H ρ σ ∧ f ρ = some ds ∧ ∀ p vs G' H', Gr c G H G' H' → H p = none → G' p = none → H' p = some (.lst vs) → RepL K c G' ds vs → Q (.ref p) H'
def dO (f : DOw) : DE := fun ρ => (f ρ).map .lst
theorem Gr.take {G H G' H' : Hp} {p : Addr} {o : HO} (g : Gr c G H G' H') (n : H p = none) (m : G' p = none) (e : H' p = some o) (b : ∀ kvs, o ≠ .dT kvs := by intro _ h; cases h) : Gr c G H (upd G' p o) H' :=
  ⟨fun a u q => by rw [upd_ne (ne_of_none (g.g a u q) m)]; exact g.g a u q, g.h, g.d, g.m, ⟨fun a u q => by
    by_cases z : a = p
    · subst z; rw [upd_same] at q; cases q; exact e
    · rw [upd_ne z] at q; exact g.s a u q, c.imo _ _ _ (Same.new m) g.s.i, no_dT g.s.t b⟩, fun a u q z => by rw [upd_ne (ne_of_none q n)]; exact g.f a u q z⟩
theorem d_ofO {f : DOw} (h : PE X e (tDo K c f)) : PE X e (tD K c (dO f)) := h.imp fun σ H Q ⟨G, ρ, d, s, sl, e, k⟩ => by
  unfold dO at e
  obtain ⟨ds, e1, rfl⟩ := Option.map_eq_some_iff.mp e
  exact ⟨G, ρ, ds, s, sl, e1, fun p vs G' H' g n m q r => k (.ref p) _ H' (g.take n m q) ⟨p, vs, rfl, upd_same, r.mono (Same.new m)⟩⟩
def oLst (g : DA) : DOw := fun ρ => (g ρ).bind fun ds => if ds.length ≤ 100000 then some ds else none
theorem o_lst {g : DA} (h : PA X es (tDA K c g)) : PE X (.List es pos) (tDo K c (oLst g)) := (pe_lst h).imp fun σ H Q ⟨G, ρ, d, s, sl, e, k⟩ => by
  unfold oLst at e
  obtain ⟨ds, ed, e⟩ := Option.bind_eq_some_iff.mp e
  split at e
  · rename_i hl
    obtain rfl := Option.some.inj e
    exact ⟨G, ρ, _, s, sl, ed, fun vs G1 H1 g1 r1 => ⟨by rw [r1.length]; exact line100 hl, fun p hp => k p vs G1 _ (g1.trans (.add g1.s hp True.intro)) (g1.d p hp) (g1.s.none hp) upd_same r1⟩⟩
  · cases e
/-! calls of defs -/
def spD (K : PySem.W.Frag) (c : Cf) (n : Nat) (F : List D → Option D) : Sp := fun vs H Q _ => ∃ G ds d, Sm c G H ∧ RepL K c G ds vs ∧ ds.length = n ∧ F ds = some d ∧ ∀ v G' H', Gr c G H G' H' → Rep K c G' d v → Q v H'
/-- a def of the module keeps a promise -/
structure Cal (P : Program) (w : World) (K : PySem.W.Frag) (mg : Str → Option Value) (base : Heap) (x : Str) (k : Nat) (ps : List Str) (sp : Sp) : Prop where
  ex : ∃ f fd, mg x = some (.ref f) ∧ PySem.W.keepIn K (.ref f) = true ∧ Binds K fd ps [] ∧ FnOk P w K mg base CX0 k f fd ps sp
def dCall (n : Nat) (F : List D → Option D) (g : DA) : DE := fun ρ => (g ρ).bind fun ds => if ds.length = n then F ds else none
theorem d_call {x : Str} {k k' n : Nat} {ps : List Str} {F : List D → Option D} {g : DA} {p : Pos} (C : Cal X.prog X.w X.K X.mg X.base x k ps (spD K c n F)) (hr : Room k' X.A) (hk : k ≤ k') (ha : PA X (e :: es) (tDA K c g)) (hg : Gl X x := by rfl)
    (hdb : (x == ("__debug__" : Str)) = false := by decide) (he : starEach (e :: es) X.env = (false, eval e X.env) :: starEach es X.env := by rfl) (hpl : (backTo pos (starEach es X.env)).any (·.1) = false := by rfl) :
    PE X (.Call (.Name x p) (e :: es) [] pos) (tD K c (dCall n F g)) := by
  obtain ⟨f, fd, h1, h2, h3, h4⟩ := C.ex
  refine (pe_call h4 (hr.mono hk) hg h1 h2 h3 .nil pass0 ha hdb he hpl).imp fun σ H Q ⟨G, ρ, d, s, sl, e, k⟩ => ?_
  unfold dCall at e
  obtain ⟨ds, ed, e⟩ := Option.bind_eq_some_iff.mp e
  split at e
  · rename_i hl
    refine ⟨G, ρ, ds, s, sl, ed, fun vs G1 H1 g1 r1 => ?_⟩
    show spD K c n F (vs ++ []) H1 Q E0
    rw [List.append_nil]
    exact ⟨G1, ds, d, g1.s, r1, hl, e, fun v G' H' g2 r2 => k v G' H' (g1.trans g2) r2⟩
  · cases e
theorem d_call0 {x : Str} {k k' : Nat} {ps : List Str} {F : List D → Option D} {p : Pos} (C : Cal X.prog X.w X.K X.mg X.base x k ps (spD K c 0 F)) (hr : Room k' X.A) (hk : k ≤ k') (hg : Gl X x := by rfl)
    (hdb : (x == ("__debug__" : Str)) = false := by decide) : PE X (.Call (.Name x p) [] [] pos) (tD K c (dCall 0 F aNil)) := by
  obtain ⟨f, fd, h1, h2, h3, h4⟩ := C.ex
  refine (pe_call0 h4 (hr.mono hk) hg h1 h2 h3 .nil pass0 hdb).imp fun σ H Q ⟨G, ρ, d, s, sl, e, k⟩ => ?_
  exact ⟨G, [], d, s, rfl, rfl, e, k⟩
end
end DL
set_option maxRecDepth 100000
namespace DL
open PySem L2
section
variable {X : Cx} {K : PySem.W.Frag} {c : Cf} {e a b : Expr} {es : List Expr} {pos : Pos}
/-! ### operators by the data -/
def opAdd : D → D → Option D
  | .int i, .int j => some (.int (i + j))
  | .str x, .str y => if x.length + y.length ≤ 100000 then some (.str (x ++ y)) else none
  | .lst x, .lst y => if x.length + y.length ≤ 100000 then some (.lst (x ++ y)) else none
  | _, _ => none
def opSub : D → D → Option D
  | .int i, .int j => some (.int (i - j))
  | _, _ => none
def opMul : D → D → Option D
  | .int i, .int j => if (-(2 ^ 64) < i ∧ i < 2 ^ 64) ∨ (-(2 ^ 64) < j ∧ j < 2 ^ 64) then some (.int (i * j)) else none
  | .lst x, .int k => if -(2 ^ 63) ≤ k ∧ k < 2 ^ 63 ∧ x.length * k.toNat ≤ 100000 then some (.lst (List.replicate k.toNat x).flatten) else none
  | _, _ => none
def opFdiv : D → D → Option D
  | .int i, .int j => if 0 < j ∧ j < 1073741824 then some (.int (i / j)) else none
  | _, _ => none
def opMod : D → D → Option D
  | .int i, .int j => if 0 < j then some (.int (i % j)) else none
  | _, _ => none
def opPow : D → D → Option D
  | .int i, .int j => if 0 ≤ j ∧ j ≤ 1000000 ∧ i.natAbs < 2 ^ 64 then some (.int (i ^ j.toNat)) else none
  | _, _ => none
def opShl : D → D → Option D
  | .int i, .int j => if 0 ≤ j ∧ j ≤ 1000000 ∧ i.natAbs < 2 ^ 64 then some (.int (i * 2 ^ j.toNat)) else none
  | _, _ => none
def opShr : D → D → Option D
  | .int i, .int j => if 0 ≤ j then some (.int (i / 2 ^ j.toNat)) else none
  | _, _ => none
def opAnd : D → D → Option D
  | .int i, .int j => some (.int (Builtin.bitAnd i j))
  | _, _ => none
def opOr : D → D → Option D
  | .int i, .int j => some (.int (Builtin.bitOr i j))
  | _, _ => none
def opXor : D → D → Option D
  | .int i, .int j => some (.int (Builtin.bitXor i j))
  | _, _ => none
/-- ints in, a value without heap out -/
theorem opD_int {f : Value → Value → Sem Value} {C : Int → Int → Prop} {g : Int → Int → V} {h : Int → Int → D} {o : D → D → Option D} (ho : OpR X f (rI C g)) (hg : ∀ i j G, Rep K c G (h i j) (g i j))
    (hs : ∀ x y z, o x y = some z → ∃ i j, x = .int i ∧ y = .int j ∧ C i j ∧ z = h i j) : OpD X K c f o := by
  refine ⟨_, ho, fun x y z e G H u w Q s ru rw k => ?_⟩
  obtain ⟨i, j, rfl, rfl, hc, rfl⟩ := hs x y z e
  cases ru
  cases rw
  exact ⟨i, j, rfl, rfl, hc, k _ G H (.refl s) (hg i j G)⟩
theorem opD_int0 {f : Value → Value → Sem Value} {g : Int → Int → V} {h : Int → Int → D} {o : D → D → Option D} (ho : OpR X f (rI0 g)) (hg : ∀ i j G, Rep K c G (h i j) (g i j))
    (hs : ∀ x y z, o x y = some z → ∃ i j, x = .int i ∧ y = .int j ∧ z = h i j) : OpD X K c f o := by
  refine ⟨_, ho, fun x y z e G H u w Q s ru rw k => ?_⟩
  obtain ⟨i, j, rfl, rfl, rfl⟩ := hs x y z e
  cases ru
  cases rw
  exact ⟨i, j, rfl, rfl, k _ G H (.refl s) (hg i j G)⟩
theorem opD_sub : OpD X K c (binaryOp .Sub) opSub := opD_int0 (h := fun i j => .int (i - j)) op_sub (fun _ _ _ => rfl) fun x y z e => by
  unfold opSub at e; split at e
  · cases e; exact ⟨_, _, rfl, rfl, rfl⟩
  · cases e
theorem opD_and : OpD X K c (binaryOp .BitAnd) opAnd := opD_int0 (h := fun i j => .int (Builtin.bitAnd i j)) op_and (fun _ _ _ => rfl) fun x y z e => by
  unfold opAnd at e; split at e
  · cases e; exact ⟨_, _, rfl, rfl, rfl⟩
  · cases e
theorem opD_or : OpD X K c (binaryOp .BitOr) opOr := opD_int0 (h := fun i j => .int (Builtin.bitOr i j)) op_or (fun _ _ _ => rfl) fun x y z e => by
  unfold opOr at e; split at e
  · cases e; exact ⟨_, _, rfl, rfl, rfl⟩
  · cases e
theorem opD_xor : OpD X K c (binaryOp .BitXor) opXor := opD_int0 (h := fun i j => .int (Builtin.bitXor i j)) op_xor (fun _ _ _ => rfl) fun x y z e => by
  unfold opXor at e; split at e
  · cases e; exact ⟨_, _, rfl, rfl, rfl⟩
  · cases e
theorem opD_fdiv : OpD X K c (binaryOp .FloorDiv) opFdiv := opD_int (h := fun i j => .int (i / j)) op_fdiv (fun _ _ _ => rfl) fun x y z e => by
  unfold opFdiv at e; split at e
  · split at e
    · rename_i h; cases e; exact ⟨_, _, rfl, rfl, h, rfl⟩
    · cases e
  · cases e
theorem opD_mod : OpD X K c (binaryOp .Mod) opMod := opD_int (h := fun i j => .int (i % j)) op_mod (fun _ _ _ => rfl) fun x y z e => by
  unfold opMod at e; split at e
  · split at e
    · rename_i h; cases e; exact ⟨_, _, rfl, rfl, h, rfl⟩
    · cases e
  · cases e
theorem opD_pow : OpD X K c (binaryOp .Pow) opPow := opD_int (h := fun i j => .int (i ^ j.toNat)) op_pow (fun _ _ _ => rfl) fun x y z e => by
  unfold opPow at e; split at e
  · split at e
    · rename_i h; cases e; exact ⟨_, _, rfl, rfl, h, rfl⟩
    · cases e
  · cases e
theorem opD_shl : OpD X K c (binaryOp .LShift) opShl := opD_int (h := fun i j => .int (i * 2 ^ j.toNat)) op_shl (fun _ _ _ => rfl) fun x y z e => by
  unfold opShl at e; split at e
  · split at e
    · rename_i h; cases e; exact ⟨_, _, rfl, rfl, h, rfl⟩
    · cases e
  · cases e
theorem opD_shr : OpD X K c (binaryOp .RShift) opShr := opD_int (h := fun i j => .int (i / 2 ^ j.toNat)) op_shr (fun _ _ _ => rfl) fun x y z e => by
  unfold opShr at e; split at e
  · split at e
    · rename_i h; cases e; exact ⟨_, _, rfl, rfl, h, rfl⟩
    · cases e
  · cases e
theorem RepL0.flat {G : Hp} {ds : List D} {vs : List V} (h : RepL K c G ds vs) : ∀ k : Nat, RepL K c G (List.replicate k ds).flatten (List.replicate k vs).flatten
  | 0 => rfl
  | k + 1 => by
    rw [List.replicate_succ, List.replicate_succ, List.flatten_cons, List.flatten_cons]
    exact h.append (h.flat k)
theorem opD_mul : OpD X K c (binaryOp .Mult) opMul := by
  refine ⟨_, op_mul.or op_rep, fun x y z e G H u w Q s ru rw k => ?_⟩
  unfold opMul at e; split at e
  · split at e
    · rename_i i j h
      cases e; cases ru; cases rw
      exact .inl ⟨i, j, rfl, rfl, h, k _ G H (.refl s) rfl⟩
    · cases e
  · split at e
    · rename_i ds n h
      cases e; cases rw
      obtain ⟨p, vs, rfl, hp, r⟩ := ru
      refine .inr ⟨p, n, vs, rfl, rfl, s _ _ hp, h.1, h.2.1, by rw [r.length]; exact line100 h.2.2, fun q hq => k _ _ _ (.new s hq True.intro) ⟨q, _, rfl, upd_same, (r.flat n.toNat).mono (Same.new (s.none hq))⟩⟩
    · cases e
  · cases e
theorem opD_add : OpD X K c (binaryOp .Add) opAdd := by
  refine ⟨_, op_add.or (op_add_str.or op_cat), fun x y z e G H u w Q s ru rw k => ?_⟩
  unfold opAdd at e; split at e
  · cases e; cases ru; cases rw
    exact .inl ⟨_, _, rfl, rfl, k _ G H (.refl s) rfl⟩
  · split at e
    · rename_i h
      cases e; cases ru; cases rw
      exact .inr (.inl ⟨_, _, rfl, rfl, line100 h, k _ G H (.refl s) rfl⟩)
    · cases e
  · split at e
    · rename_i h
      cases e
      obtain ⟨p, vs, rfl, hp, r⟩ := ru
      obtain ⟨p', vs', rfl, hp', r'⟩ := rw
      refine .inr (.inr ⟨p, p', vs, vs', rfl, rfl, s _ _ hp, s _ _ hp', by rw [r.length, r'.length]; exact line100 h, fun q hq => k _ _ _ (.new s hq True.intro) ⟨q, _, rfl, upd_same, (r.append r').mono (Same.new (s.none hq))⟩⟩)
    · cases e
  · cases e
/-! comparisons -/
def opLt : D → D → Option D
  | .int i, .int j => some (.bl (decide (i < j)))
  | _, _ => none
def opLe : D → D → Option D
  | .int i, .int j => some (.bl (decide (i ≤ j)))
  | _, _ => none
def opGt : D → D → Option D
  | .int i, .int j => some (.bl (decide (j < i)))
  | _, _ => none
def opGe : D → D → Option D
  | .int i, .int j => some (.bl (decide (j ≤ i)))
  | _, _ => none
theorem opD_lt : OpD X K c (compareOp .Lt) opLt := opD_int0 (h := fun i j => .bl (decide (i < j))) op_lt (fun _ _ _ => rfl) fun x y z e => by
  unfold opLt at e; split at e
  · cases e; exact ⟨_, _, rfl, rfl, rfl⟩
  · cases e
theorem opD_le : OpD X K c (compareOp .LtE) opLe := opD_int0 (h := fun i j => .bl (decide (i ≤ j))) op_le (fun _ _ _ => rfl) fun x y z e => by
  unfold opLe at e; split at e
  · cases e; exact ⟨_, _, rfl, rfl, rfl⟩
  · cases e
theorem opD_gt : OpD X K c (compareOp .Gt) opGt := opD_int0 (h := fun i j => .bl (decide (j < i))) op_gt (fun _ _ _ => rfl) fun x y z e => by
  unfold opGt at e; split at e
  · cases e; exact ⟨_, _, rfl, rfl, rfl⟩
  · cases e
theorem opD_ge : OpD X K c (compareOp .GtE) opGe := opD_int0 (h := fun i j => .bl (decide (j ≤ i))) op_ge (fun _ _ _ => rfl) fun x y z e => by
  unfold opGe at e; split at e
  · cases e; exact ⟨_, _, rfl, rfl, rfl⟩
  · cases e
/-- data as the library's own data -/
def toP : D → Option PyData
  | .non => some .none
  | .bl b => some (.bool b)
  | .int i => some (.int i)
  | .str x => some (.str x)
  | .lst xs => (toPL xs).map PyData.list
  | .tup xs => (toPL xs).map PyData.tuple
  | .ins _ _ => none
  | .raw _ => none
  | .scr _ => none
  | .any => none
  | .fn _ => none
  | .dct _ _ => none
where toPL : List D → Option (List PyData)
  | [] => some []
  | d :: ds => match toP d, toPL ds with
    | some p, some ps => some (p :: ps)
    | _, _ => none
mutual
theorem toP_Dp {G : Hp} : ∀ {d : D} {v : V} {p : PyData}, Rep K c G d v → toP d = some p → Dp K G v p
  | .non, _, _, h, e => by cases h; unfold toP at e; cases e; exact .non
  | .bl b, _, _, h, e => by cases h; unfold toP at e; cases e; exact .bl b
  | .int i, _, _, h, e => by cases h; unfold toP at e; cases e; exact .int i
  | .str x, _, _, h, e => by cases h; unfold toP at e; cases e; exact .str x
  | .lst xs, _, _, h, e => by
    unfold toP at e
    obtain ⟨ps, e1, rfl⟩ := Option.map_eq_some_iff.mp e
    obtain ⟨p, vs, rfl, hp, r⟩ := h
    exact .lst (SqL.of hp) (toPL_Dp r e1)
  | .tup xs, _, _, h, e => by
    unfold toP at e
    obtain ⟨ps, e1, rfl⟩ := Option.map_eq_some_iff.mp e
    obtain ⟨p, vs, rfl, hp, r⟩ := h
    exact .tup hp (toPL_Dp r e1)
  | .ins _ _, _, _, _, e => by unfold toP at e; cases e
  | .raw _, _, _, _, e => by unfold toP at e; cases e
  | .scr _, _, _, _, e => by unfold toP at e; cases e
  | .any, _, _, _, e => by unfold toP at e; cases e
  | .fn _, _, _, _, e => by unfold toP at e; cases e
  | .dct _ _, _, _, _, e => by unfold toP at e; cases e
theorem toPL_Dp {G : Hp} : ∀ {ds : List D} {vs : List V} {ps : List PyData}, RepL K c G ds vs → toP.toPL ds = some ps → DpAll K G vs ps
  | [], _, _, h, e => by cases h; unfold toP.toPL at e; cases e; exact .nil
  | d :: ds, _, _, h, e => by
    obtain ⟨v, r, rfl, h1, h2⟩ := h
    unfold toP.toPL at e
    split at e
    · rename_i p ps e1 e2
      cases e
      exact .cons (toP_Dp h1 e1) (toPL_Dp h2 e2)
    · cases e
end
theorem Same.sqt {G H : Hp} {a : Addr} {xs : List V} (s : Same G H) (q : SqT K G a xs) : SqT K H a xs := by
  rcases q with (q | ⟨o, q⟩) | q
  · exact .inl (.inl (s _ _ q))
  · exact .inl (.inr ⟨o, s _ _ q⟩)
  · exact .inr q
def deepEq (x y : D) : Option Bool := match toP x, toP y with
  | some p, some q => if SeqAt.shaped p && SeqAt.shaped q then some (PyData.eqv p q) else none
  | _, _ => none
def eqD : D → D → Option Bool
  | .int i, .int j => some (decide (i = j))
  | .str x, .str y => some (decide (x = y))
  | .bl x, .bl y => some (decide (x = y))
  | .non, .non => some true
  | .int _, .non => some false
  | .non, .int _ => some false
  | .int _, .str _ => some false
  | .str _, .int _ => some false
  | x, y => deepEq x y
def opEq (x y : D) : Option D := (eqD x y).map .bl
def opNe (x y : D) : Option D := (eqD x y).map fun b => .bl (!b)
theorem eqD_cases {x y : D} {b : Bool} (h : eqD x y = some b) : (∀ G u w, Rep K c G x u → Rep K c G y w → scal u w = true ∧ decide (u = w) = b) ∨ ∃ p q, toP x = some p ∧ toP y = some q ∧ SeqAt.shaped p = true ∧ SeqAt.shaped q = true ∧ PyData.eqv p q = b := by
  unfold eqD at h
  split at h
  · cases h; exact .inl fun G u w r1 r2 => by cases r1; cases r2; exact ⟨rfl, by simp⟩
  · cases h; exact .inl fun G u w r1 r2 => by cases r1; cases r2; exact ⟨rfl, by simp⟩
  · cases h; exact .inl fun G u w r1 r2 => by cases r1; cases r2; exact ⟨rfl, by simp⟩
  · cases h; exact .inl fun G u w r1 r2 => by cases r1; cases r2; exact ⟨rfl, by simp⟩
  · cases h; exact .inl fun G u w r1 r2 => by cases r1; cases r2; exact ⟨rfl, by simp⟩
  · cases h; exact .inl fun G u w r1 r2 => by cases r1; cases r2; exact ⟨rfl, by simp⟩
  · cases h; exact .inl fun G u w r1 r2 => by cases r1; cases r2; exact ⟨rfl, by simp⟩
  · cases h; exact .inl fun G u w r1 r2 => by cases r1; cases r2; exact ⟨rfl, by simp⟩
  · unfold deepEq at h
    split at h
    · rename_i p q e1 e2
      split at h
      · rename_i z
        cases h
        rw [Bool.and_eq_true] at z
        exact .inr ⟨p, q, e1, e2, z.1, z.2, rfl⟩
      · cases h
    · cases h
theorem opD_eq {k : Nat} (hr : Room k X.A) : OpD X X.K c (compareOp .Eq) opEq := by
  refine ⟨_, op_eq.or (op_eqD hr.units), fun x y z e G H u w Q s ru rw kk => ?_⟩
  obtain ⟨b, e0, rfl⟩ := Option.map_eq_some_iff.mp e
  rcases eqD_cases (K := X.K) (c := c) e0 with h | ⟨p, q, e1, e2, s1, s2, e3⟩
  · obtain ⟨h1, h2⟩ := h G u w ru rw
    exact .inl ⟨h1, by rw [h2]; exact kk _ G H (.refl s) rfl⟩
  · exact .inr ⟨p, q, toP_Dp (ru.mono s) e1, toP_Dp (rw.mono s) e2, s1, s2, by rw [e3]; exact kk _ G H (.refl s) rfl⟩
theorem opD_ne {k : Nat} (hr : Room k X.A) : OpD X X.K c (compareOp .NotEq) opNe := by
  refine ⟨_, op_ne.or (op_neD hr.units), fun x y z e G H u w Q s ru rw kk => ?_⟩
  obtain ⟨b, e0, rfl⟩ := Option.map_eq_some_iff.mp e
  rcases eqD_cases (K := X.K) (c := c) e0 with h | ⟨p, q, e1, e2, s1, s2, e3⟩
  · obtain ⟨h1, h2⟩ := h G u w ru rw
    exact .inl ⟨h1, by rw [h2]; exact kk _ G H (.refl s) rfl⟩
  · exact .inr ⟨p, q, toP_Dp (ru.mono s) e1, toP_Dp (rw.mono s) e2, s1, s2, by rw [e3]; exact kk _ G H (.refl s) rfl⟩
/-- is None -/
def isNon : D → Option Bool
  | .non => some true
  | .raw _ => none
  | .any => none
  | _ => some false
def opIsN (x y : D) : Option D := match y with | .non => (isNon x).map .bl | _ => none
def opNotN (x y : D) : Option D := match y with | .non => (isNon x).map fun b => .bl (!b) | _ => none
theorem isNon_rep {G : Hp} {x : D} {u : V} {b : Bool} (h : isNon x = some b) (r : Rep K c G x u) : decide (u = .non) = b := by
  cases x with
  | non => cases r; cases h; rfl
  | bl _ => cases r; cases h; rfl
  | int _ => cases r; cases h; rfl
  | str _ => cases r; cases h; rfl
  | lst _ => obtain ⟨p, _, rfl, _⟩ := r; cases h; rfl
  | tup _ => obtain ⟨p, _, rfl, _⟩ := r; cases h; rfl
  | ins _ _ => obtain ⟨p, _, _, rfl, _⟩ := r; cases h; rfl
  | scr _ => obtain ⟨p, rfl, _⟩ := r; cases h; rfl
  | raw _ => cases h
  | any => cases h
  | fn _ => cases r; cases h; rfl
  | dct _ _ => obtain ⟨p, _, rfl, _⟩ := r; cases h; rfl
theorem opD_isN : OpD X K c (compareOp .Is) opIsN := by
  refine ⟨_, op_isN, fun x y z e G H u w Q s ru rw k => ?_⟩
  unfold opIsN at e; split at e
  · obtain ⟨b, e0, rfl⟩ := Option.map_eq_some_iff.mp e
    cases rw
    exact ⟨rfl, by rw [isNon_rep e0 ru]; exact k _ G H (.refl s) rfl⟩
  · cases e
theorem opD_notN : OpD X K c (compareOp .IsNot) opNotN := by
  refine ⟨_, op_notN, fun x y z e G H u w Q s ru rw k => ?_⟩
  unfold opNotN at e; split at e
  · obtain ⟨b, e0, rfl⟩ := Option.map_eq_some_iff.mp e
    cases rw
    exact ⟨rfl, by rw [isNon_rep e0 ru]; exact k _ G H (.refl s) rfl⟩
  · cases e
/-- in -/
def flatD : D → Bool
  | .non => true
  | .bl _ => true
  | .int _ => true
  | .str _ => true
  | _ => false
def eqF : D → D → Bool
  | .non, .non => true
  | .bl a, .bl b => a == b
  | .bl a, .int b => (if a then 1 else 0) == b
  | .int a, .bl b => a == (if b then 1 else 0)
  | .int a, .int b => a == b
  | .str a, .str b => a == b
  | _, _ => false
theorem flatD_rep {G : Hp} {x : D} {u : V} (h : flatD x = true) (r : Rep K c G x u) : flatV u = true := by
  cases x <;> first | cases h; done | (cases r; rfl)
theorem eqF_rep {G : Hp} {x y : D} {u w : V} (hx : flatD x = true) (hy : flatD y = true) (r : Rep K c G x u) (q : Rep K c G y w) : eqV u w = eqF x y := by
  cases x <;> first | cases hx; done | (cases r; cases y <;> first | cases hy; done | (cases q; rfl))
def inF (x : D) (ys : List D) : Bool := ys.any fun y => eqF y x
theorem allFlat {G : Hp} : ∀ {ds : List D} {vs : List V}, ds.all flatD = true → RepL K c G ds vs → vs.all flatV = true
  | [], _, _, h => by cases h; rfl
  | d :: ds, _, e, h => by
    obtain ⟨v, r, rfl, h1, h2⟩ := h
    rw [List.all_cons, Bool.and_eq_true] at e ⊢
    exact ⟨flatD_rep e.1 h1, allFlat e.2 h2⟩
theorem inF_rep {G : Hp} {x : D} {u : V} (hx : flatD x = true) (r : Rep K c G x u) : ∀ {ds : List D} {vs : List V}, ds.all flatD = true → RepL K c G ds vs → inV u vs = inF x ds
  | [], _, _, h => by cases h; rfl
  | d :: ds, _, e, h => by
    obtain ⟨v, rr, rfl, h1, h2⟩ := h
    rw [List.all_cons, Bool.and_eq_true] at e
    have ih := inF_rep hx r e.2 h2
    unfold inV inF at ih ⊢
    rw [List.any_cons, List.any_cons, ih, eqF_rep e.1 hx h1 r]
def inD (x y : D) : Option Bool := match x, y with
  | .str x, .str z => match x.cps.toList with | [k] => some (decide (k ∈ z.cps.toList)) | _ => none
  | x, .lst ys => if flatD x && ys.all flatD then some (inF x ys) else none
  | x, .tup ys => if flatD x && ys.all flatD then some (inF x ys) else none
  | _, _ => none
def opIn (x y : D) : Option D := (inD x y).map .bl
def opNotIn (x y : D) : Option D := (inD x y).map fun b => .bl (!b)
theorem one_str {x : Str} {k : Nat} (h : x.cps.toList = [k]) : x = ⟨#[k]⟩ := by
  obtain ⟨a⟩ := x
  have : a = #[k] := by
    apply Array.ext'
    simpa using h
  rw [this]
theorem inD_cases {x y : D} {b : Bool} {G : Hp} {u w : V} (h : inD x y = some b) (ru : Rep K c G x u) (rw : Rep K c G y w) : (∃ (k : Nat) (z : Str), u = .str ⟨#[k]⟩ ∧ w = .str z ∧ decide (k ∈ z.cps.toList) = b) ∨
    ∃ p xs, w = .ref p ∧ (SqL K G p xs ∨ SqT K G p xs) ∧ flatV u = true ∧ xs.all flatV = true ∧ inV u xs = b := by
  unfold inD at h
  split at h
  · cases ru; cases rw
    split at h
    · rename_i k e
      cases h
      exact .inl ⟨k, _, by rw [one_str e], rfl, rfl⟩
    · cases h
  · split at h
    · rename_i z
      cases h
      rw [Bool.and_eq_true] at z
      obtain ⟨p, vs, rfl, hp, r⟩ := rw
      exact .inr ⟨p, vs, rfl, .inl (SqL.of hp), flatD_rep z.1 ru, allFlat z.2 r, inF_rep z.1 ru z.2 r⟩
    · cases h
  · split at h
    · rename_i z
      cases h
      rw [Bool.and_eq_true] at z
      obtain ⟨p, vs, rfl, hp, r⟩ := rw
      exact .inr ⟨p, vs, rfl, .inr hp, flatD_rep z.1 ru, allFlat z.2 r, inF_rep z.1 ru z.2 r⟩
    · cases h
  · cases h
theorem Same.sq {G H : Hp} {p : Addr} {xs : List V} (s : Same G H) (h : SqL K G p xs ∨ SqT K G p xs) : SqL K H p xs ∨ SqT K H p xs := h.elim (fun q => .inl (s.seq q)) fun q => .inr (DL.Same.sqt s q)
theorem opD_in : OpD X X.K c (compareOp .In) opIn := by
  refine ⟨_, op_in_sign.or op_in_seq, fun x y z e G H u w Q s ru rw k => ?_⟩
  obtain ⟨b, e0, rfl⟩ := Option.map_eq_some_iff.mp e
  rcases inD_cases e0 ru rw with ⟨n, z, rfl, rfl, e⟩ | ⟨p, xs, rfl, h1, h2, h3, h4⟩
  · exact .inl ⟨n, z, rfl, rfl, by rw [e]; exact k _ G H (.refl s) rfl⟩
  · refine .inr ⟨p, xs, rfl, DL.Same.sq s.s h1, h2, h3, ?_⟩
    rw [if_neg Bool.false_ne_true, h4]
    exact k _ G H (.refl s) rfl
theorem opD_notIn : OpD X X.K c (compareOp .NotIn) opNotIn := by
  refine ⟨_, op_notIn_sign.or op_notIn_seq, fun x y z e G H u w Q s ru rw k => ?_⟩
  obtain ⟨b, e0, rfl⟩ := Option.map_eq_some_iff.mp e
  rcases inD_cases e0 ru rw with ⟨n, z, rfl, rfl, e⟩ | ⟨p, xs, rfl, h1, h2, h3, h4⟩
  · exact .inl ⟨n, z, rfl, rfl, by rw [e]; exact k _ G H (.refl s) rfl⟩
  · refine .inr ⟨p, xs, rfl, DL.Same.sq s.s h1, h2, h3, ?_⟩
    rw [if_pos rfl, h4]
    exact k _ G H (.refl s) rfl
/-! unary -/
def dNeg (f : DE) : DE := fun ρ => match f ρ with | some (.int i) => some (.int (-i)) | _ => none
theorem d_neg {f : DE} (ha : PE X a (tD K c f)) : PE X (.UnaryOp .USub a pos) (tD K c (dNeg f)) := (pe_un un_neg ha).imp fun σ H Q ⟨G, ρ, d, s, sl, e, k⟩ => by
  unfold dNeg at e
  split at e
  · rename_i i q
    cases e
    exact ⟨G, ρ, _, s, sl, q, fun v G1 H1 g1 r1 => ⟨i, r1, k _ G1 H1 g1 rfl⟩⟩
  · cases e
/-! items -/
def IxD (X : Cx) (c : Cf) (o : D → D → Option D) : Prop :=
  ∃ r, IxR X r ∧ ∀ x y z, o x y = some z → ∀ G H u w Q, Sm c G H → Rep X.K c G x u → Rep X.K c G y w → (∀ v G' H', Gr c G H G' H' → Rep X.K c G' z v → Q v H') → r u w H Q
def opIx : D → D → Option D
  | .lst xs, .int i => atI xs i
  | .tup xs, .int i => atI xs i
  | .scr ns, .int i => (atI ns i).map .int
  | .str z, .int i => if z.length ≤ 100000 then (atI z.cps.toList i).map fun k => .str ⟨#[k]⟩ else none
  | _, _ => none
theorem RepL0.atI {G : Hp} {ds : List D} {vs : List V} {i : Int} {d : D} (r : RepL K c G ds vs) (h : L2.atI ds i = some d) : ∃ v, L2.atI vs i = some v ∧ Rep K c G d v := by
  unfold L2.atI at h ⊢
  obtain ⟨j, e1, e2⟩ := Option.bind_eq_some_iff.mp h
  obtain ⟨v, e3, q⟩ := r.get e2
  exact ⟨v, by rw [r.length, e1]; exact e3, q⟩
theorem atI_map {α β : Type} {xs : List α} {i : Int} {f : α → β} : L2.atI (xs.map f) i = (L2.atI xs i).map f := by
  unfold L2.atI
  rw [List.length_map]
  cases L2.ixN xs.length i with
  | none => rfl
  | some j => simp
theorem ixD_seq : IxD X c opIx := by
  refine ⟨_, ix_seq, fun x y z e G H u w Q s ru rw k => ?_⟩
  unfold opIx at e; split at e
  · obtain ⟨p, vs, rfl, hp, r⟩ := ru
    cases rw
    obtain ⟨v, h1, h2⟩ := r.atI e
    exact .inl ⟨p, vs, _, v, rfl, rfl, SqL.of (s _ _ hp), h1, k v G H (.refl s) h2⟩
  · obtain ⟨p, vs, rfl, hp, r⟩ := ru
    cases rw
    obtain ⟨v, h1, h2⟩ := r.atI e
    exact .inr (.inl ⟨p, vs, _, v, rfl, rfl, DL.Same.sqt s.s hp, h1, k v G H (.refl s) h2⟩)
  · obtain ⟨p, rfl, hp⟩ := ru
    cases rw
    obtain ⟨n, e1, rfl⟩ := Option.map_eq_some_iff.mp e
    exact .inl ⟨p, _, _, .int n, rfl, rfl, s.seq hp, by rw [atI_map, e1]; rfl, k _ G H (.refl s) rfl⟩
  · cases ru
    cases rw
    split at e
    · rename_i hz
      obtain ⟨n, e1, rfl⟩ := Option.map_eq_some_iff.mp e
      exact .inr (.inr ⟨_, _, n, rfl, rfl, line100 hz, e1, k _ G H (.refl s) rfl⟩)
    · cases e
  · cases e
theorem d_ix {f g : DE} (ha : PE X a (tD X.K c f)) (hb : PE X b (tD X.K c g)) (hs : PlainIx b := by exact fun _ _ => rfl) : PE X (.Subscript a b pos) (tD X.K c (dOp opIx f g)) := by
  obtain ⟨r, h1, h2⟩ := ixD_seq (X := X) (c := c)
  exact (pe_ix h1 ha hb hs).imp (dOp_step h2)
/-! slices -/
abbrev DO := Sl → Option (Option Int)
def tDO (K : PySem.W.Frag) (c : Cf) (f : DO) : TO := fun σ H Q => ∃ G ρ o, Sm c G H ∧ Slots K c G H ρ σ ∧ f ρ = some o ∧ ∀ G' H', Gr c G H G' H' → Q o H'
def oNone : DO := fun _ => some none
def oSome (f : DE) : DO := fun ρ => match f ρ with | some (.int i) => some (some i) | _ => none
theorem _root_.L2.PO.imp {oe : Option Expr} {t t' : TO} (h : PO X oe t) (i : ∀ σ H Q, t' σ H Q → t σ H Q) : PO X oe t' := ⟨fun pins s σ H Q I q => h.run pins s σ H Q I (i σ H Q q)⟩
theorem o_none : PO X none (tDO K c oNone) := po_none.imp fun σ H Q ⟨G, ρ, o, s, sl, e, k⟩ => by cases e; exact k G H (.refl s)
theorem o_some {f : DE} (h : PE X e (tD K c f)) : PO X (some e) (tDO K c (oSome f)) := (po_some h).imp fun σ H Q ⟨G, ρ, o, s, sl, e, k⟩ => by
  unfold oSome at e
  split at e
  · rename_i i q
    cases e
    exact ⟨G, ρ, _, s, sl, q, fun v G1 H1 g1 r1 => ⟨i, r1, k G1 H1 g1⟩⟩
  · cases e
def cutD (xs : List D) (lo hi : Option Int) : List D := (xs.drop (HT.sIx xs.length 0 lo)).take (HT.sIx xs.length xs.length hi - HT.sIx xs.length 0 lo)
theorem RepL0.cut {G : Hp} {ds : List D} {vs : List V} (r : RepL K c G ds vs) (lo hi : Option Int) : RepL K c G (cutD ds lo hi) (cutV vs lo hi) := by
  unfold cutD cutV
  rw [r.length]
  exact (r.drop _).take _
def opSl (x : D) (lo hi : Option Int) : Option D := match x with
  | .lst xs => some (.lst (cutD xs lo hi))
  | .tup xs => if HT.sIx xs.length 0 lo = 0 ∧ HT.sIx xs.length xs.length hi = xs.length then none else some (.tup (cutD xs lo hi))
  | .str z => if z.length ≤ 100000 then some (.str (cutS z lo hi)) else none
  | _ => none
def dSl (f : DE) (lo hi : DO) : DE := fun ρ => (f ρ).bind fun x => (lo ρ).bind fun l => (hi ρ).bind fun h => opSl x l h
theorem d_slice {lo hi : Option Expr} {p2 : Pos} {f : DE} {fl fh : DO} (ha : PE X a (tD X.K c f)) (hl : PO X lo (tDO X.K c fl)) (hh : PO X hi (tDO X.K c fh)) : PE X (.Subscript a (.Slice lo hi none p2) pos) (tD X.K c (dSl f fl fh)) :=
  (pe_slice (sl_list.or (sl_tup.or sl_str)) ha hl hh).imp fun σ H Q ⟨G, ρ, d, s, sl, e, k⟩ => by
    unfold dSl at e
    obtain ⟨x, ex, e⟩ := Option.bind_eq_some_iff.mp e
    obtain ⟨l, el, e⟩ := Option.bind_eq_some_iff.mp e
    obtain ⟨h, eh, e⟩ := Option.bind_eq_some_iff.mp e
    refine ⟨G, ρ, x, s, sl, ex, fun u G1 H1 g1 r1 => ⟨G1, ρ, l, g1.s, sl.step g1, el, fun G2 H2 g2 => ⟨G2, ρ, h, g2.s, sl.step (g1.trans g2), eh, fun G3 H3 g3 => ?_⟩⟩⟩
    have r3 := (r1.mono g2.g).mono g3.g
    have kk := fun v G' H' (g : Gr c G3 H3 G' H') r => k v G' H' (((g1.trans g2).trans g3).trans g) r
    unfold opSl at e
    split at e
    · cases e
      obtain ⟨p, vs, rfl, hp, r⟩ := r3
      exact .inl ⟨p, vs, rfl, SqL.of (g3.s _ _ hp), fun q hq => kk _ _ _ (.new g3.s hq True.intro) ⟨q, _, rfl, upd_same, (r.cut l h).mono (Same.new (g3.s.none hq))⟩⟩
    · split at e
      · cases e
      · rename_i hw
        cases e
        obtain ⟨p, vs, rfl, hp, r⟩ := r3
        refine .inr (.inl ⟨p, vs, rfl, DL.Same.sqt g3.s.s hp, by rw [r.length]; exact hw, fun q hq => kk _ _ _ (.new g3.s hq True.intro) ⟨q, _, rfl, SqT.of upd_same, (r.cut l h).mono (Same.new (g3.s.none hq))⟩⟩)
    · split at e
      · rename_i hz
        cases e
        cases r3
        exact .inr (.inr ⟨_, rfl, line100 hz, kk _ _ _ (.refl g3.s) rfl⟩)
      · cases e
    · cases e
end
end DL
set_option maxRecDepth 100000
namespace DL
open PySem L2
section
variable {X : Cx} {K : PySem.W.Frag} {c : Cf} {e a b : Expr} {es : List Expr} {pos : Pos}
/-! ### attributes -/
theorem lookup_zip : ∀ {ns : List Str} {vs : List V} {f : Str} {i : Nat} {v : V}, ns.Nodup → ns[i]? = some f → vs[i]? = some v → (ns.zip vs).lookup f = some v
  | [], _, _, _, _, _, h, _ => by simp at h
  | _ :: _, [], _, _, _, _, _, h => by simp at h
  | n :: ns, w :: vs, f, 0, v, _, h1, h2 => by
    simp at h1 h2
    subst h1; subst h2
    rw [List.zip_cons_cons, List.lookup_cons]
    simp
  | n :: ns, w :: vs, f, i + 1, v, hn, h1, h2 => by
    have hm : f ∈ ns := List.mem_of_getElem? (by simpa using h1)
    have hne : n ≠ f := fun z => by subst z; exact (List.nodup_cons.mp hn).1 hm
    rw [List.zip_cons_cons, List.lookup_cons]
    have hb : (f == n) = false := beq_eq_false_iff_ne.mpr (Ne.symm hne)
    rw [hb]
    exact lookup_zip (List.nodup_cons.mp hn).2 (by simpa using h1) (by simpa using h2)
theorem lookup_zip_none : ∀ {ns : List Str} {vs : List V} {f : Str}, f ∉ ns → (ns.zip vs).lookup f = none
  | [], _, _, _ => rfl
  | _ :: _, [], _, _ => rfl
  | n :: ns, w :: vs, f, h => by
    rw [List.mem_cons, not_or] at h
    rw [List.zip_cons_cons, List.lookup_cons]
    have hb : (f == n) = false := beq_eq_false_iff_ne.mpr h.1
    rw [hb]
    exact lookup_zip_none h.2
/-- an attribute by its place, class by class -/
def FldOk (K : PySem.W.Frag) (c : Cf) (f : Str) (att : Nat → Option Nat) : Prop := ∀ n i, att n = some i → Cls K (c.cl n) ∧ NoAttr K (c.cl n) f ∧ (c.nm n).Nodup ∧ (c.nm n)[i]? = some f
def dFld (att : Nat → Option Nat) (f : DE) : DE := fun ρ => match f ρ with
  | some (.ins n fs) => (att n).bind fun i => fs[i]?
  | _ => none
theorem d_fld {f : Str} {att : Nat → Option Nat} {g : DE} (h : FldOk X.K c f att) (he : PE X e (tD X.K c g)) (hb : attributeBase e f X.env (eval e X.env) = eval e X.env := by rfl) : PE X (.Attribute e f pos) (tD X.K c (dFld att g)) :=
  (pe_fld he hb).imp fun σ H Q ⟨G, ρ, d, s, sl, e, k⟩ => by
    unfold dFld at e
    split at e
    · rename_i n fs q
      obtain ⟨i, e1, e2⟩ := Option.bind_eq_some_iff.mp e
      obtain ⟨h1, h2, h3, h4⟩ := h n i e1
      refine ⟨G, ρ, _, s, sl, q, fun v G1 H1 g1 r1 => ?_⟩
      obtain ⟨p, dx, vs, rfl, hp, hl, r⟩ := r1
      obtain ⟨v, h5, h6⟩ := r.get e2
      exact ⟨p, _, dx, _, v, rfl, g1.s _ _ hp, h1, h2, lookup_zip h3 h4 h5, k v G1 H1 g1 h6⟩
    · cases e
/-! ### methods by the class -/
structure MCal (P : Program) (w : World) (K : PySem.W.Frag) (mg : Str → Option Value) (base : Heap) (c : Cf) (m : Str) (k n : Nat) (tbl : Nat → Option (List D → Option D)) : Prop where
  ex : ∀ i F, tbl i = some F → ∃ f fd ps, Cls K (c.cl i) ∧ Meth K (c.cl i) m f ∧ Binds K fd ps [] ∧ FnOk P w K mg base CX0 k f fd ps (spD K c (n + 1) F) ∧ m ∉ c.nm i
def dMeth (n : Nat) (tbl : Nat → Option (List D → Option D)) (f : DE) (g : DA) : DE := fun ρ => (f ρ).bind fun x => (g ρ).bind fun ds => if ds.length = n then match x with
  | .ins i _ => (tbl i).bind fun F => F (x :: ds)
  | _ => none else none
theorem d_meth {o : Expr} {m : Str} {k k' n : Nat} {tbl : Nat → Option (List D → Option D)} {f : DE} {g : DA} {apos : Pos} {pl : Sem Bool} (C : MCal X.prog X.w X.K X.mg X.base c m k n tbl) (hr : Room k' X.A) (hk : k ≤ k') (ho : PE X o (tD X.K c f)) (ha : PA X (e :: es) (tDA X.K c g))
    (hst : starEach (e :: es) X.env = (false, eval e X.env) :: starEach es X.env := by rfl) (hpl : (backTo pos (starEach es X.env)).any (·.1) = false := by rfl)
    (ht : eval (.Call (.Attribute o m apos) (e :: es) [] pos) X.env = (do
      let ov ← eval o X.env
      standAt apos.atName
      let (f, first) ← holding [ov] (getMethod ov m pl)
      callWith pos f first (backTo pos (starEach (e :: es) X.env)) (backToKw pos (keywordEach [] X.env))) := by rfl) :
    PE X (.Call (.Attribute o m apos) (e :: es) [] pos) (tD X.K c (dMeth n tbl f g)) := by
  refine ⟨fun pins s σ H Q I h => ?_⟩
  obtain ⟨G, ρ, d, sm, sl, ed, kk⟩ := h
  unfold dMeth at ed
  obtain ⟨x, ex, ed⟩ := Option.bind_eq_some_iff.mp ed
  obtain ⟨ds, eds, ed⟩ := Option.bind_eq_some_iff.mp ed
  split at ed
  · rename_i hl
    split at ed
    · rename_i i fs _
      obtain ⟨F, eF, ed⟩ := Option.bind_eq_some_iff.mp ed
      obtain ⟨fa, fd, ps, h1, h2, h3, h4, h5⟩ := C.ex i F eF
      refine PySem.W.methodCall_KW (pl := pl) (thn (ho.run pins s σ H (fun v H1 => ∃ G1, Gr c G H G1 H1 ∧ Rep X.K c G1 (.ins i fs) v) I ⟨G, ρ, _, sm, sl, ex, fun v G1 H1 g1 r1 => ⟨G1, g1, r1⟩⟩) fun u s1 ⟨v, H1, I1, rx, G1, g1, r1⟩ => ?_) ht
      have r1' := r1
      obtain ⟨p, dx, vs, rfl, hp, hlen, r⟩ := r1
      obtain rfl : u = Value.ref p := rx
      refine getmeth_ok I1 (g1.s _ _ hp) h1 h2 (lookup_zip_none h5) ?_
      refine PySem.W.callWith_K (first := [.ref p]) (h₀ := X.base) I.ok.mod.kin h2.kp (thn (ha.run pos pins s1 σ H1 (fun us H2 => ∃ G2, Gr c G1 H1 G2 H2 ∧ RepL X.K c G2 ds us) I1 ⟨G1, ρ, ds, g1.s, sl.step g1, eds, fun us G2 H2 g2 r2 => ⟨G2, g2, r2⟩⟩) fun us s2 ⟨vs2, H2, I2, rr, G2, g2, r2⟩ => ⟨I2.kIn, ?_⟩) hst hpl
      refine run_fn (us := .ref p :: us) (vs := .ref p :: vs2) h4 (hr.mono hk) h3 .nil pass0 I2 (.cons rfl rr) ?_
      rw [List.append_nil]
      exact ⟨G2, .ins i fs :: ds, d, g2.s, ⟨_, _, rfl, r1'.mono g2.g, r2⟩, by simp [hl], ed, fun v G' H' g3 r3 => kk v G' H' ((g1.trans g2).trans g3) r3⟩
    · cases ed
  · cases ed
theorem d_meth0 {o : Expr} {m : Str} {k k' : Nat} {tbl : Nat → Option (List D → Option D)} {f : DE} {apos : Pos} {pl : Sem Bool} (C : MCal X.prog X.w X.K X.mg X.base c m k 0 tbl) (hr : Room k' X.A) (hk : k ≤ k') (ho : PE X o (tD X.K c f))
    (ht : eval (.Call (.Attribute o m apos) [] [] pos) X.env = (do
      let ov ← eval o X.env
      standAt apos.atName
      let (f, first) ← holding [ov] (getMethod ov m pl)
      callWith pos f first (backTo pos (starEach [] X.env)) (backToKw pos (keywordEach [] X.env))) := by rfl) :
    PE X (.Call (.Attribute o m apos) [] [] pos) (tD X.K c (dMeth 0 tbl f aNil)) := by
  refine ⟨fun pins s σ H Q I h => ?_⟩
  obtain ⟨G, ρ, d, sm, sl, ed, kk⟩ := h
  unfold dMeth at ed
  obtain ⟨x, ex, ed⟩ := Option.bind_eq_some_iff.mp ed
  obtain ⟨ds, eds, ed⟩ := Option.bind_eq_some_iff.mp ed
  cases eds
  split at ed
  · split at ed
    · rename_i i fs _
      obtain ⟨F, eF, ed⟩ := Option.bind_eq_some_iff.mp ed
      obtain ⟨fa, fd, ps, h1, h2, h3, h4, h5⟩ := C.ex i F eF
      refine PySem.W.methodCall_KW (pl := pl) (thn (ho.run pins s σ H (fun v H1 => ∃ G1, Gr c G H G1 H1 ∧ Rep X.K c G1 (.ins i fs) v) I ⟨G, ρ, _, sm, sl, ex, fun v G1 H1 g1 r1 => ⟨G1, g1, r1⟩⟩) fun u s1 ⟨v, H1, I1, rx, G1, g1, r1⟩ => ?_) ht
      have r1' := r1
      obtain ⟨p, dx, vs, rfl, hp, hlen, r⟩ := r1
      obtain rfl : u = Value.ref p := rx
      refine getmeth_ok I1 (g1.s _ _ hp) h1 h2 (lookup_zip_none h5) ?_
      refine PySem.W.callWith_K0 (first := [.ref p]) I1.kIn h2.kp ?_
      refine run_fn (us := [.ref p]) (vs := [.ref p]) h4 (hr.mono hk) h3 .nil pass0 I1 (.cons rfl .nil) ?_
      rw [List.append_nil]
      exact ⟨G1, [.ins i fs], d, g1.s, ⟨_, _, rfl, r1', rfl⟩, rfl, ed, fun v G' H' g3 r3 => kk v G' H' (g1.trans g3) r3⟩
    · cases ed
  · cases ed
end
end DL
set_option maxRecDepth 100000
namespace DL
open PySem L2
section
variable {X : Cx} {K : PySem.W.Frag} {c : Cf} {e a b : Expr} {es : List Expr} {pos : Pos}
/-! ### builtins by values -/
def BuD (X : Cx) (c : Cf) (f : Value) (F : List D → Option D) : Prop :=
  ∃ r, CallR X f r ∧ ∀ ds d, F ds = some d → ∀ G H vs Q, Sm c G H → RepL X.K c G ds vs → (∀ v G' H', Gr c G H G' H' → Rep X.K c G' d v → Q v H') → r vs H Q
/-- .. that give a new list -/
def BuO (X : Cx) (c : Cf) (f : Value) (F : List D → Option (List D)) : Prop :=
  ∃ r, CallR X f r ∧ ∀ ds d, F ds = some d → ∀ G H vs Q, Sm c G H → RepL X.K c G ds vs → (∀ p vs' G' H', Gr c G H G' H' → H p = none → G' p = none → H' p = some (.lst vs') → RepL X.K c G' d vs' → Q (.ref p) H') → r vs H Q
def dBu (F : List D → Option D) (g : DA) : DE := fun ρ => (g ρ).bind F
def oBu (F : List D → Option (List D)) (g : DA) : DOw := fun ρ => (g ρ).bind F
theorem d_callB {id : String} {F : List D → Option D} {g : DA} {x : Str} {p : Pos} (hB : BuD X c (.builtin id) F) (hm : X.mg x = none) (ha : PA X (e :: es) (tDA X.K c g)) (hv : bootBuiltins x = some (.builtin id) := by decide +kernel) (hg : Gl X x := by rfl)
    (hn : x ≠ "__name__" := by decide) (hdb : (x == ("__debug__" : Str)) = false := by decide) (he : starEach (e :: es) X.env = (false, eval e X.env) :: starEach es X.env := by rfl) (hpl : (backTo pos (starEach es X.env)).any (·.1) = false := by rfl) :
    PE X (.Call (.Name x p) (e :: es) [] pos) (tD X.K c (dBu F g)) := by
  obtain ⟨r, h1, h2⟩ := hB
  refine (pe_callB h1 hg hm hv ha hn hdb he hpl).imp fun σ H Q ⟨G, ρ, d, s, sl, e, k⟩ => ?_
  unfold dBu at e
  obtain ⟨ds, ed, e⟩ := Option.bind_eq_some_iff.mp e
  exact ⟨G, ρ, ds, s, sl, ed, fun vs G1 H1 g1 r1 => h2 ds d e G1 H1 vs Q g1.s r1 fun v G' H' g2 r2 => k v G' H' (g1.trans g2) r2⟩
theorem d_callTy {T : String} {F : List D → Option D} {g : DA} {x : Str} {p : Pos} (hB : BuD X c (.type T) F) (hm : X.mg x = none) (ha : PA X (e :: es) (tDA X.K c g)) (hv : bootBuiltins x = some (.type T) := by decide +kernel) (hg : Gl X x := by rfl)
    (hn : x ≠ "__name__" := by decide) (hdb : (x == ("__debug__" : Str)) = false := by decide) (he : starEach (e :: es) X.env = (false, eval e X.env) :: starEach es X.env := by rfl) (hpl : (backTo pos (starEach es X.env)).any (·.1) = false := by rfl) :
    PE X (.Call (.Name x p) (e :: es) [] pos) (tD X.K c (dBu F g)) := by
  obtain ⟨r, h1, h2⟩ := hB
  refine (pe_callTy h1 hg hm hv ha hn hdb he hpl).imp fun σ H Q ⟨G, ρ, d, s, sl, e, k⟩ => ?_
  unfold dBu at e
  obtain ⟨ds, ed, e⟩ := Option.bind_eq_some_iff.mp e
  exact ⟨G, ρ, ds, s, sl, ed, fun vs G1 H1 g1 r1 => h2 ds d e G1 H1 vs Q g1.s r1 fun v G' H' g2 r2 => k v G' H' (g1.trans g2) r2⟩
theorem o_callTy {T : String} {F : List D → Option (List D)} {g : DA} {x : Str} {p : Pos} (hB : BuO X c (.type T) F) (hm : X.mg x = none) (ha : PA X (e :: es) (tDA X.K c g)) (hv : bootBuiltins x = some (.type T) := by decide +kernel) (hg : Gl X x := by rfl)
    (hn : x ≠ "__name__" := by decide) (hdb : (x == ("__debug__" : Str)) = false := by decide) (he : starEach (e :: es) X.env = (false, eval e X.env) :: starEach es X.env := by rfl) (hpl : (backTo pos (starEach es X.env)).any (·.1) = false := by rfl) :
    PE X (.Call (.Name x p) (e :: es) [] pos) (tDo X.K c (oBu F g)) := by
  obtain ⟨r, h1, h2⟩ := hB
  refine (pe_callTy h1 hg hm hv ha hn hdb he hpl).imp fun σ H Q ⟨G, ρ, d, s, sl, e, k⟩ => ?_
  unfold oBu at e
  obtain ⟨ds, ed, e⟩ := Option.bind_eq_some_iff.mp e
  exact ⟨G, ρ, ds, s, sl, ed, fun vs G1 H1 g1 r1 => h2 ds d e G1 H1 vs Q g1.s r1 fun p vs' G' H' g2 n m q r2 => k p vs' G' H' (g1.trans g2) (g1.d p n) m q r2⟩
/-- ints of a list -/
def asInts : List D → Option (List Int)
  | [] => some []
  | .int i :: ds => (asInts ds).map (i :: ·)
  | _ => none
theorem asInts_rep {G : Hp} : ∀ {ds : List D} {ns : List Int} {vs : List V}, asInts ds = some ns → RepL K c G ds vs → vs = ns.map V.int
  | [], _, _, e, h => by cases e; cases h; rfl
  | d :: ds, ns, _, e, h => by
    obtain ⟨v, r, rfl, h1, h2⟩ := h
    unfold asInts at e
    split at e
    · rename_i z; cases z
    · rename_i i ds' z
      cases z
      obtain ⟨ms, e1, rfl⟩ := Option.map_eq_some_iff.mp e
      cases h1
      rw [asInts_rep e1 h2]
      rfl
    · cases e
theorem asInts_map (ns : List Int) : asInts (ns.map D.int) = some ns := by
  induction ns with
  | nil => rfl
  | cons n ns ih => rw [List.map_cons]; unfold asInts; rw [ih]; rfl
def asStrs : List D → Option (List Str)
  | [] => some []
  | .str i :: ds => (asStrs ds).map (i :: ·)
  | _ => none
theorem asStrs_rep {G : Hp} : ∀ {ds : List D} {ns : List Str} {vs : List V}, asStrs ds = some ns → RepL K c G ds vs → vs = ns.map V.str
  | [], _, _, e, h => by cases e; cases h; rfl
  | d :: ds, ns, _, e, h => by
    obtain ⟨v, r, rfl, h1, h2⟩ := h
    unfold asStrs at e
    split at e
    · rename_i z; cases z
    · rename_i i ds' z
      cases z
      obtain ⟨ms, e1, rfl⟩ := Option.map_eq_some_iff.mp e
      cases h1
      rw [asStrs_rep e1 h2]
      rfl
    · cases e
theorem asStrs_map (ns : List Str) : asStrs (ns.map D.str) = some ns := by
  induction ns with
  | nil => rfl
  | cons n ns ih => rw [List.map_cons]; unfold asStrs; rw [ih]; rfl
theorem RepL0.strs {G : Hp} : ∀ ys : List Str, RepL K c G (ys.map D.str) (ys.map V.str)
  | [] => rfl
  | y :: ys => ⟨.str y, ys.map V.str, rfl, rfl, RepL0.strs ys⟩
theorem RepL0.ints {G : Hp} : ∀ ys : List Int, RepL K c G (ys.map D.int) (ys.map V.int)
  | [] => rfl
  | y :: ys => ⟨.int y, ys.map V.int, rfl, rfl, RepL0.ints ys⟩
theorem RepL0.of1 {G : Hp} {d : D} {vs : List V} (h : RepL K c G [d] vs) : ∃ v, vs = [v] ∧ Rep K c G d v := by
  obtain ⟨v, r, rfl, h1, h2⟩ := h
  cases h2
  exact ⟨v, rfl, h1⟩
theorem RepL0.of2 {G : Hp} {d e : D} {vs : List V} (h : RepL K c G [d, e] vs) : ∃ v u, vs = [v, u] ∧ Rep K c G d v ∧ Rep K c G e u := by
  obtain ⟨v, r, rfl, h1, u, r2, rfl, h2, h3⟩ := h
  cases h3
  exact ⟨v, u, rfl, h1, h2⟩
def bLen : List D → Option D
  | [.lst xs] => some (.int xs.length)
  | [.tup xs] => some (.int xs.length)
  | [.scr xs] => some (.int xs.length)
  | [.str z] => if z.length ≤ 100000 then some (.int z.length) else none
  | _ => none
theorem bu_len : BuD X c (.builtin "len") bLen := by
  refine ⟨_, call_len, fun ds d e G H vs Q s r k => ?_⟩
  unfold bLen at e
  split at e
  · cases e
    obtain ⟨v, rfl, p, us, rfl, hp, hr⟩ := r.of1
    exact ⟨_, us.length, rfl, .inl ⟨us, SqL.of (s _ _ hp), rfl⟩, k _ G H (.refl s) (by rw [hr.length]; rfl)⟩
  · cases e
    obtain ⟨v, rfl, p, us, rfl, hp, hr⟩ := r.of1
    exact ⟨_, us.length, rfl, .inr ⟨us, DL.Same.sqt s.s hp, rfl⟩, k _ G H (.refl s) (by rw [hr.length]; rfl)⟩
  · cases e
    obtain ⟨v, rfl, p, rfl, hp⟩ := r.of1
    exact ⟨_, _, rfl, .inl ⟨_, s.seq hp, rfl⟩, k _ G H (.refl s) (by rw [List.length_map]; rfl)⟩
  · split at e
    · rename_i hz
      cases e
      obtain ⟨v, rfl, h1⟩ := r.of1
      cases h1
      exact ⟨_, _, rfl, ⟨line100 hz, rfl⟩, k _ G H (.refl s) rfl⟩
    · cases e
  · cases e
def bStr : List D → Option D
  | [.int i] => if i.natAbs.log2 < 1920 then some (.str (toString i)) else none
  | _ => none
theorem bu_str : BuD X c (.type "str") bStr := by
  refine ⟨_, call_str_int, fun ds d e G H vs Q s r k => ?_⟩
  unfold bStr at e
  split at e
  · split at e
    · rename_i i hz
      cases e
      obtain ⟨v, rfl, h1⟩ := r.of1
      cases h1
      exact ⟨i, rfl, hz, k _ G H (.refl s) rfl⟩
    · cases e
  · cases e
theorem CallR.or {f : Value} {r r' : List V → Hp → VK → Prop} (h : CallR X f r) (h' : CallR X f r') : CallR X f (fun xs H Q => r xs H Q ∨ r' xs H Q) := by
  intro pins s σ H xs us Q I r1 q
  rcases q with q | q
  · exact h pins s σ H xs us Q I r1 q
  · exact h' pins s σ H xs us Q I r1 q
def bInt : List D → Option D
  | [.int i] => some (.int i)
  | [.bl k] => some (.int (if k then 1 else 0))
  | [.str x] => if x.length ≤ 640 then (PySem.intText? x).map .int else none
  | _ => none
theorem bu_int : BuD X c (.type "int") bInt := by
  refine ⟨_, DL.CallR.or call_int1 call_int_str, fun ds d e G H vs Q s r k => ?_⟩
  unfold bInt at e
  split at e
  · cases e
    obtain ⟨v, rfl, h1⟩ := r.of1
    cases h1
    exact .inl (.inl ⟨_, rfl, k _ G H (.refl s) rfl⟩)
  · cases e
    obtain ⟨v, rfl, h1⟩ := r.of1
    cases h1
    exact .inl (.inr ⟨_, rfl, k _ G H (.refl s) rfl⟩)
  · split at e
    · rename_i hz
      obtain ⟨n, e1, rfl⟩ := Option.map_eq_some_iff.mp e
      obtain ⟨v, rfl, h1⟩ := r.of1
      cases h1
      exact .inr ⟨_, n, rfl, e1, hz, k _ G H (.refl s) rfl⟩
    · cases e
  · cases e
def bSum : List D → Option D
  | [.lst xs] => (asInts xs).map fun ns => .int ns.sum
  | _ => none
theorem bu_sum (hc : X.calm = true) : BuD X c (.builtin "sum") bSum := by
  refine ⟨_, cr_sum hc, fun ds d e G H vs Q s r k => ?_⟩
  unfold bSum at e
  split at e
  · obtain ⟨ns, e1, rfl⟩ := Option.map_eq_some_iff.mp e
    obtain ⟨v, rfl, p, us, rfl, hp, hr⟩ := r.of1
    rw [asInts_rep e1 hr] at hp
    exact ⟨p, ns, rfl, SqL.of (s _ _ hp), k _ G H (.refl s) rfl⟩
  · cases e
def maxI : List Int → Int
  | [] => 0
  | [x] => x
  | x :: xs => max x (maxI xs)
def minI : List Int → Int
  | [] => 0
  | [x] => x
  | x :: xs => min x (minI xs)
theorem maxI_le : ∀ {ns : List Int} {y : Int}, y ∈ ns → y ≤ maxI ns
  | [x], y, h => by simp at h; subst h; exact Int.le_refl _
  | x :: z :: xs, y, h => by
    show y ≤ max x (maxI (z :: xs))
    rcases List.mem_cons.mp h with rfl | h
    · omega
    · have := maxI_le h; omega
theorem maxI_mem : ∀ {ns : List Int}, 0 < ns.length → maxI ns ∈ ns
  | [x], _ => by simp [maxI]
  | x :: z :: xs, _ => by
    have ih := maxI_mem (ns := z :: xs) (by simp)
    show max x (maxI (z :: xs)) ∈ x :: z :: xs
    by_cases h : x ≤ maxI (z :: xs)
    · rw [Int.max_eq_right h]; exact List.mem_cons_of_mem _ ih
    · rw [Int.max_eq_left (by omega)]; exact List.mem_cons_self
theorem minI_le : ∀ {ns : List Int} {y : Int}, y ∈ ns → minI ns ≤ y
  | [x], y, h => by simp at h; subst h; exact Int.le_refl _
  | x :: z :: xs, y, h => by
    show min x (minI (z :: xs)) ≤ y
    rcases List.mem_cons.mp h with rfl | h
    · omega
    · have := minI_le h; omega
theorem minI_mem : ∀ {ns : List Int}, 0 < ns.length → minI ns ∈ ns
  | [x], _ => by simp [minI]
  | x :: z :: xs, _ => by
    have ih := minI_mem (ns := z :: xs) (by simp)
    show min x (minI (z :: xs)) ∈ x :: z :: xs
    by_cases h : x ≤ minI (z :: xs)
    · rw [Int.min_eq_left h]; exact List.mem_cons_self
    · rw [Int.min_eq_right (by omega)]; exact List.mem_cons_of_mem _ ih
def bMax : List D → Option D
  | [.lst xs] => (asInts xs).bind fun ns => if 0 < ns.length then some (.int (maxI ns)) else none
  | [.int i, .int j] => some (.int (if j > i then j else i))
  | _ => none
theorem bu_max (hc : X.calm = true) : BuD X c (.builtin "max") bMax := by
  refine ⟨_, DL.CallR.or (cr_max hc) (call_max2 hc), fun ds d e G H vs Q s r k => ?_⟩
  unfold bMax at e
  split at e
  · obtain ⟨ns, e1, e⟩ := Option.bind_eq_some_iff.mp e
    split at e
    · rename_i hz
      cases e
      obtain ⟨v, rfl, p, us, rfl, hp, hr⟩ := r.of1
      rw [asInts_rep e1 hr] at hp
      refine .inl ⟨p, ns, rfl, SqL.of (s _ _ hp), hz, fun m hm hy => ?_⟩
      have e2 : m = maxI ns := Int.le_antisymm (maxI_le hm) (hy _ (maxI_mem hz))
      rw [e2]
      exact k _ G H (.refl s) rfl
    · cases e
  · cases e
    obtain ⟨v, u, rfl, h1, h2⟩ := r.of2
    cases h1; cases h2
    exact .inr ⟨_, _, rfl, k _ G H (.refl s) rfl⟩
  · cases e
def bMin : List D → Option D
  | [.lst xs] => (asInts xs).bind fun ns => if 0 < ns.length then some (.int (minI ns)) else none
  | [.int i, .int j] => some (.int (if j < i then j else i))
  | _ => none
theorem bu_min (hc : X.calm = true) : BuD X c (.builtin "min") bMin := by
  refine ⟨_, DL.CallR.or (cr_min hc) (call_min2 hc), fun ds d e G H vs Q s r k => ?_⟩
  unfold bMin at e
  split at e
  · obtain ⟨ns, e1, e⟩ := Option.bind_eq_some_iff.mp e
    split at e
    · rename_i hz
      cases e
      obtain ⟨v, rfl, p, us, rfl, hp, hr⟩ := r.of1
      rw [asInts_rep e1 hr] at hp
      refine .inl ⟨p, ns, rfl, SqL.of (s _ _ hp), hz, fun m hm hy => ?_⟩
      have e2 : m = minI ns := Int.le_antisymm (hy _ (minI_mem hz)) (minI_le hm)
      rw [e2]
      exact k _ G H (.refl s) rfl
    · cases e
  · cases e
    obtain ⟨v, u, rfl, h1, h2⟩ := r.of2
    cases h1; cases h2
    exact .inr ⟨_, _, rfl, k _ G H (.refl s) rfl⟩
  · cases e
def bAbs : List D → Option D
  | [.int i] => some (.int (if i < 0 then -i else i))
  | _ => none
theorem bu_abs : BuD X c (.builtin "abs") bAbs := by
  refine ⟨_, call_abs, fun ds d e G H vs Q s r k => ?_⟩
  unfold bAbs at e
  split at e
  · cases e
    obtain ⟨v, rfl, h1⟩ := r.of1
    cases h1
    exact ⟨_, rfl, k _ G H (.refl s) rfl⟩
  · cases e
def bDivmod : List D → Option D
  | [.int i, .int j] => if 0 < j ∧ j < 1073741824 then some (.tup [.int (i / j), .int (i % j)]) else none
  | _ => none
theorem bu_divmod : BuD X c (.builtin "divmod") bDivmod := by
  refine ⟨_, call_divmod, fun ds d e G H vs Q s r k => ?_⟩
  unfold bDivmod at e
  split at e
  · split at e
    · rename_i hz
      cases e
      obtain ⟨v, u, rfl, h1, h2⟩ := r.of2
      cases h1; cases h2
      exact ⟨_, _, rfl, hz, fun p hp => k _ _ _ (.new s hp True.intro) ⟨p, _, rfl, SqT.of upd_same, ⟨_, _, rfl, rfl, ⟨_, _, rfl, rfl, rfl⟩⟩⟩⟩
    · cases e
  · cases e
def bList : List D → Option (List D)
  | [.lst xs] => some xs
  | [.tup xs] => some xs
  | _ => none
theorem bu_list : BuO X c (.type "list") bList := by
  refine ⟨_, call_list_of, fun ds d e G H vs Q s r k => ?_⟩
  unfold bList at e
  split at e
  · cases e
    obtain ⟨v, rfl, p, us, rfl, hp, hr⟩ := r.of1
    exact ⟨p, us, rfl, .inl (SqL.of (s _ _ hp)), fun l hl => k l us G _ (.add s hl True.intro) hl (s.none hl) upd_same hr⟩
  · cases e
    obtain ⟨v, rfl, p, us, rfl, hp, hr⟩ := r.of1
    exact ⟨p, us, rfl, .inr (DL.Same.sqt s.s hp), fun l hl => k l us G _ (.add s hl True.intro) hl (s.none hl) upd_same hr⟩
  · cases e
def bTuple : List D → Option D
  | [.lst xs] => some (.tup xs)
  | [.tup xs] => some (.tup xs)
  | _ => none
theorem bu_tuple : BuD X c (.type "tuple") bTuple := by
  refine ⟨_, call_tuple_of, fun ds d e G H vs Q s r k => ?_⟩
  unfold bTuple at e
  split at e
  · cases e
    obtain ⟨v, rfl, p, us, rfl, hp, hr⟩ := r.of1
    exact ⟨p, us, rfl, .inl ⟨SqL.of (s _ _ hp), fun l hl => k _ _ _ (.new s hl True.intro) ⟨l, us, rfl, SqT.of upd_same, hr.mono (Same.new (s.none hl))⟩⟩⟩
  · cases e
    obtain ⟨v, rfl, p, us, rfl, hp, hr⟩ := r.of1
    exact ⟨p, us, rfl, .inr ⟨DL.Same.sqt s.s hp, k _ G H (.refl s) ⟨p, us, rfl, hp, hr⟩⟩⟩
  · cases e
/-! list(range(..)) -/
def oRange (f g : DE) : DOw := fun ρ => match f ρ, g ρ with
  | some (.int i), some (.int j) => if -1000000 ≤ i ∧ i ≤ 1000000 ∧ -1000000 ≤ j ∧ j ≤ 1000000 then some ((List.range (j - i).toNat).map fun k : Nat => D.int (i + k)) else none
  | _, _ => none
theorem rep_rg {G : Hp} {i j : Int} : RepL K c G ((List.range (j - i).toNat).map fun k : Nat => D.int (i + k)) (rgV i j) := by
  unfold rgV
  have h := RepL0.ints (K := K) (c := c) (G := G) ((List.range (j - i).toNat).map fun k : Nat => i + (k : Int))
  rw [List.map_map, List.map_map] at h
  exact h
theorem o_listRange2 {f g : DE} {p p2 pos2 : Pos} (hc : X.calm = true) (hm : X.mg "list" = none) (hm2 : X.mg "range" = none) (ha : PE X a (tD X.K c f)) (hb : PE X b (tD X.K c g)) (hg : Gl X "list" := by rfl) (hg2 : Gl X "range" := by rfl)
    (na : starEach [a, b] X.env = (false, eval a X.env) :: starEach [b] X.env := by rfl) (nb : starEach [b] X.env = (false, eval b X.env) :: starEach [] X.env := by rfl) (hp : (backTo pos2 (starEach [b] X.env)).any (·.1) = false := by rfl)
    (nc : starEach [Expr.Call (.Name "range" p2) [a, b] [] pos2] X.env = (false, eval (Expr.Call (.Name "range" p2) [a, b] [] pos2) X.env) :: starEach [] X.env := by rfl) :
    PE X (.Call (.Name "list" p) [.Call (.Name "range" p2) [a, b] [] pos2] [] pos) (tDo X.K c (oRange f g)) :=
  (pe_listRg hc hg hm (prg_2 hg2 hm2 ha hb na nb hp) nc).imp fun σ H Q ⟨G, ρ, d, s, sl, e, k⟩ => by
    unfold oRange at e
    split at e
    · rename_i i j q1 q2
      split at e
      · rename_i hz
        cases e
        refine ⟨G, ρ, _, s, sl, q1, fun v G1 H1 g1 r1 => ⟨G1, ρ, _, g1.s, sl.step g1, q2, fun v2 G2 H2 g2 r2 => ⟨i, j, r1, r2, ⟨by omega, by omega, by omega, by omega, by omega⟩, fun q hq => ?_⟩⟩⟩
        exact k q _ G2 _ ((g1.trans g2).trans (.add g2.s hq True.intro)) ((g1.trans g2).d q hq) (g2.s.none hq) upd_same rep_rg
      · cases e
    · cases e
/-! texts -/
def bSplit (x y : D) : Option (List D) := match x, y with
  | .str z, .str w => if (w.length == 0) = false ∧ z.length ≤ 100000 then some ((Txt.split z w).map .str) else none
  | _, _ => none
def oOp (o : D → D → Option (List D)) (f g : DE) : DOw := fun ρ => (f ρ).bind fun x => (g ρ).bind fun y => o x y
theorem o_split {o : Expr} {f g : DE} {apos : Pos} (ho : PE X o (tD X.K c f)) (he : PE X e (tD X.K c g)) (hs : starEach [e] X.env = [(false, eval e X.env)] := by rfl) (hbase : attributeBase o "split" X.env (eval o X.env) = eval o X.env := by rfl) (hline : (apos.endLine == pos.line) = true := by rfl) :
    PE X (.Call (.Attribute o "split" apos) [e] [] pos) (tDo X.K c (oOp bSplit f g)) := (pe_split ho he hs hbase hline).imp fun σ H Q ⟨G, ρ, d, s, sl, e, k⟩ => by
  unfold oOp at e
  obtain ⟨x, ex, e⟩ := Option.bind_eq_some_iff.mp e
  obtain ⟨y, ey, e⟩ := Option.bind_eq_some_iff.mp e
  unfold bSplit at e
  split at e
  · rename_i z w _
    split at e
    · rename_i hz
      cases e
      refine ⟨G, ρ, _, s, sl, ex, fun v G1 H1 g1 r1 => ⟨⟨z, r1⟩, G1, ρ, _, g1.s, sl.step g1, ey, fun u G2 H2 g2 r2 => ?_⟩⟩
      cases r1; cases r2
      refine ⟨z, w, rfl, rfl, hz.1, ?_, fun p hp => k p _ G2 _ ((g1.trans g2).trans (.add g2.s hp True.intro)) ((g1.trans g2).d p hp) (g2.s.none hp) upd_same (RepL0.strs _)⟩
      have h1 := hz.2
      have h2 : (100000 + 2 : Nat) ≤ sizeLine := by decide
      omega
    · cases e
  · cases e
def bJoin (x y : D) : Option D := match x, y with
  | .str z, .lst ws => (asStrs ws).bind fun ys => if (ys.map (·.length)).sum + ys.length * z.length ≤ 100000 then some (.str (Txt.join z ys)) else none
  | _, _ => none
theorem d_join {o : Expr} {f g : DE} {apos : Pos} (ho : PE X o (tD X.K c f)) (he : PE X e (tD X.K c g)) (hs : starEach [e] X.env = [(false, eval e X.env)] := by rfl) (hbase : attributeBase o "join" X.env (eval o X.env) = eval o X.env := by rfl) (hline : (apos.endLine == pos.line) = true := by rfl) :
    PE X (.Call (.Attribute o "join" apos) [e] [] pos) (tD X.K c (dOp bJoin f g)) := (pe_join ho he hs hbase hline).imp fun σ H Q ⟨G, ρ, d, s, sl, e, k⟩ => by
  unfold dOp at e
  obtain ⟨x, ex, e⟩ := Option.bind_eq_some_iff.mp e
  obtain ⟨y, ey, e⟩ := Option.bind_eq_some_iff.mp e
  unfold bJoin at e
  split at e
  · rename_i z ws _
    obtain ⟨ys, e1, e⟩ := Option.bind_eq_some_iff.mp e
    split at e
    · rename_i hz
      cases e
      refine ⟨G, ρ, _, s, sl, ex, fun v G1 H1 g1 r1 => ⟨⟨z, r1⟩, G1, ρ, _, g1.s, sl.step g1, ey, fun u G2 H2 g2 r2 => ?_⟩⟩
      cases r1
      obtain ⟨p, vs, rfl, hp, hr⟩ := r2
      rw [asStrs_rep e1 hr] at hp
      exact ⟨z, p, ys, rfl, rfl, .inl (SqL.of (g2.s _ _ hp)), by omega, k _ G2 H2 (g1.trans g2) rfl⟩
    · cases e
  · cases e
end
end DL
set_option maxRecDepth 100000
namespace DL
open PySem L2
section
variable {X : Cx} {K : PySem.W.Frag} {c : Cf} {e a b : Expr} {es : List Expr} {pos : Pos}
/-! ### what is walked -/
structure WalkD (K : PySem.W.Frag) (c : Cf) (J : It) (G0 : Hp) (ds : List D) : Prop where
  go : ∀ i G H, i < ds.length → Same G0 G → Sm c G H → J.go i H
  stop : ∀ G H, Same G0 G → Sm c G H → J.stop ds.length H
  yld : ∀ i G H x H', i < ds.length → Same G0 G → Sm c G H → J.yld i H x H' → ∃ G' d, Gr c G H G' H' ∧ ds[i]? = some d ∧ Rep K c G' d x
theorem WalkD.mono {J : It} {G0 G1 : Hp} {ds : List D} (w : WalkD K c J G0 ds) (s : Same G0 G1) : WalkD K c J G1 ds :=
  ⟨fun i G H h s1 s2 => w.go i G H h (s.trans s1) s2, fun G H s1 s2 => w.stop G H (s.trans s1) s2, fun i G H x H' h s1 s2 y => w.yld i G H x H' h (s.trans s1) s2 y⟩
theorem walkD_list {p : Addr} {G : Hp} {ds : List D} {vs : List V} (h : SqL K G p vs) (r : RepL K c G ds vs) : WalkD K c (Itl K p) G ds where
  go := fun i G1 H1 hi s1 s2 => by
    obtain ⟨v, h1, _⟩ := r.get (d := ds[i]) (i := i) (by simp [hi])
    exact ⟨vs, v, s2.seq (s1.seq h), h1⟩
  stop := fun G1 H1 s1 s2 => ⟨vs, s2.seq (s1.seq h), by rw [r.length]; exact Nat.le_refl _⟩
  yld := fun i G1 H1 x H' hi s1 s2 ⟨e, y⟩ => by
    subst e
    obtain ⟨d, h1, h2⟩ := r.getV (y vs (s2.seq (s1.seq h)))
    exact ⟨G1, d, .refl s2, h1, h2.mono s1⟩
theorem walkD_tup {p : Addr} {G : Hp} {ds : List D} {vs : List V} (h : SqT K G p vs) (r : RepL K c G ds vs) : WalkD K c (Itt K p) G ds where
  go := fun i G1 H1 hi s1 s2 => by
    obtain ⟨v, h1, _⟩ := r.get (d := ds[i]) (i := i) (by simp [hi])
    exact ⟨vs, v, DL.Same.sqt s2.s (DL.Same.sqt s1 h), h1⟩
  stop := fun G1 H1 s1 s2 => ⟨vs, DL.Same.sqt s2.s (DL.Same.sqt s1 h), by rw [r.length]; exact Nat.le_refl _⟩
  yld := fun i G1 H1 x H' hi s1 s2 ⟨e, y⟩ => by
    subst e
    obtain ⟨d, h1, h2⟩ := r.getV (y vs (DL.Same.sqt s2.s (DL.Same.sqt s1 h)))
    exact ⟨G1, d, .refl s2, h1, h2.mono s1⟩
def signsD (z : Str) : List D := z.cps.toList.map fun k => .str ⟨#[k]⟩
theorem walkD_str {z : Str} {G : Hp} : WalkD K c (Its z) G (signsD z) where
  go := fun i G1 H1 hi s1 s2 => by
    have hi : i < z.cps.size := by simpa [signsD] using hi
    exact hi
  stop := fun G1 H1 s1 s2 => by
    show z.cps.size ≤ (signsD z).length
    simp [signsD]
  yld := fun i G1 H1 x H' hi s1 s2 ⟨e, k, h1, h2⟩ => by
    subst e; subst h2
    exact ⟨G1, .str ⟨#[k]⟩, .refl s2, by simp [signsD, h1], rfl⟩
def rngD (lo : Int) (n : Nat) : List D := (List.range n).map fun k : Nat => .int (lo + k)
theorem walkD_range {lo : Int} {n : Nat} {G : Hp} : WalkD K c (Itr lo n) G (rngD lo n) where
  go := fun i G1 H1 hi s1 s2 => by
    have hi : i < n := by simpa [rngD] using hi
    exact hi
  stop := fun G1 H1 s1 s2 => by
    show n ≤ (rngD lo n).length
    simp [rngD]
  yld := fun i G1 H1 x H' hi s1 s2 ⟨e, h1⟩ => by
    subst e; subst h1
    have hi : i < n := by simpa [rngD] using hi
    exact ⟨G1, .int (lo + i), .refl s2, by simp [rngD, hi], rfl⟩
def rngC (lo st : Int) (n : Nat) : List D := (List.range n).map fun k : Nat => .int (lo + k * st)
theorem walkD_rangeC {lo st : Int} {n : Nat} {G : Hp} : WalkD K c (Itc lo st n) G (rngC lo st n) where
  go := fun i G1 H1 hi s1 s2 => by
    have hi : i < n := by simpa [rngC] using hi
    exact hi
  stop := fun G1 H1 s1 s2 => by
    show n ≤ (rngC lo st n).length
    simp [rngC]
  yld := fun i G1 H1 x H' hi s1 s2 ⟨e, h1⟩ => by
    subst e; subst h1
    have hi : i < n := by simpa [rngC] using hi
    exact ⟨G1, .int (lo + i * st), .refl s2, by simp [rngC, hi], rfl⟩
theorem rep_pair {G : Hp} {d e : D} {x y : V} {T : Addr} (h1 : Rep K c G d x) (h2 : Rep K c G e y) (n : G T = none) : Rep K c (upd G T (.tup [x, y])) (.tup [d, e]) (.ref T) :=
  ⟨T, [x, y], rfl, SqT.of upd_same, x, [y], rfl, h1.mono (Same.new n), y, [], rfl, h2.mono (Same.new n), rfl⟩
def enumD (ds : List D) : List D := (List.range ds.length).map fun k : Nat => .tup [.int k, ds.getD k .non]
theorem walkD_enum {p : Addr} {G : Hp} {ds : List D} {vs : List V} (h : SqL K G p vs) (r : RepL K c G ds vs) : WalkD K c (Ite K p) G (enumD ds) where
  go := fun i G1 H1 hi s1 s2 => by
    have hi : i < ds.length := by simpa [enumD] using hi
    obtain ⟨v, h1, _⟩ := r.get (d := ds[i]) (i := i) (by simp [hi])
    exact ⟨vs, v, s2.seq (s1.seq h), h1⟩
  stop := fun G1 H1 s1 s2 => ⟨vs, s2.seq (s1.seq h), by rw [r.length]; simp [enumD]⟩
  yld := fun i G1 H1 x H' hi s1 s2 ⟨T, y, e1, e2, e3, e4⟩ => by
    subst e1; subst e3
    have hi : i < ds.length := by simpa [enumD] using hi
    obtain ⟨d, h1, h2⟩ := r.getV (e4 vs (s2.seq (s1.seq h)))
    refine ⟨_, .tup [.int i, d], .new s2 e2 True.intro, ?_, rep_pair rfl (h2.mono s1) (s2.none e2)⟩
    rw [enumD, List.getElem?_map, List.getElem?_range hi]
    simp [List.getD, h1]
def zipD (ds es : List D) : List D := (ds.zip es).map fun q => .tup [q.1, q.2]
theorem walkD_zip {p q : Addr} {G : Hp} {ds es : List D} {vs us : List V} (h : SqL K G p vs) (r : RepL K c G ds vs) (h' : SqL K G q us) (r' : RepL K c G es us) : WalkD K c (Itz K p q) G (zipD ds es) where
  go := fun i G1 H1 hi s1 s2 => by
    have hi : i < ds.length ∧ i < es.length := by simp [zipD] at hi; omega
    obtain ⟨v, h1, _⟩ := r.get (d := ds[i]) (i := i) (by simp [hi.1])
    obtain ⟨u, h2, _⟩ := r'.get (d := es[i]) (i := i) (by simp [hi.2])
    exact ⟨vs, us, v, u, s2.seq (s1.seq h), s2.seq (s1.seq h'), h1, h2⟩
  stop := fun G1 H1 s1 s2 => ⟨vs, us, s2.seq (s1.seq h), s2.seq (s1.seq h'), by rw [r.length, r'.length]; simp [zipD]; omega⟩
  yld := fun i G1 H1 x H' hi s1 s2 ⟨T, y, z, e1, e2, e3, e4, e5⟩ => by
    subst e1; subst e3
    obtain ⟨d, h1, h2⟩ := r.getV (e4 vs (s2.seq (s1.seq h)))
    obtain ⟨d', h1', h2'⟩ := r'.getV (e5 us (s2.seq (s1.seq h')))
    refine ⟨_, .tup [d, d'], .new s2 e2 True.intro, ?_, rep_pair (h2.mono s1) (h2'.mono s1) (s2.none e2)⟩
    rw [zipD, List.getElem?_map, (List.getElem?_zip_eq_some (z := (d, d'))).mpr ⟨h1, h1'⟩]
    rfl
/-- an iterable: the data it gives, one after another -/
structure DPI (X : Cx) (c : Cf) (tg iter : Expr) (F : Sl → Option (List D)) : Prop where
  ex : ∃ wi, PI X tg iter wi ∧ ∀ σ H (R : It → Hp → Prop), (∃ G ρ ds, Sm c G H ∧ Slots X.K c G H ρ σ ∧ F ρ = some ds ∧ ∀ J G' H', Gr c G H G' H' → WalkD X.K c J G' ds → R J H') → wi σ H R
theorem PI.or {tg iter : Expr} {w1 w2 : TI} (h1 : PI X tg iter w1) (h2 : PI X tg iter w2) : PI X tg iter (fun σ H R => w1 σ H R ∨ w2 σ H R) :=
  ⟨fun pins s σ H R I q => q.elim (fun q => h1.run pins s σ H R I q) fun q => h2.run pins s σ H R I q⟩
def itE (f : DE) : Sl → Option (List D) := fun ρ => match f ρ with
  | some (.lst ds) => some ds
  | some (.tup ds) => some ds
  | some (.str z) => some (signsD z)
  | some (.scr ns) => some (ns.map .int)
  | _ => none
theorem it_e {tg : Expr} {f : DE} (h : PE X e (tD X.K c f)) : DPI X c tg e (itE f) := by
  refine ⟨_, DL.PI.or (pi_list h) (DL.PI.or (pi_tup h) (pi_str h)), fun σ H R ⟨G, ρ, ds, s, sl, e, k⟩ => ?_⟩
  unfold itE at e
  split at e
  · rename_i q
    cases e
    exact .inl ⟨G, ρ, _, s, sl, q, fun v G1 H1 g1 ⟨p, vs, e1, h1, r⟩ => ⟨p, e1, ⟨vs, SqL.of (g1.s _ _ h1)⟩, k _ G1 H1 g1 (walkD_list (SqL.of h1) r)⟩⟩
  · rename_i q
    cases e
    exact .inr (.inl ⟨G, ρ, _, s, sl, q, fun v G1 H1 g1 ⟨p, vs, e1, h1, r⟩ => ⟨p, e1, ⟨vs, DL.Same.sqt g1.s.s h1⟩, k _ G1 H1 g1 (walkD_tup h1 r)⟩⟩)
  · rename_i q
    cases e
    exact .inr (.inr ⟨G, ρ, _, s, sl, q, fun v G1 H1 g1 r => ⟨_, r, k _ G1 H1 g1 walkD_str⟩⟩)
  · rename_i ns q
    cases e
    exact .inl ⟨G, ρ, _, s, sl, q, fun v G1 H1 g1 ⟨p, e1, h1⟩ => ⟨p, e1, ⟨_, g1.s.seq h1⟩, k _ G1 H1 g1 (walkD_list h1 (RepL0.ints ns))⟩⟩
  · cases e
def itR1 (g : DA) : Sl → Option (List D) := fun ρ => match g ρ with
  | some [.int j] => if -4611686018427387904 ≤ j ∧ j < 4611686018427387904 then some (rngD 0 j.toNat) else none
  | _ => none
theorem it_r1 {tg : Expr} {g : DA} {p : Pos} (hm : X.mg "range" = none) (ha : PA X [a] (tDA X.K c g)) (hg : Gl X "range" := by rfl) (hs : starEach [a] X.env = [(false, eval a X.env)] := by rfl) : DPI X c tg (.Call (.Name "range" p) [a] [] pos) (itR1 g) := by
  refine ⟨_, pi_range1 hg hm ha hs, fun σ H R ⟨G, ρ, ds, s, sl, e, k⟩ => ?_⟩
  unfold itR1 at e
  split at e
  · rename_i j q
    split at e
    · rename_i hz
      cases e
      refine ⟨G, ρ, _, s, sl, q, fun vs G1 H1 g1 r => ?_⟩
      obtain ⟨v, rfl, h1⟩ := RepL0.of1 r
      cases h1
      exact ⟨j, rfl, by omega, by omega, k _ G1 H1 g1 walkD_range⟩
    · cases e
  · cases e
def itR2 (g : DA) : Sl → Option (List D) := fun ρ => match g ρ with
  | some [.int i, .int j] => if -4611686018427387904 ≤ i ∧ i < 4611686018427387904 ∧ -4611686018427387904 ≤ j ∧ j < 4611686018427387904 then some (rngD i (j - i).toNat) else none
  | _ => none
theorem it_r2 {tg : Expr} {g : DA} {p : Pos} (hm : X.mg "range" = none) (ha : PA X [a, b] (tDA X.K c g)) (hg : Gl X "range" := by rfl) (hs : starEach [a, b] X.env = [(false, eval a X.env), (false, eval b X.env)] := by rfl) (hs2 : starEach [b] X.env = [(false, eval b X.env)] := by rfl) :
    DPI X c tg (.Call (.Name "range" p) [a, b] [] pos) (itR2 g) := by
  refine ⟨_, pi_range2 hg hm ha hs hs2, fun σ H R ⟨G, ρ, ds, s, sl, e, k⟩ => ?_⟩
  unfold itR2 at e
  split at e
  · rename_i i j q
    split at e
    · rename_i hz
      cases e
      refine ⟨G, ρ, _, s, sl, q, fun vs G1 H1 g1 r => ?_⟩
      obtain ⟨v, u, rfl, h1, h2⟩ := RepL0.of2 r
      cases h1; cases h2
      exact ⟨i, j, rfl, ⟨by omega, by omega, by omega, by omega⟩, k _ G1 H1 g1 walkD_range⟩
    · cases e
  · cases e
def itEn (g : DA) : Sl → Option (List D) := fun ρ => match g ρ with
  | some [.lst ds] => some (enumD ds)
  | _ => none
theorem it_en {g : DA} {p tpos : Pos} {elts : List Expr} {kk : Nat} (hm : X.mg "enumerate" = none) (ha : PA X [a] (tDA X.K c g)) (hg : Gl X "enumerate" := by rfl) (hs : starEach [a] X.env = [(false, eval a X.env)] := by rfl) :
    DPI X c (.Tuple elts kk tpos) (.Call (.Name "enumerate" p) [a] [] pos) (itEn g) := by
  refine ⟨_, pi_enum hg hm ha hs, fun σ H R ⟨G, ρ, ds, s, sl, e, k⟩ => ?_⟩
  unfold itEn at e
  split at e
  · rename_i ds q
    cases e
    refine ⟨G, ρ, _, s, sl, q, fun vs G1 H1 g1 r => ?_⟩
    obtain ⟨v, rfl, p1, us, rfl, hp, hr⟩ := RepL0.of1 r
    exact ⟨p1, us, rfl, SqL.of (g1.s _ _ hp), k _ G1 H1 g1 (walkD_enum (SqL.of hp) hr)⟩
  · cases e
def itZip (g : DA) : Sl → Option (List D) := fun ρ => match g ρ with
  | some [.lst ds, .lst es] => some (zipD ds es)
  | _ => none
theorem it_zip {g : DA} {p tpos : Pos} {elts : List Expr} {kk : Nat} (hm : X.mg "zip" = none) (ha : PA X [a, b] (tDA X.K c g)) (hg : Gl X "zip" := by rfl) (hs : starEach [a, b] X.env = (false, eval a X.env) :: starEach [b] X.env := by rfl) (hpl : (backTo pos (starEach [b] X.env)).any (·.1) = false := by rfl) :
    DPI X c (.Tuple elts kk tpos) (.Call (.Name "zip" p) [a, b] [] pos) (itZip g) := by
  refine ⟨_, pi_zip hg hm ha hs hpl, fun σ H R ⟨G, ρ, ds, s, sl, e, k⟩ => ?_⟩
  unfold itZip at e
  split at e
  · rename_i ds es q
    cases e
    refine ⟨G, ρ, _, s, sl, q, fun vs G1 H1 g1 r => ?_⟩
    obtain ⟨v, u, rfl, ⟨p1, us, rfl, hp, hr⟩, p2, us2, rfl, hp2, hr2⟩ := RepL0.of2 r
    exact ⟨p1, p2, us, us2, rfl, SqL.of (g1.s _ _ hp), SqL.of (g1.s _ _ hp2), k _ G1 H1 g1 (walkD_zip (SqL.of hp) hr (SqL.of hp2) hr2)⟩
  · cases e
/-! ### targets: the slots that are set -/
abbrev TgD := D → Option (List (Nat × D))
def apD (ρ : Sl) : List (Nat × D) → Sl
  | [] => ρ
  | (i, d) :: l => apD (ρ.set i (.val d)) l
def apV (σ : St) : List (Nat × V) → St
  | [] => σ
  | (i, v) :: l => apV (σ.set i (some v)) l
def RepA (K : PySem.W.Frag) (c : Cf) (G : Hp) : List (Nat × D) → List (Nat × V) → Prop
  | [], vs => vs = []
  | (i, d) :: l, vs => ∃ v r, vs = (i, v) :: r ∧ Rep K c G d v ∧ RepA K c G l r
theorem Slots.ap {G H : Hp} : ∀ {l : List (Nat × D)} {vs : List (Nat × V)} {ρ : Sl} {σ : St}, Slots K c G H ρ σ → RepA K c G l vs → Slots K c G H (apD ρ l) (apV σ vs)
  | [], _, _, _, h, r => by cases r; exact h
  | (i, d) :: l, _, ρ, σ, h, r => by
    obtain ⟨v, r', rfl, h1, h2⟩ := r
    exact Slots.ap (ρ := ρ.set i (.val d)) (σ := σ.set i (some v)) (h.set h1) h2
/-- the lists of one's own behind: as they were -/
theorem own_ap {G : Hp} : ∀ {l : List (Nat × D)} {vs : List (Nat × V)} {ρ : Sl} {σ : St} {j : Nat} {ds : List D}, RepA K c G l vs → ρ.length = σ.length → (apD ρ l)[j]? = some (.own ds) → ρ[j]? = some (.own ds) ∧ (apV σ vs)[j]? = σ[j]?
  | [], _, _, _, _, _, r, _, e => by cases r; exact ⟨e, rfl⟩
  | (i, d) :: l, _, ρ, σ, j, ds, r, hl, e => by
    obtain ⟨v, r', rfl, h1, h2⟩ := r
    obtain ⟨e1, e2⟩ := own_ap (σ := σ.set i (some v)) h2 (by simp [hl]) e
    rcases set_eq e1 with ⟨_, _, z⟩ | ⟨hj, e1⟩
    · cases z
    · exact ⟨e1, by show (apV (σ.set i (some v)) r')[j]? = _; rw [e2, List.getElem?_set_ne hj]⟩
def tG (K : PySem.W.Frag) (c : Cf) (T : TgD) : TG := fun v σ H Q => ∃ G d l, Sm c G H ∧ Rep K c G d v ∧ T d = some l ∧ ∀ vs, RepA K c G l vs → Q (apV σ vs) H
theorem _root_.L2.PG.imp {tg : Expr} {t t' : TG} (h : PG X tg t) (i : ∀ v σ H Q, t' v σ H Q → t v σ H Q) : PG X tg t' := ⟨fun pins s σ H v u Q I r q => h.run pins s σ H v u Q I r (i v σ H Q q)⟩
theorem _root_.L2.PTs.imp {ifs : List Expr} {t t' : TT} (h : PTs X ifs t) (i : ∀ σ H Q, t' σ H Q → t σ H Q) : PTs X ifs t' := ⟨fun pins s σ H Q I q => h.run pins s σ H Q I (i σ H Q q)⟩
def tgN (i : Nat) : TgD := fun d => some [(i, d)]
theorem g_name {i : Nat} {x : Str} (hN : X.N.Nodup) (hi : X.N[i]? = some x := by rfl) (hx : Loc X.env.scope x := by first | exact Or.inl rfl | exact Or.inr rfl) (hf : X.fn x = true ∨ X.env.scope.names.lookup x = some .local := by first | exact .inl rfl | exact .inr rfl) : PG X (.Name x pos) (tG K c (tgN i)) :=
  (pg_name hN hi hx hf).imp fun v σ H Q ⟨G, d, l, s, r, e, k⟩ => by
    cases e
    exact k [(i, v)] ⟨v, [], rfl, r, rfl⟩
/-- the targets of a tuple -/
def tGs (is : List Nat) : TGs := fun vs σ H Q => vs.length = is.length ∧ Q (apV σ (is.zip vs)) H
theorem _root_.L2.PGs.imp {ts : List Expr} {t t' : TGs} (h : PGs X ts t) (i : ∀ v σ H Q, t' v σ H Q → t v σ H Q) : PGs X ts t' := ⟨fun pins s σ H v u Q I r q => h.run pins s σ H v u Q I r (i v σ H Q q)⟩
theorem gs_nil : PGs X [] (tGs []) := pgs_nil.imp fun v σ H Q ⟨e, k⟩ => by
  cases v with
  | nil => exact ⟨rfl, k⟩
  | cons _ _ => cases e
theorem gs_cons {i : Nat} {is : List Nat} {x : Str} {es : List Expr} (hN : X.N.Nodup) (h2 : PGs X es (tGs is)) (hi : X.N[i]? = some x := by rfl) (hx : Loc X.env.scope x := by first | exact Or.inl rfl | exact Or.inr rfl) (hf : X.fn x = true ∨ X.env.scope.names.lookup x = some .local := by first | exact .inl rfl | exact .inr rfl)
    (hs : (assignEach (.Name x pos :: es) X.env).map (·.2) = assign (.Name x pos) X.env :: (assignEach es X.env).map (·.2) := by rfl) : PGs X (.Name x pos :: es) (tGs (i :: is)) :=
  (pgs_cons (pg_name hN hi hx hf) h2 hs).imp fun vs σ H Q ⟨e, k⟩ => by
    cases vs with
    | nil => cases e
    | cons v r => exact ⟨v, r, rfl, by simpa using e, k⟩
def tgT (is : List Nat) : TgD := fun d => match d with | .tup ds => if ds.length = is.length then some (is.zip ds) else none | _ => none
theorem repA_zip {G : Hp} : ∀ {is : List Nat} {ds : List D} {vs : List V}, RepL K c G ds vs → RepA K c G (is.zip ds) (is.zip vs)
  | [], _, _, _ => rfl
  | _ :: _, [], _, h => by cases h; rfl
  | i :: is, d :: ds, _, h => by
    obtain ⟨v, r, rfl, h1, h2⟩ := h
    exact ⟨v, _, rfl, h1, repA_zip h2⟩
theorem g_tup {is : List Nat} {es : List Expr} {kk : Nat} (hc : X.calm = true) (h : PGs X es (tGs is)) (hn : (assignEach es X.env).length = is.length := by rfl) (hst : (assignEach es X.env).findIdx? (·.1) = none := by rfl) : PG X (.Tuple es kk pos) (tG X.K c (tgT is)) :=
  (pg_tup hc h hn hst).imp fun v σ H Q ⟨G, d, l, s, r, e, k⟩ => by
    unfold tgT at e
    split at e
    · split at e
      · rename_i hl
        cases e
        obtain ⟨p, vs, rfl, hp, hr⟩ := r
        exact ⟨p, vs, rfl, DL.Same.sqt s.s hp, by rw [hr.length, hl], by rw [hr.length, hl], k _ (repA_zip hr)⟩
      · cases e
    · cases e
/-! ### comprehensions -/
theorem wipe_get : ∀ (σ : St) (vs : List Nat) (j : Nat), (L2.wipe σ vs)[j]? = if j ∈ vs then σ[j]?.map (fun _ => (none : Option V)) else σ[j]?
  | σ, [], j => by simp [L2.wipe]
  | σ, v :: vs, j => by
    unfold L2.wipe
    by_cases h : v = j
    · subst h
      rw [if_pos (List.mem_cons_self)]
      by_cases hl : v < σ.length
      · rw [List.getElem?_set_self (by rw [wipe_length]; exact hl)]
        simp [hl]
      · rw [List.getElem?_eq_none (by simp [wipe_length]; omega), List.getElem?_eq_none (by omega)]
        rfl
    · rw [List.getElem?_set_ne h, wipe_get σ vs j]
      simp [Ne.symm h]
theorem wipe_set {σ : St} {vs : List Nat} {i : Nat} {o : Option V} (h : i ∈ vs) : L2.wipe (σ.set i o) vs = L2.wipe σ vs := by
  apply List.ext_getElem?
  intro j
  rw [wipe_get, wipe_get]
  by_cases hj : i = j
  · subst hj
    rw [if_pos h, if_pos h]
    by_cases hl : i < σ.length
    · rw [List.getElem?_set_self hl]; simp [hl]
    · rw [List.getElem?_eq_none (by simp; omega), List.getElem?_eq_none (by omega)]
  · rw [List.getElem?_set_ne hj]
theorem wipe_wipe {σ : St} {vs : List Nat} : L2.wipe (L2.wipe σ vs) vs = L2.wipe σ vs := by
  apply List.ext_getElem?
  intro j
  rw [wipe_get, wipe_get]
  by_cases hj : j ∈ vs
  · rw [if_pos hj, if_pos hj]
    cases σ[j]? <;> rfl
  · rw [if_neg hj]
theorem wipe_ap : ∀ {l : List (Nat × V)} {σ : St} {vs : List Nat}, (∀ q ∈ l, q.1 ∈ vs) → L2.wipe (apV σ l) vs = L2.wipe σ vs
  | [], _, _, _ => rfl
  | (i, v) :: l, σ, vs, h => by
    show L2.wipe (apV (σ.set i (some v)) l) vs = _
    rw [wipe_ap fun q hq => h q (List.mem_cons_of_mem _ hq), wipe_set (h (i, v) List.mem_cons_self)]
theorem repA_idx {G : Hp} {vs : List Nat} : ∀ {l : List (Nat × D)} {us : List (Nat × V)}, RepA K c G l us → (∀ q ∈ l, q.1 ∈ vs) → ∀ q ∈ us, q.1 ∈ vs
  | [], _, r, _ => by cases r; simp
  | (i, d) :: l, _, r, h => by
    obtain ⟨v, r', rfl, _, h2⟩ := r
    intro q hq
    rcases List.mem_cons.mp hq with rfl | hq
    · exact h (i, d) List.mem_cons_self
    · exact repA_idx h2 (fun q hq => h q (List.mem_cons_of_mem _ hq)) q hq
def tTrue : DB := fun _ => some true
theorem ts_nil : PTs X [] (tDT K c tTrue) := pts_nil.imp fun σ H Q ⟨G, ρ, b, s, sl, e, k⟩ => by
  cases e
  exact k G H (.refl s)
theorem ts_one {f : DB} (h : PT X e (tDT K c f)) : PTs X [e] (tDT K c f) := pts_one h
def lcD (T : TgD) (test : DB) (elt : DE) (ρ : Sl) : List D → Option (List D)
  | [] => some []
  | d :: ds => (T d).bind fun l => match test (apD ρ l) with
    | some true => (elt (apD ρ l)).bind fun y => (lcD T test elt ρ ds).map (y :: ·)
    | some false => lcD T test elt ρ ds
    | none => none
def oLc (it : Sl → Option (List D)) (T : TgD) (test : DB) (elt : DE) (vs : List Nat) : DOw := fun ρ => (it ρ).bind fun ds => if ds.length ≤ 100000 then lcD T test elt (wipeD ρ vs) ds else none
theorem oLc_step {tg iter : Expr} {it : Sl → Option (List D)} {T : TgD} {test : DB} {elt : DE} {vs : List Nat} {wi : TI} (hT : ∀ d l, T d = some l → ∀ q ∈ l, q.1 ∈ vs)
    (hw : ∀ σ H (R : It → Hp → Prop), (∃ G ρ ds, Sm c G H ∧ Slots K c G H ρ σ ∧ it ρ = some ds ∧ ∀ J G' H', Gr c G H G' H' → WalkD K c J G' ds → R J H') → wi σ H R) :
    ∀ σ H Q, tDo K c (oLc it T test elt vs) σ H Q → tLc wi (tG K c T) (tDT K c test) (tD K c elt) vs σ H Q := by
  rintro σ H Q ⟨G, ρ, all, s, sl, e, k⟩
  unfold oLc at e
  obtain ⟨ds, ed, e⟩ := Option.bind_eq_some_iff.mp e
  split at e
  case isFalse => cases e
  rename_i hsz
  refine hw σ H _ ⟨G, ρ, ds, s, sl, ed, fun J G1 H1 g1 w L hL => ?_⟩
  have sl1 := sl.step g1
  refine ⟨fun i m H' => m = ds.length - i ∧ i ≤ ds.length ∧ ∃ G' acc accD rest, Gr c G1 H1 G' H' ∧ G' L = none ∧ H' L = some (.lst acc) ∧ RepL K c G' accD acc ∧ accD.length ≤ i ∧ lcD T test elt (wipeD ρ vs) (ds.drop i) = some rest ∧ accD ++ rest = all,
    ⟨_, rfl, Nat.zero_le _, G1, [], [], all, .add g1.s hL True.intro, g1.s.none hL, upd_same, rfl, Nat.le_refl _, e, rfl⟩, ?_⟩
  rintro i m H' ⟨rfl, hi, G', acc, accD, rest, g2, nL, eL, rL, lL, el, ea⟩
  by_cases hlt : i < ds.length
  · refine .inr ⟨w.go i G' H' hlt g2.g g2.s, fun H'' => ∃ G' acc accD rest, Gr c G1 H1 G' H'' ∧ G' L = none ∧ H'' L = some (.lst acc) ∧ RepL K c G' accD acc ∧ accD.length ≤ i + 1 ∧ lcD T test elt (wipeD ρ vs) (ds.drop (i + 1)) = some rest ∧ accD ++ rest = all,
      fun H'' h => ⟨ds.length - (i + 1), by omega, rfl, hlt, h⟩, fun x H2 y => ?_⟩
    obtain ⟨G3, d, g3, hd, rd⟩ := w.yld i G' H' x H2 hlt g2.g g2.s y
    rw [List.drop_eq_getElem_cons hlt] at el
    have hd' : ds[i] = d := by rw [List.getElem?_eq_getElem hlt] at hd; exact Option.some.inj hd
    rw [hd'] at el
    unfold lcD at el
    obtain ⟨l, hl, el⟩ := Option.bind_eq_some_iff.mp el
    refine ⟨G3, d, l, g3.s, rd, hl, fun us ru => ?_⟩
    have slB : Slots K c G3 H2 (apD (wipeD ρ vs) l) (apV (L2.wipe σ vs) us) := ((sl1.step (g2.trans g3)).wipe vs).ap ru
    refine ⟨by rw [wipe_ap (repA_idx ru (hT d l hl)), wipe_wipe], ?_⟩
    split at el
    · rename_i et
      obtain ⟨yd, ey, el⟩ := Option.bind_eq_some_iff.mp el
      obtain ⟨rest', er, rfl⟩ := Option.map_eq_some_iff.mp el
      refine ⟨G3, _, true, g3.s, slB, et, fun G4 H4 g4 => iteT ?_⟩
      refine ⟨G4, _, yd, g4.s, slB.step g4, ey, fun yv G5 H5 g5 r5 => ?_⟩
      have g := ((g2.trans g3).trans g4).trans g5
      have gl := (g3.trans g4).trans g5
      have nL5 : G5 L = none := gl.f L _ eL nL
      have eL5 : H5 L = some (.lst acc) := gl.hl eL
      refine ⟨acc, eL5, ?_, G5, acc ++ [yv], accD ++ [yd], rest', ?_, nL5, upd_same, (rL.mono gl.g).append (.one r5), by simp; omega, er, by rw [← ea]; simp⟩
      · rw [rL.length]
        exact Nat.lt_of_lt_of_le (Nat.lt_of_le_of_lt lL (Nat.lt_of_lt_of_le hlt hsz)) (by decide)
      · exact g.chg hL nL5 eL5
    · rename_i et
      refine ⟨G3, _, false, g3.s, slB, et, fun G4 H4 g4 => iteF ?_⟩
      have gl := g3.trans g4
      exact ⟨G4, acc, accD, rest, g2.trans gl, gl.f L _ eL nL, gl.hl eL, rL.mono gl.g, by omega, el, ea⟩
    · cases el
  · have hn : i = ds.length := by omega
    subst hn
    refine .inl ⟨w.stop G' H' g2.g g2.s, ?_⟩
    rw [List.drop_length] at el
    cases el
    rw [List.append_nil] at ea
    subst ea
    exact k L acc G' H' (g1.trans g2) (g1.d L hL) nL eL rL
theorem o_lc {elt tg iter : Expr} {ifs : List Expr} {scope : Scope} {own : List (Str × Nat)} {it : Sl → Option (List D)} {T : TgD} {test : DB} {fe : DE} (hc : X.calm = true) (hN : X.N.Nodup) (hi : DPI X c tg iter it) (ok : BlkOk X.N X.env.scope scope own)
    (hT : ∀ d l, T d = some l → ∀ q ∈ l, q.1 ∈ own.map (·.2))
    (hg : ∀ (s : Shared) (H : Hp) (C : Addr) (cl : List (Str × Addr)) (fp : List Addr), PG (X.blk s H scope (compEnvC scope cl C X.env) fp) tg (tG X.K c T)) (ht : ∀ (s : Shared) (H : Hp) (C : Addr) (cl : List (Str × Addr)) (fp : List Addr), PTs (X.blk s H scope (compEnvC scope cl C X.env) fp) ifs (tDT X.K c test))
    (he : ∀ (s : Shared) (H : Hp) (C : Addr) (cl : List (Str × Addr)) (fp : List Addr), PE (X.blk s H scope (compEnvC scope cl C X.env) fp) elt (tD X.K c fe)) (hs : ∀ x, foldedSetIterable iter X.env x = pure x := by intro _; rfl) :
    PE X (.ListComp elt [⟨tg, iter, ifs, 0⟩] scope pos) (tDo X.K c (oLc it T test fe (own.map (·.2)))) := by
  obtain ⟨wi, h1, h2⟩ := hi.ex
  exact (pe_lc hc hN h1 ok hg ht he hs).imp (oLc_step (tg := tg) (iter := iter) hT h2)
theorem tgN_in {i : Nat} {vs : List Nat} (h : i ∈ vs) : ∀ d l, tgN i d = some l → ∀ q ∈ l, q.1 ∈ vs := by
  intro d l e q hq
  cases e
  rcases List.mem_cons.mp hq with rfl | hq
  · exact h
  · cases hq
theorem tgT_in {is : List Nat} {vs : List Nat} (h : ∀ i ∈ is, i ∈ vs) : ∀ d l, tgT is d = some l → ∀ q ∈ l, q.1 ∈ vs := by
  intro d l e q hq
  unfold tgT at e
  split at e
  · split at e
    · cases e
      exact h _ (List.of_mem_zip hq).1
    · cases e
  · cases e
end
end DL
set_option maxRecDepth 100000
namespace DL
open PySem L2
section
variable {X : Cx} {K : PySem.W.Frag} {c : Cf} {e a b : Expr} {es : List Expr} {pos : Pos} {st : Stmt} {sts : List Stmt}
/-! ### statements -/
inductive Out where
  | nx (ρ : Sl) | rt (d : D) | ro (ds : List D) | bk (ρ : Sl) | ct (ρ : Sl)
abbrev DS := Sl → Option Out
structure StG (K : PySem.W.Frag) (c : Cf) (G0 H0 G H : Hp) (ρ : Sl) (σ : St) : Prop where
  gr : Gr c G0 H0 G H
  sl : Slots K c G H ρ σ
  nw : ∀ (i : Nat) (ds : List D) (p : Addr), ρ[i]? = some (.own ds) → σ[i]? = some (some (.ref p)) → H0 p = none
def StOk (K : PySem.W.Frag) (c : Cf) (G0 H0 : Hp) (ρ : Sl) (σ : St) (H : Hp) : Prop := ∃ G, StG K c G0 H0 G H ρ σ
def OutK (K : PySem.W.Frag) (c : Cf) (G0 H0 : Hp) (E : Ends) : Out → Prop
  | .nx ρ => ∀ σ H, StOk K c G0 H0 ρ σ H → E.nx σ H
  | .rt d => ∀ v G H, Gr c G0 H0 G H → Rep K c G d v → E.rt v H
  | .ro ds => ∀ p vs G H, Gr c G0 H0 G H → H0 p = none → G p = none → H p = some (.lst vs) → RepL K c G ds vs → E.rt (.ref p) H
  | .bk ρ => ∀ σ H, StOk K c G0 H0 ρ σ H → E.bk σ H
  | .ct ρ => ∀ σ H, StOk K c G0 H0 ρ σ H → E.ct σ H
def tS (K : PySem.W.Frag) (c : Cf) (F : DS) : TS := fun E σ H => ∃ G0 H0 ρ o, StOk K c G0 H0 ρ σ H ∧ F ρ = some o ∧ OutK K c G0 H0 E o
theorem StG.step {G0 H0 G H G' H' : Hp} {ρ : Sl} {σ : St} (h : StG K c G0 H0 G H ρ σ) (g : Gr c G H G' H') : StG K c G0 H0 G' H' ρ σ := ⟨h.gr.trans g, h.sl.step g, h.nw⟩
theorem StG.ap {G0 H0 G H : Hp} {ρ : Sl} {σ : St} {l : List (Nat × D)} {vs : List (Nat × V)} (h : StG K c G0 H0 G H ρ σ) (r : RepA K c G l vs) : StG K c G0 H0 G H (apD ρ l) (apV σ vs) :=
  ⟨h.gr, h.sl.ap r, fun i ds p e1 e2 => by
    obtain ⟨q1, q2⟩ := own_ap (σ := σ) r h.sl.len e1
    rw [q2] at e2
    exact h.nw i ds p q1 e2⟩
/-- a new list of one's own in slot i -/
theorem Slots.setOwn {G H G' H' : Hp} {ρ : Sl} {σ : St} {i : Nat} {ds : List D} {vs : List V} {p : Addr} (h : Slots K c G H ρ σ) (g : Gr c G H G' H') (n : H p = none) (m : G' p = none) (e : H' p = some (.lst vs)) (r : RepL K c G' ds vs) :
    Slots K c G' H' (ρ.set i (.own ds)) (σ.set i (some (.ref p))) := by
  have h' := h.step g
  have np : ∀ (j : Nat) (es : List D), ρ[j]? = some (.own es) → σ[j]? ≠ some (some (.ref p)) := fun j es e1 e2 => by
    obtain ⟨q, us, a1, a2, a3, a4⟩ := h.own j es e1
    rw [a1] at e2
    cases e2
    rw [n] at a3
    cases a3
  refine ⟨by simp [h.len], fun j x q => ?_, fun j x q => ?_, fun j k x y q e1 e2 e3 e4 => ?_⟩
  · rcases set_eq q with ⟨rfl, hi, z⟩ | ⟨hj, q⟩
    · cases z
    · rw [List.getElem?_set_ne hj]
      exact h'.val j x q
  · rcases set_eq q with ⟨rfl, hi, z⟩ | ⟨hj, q⟩
    · cases z
      exact ⟨p, vs, List.getElem?_set_self (by rw [← h.len]; exact hi), m, e, r⟩
    · rw [List.getElem?_set_ne hj]
      exact h'.own j x q
  · rcases set_eq e1 with ⟨rfl, hi, z⟩ | ⟨hj, e1⟩
    · rcases set_eq e2 with ⟨rfl, _, _⟩ | ⟨hk, e2⟩
      · rfl
      · rw [List.getElem?_set_self (by rw [← h.len]; exact hi)] at e3
        cases e3
        rw [List.getElem?_set_ne hk] at e4
        exact absurd e4 (np k y e2)
    · rcases set_eq e2 with ⟨rfl, hi, z⟩ | ⟨hk, e2⟩
      · rw [List.getElem?_set_self (by rw [← h.len]; exact hi)] at e4
        cases e4
        rw [List.getElem?_set_ne hj] at e3
        exact absurd e3 (np j x e1)
      · rw [List.getElem?_set_ne hj] at e3
        rw [List.getElem?_set_ne hk] at e4
        exact h'.dis j k x y q e1 e2 e3 e4
theorem StG.setOwn {G0 H0 G H G' H' : Hp} {ρ : Sl} {σ : St} {i : Nat} {ds : List D} {vs : List V} {p : Addr} (h : StG K c G0 H0 G H ρ σ) (g : Gr c G H G' H') (n : H p = none) (m : G' p = none) (e : H' p = some (.lst vs)) (r : RepL K c G' ds vs) :
    StG K c G0 H0 G' H' (ρ.set i (.own ds)) (σ.set i (some (.ref p))) := by
  refine ⟨h.gr.trans g, h.sl.setOwn g n m e r, fun j es q e1 e2 => ?_⟩
  rcases set_eq e1 with ⟨rfl, hi, z⟩ | ⟨hj, e1⟩
  · rw [List.getElem?_set_self (by rw [← h.sl.len]; exact hi)] at e2
    cases e2
    exact h.gr.d p n
  · rw [List.getElem?_set_ne hj] at e2
    exact h.nw j es q e1 e2
/-- the list of slot i has changed -/
theorem StG.upd {G0 H0 G H : Hp} {ρ : Sl} {σ : St} {i : Nat} {ds ds' : List D} {vs' : List V} {p : Addr} (h : StG K c G0 H0 G H ρ σ) (e : ρ[i]? = some (.own ds)) (e2 : σ[i]? = some (some (.ref p))) (r : RepL K c G ds' vs') :
    StG K c G0 H0 G (upd H p (.lst vs')) (ρ.set i (.own ds')) σ := by
  obtain ⟨q, us, a1, a2, a3, a4⟩ := h.sl.own i ds e
  rw [e2] at a1
  cases a1
  have hn := h.nw i ds p e e2
  have other : ∀ (j : Nat) (es : List D) (q : Addr), j ≠ i → ρ[j]? = some (.own es) → σ[j]? = some (some (.ref q)) → q ≠ p := fun j es q hj h1 h2 z => by
    subst z
    exact hj (h.sl.dis j i es ds q h1 e h2 e2)
  refine ⟨h.gr.chg hn a2 a3, ⟨by simp [h.sl.len], fun j x q => ?_, fun j x q => ?_, fun j k x y q e3 e4 e5 e6 => ?_⟩, fun j x q e3 e4 => ?_⟩
  · rcases set_eq q with ⟨rfl, _, z⟩ | ⟨hj, q⟩
    · cases z
    · exact h.sl.val j x q
  · rcases set_eq q with ⟨rfl, hi, z⟩ | ⟨hj, q⟩
    · cases z
      exact ⟨p, vs', e2, a2, upd_same, r⟩
    · obtain ⟨q', us', b1, b2, b3, b4⟩ := h.sl.own j x q
      exact ⟨q', us', b1, b2, by rw [upd_ne (other j x q' (Ne.symm hj) q b1)]; exact b3, b4⟩
  · have o1 : ∃ x', ρ[j]? = some (.own x') := by
      rcases set_eq e3 with ⟨rfl, _, _⟩ | ⟨_, e3⟩
      · exact ⟨ds, e⟩
      · exact ⟨x, e3⟩
    have o2 : ∃ x', ρ[k]? = some (.own x') := by
      rcases set_eq e4 with ⟨rfl, _, _⟩ | ⟨_, e4⟩
      · exact ⟨ds, e⟩
      · exact ⟨y, e4⟩
    obtain ⟨x1, o1⟩ := o1
    obtain ⟨x2, o2⟩ := o2
    exact h.sl.dis j k x1 x2 q o1 o2 e5 e6
  · rcases set_eq e3 with ⟨rfl, _, _⟩ | ⟨_, e3⟩
    · exact h.nw _ ds q e e4
    · exact h.nw j x q e3 e4
/-- a list of one's own is told as a value from now on -/
theorem StG.frz {G0 H0 G H : Hp} {ρ : Sl} {σ : St} {i : Nat} {ds : List D} (h : StG K c G0 H0 G H ρ σ) (e : ρ[i]? = some (.own ds)) : ∃ G', StG K c G0 H0 G' H (ρ.set i (.val (.lst ds))) σ := by
  obtain ⟨p, vs, a1, a2, a3, a4⟩ := h.sl.own i ds e
  have hn := h.nw i ds p e a1
  have sm : Same G (L2.upd G p (.lst vs)) := Same.new a2
  refine ⟨L2.upd G p (.lst vs), h.gr.take hn a2 a3, ⟨by simp [h.sl.len], fun j x q => ?_, fun j x q => ?_, fun j k x y q e3 e4 e5 e6 => ?_⟩, fun j x q e3 e4 => ?_⟩
  · rcases set_eq q with ⟨rfl, _, z⟩ | ⟨hj, q⟩
    · cases z
      exact ⟨.ref p, a1, p, vs, rfl, upd_same, a4.mono sm⟩
    · obtain ⟨v, b1, b2⟩ := h.sl.val j x q
      exact ⟨v, b1, b2.mono sm⟩
  · rcases set_eq q with ⟨rfl, _, z⟩ | ⟨hj, q⟩
    · cases z
    · obtain ⟨q', us', b1, b2, b3, b4⟩ := h.sl.own j x q
      refine ⟨q', us', b1, ?_, b3, b4.mono sm⟩
      rw [upd_ne ?_]
      · exact b2
      · intro z
        subst z
        exact hj (h.sl.dis i j ds x q' e q a1 b1)
  · rcases set_eq e3 with ⟨rfl, _, z⟩ | ⟨_, e3⟩
    · cases z
    · rcases set_eq e4 with ⟨rfl, _, z⟩ | ⟨_, e4⟩
      · cases z
      · exact h.sl.dis j k x y q e3 e4 e5 e6
  · rcases set_eq e3 with ⟨rfl, _, z⟩ | ⟨_, e3⟩
    · cases z
    · exact h.nw j x q e3 e4
def frzD (i : Nat) (ρ : Sl) : Sl := match ρ[i]? with | some (.own ds) => ρ.set i (.val (.lst ds)) | _ => ρ
def sFrz (i : Nat) (F : DS) : DS := fun ρ => F (frzD i ρ)
theorem sFrz_step {i : Nat} {F : DS} : ∀ E σ H, tS K c (sFrz i F) E σ H → tS K c F E σ H := by
  rintro E σ H ⟨G0, H0, ρ, o, ⟨G, h⟩, e, k⟩
  unfold sFrz frzD at e
  split at e
  · rename_i ds q
    exact ⟨G0, H0, _, o, h.frz q, e, k⟩
  · exact ⟨G0, H0, ρ, o, ⟨G, h⟩, e, k⟩
theorem ss_frz (i : Nat) {F : DS} (h : PSs X sts (tS K c F)) : PSs X sts (tS K c (sFrz i F)) := h.imp sFrz_step
/-! reading lists of one's own -/
def dOwnIx (i : Nat) (g : DE) : DE := fun ρ => match ρ[i]?, g ρ with
  | some (.own ds), some (.int k) => L2.atI ds k
  | _, _ => none
theorem tVar_own {i : Nat} {σ : St} {H : Hp} {Q : VK} {v : V} (h : σ[i]? = some (some v)) (q : Q v H) : tVar i σ H Q := ⟨v, h, q⟩
theorem d_ownIx (i : Nat) {x : Str} {g : DE} {p1 : Pos} (hb : PE X b (tD X.K c g)) (hN : X.N[i]? = some x := by rfl) (hv : Vis X.env.scope x := by first | exact Or.inl rfl | exact Or.inr (Or.inl rfl) | exact Or.inr (Or.inr rfl)) (hs : PlainIx b := by exact fun _ _ => rfl)
    (hd : (x == ("__debug__" : Str)) = false := by decide) (hcd : (x == ("__classdict__" : Str)) = false := by decide) : PE X (.Subscript (.Name x p1) b pos) (tD X.K c (dOwnIx i g)) :=
  (pe_ix ix_list (pe_var hN hv hd hcd) hb hs).imp fun σ H Q ⟨G, ρ, d, s, sl, e, k⟩ => by
    unfold dOwnIx at e
    split at e
    · rename_i ds n q1 q2
      obtain ⟨p, vs, a1, a2, a3, a4⟩ := sl.own i ds q1
      refine ⟨_, a1, G, ρ, _, s, sl, q2, fun w G1 H1 g1 r1 => ?_⟩
      cases r1
      obtain ⟨v, h1, h2⟩ := a4.atI e
      exact ⟨p, vs, n, v, rfl, rfl, SqL.of (g1.hl a3), h1, k v G1 H1 g1 (h2.mono g1.g)⟩
    · cases e
def dOwnLen (i : Nat) : DE := fun ρ => match ρ[i]? with
  | some (.own ds) => some (.int ds.length)
  | _ => none
theorem d_ownLen (i : Nat) {x : Str} {p1 p2 : Pos} (hm : X.mg "len" = none) (hN : X.N[i]? = some x := by rfl) (hv : Vis X.env.scope x := by first | exact Or.inl rfl | exact Or.inr (Or.inl rfl) | exact Or.inr (Or.inr rfl)) (hg : Gl X "len" := by rfl)
    (hd : (x == ("__debug__" : Str)) = false := by decide) (hcd : (x == ("__classdict__" : Str)) = false := by decide) (he : starEach [Expr.Name x p1] X.env = (false, eval (.Name x p1) X.env) :: starEach [] X.env := by rfl) : PE X (.Call (.Name "len" p2) [.Name x p1] [] pos) (tD X.K c (dOwnLen i)) :=
  (pe_callB call_len_seq hg hm (by decide +kernel) (pa_cons (pe_var hN hv hd hcd) pa_nil he)).imp fun σ H Q ⟨G, ρ, d, s, sl, e, k⟩ => by
    unfold dOwnLen at e
    split at e
    · rename_i ds q1
      cases e
      obtain ⟨p, vs, a1, a2, a3, a4⟩ := sl.own i ds q1
      exact ⟨_, a1, p, vs, rfl, .inl (SqL.of a3), k _ G H (.refl s) (by rw [a4.length]; rfl)⟩
    · cases e
/-! blocks -/
def sNil : DS := fun ρ => some (.nx ρ)
def sSeq (F G : DS) : DS := fun ρ => match F ρ with
  | some (.nx ρ') => G ρ'
  | r => r
theorem ss_nil : PSs X [] (tS K c sNil) := pss_nil.imp fun E σ H ⟨G0, H0, ρ, o, h, e, k⟩ => by
  cases e
  exact k σ H h
theorem ss_cons {F G : DS} (h1 : PS X st (tS K c F)) (h2 : PSs X sts (tS K c G)) : PSs X (st :: sts) (tS K c (sSeq F G)) := (pss_cons h1 h2).imp fun E σ H ⟨G0, H0, ρ, o, h, e, k⟩ => by
  unfold sSeq at e
  split at e
  · rename_i ρ' q
    exact ⟨G0, H0, ρ, _, h, q, fun σ' H' h' => ⟨G0, H0, ρ', o, h', e, k⟩⟩
  · rename_i r
    refine ⟨G0, H0, ρ, o, h, e, ?_⟩
    cases o with
    | nx ρ' => exact (r ρ' e).elim
    | rt d => exact k
    | ro d => exact k
    | bk ρ' => exact k
    | ct ρ' => exact k
theorem ss_one {F : DS} (h1 : PS X st (tS K c F)) : PSs X [st] (tS K c F) := pss_one h1
def sBreak : DS := fun ρ => some (.bk ρ)
def sCont : DS := fun ρ => some (.ct ρ)
theorem s_pass : PS X (.Pass pos) (tS K c sNil) := ps_pass.imp fun E σ H ⟨G0, H0, ρ, o, h, e, k⟩ => by cases e; exact k σ H h
theorem s_break : PS X (.Break pos) (tS K c sBreak) := ps_break.imp fun E σ H ⟨G0, H0, ρ, o, h, e, k⟩ => by cases e; exact k σ H h
theorem s_cont : PS X (.Continue pos) (tS K c sCont) := ps_continue.imp fun E σ H ⟨G0, H0, ρ, o, h, e, k⟩ => by cases e; exact k σ H h
def sNever : DS := fun _ => none
theorem s_never : PS X st (tS K c sNever) := ps_never.imp fun E σ H ⟨_, _, _, _, _, e, _⟩ => by cases e
theorem ss_never : PSs X sts (tS K c sNever) := pss_never.imp fun E σ H ⟨_, _, _, _, _, e, _⟩ => by cases e
/-! stores -/
def sAsg (f : DE) (T : TgD) : DS := fun ρ => (f ρ).bind fun d => (T d).map fun l => .nx (apD ρ l)
theorem sAsg_step {f : DE} {T : TgD} : ∀ E σ H, tS K c (sAsg f T) E σ H → tAsg (tD K c f) (tG K c T) E σ H := by
  rintro E σ H ⟨G0, H0, ρ, o, ⟨G, h⟩, e, k⟩
  unfold sAsg at e
  obtain ⟨d, ed, e⟩ := Option.bind_eq_some_iff.mp e
  obtain ⟨l, el, rfl⟩ := Option.map_eq_some_iff.mp e
  exact ⟨G, ρ, d, h.gr.s, h.sl, ed, fun v G1 H1 g1 r1 => ⟨G1, d, l, g1.s, r1, el, fun vs rv => k _ _ ⟨G1, (h.step g1).ap rv⟩⟩⟩
theorem s_asg {tg : Expr} {f : DE} {T : TgD} (he : PE X e (tD K c f)) (hg : PG X tg (tG K c T)) (hs : swapsWithSole [tg] e pos.line X.env = pure false := by rfl) (hw : swappedStores [tg] e X.env = pure none := by rfl)
    (h1 : (assignEach [tg] X.env).map (·.2) = [assign tg X.env] := by rfl) : PS X (.Assign [tg] e pos) (tS K c (sAsg f T)) := (ps_asg he hg hs hw h1).imp sAsg_step
theorem s_set {i : Nat} {x : Str} {f : DE} {pos' : Pos} (hN : X.N.Nodup) (he : PE X e (tD K c f)) (hi : X.N[i]? = some x := by rfl) (hx : Loc X.env.scope x := by first | exact Or.inl rfl | exact Or.inr rfl) (hs : swapsWith e (some (.Name x pos')) pos.line X.env = pure false := by rfl)
    (hf : X.fn x = true ∨ X.env.scope.names.lookup x = some .local := by first | exact .inl rfl | exact .inr rfl) : PS X (.Assign [.Name x pos'] e pos) (tS K c (sAsg f (tgN i))) := (ps_set hN hi hx he hs hf).imp fun E σ H ⟨G0, H0, ρ, o, ⟨G, h⟩, e, k⟩ => by
  unfold sAsg at e
  obtain ⟨d, ed, e⟩ := Option.bind_eq_some_iff.mp e
  obtain ⟨l, el, rfl⟩ := Option.map_eq_some_iff.mp e
  cases el
  exact ⟨G, ρ, d, h.gr.s, h.sl, ed, fun v G1 H1 g1 r1 => k _ _ ⟨G1, (h.step g1).ap (l := [(i, d)]) (vs := [(i, v)]) ⟨v, [], rfl, r1, rfl⟩⟩⟩
/-- x = [..] on one line, x a local -/
theorem s_setLc {i : Nat} {y : Str} {py : Pos} {elt tg iter : Expr} {ifs : List Expr} {scope : Scope} {own : List (Str × Nat)} {spos : Pos} {it : Sl → Option (List D)} {T : TgD} {test : DB} {fe : DE} (hc : X.calm = true) (hN : X.N.Nodup) (hi : DPI X c tg iter it) (ok : BlkOk X.N X.env.scope scope own)
    (hT : ∀ d l, T d = some l → ∀ q ∈ l, q.1 ∈ own.map (·.2))
    (hg : ∀ (s : Shared) (H : Hp) (C : Addr) (cl : List (Str × Addr)) (fp : List Addr), PG (X.blk s H scope (compEnvC scope cl C X.env) fp) tg (tG X.K c T)) (ht : ∀ (s : Shared) (H : Hp) (C : Addr) (cl : List (Str × Addr)) (fp : List Addr), PTs (X.blk s H scope (compEnvC scope cl C X.env) fp) ifs (tDT X.K c test))
    (he : ∀ (s : Shared) (H : Hp) (C : Addr) (cl : List (Str × Addr)) (fp : List Addr), PE (X.blk s H scope (compEnvC scope cl C X.env) fp) elt (tD X.K c fe)) (hy : X.N[i]? = some y := by rfl) (hyl : X.env.scope.names.lookup y = some .local := by rfl)
    (hsw : swapsWith (.ListComp elt [⟨tg, iter, ifs, 0⟩] scope pos) (some (.Name y py)) spos.line X.env = pure true := by exact sw_true rfl rfl rfl (by decide +kernel)) (hs : ∀ x, foldedSetIterable iter X.env x = pure x := by intro _; rfl) :
    PS X (.Assign [.Name y py] (.ListComp elt [⟨tg, iter, ifs, 0⟩] scope pos) spos) (tS X.K c (sAsg (dO (oLc it T test fe (own.map (·.2)))) (tgN i))) := by
  obtain ⟨wi, h1, h2⟩ := hi.ex
  refine (ps_setLc hc hN hy hyl hsw h1 ok hg ht he hs).imp fun E σ H ⟨G0, H0, ρ, o, ⟨G, h⟩, e, k⟩ => ?_
  unfold sAsg dO at e
  obtain ⟨d, ed, e⟩ := Option.bind_eq_some_iff.mp e
  obtain ⟨l, el, rfl⟩ := Option.map_eq_some_iff.mp e
  cases el
  obtain ⟨ds, eo, rfl⟩ := Option.map_eq_some_iff.mp ed
  refine oLc_step (tg := tg) (iter := iter) hT h2 σ H _ ⟨G, ρ, ds, h.gr.s, h.sl, eo, fun p vs G' H' g n m q r => ?_⟩
  exact k _ _ ⟨_, (h.step (g.take n m q)).ap (l := [(i, .lst ds)]) (vs := [(i, .ref p)]) ⟨_, [], rfl, ⟨p, vs, rfl, upd_same, r.mono (Same.new m)⟩, rfl⟩⟩
def sAsgO (f : DOw) (i : Nat) : DS := fun ρ => (f ρ).map fun ds => .nx (ρ.set i (.own ds))
theorem s_setO {i : Nat} {x : Str} {f : DOw} {pos' : Pos} (hN : X.N.Nodup) (he : PE X e (tDo K c f)) (hi : X.N[i]? = some x := by rfl) (hx : Loc X.env.scope x := by first | exact Or.inl rfl | exact Or.inr rfl) (hs : swapsWith e (some (.Name x pos')) pos.line X.env = pure false := by rfl)
    (hf : X.fn x = true ∨ X.env.scope.names.lookup x = some .local := by first | exact .inl rfl | exact .inr rfl) : PS X (.Assign [.Name x pos'] e pos) (tS K c (sAsgO f i)) := (ps_set hN hi hx he hs hf).imp fun E σ H ⟨G0, H0, ρ, o, ⟨G, h⟩, e, k⟩ => by
  unfold sAsgO at e
  obtain ⟨ds, ed, rfl⟩ := Option.map_eq_some_iff.mp e
  exact ⟨G, ρ, ds, h.gr.s, h.sl, ed, fun p vs G' H' g n m q r => k _ _ ⟨G', h.setOwn g n m q r⟩⟩
theorem s_setLcO {i : Nat} {y : Str} {py : Pos} {elt tg iter : Expr} {ifs : List Expr} {scope : Scope} {own : List (Str × Nat)} {spos : Pos} {it : Sl → Option (List D)} {T : TgD} {test : DB} {fe : DE} (hc : X.calm = true) (hN : X.N.Nodup) (hi : DPI X c tg iter it) (ok : BlkOk X.N X.env.scope scope own)
    (hT : ∀ d l, T d = some l → ∀ q ∈ l, q.1 ∈ own.map (·.2))
    (hg : ∀ (s : Shared) (H : Hp) (C : Addr) (cl : List (Str × Addr)) (fp : List Addr), PG (X.blk s H scope (compEnvC scope cl C X.env) fp) tg (tG X.K c T)) (ht : ∀ (s : Shared) (H : Hp) (C : Addr) (cl : List (Str × Addr)) (fp : List Addr), PTs (X.blk s H scope (compEnvC scope cl C X.env) fp) ifs (tDT X.K c test))
    (he : ∀ (s : Shared) (H : Hp) (C : Addr) (cl : List (Str × Addr)) (fp : List Addr), PE (X.blk s H scope (compEnvC scope cl C X.env) fp) elt (tD X.K c fe)) (hy : X.N[i]? = some y := by rfl) (hyl : X.env.scope.names.lookup y = some .local := by rfl)
    (hsw : swapsWith (.ListComp elt [⟨tg, iter, ifs, 0⟩] scope pos) (some (.Name y py)) spos.line X.env = pure true := by exact sw_true rfl rfl rfl (by decide +kernel)) (hs : ∀ x, foldedSetIterable iter X.env x = pure x := by intro _; rfl) :
    PS X (.Assign [.Name y py] (.ListComp elt [⟨tg, iter, ifs, 0⟩] scope pos) spos) (tS X.K c (sAsgO (oLc it T test fe (own.map (·.2))) i)) := by
  obtain ⟨wi, h1, h2⟩ := hi.ex
  refine (ps_setLc hc hN hy hyl hsw h1 ok hg ht he hs).imp fun E σ H ⟨G0, H0, ρ, o, ⟨G, h⟩, e, k⟩ => ?_
  unfold sAsgO at e
  obtain ⟨ds, eo, rfl⟩ := Option.map_eq_some_iff.mp e
  exact oLc_step (tg := tg) (iter := iter) hT h2 σ H _ ⟨G, ρ, ds, h.gr.s, h.sl, eo, fun p vs G' H' g n m q r => k _ _ ⟨G', h.setOwn g n m q r⟩⟩
/-- x.append(e) -/
def sApp (i : Nat) (f : DE) : DS := fun ρ => match ρ[i]?, f ρ with
  | some (.own ds), some d => if ds.length ≤ 100000 then some (.nx (ρ.set i (.own (ds ++ [d])))) else none
  | _, _ => none
theorem s_app (i : Nat) {x : Str} {f : DE} {p1 p2 p3 : Pos} (he : PE X e (tD X.K c f)) (hN : X.N[i]? = some x := by rfl) (hv : Vis X.env.scope x := by first | exact Or.inl rfl | exact Or.inr (Or.inl rfl) | exact Or.inr (Or.inr rfl))
    (hd : (x == ("__debug__" : Str)) = false := by decide) (hcd : (x == ("__classdict__" : Str)) = false := by decide)
    (hsw : swapsWith (.Call (.Attribute (.Name x p1) "append" p2) [e] [] p3) none pos.line X.env = pure false := by rfl)
    (hbase : attributeBase (.Name x p1) "append" X.env (eval (.Name x p1) X.env) = eval (.Name x p1) X.env := by rfl)
    (hfew : ((backTo p3 (starEach [e] X.env)).all (fun x => !x.1) && (backToKw p3 (keywordEach [] X.env)).all (fun x => x.1.isSome)
      && decide ([e].length + ([] : List Keyword).length + (if ([] : List Keyword).isEmpty then 0 else 1) < 30)) = true := by rfl)
    (hline : (p2.endLine == p3.line) = true := by rfl) (hs : starEach [e] X.env = (false, eval e X.env) :: starEach [] X.env := by rfl) (hplain : (backTo p3 (starEach [] X.env)).any (·.1) = false := by rfl) :
    PS X (.Expr (.Call (.Attribute (.Name x p1) "append" p2) [e] [] p3) pos) (tS X.K c (sApp i f)) :=
  (ps_expr (pe_bm PySem.F.plainAttrs_list PySem.F.slot_list_append PySem.F.type_list_append mt_append (pe_var hN hv hd hcd) (pa_cons he pa_nil hs) hbase hfew hline hs hplain) hsw).imp fun E σ H ⟨G0, H0, ρ, o, ⟨G, h⟩, e, k⟩ => by
    unfold sApp at e
    split at e
    · rename_i ds d q1 q2
      split at e
      · rename_i hl
        cases e
        obtain ⟨p, vs, a1, a2, a3, a4⟩ := h.sl.own i ds q1
        refine ⟨_, a1, .inl ⟨rfl, vs, SqL.of a3⟩, G, ρ, d, h.gr.s, h.sl, q2, fun v G1 H1 g1 r1 => ?_⟩
        have lt : vs.length < sizeLine := by
          rw [a4.length]
          exact Nat.lt_of_le_of_lt hl (by decide)
        exact ⟨p, vs, v, rfl, rfl, g1.hl a3, lt, k _ _ ⟨G1, (h.step g1).upd q1 a1 ((a4.mono g1.g).append (.one r1))⟩⟩
      · cases e
    · cases e
/-- x[i] = e -/
def sSetI (i : Nat) (g f : DE) : DS := fun ρ => match ρ[i]?, g ρ, f ρ with
  | some (.own ds), some (.int n), some d => (ixN ds.length n).map fun j => .nx (ρ.set i (.own (ds.set j d)))
  | _, _, _ => none
theorem s_setI (i : Nat) {x : Str} {ix : Expr} {f g : DE} {p1 p2 : Pos} (he : PE X e (tD X.K c f)) (hi : PE X ix (tD X.K c g)) (hN : X.N[i]? = some x := by rfl) (hv : Vis X.env.scope x := by first | exact Or.inl rfl | exact Or.inr (Or.inl rfl) | exact Or.inr (Or.inr rfl))
    (hd : (x == ("__debug__" : Str)) = false := by decide) (hcd : (x == ("__classdict__" : Str)) = false := by decide)
    (ha : ∀ v, assign (.Subscript (.Name x p1) ix p2) X.env v = (do
      let ov ← holding [v] (eval (.Name x p1) X.env)
      let iv ← holding [v, ov] (eval ix X.env)
      standAt p2
      holding [v, ov, iv] (setItem ov iv v)
      release [v, ov, iv] []) := by intro _; rfl)
    (hs : swapsWithSole [.Subscript (.Name x p1) ix p2] e pos.line X.env = pure false := by rfl) (hw : swappedStores [.Subscript (.Name x p1) ix p2] e X.env = pure none := by rfl)
    (h1 : (assignEach [.Subscript (.Name x p1) ix p2] X.env).map (·.2) = [assign (.Subscript (.Name x p1) ix p2) X.env] := by rfl) :
    PS X (.Assign [.Subscript (.Name x p1) ix p2] e pos) (tS X.K c (sSetI i g f)) :=
  (ps_asg he (pg_sub (pe_var hN hv hd hcd) hi set_list ha) hs hw h1).imp fun E σ H ⟨G0, H0, ρ, o, ⟨G, h⟩, e, k⟩ => by
    unfold sSetI at e
    split at e
    · rename_i ds n d q1 q2 q3
      obtain ⟨j, ej, rfl⟩ := Option.map_eq_some_iff.mp e
      obtain ⟨p, vs, a1, a2, a3, a4⟩ := h.sl.own i ds q1
      refine ⟨G, ρ, d, h.gr.s, h.sl, q3, fun v G1 H1 g1 r1 => ⟨_, a1, G1, ρ, _, g1.s, h.sl.step g1, q2, fun w G2 H2 g2 r2 => ?_⟩⟩
      cases r2
      have g := g1.trans g2
      exact ⟨p, vs, n, j, rfl, rfl, g.hl a3, by rw [a4.length]; exact ej, k _ _ ⟨G2, (h.step g).upd q1 a1 ((a4.mono g.g).set (r1.mono g2.g))⟩⟩
    · cases e
def sDrop (f : DE) : DS := fun ρ => (f ρ).map fun _ => .nx ρ
theorem s_expr {f : DE} (he : PE X e (tD K c f)) (hs : swapsWith e none pos.line X.env = pure false := by rfl) : PS X (.Expr e pos) (tS K c (sDrop f)) := (ps_expr he hs).imp fun E σ H ⟨G0, H0, ρ, o, ⟨G, h⟩, e, k⟩ => by
  unfold sDrop at e
  obtain ⟨d, ed, rfl⟩ := Option.map_eq_some_iff.mp e
  exact ⟨G, ρ, d, h.gr.s, h.sl, ed, fun v G1 H1 g1 r1 => k _ _ ⟨G1, h.step g1⟩⟩
theorem s_doc {x j p2} : PS X (.Expr (.Constant (.str x) j p2) pos) (tS K c sNil) := ps_doc.imp fun E σ H ⟨G0, H0, ρ, o, h, e, k⟩ => by cases e; exact k σ H h
/-! returns -/
def sRet (f : DE) : DS := fun ρ => (f ρ).map .rt
theorem s_ret {f : DE} (he : PE X e (tD K c f)) : PS X (.Return (some e) pos) (tS K c (sRet f)) := (ps_ret he).imp fun E σ H ⟨G0, H0, ρ, o, ⟨G, h⟩, e, k⟩ => by
  unfold sRet at e
  obtain ⟨d, ed, rfl⟩ := Option.map_eq_some_iff.mp e
  exact ⟨G, ρ, d, h.gr.s, h.sl, ed, fun v G1 H1 g1 r1 => k v G1 H1 (h.gr.trans g1) r1⟩
def sRetE (f : DOw) : DS := fun ρ => (f ρ).map .ro
theorem s_retE {f : DOw} (he : PE X e (tDo K c f)) : PS X (.Return (some e) pos) (tS K c (sRetE f)) := (ps_ret he).imp fun E σ H ⟨G0, H0, ρ, o, ⟨G, h⟩, e, k⟩ => by
  unfold sRetE at e
  obtain ⟨d, ed, rfl⟩ := Option.map_eq_some_iff.mp e
  exact ⟨G, ρ, d, h.gr.s, h.sl, ed, fun p vs G1 H1 g1 n m q r1 => k p vs G1 H1 (h.gr.trans g1) (h.gr.d p n) m q r1⟩
def sRetO (i : Nat) : DS := fun ρ => match ρ[i]? with
  | some (.own ds) => some (.ro ds)
  | _ => none
theorem s_retO (i : Nat) {x : Str} {p1 : Pos} (hN : X.N[i]? = some x := by rfl) (hv : Vis X.env.scope x := by first | exact Or.inl rfl | exact Or.inr (Or.inl rfl) | exact Or.inr (Or.inr rfl))
    (hd : (x == ("__debug__" : Str)) = false := by decide) (hcd : (x == ("__classdict__" : Str)) = false := by decide) : PS X (.Return (some (.Name x p1)) pos) (tS K c (sRetO i)) := (ps_ret (pe_var hN hv hd hcd)).imp fun E σ H ⟨G0, H0, ρ, o, ⟨G, h⟩, e, k⟩ => by
  unfold sRetO at e
  split at e
  · rename_i ds q
    cases e
    obtain ⟨p, vs, a1, a2, a3, a4⟩ := h.sl.own i ds q
    exact ⟨_, a1, k p vs G H h.gr (h.nw i ds p q a1) a2 a3 a4⟩
  · cases e
def sRetN : DS := fun _ => some (.rt .non)
theorem s_retN : PS X (.Return none pos) (tS K c sRetN) := ps_retN.imp fun E σ H ⟨G0, H0, ρ, o, ⟨G, h⟩, e, k⟩ => by
  cases e
  exact k .non G H h.gr rfl
/-! if, for, while -/
def sIf (t : DB) (F G : DS) : DS := fun ρ => match t ρ with
  | some true => F ρ
  | some false => G ρ
  | none => none
theorem s_if {cd : Expr} {A B : List Stmt} {t : DB} {F G : DS} (hc : PT X cd (tDT K c t)) (ha : PSs X A (tS K c F)) (hb : PSs X B (tS K c G)) : PS X (.If cd A B pos) (tS K c (sIf t F G)) := (ps_if hc ha hb).imp fun E σ H ⟨G0, H0, ρ, o, ⟨Gx, h⟩, e, k⟩ => by
  unfold sIf at e
  split at e
  · rename_i q
    exact ⟨Gx, ρ, true, h.gr.s, h.sl, q, fun G1 H1 g1 => iteT ⟨G0, H0, ρ, o, ⟨G1, h.step g1⟩, e, k⟩⟩
  · rename_i q
    exact ⟨Gx, ρ, false, h.gr.s, h.sl, q, fun G1 H1 g1 => iteF ⟨G0, H0, ρ, o, ⟨G1, h.step g1⟩, e, k⟩⟩
  · cases e
def forD (T : TgD) (B : DS) : List D → DS
  | [], ρ => some (.nx ρ)
  | d :: ds, ρ => (T d).bind fun l => match B (apD ρ l) with
    | some (.nx ρ') => forD T B ds ρ'
    | some (.ct ρ') => forD T B ds ρ'
    | some (.bk ρ') => some (.nx ρ')
    | some (.rt x) => some (.rt x)
    | some (.ro x) => some (.ro x)
    | none => none
def sFor (it : Sl → Option (List D)) (T : TgD) (B : DS) : DS := fun ρ => (it ρ).bind fun ds => forD T B ds ρ
/-- what may be read has grown -/
theorem Gr.re {G0 H0 G1 H1 G H : Hp} (a : Gr c G0 H0 G1 H1) (b : Gr c G1 H0 G H) : Gr c G0 H0 G H := ⟨a.g.trans b.g, b.h, b.d, b.m, b.s, fun x o e n => b.f x o e (a.f x o e n)⟩
theorem Gr.up {G0 H0 G1 H1 G H : Hp} (a : Gr c G0 H0 G1 H1) (b : Gr c G1 H1 G H) : Gr c G1 H0 G H :=
  let t := a.trans b
  ⟨b.g, t.h, t.d, t.m, b.s, fun x o e n => let ⟨o', e'⟩ := a.ex e; b.f x o' e' n⟩
theorem OutK.re {G0 H0 G1 H1 : Hp} {E : Ends} {o : Out} (a : Gr c G0 H0 G1 H1) (k : OutK K c G0 H0 E o) : OutK K c G1 H0 E o := by
  cases o with
  | nx ρ => exact fun σ H ⟨G, h⟩ => k σ H ⟨G, a.re h.gr, h.sl, h.nw⟩
  | bk ρ => exact fun σ H ⟨G, h⟩ => k σ H ⟨G, a.re h.gr, h.sl, h.nw⟩
  | ct ρ => exact fun σ H ⟨G, h⟩ => k σ H ⟨G, a.re h.gr, h.sl, h.nw⟩
  | rt d => exact fun v G H g r => k v G H (a.re g) r
  | ro d => exact fun p vs G H g n m q r => k p vs G H (a.re g) n m q r
theorem s_for {tg iter : Expr} {body : List Stmt} {it : Sl → Option (List D)} {T : TgD} {B : DS} (hp : PassesOwn (model X.prog X.w) X.A X.env X.xe) (hc : X.calm = true) (hi : DPI X c tg iter it) (hg : PG X tg (tG X.K c T)) (hb : PSs X body (tS X.K c B)) (hs : ∀ x, foldedSetIterable iter X.env x = pure x := by intro _; rfl) :
    PS X (.For tg iter body [] pos) (tS X.K c (sFor it T B)) := by
  obtain ⟨wi, h1, h2⟩ := hi.ex
  refine (ps_for hp hc h1 hg hb hs).imp fun E σ H ⟨G0, H0, ρ, o, ⟨G, h⟩, e, k⟩ => ?_
  unfold sFor at e
  obtain ⟨ds, ed, e⟩ := Option.bind_eq_some_iff.mp e
  refine h2 σ H _ ⟨G, ρ, ds, h.gr.s, h.sl, ed, fun J G1 H1 g1 w => ?_⟩
  have gr1 : Gr c G0 H0 G1 H1 := h.gr.trans g1
  have k1 : OutK X.K c G1 H0 E o := k.re gr1
  refine ⟨fun i m σ' H' => m = ds.length - i ∧ i ≤ ds.length ∧ ∃ ρ', StOk X.K c G1 H0 ρ' σ' H' ∧ forD T B (ds.drop i) ρ' = some o, ⟨_, rfl, Nat.zero_le _, ρ, ⟨G1, gr1.up (.refl g1.s), h.sl.step g1, h.nw⟩, e⟩, ?_⟩
  rintro i m σ' H' ⟨rfl, hi, ρ', ⟨G', h'⟩, e'⟩
  by_cases hlt : i < ds.length
  · refine .inr ⟨w.go i G' H' hlt h'.gr.g h'.gr.s, fun σ2 H2 => ∃ ρ2, StOk X.K c G1 H0 ρ2 σ2 H2 ∧ forD T B (ds.drop (i + 1)) ρ2 = some o, fun σ2 H2 q => ⟨_, by omega, rfl, hlt, q⟩, fun x H2 y => ?_⟩
    obtain ⟨G3, d, g3, hd, rd⟩ := w.yld i G' H' x H2 hlt h'.gr.g h'.gr.s y
    rw [List.drop_eq_getElem_cons hlt] at e'
    have hd' : ds[i] = d := by rw [List.getElem?_eq_getElem hlt] at hd; exact Option.some.inj hd
    rw [hd'] at e'
    unfold forD at e'
    obtain ⟨l, hl, e'⟩ := Option.bind_eq_some_iff.mp e'
    refine ⟨G3, d, l, g3.s, rd, hl, fun us ru => ?_⟩
    have hB := (h'.step g3).ap ru
    split at e'
    · rename_i ρ3 q
      exact ⟨G1, H0, _, _, ⟨G3, hB⟩, q, fun σ4 H4 h4 => ⟨ρ3, h4, e'⟩⟩
    · rename_i ρ3 q
      exact ⟨G1, H0, _, _, ⟨G3, hB⟩, q, fun σ4 H4 h4 => ⟨ρ3, h4, e'⟩⟩
    · rename_i ρ3 q
      cases e'
      exact ⟨G1, H0, _, _, ⟨G3, hB⟩, q, k1⟩
    · rename_i ρ3 q
      cases e'
      exact ⟨G1, H0, _, _, ⟨G3, hB⟩, q, k1⟩
    · rename_i ρ3 q
      cases e'
      exact ⟨G1, H0, _, _, ⟨G3, hB⟩, q, k1⟩
    · cases e'
  · have hn : i = ds.length := by omega
    subst hn
    rw [List.drop_length] at e'
    cases e'
    exact .inl ⟨w.stop G' H' h'.gr.g h'.gr.s, k1 σ' H' ⟨G', h'⟩⟩
def whileD (t : DB) (B : DS) : Nat → DS
  | 0, _ => none
  | n + 1, ρ => match t ρ with
    | some true => (match B ρ with
      | some (.nx ρ') => whileD t B n ρ'
      | some (.ct ρ') => whileD t B n ρ'
      | some (.bk ρ') => some (.nx ρ')
      | some (.rt x) => some (.rt x)
      | some (.ro x) => some (.ro x)
      | none => none)
    | some false => some (.nx ρ)
    | none => none
/-- the turns are bounded by n -/
def sWhile (n : Nat) (t : DB) (B : DS) : DS := fun ρ => whileD t B n ρ
theorem s_while (n : Nat) {cd : Expr} {body : List Stmt} {t : DB} {B : DS} (hp : PassesOwn (model X.prog X.w) X.A X.env X.xe) (hc : PT X cd (tDT K c t)) (hb : PSs X body (tS K c B)) : PS X (.While cd body [] pos) (tS K c (sWhile n t B)) :=
  (ps_while hp hc hb).imp fun E σ H ⟨G0, H0, ρ, o, h, e, k⟩ => by
    refine ⟨fun m σ' H' => ∃ ρ', StOk K c G0 H0 ρ' σ' H' ∧ whileD t B m ρ' = some o, ⟨n, ρ, h, e⟩, ?_⟩
    rintro m σ' H' ⟨ρ', ⟨G', h'⟩, e'⟩
    cases m with
    | zero => cases e'
    | succ m =>
      unfold whileD at e'
      split at e'
      · rename_i q
        refine ⟨G', ρ', true, h'.gr.s, h'.sl, q, fun G1 H1 g1 => iteT ⟨fun σ2 H2 => ∃ ρ2, StOk K c G0 H0 ρ2 σ2 H2 ∧ whileD t B m ρ2 = some o, fun σ2 H2 q => ⟨m, Nat.lt_succ_self m, q⟩, ?_⟩⟩
        have hB := h'.step g1
        split at e'
        · rename_i ρ3 q
          exact ⟨G0, H0, _, _, ⟨G1, hB⟩, q, fun σ4 H4 h4 => ⟨ρ3, h4, e'⟩⟩
        · rename_i ρ3 q
          exact ⟨G0, H0, _, _, ⟨G1, hB⟩, q, fun σ4 H4 h4 => ⟨ρ3, h4, e'⟩⟩
        · rename_i ρ3 q
          cases e'
          exact ⟨G0, H0, _, _, ⟨G1, hB⟩, q, k⟩
        · rename_i ρ3 q
          cases e'
          exact ⟨G0, H0, _, _, ⟨G1, hB⟩, q, k⟩
        · rename_i ρ3 q
          cases e'
          exact ⟨G0, H0, _, _, ⟨G1, hB⟩, q, k⟩
        · cases e'
      · rename_i q
        cases e'
        exact ⟨G', ρ', false, h'.gr.s, h'.sl, q, fun G1 H1 g1 => iteF (k σ' H1 ⟨G1, h'.step g1⟩)⟩
      · cases e'
/-! ### defs -/
def startD (n : Nat) (ds : List D) : Sl := ds.map .val ++ List.replicate (n - ds.length) .un
def runD (n : Nat) (B : DS) (ds : List D) : Option D := match B (startD n ds) with
  | some (.rt d) => some d
  | some (.nx _) => some .non
  | some (.ro ds) => some (.lst ds)
  | _ => none
/-- .. that hands back a new list -/
def runO (n : Nat) (B : DS) (ds : List D) : Option (List D) := match B (startD n ds) with
  | some (.ro ds) => some ds
  | _ => none
theorem slots_start {G H : Hp} {n : Nat} : ∀ {ds : List D} {vs : List V}, RepL K c G ds vs → Slots K c G H (startD n ds) (vs.map some ++ List.replicate (n - vs.length) none) := by
  intro ds vs h
  have hl := h.length
  have nown : ∀ (i : Nat) (es : List D), (startD n ds)[i]? ≠ some (.own es) := fun i es e => by
    unfold startD at e
    by_cases hi : i < ds.length
    · rw [List.getElem?_append_left (by simpa using hi), List.getElem?_map] at e
      cases q : ds[i]? with
      | none => rw [q] at e; cases e
      | some d => rw [q] at e; cases e
    · rw [List.getElem?_append_right (by simpa using hi), List.getElem?_replicate] at e
      split at e <;> cases e
  refine ⟨by simp [startD, hl], fun i d e => ?_, fun i es e => (nown i es e).elim, fun i _ es _ _ e _ _ _ => (nown i es e).elim⟩
  unfold startD at e
  by_cases hi : i < ds.length
  · rw [List.getElem?_append_left (by simpa using hi), List.getElem?_map] at e
    cases q : ds[i]? with
    | none => rw [q] at e; cases e
    | some d' =>
      rw [q] at e
      cases e
      obtain ⟨v, h1, h2⟩ := h.get q
      exact ⟨v, by rw [List.getElem?_append_left (by simp; omega), List.getElem?_map, h1]; rfl, h2⟩
  · rw [List.getElem?_append_right (by simpa using hi), List.getElem?_replicate] at e
    split at e <;> cases e
theorem stG_start {G H : Hp} {n : Nat} {ds : List D} {vs : List V} (s : Sm c G H) (h : RepL K c G ds vs) : StG K c G H G H (startD n ds) (vs.map some ++ List.replicate (n - vs.length) none) := by
  refine ⟨.refl s, slots_start h, fun i es p e _ => ?_⟩
  obtain ⟨q, us, a1, a2, a3, a4⟩ := (slots_start (H := H) (n := n) h).own i es e
  exfalso
  unfold startD at e
  by_cases hi : i < ds.length
  · rw [List.getElem?_append_left (by simpa using hi), List.getElem?_map] at e
    cases q : ds[i]? with
    | none => rw [q] at e; cases e
    | some d => rw [q] at e; cases e
  · rw [List.getElem?_append_right (by simpa using hi), List.getElem?_replicate] at e
    split at e <;> cases e
theorem run_end {G H : Hp} {n : Nat} {B : DS} {ds : List D} {d : D} {vs : List V} {Q : VK} (s : Sm c G H) (h : RepL K c G ds vs) (e : runD n B ds = some d) (k : ∀ v G' H', Gr c G H G' H' → Rep K c G' d v → Q v H') :
    tS K c B { nx := fun _ H' => Q .non H', rt := Q } (vs.map some ++ List.replicate (n - vs.length) none) H := by
  unfold runD at e
  split at e
  · rename_i x q
    cases e
    exact ⟨G, H, _, _, ⟨G, stG_start s h⟩, q, k⟩
  · rename_i ρ q
    cases e
    exact ⟨G, H, _, _, ⟨G, stG_start s h⟩, q, fun σ' H' ⟨G', h'⟩ => k .non G' H' h'.gr rfl⟩
  · rename_i x q
    cases e
    exact ⟨G, H, _, _, ⟨G, stG_start s h⟩, q, fun p us G' H' g n m q r => k _ _ H' (g.take n m q) ⟨p, us, rfl, upd_same, r.mono (Same.new m)⟩⟩
  · cases e
variable {P : Program} {w : World} {mg : Str → Option Value} {base : Heap}
/-- a def of the module, whatever its defaults -/
structure DFun (K : PySem.W.Frag) (x qual : Str) (st : Stmt) (f : Addr) (fd : FuncData) : Prop where
  ex : ∃ dvs, FunD K x qual (defArgs st) (defBody st) (defScope st) dvs [] f fd
theorem DFun.kp {x qual : Str} {f : Addr} {fd : FuncData} (F : DFun K x qual st f fd) : PySem.W.keepIn K (.ref f) = true := let ⟨_, h⟩ := F.ex; h.kp
theorem DFun.ok {x qual : Str} {f : Addr} {fd : FuncData} {N ps : List Str} {k : Nat} {sp : Sp} (F : DFun K x qual st f fd) (S : FnScope N ps (defScope st)) (len : ∀ vs H Q E, sp vs H Q E → vs.length = ps.length)
    (hbody : ∀ (cdv : Value) (A : Around) (outer : List Env) (s : Shared) (H : Hp) (vs : List V) (Q : VK) (E : XK), Room k (A.deeper (PyProof.Rows.envOfC qual (defScope st) s.heap.objs.size f cdv)) → sp vs H Q E →
      ∃ t, PSs (cxOf CX0 P w K mg base N qual (defScope st) f cdv A outer s H E).nox (defBody st) t ∧ t { nx := fun _ H' => Q .non H', rt := Q } (start N vs) H) : FnOk P w K mg base CX0 (k + 1) f fd ps sp := by
  obtain ⟨dvs, h⟩ := F.ex
  exact h.ok S len fun cdv A outer s H vs Q E hr hsp => let ⟨t, a, b⟩ := hbody cdv A outer s H vs Q E hr hsp; ⟨t, a.nox, b⟩
/-- a def that keeps the promise of its mirror -/
theorem okD {x qual : Str} {f : Addr} {fd : FuncData} {N ps : List Str} {k : Nat} (B : DS) (F : DFun K x qual st f fd) (S : FnScope N ps (defScope st))
    (hbody : ∀ (cdv : Value) (A : Around) (outer : List Env) (s : Shared) (H : Hp) (E : XK), Room k (A.deeper (PyProof.Rows.envOfC qual (defScope st) s.heap.objs.size f cdv)) →
      PSs (cxOf CX0 P w K mg base N qual (defScope st) f cdv A outer s H E).nox (defBody st) (tS K c B)) : FnOk P w K mg base CX0 (k + 1) f fd ps (spD K c ps.length (runD N.length B)) := by
  refine F.ok S (fun vs H Q E h => ?_) (fun cdv A outer s H vs Q E hr h => ?_)
  · obtain ⟨G, ds, d, _, r, hl, _⟩ := h
    rw [r.length, hl]
  · obtain ⟨G, ds, d, sm, r, hl, e, kk⟩ := h
    exact ⟨_, hbody cdv A outer s H E hr, run_end sm r e kk⟩
theorem okD' {x qual : Str} {f : Addr} {fd : FuncData} {N ps : List Str} {k n m : Nat} {B : DS} {M : List D → Option D} (F : DFun K x qual st f fd) (S : FnScope N ps (defScope st)) (hn : N.length = n) (hm : ps.length = m) (hM : M = runD n B)
    (hbody : ∀ (cdv : Value) (A : Around) (outer : List Env) (s : Shared) (H : Hp) (E : XK), Room k (A.deeper (PyProof.Rows.envOfC qual (defScope st) s.heap.objs.size f cdv)) →
      PSs (cxOf CX0 P w K mg base N qual (defScope st) f cdv A outer s H E).nox (defBody st) (tS K c B)) : FnOk P w K mg base CX0 (k + 1) f fd ps (spD K c m M) := by
  subst hn hm hM
  exact okD B F S hbody
/-- .. whose new list is the caller's own -/
def spO (K : PySem.W.Frag) (c : Cf) (n : Nat) (F : List D → Option (List D)) : Sp := fun vs H Q _ => ∃ G ds xs, Sm c G H ∧ RepL K c G ds vs ∧ ds.length = n ∧ F ds = some xs ∧ ∀ p us G' H', Gr c G H G' H' → H p = none → G' p = none → H' p = some (.lst us) → RepL K c G' xs us → Q (.ref p) H'
theorem okO {x qual : Str} {f : Addr} {fd : FuncData} {N ps : List Str} {k : Nat} (B : DS) (F : DFun K x qual st f fd) (S : FnScope N ps (defScope st))
    (hbody : ∀ (cdv : Value) (A : Around) (outer : List Env) (s : Shared) (H : Hp) (E : XK), Room k (A.deeper (PyProof.Rows.envOfC qual (defScope st) s.heap.objs.size f cdv)) →
      PSs (cxOf CX0 P w K mg base N qual (defScope st) f cdv A outer s H E).nox (defBody st) (tS K c B)) : FnOk P w K mg base CX0 (k + 1) f fd ps (spO K c ps.length (runO N.length B)) := by
  refine F.ok S (fun vs H Q E h => ?_) (fun cdv A outer s H vs Q E hr h => ?_)
  · obtain ⟨G, ds, d, _, r, hl, _⟩ := h
    rw [r.length, hl]
  · obtain ⟨G, ds, d, sm, r, hl, e, kk⟩ := h
    refine ⟨_, hbody cdv A outer s H E hr, ?_⟩
    unfold runO at e
    split at e
    · rename_i x q
      cases e
      exact ⟨G, H, _, _, ⟨G, stG_start sm r⟩, q, kk⟩
    · cases e
theorem okO' {x qual : Str} {f : Addr} {fd : FuncData} {N ps : List Str} {k n m : Nat} {B : DS} {M : List D → Option (List D)} (F : DFun K x qual st f fd) (S : FnScope N ps (defScope st)) (hn : N.length = n) (hm : ps.length = m) (hM : M = runO n B)
    (hbody : ∀ (cdv : Value) (A : Around) (outer : List Env) (s : Shared) (H : Hp) (E : XK), Room k (A.deeper (PyProof.Rows.envOfC qual (defScope st) s.heap.objs.size f cdv)) →
      PSs (cxOf CX0 P w K mg base N qual (defScope st) f cdv A outer s H E).nox (defBody st) (tS K c B)) : FnOk P w K mg base CX0 (k + 1) f fd ps (spO K c m M) := by
  subst hn hm hM
  exact okO B F S hbody
def oCall (n : Nat) (F : List D → Option (List D)) (g : DA) : DOw := fun ρ => (g ρ).bind fun ds => if ds.length = n then F ds else none
theorem o_call {x : Str} {k k' n : Nat} {ps : List Str} {F : List D → Option (List D)} {g : DA} {p : Pos} (C : Cal X.prog X.w X.K X.mg X.base x k ps (spO X.K c n F)) (hr : Room k' X.A) (hk : k ≤ k') (ha : PA X (e :: es) (tDA X.K c g)) (hg : Gl X x := by rfl)
    (hdb : (x == ("__debug__" : Str)) = false := by decide) (he : starEach (e :: es) X.env = (false, eval e X.env) :: starEach es X.env := by rfl) (hpl : (backTo pos (starEach es X.env)).any (·.1) = false := by rfl) :
    PE X (.Call (.Name x p) (e :: es) [] pos) (tDo X.K c (oCall n F g)) := by
  obtain ⟨f, fd, h1, h2, h3, h4⟩ := C.ex
  refine (pe_call h4 (hr.mono hk) hg h1 h2 h3 .nil pass0 ha hdb he hpl).imp fun σ H Q ⟨G, ρ, d, s, sl, e, k⟩ => ?_
  unfold oCall at e
  obtain ⟨ds, ed, e⟩ := Option.bind_eq_some_iff.mp e
  split at e
  · rename_i hl
    refine ⟨G, ρ, ds, s, sl, ed, fun vs G1 H1 g1 r1 => ?_⟩
    show spO X.K c n F (vs ++ []) H1 Q E0
    rw [List.append_nil]
    exact ⟨G1, ds, d, g1.s, r1, hl, e, fun p us G' H' g2 n m q r2 => k p us G' H' (g1.trans g2) (g1.d p n) m q r2⟩
  · cases e
/-- .. also taken as a value -/
theorem spO_spD {n : Nat} {F : List D → Option (List D)} {k : Nat} {f : Addr} {fd : FuncData} {ps : List Str} (h : FnOk P w K mg base CX0 k f fd ps (spO K c n F)) : FnOk P w K mg base CX0 k f fd ps (spD K c n fun ds => (F ds).map .lst) :=
  h.imp fun vs H Q E ⟨G, ds, d, s, r, hl, e, kk⟩ => by
    obtain ⟨xs, e1, rfl⟩ := Option.map_eq_some_iff.mp e
    exact ⟨G, ds, xs, s, r, hl, e1, fun p us G' H' g n m q r => kk _ _ H' (g.take n m q) ⟨p, us, rfl, upd_same, r.mono (Same.new m)⟩⟩
theorem cal_mk {x : Str} {f : Addr} {fd : FuncData} {k : Nat} {ps : List Str} {sp : Sp} (h1 : mg x = some (.ref f)) (h2 : PySem.W.keepIn K (.ref f) = true) (h3 : Binds K fd ps []) (h4 : FnOk P w K mg base CX0 k f fd ps sp) : Cal P w K mg base x k ps sp := ⟨f, fd, h1, h2, h3, h4⟩
end
end DL
set_option maxRecDepth 100000
namespace DL
open PySem L2
section
variable {X : Cx} {K : PySem.W.Frag} {c : Cf} {e a b : Expr} {es : List Expr} {pos : Pos} {st : Stmt} {sts : List Stmt}
/-! ### instances made -/
/-- the promise of an __init__ of the class n with m arguments: F tells the attributes -/
def spI (K : PySem.W.Frag) (c : Cf) (n m : Nat) (F : List D → Option (List D)) : Sp := fun vs H Q _ => ∃ x dx us G H0 ds fs, vs = .ref x :: us ∧ H0 x = none ∧ H0 dx = none ∧ dx ≠ x ∧ H = upd (upd H0 dx (.own x)) x (.ins (c.cl n) dx []) ∧ Sm c G H0 ∧
  RepL K c G ds us ∧ ds.length = m ∧ F ds = some fs ∧ ∀ G' H' fvs, Gr c G H0 G' H' → H' x = some (.ins (c.cl n) dx ((c.nm n).zip fvs)) → G' x = none → fvs.length = (c.nm n).length → RepL K c G' fs fvs → Q .non H'
structure Mak (P : Program) (w : World) (K : PySem.W.Frag) (mg : Str → Option Value) (base : Heap) (c : Cf) (x : Str) (n k m : Nat) (F : List D → Option (List D)) : Prop where
  ex : ∃ f fd ps, mg x = some (.ref (c.cl n)) ∧ Mk K (c.cl n) f ∧ Binds K fd ps [] ∧ FnOk P w K mg base CX0 k f fd ps (spI K c n m F)
def dMake (n m : Nat) (F : List D → Option (List D)) (g : DA) : DE := fun ρ => (g ρ).bind fun ds => if ds.length = m then (F ds).map (.ins n) else none
theorem dMake_step {n m : Nat} {F : List D → Option (List D)} {g : DA} : ∀ σ H Q, tD K c (dMake n m F g) σ H Q → tMake (c.cl n) (spI K c n m F) [] E0 (tDA K c g) σ H Q := by
  rintro σ H Q ⟨G, ρ, d, s, sl, e, k⟩
  unfold dMake at e
  obtain ⟨ds, ed, e⟩ := Option.bind_eq_some_iff.mp e
  split at e
  · rename_i hl
    obtain ⟨fs, ef, rfl⟩ := Option.map_eq_some_iff.mp e
    refine ⟨G, ρ, ds, s, sl, ed, fun vs G1 H1 g1 r1 x dx hx hdx ne => ?_⟩
    rw [List.append_nil]
    exact ⟨x, dx, vs, G1, H1, ds, fs, rfl, hx, hdx, ne, rfl, g1.s, r1, hl, ef, fun G' H' fvs g2 e2 n2 l2 r2 => ⟨rfl, k _ _ H' (g1.trans (g2.take hx n2 e2)) ⟨x, dx, fvs, rfl, upd_same, l2, r2.mono (Same.new n2)⟩⟩⟩
  · cases e
theorem d_make {x : Str} {n k k' m : Nat} {F : List D → Option (List D)} {g : DA} {p : Pos} (C : Mak X.prog X.w X.K X.mg X.base c x n k m F) (hr : Room k' X.A) (hk : k + 1 ≤ k') (ha : PA X (e :: es) (tDA X.K c g)) (hg : Gl X x := by rfl)
    (hdb : (x == ("__debug__" : Str)) = false := by decide +kernel) (he : starEach (e :: es) X.env = (false, eval e X.env) :: starEach es X.env := by rfl) (hpl : (backTo pos (starEach es X.env)).any (·.1) = false := by rfl) :
    PE X (.Call (.Name x p) (e :: es) [] pos) (tD X.K c (dMake n m F g)) := by
  obtain ⟨f, fd, ps, h1, h2, h3, h4⟩ := C.ex
  exact (pe_make h2 h4 (hr.mono hk) hg h1 h3 .nil pass0 ha hdb he hpl).imp dMake_step
/-- a class without __init__ -/
structure Mak0 (K : PySem.W.Frag) (mg : Str → Option Value) (c : Cf) (x : Str) (n : Nat) : Prop where
  mgC : mg x = some (.ref (c.cl n))
  makes : PySem.W.makesIn K (c.cl n) = true
  init : PySem.W.findIn K (.ref (c.cl n)) "__init__" = some (some (.builtin "object.__init__"))
  kp : PySem.W.keepIn K (.ref (c.cl n)) = true
  nn : c.nm n = []
  pl : c.pl []
theorem run_make0 {pins : List (Addr × Obj)} {σ : St} {H : Hp} {s : Shared} {Q : VK} {C : Addr} (hm : PySem.W.makesIn X.K C = true) (hi : PySem.W.findIn X.K (.ref C) "__init__" = some (some (.builtin "object.__init__"))) (I : Inv X pins σ H s)
    (h : ∀ x dx, H x = none → H dx = none → dx ≠ x → Q (.ref x) (upd (upd H dx (.own x)) x (.ins C dx []))) : wpAny (model X.prog X.w) X.A (call (.ref C) []) (EP X pins σ Q) X.xe s := by
  have hq := h (s.heap.objs.size + 1) s.heap.objs.size (I.hok.fresh (Nat.le_succ _)) (I.hok.fresh (Nat.le_refl _)) (Nat.ne_of_lt (Nat.lt_succ_self _))
  have I2 := Inv.made (C := C) I
  have KX := I.kIn
  refine wpAny_call (make_map0 KX hm hi (fun self => PySem.W.Looks.of_pure (PySem.W.oi_bind self)) ?_)
  obtain ⟨hh, g, d, t, os⟩ := s
  have Y := PySem.W.makes_of (M := model X.prog X.w) KX hm
  have n1 : ((hh.push PySem.W.emptyDict).push (PySem.W.instObj C hh.objs.size)).get? (hh.objs.size + 1) = some (PySem.W.instObj C hh.objs.size) := by
    have := Heap.get?_push_size (hh.push PySem.W.emptyDict) (o := PySem.W.instObj C hh.objs.size) rfl
    rwa [Heap.size_push] at this
  have t1 : PySem.W.Looks (model X.prog X.w) ((hh.push PySem.W.emptyDict).push (PySem.W.instObj C hh.objs.size)) (typeOf (.ref (hh.objs.size + 1))) (.ref C) := (PySem.W.Looks.ld n1).andThen .now
  have t2 : PySem.W.Looks (model X.prog X.w) ((hh.push PySem.W.emptyDict).push (PySem.W.instObj C hh.objs.size)) (isInstance (.ref (hh.objs.size + 1)) (.type "object")) true := t1.andThen (Y.top.keeps fun b o e => Heap.get?_push_of_some _ (Heap.get?_push_of_some _ e))
  refine codeAny_call_builtin PySem.W.oi_plain PySem.W.entry_oi (@PySem.W.check_slot (model X.prog X.w) _ _ _ "object.__init__" "object" "__init__" (.ref (hh.objs.size + 1)) [] [] _ PySem.W.oi_kind PySem.W.oi_split t2 (PySem.W.oi_args (.ref (hh.objs.size + 1))) ?_)
  rw [PySem.W.oi_run]
  exact wpAny_pure (And.intro rfl ⟨.ref (hh.objs.size + 1), _, I2, rfl, hq⟩)
theorem d_make0 {x : Str} {n : Nat} {p : Pos} (C : Mak0 X.K X.mg c x n) (hg : Gl X x := by rfl) (hdb : (x == ("__debug__" : Str)) = false := by decide +kernel) : PE X (.Call (.Name x p) [] [] pos) (tD X.K c (dC (.ins n []))) := by
  refine ⟨fun pins s σ H Q I ⟨G, ρ, d, sm, sl, e, k⟩ => ?_⟩
  cases e
  refine wpAny_Call_Name_kw (ld_glob I hg C.mgC ?_ hdb)
  refine PySem.W.callWith_K0 I.kIn C.kp (run_make0 C.makes C.init I fun x dx hx hdx ne => ?_)
  refine k _ _ _ ((Gr.addI sm hx hdx ne C.pl).take hx (sm.none hx) upd_same) ⟨x, dx, [], rfl, by rw [C.nn]; exact upd_same, by rw [C.nn]; rfl, rfl⟩
/-! ### isinstance -/
inductive Tag where
  | b (n : String) | c (i : Nat)
  deriving DecidableEq
def tagOf : D → Option Tag
  | .non => some (.b "NoneType")
  | .bl _ => some (.b "bool")
  | .int _ => some (.b "int")
  | .str _ => some (.b "str")
  | .lst _ => some (.b "list")
  | .tup _ => some (.b "tuple")
  | .ins n _ => some (.c n)
  | .dct _ _ => some (.b "dict")
  | .scr _ => none
  | .raw _ => none
  | .any => none
  | .fn _ => none
def Tag.val (c : Cf) : Tag → Value
  | .b n => .type n
  | .c i => .ref (c.cl i)
/-- what isinstance asks of own classes; ok i: the class's instances are asked of -/
structure IsiOk (K : PySem.W.Frag) (c : Cf) (u : Value) (F : Tag → Option Bool) : Prop where
  one : ∀ t r, F t = some r → PySem.W.kitOne K (t.val c) u = some r
  own : ∀ i r, F (.c i) = some r → C8.InsC K (c.cl i)
theorem tyX_of {G H : Hp} {d : D} {v : V} {t : Tag} (s : Same G H) (r : Rep K c G d v) (h : tagOf d = some t) (own : ∀ i, t = .c i → C8.InsC K (c.cl i)) : TyX K H v (t.val c) := by
  cases d with
  | non => cases r; cases h; exact .base .non
  | bl _ => cases r; cases h; exact .base (.bl _)
  | int _ => cases r; cases h; exact .base (.int _)
  | str _ => cases r; cases h; exact .base (.str _)
  | lst _ => obtain ⟨p, vs, rfl, hp, _⟩ := r; cases h; exact .base (.lst (s _ _ hp))
  | tup _ =>
    obtain ⟨p, vs, rfl, hp, _⟩ := r
    cases h
    rcases hp with (hp | ⟨o, hp⟩) | ⟨o, its, n, hk, hc, _⟩
    · exact .base (.tup (s _ _ hp))
    · exact .fTuple (s _ _ hp)
    · exact .kTuple hk hc
  | ins n _ =>
    obtain ⟨p, dx, vs, rfl, hp, _⟩ := r
    cases h
    have q := own n rfl
    exact .base (.ins (s _ _ hp) q.cl q.ha q.hn q.htk q.hm)
  | dct _ _ => obtain ⟨p, vs, rfl, hp, _⟩ := r; cases h; exact .base (.dK (s _ _ hp))
  | scr _ => cases h
  | raw _ => cases h
  | any => cases h
  | fn _ => cases h
def dIsi (F : Tag → Option Bool) (f : DE) : DE := fun ρ => (f ρ).bind fun d => (tagOf d).bind fun t => (F t).map .bl
theorem dIsi_step {F : Tag → Option Bool} {f : DE} {cv : V} {u : Value} (hk : ClsV cv u) (h : IsiOk K c u F) : ∀ σ H Q, tD K c (dIsi F f) σ H Q → tCB (rIsi K) (tCons (tD K c f) (tCons (tC cv) tNil)) σ H Q := by
  rintro σ H Q ⟨G, ρ, d, s, sl, e, k⟩
  unfold dIsi at e
  obtain ⟨x, ex, e⟩ := Option.bind_eq_some_iff.mp e
  obtain ⟨t, et, e⟩ := Option.bind_eq_some_iff.mp e
  obtain ⟨r, er, rfl⟩ := Option.map_eq_some_iff.mp e
  exact ⟨G, ρ, x, s, sl, ex, fun v G1 H1 g1 r1 => ⟨v, cv, t.val c, u, r, rfl, hk, tyX_of g1.s r1 et (fun i z => h.own i r (by rw [← z]; exact er)), h.one t r er, k _ G1 H1 g1 rfl⟩⟩
theorem d_isi {F : Tag → Option Bool} {f : DE} {cl : Expr} {cv : V} {u : Value} {p : Pos} (hm : X.mg "isinstance" = none) (hk : ClsV cv u) (h : IsiOk X.K c u F) (ha : PE X a (tD X.K c f)) (hb : PE X cl (tC cv)) (hg : Gl X "isinstance" := by rfl)
    (h1 : starEach [a, cl] X.env = (false, eval a X.env) :: starEach [cl] X.env := by rfl) (h2 : starEach [cl] X.env = (false, eval cl X.env) :: starEach [] X.env := by rfl) (hpl : (backTo pos (starEach [cl] X.env)).any (·.1) = false := by rfl) :
    PE X (.Call (.Name "isinstance" p) [a, cl] [] pos) (tD X.K c (dIsi F f)) :=
  (pe_callB call_isi hg hm (by decide +kernel) (pa_cons ha (pa_cons hb pa_nil h2) h1) (by decide +kernel) (by decide +kernel) h1 hpl).imp (dIsi_step hk h)
/-- a built-in class -/
def isiB (n : String) : Tag → Option Bool
  | .b m => kitB m n
  | .c _ => none
theorem isiB_ok {n : String} : IsiOk K c (.type n) (isiB n) := ⟨fun t r e => by
  cases t with
  | b m => exact kit_ty e
  | c i => (exact nomatch (show none = some r from e)), fun i r e => nomatch (show none = some r from e)⟩
theorem d_isiB {n : String} {f : DE} {x : Str} {p p2 : Pos} (hm : X.mg "isinstance" = none) (hmx : X.mg x = none) (hv : bootBuiltins x = some (.type n)) (ha : PE X a (tD X.K c f)) (hg : Gl X "isinstance" := by rfl) (hgx : Gl X x := by rfl) (hn : x ≠ "__name__" := by decide +kernel) (hd : (x == ("__debug__" : Str)) = false := by decide +kernel)
    (h1 : starEach [a, .Name x p2] X.env = (false, eval a X.env) :: starEach [.Name x p2] X.env := by rfl) (h2 : starEach [Expr.Name x p2] X.env = (false, eval (.Name x p2) X.env) :: starEach [] X.env := by rfl) (hpl : (backTo pos (starEach [Expr.Name x p2] X.env)).any (·.1) = false := by rfl) :
    PE X (.Call (.Name "isinstance" p) [a, .Name x p2] [] pos) (tD X.K c (dIsi (isiB n) f)) :=
  d_isi hm (.ty n) isiB_ok ha (pe_bltn (v := .ty n) hgx hmx hv rfl hn hd) hg h1 h2 hpl
/-- an own class -/
theorem d_isiC {n : Nat} {F : Tag → Option Bool} {f : DE} {x : Str} {p p2 : Pos} (hm : X.mg "isinstance" = none) (hx : X.mg x = some (.ref (c.cl n))) (h : IsiOk X.K c (.ref (c.cl n)) F) (ha : PE X a (tD X.K c f)) (hg : Gl X "isinstance" := by rfl) (hgx : Gl X x := by rfl) (hd : (x == ("__debug__" : Str)) = false := by decide +kernel)
    (h1 : starEach [a, .Name x p2] X.env = (false, eval a X.env) :: starEach [.Name x p2] X.env := by rfl) (h2 : starEach [Expr.Name x p2] X.env = (false, eval (.Name x p2) X.env) :: starEach [] X.env := by rfl) (hpl : (backTo pos (starEach [Expr.Name x p2] X.env)).any (·.1) = false := by rfl) :
    PE X (.Call (.Name "isinstance" p) [a, .Name x p2] [] pos) (tD X.K c (dIsi F f)) :=
  d_isi hm (.own _) h ha (pe_glob (v := .ref (c.cl n)) hgx hx rfl hd) hg h1 h2 hpl
/-! ### a def as a value, called -/
structure CalV (P : Program) (w : World) (K : PySem.W.Frag) (mg : Str → Option Value) (base : Heap) (c : Cf) (k n : Nat) (tbl : Nat → Option (List D → Option D)) : Prop where
  ex : ∀ i F, tbl i = some F → ∃ fd ps, PySem.W.keepIn K (.ref (c.fn i)) = true ∧ Binds K fd ps [] ∧ FnOk P w K mg base CX0 k (c.fn i) fd ps (spD K c n F)
def dCallV (i n : Nat) (tbl : Nat → Option (List D → Option D)) (g : DA) : DE := fun ρ => match ρ[i]? with
  | some (.val (.fn j)) => (g ρ).bind fun ds => if ds.length = n then (tbl j).bind fun F => F ds else none
  | _ => none
theorem d_callV (i : Nat) {x : Str} {k k' n : Nat} {tbl : Nat → Option (List D → Option D)} {g : DA} {p : Pos} (C : CalV X.prog X.w X.K X.mg X.base c k n tbl) (hr : Room k' X.A) (hk : k ≤ k') (ha : PA X (e :: es) (tDA X.K c g)) (hN : X.N[i]? = some x := by rfl) (hv : Vis X.env.scope x := by first | exact Or.inl rfl | exact Or.inr (Or.inl rfl) | exact Or.inr (Or.inr rfl))
    (hd : (x == ("__debug__" : Str)) = false := by decide +kernel) (hcd : (x == ("__classdict__" : Str)) = false := by decide +kernel)
    (he : starEach (e :: es) X.env = (false, eval e X.env) :: starEach es X.env := by rfl) (hpl : (backTo pos (starEach es X.env)).any (·.1) = false := by rfl) : PE X (.Call (.Name x p) (e :: es) [] pos) (tD X.K c (dCallV i n tbl g)) := by
  refine ⟨fun pins s σ H Q I ⟨G, ρ, d, sm, sl, ed, kk⟩ => ?_⟩
  unfold dCallV at ed
  split at ed
  · rename_i j q
    obtain ⟨ds, eds, ed⟩ := Option.bind_eq_some_iff.mp ed
    split at ed
    · rename_i hl
      obtain ⟨F, eF, ed⟩ := Option.bind_eq_some_iff.mp ed
      obtain ⟨fd, ps, h1, h2, h3⟩ := C.ex j F eF
      obtain ⟨v, hσ, rv⟩ := sl.val i _ q
      cases rv
      refine wpAny_Call_Name_kw (thn ((pe_var (pos := p) hN hv hd hcd).run pins s σ H (fun v H1 => v = .ref (c.fn j) ∧ H1 = H) I ⟨_, hσ, rfl, rfl⟩) fun u s1 ⟨v, H1, I1, r1, q1⟩ => ?_)
      obtain ⟨rfl, rfl⟩ := q1
      cases r1
      refine PySem.W.callWith_K (h₀ := X.base) I.ok.mod.kin h1 (thn (ha.run pos pins s1 σ _ (fun us H2 => ∃ G2, Gr c G H1 G2 H2 ∧ RepL X.K c G2 ds us) I1 ⟨G, ρ, ds, sm, sl, eds, fun us G2 H2 g2 r2 => ⟨G2, g2, r2⟩⟩) fun us s2 ⟨vs, H2, I2, r, G2, g2, r2⟩ => ⟨I2.kIn, ?_⟩) he hpl
      refine run_fn h3 (hr.mono hk) h2 .nil pass0 I2 r ?_
      rw [List.append_nil]
      exact ⟨G2, ds, d, g2.s, r2, hl, ed, fun v G' H' g3 r3 => kk v G' H' (g2.trans g3) r3⟩
    · cases ed
  · cases ed
/-- a def's name as a value -/
theorem d_fnv {x : Str} {i : Nat} (hm : X.mg x = some (.ref (c.fn i))) (hg : Gl X x := by rfl) (hd : (x == ("__debug__" : Str)) = false := by decide +kernel) : PE X (.Name x pos) (tD K c (dC (.fn i))) :=
  (pe_glob (v := .ref (c.fn i)) hg hm rfl hd).imp fun _ _ _ h => tD_of_tC (d := .fn i) (fun _ => rfl) h
/-! ### try, where nothing is raised -/
theorem s_try {body : List Stmt} {h0 : ExceptHandler} {hs : List ExceptHandler} {F : DS} (hb : PSs X.nox body (tS K c F)) : PS X (.Try body (h0 :: hs) [] [] pos) (tS K c F) := ps_try_thru0 hb
theorem s_tryN {body : List Stmt} {h0 : ExceptHandler} {hs : List ExceptHandler} {F : DS} (hn : ∀ e s, ¬ X.xe e s) (hb : PSs X body (tS K c F)) : PS X (.Try body (h0 :: hs) [] [] pos) (tS K c F) :=
  (ps_try_never (u := tNext) hn hb pss_nil).imp fun E σ H h => h
/-! ### own lists against [] -/
def dOwnNe (i : Nat) : DE := fun ρ => match ρ[i]? with
  | some (.own ds) => (toP (.lst ds)).bind fun p => if SeqAt.shaped p then some (.bl (!ds.isEmpty)) else none
  | _ => none
theorem eqv_nil {p : List PyData} : PyData.eqv (.list p) (.list []) = p.isEmpty := by
  cases p <;> rfl
theorem toPL_len : ∀ {ds : List D} {ps : List PyData}, toP.toPL ds = some ps → ps.isEmpty = ds.isEmpty
  | [], _, e => by unfold toP.toPL at e; cases e; rfl
  | d :: ds, _, e => by
    unfold toP.toPL at e
    split at e
    · cases e; rfl
    · cases e
theorem d_ownNe (i : Nat) {x : Str} {k : Nat} {p1 p2 : Pos} (hr : Room k X.A) (hN : X.N[i]? = some x := by rfl) (hv : Vis X.env.scope x := by first | exact Or.inl rfl | exact Or.inr (Or.inl rfl) | exact Or.inr (Or.inr rfl))
    (hd : (x == ("__debug__" : Str)) = false := by decide +kernel) (hcd : (x == ("__classdict__" : Str)) = false := by decide +kernel) : PE X (.Compare (.Name x p1) [.NotEq] [.List [] p2] pos) (tD X.K c (dOwnNe i)) :=
  (pe_cmpR (op_neD hr.units) (pe_var hN hv hd hcd) (pe_lst pa_nil) (nomark _)).imp fun σ H Q ⟨G, ρ, d, s, sl, e, k⟩ => by
    unfold dOwnNe at e
    split at e
    · rename_i ds q
      obtain ⟨p, ep, e⟩ := Option.bind_eq_some_iff.mp e
      split at e
      · rename_i hs
        cases e
        obtain ⟨pa, vs, a1, a2, a3, a4⟩ := sl.own i ds q
        unfold toP at ep
        obtain ⟨ps, e1, rfl⟩ := Option.map_eq_some_iff.mp ep
        refine ⟨_, a1, by show 0 ≤ sizeLine; decide, fun p hp => ⟨.list ps, .list [], ?_, .lst (SqL.of upd_same) .nil, hs, by decide, ?_⟩⟩
        · exact .lst (SqL.of (by rw [upd_ne (ne_of_none a3 hp)]; exact a3)) (toPL_Dp (a4.mono (s.s.trans (Same.new hp))) e1)
        · rw [eqv_nil, toPL_len e1]
          exact k _ G _ (.add s hp True.intro) rfl
      · cases e
    · cases e
theorem d_townNe (i : Nat) {x : Str} {k : Nat} {p1 p2 : Pos} (hr : Room k X.A) (hN : X.N[i]? = some x := by rfl) (hv : Vis X.env.scope x := by first | exact Or.inl rfl | exact Or.inr (Or.inl rfl) | exact Or.inr (Or.inr rfl))
    (hd : (x == ("__debug__" : Str)) = false := by decide +kernel) (hcd : (x == ("__classdict__" : Str)) = false := by decide +kernel) : PT X (.Compare (.Name x p1) [.NotEq] [.List [] p2] pos) (tDT X.K c (asB (dOwnNe i))) :=
  (pt_cmpR (op_neD hr.units) (pe_var hN hv hd hcd) (pe_lst pa_nil) (nomark _)).imp fun σ H Q ⟨G, ρ, b, s, sl, e, k⟩ => by
    have e := asB_some e
    unfold dOwnNe at e
    split at e
    · rename_i ds q
      obtain ⟨p, ep, e⟩ := Option.bind_eq_some_iff.mp e
      split at e
      · rename_i hs
        cases e
        obtain ⟨pa, vs, a1, a2, a3, a4⟩ := sl.own i ds q
        unfold toP at ep
        obtain ⟨ps, e1, rfl⟩ := Option.map_eq_some_iff.mp ep
        refine ⟨_, a1, by show 0 ≤ sizeLine; decide, fun p hp => ⟨.list ps, .list [], ?_, .lst (SqL.of upd_same) .nil, hs, by decide, ?_⟩⟩
        · exact .lst (SqL.of (by rw [upd_ne (ne_of_none a3 hp)]; exact a3)) (toPL_Dp (a4.mono (s.s.trans (Same.new hp))) e1)
        · rw [eqv_nil, toPL_len e1]
          exact ⟨_, rfl, k G _ (.add s hp True.intro)⟩
      · cases e
    · cases e
/-! ### a + b of lists, the new list one's own -/
def bCat (x y : D) : Option (List D) := match x, y with
  | .lst a, .lst b => if a.length + b.length ≤ 100000 then some (a ++ b) else none
  | _, _ => none
theorem o_cat {f g : DE} (ha : PE X a (tD K c f)) (hb : PE X b (tD K c g)) : PE X (.BinOp a .Add b pos) (tDo K c (oOp bCat f g)) := (pe_op op_cat ha hb).imp fun σ H Q ⟨G, ρ, d, s, sl, e, k⟩ => by
  unfold oOp at e
  obtain ⟨x, ex, e⟩ := Option.bind_eq_some_iff.mp e
  obtain ⟨y, ey, e⟩ := Option.bind_eq_some_iff.mp e
  unfold bCat at e
  split at e
  · rename_i u w _
    split at e
    · rename_i hz
      cases e
      refine ⟨G, ρ, _, s, sl, ex, fun v G1 H1 g1 r1 => ⟨G1, ρ, _, g1.s, sl.step g1, ey, fun v2 G2 H2 g2 r2 => ?_⟩⟩
      obtain ⟨p, vs, rfl, hp, r⟩ := r1.mono g2.g
      obtain ⟨p', vs', rfl, hp', r'⟩ := r2
      exact ⟨p, p', vs, vs', rfl, rfl, g2.s _ _ hp, g2.s _ _ hp', by rw [r.length, r'.length]; exact line100 hz, fun l hl => k l _ G2 _ ((g1.trans g2).trans (.add g2.s hl True.intro)) ((g1.trans g2).d l hl) (g2.s.none hl) upd_same (r.append r')⟩
    · cases e
  · cases e
end
end DL
set_option maxRecDepth 100000
namespace DL
open PySem L2
section
variable {X : Cx} {K : PySem.W.Frag} {c : Cf} {e a b : Expr} {es : List Expr} {pos : Pos} {st : Stmt} {sts : List Stmt}
theorem _root_.L2.PE.or2 {t t' : TE} (h : PE X e t) (h' : PE X e t') : PE X e (fun σ H Q => t σ H Q ∨ t' σ H Q) := ⟨fun pins s σ H Q I q => q.elim (fun q => h.run pins s σ H Q I q) fun q => h'.run pins s σ H Q I q⟩
/-! ### dicts that stay as they are -/
structure DPs (X : Cx) (c : Cf) (pos : Pos) (keys : List (Option Expr)) (values : List Expr) (ks : List Key) (g : DA) : Prop where
  ex : ∃ trs, PPs X pos keys values trs ∧ ∀ σ H Q, (∃ G ρ ds, Sm c G H ∧ Slots X.K c G H ρ σ ∧ g ρ = some ds ∧ ∀ vs G' H', Gr c G H G' H' → RepL X.K c G' ds vs → vs.length = ks.length → Q ((ks.map kV).zip vs) H') → tPairs trs σ H Q
theorem dps_nil : DPs X c pos [] [] [] aNil := ⟨_, pps_nil, fun σ H Q ⟨G, ρ, ds, s, sl, e, k⟩ => by
  cases e
  exact k [] G H (.refl s) rfl rfl⟩
theorem dps_cons {x : Key} {f : DE} {g : DA} {kx v : Expr} {ks : List (Option Expr)} {vs : List Expr} {xs : List Key} (hk : PE X kx (tC (kV x))) (hv : PE X v (tD X.K c f)) (hr : DPs X c pos ks vs xs g) : DPs X c pos (some kx :: ks) (v :: vs) (x :: xs) (aCons f g) := by
  obtain ⟨trs, h1, h2⟩ := hr.ex
  refine ⟨_, pps_cons hk hv h1, fun σ H Q ⟨G, ρ, ds, s, sl, e, k⟩ => ?_⟩
  unfold aCons at e
  obtain ⟨y, ey, e⟩ := Option.bind_eq_some_iff.mp e
  obtain ⟨r, er, rfl⟩ := Option.map_eq_some_iff.mp e
  exact ⟨G, ρ, y, s, sl, ey, fun u G1 H1 g1 r1 => h2 σ H1 _ ⟨G1, ρ, r, g1.s, sl.step g1, er, fun us G2 H2 g2 r2 l2 => k (u :: us) G2 H2 (g1.trans g2) ⟨u, us, rfl, r1.mono g2.g, r2⟩ (by simp [l2])⟩⟩
def dDct (ks : List Key) (g : DA) : DE := fun ρ => (g ρ).bind fun ds => if ds.length = ks.length then some (.dct ks ds) else none
theorem putK_last {kvs : List (Key × V)} {k : Key} {v : V} (h : k ∉ kvs.map (·.1)) : putK kvs k v = kvs ++ [(k, v)] := by
  unfold putK
  rw [if_neg]
  intro z
  rw [List.any_eq_true] at z
  obtain ⟨q, hq, e⟩ := z
  exact h (List.mem_map.mpr ⟨q, hq, of_decide_eq_true e⟩)
theorem mergeK_nd : ∀ {more kvs : List (Key × V)}, ((kvs ++ more).map (·.1)).Nodup → mergeK kvs more = kvs ++ more
  | [], kvs, _ => by simp [mergeK]
  | (k, v) :: more, kvs, h => by
    have h1 : k ∉ kvs.map (·.1) := by
      rw [List.map_append, List.nodup_append] at h
      intro z
      exact h.2.2 k z k (by simp) rfl
    have ih := mergeK_nd (more := more) (kvs := kvs ++ [(k, v)]) (by simpa using h)
    unfold mergeK at ih ⊢
    rw [List.foldl_cons, putK_last h1, ih]
    simp
theorem d_dct {keys : List (Option Expr)} {values : List Expr} {ks : List Key} {g : DA} (h : DPs X c pos keys values ks g) (nd : ks.Nodup) (hl : ks.length ≤ 15) (hall : keys.all (·.isSome) = true := by rfl) (hkl : keys.length = values.length := by rfl) (h0 : keys ≠ [] := by exact fun z => nomatch z) (h15 : keys.length ≤ 15 := by decide) :
    PE X (.Dict keys values pos) (tD X.K c (dDct ks g)) := by
  obtain ⟨trs, h1, h2⟩ := h.ex
  refine (pe_disp h1 hall hkl h0 h15).imp fun σ H Q ⟨G, ρ, d, s, sl, e, k⟩ => ?_
  unfold dDct at e
  obtain ⟨ds, ed, e⟩ := Option.bind_eq_some_iff.mp e
  split at e
  case isFalse => cases e
  rename_i hds
  cases e
  intro p hp
  have g0 := Gr.add (c := c) (o := .dK []) s hp True.intro
  refine h2 σ _ _ ⟨G, ρ, ds, g0.s, sl.step g0, ed, fun vs G1 H1 g1 r1 l1 => ⟨g1.hk upd_same, ks.zip vs, ?_, by simp [l1]; omega, ?_⟩⟩
  · rw [List.zip_map_left]
    rfl
  · have e1 : mergeK [] (ks.zip vs) = ks.zip vs := by
      rw [mergeK_nd (kvs := [])]
      · rfl
      · rw [List.nil_append, List.map_fst_zip (by omega)]
        exact nd
    rw [e1]
    have np : G1 p = none := g1.f p _ upd_same (s.none hp)
    have e2 : H1 p = some (.dK []) := g1.hk upd_same
    exact k _ _ _ (((g0.trans g1).chgB (o' := .dK (ks.zip vs)) hp np e2 True.intro True.intro).take hp np upd_same) ⟨p, vs, rfl, upd_same, l1, r1.mono (Same.new np)⟩
/-- d[k] -/
def keyD : D → Option Key
  | .int i => some (.inl i)
  | .str x => some (.inr x)
  | _ => none
def findD (ks : List Key) (ds : List D) (k : Key) : Option D := ((ks.zip ds).find? fun q => decide (q.1 = k)).map (·.2)
def opDix (x y : D) : Option D := match x with
  | .dct ks ds => (keyD y).bind fun k => findD ks ds k
  | _ => none
theorem findD_rep {G : Hp} {k : Key} : ∀ {ks : List Key} {ds : List D} {vs : List V} {d : D}, RepL K c G ds vs → findD ks ds k = some d → ∃ v, valV (ks.zip vs) k = some v ∧ Rep K c G d v
  | [], _, _, _, _, e => by simp [findD] at e
  | _ :: _, [], _, _, _, e => by simp [findD] at e
  | x :: ks, y :: ds, _, d, h, e => by
    obtain ⟨v, r, rfl, h1, h2⟩ := h
    unfold findD at e
    rw [List.zip_cons_cons, List.find?_cons] at e
    by_cases hk : x = k
    · have hd : (decide ((x, y).1 = k)) = true := decide_eq_true hk
      rw [hd] at e
      cases e
      exact ⟨v, by rw [List.zip_cons_cons]; exact valV_pos hk, h1⟩
    · have hd : (decide (x = k)) = false := decide_eq_false hk
      rw [show decide ((x, y).1 = k) = false from hd] at e
      obtain ⟨u, e1, e2⟩ := findD_rep (ks := ks) (d := d) h2 e
      refine ⟨u, ?_, e2⟩
      unfold valV at e1 ⊢
      rw [List.zip_cons_cons, List.find?_cons, show decide ((x, v).1 = k) = false from hd]
      exact e1
theorem d_dix {f g : DE} {k : Nat} (hr : Room k X.A) (ha : PE X a (tD X.K c f)) (hb : PE X b (tD X.K c g)) (hs : NoSl b := by exact fun _ _ => rfl) : PE X (.Subscript a b pos) (tD X.K c (dOp opDix f g)) :=
  (pe_dget (hu_of hr) ha hb hs).imp fun σ H Q ⟨G, ρ, d, s, sl, e, kk⟩ => by
    unfold dOp at e
    obtain ⟨x, ex, e⟩ := Option.bind_eq_some_iff.mp e
    obtain ⟨y, ey, e⟩ := Option.bind_eq_some_iff.mp e
    unfold opDix at e
    split at e
    · rename_i ks ds _
      obtain ⟨ky, ek, e⟩ := Option.bind_eq_some_iff.mp e
      refine ⟨G, ρ, _, s, sl, ex, fun v G1 H1 g1 r1 => ⟨G1, ρ, _, g1.s, sl.step g1, ey, fun u G2 H2 g2 r2 => ?_⟩⟩
      obtain ⟨p, vs, rfl, hp, hl, r⟩ := r1.mono g2.g
      obtain ⟨v, e1, e2⟩ := findD_rep r e
      have hu : u = kV ky := by
        cases y <;> first | (cases ek; done) | (cases r2; cases ek; rfl)
      subst hu
      exact ⟨p, v, rfl, by rw [← e1]; exact DGet.k (g2.s _ _ hp), kk v G2 H2 (g1.trans g2) e2⟩
    · cases e
/-! ### x in a list of data -/
def opInDeep (x y : D) : Option D := match toP x, toP y with
  | some p, some (.list qs) => if SeqAt.shaped p && SeqAt.shaped (.list qs) then some (.bl (qs.any fun z => PyData.eqv z p)) else none
  | _, _ => none
theorem opD_inDeep {k : Nat} (hr : Room k X.A) : OpD X X.K c (compareOp .In) opInDeep := by
  refine ⟨_, op_inD (by have := hr.un; omega), fun x y z e G H u w Q s ru rw kk => ?_⟩
  unfold opInDeep at e
  split at e
  · rename_i p qs e1 e2
    split at e
    · rename_i hz
      cases e
      rw [Bool.and_eq_true] at hz
      exact ⟨p, qs, toP_Dp (ru.mono s) e1, toP_Dp (rw.mono s) e2, hz.1, hz.2, kk _ G H (.refl s) rfl⟩
    · cases e
  · cases e
/-! ### list(range(a, b, c)) -/
def oRange3 (f g h : DE) : DOw := fun ρ => match f ρ, g ρ, h ρ with
  | some (.int i), some (.int j), some (.int st) => if -1000000 ≤ i ∧ i ≤ 1000000 ∧ -1000000 ≤ j ∧ j ≤ 1000000 ∧ 1 ≤ st ∧ st ≤ 1000000 then some (rngC i st ((j - i + st - 1) / st).toNat) else none
  | _, _, _ => none
theorem range_up {i j st : Int} (h1 : 1 ≤ st) : Builtin.Range.rangeSize i j st = (((j - i + st - 1) / st).toNat : Int) := by
  have hp : (0 : Int) < st := by omega
  by_cases hlt : i < j
  · have e0 : (j - i - 1) / st + 1 = (j - i + st - 1) / st := by
      rw [show j - i + st - 1 = (j - i - 1) + 1 * st by omega, Int.add_mul_ediv_right _ _ (by omega)]
    have hn : 0 ≤ (j - i - 1) / st := Int.ediv_nonneg (by omega) (by omega)
    unfold Builtin.Range.rangeSize
    simp only [hp, hlt, if_true, gt_iff_lt, decide_true, Bool.and_true, Bool.true_and]
    first
      | (rw [Int.fdiv_eq_ediv_of_nonneg _ (by omega)]; omega)
      | omega
  · have hn : (j - i + st - 1) / st ≤ 0 := by
      have h3 : j - i + st - 1 < st := by omega
      by_cases h4 : 0 ≤ j - i + st - 1
      · rw [Int.ediv_eq_zero_of_lt h4 h3]; exact Int.le_refl 0
      · have := Int.ediv_neg_of_neg_of_pos (a := j - i + st - 1) (b := st) (by omega) hp; omega
    unfold Builtin.Range.rangeSize
    simp only [hp, hlt, if_true, if_false, gt_iff_lt, decide_true, Bool.and_true, Bool.true_and, decide_false, Bool.and_false]
    omega

theorem small_up {i j st : Int} (h1 : 1 ≤ st) (h2 : st ≤ 1000000) (ha : -1000000 ≤ i) (ha' : i ≤ 1000000) (hb : -1000000 ≤ j) (hb' : j ≤ 1000000) : Builtin.Range.small i j st = true := by
  have hq : ((j - i + st - 1) / st) * st ≤ j - i + st - 1 := Int.ediv_mul_le _ (by omega)
  have hb2 : (j - i + st - 1) / st ≤ 3000000 := by
    by_cases h : (j - i + st - 1) / st ≤ 0
    · omega
    · have : (j - i + st - 1) / st * 1 ≤ (j - i + st - 1) / st * st := Int.mul_le_mul_of_nonneg_left h1 (by omega)
      omega
  unfold Builtin.Range.small
  rw [range_up h1]
  simp only [Builtin.Range.rangeFitsLong, Bool.and_eq_true, Bool.or_eq_true, decide_eq_true_eq, beq_iff_eq, show st > 0 by omega, if_true]
  generalize ((j - i + st - 1) / st) = z at *
  by_cases hz : 0 ≤ z
  · have hm : z * st ≤ 3000000 := by omega
    rw [Int.toNat_of_nonneg hz]
    have h3 : (z - 1) * st = z * st - st := by rw [Int.sub_mul, Int.one_mul]
    have h0 : 0 ≤ z * st := Int.mul_nonneg hz (by omega)
    refine ⟨?_, ?_⟩ <;> omega
  · have hz0 : z.toNat = 0 := by omega
    rw [hz0]
    refine ⟨?_, ?_⟩ <;> omega
theorem o_listRange3 {c1 : Expr} {f g h : DE} {p p2 pos2 : Pos} (hc : X.calm = true) (hm : X.mg "list" = none) (hm2 : X.mg "range" = none) (ha : PE X a (tD X.K c f)) (hb : PE X b (tD X.K c g)) (hcc : PE X c1 (tD X.K c h)) (hg : Gl X "list" := by rfl) (hg2 : Gl X "range" := by rfl)
    (hs : starEach [a, b, c1] X.env = (false, eval a X.env) :: starEach [b, c1] X.env := by rfl) (hs2 : starEach [b, c1] X.env = (false, eval b X.env) :: starEach [c1] X.env := by rfl) (hs3 : starEach [c1] X.env = (false, eval c1 X.env) :: starEach [] X.env := by rfl) (hpl : (backTo pos2 (starEach [b, c1] X.env)).any (·.1) = false := by rfl)
    (nc : starEach [Expr.Call (.Name "range" p2) [a, b, c1] [] pos2] X.env = (false, eval (Expr.Call (.Name "range" p2) [a, b, c1] [] pos2) X.env) :: starEach [] X.env := by rfl) :
    PE X (.Call (.Name "list" p) [.Call (.Name "range" p2) [a, b, c1] [] pos2] [] pos) (tDo X.K c (oRange3 f g h)) := by
  refine ⟨fun pins s σ H Q I ⟨G, ρ, d, sm, sl, e, k⟩ => ?_⟩
  have hA := a_cons (c := c) ha (a_cons hb (a_cons hcc a_nil hs3) hs2) hs
  unfold oRange3 at e
  split at e
  case h_2 => cases e
  rename_i i j n q1 q2 q3
  split at e
  case isFalse => cases e
  rename_i hz
  cases e
  have eA : (aCons f (aCons g (aCons h aNil))) ρ = some [.int i, .int j, .int n] := by simp [aCons, aNil, q1, q2, q3]
  refine PyProof.Rows.Call_ (ld_blt I hg hm PyProof.Rows.boot_list (PyProof.Rows.callWith_type1 (PyProof.Rows.args_cons (thn (Q := fun x s1 => ∃ r t u v H1 G1, x = .ref r ∧ PySem.IsRange s1.heap r i j n t u v ∧ Inv X pins σ H1 s1 ∧ Gr c G H G1 H1)
    (PyProof.Rows.Call_ (ld_blt I hg2 hm2 PyProof.Rows.boot_range (PyProof.Rows.callWith_type1 (thn (hA.run pos2 pins s σ H (fun vs H1 => ∃ G1, vs = [.int i, .int j, .int n] ∧ Gr c G H G1 H1) I ⟨G, ρ, _, sm, sl, eA, fun vs G1 H1 g1 r1 => ?_⟩) fun us s1 ⟨vs, H1, I1, r1, G1, e1, g1⟩ => ?_) hs hpl)))
    fun x s1 ⟨r, t, u, v, H1, G1, ex, hr, I1, g1⟩ => PyProof.Rows.args_nil ?_) nc) nc))
  · obtain ⟨v1, w1, rfl, h1, v2, w2, rfl, h3, h4⟩ := r1
    obtain ⟨v5, rfl, h6⟩ := RepL0.of1 h4
    cases h1; cases h3; cases h6
    exact ⟨G1, rfl, g1⟩
  · subst e1
    cases r1 with
    | cons r rr =>
      cases rr with
      | cons r' rr =>
        cases rr with
        | cons r'' rr =>
          cases rr
          obtain ⟨t, rfl⟩ := r
          obtain ⟨t', rfl⟩ := r'
          obtain ⟨t'', rfl⟩ := r''
          refine call_range_3 (by omega) ?_ (.inl (PyProof.noPylong_small (by omega)))
          exact ⟨_, _, _, _, H1, G1, rfl, PySem.IsRange.new _ _ _ _ _ _ _, I1.kept fun b o e => Heap.get?_push_of_some _ e, g1⟩
  · subst ex
    have hn : ((j - i + n - 1) / n).toNat ≤ 2 ^ 24 := by
      have hq : ((j - i + n - 1) / n) * n ≤ j - i + n - 1 := Int.ediv_mul_le _ (by omega)
      by_cases h : (j - i + n - 1) / n ≤ 0
      · omega
      · have : (j - i + n - 1) / n * 1 ≤ (j - i + n - 1) / n * n := Int.mul_le_mul_of_nonneg_left (by omega) (by omega)
        omega
    refine call_list_range (n := ((j - i + n - 1) / n).toNat) (I1.ok.hd hc) hr (small_up (by omega) (by omega) (by omega) (by omega) (by omega) (by omega)) (range_up (by omega)) hn fun h' tk acc c' hk e' hi => ?_
    have hfr := I1.hok.fresh (Nat.le_refl s1.heap.objs.size)
    have rv : RepL X.K c G1 (rngC i n ((j - i + n - 1) / n).toNat) ((List.range ((j - i + n - 1) / n).toNat).map fun k : Nat => V.int (i + k * n)) := by
      have hh := RepL0.ints (K := X.K) (c := c) (G := G1) ((List.range ((j - i + n - 1) / n).toNat).map fun k : Nat => i + (k : Int) * n)
      rw [List.map_map, List.map_map] at hh
      exact hh
    have vv : Vals ((List.range ((j - i + n - 1) / n).toNat).map fun k : Nat => V.int (i + k * n)) acc.toList := by
      have el : acc.toList.length = ((j - i + n - 1) / n).toNat := by rw [Array.length_toList]; exact hi.1
      rw [← el]
      refine vals_of_get acc.toList _ fun m u hm' => ?_
      obtain ⟨t, rfl⟩ := hi.2 m u (by rw [← hm', Array.getElem?_toList])
      exact ⟨t, rfl⟩
    refine ⟨.ref s1.heap.objs.size, upd H1 s1.heap.objs.size (.lst ((List.range ((j - i + n - 1) / n).toNat).map fun k : Nat => V.int (i + k * n))), I1.laid hk (Nat.le_refl _) (show ObjOk X.prog X.w _ _ _ (.lst _) from ⟨?_, acc.toList, c', vv, ?_⟩), rfl, k _ _ G1 _ (g1.trans (.add g1.s hfr True.intro)) (g1.d _ hfr) (g1.s.none hfr) upd_same rv⟩
    · rw [List.length_map, List.length_range, sizeLine_eq]; omega
    · rw [Array.toArray_toList]; exact e'
end
end DL
set_option maxRecDepth 100000
namespace DL
open PySem L2
section
variable {prog : Program} {w : World} {A : Around} {E : Value → Shared → Prop} {s : Shared}
theorem bounds_tail {a n : Nat} (ha : a ≤ n) : sliceBounds (some (a : Int)) none none n = ((a : Int), (n : Int), 1) := by
  have h1 : ¬ ((a : Int) < 0) := by omega
  simp only [sliceBounds, Option.getD_none, h1, if_false, show (1 : Int) > 0 by decide, if_true]
  congr 1; omega
/-- xs[a:] = ys -/
theorem set_tail {l b sl : Addr} {items new : Array Value} {n n2 : Nat} {vl vu : Value} {a : Nat} {Q : Unit → Shared → Prop} (e : s.heap.get? l = some { cls := .type "list", data := .seq items n }) (e2 : s.heap.get? b = some { cls := .type "list", data := .seq new n2 }) (hne : l ≠ b) (hs : s.heap.IsSliceOf sl vl vu .none)
    (pl : IsPart vl (some (a : Int))) (pu : IsPart vu none) (hac : a ≤ items.size) (hsz : items.size + new.size ≤ sizeLine) (h : Q () { s with heap := s.heap.update l (Obj.mapSeq fun xs => xs.extract 0 a ++ new ++ xs.extract items.size xs.size) }) : wpAny (model prog w) A (setItem (.ref l) (.ref sl) (.ref b)) Q E s := by
  have hl := PySem.IsL.isList e; have hb := PySem.IsL.isList e2
  obtain ⟨os, hos, hcs, hds⟩ := id hs; have hTs : s.TypeIs (.ref sl) "slice" := ⟨os, hos, hcs⟩; have hstep : ¬ ((rawPart none == rawInt 0) = true) := Bool.false_ne_true
  have hsame : Builtin.List.listSameRef (.ref l) (.ref b) = false := by unfold Builtin.List.listSameRef; exact beq_eq_false_iff_ne.mpr hne
  have hmax : (max (a : Int) (items.size : Int)).toNat = items.size := by omega
  have hz' : ((fun xs : Array Value => xs.extract 0 a ++ new ++ xs.extract items.size xs.size) items).size ≤ sizeLine + 1 := by simp only [Array.size_append, Array.size_extract]; omega
  unfold setItem; try with_reducible refine wpAny_holding ?_
  first | refine wpAny_bind (wpAny_pure ?_) | skip
  refine wpAny_bind (wpAny_sequenceKey hl.typeIs (by decide) ?_); refine wpAny_bind (wpAny_callSpecial?_slot (name := Str.ofString "__setitem__") hl.typeIs slot_list_setitem (wpAny_call_entry slot_list_setitem hl.typeIs entry_list_setitem ?_ (args_list_setitem _ _ _)))
  show wpAny _ _ (Builtin.List.listSubscript? (.ref sl) >>= _) _ _ s; refine wpAny_bind ?_; unfold Builtin.List.listSubscript?
  refine wpAny_bind (wpAny_specialOf hTs slice_no_index ?_); simp only [Option.isNone_none, if_true]; refine wpAny_pure ?_
  show wpAny _ _ (typeOf (.ref sl) >>= _) _ _ s; refine wpAny_bind (wpAny_typeOf hTs ?_)
  first | rw [if_neg (by decide)] | refine PySem.W.KFB.if_not (by decide) ?_
  rw [listSliceParts_eq]; refine wpAny_bind (wpAny_bind (wpAny_field hos hds (x := .none) rfl (wpAny_bind (wpAny_listPart .none ?_))))
  rw [if_neg hstep]; refine wpAny_bind (wpAny_field hos hds (x := vl) rfl (wpAny_bind (wpAny_listPart pl ?_))); refine wpAny_bind (wpAny_field hos hds (x := vu) rfl (wpAny_bind (wpAny_listPart pu (wpAny_pure ?_))))
  first | simp only [hsame, Bool.false_eq_true, if_false] | refine PySem.W.KFB.if_not hsame ?_ | (dsimp only; rw [if_neg (by rw [hsame]; exact Bool.false_ne_true)])
  refine wpAny_bind (m := Builtin.List.listAllItems (.ref b) "must assign iterable to extended slice") ?_; unfold Builtin.List.listAllItems; refine wpAny_bind (wpAny_typeOf hb.typeIs ?_)
  first | refine PySem.W.KFB.if_so (by decide) ?_ | rw [if_pos (by decide)] | simp only [beq_self_eq_true, Bool.true_or, if_true]
  unfold Builtin.List.listItems; refine wpAny_bind (wpAny_seqItems e2 rfl (wpAny_pure ?_)); refine wpAny_bind (wpAny_bind (wpAny_seqItems e rfl (wpAny_pure ?_)))
  refine wpAny_bind (wpAny_of_eq ((sliceIndices_raw (some (a : Int)) none none items.size (by simp)).trans (congrArg (pure : Int × Int × Int → Sem (Int × Int × Int)) (bounds_tail hac))) ?_)
  show wpAny _ _ (if ((1 : Int) == 1) = true then _ else _) _ _ s; rw [if_pos (by decide)]; refine wpAny_bind (wpAny_rule ?_)
  first | simp only [notLongL hsz, Bool.false_eq_true, if_false] | refine PySem.W.KFB.if_not (notLongL hsz) ?_
  first | refine wpAny_bind (wpAny_pure ?_) | skip
  show wpAny _ _ (updateSeq l (fun xs => xs.extract 0 ((a : Int)).toNat ++ new ++ xs.extract (max (a : Int) (items.size : Int)).toNat xs.size) >>= _) _ _ s
  rw [hmax, Int.toNat_natCast]; refine wpAny_bind (wpAny_updateSeq (hz := Nat.le_trans (Nat.le_add_right _ _) hsz) (_hz' := hz') e rfl ?_); refine wpAny_bind (wpAny_letGo ?_)
  first | exact wpAny_bind (wpAny_pure (wpAny_pure ⟨.none, rfl, wpAny_pure h⟩)) | exact wpAny_pure ⟨.none, rfl, wpAny_pure h⟩
end
section
variable {X : Cx} {c : Cf} {e : Expr} {pos : Pos}
def gTail (i n : Nat) : TG := fun v σ H Q => ∃ p q xs ys, σ[i]? = some (some (.ref p)) ∧ v = .ref q ∧ H p = some (.lst xs) ∧ H q = some (.lst ys) ∧ p ≠ q ∧ n ≤ xs.length ∧ xs.length + ys.length ≤ sizeLine ∧ Q σ (upd H p (.lst (xs.take n ++ ys)))
theorem pg_tail (i n : Nat) {x : Str} {p1 p2 p3 p4 : Pos} {j : Nat} (hN : X.N[i]? = some x) (hv : Vis X.env.scope x) (hd : (x == ("__debug__" : Str)) = false) (hcd : (x == ("__classdict__" : Str)) = false) :
    PG X (.Subscript (.Name x p1) (.Slice (some (.Constant (.int n) j p4)) none none p3) p2) (gTail i n) := by
  refine ⟨fun pins s σ H v u Q I r ⟨p, q, xs, ys, a1, ev, hp, hq, hne, hn, hz, k⟩ => ?_⟩
  subst ev
  obtain rfl : u = Value.ref q := r
  rw [assign_Subscript]
  refine wpAny_bind (wpAny_holding (thn ((pe_var (pos := p1) hN hv hd hcd).run pins s σ H (fun v H2 => v = .ref p ∧ H2 = H) I ⟨_, a1, rfl, rfl⟩) fun u2 s2 ⟨v2, H2, I2, r2, e2, e3⟩ => ?_))
  subst e2; subst e3
  obtain rfl : u2 = Value.ref p := r2
  refine wpAny_bind (wpAny_holding (wpAny_Slice ?_))
  rw [evalPart_some]
  refine thn ((pe_int (X := X) (i := (n : Int)) (j := j) (pos := p4)).run pins s2 σ H2 (fun v H3 => v = .int n ∧ H3 = H2) I2 ⟨rfl, rfl⟩) fun vl s3 ⟨v3, H3, I3, r3, e4, e5⟩ => ?_
  subst e4; subst e5
  obtain ⟨t, rfl⟩ := r3
  rw [evalPart_none]
  refine wpAny_pure (wpAny_pure ?_)
  have I4 : L2.Inv X pins σ H3 { s3 with heap := s3.heap.push { cls := .type "slice", data := .fields #[.int n t, .none, .none] } } := I3.kept (t' := s3.toks) fun b ob q => Heap.get?_push_of_some _ q
  refine wpAny_bind (wpAny_standAt (wpAny_bind (wpAny_holding ?_)))
  obtain ⟨z1, its, n1, rv1, hl1, o1⟩ := I4.lstM hp
  obtain ⟨z2, its2, n2, rv2, hl2, o2⟩ := I4.lstM hq
  refine set_tail (a := n) o1 o2 hne (Heap.IsSliceOf.new ..) (.int _ _) .none (by rw [List.size_toArray, ← hl1]; exact hn) (by rw [List.size_toArray, List.size_toArray, ← hl1, ← hl2]; exact hz) ?_
  have hI := I4.lset (its' := its.take n ++ its2) (ys := xs.take n ++ ys) (t' := s3.toks) hp o1 (f := fun xs => xs.extract 0 n ++ its2.toArray ++ xs.extract its.toArray.size xs.size) (by simp) ((rv1.take n).append rv2) (by
    rw [List.length_append, List.length_take]
    omega)
  exact wpAny_release ⟨σ, _, hI, k⟩
/-- x[n:] = e -/
def sSetTail (i n : Nat) (f : DE) : DS := fun ρ => match ρ[i]?, f ρ with
  | some (.own ds), some (.lst es) => if n ≤ ds.length ∧ ds.length + es.length ≤ 100000 then some (.nx (ρ.set i (.own (ds.take n ++ es)))) else none
  | _, _ => none
theorem s_setTail (i n : Nat) {x : Str} {f : DE} {p1 p2 p3 p4 : Pos} {j : Nat} (he : PE X e (tD X.K c f)) (hN : X.N[i]? = some x := by rfl) (hv : Vis X.env.scope x := by first | exact Or.inl rfl | exact Or.inr (Or.inl rfl) | exact Or.inr (Or.inr rfl))
    (hd : (x == ("__debug__" : Str)) = false := by decide +kernel) (hcd : (x == ("__classdict__" : Str)) = false := by decide +kernel)
    (hs : swapsWithSole [.Subscript (.Name x p1) (.Slice (some (.Constant (.int n) j p4)) none none p3) p2] e pos.line X.env = pure false := by rfl) (hw : swappedStores [.Subscript (.Name x p1) (.Slice (some (.Constant (.int n) j p4)) none none p3) p2] e X.env = pure none := by rfl)
    (h1 : (assignEach [.Subscript (.Name x p1) (.Slice (some (.Constant (.int n) j p4)) none none p3) p2] X.env).map (·.2) = [assign (.Subscript (.Name x p1) (.Slice (some (.Constant (.int n) j p4)) none none p3) p2) X.env] := by rfl) :
    PS X (.Assign [.Subscript (.Name x p1) (.Slice (some (.Constant (.int n) j p4)) none none p3) p2] e pos) (tS X.K c (sSetTail i n f)) :=
  (ps_asg he (pg_tail i n hN hv hd hcd) hs hw h1).imp fun E σ H ⟨G0, H0, ρ, o, ⟨G, h⟩, ee, k⟩ => by
    unfold sSetTail at ee
    split at ee
    case h_2 => cases ee
    rename_i ds es q1 q2
    split at ee
    case isFalse => cases ee
    rename_i hz
    cases ee
    obtain ⟨p, vs, a1, a2, a3, a4⟩ := h.sl.own i ds q1
    refine ⟨G, ρ, _, h.gr.s, h.sl, q2, fun v G1 H1 g1 ⟨q, us, ev, hq, rq⟩ => ?_⟩
    have np1 : G1 p = none := g1.f p _ a3 a2
    have hne : p ≠ q := fun z => by subst z; rw [np1] at hq; cases hq
    exact ⟨p, q, vs, us, a1, ev, g1.hl a3, g1.s _ _ hq, hne, by rw [a4.length]; exact hz.1, by rw [a4.length, rq.length]; exact line100 hz.2, k _ _ ⟨G1, (h.step g1).upd q1 a1 (((a4.mono g1.g).take n).append rq)⟩⟩
/-- a class whose last attributes have defaults -/
structure MakD (P : Program) (w : World) (K : PySem.W.Frag) (mg : Str → Option Value) (base : Heap) (c : Cf) (x : Str) (n k m : Nat) (F : List D → Option (List D)) (dd : List D) : Prop where
  mak : Mak P w K mg base c x n k m F
  ex : ∃ f fd ps dvs ds, mg x = some (.ref (c.cl n)) ∧ Mk K (c.cl n) f ∧ Binds K fd ps ds ∧ Vals dvs ds ∧ (∀ G, RepL K c G dd dvs) ∧ FnOk P w K mg base CX0 k f fd ps (spI K c n m F)
theorem d_makeD {x : Str} {n k k' m : Nat} {F : List D → Option (List D)} {dd : List D} {p : Pos} (C : MakD X.prog X.w X.K X.mg X.base c x n k m F dd) (hr : Room k' X.A) (hk : k + 1 ≤ k') (hg : Gl X x := by rfl) (hdb : (x == ("__debug__" : Str)) = false := by decide +kernel) :
    PE X (.Call (.Name x p) [] [] pos) (tD X.K c (dMake n m F fun _ => some dd)) := by
  obtain ⟨f, fd, ps, dvs, ds, h1, h2, h3, h4, h5, h6⟩ := C.ex
  refine (pe_make0 h2 h6 (hr.mono hk) hg h1 h3 h4 pass0 hdb).imp fun σ H Q ⟨G, ρ, d, s, sl, e, k⟩ => ?_
  unfold dMake at e
  obtain ⟨ds', ed, e⟩ := Option.bind_eq_some_iff.mp e
  cases ed
  split at e
  · rename_i hl
    obtain ⟨fs, ef, rfl⟩ := Option.map_eq_some_iff.mp e
    intro y dx hx hdx ne
    exact ⟨y, dx, dvs, G, H, dd, fs, rfl, hx, hdx, ne, rfl, s, h5 G, hl, ef, fun G' H' fvs g2 e2 n2 l2 r2 => ⟨rfl, k _ _ H' (g2.take hx n2 e2) ⟨y, dx, fvs, rfl, upd_same, l2, r2.mono (Same.new n2)⟩⟩⟩
  · cases e
theorem fnOk_none {P : Program} {w : World} {K : PySem.W.Frag} {mg : Str → Option Value} {base : Heap} {k n : Nat} {f : Addr} {fd : FuncData} {ps : List Str} : FnOk P w K mg base CX0 k f fd ps (spD K c n fun _ => none) :=
  ⟨(fun vs H Q E ⟨_, _, _, _, _, _, e, _⟩ => nomatch e), (fun A outer s H args us vs Q E _ _ _ _ ⟨_, _, _, _, _, _, e, _⟩ => nomatch e)⟩
theorem fnOk_noneO {P : Program} {w : World} {K : PySem.W.Frag} {mg : Str → Option Value} {base : Heap} {k n : Nat} {f : Addr} {fd : FuncData} {ps : List Str} : FnOk P w K mg base CX0 k f fd ps (spO K c n fun _ => none) :=
  ⟨(fun vs H Q E ⟨_, _, _, _, _, _, e, _⟩ => nomatch e), (fun A outer s H args us vs Q E _ _ _ _ ⟨_, _, _, _, _, _, e, _⟩ => nomatch e)⟩
end
end DL
set_option maxRecDepth 100000
namespace DL
open PySem L2
/-! ### data of which a value has one tree alone -/
mutual
def rig : D → Bool
  | .non => true
  | .bl _ => true
  | .int _ => true
  | .str _ => true
  | .lst ds => rigL ds
  | .tup _ => false
  | .ins _ ds => rigL ds
  | .raw _ => false
  | .scr _ => false
  | .any => false
  | .fn _ => false
  | .dct _ _ => false
def rigL : List D → Bool
  | [] => true
  | d :: ds => rig d && rigL ds
end
def kT : Str := "told_days"
def kR : Str := "row"
section
variable {X : Cx} {K : PySem.W.Frag} {c : Cf} {e a b : Expr} {es : List Expr} {pos : Pos} {st : Stmt} {sts : List Stmt}
/-! ### own lists == [] -/
def dOwnEq (i : Nat) : DE := fun ρ => match ρ[i]? with
  | some (.own ds) => (toP (.lst ds)).bind fun p => if SeqAt.shaped p then some (.bl (ds.isEmpty)) else none
  | _ => none
theorem d_ownEq (i : Nat) {x : Str} {k : Nat} {p1 p2 : Pos} (hr : Room k X.A) (hN : X.N[i]? = some x := by rfl) (hv : Vis X.env.scope x := by first | exact Or.inl rfl | exact Or.inr (Or.inl rfl) | exact Or.inr (Or.inr rfl))
    (hd : (x == ("__debug__" : Str)) = false := by decide +kernel) (hcd : (x == ("__classdict__" : Str)) = false := by decide +kernel) : PE X (.Compare (.Name x p1) [.Eq] [.List [] p2] pos) (tD X.K c (dOwnEq i)) :=
  (pe_cmpR (op_eqD hr.units) (pe_var hN hv hd hcd) (pe_lst pa_nil) (nomark _)).imp fun σ H Q ⟨G, ρ, d, s, sl, e, k⟩ => by
    unfold dOwnEq at e
    split at e
    · rename_i ds q
      obtain ⟨p, ep, e⟩ := Option.bind_eq_some_iff.mp e
      split at e
      · rename_i hs
        cases e
        obtain ⟨pa, vs, a1, a2, a3, a4⟩ := sl.own i ds q
        unfold toP at ep
        obtain ⟨ps, e1, rfl⟩ := Option.map_eq_some_iff.mp ep
        refine ⟨_, a1, by show 0 ≤ sizeLine; decide, fun p hp => ⟨.list ps, .list [], ?_, .lst (SqL.of upd_same) .nil, hs, by decide, ?_⟩⟩
        · exact .lst (SqL.of (by rw [upd_ne (ne_of_none a3 hp)]; exact a3)) (toPL_Dp (a4.mono (s.s.trans (Same.new hp))) e1)
        · rw [eqv_nil, toPL_len e1]
          exact k _ G _ (.add s hp True.intro) rfl
      · cases e
    · cases e
theorem d_townEq (i : Nat) {x : Str} {k : Nat} {p1 p2 : Pos} (hr : Room k X.A) (hN : X.N[i]? = some x := by rfl) (hv : Vis X.env.scope x := by first | exact Or.inl rfl | exact Or.inr (Or.inl rfl) | exact Or.inr (Or.inr rfl))
    (hd : (x == ("__debug__" : Str)) = false := by decide +kernel) (hcd : (x == ("__classdict__" : Str)) = false := by decide +kernel) : PT X (.Compare (.Name x p1) [.Eq] [.List [] p2] pos) (tDT X.K c (asB (dOwnEq i))) :=
  (pt_cmpR (op_eqD hr.units) (pe_var hN hv hd hcd) (pe_lst pa_nil) (nomark _)).imp fun σ H Q ⟨G, ρ, b, s, sl, e, k⟩ => by
    have e := asB_some e
    unfold dOwnEq at e
    split at e
    · rename_i ds q
      obtain ⟨p, ep, e⟩ := Option.bind_eq_some_iff.mp e
      split at e
      · rename_i hs
        cases e
        obtain ⟨pa, vs, a1, a2, a3, a4⟩ := sl.own i ds q
        unfold toP at ep
        obtain ⟨ps, e1, rfl⟩ := Option.map_eq_some_iff.mp ep
        refine ⟨_, a1, by show 0 ≤ sizeLine; decide, fun p hp => ⟨.list ps, .list [], ?_, .lst (SqL.of upd_same) .nil, hs, by decide, ?_⟩⟩
        · exact .lst (SqL.of (by rw [upd_ne (ne_of_none a3 hp)]; exact a3)) (toPL_Dp (a4.mono (s.s.trans (Same.new hp))) e1)
        · rw [eqv_nil, toPL_len e1]
          exact ⟨_, rfl, k G _ (.add s hp True.intro)⟩
      · cases e
    · cases e

/-! ### an __init__ that asks and stores -/
inductive IStep where
  | chk (F : DS) | sto (f : Str) (g : DE) | hid
def noOwn (ρ : Sl) : Bool := ρ.all fun | .own _ => false | _ => true
theorem noOwn_ok {ρ : Sl} (h : noOwn ρ = true) (i : Nat) (ds : List D) : ρ[i]? ≠ some (.own ds) := fun e => by
  have := List.all_eq_true.mp h _ (List.mem_of_getElem? e)
  cases this
def evalI (x : Addr) : Bool → List IStep → Sl → Option (List D)
  | _, [], _ => some []
  | sn, .chk F :: r, ρ => match F ρ with
    | some (.nx ρ') => if noOwn ρ' then evalI x sn r ρ' else none
    | _ => none
  | sn, .sto f g :: r, ρ => match ρ[(0 : Nat)]? with
    | some (.val (.raw (.ref y))) => if y = x then (g ρ).bind fun d => if f = kR then (if rig d then (evalI x true r ρ).map fun ds => d :: ds else none) else (evalI x sn r ρ).map fun ds => d :: ds else none
    | _ => none
  | sn, .hid :: r, ρ => match sn, r, ρ[(0 : Nat)]? with
    | true, [], some (.val (.raw (.ref y))) => if y = x then some [.any] else none
    | _, _, _ => none
def stoN : List IStep → List Str
  | [] => []
  | .chk _ :: r => stoN r
  | .sto f _ :: r => f :: stoN r
  | .hid :: r => kT :: stoN r
theorem putF_new (f : Str) (v : V) : ∀ fs : List (Str × V), fs.lookup f = none → putF f v fs = fs ++ [(f, v)]
  | [], _ => rfl
  | (g, x) :: r, h => by
    rw [List.lookup_cons] at h
    cases q : f == g with
    | true => rw [q] at h; cases h
    | false =>
      rw [q] at h
      have hne : ¬ g = f := fun z => by subst z; rw [beq_self_eq_true] at q; cases q
      show (if g = f then _ else _) = _
      rw [if_neg hne, putF_new f v r h]
      rfl
theorem lookup_app {f : Str} : ∀ {fs gs : List (Str × V)}, fs.lookup f = none → (fs ++ gs).lookup f = gs.lookup f
  | [], _, _ => rfl
  | (g, x) :: r, gs, h => by
    rw [List.lookup_cons] at h
    rw [List.cons_append, List.lookup_cons]
    cases q : f == g with
    | true => rw [q] at h; cases h
    | false => rw [q] at h; exact lookup_app h
theorem lookup_some_app {f : Str} {w : V} : ∀ {fs gs : List (Str × V)}, fs.lookup f = some w → (fs ++ gs).lookup f = some w
  | [], _, h => nomatch h
  | (g, x) :: r, gs, h => by
    rw [List.lookup_cons] at h
    rw [List.cons_append, List.lookup_cons]
    cases q : f == g with
    | true => rw [q] at h; exact h
    | false => rw [q] at h; exact lookup_some_app h
structure InI (K : PySem.W.Frag) (c : Cf) (C : Addr) (sn : Bool) (as : List IStep) (x dx : Addr) (G0 H0 G H : Hp) (ρ : Sl) (σ : St) (fs : List (Str × V)) (ds : List D) : Prop where
  n0 : H0 x = none
  gx : G x = none
  hx : H x = some (.ins C dx fs)
  gr : Gr c G0 H0 G H
  sl : Slots K c G H ρ σ
  no : noOwn ρ = true
  ln : fs.length + (stoN as).length < 1000
  nd : (stoN as).Nodup
  nw : ∀ f ∈ stoN as, fs.lookup f = none
  pl : c.pl fs
  ev : evalI x sn as ρ = some ds
  rw : sn = true → ∃ rv d, fs.lookup kR = some rv ∧ rig d = true ∧ Rep K c G d rv
def tI (K : PySem.W.Frag) (c : Cf) (C : Addr) (as : List IStep) : TS := fun E σ H => ∃ sn x dx G0 H0 G ρ fs ds, InI K c C sn as x dx G0 H0 G H ρ σ fs ds ∧
  ∀ σ' G' H' vs, Gr c G0 H0 G' H' → G' x = none → H' x = some (.ins C dx (fs ++ (stoN as).zip vs)) → vs.length = (stoN as).length → RepL K c G' ds vs → Same G G' → E.nx σ' H'
variable {C : Addr} {as : List IStep}
theorem ii_nil : PSs X [] (tI K c C []) := pss_nil.imp fun E σ H ⟨sn, x, dx, G0, H0, G, ρ, fs, ds, I, k⟩ => by
  have := I.ev
  cases this
  exact k σ G H [] I.gr I.gx (by rw [I.hx]; simp [stoN]) rfl rfl (.refl _)
theorem ii_chk {F : DS} (h1 : PS X st (tS K c F)) (h2 : PSs X sts (tI K c C as)) : PSs X (st :: sts) (tI K c C (.chk F :: as)) := (pss_cons h1 h2).imp fun E σ H ⟨sn, x, dx, G0, H0, G, ρ, fs, ds, I, k⟩ => by
  have ev := I.ev
  unfold evalI at ev
  split at ev
  case h_2 => cases ev
  rename_i ρ' q
  split at ev
  case isFalse => cases ev
  rename_i hn
  refine ⟨G, H, ρ, _, ⟨G, .refl I.gr.s, I.sl, fun i es p e _ => (noOwn_ok I.no i es e).elim⟩, q, fun σ' H' ⟨G', h'⟩ => ?_⟩
  exact ⟨sn, x, dx, G0, H0, G', ρ', fs, ds, ⟨I.n0, h'.gr.f x _ I.hx I.gx, h'.gr.hi I.hx, I.gr.trans h'.gr, h'.sl, hn, I.ln, I.nd, I.nw, I.pl, ev, fun z => let ⟨rv, d, a1, a2, a3⟩ := I.rw z; ⟨rv, d, a1, a2, a3.mono h'.gr.g⟩⟩, fun σ2 G2 H2 vs a1 a2 a3 a4 a5 a6 => k σ2 G2 H2 vs a1 a2 a3 a4 a5 (h'.gr.g.trans a6)⟩
theorem ii_sto {f x0 : Str} {g : DE} {p1 p2 : Pos} (he : PE X e (tD K c g)) (hC : Cls X.K C) (hA : NoAttr X.K C f) (h2 : PSs X sts (tI K c C as)) (hpl : ∀ fs v, c.pl fs → c.pl (putF f v fs))
    (hN : X.N[0]? = some x0 := by rfl) (hv : Vis X.env.scope x0 := by first | exact Or.inl rfl | exact Or.inr (Or.inl rfl) | exact Or.inr (Or.inr rfl))
    (hd : (x0 == ("__debug__" : Str)) = false := by decide +kernel) (hcd : (x0 == ("__classdict__" : Str)) = false := by decide +kernel)
    (hs : swapsWith e (some (.Attribute (.Name x0 p1) f p2)) pos.line X.env = pure false := by rfl) :
    PSs X (.Assign [.Attribute (.Name x0 p1) f p2] e pos :: sts) (tI K c C (.sto f g :: as)) := (pss_cons (ps_fld (pe_var hN hv hd hcd) he hs) h2).imp fun E σ H ⟨sn, x, dx, G0, H0, G, ρ, fs, ds, I, k⟩ => by
  have ev := I.ev
  unfold evalI at ev
  split at ev
  case h_2 => cases ev
  rename_i y qy
  split at ev
  case isFalse => cases ev
  rename_i hyx
  subst hyx
  obtain ⟨d, ed, ev⟩ := Option.bind_eq_some_iff.mp ev
  obtain ⟨sn', ds', ev2, rfl, hsn⟩ : ∃ sn' ds', evalI y sn' as ρ = some ds' ∧ d :: ds' = ds ∧ (sn' = true → (f = kR ∧ rig d = true) ∨ sn = true) := by
    split at ev
    · rename_i hk
      split at ev
      · rename_i hrg
        obtain ⟨ds', e1, e2⟩ := Option.map_eq_some_iff.mp ev
        exact ⟨true, ds', e1, e2, fun _ => .inl ⟨hk, hrg⟩⟩
      · cases ev
    · obtain ⟨ds', e1, e2⟩ := Option.map_eq_some_iff.mp ev
      exact ⟨sn, ds', e1, e2, .inr⟩
  have nw := I.nw f (List.mem_cons_self ..)
  have ln : fs.length + ((stoN as).length + 1) < 1000 := I.ln
  have nd := List.nodup_cons.mp (show (f :: stoN as).Nodup from I.nd)
  refine ⟨G, ρ, d, I.gr.s, I.sl, ed, fun v G1 H1 g1 r1 => ?_⟩
  obtain ⟨w, hw, rw'⟩ := I.sl.val 0 _ qy
  have rw' : w = .ref y := rw'
  subst rw'
  have hx1 := g1.hi I.hx
  have gx1 := g1.f y _ I.hx I.gx
  have gr1 := I.gr.trans g1
  refine ⟨.ref y, hw, y, C, dx, fs, rfl, hx1, hC, hA, by omega, ?_⟩
  have hp := hpl fs v I.pl
  rw [putF_new f v fs nw] at hp ⊢
  have gr2 := gr1.chI I.n0 gx1 hx1 I.pl hp
  refine ⟨sn', y, dx, G0, H0, G1, ρ, _, ds', ⟨I.n0, gx1, upd_same, gr2, ?_, I.no, by rw [List.length_append]; simp only [List.length_cons, List.length_nil]; omega, nd.2, fun f' hf' => ?_, hp, ev2, fun z => ?_⟩, fun σ' G' H' vs g2 gx2 hx2 l2 r2 sm2 => ?_⟩
  · exact ⟨I.sl.len, fun i d e => let ⟨v, a, b⟩ := I.sl.val i d e; ⟨v, a, b.mono g1.g⟩, fun i ds e => (noOwn_ok I.no i ds e).elim, fun i _ ds _ _ e _ _ _ => (noOwn_ok I.no i ds e).elim⟩
  · rw [lookup_app (I.nw f' (List.mem_cons_of_mem _ hf')), List.lookup_cons]
    have hb : (f' == f) = false := beq_eq_false_iff_ne.mpr fun z => nd.1 (z ▸ hf')
    rw [hb]
    rfl
  · rcases hsn z with ⟨rfl, hrg⟩ | z
    · exact ⟨v, d, by rw [lookup_app nw]; simp, hrg, r1⟩
    · obtain ⟨rv, d0, a1, a2, a3⟩ := I.rw z
      exact ⟨rv, d0, lookup_some_app a1, a2, a3.mono g1.g⟩
  · refine k σ' G' H' (v :: vs) g2 gx2 (by rw [hx2]; simp [stoN]) (by simp [stoN, l2]) ⟨v, vs, rfl, r1.mono sm2, r2⟩ (g1.g.trans sm2)
variable {P : Program} {w : World} {mg : Str → Option Value} {base : Heap}
theorem okI {x qual : Str} {f : Addr} {fd : FuncData} {N ps : List Str} {k n m nn : Nat} {F : List D → Option (List D)} (Fn : DFun K x qual st f fd) (S : FnScope N ps (defScope st)) (hn : N.length = nn) (hm : ps.length = m + 1) (hs : stoN as = c.nm n) (hnd : (c.nm n).Nodup) (hln : (c.nm n).length < 1000) (hpl : c.pl [])
    (hF : ∀ (y : Addr) (ds fs : List D), ds.length = m → F ds = some fs → noOwn (startD nn (.raw (.ref y) :: ds)) = true ∧ evalI y false as (startD nn (.raw (.ref y) :: ds)) = some fs)
    (hbody : ∀ (cdv : Value) (A : Around) (outer : List Env) (s : Shared) (H : Hp) (E : XK), Room k (A.deeper (PyProof.Rows.envOfC qual (defScope st) s.heap.objs.size f cdv)) →
      PSs (cxOf CX0 P w K mg base N qual (defScope st) f cdv A outer s H E).nox (defBody st) (tI K c (c.cl n) as)) : FnOk P w K mg base CX0 (k + 1) f fd ps (spI K c n m F) := by
  subst hn
  refine Fn.ok S (fun vs H Q E h => ?_) (fun cdv A outer s H vs Q E hr h => ?_)
  · obtain ⟨y, dx, us, G, H0, ds, fs, rfl, _, _, _, _, _, r, hl, _⟩ := h
    rw [List.length_cons, r.length, hl, hm]
  · obtain ⟨y, dx, us, G, H0, ds, fs, rfl, hx, hdx, ne, rfl, sm, r, hl, e, kk⟩ := h
    obtain ⟨e1, e2⟩ := hF y ds fs hl e
    refine ⟨_, hbody cdv A outer s _ E hr, ?_⟩
    have g := Gr.addI (C := c.cl n) sm hx hdx ne hpl
    refine ⟨false, y, dx, G, H0, G, _, [], fs, ⟨hx, sm.none hx, upd_same, g, slots_start (K := K) (c := c) (n := N.length) (ds := .raw (.ref y) :: ds) ⟨_, us, rfl, rfl, r⟩, e1, by rw [hs]; simpa using hln, by rw [hs]; exact hnd, fun _ _ => rfl, hpl, e2, fun z => nomatch z⟩, fun σ' G' H' vs g2 gx h2 l2 r2 _ => ?_⟩
    rw [hs] at h2 l2
    exact kk G' H' vs g2 h2 gx l2 r2
end
end DL
set_option maxRecDepth 100000
namespace DL
open PySem L2
section
variable {K : PySem.W.Frag} {cl : Nat → Addr} {nm : Nat → List Str} {fn : Nat → Addr} {G : Hp}
theorem zip_inj {α β : Type} : ∀ {l : List α} {a b : List β}, a.length = l.length → b.length = l.length → l.zip a = l.zip b → a = b
  | [], [], [], _, _, _ => rfl
  | [], _ :: _, _, h, _, _ => nomatch h
  | [], _, _ :: _, _, h, _ => nomatch h
  | _ :: _, [], _, h, _, _ => nomatch h
  | _ :: _, _ :: _, [], _, h, _ => nomatch h
  | x :: l, a :: as, b :: bs, h1, h2, e => by
    rw [List.zip_cons_cons, List.zip_cons_cons] at e
    obtain ⟨e1, e2⟩ := List.cons.inj e
    rw [(Prod.mk.inj e1).2, zip_inj (by simpa using h1) (by simpa using h2) e2]
mutual
theorem rep_fun (inj : ∀ i j, cl i = cl j → i = j) : ∀ (d d' : D) (v : V), rig d = true → rig d' = true → Rep0 K cl nm fn G d v → Rep0 K cl nm fn G d' v → d = d'
  | .non, d', v, _, r', h, h' => by
    cases h
    cases d' <;> first | rfl | (cases r'; done) | (cases h'; done) | (obtain ⟨_, _, e, _⟩ := h'; cases e; done) | (obtain ⟨_, _, _, e, _⟩ := h'; cases e; done)
  | .bl b, d', v, _, r', h, h' => by
    cases h
    cases d' <;> first | (cases h'; rfl) | (cases r'; done) | (cases h'; done) | (obtain ⟨_, _, e, _⟩ := h'; cases e; done) | (obtain ⟨_, _, _, e, _⟩ := h'; cases e; done)
  | .int i, d', v, _, r', h, h' => by
    cases h
    cases d' <;> first | (cases h'; rfl) | (cases r'; done) | (cases h'; done) | (obtain ⟨_, _, e, _⟩ := h'; cases e; done) | (obtain ⟨_, _, _, e, _⟩ := h'; cases e; done)
  | .str x, d', v, _, r', h, h' => by
    cases h
    cases d' <;> first | (cases h'; rfl) | (cases r'; done) | (cases h'; done) | (obtain ⟨_, _, e, _⟩ := h'; cases e; done) | (obtain ⟨_, _, _, e, _⟩ := h'; cases e; done)
  | .lst ds, d', v, r, r', h, h' => by
    obtain ⟨p, vs, rfl, hp, hr⟩ := h
    cases d' with
    | lst es =>
      obtain ⟨p', vs', e, hp', hr'⟩ := h'
      cases e
      rw [hp] at hp'
      cases hp'
      rw [repL_fun inj ds es vs r r' hr hr']
    | ins n es =>
      obtain ⟨p', dx, vs', e, hp', _⟩ := h'
      cases e
      rw [hp] at hp'
      exact nomatch hp'
    | non => exact nomatch h'
    | bl _ => exact nomatch h'
    | int _ => exact nomatch h'
    | str _ => exact nomatch h'
    | tup _ => exact nomatch r'
    | raw _ => exact nomatch r'
    | scr _ => exact nomatch r'
    | any => exact nomatch r'
    | fn _ => exact nomatch r'
    | dct _ _ => exact nomatch r'
  | .ins n ds, d', v, r, r', h, h' => by
    obtain ⟨p, dx, vs, rfl, hp, hl, hr⟩ := h
    cases d' with
    | lst es =>
      obtain ⟨p', vs', e, hp', _⟩ := h'
      cases e
      rw [hp] at hp'
      exact nomatch hp'
    | ins m es =>
      obtain ⟨p', dx', vs', e, hp', hl', hr'⟩ := h'
      cases e
      rw [hp] at hp'
      have e1 := HO.ins.inj (Option.some.inj hp')
      have e2 := inj _ _ e1.1
      subst e2
      have e3 := zip_inj hl hl' e1.2.2
      subst e3
      rw [repL_fun inj ds es vs r r' hr hr']
    | non => exact nomatch h'
    | bl _ => exact nomatch h'
    | int _ => exact nomatch h'
    | str _ => exact nomatch h'
    | tup _ => exact nomatch r'
    | raw _ => exact nomatch r'
    | scr _ => exact nomatch r'
    | any => exact nomatch r'
    | fn _ => exact nomatch r'
    | dct _ _ => exact nomatch r'
  | .tup _, _, _, r, _, _, _ => nomatch r
  | .raw _, _, _, r, _, _, _ => nomatch r
  | .scr _, _, _, r, _, _, _ => nomatch r
  | .any, _, _, r, _, _, _ => nomatch r
  | .fn _, _, _, r, _, _, _ => nomatch r
  | .dct _ _, _, _, r, _, _, _ => nomatch r
theorem repL_fun (inj : ∀ i j, cl i = cl j → i = j) : ∀ (ds es : List D) (vs : List V), rigL ds = true → rigL es = true → RepL0 K cl nm fn G ds vs → RepL0 K cl nm fn G es vs → ds = es
  | [], [], _, _, _, _, _ => rfl
  | [], _ :: _, _, _, _, h, h' => by
    cases h
    obtain ⟨_, _, e, _⟩ := h'
    exact nomatch e
  | _ :: _, [], _, _, _, h, h' => by
    cases h'
    obtain ⟨_, _, e, _⟩ := h
    exact nomatch e
  | d :: ds, e :: es, vs, r, r', h, h' => by
    obtain ⟨v, q, rfl, h1, h2⟩ := h
    obtain ⟨v', q', e1, h1', h2'⟩ := h'
    cases e1
    unfold rigL at r r'
    rw [Bool.and_eq_true] at r r'
    rw [rep_fun inj d e v r.1 r'.1 h1 h1', repL_fun inj ds es q r.2 r'.2 h2 h2']
end
end
/-! ### the books' own tables of days told -/
def kU : List (List Key) := [28, 29, 30, 31].flatMap fun (l : Int) => [0, 1, 2, 3, 4, 5, 6].map fun (f : Int) => [Sum.inl l, Sum.inl f]
structure Good (dayF : D → Int → Int → Option Int) (d : D) (kvs : List (List Key × V)) : Prop where
  en : ∀ k w, valV kvs k = some w → ∃ l f n, k = [.inl l, .inl f] ∧ w = .int n ∧ dayF d l f = some n
  ct : kvs.length + kU.countP (fun k => (valV kvs k).isNone) ≤ 28
theorem good_nil {dayF : D → Int → Int → Option Int} {d : D} : Good dayF d [] := ⟨(fun k w e => nomatch (valV_nil (k := k)).symm.trans e), by decide⟩
theorem countP_lt {α : Type} {p q : α → Bool} (h : ∀ a, q a = true → p a = true) {x : α} (hp : p x = true) (hq : q x = false) : ∀ l : List α, x ∈ l → l.countP q + 1 ≤ l.countP p
  | [], m => nomatch m
  | a :: l, m => by
    rw [List.countP_cons, List.countP_cons]
    have mono : l.countP q ≤ l.countP p := List.countP_mono_left fun b _ => h b
    rcases List.mem_cons.mp m with rfl | m
    · rw [hp, hq]; simp; omega
    · have ih := countP_lt h hp hq l m
      have : (if q a = true then 1 else 0) ≤ (if p a = true then 1 else 0) := by
        by_cases z : q a = true
        · rw [if_pos z, if_pos (h a z)]; exact Nat.le_refl _
        · rw [if_neg z]; exact Nat.zero_le _
      omega
theorem good_put {dayF : D → Int → Int → Option Int} {d : D} {kvs : List (List Key × V)} {l f n : Int} (g : Good dayF d kvs) (hn : valV kvs [.inl l, .inl f] = none) (hU : [Sum.inl l, Sum.inl f] ∈ kU) (hd : dayF d l f = some n) : Good dayF d (putK kvs [.inl l, .inl f] (.int n)) := by
  refine ⟨fun k w e => ?_, ?_⟩
  · rw [valV_put] at e
    split at e
    · rename_i z
      cases e
      exact ⟨l, f, n, z, rfl, hd⟩
    · exact g.en k w e
  · have hl : (putK kvs [.inl l, .inl f] (V.int n)).length = kvs.length + 1 := by rw [putK_new _ hn]; simp
    have := countP_lt (p := fun k => (valV kvs k).isNone) (q := fun k => (valV (putK kvs [.inl l, .inl f] (V.int n)) k).isNone) (fun k z => by
      simp only [valV_put] at z
      split at z
      · cases z
      · exact z) (x := [.inl l, .inl f]) (by simp [hn]) (by simp [valV_put]) kU hU
    have := g.ct
    omega
section
variable (K : PySem.W.Frag) (cl : Nat → Addr) (nm : Nat → List Str) (fn : Nat → Addr) (dayF : D → Int → Int → Option Int)
def hidB (H : Hp) (a : Addr) : Prop := ∃ p C dx fs kvs, H p = some (.ins C dx fs) ∧ fs.lookup kT = some (.ref a) ∧ H a = some (.dT kvs)
structure InvB1 (G H : Hp) (p : Addr) (fs : List (Str × V)) (v : V) (a : Addr) (kvs : List (List Key × V)) (rv : V) (d : D) : Prop where
  ev : v = .ref a
  ha : H a = some (.dT kvs)
  hr : fs.lookup kR = some rv
  rg : rig d = true
  rep : Rep0 K cl nm fn G d rv
  gd : Good dayF d kvs
  un : ∀ p' C' dx' fs', H p' = some (.ins C' dx' fs') → fs'.lookup kT = some (.ref a) → p' = p
def invB (G H : Hp) : Prop := ∀ p C dx fs v, H p = some (.ins C dx fs) → fs.lookup kT = some v → ∃ a kvs rv d, InvB1 K cl nm fn dayF G H p fs v a kvs rv d
variable {K cl nm fn dayF}
theorem hidB_ben {H : Hp} {p : Addr} {o : HO} (h : ∀ C dx fs, H p ≠ some (.ins C dx fs)) (b : ben o) {a : Addr} (z : hidB (upd H p o) a) : hidB H a := by
  obtain ⟨p', C, dx, fs, kvs, h1, h2, h3⟩ := z
  have n1 : p' ≠ p := fun e => by subst e; rw [upd_same] at h1; cases h1; exact b
  have n2 : a ≠ p := fun e => by subst e; rw [upd_same] at h3; cases h3; exact b
  rw [upd_ne n1] at h1
  rw [upd_ne n2] at h3
  exact ⟨p', C, dx, fs, kvs, h1, h2, h3⟩
theorem invB_ben {G H : Hp} {p : Addr} {o : HO} (h : ∀ C dx fs, H p ≠ some (.ins C dx fs)) (h' : ∀ kvs, H p ≠ some (.dT kvs)) (b : ben o) (i : invB K cl nm fn dayF G H) : invB K cl nm fn dayF G (upd H p o) := by
  intro p' C dx fs v h1 h2
  have n1 : p' ≠ p := fun e => by subst e; rw [upd_same] at h1; cases h1; exact b
  rw [upd_ne n1] at h1
  obtain ⟨a, kvs, rv, d, q⟩ := i p' C dx fs v h1 h2
  have n2 : a ≠ p := fun e => by subst e; exact h' _ q.ha
  refine ⟨a, kvs, rv, d, q.ev, by rw [upd_ne n2]; exact q.ha, q.hr, q.rg, q.rep, q.gd, fun p2 C2 dx2 fs2 e1 e2 => ?_⟩
  have n3 : p2 ≠ p := fun e => by subst e; rw [upd_same] at e1; cases e1; exact b
  rw [upd_ne n3] at e1
  exact q.un p2 C2 dx2 fs2 e1 e2
theorem hidB_ins {H : Hp} {p C dx : Addr} {fs : List (Str × V)} (h' : ∀ kvs, H p ≠ some (.dT kvs)) (hl : fs.lookup kT = none) {a : Addr} (z : hidB (upd H p (.ins C dx fs)) a) : hidB H a := by
  obtain ⟨p', C', dx', fs', kvs, h1, h2, h3⟩ := z
  have n1 : p' ≠ p := fun e => by subst e; rw [upd_same] at h1; cases h1; rw [hl] at h2; cases h2
  have n2 : a ≠ p := fun e => by subst e; rw [upd_same] at h3; cases h3
  rw [upd_ne n1] at h1
  rw [upd_ne n2] at h3
  exact ⟨p', C', dx', fs', kvs, h1, h2, h3⟩
theorem invB_ins {G H : Hp} {p C dx : Addr} {fs : List (Str × V)} (h' : ∀ kvs, H p ≠ some (.dT kvs)) (hl : fs.lookup kT = none) (i : invB K cl nm fn dayF G H) : invB K cl nm fn dayF G (upd H p (.ins C dx fs)) := by
  intro p' C' dx' fs' v h1 h2
  have n1 : p' ≠ p := fun e => by subst e; rw [upd_same] at h1; cases h1; rw [hl] at h2; cases h2
  rw [upd_ne n1] at h1
  obtain ⟨a, kvs, rv, d, q⟩ := i p' C' dx' fs' v h1 h2
  have n2 : a ≠ p := fun e => by subst e; exact h' _ q.ha
  refine ⟨a, kvs, rv, d, q.ev, by rw [upd_ne n2]; exact q.ha, q.hr, q.rg, q.rep, q.gd, fun p2 C2 dx2 fs2 e1 e2 => ?_⟩
  have n3 : p2 ≠ p := fun e => by subst e; rw [upd_same] at e1; cases e1; rw [hl] at e2; cases e2
  rw [upd_ne n3] at e1
  exact q.un p2 C2 dx2 fs2 e1 e2
theorem hidB_own {H : Hp} {p x : Addr} {a : Addr} (z : hidB (upd H p (.own x)) a) : hidB H a := by
  obtain ⟨p', C', dx', fs', kvs, h1, h2, h3⟩ := z
  have n1 : p' ≠ p := fun e => by subst e; rw [upd_same] at h1; cases h1
  have n2 : a ≠ p := fun e => by subst e; rw [upd_same] at h3; cases h3
  rw [upd_ne n1] at h1
  rw [upd_ne n2] at h3
  exact ⟨p', C', dx', fs', kvs, h1, h2, h3⟩
theorem invB_own {G H : Hp} {p x : Addr} (h' : ∀ kvs, H p ≠ some (.dT kvs)) (i : invB K cl nm fn dayF G H) : invB K cl nm fn dayF G (upd H p (.own x)) := by
  intro p' C' dx' fs' v h1 h2
  have n1 : p' ≠ p := fun e => by subst e; rw [upd_same] at h1; cases h1
  rw [upd_ne n1] at h1
  obtain ⟨a, kvs, rv, d, q⟩ := i p' C' dx' fs' v h1 h2
  have n2 : a ≠ p := fun e => by subst e; exact h' _ q.ha
  refine ⟨a, kvs, rv, d, q.ev, by rw [upd_ne n2]; exact q.ha, q.hr, q.rg, q.rep, q.gd, fun p2 C2 dx2 fs2 e1 e2 => ?_⟩
  have n3 : p2 ≠ p := fun e => by subst e; rw [upd_same] at e1; cases e1
  rw [upd_ne n3] at e1
  exact q.un p2 C2 dx2 fs2 e1 e2
end
/-- the classes with books whose rows' days are kept -/
def cfB (K : PySem.W.Frag) (cl : Nat → Addr) (nm : Nat → List Str) (fn : Nat → Addr) (dayF : D → Int → Int → Option Int) : Cf where
  cl := cl
  nm := nm
  fn := fn
  pl fs := fs.lookup kT = none
  hid := hidB
  inv := invB K cl nm fn dayF
  imo G G' H s i := fun p C dx fs v h1 h2 => let ⟨a, kvs, rv, d, q⟩ := i p C dx fs v h1 h2; ⟨a, kvs, rv, d, q.ev, q.ha, q.hr, q.rg, Rep0.mono (c := ⟨cl, nm, fn, fun _ => True, fun _ _ => False, fun _ _ => True, fun _ _ _ _ _ => True.intro, fun _ _ _ _ z => z.elim, fun _ _ _ _ _ => ⟨fun _ _ => True.intro, fun _ _ z => z⟩, fun _ _ _ _ _ _ _ _ _ => ⟨fun _ _ => True.intro, fun _ _ _ z => z⟩, fun _ _ _ _ _ _ _ _ _ => ⟨fun _ _ => True.intro, fun _ z => z⟩, fun _ _ _ _ _ _ _ => ⟨fun _ _ => True.intro, fun _ z => z⟩⟩) s q.rep, q.gd, q.un⟩
  hno H a o e z := by
    obtain ⟨_, _, _, _, kvs, _, _, h3⟩ := z
    rw [h3] at e
    cases e
    exact True.intro
  add H p o h b := ⟨fun G i => invB_ben (fun _ _ _ e => nomatch h.symm.trans e) (fun _ e => nomatch h.symm.trans e) b i, fun a _ z => hidB_ben (fun _ _ _ e => nomatch h.symm.trans e) b z⟩
  adI H p dx C fs h hd ne b := by
    have q : ∀ kvs, (upd H dx (.own p)) p ≠ some (.dT kvs) := fun kvs e => by rw [upd_ne (Ne.symm ne), h] at e; cases e
    exact ⟨fun G i => invB_ins q b (invB_own (fun _ e => nomatch hd.symm.trans e) i), fun a _ _ z => hidB_own (hidB_ins q b z)⟩
  chI H p dx C fs fs' h b b' := ⟨fun G i => invB_ins (fun _ e => nomatch h.symm.trans e) b' i, fun a z => hidB_ins (fun _ e => nomatch h.symm.trans e) b' z⟩
  chg H p o o' h b b' := ⟨fun G i => invB_ben (fun _ _ _ e => by rw [h] at e; cases e; exact b) (fun _ e => by rw [h] at e; cases e; exact b) b' i, fun a z => hidB_ben (fun _ _ _ e => by rw [h] at e; cases e; exact b) b' z⟩
end DL
set_option maxRecDepth 100000
namespace DL
open PySem L2
theorem good_put' {dayF : D → Int → Int → Option Int} {d : D} {kvs : List (List Key × V)} {l f n : Int} (g : Good dayF d kvs) (hU : [Sum.inl l, Sum.inl f] ∈ kU) (hd : dayF d l f = some n) : Good dayF d (putK kvs [.inl l, .inl f] (.int n)) := by
  cases q : valV kvs [.inl l, .inl f] with
  | none => exact good_put g q hU hd
  | some w =>
    refine ⟨fun k w e => ?_, ?_⟩
    · rw [valV_put] at e
      split at e
      · rename_i z
        cases e
        exact ⟨l, f, n, z, rfl, hd⟩
      · exact g.en k w e
    · have hl : (putK kvs [.inl l, .inl f] (V.int n)).length = kvs.length := by
        unfold putK
        rw [valV_any, q]
        simp
      have hc : kU.countP (fun k => (valV (putK kvs [.inl l, .inl f] (V.int n)) k).isNone) = kU.countP (fun k => (valV kvs k).isNone) := by
        congr 1
        funext k
        rw [valV_put]
        split
        · rename_i z
          rw [z, q]
          rfl
        · rfl
      rw [hl, hc]
      exact g.ct
section
variable {X : Cx} {K : PySem.W.Frag} {cl : Nat → Addr} {nm : Nat → List Str} {fn : Nat → Addr} {dayF : D → Int → Int → Option Int} {e a b : Expr} {es : List Expr} {pos : Pos} {st : Stmt} {sts : List Stmt}
/-- the empty table laid down, told by the instance -/
theorem gr_hid {G0 H0 G H : Hp} {x p C dx : Addr} {fs : List (Str × V)} {rv : V} {d : D} (g : Gr (cfB K cl nm fn dayF) G0 H0 G H) (n0 : H0 x = none) (gx : G x = none) (hx : H x = some (.ins C dx fs)) (hl : fs.lookup kT = none) (hp : H p = none) (hr : fs.lookup kR = some rv) (rg : rig d = true) (rep : Rep0 K cl nm fn G d rv) :
    Gr (cfB K cl nm fn dayF) G0 H0 G (upd (upd H p (.dT [])) x (.ins C dx (fs ++ [(kT, .ref p)]))) := by
  have nxp : x ≠ p := fun z => by subst z; rw [hx] at hp; cases hp
  have lk : (fs ++ [(kT, V.ref p)]).lookup kT = some (.ref p) := by rw [lookup_app hl]; simp
  have np0 : H0 p = none := g.d p hp
  refine ⟨g.g, fun a o e z => ?_, fun a e => ?_, fun a o e z => ?_, ⟨fun a o e => ?_, ?_, g.s.t⟩, g.f⟩
  · have n1 : a ≠ x := fun q => by subst q; rw [n0] at e; cases e
    have n2 : a ≠ p := fun q => by subst q; rw [np0] at e; cases e
    rw [upd_ne n1, upd_ne n2]
    exact g.h a o e z
  · by_cases n1 : a = x
    · subst n1; exact n0
    · rw [upd_ne n1] at e
      by_cases n2 : a = p
      · subst n2; exact np0
      · rw [upd_ne n2] at e; exact g.d a e
  · refine g.m a o e ?_
    obtain ⟨p', C', dx', fs', kvs, h1, h2, h3⟩ := z
    have n1 : a ≠ x := fun q => by subst q; rw [n0] at e; cases e
    have n2 : a ≠ p := fun q => by subst q; rw [np0] at e; cases e
    rw [upd_ne n1, upd_ne n2] at h3
    have n3 : p' ≠ x := fun q => by
      subst q
      rw [upd_same] at h1
      cases h1
      rw [lk] at h2
      cases h2
      exact n2 rfl
    rw [upd_ne n3] at h1
    have n4 : p' ≠ p := fun q => by subst q; rw [upd_same] at h1; cases h1
    rw [upd_ne n4] at h1
    exact ⟨p', C', dx', fs', kvs, h1, h2, h3⟩
  · have n1 : a ≠ x := fun q => by subst q; rw [gx] at e; cases e
    have n2 : a ≠ p := fun q => by subst q; rw [g.s.none hp] at e; cases e
    rw [upd_ne n1, upd_ne n2]
    exact g.s a o e
  · intro p' C' dx' fs' v h1 h2
    by_cases n3 : p' = x
    · subst n3
      rw [upd_same] at h1
      cases h1
      rw [lk] at h2
      cases h2
      refine ⟨p, [], rv, d, rfl, by rw [upd_ne (Ne.symm nxp), upd_same], lookup_some_app hr, rg, rep, good_nil, fun p2 C2 dx2 fs2 e1 e2 => ?_⟩
      by_cases n5 : p2 = p'
      · exact n5
      · rw [upd_ne n5] at e1
        have n6 : p2 ≠ p := fun q => by subst q; rw [upd_same] at e1; cases e1
        rw [upd_ne n6] at e1
        obtain ⟨a, kvs, _, _, q⟩ := g.s.i p2 C2 dx2 fs2 _ e1 e2
        have := q.ev
        cases this
        have := q.ha
        rw [hp] at this
        cases this
    · rw [upd_ne n3] at h1
      have n4 : p' ≠ p := fun q => by subst q; rw [upd_same] at h1; cases h1
      rw [upd_ne n4] at h1
      obtain ⟨a, kvs, rv', d', q⟩ := g.s.i p' C' dx' fs' v h1 h2
      have n5 : a ≠ p := fun z => by subst z; have := q.ha; rw [hp] at this; cases this
      have n6 : a ≠ x := fun z => by subst z; have := q.ha; rw [hx] at this; cases this
      refine ⟨a, kvs, rv', d', q.ev, by rw [upd_ne n6, upd_ne n5]; exact q.ha, q.hr, q.rg, q.rep, q.gd, fun p2 C2 dx2 fs2 e1 e2 => ?_⟩
      by_cases n7 : p2 = x
      · subst n7
        rw [upd_same] at e1
        cases e1
        rw [lk] at e2
        cases e2
        exact (n5 rfl).elim
      · rw [upd_ne n7] at e1
        have n8 : p2 ≠ p := fun z => by subst z; rw [upd_same] at e1; cases e1
        rw [upd_ne n8] at e1
        exact q.un p2 C2 dx2 fs2 e1 e2
theorem ii_hid {C : Addr} {x0 : Str} {p1 p2 p3 : Pos} (hC : Cls X.K C) (hA : NoAttr X.K C kT)
    (hN : X.N[0]? = some x0 := by rfl) (hv : Vis X.env.scope x0 := by first | exact Or.inl rfl | exact Or.inr (Or.inl rfl) | exact Or.inr (Or.inr rfl))
    (hd : (x0 == ("__debug__" : Str)) = false := by decide +kernel) (hcd : (x0 == ("__classdict__" : Str)) = false := by decide +kernel)
    (hs : swapsWith (.Dict [] [] p3) (some (.Attribute (.Name x0 p1) kT p2)) pos.line X.env = pure false := by rfl) :
    PSs X [.Assign [.Attribute (.Name x0 p1) kT p2] (.Dict [] [] p3) pos] (tI K (cfB K cl nm fn dayF) C [.hid]) := (pss_one (ps_fld (pe_var hN hv hd hcd) pe_dnewT hs)).imp fun E σ H ⟨sn, x, dx, G0, H0, G, ρ, fs, ds, I, k⟩ => by
  have ev := I.ev
  unfold evalI at ev
  split at ev
  case h_2 => cases ev
  rename_i y _ qy
  split at ev
  case isFalse => cases ev
  rename_i hyx
  subst hyx
  cases ev
  obtain ⟨rv, d, a1, a2, a3⟩ := I.rw rfl
  obtain ⟨w, hw, rw'⟩ := I.sl.val 0 _ qy
  have rw' : w = .ref y := rw'
  subst rw'
  intro p hp
  have nyp : y ≠ p := fun z => by subst z; rw [I.hx] at hp; cases hp
  refine ⟨.ref y, hw, y, C, dx, fs, rfl, by rw [upd_ne nyp]; exact I.hx, hC, hA, by have := I.ln; omega, ?_⟩
  have nw : fs.lookup kT = none := I.nw kT (List.mem_cons_self ..)
  rw [putF_new kT (.ref p) fs nw]
  exact k σ G _ [.ref p] (gr_hid I.gr I.n0 I.gx I.hx I.pl hp a1 a2 a3) I.gx upd_same rfl ⟨_, [], rfl, True.intro, rfl⟩ (.refl _)
/-! ### a row's days, told once -/
theorem gr_put {G0 H0 G H : Hp} {p C dx a : Addr} {fs : List (Str × V)} {kvs : List (List Key × V)} {rv : V} {d : D} {l f n : Int} (g : Gr (cfB K cl nm fn dayF) G0 H0 G H) (hp : H p = some (.ins C dx fs)) (q : InvB1 K cl nm fn dayF G H p fs (.ref a) a kvs rv d) (hl : fs.lookup kT = some (.ref a))
    (hU : [Sum.inl l, Sum.inl f] ∈ kU) (hd : dayF d l f = some n) : Gr (cfB K cl nm fn dayF) G0 H0 G (upd H a (.dT (putK kvs [.inl l, .inl f] (.int n)))) := by
  have nap : p ≠ a := fun z => by subst z; have := q.ha; rw [hp] at this; cases this
  have hid : hidB H a := ⟨p, C, dx, fs, kvs, hp, hl, q.ha⟩
  refine ⟨g.g, fun x o e z => ?_, fun x e => ?_, fun x o e z => ?_, ⟨fun x o e => ?_, ?_, g.s.t⟩, g.f⟩
  · have n1 : x ≠ a := fun y => by subst y; exact z (g.m x o e hid)
    rw [upd_ne n1]
    exact g.h x o e z
  · by_cases n1 : x = a
    · subst n1; rw [upd_same] at e; cases e
    · rw [upd_ne n1] at e; exact g.d x e
  · refine g.m x o e ?_
    obtain ⟨p', C', dx', fs', kvs', h1, h2, h3⟩ := z
    have n1 : p' ≠ a := fun y => by subst y; rw [upd_same] at h1; cases h1
    rw [upd_ne n1] at h1
    by_cases n2 : x = a
    · subst n2; exact hid
    · rw [upd_ne n2] at h3
      exact ⟨p', C', dx', fs', kvs', h1, h2, h3⟩
  · have n1 : x ≠ a := fun y => by subst y; have := g.s x o e; rw [q.ha] at this; cases this; exact g.s.t x _ e
    rw [upd_ne n1]
    exact g.s x o e
  · intro p' C' dx' fs' v h1 h2
    have n1 : p' ≠ a := fun y => by subst y; rw [upd_same] at h1; cases h1
    rw [upd_ne n1] at h1
    obtain ⟨a', kvs', rv', d', q'⟩ := g.s.i p' C' dx' fs' v h1 h2
    have un : ∀ {A : Addr} {Y : Addr}, (∀ p2 C2 dx2 fs2, H p2 = some (.ins C2 dx2 fs2) → fs2.lookup kT = some (.ref A) → p2 = Y) → ∀ p2 C2 dx2 fs2, (upd H a (.dT (putK kvs [.inl l, .inl f] (.int n)))) p2 = some (.ins C2 dx2 fs2) → fs2.lookup kT = some (.ref A) → p2 = Y := fun u p2 C2 dx2 fs2 e1 e2 => by
      have n3 : p2 ≠ a := fun y => by subst y; rw [upd_same] at e1; cases e1
      rw [upd_ne n3] at e1
      exact u p2 C2 dx2 fs2 e1 e2
    by_cases n2 : a' = a
    · subst n2
      have := q'.ev
      subst this
      have e3 := q.un p' C' dx' fs' h1 h2
      subst e3
      rw [hp] at h1
      cases h1
      exact ⟨a', _, rv, d, rfl, upd_same, q.hr, q.rg, q.rep, good_put' q.gd hU hd, un q.un⟩
    · exact ⟨a', kvs', rv', d', q'.ev, by rw [upd_ne n2]; exact q'.ha, q'.hr, q'.rg, q'.rep, q'.gd, un q'.un⟩
theorem mem_kU {x y : Int} (h : 28 ≤ x ∧ x ≤ 31 ∧ 0 ≤ y ∧ y ≤ 6) : [Sum.inl x, Sum.inl y] ∈ kU := by
  obtain ⟨a, b, c, d⟩ := h
  have hx : x = 28 ∨ x = 29 ∨ x = 30 ∨ x = 31 := by omega
  have hy : y = 0 ∨ y = 1 ∨ y = 2 ∨ y = 3 ∨ y = 4 ∨ y = 5 ∨ y = 6 := by omega
  unfold kU
  refine List.mem_flatMap.mpr ⟨x, ?_, List.mem_map.mpr ⟨y, ?_, rfl⟩⟩
  · rcases hx with rfl | rfl | rfl | rfl <;> simp
  · rcases hy with rfl | rfl | rfl | rfl | rfl | rfl | rfl <;> simp
/-- days = the table's, asked once: slots i (self), l, f (the key), j (where it is told) -/
def sCache (dayF : D → Int → Int → Option Int) (i l f j : Nat) (fv : DE) : DS := fun ρ => match ρ[i]?, ρ[l]?, ρ[f]?, fv ρ with
  | some (.val (.ins 9 [row, _, _])), some (.val (.int x)), some (.val (.int y)), some (.int n) => if rig row = true ∧ (28 ≤ x ∧ x ≤ 31 ∧ 0 ≤ y ∧ y ≤ 6) ∧ dayF row x y = some n then some (.nx (ρ.set j (.val (.int n)))) else none
  | _, _, _, _ => none
theorem cache_at {G H : Hp} {p dx : Addr} {v0 v1 v2 : V} {row : D} (inj : ∀ i j, cl i = cl j → i = j) (s : Sm (cfB K cl nm fn dayF) G H) (hp : G p = some (.ins (cl 9) dx [(kR, v0), ("told_times", v1), (kT, v2)])) (rg : rig row = true) (r : Rep0 K cl nm fn G row v0) :
    ∃ a kvs, v2 = .ref a ∧ InvB1 K cl nm fn dayF G H p [(kR, v0), ("told_times", v1), (kT, v2)] (.ref a) a kvs v0 row := by
  have lk : ([(kR, v0), ("told_times", v1), (kT, v2)] : List (Str × V)).lookup kT = some v2 := by
    simp [List.lookup_cons, show (kT == kR) = false by decide +kernel, show (kT == ("told_times" : Str)) = false by decide +kernel]
  obtain ⟨a, kvs, rv, d, q⟩ := s.i p _ dx _ v2 (s _ _ hp) lk
  have e1 := q.hr
  rw [List.lookup_cons, beq_self_eq_true] at e1
  cases e1
  have e2 := rep_fun inj d row _ q.rg rg q.rep r
  subst e2
  have e3 := q.ev
  subst e3
  exact ⟨a, kvs, rfl, q⟩
theorem sCache_nx {i l f j : Nat} {fv : DE} {ρ : Sl} {o : Out} (e : sCache dayF i l f j fv ρ = some o) : ∃ ρ', o = .nx ρ' := by
  unfold sCache at e
  split at e
  · split at e
    · cases e; exact ⟨_, rfl⟩
    · cases e
  · cases e
theorem ss_cache {i l f j k : Nat} {xs xl xf xd : Str} {fv : DE} {R : DS} {ev : Expr} {p1 p2 p3 p4 p5 p6 p7 p8 p9 p10 p11 p12 p13 p14 p15 p16 p17 p18 p19 p20 p21 p22 : Pos} {k1 k2 k3}
    (inj : ∀ i j, cl i = cl j → i = j) (hnm : nm 9 = [kR, "told_times", kT]) (hC : Cls X.K (cl 9)) (hA : NoAttr X.K (cl 9) kT) (hr : Room k X.A) (hval : PE X ev (tD X.K (cfB X.K cl nm fn dayF) fv)) (hN : X.N.Nodup) (h2 : PSs X sts (tS X.K (cfB X.K cl nm fn dayF) R))
    (ni : X.N[i]? = some xs := by rfl) (nl : X.N[l]? = some xl := by rfl) (nf : X.N[f]? = some xf := by rfl) (nj : X.N[j]? = some xd := by rfl)
    (vi : Vis X.env.scope xs := by first | exact Or.inl rfl | exact Or.inr (Or.inl rfl) | exact Or.inr (Or.inr rfl)) (vl : Vis X.env.scope xl := by first | exact Or.inl rfl | exact Or.inr (Or.inl rfl) | exact Or.inr (Or.inr rfl)) (vf : Vis X.env.scope xf := by first | exact Or.inl rfl | exact Or.inr (Or.inl rfl) | exact Or.inr (Or.inr rfl))
    (di : (xs == ("__debug__" : Str)) = false := by decide +kernel) (ci : (xs == ("__classdict__" : Str)) = false := by decide +kernel) (dl : (xl == ("__debug__" : Str)) = false := by decide +kernel) (cdl : (xl == ("__classdict__" : Str)) = false := by decide +kernel) (df : (xf == ("__debug__" : Str)) = false := by decide +kernel) (cdf : (xf == ("__classdict__" : Str)) = false := by decide +kernel)
    (hx : Loc X.env.scope xd := by first | exact Or.inl rfl | exact Or.inr rfl) (hf : X.fn xd = true ∨ X.env.scope.names.lookup xd = some .local := by first | exact .inl rfl | exact .inr rfl)
    (hs1 : swapsWith ev (some (.Subscript (.Attribute (.Name xs p7) kT p8) (.Tuple [.Name xl p9, .Name xf p10] k2 p11) p12)) p13.line X.env = pure false := by rfl)
    (hs2 : swapsWith (.Subscript (.Attribute (.Name xs p16) kT p17) (.Tuple [.Name xl p18, .Name xf p19] k3 p20) p21) (some (.Name xd p15)) p22.line X.env = pure false := by rfl)
    (hsl : NoSl (.Tuple [.Name xl p18, .Name xf p19] k3 p20) := by exact fun _ _ => rfl)
    (hb1 : attributeBase (.Name xs p4) kT X.env (eval (.Name xs p4) X.env) = eval (.Name xs p4) X.env := by rfl) (hb2 : attributeBase (.Name xs p7) kT X.env (eval (.Name xs p7) X.env) = eval (.Name xs p7) X.env := by rfl) (hb3 : attributeBase (.Name xs p16) kT X.env (eval (.Name xs p16) X.env) = eval (.Name xs p16) X.env := by rfl)
    (st1 : starEach [Expr.Name xl p1, .Name xf p2] X.env = (false, eval (.Name xl p1) X.env) :: starEach [.Name xf p2] X.env := by rfl) (st1' : starEach [Expr.Name xf p2] X.env = (false, eval (.Name xf p2) X.env) :: starEach [] X.env := by rfl)
    (st2 : starEach [Expr.Name xl p9, .Name xf p10] X.env = (false, eval (.Name xl p9) X.env) :: starEach [.Name xf p10] X.env := by rfl) (st2' : starEach [Expr.Name xf p10] X.env = (false, eval (.Name xf p10) X.env) :: starEach [] X.env := by rfl)
    (st3 : starEach [Expr.Name xl p18, .Name xf p19] X.env = (false, eval (.Name xl p18) X.env) :: starEach [.Name xf p19] X.env := by rfl) (st3' : starEach [Expr.Name xf p19] X.env = (false, eval (.Name xf p19) X.env) :: starEach [] X.env := by rfl)
    (hbh : behindInMarks .NotIn (.Attribute (.Name xs p4) kT p5) = false := by rfl) :
    PSs X (.If (.Compare (.Tuple [.Name xl p1, .Name xf p2] k1 p3) [.NotIn] [.Attribute (.Name xs p4) kT p5] p6) [.Assign [.Subscript (.Attribute (.Name xs p7) kT p8) (.Tuple [.Name xl p9, .Name xf p10] k2 p11) p12] ev p13] [] p14
      :: .Assign [.Name xd p15] (.Subscript (.Attribute (.Name xs p16) kT p17) (.Tuple [.Name xl p18, .Name xf p19] k3 p20) p21) p22 :: sts)
      (tS X.K (cfB X.K cl nm fn dayF) (sSeq (sCache dayF i l f j fv) R)) := by
  have kE1 := pe_tup (pos := p3) (x1 := k1) (pa_cons (pe_var (X := X) (pos := p1) nl vl dl cdl) (pa_cons (pe_var (pos := p2) nf vf df cdf) pa_nil st1') st1)
  have kE2 := pe_tup (pos := p11) (x1 := k2) (pa_cons (pe_var (X := X) (pos := p9) nl vl dl cdl) (pa_cons (pe_var (pos := p10) nf vf df cdf) pa_nil st2') st2)
  have kE3 := pe_tup (pos := p20) (x1 := k3) (pa_cons (pe_var (X := X) (pos := p18) nl vl dl cdl) (pa_cons (pe_var (pos := p19) nf vf df cdf) pa_nil st3') st3)
  have fE1 := pe_fld (f := kT) (pos := p5) (pe_var (X := X) (pos := p4) ni vi di ci) hb1
  have fE2 := pe_fld (f := kT) (pos := p8) (pe_var (X := X) (pos := p7) ni vi di ci) hb2
  have fE3 := pe_fld (f := kT) (pos := p17) (pe_var (X := X) (pos := p16) ni vi di ci) hb3
  refine (pss_cons (ps_if (pt_cmp (pc_dnotin (by have := hr.units; omega) kE1 fE1) hbh) (pss_one (ps_dput (by have := hr.units; omega) fE2 kE2 hval hs1)) pss_nil) (pss_cons (ps_set hN nj hx (pe_dget (by have := hr.units; omega) fE3 kE3 hsl) hs2 hf) h2)).imp fun E σ H ⟨G0, H0, ρ, o, ⟨G, h⟩, e, kk⟩ => ?_
  unfold sSeq at e
  split at e
  case h_2 r =>
    obtain ⟨ρ', rfl⟩ := sCache_nx e
    exact (r _ e).elim
  rename_i ρ' q
  unfold sCache at q
  split at q
  case h_2 => cases q
  rename_i row t z x y n q1 q2 q3 q4
  split at q
  case isFalse => cases q
  rename_i hh
  obtain ⟨rg, hU, hd⟩ := hh
  have hU := mem_kU hU
  cases q
  -- the instance
  obtain ⟨w, hw, rw'⟩ := h.sl.val i _ q1
  obtain ⟨p, dx, vs, rfl, hp, hlen, rr⟩ := rw'
  obtain ⟨v0, _, rfl, r0, v1, _, rfl, r1, v2, _, rfl, r2, rfl⟩ := rr
  have hp : G p = some (.ins (cl 9) dx [(kR, v0), ("told_times", v1), (kT, v2)]) := by
    rw [hp]
    show some (HO.ins (cl 9) dx ((nm 9).zip [v0, v1, v2])) = _
    rw [hnm]
    rfl
  have lk : ([(kR, v0), ("told_times", v1), (kT, v2)] : List (Str × V)).lookup kT = some v2 := by
    simp [List.lookup_cons, show (kT == kR) = false by decide +kernel, show (kT == ("told_times" : Str)) = false by decide +kernel]
  obtain ⟨wl, hwl, el⟩ := h.sl.val l _ q2
  obtain ⟨wf, hwf, ef⟩ := h.sl.val f _ q3
  have el : wl = .int x := el
  have ef : wf = .int y := ef
  subst el
  subst ef
  have two : 2 ≤ sizeLine := by decide
  -- behind it: the days are there
  have last : ∀ G1 H1 kvs a, StG X.K (cfB X.K cl nm fn dayF) G0 H0 G1 H1 ρ σ → G1 p = some (.ins (cl 9) dx [(kR, v0), ("told_times", v1), (kT, v2)]) → v2 = .ref a → H1 a = some (.dT kvs) → valV kvs [.inl x, .inl y] = some (.int n) →
      tSeq (tAsg (tDGet (tFld X.K (tVar i) kT) (tTup (tCons (tVar l) (tCons (tVar f) tNil)))) (gName j)) (tS X.K (cfB X.K cl nm fn dayF) R) E σ H1 := by
    intro G1 H1 kvs a h1 hp1 e2 ha hv
    subst e2
    refine ⟨.ref p, hw, p, cl 9, dx, _, .ref a, rfl, h1.gr.s _ _ hp1, hC, hA, lk, .int x, hwl, .int y, hwf, two, fun b hb => ⟨a, .int n, rfl, ?_, ?_⟩⟩
    · have nab : a ≠ b := fun z => by subst z; rw [ha] at hb; cases hb
      rw [← hv]
      exact DGet.t (k := [.inl x, .inl y]) (by rw [upd_ne nab]; exact ha) upd_same
    · have h2 := h1.step (.add (o := .tup [.int x, .int y]) h1.gr.s hb True.intro)
      exact ⟨G0, H0, _, o, ⟨G1, h2.gr, h2.sl.set (i := j) (d := .int n) (v := .int n) rfl, fun i' ds p' e1 e2 => by
        rcases set_eq e1 with ⟨rfl, _, z⟩ | ⟨hj, e1⟩
        · cases z
        · rw [List.getElem?_set_ne hj] at e2
          exact h2.nw i' ds p' e1 e2⟩, e, kk⟩
  -- the question
  refine ⟨.int x, hwl, .int y, hwf, two, fun b hb => ⟨.ref p, hw, p, cl 9, dx, _, v2, rfl, ?_, hC, hA, lk, ?_⟩⟩
  · have npb : p ≠ b := fun z => by subst z; rw [h.gr.s _ _ hp] at hb; cases hb
    rw [upd_ne npb]
    exact h.gr.s _ _ hp
  have h1 := h.step (.add (o := .tup [.int x, .int y]) h.gr.s hb True.intro)
  obtain ⟨a, kvs, e2, qa⟩ := cache_at inj h1.gr.s hp rg r0
  refine ⟨a, valV kvs [.inl x, .inl y], e2, DGet.t (k := [.inl x, .inl y]) qa.ha upd_same, _, rfl, ?_⟩
  cases hv : valV kvs [.inl x, .inl y] with
  | some w =>
    refine iteF ?_
    obtain ⟨l', f', n', e3, e4, e5⟩ := qa.gd.en _ _ hv
    cases e3
    rw [hd] at e5
    cases e5
    subst e4
    exact last G _ kvs a h1 hp e2 qa.ha hv
  | none =>
    refine iteT ?_
    refine ⟨G, ρ, .int n, h1.gr.s, h1.sl, q4, fun v G2 H2 g2 rv => ?_⟩
    have rv : v = .int n := rv
    subst rv
    have h2 := h1.step g2
    have hp2 := g2.g _ _ hp
    refine ⟨.ref p, hw, p, cl 9, dx, _, v2, rfl, h2.gr.s _ _ hp2, hC, hA, lk, .int x, hwl, .int y, hwf, two, fun b2 hb2 => ?_⟩
    have h3 := h2.step (.add (o := .tup [.int x, .int y]) h2.gr.s hb2 True.intro)
    obtain ⟨a3, kvs3, e3, qa3⟩ := cache_at inj h3.gr.s hp2 rg (r0.mono (c := cfB X.K cl nm fn dayF) g2.g)
    subst e3
    have lenk : kvs3.length < sizeLine := Nat.lt_of_le_of_lt (Nat.le_trans (Nat.le_add_right _ _) qa3.gd.ct) (by decide)
    refine ⟨a3, _, rfl, DPut.t (k := [.inl x, .inl y]) qa3.ha upd_same lenk, ?_⟩
    have g4 := gr_put h3.gr (h3.gr.s _ _ hp2) qa3 lk hU hd
    refine last G2 _ _ a3 ⟨g4, ⟨h3.sl.len, h3.sl.val, fun i' ds' e' => ?_, h3.sl.dis⟩, h3.nw⟩ hp2 rfl upd_same (by rw [valV_put, if_pos rfl])
    obtain ⟨p', us, b1, b2', b3, b4⟩ := h3.sl.own i' ds' e'
    have npa : p' ≠ a3 := fun z => by subst z; rw [qa3.ha] at b3; cases b3
    exact ⟨p', us, b1, b2', by rw [upd_ne npa]; exact b3, b4⟩
end
section
variable {y : Addr} {sn : Bool} {f : Str} {g : DE} {F : DS} {r : List IStep} {ρ ρ' : Sl} {d : D} {ds : List D}
theorem ev_nil : evalI y sn [] ρ = some [] := rfl
theorem ev_sto (h0 : ρ[(0 : Nat)]? = some (.val (.raw (.ref y)))) (hf : f ≠ kR) (hg : g ρ = some d) (hr : evalI y sn r ρ = some ds) : evalI y sn (.sto f g :: r) ρ = some (d :: ds) := by
  unfold evalI
  rw [h0]
  simp [hf, hg, hr]
theorem ev_row (h0 : ρ[(0 : Nat)]? = some (.val (.raw (.ref y)))) (hg : g ρ = some d) (rg : rig d = true) (hr : evalI y true r ρ = some ds) : evalI y sn (.sto kR g :: r) ρ = some (d :: ds) := by
  unfold evalI
  rw [h0]
  simp [hg, hr, rg]
theorem ev_chk (hF : F ρ = some (.nx ρ')) (hn : noOwn ρ' = true) (hr : evalI y sn r ρ' = some ds) : evalI y sn (.chk F :: r) ρ = some ds := by
  unfold evalI
  rw [hF]
  simp [hn, hr]
theorem ev_hid (h0 : ρ[(0 : Nat)]? = some (.val (.raw (.ref y)))) : evalI y true [.hid] ρ = some [.any] := by
  unfold evalI
  rw [h0]
  simp
theorem drop_ok {h : DE} (e : h ρ = some d) : sDrop h ρ = some (.nx ρ) := by
  unfold sDrop
  rw [e]
  rfl
end
end DL
set_option maxRecDepth 100000
namespace DL
open PySem L2
/-! ### the head's facts -/
def obK (fa : List He.Fa) (xs : List (PySem.W.Frag → Bool)) (fn : List He.DefD) (K : PySem.W.Frag) : Bool × List He.FnW :=
  ((fa.all (He.Fa.ok K)) && ((xs.all fun e => e K) && fn.all (He.DefD.ok K)), fn.map fun d => He.fnW K d.at_)
def hkK (n : Nat) (fa : List He.Fa) (xs : List (PySem.W.Frag → Bool)) (fn : List He.DefD) : PySem.W.Hook where
  α := Bool × List He.FnW
  obs s := obK fa xs fn (He.frG s.heap.get? (He.asD s.heap.get? n))
  val _ := (true, fn.map He.DefD.val)
  says _ h := ∃ K : PySem.W.Frag, K.In h ∧ obK fa xs fn K = (true, fn.map He.DefD.val)
  of _ _ e := ⟨_, He.frG_in, e⟩
  keeps _ _ _ z k := let ⟨K, a, b⟩ := z; ⟨K, PySem.W.Frag.In.keeps a k, b⟩
def obG (n : Nat) (fa : List He.Fa) (xs : List (PySem.W.Frag → Bool)) (fn : List He.DefD) (s : PySem.W.SharedT) : Bool × List He.FnW :=
  obK fa xs fn (He.frG (HandSHeadRun.getT s) (He.asD (HandSHeadRun.getT s) n))
theorem obG_ok {n : Nat} {fa : List He.Fa} {xs : List (PySem.W.Frag → Bool)} {fn : List He.DefD} (s : PySem.W.SharedT) : obG n fa xs fn s = (hkK n fa xs fn).obs s.abs := by
  have e : HandSHeadRun.getT s = s.abs.heap.get? := funext (HandSHeadRun.getT_eq s)
  show obK fa xs fn (He.frG (HandSHeadRun.getT s) (He.asD (HandSHeadRun.getT s) n)) = obK fa xs fn _
  rw [e]
structure Ev (fa : List He.Fa) (xs : List (PySem.W.Frag → Bool)) (fn : List He.DefD) (K : PySem.W.Frag) (mg : Str → Option Value) : Prop where
  fact : ∀ f ∈ fa, f.ok K = true
  ext : ∀ e ∈ xs, e K = true
  df : ∀ d ∈ fn, ∃ fd, FunD K d.name d.qual d.params d.body d.scope (d.dvs K) (d.kws K) (He.fAd K d.at_) fd
  hg : ∃ h : Heap, K.In h ∧ h.Ns mainGlobals mg
section
variable {fa : List He.Fa} {xs : List (PySem.W.Frag → Bool)} {fn : List He.DefD} {K : PySem.W.Frag} {mg : Str → Option Value}
theorem ev_of {h : Heap} (X : K.In h) (G : h.Ns mainGlobals mg) (e : obK fa xs fn K = (true, fn.map He.DefD.val)) : Ev fa xs fn K mg := by
  obtain ⟨e1, e2⟩ := Prod.mk.inj e
  obtain ⟨a1, a2⟩ := Bool.and_eq_true_iff.mp e1
  obtain ⟨a3, a4⟩ := Bool.and_eq_true_iff.mp a2
  refine ⟨fun f hf => List.all_eq_true.mp a1 f hf, fun x hx => List.all_eq_true.mp a3 x hx, fun d hd => ?_, h, X, G⟩
  obtain ⟨i, hi⟩ := List.getElem?_of_mem hd
  have e3 : (fn.map fun d => He.fnW K d.at_)[i]? = (fn.map He.DefD.val)[i]? := by rw [e2]
  rw [List.getElem?_map, List.getElem?_map, hi] at e3
  exact He.DefD.funD (Option.some.inj e3) (List.all_eq_true.mp a4 d hd)
theorem Ev.f (E : Ev fa xs fn K mg) (i : Nat) {f : He.Fa} (h : fa[i]? = some f := by rfl) : f.ok K = true := E.fact f (List.mem_of_getElem? h)
theorem Ev.x (E : Ev fa xs fn K mg) (i : Nat) {f : PySem.W.Frag → Bool} (h : xs[i]? = some f := by rfl) : f K = true := E.ext f (List.mem_of_getElem? h)
theorem Ev.d (E : Ev fa xs fn K mg) (i : Nat) {d : He.DefD} (h : fn[i]? = some d := by rfl) : ∃ fd, FunD K d.name d.qual d.params d.body d.scope (d.dvs K) (d.kws K) (He.fAd K d.at_) fd := E.df d (List.mem_of_getElem? h)
theorem Ev.glo (E : Ev fa xs fn K mg) {x : Str} (h : (He.Fa.glo x).ok K = true) : mg x = some (.ref (He.ga K x)) := let ⟨_, X, G⟩ := E.hg; He.glo_ok X G h
theorem Ev.free (E : Ev fa xs fn K mg) {x : Str} (h : (He.Fa.free x).ok K = true) : mg x = none := let ⟨_, X, G⟩ := E.hg; He.free_ok X G h
theorem Ev.gInt (E : Ev fa xs fn K mg) {c : Cf} {x : Str} {i : Int} (h : (He.Fa.int x i).ok K = true) : GlobD K c mg x (.int i) := by
  obtain ⟨_, X, G⟩ := E.hg
  obtain ⟨t, e⟩ := He.int_ok X G h
  exact ⟨_, .int i, e, ⟨t, rfl⟩, fun _ => rfl⟩
theorem Ev.gStr (E : Ev fa xs fn K mg) {c : Cf} {x z : Str} (h : (He.Fa.str x z).ok K = true) : GlobD K c mg x (.str z) := by
  obtain ⟨_, X, G⟩ := E.hg
  obtain ⟨t, e⟩ := He.str_ok X G h
  exact ⟨_, .str z, e, ⟨t, rfl⟩, fun _ => rfl⟩
theorem repL_ints {c : Cf} {G : Hp} : ∀ ns : List Int, RepL K c G (ns.map .int) (ns.map V.int)
  | [] => rfl
  | n :: ns => ⟨.int n, _, rfl, rfl, repL_ints ns⟩
theorem Ev.gTup (E : Ev fa xs fn K mg) {c : Cf} {x : Str} {ns : List Int} (h : (He.Fa.glo x).ok K = true) (h2 : He.tupB K x (ns.map .int) = true) : GlobD K c mg x (.tup (ns.map .int)) := by
  refine ⟨_, .ref (He.ga K x), E.glo h, rfl, fun G => ⟨_, ns.map V.int, rfl, ?_, repL_ints ns⟩⟩
  have := He.tupB_ok h2 G
  have e : (ns.map He.Dv.int).map (He.Dv.v K) = ns.map V.int := by rw [List.map_map]; rfl
  rwa [e] at this
end
theorem dfun {K : PySem.W.Frag} {x qual : Str} {st : Stmt} {dvs : List V} {f : Addr} {fd : FuncData} (F : FunD K x qual (defArgs st) (defBody st) (defScope st) dvs [] f fd) : DFun K x qual st f fd := ⟨dvs, F⟩
/-- where classes stand -/
def clOf (cs : List Str) (K : PySem.W.Frag) (i : Nat) : Addr := match cs[i]? with
  | some x => He.ga K x
  | none => 1000000000 + i
def clT (cs : List Str) (K : PySem.W.Frag) : Bool := decide ((cs.map (He.ga K)).Nodup) && (cs.map (He.ga K)).all fun a => decide (a < 1000000000)
theorem clOf_inj {cs : List Str} {K : PySem.W.Frag} (h : clT cs K = true) : ∀ i j, clOf cs K i = clOf cs K j → i = j := by
  obtain ⟨h1, h2⟩ := Bool.and_eq_true_iff.mp h
  have nd := of_decide_eq_true h1
  have lt : ∀ i x, cs[i]? = some x → He.ga K x < 1000000000 := fun i x e => of_decide_eq_true (List.all_eq_true.mp h2 _ (List.mem_map_of_mem (List.mem_of_getElem? e)))
  intro i j e
  unfold clOf at e
  split at e
  · rename_i x ex
    split at e
    · rename_i y ey
      have ix : (cs.map (He.ga K))[i]? = some (He.ga K x) := by rw [List.getElem?_map, ex]; rfl
      have iy : (cs.map (He.ga K))[j]? = some (He.ga K x) := by rw [List.getElem?_map, ey, e]; rfl
      obtain ⟨li, ei⟩ := List.getElem?_eq_some_iff.mp ix
      obtain ⟨lj, ej⟩ := List.getElem?_eq_some_iff.mp iy
      rcases Nat.lt_trichotomy i j with z | z | z
      · exact (List.pairwise_iff_getElem.mp nd i j li lj z (ei.trans ej.symm)).elim
      · exact z
      · exact (List.pairwise_iff_getElem.mp nd j i lj li z (ej.trans ei.symm)).elim
    · exact absurd e (Nat.ne_of_lt (Nat.lt_of_lt_of_le (lt i x ex) (Nat.le_add_right _ _)))
  · split at e
    · rename_i y ey
      exact absurd e.symm (Nat.ne_of_lt (Nat.lt_of_lt_of_le (lt j y ey) (Nat.le_add_right _ _)))
    · exact Nat.add_left_cancel e
theorem plB {K : PySem.W.Frag} {cl : Nat → Addr} {nm : Nat → List Str} {fn : Nat → Addr} {dayF : D → Int → Int → Option Int} : ∀ f : Str, f ≠ kT → ∀ fs v, (cfB K cl nm fn dayF).pl fs → (cfB K cl nm fn dayF).pl (putF f v fs) := fun f hf fs v h => by
  show (putF f v fs).lookup kT = none
  rw [lookup_putF, if_neg (fun z => hf z.symm)]
  exact h
end DL
set_option maxRecDepth 100000
namespace DL
open PySem L2
/-! ### the hook, over the objects at given places -/
def hkL (as : List Addr) (fa : List He.Fa) (xs : List (PySem.W.Frag → Bool)) (fn : List He.DefD) : PySem.W.Hook where
  α := Bool × List He.FnW
  obs s := obK fa xs fn (He.frG s.heap.get? as)
  val _ := (true, fn.map He.DefD.val)
  says _ h := ∃ K : PySem.W.Frag, K.In h ∧ obK fa xs fn K = (true, fn.map He.DefD.val)
  of _ _ e := ⟨_, He.frG_in, e⟩
  keeps _ _ _ z k := let ⟨K, a, b⟩ := z; ⟨K, PySem.W.Frag.In.keeps a k, b⟩
def obL (as : List Addr) (fa : List He.Fa) (xs : List (PySem.W.Frag → Bool)) (fn : List He.DefD) (s : PySem.W.SharedT) : Bool × List He.FnW := obK fa xs fn (He.frG (HandSHeadRun.getT s) as)
theorem obL_ok {as : List Addr} {fa : List He.Fa} {xs : List (PySem.W.Frag → Bool)} {fn : List He.DefD} (s : PySem.W.SharedT) : obL as fa xs fn s = (hkL as fa xs fn).obs s.abs := by
  have e : HandSHeadRun.getT s = s.abs.heap.get? := funext (HandSHeadRun.getT_eq s)
  show obK fa xs fn (He.frG (HandSHeadRun.getT s) as) = obK fa xs fn _
  rw [e]
theorem obK_join {K : PySem.W.Frag} {fa fa' : List He.Fa} {xs xs' : List (PySem.W.Frag → Bool)} {fn fn' : List He.DefD} (h : obK fa xs fn K = (true, fn.map He.DefD.val)) (h' : obK fa' xs' fn' K = (true, fn'.map He.DefD.val)) :
    obK (fa ++ fa') (xs ++ xs') (fn ++ fn') K = (true, (fn ++ fn').map He.DefD.val) := by
  obtain ⟨e1, e2⟩ := Prod.mk.inj h
  obtain ⟨e1', e2'⟩ := Prod.mk.inj h'
  obtain ⟨a1, a2⟩ := Bool.and_eq_true_iff.mp e1
  obtain ⟨a3, a4⟩ := Bool.and_eq_true_iff.mp a2
  obtain ⟨b1, b2⟩ := Bool.and_eq_true_iff.mp e1'
  obtain ⟨b3, b4⟩ := Bool.and_eq_true_iff.mp b2
  unfold obK
  rw [List.all_append, List.all_append, List.all_append, a1, b1, a3, b3, a4, b4, List.map_append, List.map_append, e2, e2']
  rfl
/-- two runs in one -/
theorem run_join {R : PySem.W.OpenRow} {q : Program} {as : List Addr} {M : Nat} {loose : List Str} {w : World} {fa fa' : List He.Fa} {xs xs' : List (PySem.W.Frag → Bool)} {fn fn' : List He.DefD}
    (h : HandSHeadRun.RunEq R q (hkL as fa xs fn) (obL as fa xs fn) M loose w) (h' : HandSHeadRun.RunEq R q (hkL as fa' xs' fn') (obL as fa' xs' fn') M loose w) :
    HandSHeadRun.RunEq R q (hkL as (fa ++ fa') (xs ++ xs') (fn ++ fn')) (obL as (fa ++ fa') (xs ++ xs') (fn ++ fn')) M loose w := by
  intro os
  obtain ⟨s, e1, e2⟩ := Option.map_eq_some_iff.mp (h os)
  obtain ⟨s', e1', e2'⟩ := Option.map_eq_some_iff.mp (h' os)
  rw [e1] at e1'
  cases e1'
  obtain ⟨a1, a2⟩ := Prod.mk.inj e2
  obtain ⟨a3, a4⟩ := Prod.mk.inj a2
  obtain ⟨b1, b2⟩ := Prod.mk.inj e2'
  obtain ⟨b3, b4⟩ := Prod.mk.inj b2
  rw [e1]
  show some _ = some _
  refine congrArg some (Prod.ext a1 (Prod.ext a3 ?_))
  exact obK_join a4 b4
end DL
set_option maxRecDepth 100000
set_option maxHeartbeats 4000000
namespace DL
open PySem L2
def topS (i : Nat) : Stmt := PySem.Challenge.pw_fivefields_k71_against.main.body.getD i (.Pass ⟨0, 0, 0, 0⟩)
def at_mask : Nat → Option Nat
  | 1 => some 0
  | 5 => some 0
  | _ => none
def at_back : Nat → Option Nat
  | 2 => some 0
  | _ => none
def at_day : Nat → Option Nat
  | 3 => some 0
  | _ => none
def at_weekday : Nat → Option Nat
  | 6 => some 0
  | 7 => some 0
  | _ => none
def at_many : Nat → Option Nat
  | 6 => some 1
  | _ => none
def at_minute_mask : Nat → Option Nat
  | 0 => some 0
  | _ => none
def at_hour_mask : Nat → Option Nat
  | 0 => some 1
  | _ => none
def at_day_marks : Nat → Option Nat
  | 0 => some 2
  | _ => none
def at_month_mask : Nat → Option Nat
  | 0 => some 3
  | _ => none
def at_weekday_marks : Nat → Option Nat
  | 0 => some 4
  | _ => none
def at_books : Nat → Option Nat
  | 10 => some 0
  | 11 => some 0
  | _ => none
def at_one : Nat → Option Nat
  | 12 => some 0
  | 13 => some 0
  | _ => none
def at_other : Nat → Option Nat
  | 12 => some 1
  | _ => none
def at_row : Nat → Option Nat
  | 9 => some 0
  | _ => none
def at_told_times : Nat → Option Nat
  | 9 => some 1
  | _ => none
def nmF : Nat → List Str
  | 0 => ["minute_mask", "hour_mask", "day_marks", "month_mask", "weekday_marks"]
  | 1 => ["mask"]
  | 2 => ["back"]
  | 3 => ["day"]
  | 5 => ["mask"]
  | 6 => ["weekday", "many"]
  | 7 => ["weekday"]
  | 9 => ["row", "told_times", "told_days"]
  | 10 => ["books"]
  | 11 => ["books"]
  | 12 => ["one", "other"]
  | 13 => ["one"]
  | _ => []
def isiBook : Tag → Option Bool
  | .c 8 => some true
  | .c 9 => some true
  | .c 10 => some true
  | .c 11 => some true
  | .c 12 => some true
  | .c 13 => some true
  | _ => none
def isiRow : Tag → Option Bool
  | .c 0 => some true
  | _ => none
def isiOf : Tag → Option Bool
  | .c 9 => some true
  | .c 8 => some false
  | .c 10 => some false
  | .c 11 => some false
  | .c 12 => some false
  | .c 13 => some false
  | _ => none
def isiJoined : Tag → Option Bool
  | .c 10 => some true
  | .c 8 => some false
  | .c 9 => some false
  | .c 11 => some false
  | .c 12 => some false
  | .c 13 => some false
  | _ => none
def isiMet : Tag → Option Bool
  | .c 11 => some true
  | .c 8 => some false
  | .c 9 => some false
  | .c 10 => some false
  | .c 12 => some false
  | .c 13 => some false
  | _ => none
def isiLess : Tag → Option Bool
  | .c 12 => some true
  | .c 8 => some false
  | .c 9 => some false
  | .c 10 => some false
  | .c 11 => some false
  | .c 13 => some false
  | _ => none
def isiTurned : Tag → Option Bool
  | .c 13 => some true
  | .c 8 => some false
  | .c 9 => some false
  | .c 10 => some false
  | .c 11 => some false
  | .c 12 => some false
  | _ => none
def dd_Last : List D := [.int 0]
abbrev k_FIGURES_wholes : D := (.str "0123456789")
abbrev k_LASTS : D := (.tup [(.int 31), (.int 28), (.int 31), (.int 30), (.int 31), (.int 30), (.int 31), (.int 31), (.int 30), (.int 31), (.int 30), (.int 31)])
abbrev k_ROUND_YEARS : D := (.int 400)
abbrev k_ROUND_DAYS : D := (.int 146097)
abbrev k_LONG : D := (.int 12)
abbrev k_SHORT_YEAR : D := (.int 1)
abbrev k_MOST_SIGNS_fields : D := (.int 300)
abbrev k_MOST_ITEMS_fields : D := (.int 40)
abbrev k_MOST_STRIDE : D := (.int 99)
abbrev k_FIGURES_marks : D := (.str "0123456789")
abbrev k_MOST_SIGNS_marks : D := (.int 300)
abbrev k_MOST_ITEMS_marks : D := (.int 40)
abbrev k_MOST_MARKS : D := (.int 20)
abbrev k_SUNDAY : D := (.int 0)
abbrev k_SATURDAY : D := (.int 6)
abbrev k_DAY : D := (.int 1440)
abbrev k_HOUR : D := (.int 60)
abbrev k_MOST_SIGNS_rows : D := (.int 1600)
abbrev k_HOURS : D := (.int 24)
abbrev k_MINUTES_rows : D := (.int 60)
abbrev k_MOST_PARTS : D := (.int 8)
abbrev k_MOST_COUNTED : D := (.int 24)
abbrev k_DEEPEST : D := (.int 5)
abbrev k_MINUTES_books : D := (.int 1440)
abbrev k_KINDS : D := (.int 91)
section
variable {P : Program} {w : World} {K : PySem.W.Frag} {mg : Str → Option Value} {base : Heap} {c : Cf}
abbrev sm_only_figures_N : List Str := ["signs", "sign"]
def m_only_figures_b : DS := (sSeq (sFor (itE (dVar 0)) (tgN 1) (sIf (asB (dOp opNotIn (dVar 1) (dC k_FIGURES_wholes))) (sRet (dC (.bl false))) sNil)) (sRet (dOp opNe (dVar 0) (dC (.str "")))))
def m_only_figures : List D → Option D := runD 2 (m_only_figures_b)
theorem sc_m_only_figures : FnScope sm_only_figures_N ["signs"] (defScope (topS 10)) := ⟨rfl, rfl, rfl, by decide +kernel, rfl, by decide +kernel, by decide +kernel⟩
theorem ok_m_only_figures {f : Addr} {fd : FuncData} (F : DFun K "only_figures" "only_figures" (topS 10) f fd) (g_FIGURES_wholes : GlobD K c mg "FIGURES_wholes" k_FIGURES_wholes) :
    FnOk P w K mg base CX0 1 f fd ["signs"] (spD K c 1 (m_only_figures)) := by
  have S := sc_m_only_figures
  refine okD' (n := 2) (m := 1) (B := m_only_figures_b) F S rfl rfl rfl fun cdv A outer s H E hr => ?_
  exact (ss_cons (s_for PassesOwn.never rfl (it_e (d_var 0)) (g_name (i := 1) S.nd) (ss_one (s_if (d_tcmp opD_notIn (d_var 1) (d_glob g_FIGURES_wholes)) (ss_one (s_ret d_bl)) ss_nil))) (ss_one (s_ret (d_cmp (opD_ne hr) (d_var 0) d_str))))
abbrev sm_is_long_N : List Str := ["year"]
def m_is_long_b : DS := (sRet (dAnd (dOp opEq (dOp opMod (dVar 0) (dC (.int 4))) (dC (.int 0))) (dOr (dOp opNe (dOp opMod (dVar 0) (dC (.int 100))) (dC (.int 0))) (dOp opEq (dOp opMod (dVar 0) (dC (.int 400))) (dC (.int 0))))))
def m_is_long : List D → Option D := runD 1 (m_is_long_b)
theorem sc_m_is_long : FnScope sm_is_long_N ["year"] (defScope (topS 15)) := ⟨rfl, rfl, rfl, by decide +kernel, rfl, by decide +kernel, by decide +kernel⟩
theorem ok_m_is_long {f : Addr} {fd : FuncData} (F : DFun K "is_long" "is_long" (topS 15) f fd)  :
    FnOk P w K mg base CX0 1 f fd ["year"] (spD K c 1 (m_is_long)) := by
  have S := sc_m_is_long
  refine okD' (n := 1) (m := 1) (B := m_is_long_b) F S rfl rfl rfl fun cdv A outer s H E hr => ?_
  exact (ss_one (s_ret (d_and (d_cmp (opD_eq hr) (d_op opD_mod (d_var 0) d_int) d_int) (d_one (d_or (d_cmp (opD_ne hr) (d_op opD_mod (d_var 0) d_int) d_int) (d_one (d_cmp (opD_eq hr) (d_op opD_mod (d_var 0) d_int) d_int)))))))
abbrev sm_last_of_N : List Str := ["year", "month"]
def m_last_of_b : DS := (sSeq (sIf (dAndT (asB (dOp opEq (dVar 1) (dC (.int 2)))) (asB (dCall 1 m_is_long (aCons (dVar 0) aNil)))) (sRet (dC (.int 29))) sNil) (sRet (dOp opIx (dC k_LASTS) (dOp opSub (dVar 1) (dC (.int 1))))))
def m_last_of : List D → Option D := runD 2 (m_last_of_b)
theorem sc_m_last_of : FnScope sm_last_of_N ["year", "month"] (defScope (topS 17)) := ⟨rfl, rfl, rfl, by decide +kernel, rfl, by decide +kernel, by decide +kernel⟩
theorem ok_m_last_of {f : Addr} {fd : FuncData} (F : DFun K "last_of" "last_of" (topS 17) f fd) (C_is_long : Cal P w K mg base "is_long" 1 ["year"] (spD K c 1 m_is_long)) (g_LASTS : GlobD K c mg "LASTS" k_LASTS) :
    FnOk P w K mg base CX0 2 f fd ["year", "month"] (spD K c 2 (m_last_of)) := by
  have S := sc_m_last_of
  refine okD' (n := 2) (m := 2) (B := m_last_of_b) F S rfl rfl rfl fun cdv A outer s H E hr => ?_
  exact (ss_cons (s_if (PW.pt (d_wand (d_tcmp (opD_eq hr) (d_var 1) d_int) (d_wand1 (d_test (d_call C_is_long hr (by decide) (a_cons (d_var 0) a_nil)))))) (ss_one (s_ret d_int)) ss_nil) (ss_one (s_ret (d_ix (d_glob g_LASTS) (d_op opD_sub (d_var 1) d_int)))))
abbrev sm_weekday_N : List Str := ["day"]
def m_weekday_b : DS := (sRet (dOp opMod (dOp opAdd (dVar 0) (dC (.int 6))) (dC (.int 7))))
def m_weekday : List D → Option D := runD 1 (m_weekday_b)
theorem sc_m_weekday : FnScope sm_weekday_N ["day"] (defScope (topS 20)) := ⟨rfl, rfl, rfl, by decide +kernel, rfl, by decide +kernel, by decide +kernel⟩
theorem ok_m_weekday {f : Addr} {fd : FuncData} (F : DFun K "weekday" "weekday" (topS 20) f fd)  :
    FnOk P w K mg base CX0 1 f fd ["day"] (spD K c 1 (m_weekday)) := by
  have S := sc_m_weekday
  refine okD' (n := 1) (m := 1) (B := m_weekday_b) F S rfl rfl rfl fun cdv A outer s H E hr => ?_
  exact (ss_one (s_ret (d_op opD_mod (d_op opD_add (d_var 0) d_int) d_int)))
abbrev sm_month_at_N : List Str := ["kind", "place", "first"]
def m_month_at_b : DS := (sSeq (sAsg (dBu bDivmod (aCons (dVar 0) (aCons (dC (.int 7)) aNil))) (tgT [1, 2])) (sSeq (sIf (asB (dOp opEq (dVar 1) (dC k_LONG))) (sRet (dTup (aCons (dC (.int 2)) (aCons (dC (.int 29)) (aCons (dVar 2) aNil))))) sNil) (sRet (dTup (aCons (dOp opAdd (dVar 1) (dC (.int 1))) (aCons (dCall 2 m_last_of (aCons (dC k_SHORT_YEAR) (aCons (dOp opAdd (dVar 1) (dC (.int 1))) aNil))) (aCons (dVar 2) aNil)))))))
def m_month_at : List D → Option D := runD 3 (m_month_at_b)
theorem sc_m_month_at : FnScope sm_month_at_N ["kind"] (defScope (topS 25)) := ⟨rfl, rfl, rfl, by decide +kernel, rfl, by decide +kernel, by decide +kernel⟩
theorem ok_m_month_at {f : Addr} {fd : FuncData} (F : DFun K "month_at" "month_at" (topS 25) f fd) (C_last_of : Cal P w K mg base "last_of" 2 ["year", "month"] (spD K c 2 m_last_of)) (g_LONG : GlobD K c mg "LONG" k_LONG) (g_SHORT_YEAR : GlobD K c mg "SHORT_YEAR" k_SHORT_YEAR) (n_divmod : mg "divmod" = none) :
    FnOk P w K mg base CX0 3 f fd ["kind"] (spD K c 1 (m_month_at)) := by
  have S := sc_m_month_at
  refine okD' (n := 3) (m := 1) (B := m_month_at_b) F S rfl rfl rfl fun cdv A outer s H E hr => ?_
  exact (ss_cons (s_asg (d_callB bu_divmod n_divmod (a_cons (d_var 0) (a_cons d_int a_nil))) (g_tup (is := [1, 2]) rfl (gs_cons (i := 1) S.nd (gs_cons (i := 2) S.nd gs_nil)))) (ss_cons (s_if (d_tcmp (opD_eq hr) (d_var 1) (d_glob g_LONG)) (ss_one (s_ret (d_tup (a_cons d_int (a_cons d_int (a_cons (d_var 2) a_nil)))))) ss_nil) (ss_one (s_ret (d_tup (a_cons (d_op opD_add (d_var 1) d_int) (a_cons (d_call C_last_of hr (by decide) (a_cons (d_glob g_SHORT_YEAR) (a_cons (d_op opD_add (d_var 1) d_int) a_nil))) (a_cons (d_var 2) a_nil))))))))
abbrev sm_mask_of_N : List Str := ["numbers", "mask", "number"]
def m_mask_of_b : DS := (sSeq (sAsg (dC (.int 0)) (tgN 1)) (sSeq (sFor (itE (dVar 0)) (tgN 2) (sAsg (dOp opOr (dVar 1) (dOp opShl (dC (.int 1)) (dVar 2))) (tgN 1))) (sRet (dVar 1))))
def m_mask_of : List D → Option D := runD 3 (m_mask_of_b)
theorem sc_m_mask_of : FnScope sm_mask_of_N ["numbers"] (defScope (topS 30)) := ⟨rfl, rfl, rfl, by decide +kernel, rfl, by decide +kernel, by decide +kernel⟩
theorem ok_m_mask_of {f : Addr} {fd : FuncData} (F : DFun K "mask_of" "mask_of" (topS 30) f fd)  :
    FnOk P w K mg base CX0 1 f fd ["numbers"] (spD K c 1 (m_mask_of)) := by
  have S := sc_m_mask_of
  refine okD' (n := 3) (m := 1) (B := m_mask_of_b) F S rfl rfl rfl fun cdv A outer s H E hr => ?_
  exact (ss_cons (s_set (i := 1) S.nd d_int) (ss_cons (s_for PassesOwn.never rfl (it_e (d_var 0)) (g_name (i := 2) S.nd) (ss_one (s_set (i := 1) S.nd (d_op opD_or (d_var 1) (d_op opD_shl d_int (d_var 2)))))) (ss_one (s_ret (d_var 1)))))
abbrev sm_numbers_in_N : List Str := ["mask", "found", "number"]
def m_numbers_in_b : DS := (sSeq (sAsgO (oLst aNil) 1) (sSeq (sAsg (dC (.int 0)) (tgN 2)) (sSeq (sWhile 100000 (asB (dOp opGt (dOp opShr (dVar 0) (dVar 2)) (dC (.int 0)))) (sSeq (sIf (asB (dOp opEq (dOp opAnd (dOp opShr (dVar 0) (dVar 2)) (dC (.int 1))) (dC (.int 1)))) (sApp 1 (dVar 2)) sNil) (sAsg (dOp opAdd (dVar 2) (dC (.int 1))) (tgN 2)))) (sRetO 1))))
def m_numbers_in : List D → Option D := runD 3 (m_numbers_in_b)
theorem sc_m_numbers_in : FnScope sm_numbers_in_N ["mask"] (defScope (topS 31)) := ⟨rfl, rfl, rfl, by decide +kernel, rfl, by decide +kernel, by decide +kernel⟩
theorem ok_m_numbers_in {f : Addr} {fd : FuncData} (F : DFun K "numbers_in" "numbers_in" (topS 31) f fd)  :
    FnOk P w K mg base CX0 1 f fd ["mask"] (spD K c 1 (m_numbers_in)) := by
  have S := sc_m_numbers_in
  refine okD' (n := 3) (m := 1) (B := m_numbers_in_b) F S rfl rfl rfl fun cdv A outer s H E hr => ?_
  exact (ss_cons (s_setO (i := 1) S.nd (o_lst a_nil)) (ss_cons (s_set (i := 2) S.nd d_int) (ss_cons (s_while 100000 PassesOwn.never (d_tcmp opD_gt (d_op opD_shr (d_var 0) (d_var 2)) d_int) (ss_cons (s_if (d_tcmp (opD_eq hr) (d_op opD_and (d_op opD_shr (d_var 0) (d_var 2)) d_int) d_int) (ss_one (s_app 1 (d_var 2))) ss_nil) (ss_one (s_set (i := 2) S.nd (d_op opD_add (d_var 2) d_int))))) (ss_one (s_retO 1)))))
abbrev sm_number_in_N : List Str := ["text", "low", "high", "number"]
def m_number_in_b : DS := (sSeq (sIf (dOrT (dNotT (asB (dCall 1 m_only_figures (aCons (dVar 0) aNil)))) (dOrT (asB (dOp opGt (dBu bLen (aCons (dVar 0) aNil)) (dC (.int 2)))) (dAndT (asB (dOp opEq (dOp opIx (dVar 0) (dC (.int 0))) (dC (.str "0")))) (asB (dOp opNe (dVar 0) (dC (.str "0"))))))) (sRet (dO (oLst aNil))) sNil) (sRet (dO (oLc (itE (dO (oLst (aCons (dBu bInt (aCons (dVar 0) aNil)) aNil)))) (tgN 3) (asB (dChain opLe opLe (dVar 1) (dVar 3) (dVar 2))) (dVar 3) [3]))))
def m_number_in : List D → Option D := runD 4 (m_number_in_b)
theorem sc_m_number_in : FnScope sm_number_in_N ["text", "low", "high"] (defScope (topS 32)) := ⟨rfl, rfl, rfl, by decide +kernel, rfl, by decide +kernel, by decide +kernel⟩
theorem ok_m_number_in {f : Addr} {fd : FuncData} (F : DFun K "number_in" "number_in" (topS 32) f fd) (C_only_figures : Cal P w K mg base "only_figures" 1 ["signs"] (spD K c 1 m_only_figures)) (n_len : mg "len" = none) (n_int : mg "int" = none) :
    FnOk P w K mg base CX0 2 f fd ["text", "low", "high"] (spD K c 3 (m_number_in)) := by
  have S := sc_m_number_in
  refine okD' (n := 4) (m := 3) (B := m_number_in_b) F S rfl rfl rfl fun cdv A outer s H E hr => ?_
  exact (ss_cons (s_if (PW.pt (d_wor (d_tnot (d_test (d_call C_only_figures hr (by decide) (a_cons (d_var 0) a_nil)))) (d_wor (d_tcmp opD_gt (d_callB bu_len n_len (a_cons (d_var 0) a_nil)) d_int) (d_wor1 (PW.pt (d_wand (d_tcmp (opD_eq hr) (d_ix (d_var 0) d_int) d_str) (d_wand1 (d_tcmp (opD_ne hr) (d_var 0) d_str)))))))) (ss_one (s_ret (d_ofO (o_lst a_nil)))) ss_nil) (ss_one (s_ret (d_ofO (o_lc (own := [("number", 3)]) rfl S.nd (it_e (d_ofO (o_lst (a_cons (d_callTy bu_int n_int (a_cons (d_var 0) a_nil)) a_nil)))) (blkOk_by (own := [("number", 3)]) (N := sm_number_in_N) (sc := defScope (topS 32)) (by decide +kernel)) (tgN_in (by decide)) (fun _ _ _ _ _ => (g_name (i := 3) S.nd)) (fun _ _ _ _ _ => (ts_one (d_tchain opD_le opD_le (d_var 1) (d_var 3) (d_var 2)))) (fun _ _ _ _ _ => (d_var 3)))))))
abbrev sm_span_in_N : List Str := ["text", "low", "high", "ends", "part"]
def m_span_in_b : DS := (sSeq (sIf (asB (dOp opEq (dVar 0) (dC (.str "*")))) (sRetE (oLst (aCons (dVar 1) (aCons (dVar 2) aNil)))) sNil) (sSeq (sAsg (dO (oLc (itE (dO (oOp bSplit (dVar 0) (dC (.str "-"))))) (tgN 4) tTrue (dCall 3 m_number_in (aCons (dVar 4) (aCons (dVar 1) (aCons (dVar 2) aNil)))) [4])) (tgN 3)) (sSeq (sIf (dOrT (asB (dOp opGt (dBu bLen (aCons (dVar 3) aNil)) (dC (.int 2)))) (dOrT (asB (dOp opInDeep (dO (oLst aNil)) (dVar 3))) (asB (dOp opGt (dOp opIx (dOp opIx (dVar 3) (dC (.int 0))) (dC (.int 0))) (dOp opIx (dOp opIx (dVar 3) (dNeg (dC (.int 1)))) (dC (.int 0))))))) (sRetE (oLst aNil)) sNil) (sRetE (oLst (aCons (dOp opIx (dOp opIx (dVar 3) (dC (.int 0))) (dC (.int 0))) (aCons (dOp opIx (dOp opIx (dVar 3) (dNeg (dC (.int 1)))) (dC (.int 0))) aNil)))))))
def m_span_in : List D → Option (List D) := runO 5 (m_span_in_b)
theorem sc_m_span_in : FnScope sm_span_in_N ["text", "low", "high"] (defScope (topS 34)) := ⟨rfl, rfl, rfl, by decide +kernel, rfl, by decide +kernel, by decide +kernel⟩
theorem ok_m_span_in {f : Addr} {fd : FuncData} (F : DFun K "span_in" "span_in" (topS 34) f fd) (C_number_in_fields : Cal P w K mg base "number_in_fields" 2 ["text", "low", "high"] (spD K c 3 m_number_in)) (n_len : mg "len" = none) :
    FnOk P w K mg base CX0 3 f fd ["text", "low", "high"] (spO K c 3 (m_span_in)) := by
  have S := sc_m_span_in
  refine okO' (n := 5) (m := 3) (B := m_span_in_b) F S rfl rfl rfl fun cdv A outer s H E hr => ?_
  exact (ss_cons (s_if (d_tcmp (opD_eq hr) (d_var 0) d_str) (ss_one (s_retE (o_lst (a_cons (d_var 1) (a_cons (d_var 2) a_nil))))) ss_nil) (ss_cons (s_setLc (i := 3) (own := [("part", 4)]) rfl S.nd (it_e (d_ofO (o_split (d_var 0) d_str))) (blkOk_by (own := [("part", 4)]) (N := sm_span_in_N) (sc := defScope (topS 34)) (by decide +kernel)) (tgN_in (by decide)) (fun _ _ _ _ _ => (g_name (i := 4) S.nd)) (fun _ _ _ _ _ => ts_nil) (fun _ _ _ _ _ => (d_call C_number_in_fields hr (by decide) (a_cons (d_var 4) (a_cons (d_var 1) (a_cons (d_var 2) a_nil)))))) (ss_cons (s_if (PW.pt (d_wor (d_tcmp opD_gt (d_callB bu_len n_len (a_cons (d_var 3) a_nil)) d_int) (d_wor (d_tcmp (opD_inDeep hr) (d_ofO (o_lst a_nil)) (d_var 3)) (d_wor1 (d_tcmp opD_gt (d_ix (d_ix (d_var 3) d_int) d_int) (d_ix (d_ix (d_var 3) (d_neg d_int)) d_int)))))) (ss_one (s_retE (o_lst a_nil))) ss_nil) (ss_one (s_retE (o_lst (a_cons (d_ix (d_ix (d_var 3) d_int) d_int) (a_cons (d_ix (d_ix (d_var 3) (d_neg d_int)) d_int) a_nil))))))))
abbrev sm_item_mask_N : List Str := ["item", "low", "high", "halves", "span", "stride"]
def m_item_mask_b : DS := (sSeq (sAsg (dO (oOp bSplit (dVar 0) (dC (.str "/")))) (tgN 3)) (sSeq (sAsgO (oCall 3 m_span_in (aCons (dOp opIx (dVar 3) (dC (.int 0))) (aCons (dVar 1) (aCons (dVar 2) aNil)))) 4) (sSeq (sIf (dOrT (asB (dOwnEq 4)) (asB (dOp opGt (dBu bLen (aCons (dVar 3) aNil)) (dC (.int 2))))) (sRet (dC (.int 0))) sNil) (sSeq (sIf (asB (dOp opEq (dBu bLen (aCons (dVar 3) aNil)) (dC (.int 1)))) (sRet (dCall 1 m_mask_of (aCons (dO (oRange (dOwnIx 4 (dC (.int 0))) (dOp opAdd (dOwnIx 4 (dC (.int 1))) (dC (.int 1))))) aNil))) sNil) (sSeq (sAsg (dCall 3 m_number_in (aCons (dOp opIx (dVar 3) (dC (.int 1))) (aCons (dC (.int 1)) (aCons (dC k_MOST_STRIDE) aNil)))) (tgN 5)) (sSeq (sIf (asB (dOp opEq (dVar 5) (dO (oLst aNil)))) (sRet (dC (.int 0))) sNil) (sSeq (sIf (asB (dCall 1 m_only_figures (aCons (dOp opIx (dVar 3) (dC (.int 0))) aNil))) (sSetI 4 (dC (.int 1)) (dVar 2)) sNil) (sRet (dCall 1 m_mask_of (aCons (dO (oRange3 (dOwnIx 4 (dC (.int 0))) (dOp opAdd (dOwnIx 4 (dC (.int 1))) (dC (.int 1))) (dOp opIx (dVar 5) (dC (.int 0))))) aNil))))))))))
def m_item_mask : List D → Option D := runD 6 (m_item_mask_b)
theorem sc_m_item_mask : FnScope sm_item_mask_N ["item", "low", "high"] (defScope (topS 35)) := ⟨rfl, rfl, rfl, by decide +kernel, rfl, by decide +kernel, by decide +kernel⟩
theorem ok_m_item_mask {f : Addr} {fd : FuncData} (F : DFun K "item_mask" "item_mask" (topS 35) f fd) (C_span_in : Cal P w K mg base "span_in" 3 ["text", "low", "high"] (spO K c 3 m_span_in)) (C_mask_of : Cal P w K mg base "mask_of" 1 ["numbers"] (spD K c 1 m_mask_of)) (C_number_in_fields : Cal P w K mg base "number_in_fields" 2 ["text", "low", "high"] (spD K c 3 m_number_in)) (C_only_figures : Cal P w K mg base "only_figures" 1 ["signs"] (spD K c 1 m_only_figures)) (g_MOST_STRIDE : GlobD K c mg "MOST_STRIDE" k_MOST_STRIDE) (n_len : mg "len" = none) (n_list : mg "list" = none) (n_range : mg "range" = none) :
    FnOk P w K mg base CX0 4 f fd ["item", "low", "high"] (spD K c 3 (m_item_mask)) := by
  have S := sc_m_item_mask
  refine okD' (n := 6) (m := 3) (B := m_item_mask_b) F S rfl rfl rfl fun cdv A outer s H E hr => ?_
  exact (ss_cons (s_set (i := 3) S.nd (d_ofO (o_split (d_var 0) d_str))) (ss_cons (s_setO (i := 4) S.nd (o_call C_span_in hr (by decide) (a_cons (d_ix (d_var 3) d_int) (a_cons (d_var 1) (a_cons (d_var 2) a_nil))))) (ss_cons (s_if (PW.pt (d_wor (d_townEq 4 hr) (d_wor1 (d_tcmp opD_gt (d_callB bu_len n_len (a_cons (d_var 3) a_nil)) d_int)))) (ss_one (s_ret d_int)) ss_nil) (ss_cons (s_if (d_tcmp (opD_eq hr) (d_callB bu_len n_len (a_cons (d_var 3) a_nil)) d_int) (ss_one (s_ret (d_call C_mask_of hr (by decide) (a_cons (d_ofO (o_listRange2 rfl n_list n_range (d_ownIx 4 d_int) (d_op opD_add (d_ownIx 4 d_int) d_int))) a_nil)))) ss_nil) (ss_cons (s_set (i := 5) S.nd (d_call C_number_in_fields hr (by decide) (a_cons (d_ix (d_var 3) d_int) (a_cons d_int (a_cons (d_glob g_MOST_STRIDE) a_nil))))) (ss_cons (s_if (d_tcmp (opD_eq hr) (d_var 5) (d_ofO (o_lst a_nil))) (ss_one (s_ret d_int)) ss_nil) (ss_cons (s_if (d_test (d_call C_only_figures hr (by decide) (a_cons (d_ix (d_var 3) d_int) a_nil))) (ss_one (s_setI 4 (d_var 2) d_int)) ss_nil) (ss_one (s_ret (d_call C_mask_of hr (by decide) (a_cons (d_ofO (o_listRange3 rfl n_list n_range (d_ownIx 4 d_int) (d_op opD_add (d_ownIx 4 d_int) d_int) (d_ix (d_var 5) d_int))) a_nil)))))))))))
abbrev sm_read_field_N : List Str := ["text", "low", "high", "mask", "items", "at", "item", "here"]
def m_read_field_b : DS := (sSeq (sIf (dOrT (dNotT (asB (dIsi (isiB "str") (dVar 0)))) (asB (dOp opGt (dBu bLen (aCons (dVar 0) aNil)) (dC k_MOST_SIGNS_fields)))) sNever sNil) (sSeq (sAsg (dC (.int 0)) (tgN 3)) (sSeq (sAsg (dO (oOp bSplit (dVar 0) (dC (.str ",")))) (tgN 4)) (sSeq (sFor (itEn (aCons (dSl (dVar 4) oNone (oSome (dC k_MOST_ITEMS_fields))) aNil)) (tgT [5, 6]) (sSeq (sAsg (dCall 3 m_item_mask (aCons (dVar 6) (aCons (dVar 1) (aCons (dVar 2) aNil)))) (tgN 7)) (sSeq (sIf (asB (dOp opEq (dVar 7) (dC (.int 0)))) sNever sNil) (sAsg (dOp opOr (dVar 3) (dVar 7)) (tgN 3))))) (sSeq (sIf (asB (dOp opGt (dBu bLen (aCons (dVar 4) aNil)) (dC k_MOST_ITEMS_fields))) sNever sNil) (sRet (dVar 3)))))))
def m_read_field : List D → Option D := runD 8 (m_read_field_b)
theorem sc_m_read_field : FnScope sm_read_field_N ["text", "low", "high"] (defScope (topS 36)) := ⟨rfl, rfl, rfl, by decide +kernel, rfl, by decide +kernel, by decide +kernel⟩
theorem ok_m_read_field {f : Addr} {fd : FuncData} (F : DFun K "read_field" "read_field" (topS 36) f fd) (C_item_mask : Cal P w K mg base "item_mask" 4 ["item", "low", "high"] (spD K c 3 m_item_mask)) (g_MOST_SIGNS_fields : GlobD K c mg "MOST_SIGNS_fields" k_MOST_SIGNS_fields) (g_MOST_ITEMS_fields : GlobD K c mg "MOST_ITEMS_fields" k_MOST_ITEMS_fields) (n_isinstance : mg "isinstance" = none) (n_str : mg "str" = none) (n_len : mg "len" = none) (n_enumerate : mg "enumerate" = none) :
    FnOk P w K mg base CX0 5 f fd ["text", "low", "high"] (spD K c 3 (m_read_field)) := by
  have S := sc_m_read_field
  refine okD' (n := 8) (m := 3) (B := m_read_field_b) F S rfl rfl rfl fun cdv A outer s H E hr => ?_
  exact (ss_cons (s_if (PW.pt (d_wor (d_tnot (d_test (d_isiB (n := "str") n_isinstance n_str (by decide +kernel) (d_var 0)))) (d_wor1 (d_tcmp opD_gt (d_callB bu_len n_len (a_cons (d_var 0) a_nil)) (d_glob g_MOST_SIGNS_fields))))) (ss_one s_never) ss_nil) (ss_cons (s_set (i := 3) S.nd d_int) (ss_cons (s_set (i := 4) S.nd (d_ofO (o_split (d_var 0) d_str))) (ss_cons (s_for PassesOwn.never rfl (it_en n_enumerate (a_cons (d_slice (d_var 4) o_none (o_some (d_glob g_MOST_ITEMS_fields))) a_nil)) (g_tup (is := [5, 6]) rfl (gs_cons (i := 5) S.nd (gs_cons (i := 6) S.nd gs_nil))) (ss_cons (s_set (i := 7) S.nd (d_call C_item_mask hr (by decide) (a_cons (d_var 6) (a_cons (d_var 1) (a_cons (d_var 2) a_nil))))) (ss_cons (s_if (d_tcmp (opD_eq hr) (d_var 7) d_int) (ss_one s_never) ss_nil) (ss_one (s_set (i := 3) S.nd (d_op opD_or (d_var 3) (d_var 7))))))) (ss_cons (s_if (d_tcmp opD_gt (d_callB bu_len n_len (a_cons (d_var 4) a_nil)) (d_glob g_MOST_ITEMS_fields)) (ss_one s_never) ss_nil) (ss_one (s_ret (d_var 3))))))))
abbrev sm_weekday_in_N : List Str := ["day", "first"]
def m_weekday_in_b : DS := (sRet (dOp opMod (dOp opSub (dOp opAdd (dVar 1) (dVar 0)) (dC (.int 1))) (dC (.int 7))))
def m_weekday_in : List D → Option D := runD 2 (m_weekday_in_b)
theorem sc_m_weekday_in : FnScope sm_weekday_in_N ["day", "first"] (defScope (topS 44)) := ⟨rfl, rfl, rfl, by decide +kernel, rfl, by decide +kernel, by decide +kernel⟩
theorem ok_m_weekday_in {f : Addr} {fd : FuncData} (F : DFun K "weekday_in" "weekday_in" (topS 44) f fd)  :
    FnOk P w K mg base CX0 1 f fd ["day", "first"] (spD K c 2 (m_weekday_in)) := by
  have S := sc_m_weekday_in
  refine okD' (n := 2) (m := 2) (B := m_weekday_in_b) F S rfl rfl rfl fun cdv A outer s H E hr => ?_
  exact (ss_one (s_ret (d_op opD_mod (d_op opD_sub (d_op opD_add (d_var 1) (d_var 0)) d_int) d_int)))
abbrev sm_Mark_days_N : List Str := ["self", "last", "first"]
def m_Mark_days_b : DS := (sRet (dC (.int 0)))
def m_Mark_days : List D → Option D := runD 3 (m_Mark_days_b)
theorem sc_m_Mark_days : FnScope sm_Mark_days_N ["self", "last", "first"] (defScope (inClass (topS 45) 0)) := ⟨rfl, rfl, rfl, by decide +kernel, rfl, by decide +kernel, by decide +kernel⟩
theorem ok_m_Mark_days {f : Addr} {fd : FuncData} (F : DFun K "days" "Mark.days" (inClass (topS 45) 0) f fd)  :
    FnOk P w K mg base CX0 1 f fd ["self", "last", "first"] (spD K c 3 (m_Mark_days)) := by
  have S := sc_m_Mark_days
  refine okD' (n := 3) (m := 3) (B := m_Mark_days_b) F S rfl rfl rfl fun cdv A outer s H E hr => ?_
  exact (ss_one (s_ret d_int))
abbrev sm_Numbers___init___N : List Str := ["self", "mask"]
def as_Numbers : List IStep := [.sto "mask" (dVar 1)]
def i_Numbers : List D → Option (List D) := some
theorem hF_Numbers (y : Addr) (ds fs : List D) (hl : ds.length = 1) (e : i_Numbers ds = some fs) : noOwn (startD 2 (.raw (.ref y) :: ds)) = true ∧ evalI y false as_Numbers (startD 2 (.raw (.ref y) :: ds)) = some fs := by
  match ds, hl with
  | [a], _ =>
    cases e
    exact ⟨rfl, (ev_sto (f := "mask") rfl (by decide +kernel) rfl ev_nil)⟩
theorem sc_m_Numbers___init__ : FnScope sm_Numbers___init___N ["self", "mask"] (defScope (inClass (topS 46) 0)) := ⟨rfl, rfl, rfl, by decide +kernel, rfl, by decide +kernel, by decide +kernel⟩
theorem ok_m_Numbers___init__ (hnm : c.nm 1 = nmF 1) {f : Addr} {fd : FuncData} (F : DFun K "__init__" "Numbers.__init__" (inClass (topS 46) 0) f fd) (hp0 : c.pl []) (hpl : ∀ f : Str, f ≠ kT → ∀ fs v, c.pl fs → c.pl (putF f v fs)) (hC : Cls K (c.cl 1)) (A_mask : NoAttr K (c.cl 1) "mask") :
    FnOk P w K mg base CX0 1 f fd ["self", "mask"] (spI K c 1 1 i_Numbers) := by
  have S := sc_m_Numbers___init__
  refine okI (as := as_Numbers) (nn := 2) F S rfl rfl hnm.symm (by first | (rw [hnm]; decide +kernel) | exact (show (nmF 9).Nodup by decide +kernel)) (by first | (rw [hnm]; decide) | exact (show (nmF 9).length < 1000 by decide)) hp0 hF_Numbers fun cdv A outer s H E hr => ?_
  exact (ii_sto (d_var 1) hC A_mask ii_nil (hpl _ (by decide +kernel)))
abbrev sm_Numbers_days_N : List Str := ["self", "last", "first"]
def m_Numbers_days_b : DS := (sRet (dOp opAnd (dFld at_mask (dVar 0)) (dOp opSub (dOp opShl (dC (.int 1)) (dOp opAdd (dVar 1) (dC (.int 1)))) (dC (.int 1)))))
def m_Numbers_days : List D → Option D := runD 3 (m_Numbers_days_b)
theorem sc_m_Numbers_days : FnScope sm_Numbers_days_N ["self", "last", "first"] (defScope (inClass (topS 46) 1)) := ⟨rfl, rfl, rfl, by decide +kernel, rfl, by decide +kernel, by decide +kernel⟩
theorem ok_m_Numbers_days {f : Addr} {fd : FuncData} (F : DFun K "days" "Numbers.days" (inClass (topS 46) 1) f fd) (f_mask : FldOk K c "mask" at_mask) :
    FnOk P w K mg base CX0 1 f fd ["self", "last", "first"] (spD K c 3 (m_Numbers_days)) := by
  have S := sc_m_Numbers_days
  refine okD' (n := 3) (m := 3) (B := m_Numbers_days_b) F S rfl rfl rfl fun cdv A outer s H E hr => ?_
  exact (ss_one (s_ret (d_op opD_and (d_fld f_mask (d_var 0)) (d_op opD_sub (d_op opD_shl d_int (d_op opD_add (d_var 1) d_int)) d_int))))
abbrev sm_Last___init___N : List Str := ["self", "back"]
def as_Last : List IStep := [.sto "back" (dVar 1)]
def i_Last : List D → Option (List D) := some
theorem hF_Last (y : Addr) (ds fs : List D) (hl : ds.length = 1) (e : i_Last ds = some fs) : noOwn (startD 2 (.raw (.ref y) :: ds)) = true ∧ evalI y false as_Last (startD 2 (.raw (.ref y) :: ds)) = some fs := by
  match ds, hl with
  | [a], _ =>
    cases e
    exact ⟨rfl, (ev_sto (f := "back") rfl (by decide +kernel) rfl ev_nil)⟩
theorem sc_m_Last___init__ : FnScope sm_Last___init___N ["self", "back"] (defScope (inClass (topS 47) 0)) := ⟨rfl, rfl, rfl, by decide +kernel, rfl, by decide +kernel, by decide +kernel⟩
theorem ok_m_Last___init__ (hnm : c.nm 2 = nmF 2) {f : Addr} {fd : FuncData} (F : DFun K "__init__" "Last.__init__" (inClass (topS 47) 0) f fd) (hp0 : c.pl []) (hpl : ∀ f : Str, f ≠ kT → ∀ fs v, c.pl fs → c.pl (putF f v fs)) (hC : Cls K (c.cl 2)) (A_back : NoAttr K (c.cl 2) "back") :
    FnOk P w K mg base CX0 1 f fd ["self", "back"] (spI K c 2 1 i_Last) := by
  have S := sc_m_Last___init__
  refine okI (as := as_Last) (nn := 2) F S rfl rfl hnm.symm (by first | (rw [hnm]; decide +kernel) | exact (show (nmF 9).Nodup by decide +kernel)) (by first | (rw [hnm]; decide) | exact (show (nmF 9).length < 1000 by decide)) hp0 hF_Last fun cdv A outer s H E hr => ?_
  exact (ii_sto (d_var 1) hC A_back ii_nil (hpl _ (by decide +kernel)))
abbrev sm_Last_days_N : List Str := ["self", "last", "first"]
def m_Last_days_b : DS := (sSeq (sIf (asB (dOp opLt (dOp opSub (dVar 1) (dFld at_back (dVar 0))) (dC (.int 1)))) (sRet (dC (.int 0))) sNil) (sRet (dOp opShl (dC (.int 1)) (dOp opSub (dVar 1) (dFld at_back (dVar 0))))))
def m_Last_days : List D → Option D := runD 3 (m_Last_days_b)
theorem sc_m_Last_days : FnScope sm_Last_days_N ["self", "last", "first"] (defScope (inClass (topS 47) 1)) := ⟨rfl, rfl, rfl, by decide +kernel, rfl, by decide +kernel, by decide +kernel⟩
theorem ok_m_Last_days {f : Addr} {fd : FuncData} (F : DFun K "days" "Last.days" (inClass (topS 47) 1) f fd) (f_back : FldOk K c "back" at_back) :
    FnOk P w K mg base CX0 1 f fd ["self", "last", "first"] (spD K c 3 (m_Last_days)) := by
  have S := sc_m_Last_days
  refine okD' (n := 3) (m := 3) (B := m_Last_days_b) F S rfl rfl rfl fun cdv A outer s H E hr => ?_
  exact (ss_cons (s_if (d_tcmp opD_lt (d_op opD_sub (d_var 1) (d_fld f_back (d_var 0))) d_int) (ss_one (s_ret d_int)) ss_nil) (ss_one (s_ret (d_op opD_shl d_int (d_op opD_sub (d_var 1) (d_fld f_back (d_var 0)))))))
abbrev sm_Near___init___N : List Str := ["self", "day"]
def as_Near : List IStep := [.sto "day" (dVar 1)]
def i_Near : List D → Option (List D) := some
theorem hF_Near (y : Addr) (ds fs : List D) (hl : ds.length = 1) (e : i_Near ds = some fs) : noOwn (startD 2 (.raw (.ref y) :: ds)) = true ∧ evalI y false as_Near (startD 2 (.raw (.ref y) :: ds)) = some fs := by
  match ds, hl with
  | [a], _ =>
    cases e
    exact ⟨rfl, (ev_sto (f := "day") rfl (by decide +kernel) rfl ev_nil)⟩
theorem sc_m_Near___init__ : FnScope sm_Near___init___N ["self", "day"] (defScope (inClass (topS 48) 0)) := ⟨rfl, rfl, rfl, by decide +kernel, rfl, by decide +kernel, by decide +kernel⟩
theorem ok_m_Near___init__ (hnm : c.nm 3 = nmF 3) {f : Addr} {fd : FuncData} (F : DFun K "__init__" "Near.__init__" (inClass (topS 48) 0) f fd) (hp0 : c.pl []) (hpl : ∀ f : Str, f ≠ kT → ∀ fs v, c.pl fs → c.pl (putF f v fs)) (hC : Cls K (c.cl 3)) (A_day : NoAttr K (c.cl 3) "day") :
    FnOk P w K mg base CX0 1 f fd ["self", "day"] (spI K c 3 1 i_Near) := by
  have S := sc_m_Near___init__
  refine okI (as := as_Near) (nn := 2) F S rfl rfl hnm.symm (by first | (rw [hnm]; decide +kernel) | exact (show (nmF 9).Nodup by decide +kernel)) (by first | (rw [hnm]; decide) | exact (show (nmF 9).length < 1000 by decide)) hp0 hF_Near fun cdv A outer s H E hr => ?_
  exact (ii_sto (d_var 1) hC A_day ii_nil (hpl _ (by decide +kernel)))
abbrev sm_Near_days_N : List Str := ["self", "last", "first", "on", "near"]
def m_Near_days_b : DS := (sSeq (sIf (asB (dOp opGt (dFld at_day (dVar 0)) (dVar 1))) (sRet (dC (.int 0))) sNil) (sSeq (sAsg (dCall 2 m_weekday_in (aCons (dFld at_day (dVar 0)) (aCons (dVar 2) aNil))) (tgN 3)) (sSeq (sAsg (dFld at_day (dVar 0)) (tgN 4)) (sSeq (sIf (asB (dOp opEq (dVar 3) (dC k_SATURDAY))) (sSeq (sAsg (dOp opSub (dFld at_day (dVar 0)) (dC (.int 1))) (tgN 4)) (sIf (asB (dOp opLt (dVar 4) (dC (.int 1)))) (sAsg (dC (.int 3)) (tgN 4)) sNil)) sNil) (sSeq (sIf (asB (dOp opEq (dVar 3) (dC k_SUNDAY))) (sSeq (sAsg (dOp opAdd (dFld at_day (dVar 0)) (dC (.int 1))) (tgN 4)) (sIf (asB (dOp opGt (dVar 4) (dVar 1))) (sAsg (dOp opSub (dVar 1) (dC (.int 2))) (tgN 4)) sNil)) sNil) (sRet (dOp opShl (dC (.int 1)) (dVar 4))))))))
def m_Near_days : List D → Option D := runD 5 (m_Near_days_b)
theorem sc_m_Near_days : FnScope sm_Near_days_N ["self", "last", "first"] (defScope (inClass (topS 48) 1)) := ⟨rfl, rfl, rfl, by decide +kernel, rfl, by decide +kernel, by decide +kernel⟩
theorem ok_m_Near_days {f : Addr} {fd : FuncData} (F : DFun K "days" "Near.days" (inClass (topS 48) 1) f fd) (C_weekday_in : Cal P w K mg base "weekday_in" 1 ["day", "first"] (spD K c 2 m_weekday_in)) (g_SATURDAY : GlobD K c mg "SATURDAY" k_SATURDAY) (g_SUNDAY : GlobD K c mg "SUNDAY" k_SUNDAY) (f_day : FldOk K c "day" at_day) :
    FnOk P w K mg base CX0 2 f fd ["self", "last", "first"] (spD K c 3 (m_Near_days)) := by
  have S := sc_m_Near_days
  refine okD' (n := 5) (m := 3) (B := m_Near_days_b) F S rfl rfl rfl fun cdv A outer s H E hr => ?_
  exact (ss_cons (s_if (d_tcmp opD_gt (d_fld f_day (d_var 0)) (d_var 1)) (ss_one (s_ret d_int)) ss_nil) (ss_cons (s_set (i := 3) S.nd (d_call C_weekday_in hr (by decide) (a_cons (d_fld f_day (d_var 0)) (a_cons (d_var 2) a_nil)))) (ss_cons (s_set (i := 4) S.nd (d_fld f_day (d_var 0))) (ss_cons (s_if (d_tcmp (opD_eq hr) (d_var 3) (d_glob g_SATURDAY)) (ss_cons (s_set (i := 4) S.nd (d_op opD_sub (d_fld f_day (d_var 0)) d_int)) (ss_one (s_if (d_tcmp opD_lt (d_var 4) d_int) (ss_one (s_set (i := 4) S.nd d_int)) ss_nil))) ss_nil) (ss_cons (s_if (d_tcmp (opD_eq hr) (d_var 3) (d_glob g_SUNDAY)) (ss_cons (s_set (i := 4) S.nd (d_op opD_add (d_fld f_day (d_var 0)) d_int)) (ss_one (s_if (d_tcmp opD_gt (d_var 4) (d_var 1)) (ss_one (s_set (i := 4) S.nd (d_op opD_sub (d_var 1) d_int))) ss_nil))) ss_nil) (ss_one (s_ret (d_op opD_shl d_int (d_var 4)))))))))
abbrev sm_LastWork_days_N : List Str := ["self", "last", "first", "on"]
def m_LastWork_days_b : DS := (sSeq (sAsg (dCall 2 m_weekday_in (aCons (dVar 1) (aCons (dVar 2) aNil))) (tgN 3)) (sSeq (sIf (asB (dOp opEq (dVar 3) (dC k_SATURDAY))) (sRet (dOp opShl (dC (.int 1)) (dOp opSub (dVar 1) (dC (.int 1))))) sNil) (sSeq (sIf (asB (dOp opEq (dVar 3) (dC k_SUNDAY))) (sRet (dOp opShl (dC (.int 1)) (dOp opSub (dVar 1) (dC (.int 2))))) sNil) (sRet (dOp opShl (dC (.int 1)) (dVar 1))))))
def m_LastWork_days : List D → Option D := runD 4 (m_LastWork_days_b)
theorem sc_m_LastWork_days : FnScope sm_LastWork_days_N ["self", "last", "first"] (defScope (inClass (topS 49) 0)) := ⟨rfl, rfl, rfl, by decide +kernel, rfl, by decide +kernel, by decide +kernel⟩
theorem ok_m_LastWork_days {f : Addr} {fd : FuncData} (F : DFun K "days" "LastWork.days" (inClass (topS 49) 0) f fd) (C_weekday_in : Cal P w K mg base "weekday_in" 1 ["day", "first"] (spD K c 2 m_weekday_in)) (g_SATURDAY : GlobD K c mg "SATURDAY" k_SATURDAY) (g_SUNDAY : GlobD K c mg "SUNDAY" k_SUNDAY) :
    FnOk P w K mg base CX0 2 f fd ["self", "last", "first"] (spD K c 3 (m_LastWork_days)) := by
  have S := sc_m_LastWork_days
  refine okD' (n := 4) (m := 3) (B := m_LastWork_days_b) F S rfl rfl rfl fun cdv A outer s H E hr => ?_
  exact (ss_cons (s_set (i := 3) S.nd (d_call C_weekday_in hr (by decide) (a_cons (d_var 1) (a_cons (d_var 2) a_nil)))) (ss_cons (s_if (d_tcmp (opD_eq hr) (d_var 3) (d_glob g_SATURDAY)) (ss_one (s_ret (d_op opD_shl d_int (d_op opD_sub (d_var 1) d_int)))) ss_nil) (ss_cons (s_if (d_tcmp (opD_eq hr) (d_var 3) (d_glob g_SUNDAY)) (ss_one (s_ret (d_op opD_shl d_int (d_op opD_sub (d_var 1) d_int)))) ss_nil) (ss_one (s_ret (d_op opD_shl d_int (d_var 1)))))))
abbrev sm_Weekdays___init___N : List Str := ["self", "mask"]
def as_Weekdays : List IStep := [.sto "mask" (dVar 1)]
def i_Weekdays : List D → Option (List D) := some
theorem hF_Weekdays (y : Addr) (ds fs : List D) (hl : ds.length = 1) (e : i_Weekdays ds = some fs) : noOwn (startD 2 (.raw (.ref y) :: ds)) = true ∧ evalI y false as_Weekdays (startD 2 (.raw (.ref y) :: ds)) = some fs := by
  match ds, hl with
  | [a], _ =>
    cases e
    exact ⟨rfl, (ev_sto (f := "mask") rfl (by decide +kernel) rfl ev_nil)⟩
theorem sc_m_Weekdays___init__ : FnScope sm_Weekdays___init___N ["self", "mask"] (defScope (inClass (topS 50) 0)) := ⟨rfl, rfl, rfl, by decide +kernel, rfl, by decide +kernel, by decide +kernel⟩
theorem ok_m_Weekdays___init__ (hnm : c.nm 5 = nmF 5) {f : Addr} {fd : FuncData} (F : DFun K "__init__" "Weekdays.__init__" (inClass (topS 50) 0) f fd) (hp0 : c.pl []) (hpl : ∀ f : Str, f ≠ kT → ∀ fs v, c.pl fs → c.pl (putF f v fs)) (hC : Cls K (c.cl 5)) (A_mask : NoAttr K (c.cl 5) "mask") :
    FnOk P w K mg base CX0 1 f fd ["self", "mask"] (spI K c 5 1 i_Weekdays) := by
  have S := sc_m_Weekdays___init__
  refine okI (as := as_Weekdays) (nn := 2) F S rfl rfl hnm.symm (by first | (rw [hnm]; decide +kernel) | exact (show (nmF 9).Nodup by decide +kernel)) (by first | (rw [hnm]; decide) | exact (show (nmF 9).length < 1000 by decide)) hp0 hF_Weekdays fun cdv A outer s H E hr => ?_
  exact (ii_sto (d_var 1) hC A_mask ii_nil (hpl _ (by decide +kernel)))
abbrev sm_Weekdays_days_N : List Str := ["self", "last", "first", "found", "day"]
def m_Weekdays_days_b : DS := (sSeq (sAsg (dC (.int 0)) (tgN 3)) (sSeq (sFor (itR2 (aCons (dC (.int 1)) (aCons (dOp opAdd (dVar 1) (dC (.int 1))) aNil))) (tgN 4) (sIf (asB (dOp opEq (dOp opAnd (dOp opShr (dFld at_mask (dVar 0)) (dCall 2 m_weekday_in (aCons (dVar 4) (aCons (dVar 2) aNil)))) (dC (.int 1))) (dC (.int 1)))) (sAsg (dOp opOr (dVar 3) (dOp opShl (dC (.int 1)) (dVar 4))) (tgN 3)) sNil)) (sRet (dVar 3))))
def m_Weekdays_days : List D → Option D := runD 5 (m_Weekdays_days_b)
theorem sc_m_Weekdays_days : FnScope sm_Weekdays_days_N ["self", "last", "first"] (defScope (inClass (topS 50) 1)) := ⟨rfl, rfl, rfl, by decide +kernel, rfl, by decide +kernel, by decide +kernel⟩
theorem ok_m_Weekdays_days {f : Addr} {fd : FuncData} (F : DFun K "days" "Weekdays.days" (inClass (topS 50) 1) f fd) (C_weekday_in : Cal P w K mg base "weekday_in" 1 ["day", "first"] (spD K c 2 m_weekday_in)) (n_range : mg "range" = none) (f_mask : FldOk K c "mask" at_mask) :
    FnOk P w K mg base CX0 2 f fd ["self", "last", "first"] (spD K c 3 (m_Weekdays_days)) := by
  have S := sc_m_Weekdays_days
  refine okD' (n := 5) (m := 3) (B := m_Weekdays_days_b) F S rfl rfl rfl fun cdv A outer s H E hr => ?_
  exact (ss_cons (s_set (i := 3) S.nd d_int) (ss_cons (s_for PassesOwn.never rfl (it_r2 n_range (a_cons d_int (a_cons (d_op opD_add (d_var 1) d_int) a_nil))) (g_name (i := 4) S.nd) (ss_one (s_if (d_tcmp (opD_eq hr) (d_op opD_and (d_op opD_shr (d_fld f_mask (d_var 0)) (d_call C_weekday_in hr (by decide) (a_cons (d_var 4) (a_cons (d_var 2) a_nil)))) d_int) d_int) (ss_one (s_set (i := 3) S.nd (d_op opD_or (d_var 3) (d_op opD_shl d_int (d_var 4))))) ss_nil))) (ss_one (s_ret (d_var 3)))))
abbrev sm_Nth___init___N : List Str := ["self", "weekday", "many"]
def as_Nth : List IStep := [.sto "weekday" (dVar 1), .sto "many" (dVar 2)]
def i_Nth : List D → Option (List D) := some
theorem hF_Nth (y : Addr) (ds fs : List D) (hl : ds.length = 2) (e : i_Nth ds = some fs) : noOwn (startD 3 (.raw (.ref y) :: ds)) = true ∧ evalI y false as_Nth (startD 3 (.raw (.ref y) :: ds)) = some fs := by
  match ds, hl with
  | [a, b], _ =>
    cases e
    exact ⟨rfl, (ev_sto (f := "weekday") rfl (by decide +kernel) rfl (ev_sto (f := "many") rfl (by decide +kernel) rfl ev_nil))⟩
theorem sc_m_Nth___init__ : FnScope sm_Nth___init___N ["self", "weekday", "many"] (defScope (inClass (topS 51) 0)) := ⟨rfl, rfl, rfl, by decide +kernel, rfl, by decide +kernel, by decide +kernel⟩
theorem ok_m_Nth___init__ (hnm : c.nm 6 = nmF 6) {f : Addr} {fd : FuncData} (F : DFun K "__init__" "Nth.__init__" (inClass (topS 51) 0) f fd) (hp0 : c.pl []) (hpl : ∀ f : Str, f ≠ kT → ∀ fs v, c.pl fs → c.pl (putF f v fs)) (hC : Cls K (c.cl 6)) (A_weekday : NoAttr K (c.cl 6) "weekday") (A_many : NoAttr K (c.cl 6) "many") :
    FnOk P w K mg base CX0 1 f fd ["self", "weekday", "many"] (spI K c 6 2 i_Nth) := by
  have S := sc_m_Nth___init__
  refine okI (as := as_Nth) (nn := 3) F S rfl rfl hnm.symm (by first | (rw [hnm]; decide +kernel) | exact (show (nmF 9).Nodup by decide +kernel)) (by first | (rw [hnm]; decide) | exact (show (nmF 9).length < 1000 by decide)) hp0 hF_Nth fun cdv A outer s H E hr => ?_
  exact (ii_sto (d_var 1) hC A_weekday (ii_sto (d_var 2) hC A_many ii_nil (hpl _ (by decide +kernel))) (hpl _ (by decide +kernel)))
abbrev sm_Nth_days_N : List Str := ["self", "last", "first", "day"]
def m_Nth_days_b : DS := (sSeq (sAsg (dOp opAdd (dOp opAdd (dC (.int 1)) (dOp opMod (dOp opSub (dFld at_weekday (dVar 0)) (dVar 2)) (dC (.int 7)))) (dOp opMul (dC (.int 7)) (dOp opSub (dFld at_many (dVar 0)) (dC (.int 1))))) (tgN 3)) (sSeq (sIf (asB (dOp opGt (dVar 3) (dVar 1))) (sRet (dC (.int 0))) sNil) (sRet (dOp opShl (dC (.int 1)) (dVar 3)))))
def m_Nth_days : List D → Option D := runD 4 (m_Nth_days_b)
theorem sc_m_Nth_days : FnScope sm_Nth_days_N ["self", "last", "first"] (defScope (inClass (topS 51) 1)) := ⟨rfl, rfl, rfl, by decide +kernel, rfl, by decide +kernel, by decide +kernel⟩
theorem ok_m_Nth_days {f : Addr} {fd : FuncData} (F : DFun K "days" "Nth.days" (inClass (topS 51) 1) f fd) (f_weekday : FldOk K c "weekday" at_weekday) (f_many : FldOk K c "many" at_many) :
    FnOk P w K mg base CX0 1 f fd ["self", "last", "first"] (spD K c 3 (m_Nth_days)) := by
  have S := sc_m_Nth_days
  refine okD' (n := 4) (m := 3) (B := m_Nth_days_b) F S rfl rfl rfl fun cdv A outer s H E hr => ?_
  exact (ss_cons (s_set (i := 3) S.nd (d_op opD_add (d_op opD_add d_int (d_op opD_mod (d_op opD_sub (d_fld f_weekday (d_var 0)) (d_var 2)) d_int)) (d_op opD_mul d_int (d_op opD_sub (d_fld f_many (d_var 0)) d_int)))) (ss_cons (s_if (d_tcmp opD_gt (d_var 3) (d_var 1)) (ss_one (s_ret d_int)) ss_nil) (ss_one (s_ret (d_op opD_shl d_int (d_var 3))))))
abbrev sm_LastOne___init___N : List Str := ["self", "weekday"]
def as_LastOne : List IStep := [.sto "weekday" (dVar 1)]
def i_LastOne : List D → Option (List D) := some
theorem hF_LastOne (y : Addr) (ds fs : List D) (hl : ds.length = 1) (e : i_LastOne ds = some fs) : noOwn (startD 2 (.raw (.ref y) :: ds)) = true ∧ evalI y false as_LastOne (startD 2 (.raw (.ref y) :: ds)) = some fs := by
  match ds, hl with
  | [a], _ =>
    cases e
    exact ⟨rfl, (ev_sto (f := "weekday") rfl (by decide +kernel) rfl ev_nil)⟩
theorem sc_m_LastOne___init__ : FnScope sm_LastOne___init___N ["self", "weekday"] (defScope (inClass (topS 52) 0)) := ⟨rfl, rfl, rfl, by decide +kernel, rfl, by decide +kernel, by decide +kernel⟩
theorem ok_m_LastOne___init__ (hnm : c.nm 7 = nmF 7) {f : Addr} {fd : FuncData} (F : DFun K "__init__" "LastOne.__init__" (inClass (topS 52) 0) f fd) (hp0 : c.pl []) (hpl : ∀ f : Str, f ≠ kT → ∀ fs v, c.pl fs → c.pl (putF f v fs)) (hC : Cls K (c.cl 7)) (A_weekday : NoAttr K (c.cl 7) "weekday") :
    FnOk P w K mg base CX0 1 f fd ["self", "weekday"] (spI K c 7 1 i_LastOne) := by
  have S := sc_m_LastOne___init__
  refine okI (as := as_LastOne) (nn := 2) F S rfl rfl hnm.symm (by first | (rw [hnm]; decide +kernel) | exact (show (nmF 9).Nodup by decide +kernel)) (by first | (rw [hnm]; decide) | exact (show (nmF 9).length < 1000 by decide)) hp0 hF_LastOne fun cdv A outer s H E hr => ?_
  exact (ii_sto (d_var 1) hC A_weekday ii_nil (hpl _ (by decide +kernel)))
abbrev sm_LastOne_days_N : List Str := ["self", "last", "first"]
def m_LastOne_days_b : DS := (sRet (dOp opShl (dC (.int 1)) (dOp opSub (dVar 1) (dOp opMod (dOp opSub (dCall 2 m_weekday_in (aCons (dVar 1) (aCons (dVar 2) aNil))) (dFld at_weekday (dVar 0))) (dC (.int 7))))))
def m_LastOne_days : List D → Option D := runD 3 (m_LastOne_days_b)
theorem sc_m_LastOne_days : FnScope sm_LastOne_days_N ["self", "last", "first"] (defScope (inClass (topS 52) 1)) := ⟨rfl, rfl, rfl, by decide +kernel, rfl, by decide +kernel, by decide +kernel⟩
theorem ok_m_LastOne_days {f : Addr} {fd : FuncData} (F : DFun K "days" "LastOne.days" (inClass (topS 52) 1) f fd) (C_weekday_in : Cal P w K mg base "weekday_in" 1 ["day", "first"] (spD K c 2 m_weekday_in)) (f_weekday : FldOk K c "weekday" at_weekday) :
    FnOk P w K mg base CX0 2 f fd ["self", "last", "first"] (spD K c 3 (m_LastOne_days)) := by
  have S := sc_m_LastOne_days
  refine okD' (n := 3) (m := 3) (B := m_LastOne_days_b) F S rfl rfl rfl fun cdv A outer s H E hr => ?_
  exact (ss_one (s_ret (d_op opD_shl d_int (d_op opD_sub (d_var 1) (d_op opD_mod (d_op opD_sub (d_call C_weekday_in hr (by decide) (a_cons (d_var 1) (a_cons (d_var 2) a_nil))) (d_fld f_weekday (d_var 0))) d_int)))))
def t_days : Nat → Option (List D → Option D)
  | 1 => some m_Numbers_days
  | 2 => some m_Last_days
  | 3 => some m_Near_days
  | 4 => some m_LastWork_days
  | 5 => some m_Weekdays_days
  | 6 => some m_Nth_days
  | 7 => some m_LastOne_days
  | _ => none
abbrev sm_any_days_N : List Str := ["marks", "last", "first", "found", "mark"]
def m_any_days_b : DS := (sSeq (sAsg (dC (.int 0)) (tgN 3)) (sSeq (sFor (itE (dVar 0)) (tgN 4) (sAsg (dOp opOr (dVar 3) (dMeth 2 t_days (dVar 4) (aCons (dVar 1) (aCons (dVar 2) aNil)))) (tgN 3))) (sRet (dVar 3))))
def m_any_days : List D → Option D := runD 5 (m_any_days_b)
theorem sc_m_any_days : FnScope sm_any_days_N ["marks", "last", "first"] (defScope (topS 53)) := ⟨rfl, rfl, rfl, by decide +kernel, rfl, by decide +kernel, by decide +kernel⟩
theorem ok_m_any_days {f : Addr} {fd : FuncData} (F : DFun K "any_days" "any_days" (topS 53) f fd) (M_days : MCal P w K mg base c "days" 2 2 t_days) :
    FnOk P w K mg base CX0 3 f fd ["marks", "last", "first"] (spD K c 3 (m_any_days)) := by
  have S := sc_m_any_days
  refine okD' (n := 5) (m := 3) (B := m_any_days_b) F S rfl rfl rfl fun cdv A outer s H E hr => ?_
  exact (ss_cons (s_set (i := 3) S.nd d_int) (ss_cons (s_for PassesOwn.never rfl (it_e (d_var 0)) (g_name (i := 4) S.nd) (ss_one (s_set (i := 3) S.nd (d_op opD_or (d_var 3) (d_meth M_days hr (by decide) (d_var 4) (a_cons (d_var 1) (a_cons (d_var 2) a_nil))))))) (ss_one (s_ret (d_var 3)))))
def dayM (m : D) (l f : Int) (x : D) : Option D := match m with
  | .non => some x
  | m => (m_any_days [m, .int l, .int f]).bind fun a => opOr x a
def dayB (d : D) (l f : Int) : Option Int := match d with
  | .ins 0 [_, _, dm, _, wm] => ((match dm, wm with
    | .non, .non => (opShl (.int 1) (.int (l + 1))).bind fun x => opSub x (.int 2)
    | _, _ => (dayM dm l f (.int 0)).bind fun x => dayM wm l f x).bind fun
      | .int n => some n
      | _ => none)
  | _ => none
abbrev sm_number_in_v2_N : List Str := ["text", "low", "high", "sign", "number"]
def m_number_in_v2_b : DS := (sSeq (sIf (dOrT (asB (dOp opEq (dVar 0) (dC (.str "")))) (asB (dOp opGt (dBu bLen (aCons (dVar 0) aNil)) (dC (.int 2))))) (sRet (dC .non)) sNil) (sSeq (sFor (itE (dVar 0)) (tgN 3) (sIf (asB (dOp opNotIn (dVar 3) (dC k_FIGURES_marks))) (sRet (dC .non)) sNil)) (sSeq (sIf (dAndT (asB (dOp opEq (dOp opIx (dVar 0) (dC (.int 0))) (dC (.str "0")))) (asB (dOp opNe (dVar 0) (dC (.str "0"))))) (sRet (dC .non)) sNil) (sSeq (sAsg (dBu bInt (aCons (dVar 0) aNil)) (tgN 4)) (sSeq (sIf (dOrT (asB (dOp opLt (dVar 4) (dVar 1))) (asB (dOp opGt (dVar 4) (dVar 2)))) (sRet (dC .non)) sNil) (sRet (dVar 4)))))))
def m_number_in_v2 : List D → Option D := runD 5 (m_number_in_v2_b)
theorem sc_m_number_in_v2 : FnScope sm_number_in_v2_N ["text", "low", "high"] (defScope (topS 54)) := ⟨rfl, rfl, rfl, by decide +kernel, rfl, by decide +kernel, by decide +kernel⟩
theorem ok_m_number_in_v2 {f : Addr} {fd : FuncData} (F : DFun K "number_in" "number_in" (topS 54) f fd) (g_FIGURES_marks : GlobD K c mg "FIGURES_marks" k_FIGURES_marks) (n_len : mg "len" = none) (n_int : mg "int" = none) :
    FnOk P w K mg base CX0 1 f fd ["text", "low", "high"] (spD K c 3 (m_number_in_v2)) := by
  have S := sc_m_number_in_v2
  refine okD' (n := 5) (m := 3) (B := m_number_in_v2_b) F S rfl rfl rfl fun cdv A outer s H E hr => ?_
  exact (ss_cons (s_if (PW.pt (d_wor (d_tcmp (opD_eq hr) (d_var 0) d_str) (d_wor1 (d_tcmp opD_gt (d_callB bu_len n_len (a_cons (d_var 0) a_nil)) d_int)))) (ss_one (s_ret d_non)) ss_nil) (ss_cons (s_for PassesOwn.never rfl (it_e (d_var 0)) (g_name (i := 3) S.nd) (ss_one (s_if (d_tcmp opD_notIn (d_var 3) (d_glob g_FIGURES_marks)) (ss_one (s_ret d_non)) ss_nil))) (ss_cons (s_if (PW.pt (d_wand (d_tcmp (opD_eq hr) (d_ix (d_var 0) d_int) d_str) (d_wand1 (d_tcmp (opD_ne hr) (d_var 0) d_str)))) (ss_one (s_ret d_non)) ss_nil) (ss_cons (s_set (i := 4) S.nd (d_callTy bu_int n_int (a_cons (d_var 0) a_nil))) (ss_cons (s_if (PW.pt (d_wor (d_tcmp opD_lt (d_var 4) (d_var 1)) (d_wor1 (d_tcmp opD_gt (d_var 4) (d_var 2))))) (ss_one (s_ret d_non)) ss_nil) (ss_one (s_ret (d_var 4))))))))
abbrev sm_day_mark_N : List Str := ["item", "number"]
def m_day_mark_b : DS := (sSeq (sIf (asB (dOp opEq (dVar 0) (dC (.str "L")))) (sRet (dMake 2 1 i_Last (fun _ => some dd_Last))) sNil) (sSeq (sIf (asB (dOp opEq (dVar 0) (dC (.str "LW")))) (sRet (dC (.ins 4 []))) sNil) (sSeq (sIf (asB (dOp opEq (dSl (dVar 0) oNone (oSome (dC (.int 2)))) (dC (.str "L-")))) (sSeq (sAsg (dCall 3 m_number_in_v2 (aCons (dSl (dVar 0) (oSome (dC (.int 2))) oNone) (aCons (dC (.int 1)) (aCons (dC (.int 30)) aNil)))) (tgN 1)) (sIf (asB (dOp opNotN (dVar 1) (dC .non))) (sRet (dMake 2 1 i_Last (aCons (dVar 1) aNil))) sNil)) sNil) (sSeq (sIf (asB (dOp opEq (dSl (dVar 0) (oSome (dNeg (dC (.int 1)))) oNone) (dC (.str "W")))) (sSeq (sAsg (dCall 3 m_number_in_v2 (aCons (dSl (dVar 0) oNone (oSome (dNeg (dC (.int 1))))) (aCons (dC (.int 1)) (aCons (dC (.int 31)) aNil)))) (tgN 1)) (sIf (asB (dOp opNotN (dVar 1) (dC .non))) (sRet (dMake 3 1 i_Near (aCons (dVar 1) aNil))) sNil)) sNil) (sRet (dC .non))))))
def m_day_mark : List D → Option D := runD 2 (m_day_mark_b)
theorem sc_m_day_mark : FnScope sm_day_mark_N ["item"] (defScope (topS 56)) := ⟨rfl, rfl, rfl, by decide +kernel, rfl, by decide +kernel, by decide +kernel⟩
theorem ok_m_day_mark {f : Addr} {fd : FuncData} (F : DFun K "day_mark" "day_mark" (topS 56) f fd) (C_number_in_marks : Cal P w K mg base "number_in_marks" 1 ["text", "low", "high"] (spD K c 3 m_number_in_v2)) (K_Last : MakD P w K mg base c "Last" 2 1 1 i_Last dd_Last) (K_LastWork : Mak0 K mg c "LastWork" 4) (K_Near : Mak P w K mg base c "Near" 3 1 1 i_Near) :
    FnOk P w K mg base CX0 3 f fd ["item"] (spD K c 1 (m_day_mark)) := by
  have S := sc_m_day_mark
  refine okD' (n := 2) (m := 1) (B := m_day_mark_b) F S rfl rfl rfl fun cdv A outer s H E hr => ?_
  exact (ss_cons (s_if (d_tcmp (opD_eq hr) (d_var 0) d_str) (ss_one (s_ret (d_makeD K_Last hr (by decide)))) ss_nil) (ss_cons (s_if (d_tcmp (opD_eq hr) (d_var 0) d_str) (ss_one (s_ret (d_make0 K_LastWork))) ss_nil) (ss_cons (s_if (d_tcmp (opD_eq hr) (d_slice (d_var 0) o_none (o_some d_int)) d_str) (ss_cons (s_set (i := 1) S.nd (d_call C_number_in_marks hr (by decide) (a_cons (d_slice (d_var 0) (o_some d_int) o_none) (a_cons d_int (a_cons d_int a_nil))))) (ss_one (s_if (d_tcmp opD_notN (d_var 1) d_non) (ss_one (s_ret (d_make (K_Last).mak hr (by decide) (a_cons (d_var 1) a_nil)))) ss_nil))) ss_nil) (ss_cons (s_if (d_tcmp (opD_eq hr) (d_slice (d_var 0) (o_some (d_neg d_int)) o_none) d_str) (ss_cons (s_set (i := 1) S.nd (d_call C_number_in_marks hr (by decide) (a_cons (d_slice (d_var 0) o_none (o_some (d_neg d_int))) (a_cons d_int (a_cons d_int a_nil))))) (ss_one (s_if (d_tcmp opD_notN (d_var 1) d_non) (ss_one (s_ret (d_make K_Near hr (by decide) (a_cons (d_var 1) a_nil)))) ss_nil))) ss_nil) (ss_one (s_ret d_non))))))
abbrev sm_weekday_mark_N : List Str := ["item", "number", "parts", "many"]
def m_weekday_mark_b : DS := (sSeq (sIf (asB (dOp opEq (dSl (dVar 0) (oSome (dNeg (dC (.int 1)))) oNone) (dC (.str "L")))) (sSeq (sAsg (dCall 3 m_number_in_v2 (aCons (dSl (dVar 0) oNone (oSome (dNeg (dC (.int 1))))) (aCons (dC (.int 0)) (aCons (dC (.int 7)) aNil)))) (tgN 1)) (sIf (asB (dOp opNotN (dVar 1) (dC .non))) (sRet (dMake 7 1 i_LastOne (aCons (dOp opMod (dVar 1) (dC (.int 7))) aNil))) sNil)) sNil) (sSeq (sAsg (dO (oOp bSplit (dVar 0) (dC (.str "#")))) (tgN 2)) (sSeq (sIf (asB (dOp opEq (dBu bLen (aCons (dVar 2) aNil)) (dC (.int 2)))) (sSeq (sAsg (dCall 3 m_number_in_v2 (aCons (dOp opIx (dVar 2) (dC (.int 0))) (aCons (dC (.int 0)) (aCons (dC (.int 7)) aNil)))) (tgN 1)) (sSeq (sAsg (dCall 3 m_number_in_v2 (aCons (dOp opIx (dVar 2) (dC (.int 1))) (aCons (dC (.int 1)) (aCons (dC (.int 5)) aNil)))) (tgN 3)) (sIf (dAndT (asB (dOp opNotN (dVar 1) (dC .non))) (asB (dOp opNotN (dVar 3) (dC .non)))) (sRet (dMake 6 2 i_Nth (aCons (dOp opMod (dVar 1) (dC (.int 7))) (aCons (dVar 3) aNil)))) sNil))) sNil) (sRet (dC .non)))))
def m_weekday_mark : List D → Option D := runD 4 (m_weekday_mark_b)
theorem sc_m_weekday_mark : FnScope sm_weekday_mark_N ["item"] (defScope (topS 57)) := ⟨rfl, rfl, rfl, by decide +kernel, rfl, by decide +kernel, by decide +kernel⟩
theorem ok_m_weekday_mark {f : Addr} {fd : FuncData} (F : DFun K "weekday_mark" "weekday_mark" (topS 57) f fd) (C_number_in_marks : Cal P w K mg base "number_in_marks" 1 ["text", "low", "high"] (spD K c 3 m_number_in_v2)) (K_LastOne : Mak P w K mg base c "LastOne" 7 1 1 i_LastOne) (K_Nth : Mak P w K mg base c "Nth" 6 1 2 i_Nth) (n_len : mg "len" = none) :
    FnOk P w K mg base CX0 3 f fd ["item"] (spD K c 1 (m_weekday_mark)) := by
  have S := sc_m_weekday_mark
  refine okD' (n := 4) (m := 1) (B := m_weekday_mark_b) F S rfl rfl rfl fun cdv A outer s H E hr => ?_
  exact (ss_cons (s_if (d_tcmp (opD_eq hr) (d_slice (d_var 0) (o_some (d_neg d_int)) o_none) d_str) (ss_cons (s_set (i := 1) S.nd (d_call C_number_in_marks hr (by decide) (a_cons (d_slice (d_var 0) o_none (o_some (d_neg d_int))) (a_cons d_int (a_cons d_int a_nil))))) (ss_one (s_if (d_tcmp opD_notN (d_var 1) d_non) (ss_one (s_ret (d_make K_LastOne hr (by decide) (a_cons (d_op opD_mod (d_var 1) d_int) a_nil)))) ss_nil))) ss_nil) (ss_cons (s_set (i := 2) S.nd (d_ofO (o_split (d_var 0) d_str))) (ss_cons (s_if (d_tcmp (opD_eq hr) (d_callB bu_len n_len (a_cons (d_var 2) a_nil)) d_int) (ss_cons (s_set (i := 1) S.nd (d_call C_number_in_marks hr (by decide) (a_cons (d_ix (d_var 2) d_int) (a_cons d_int (a_cons d_int a_nil))))) (ss_cons (s_set (i := 3) S.nd (d_call C_number_in_marks hr (by decide) (a_cons (d_ix (d_var 2) d_int) (a_cons d_int (a_cons d_int a_nil))))) (ss_one (s_if (PW.pt (d_wand (d_tcmp opD_notN (d_var 1) d_non) (d_wand1 (d_tcmp opD_notN (d_var 3) d_non)))) (ss_one (s_ret (d_make K_Nth hr (by decide) (a_cons (d_op opD_mod (d_var 1) d_int) (a_cons (d_var 3) a_nil))))) ss_nil)))) ss_nil) (ss_one (s_ret d_non)))))
def t_marked : Nat → Option (List D → Option D)
  | 0 => some m_day_mark
  | 1 => some m_weekday_mark
  | _ => none
abbrev sm_items_of_N : List Str := ["text"]
def m_items_of_b : DS := (sSeq (sIf (dOrT (dNotT (asB (dIsi (isiB "str") (dVar 0)))) (asB (dOp opGt (dBu bLen (aCons (dVar 0) aNil)) (dC k_MOST_SIGNS_marks)))) sNever sNil) (sRet (dO (oOp bSplit (dVar 0) (dC (.str ","))))))
def m_items_of : List D → Option D := runD 1 (m_items_of_b)
theorem sc_m_items_of : FnScope sm_items_of_N ["text"] (defScope (topS 58)) := ⟨rfl, rfl, rfl, by decide +kernel, rfl, by decide +kernel, by decide +kernel⟩
theorem ok_m_items_of {f : Addr} {fd : FuncData} (F : DFun K "items_of" "items_of" (topS 58) f fd) (g_MOST_SIGNS_marks : GlobD K c mg "MOST_SIGNS_marks" k_MOST_SIGNS_marks) (n_isinstance : mg "isinstance" = none) (n_str : mg "str" = none) (n_len : mg "len" = none) :
    FnOk P w K mg base CX0 1 f fd ["text"] (spD K c 1 (m_items_of)) := by
  have S := sc_m_items_of
  refine okD' (n := 1) (m := 1) (B := m_items_of_b) F S rfl rfl rfl fun cdv A outer s H E hr => ?_
  exact (ss_cons (s_if (PW.pt (d_wor (d_tnot (d_test (d_isiB (n := "str") n_isinstance n_str (by decide +kernel) (d_var 0)))) (d_wor1 (d_tcmp opD_gt (d_callB bu_len n_len (a_cons (d_var 0) a_nil)) (d_glob g_MOST_SIGNS_marks))))) (ss_one s_never) ss_nil) (ss_one (s_ret (d_ofO (o_split (d_var 0) d_str)))))
abbrev sm_plain_item_N : List Str := ["item", "at", "low", "high", "mask"]
def m_plain_item_b : DS := (sSeq (sAsg (dCall 3 m_read_field (aCons (dVar 0) (aCons (dVar 2) (aCons (dVar 3) aNil)))) (tgN 4)) (sRet (dVar 4)))
def m_plain_item : List D → Option D := runD 5 (m_plain_item_b)
theorem sc_m_plain_item : FnScope sm_plain_item_N ["item", "at", "low", "high"] (defScope (topS 59)) := ⟨rfl, rfl, rfl, by decide +kernel, rfl, by decide +kernel, by decide +kernel⟩
theorem ok_m_plain_item {f : Addr} {fd : FuncData} (F : DFun K "plain_item" "plain_item" (topS 59) f fd) (C_read_field : Cal P w K mg base "read_field" 5 ["text", "low", "high"] (spD K c 3 m_read_field)) :
    FnOk P w K mg base CX0 6 f fd ["item", "at", "low", "high"] (spD K c 4 (m_plain_item)) := by
  have S := sc_m_plain_item
  refine okD' (n := 5) (m := 4) (B := m_plain_item_b) F S rfl rfl rfl fun cdv A outer s H E hr => ?_
  exact (ss_cons (s_tryN (fun _ _ h => h) (ss_one (s_set (i := 4) S.nd (d_call C_read_field hr (by decide) (a_cons (d_var 0) (a_cons (d_var 2) (a_cons (d_var 3) a_nil))))))) (ss_one (s_ret (d_var 4))))
abbrev sm_read_items_N : List Str := ["text", "marked", "low", "high", "items", "mask", "marks", "at", "mark"]
def m_read_items_b : DS := (sSeq (sAsg (dCall 1 m_items_of (aCons (dVar 0) aNil)) (tgN 4)) (sSeq (sAsg (dC (.int 0)) (tgN 5)) (sSeq (sAsgO (oLst aNil) 6) (sSeq (sFor (itR1 (aCons (dBu bMin (aCons (dC k_MOST_ITEMS_marks) (aCons (dBu bLen (aCons (dVar 4) aNil)) aNil))) aNil)) (tgN 7) (sSeq (sAsg (dCallV 1 1 t_marked (aCons (dOp opIx (dVar 4) (dVar 7)) aNil)) (tgN 8)) (sIf (asB (dOp opIsN (dVar 8) (dC .non))) (sAsg (dOp opOr (dVar 5) (dCall 4 m_plain_item (aCons (dOp opIx (dVar 4) (dVar 7)) (aCons (dVar 7) (aCons (dVar 2) (aCons (dVar 3) aNil)))))) (tgN 5)) (sIf (asB (dOp opEq (dOwnLen 6) (dC k_MOST_MARKS))) sNever (sApp 6 (dVar 8)))))) (sSeq (sIf (asB (dOp opGt (dBu bLen (aCons (dVar 4) aNil)) (dC k_MOST_ITEMS_marks))) sNever sNil) (sFrz 6 (sRet (dTup (aCons (dVar 5) (aCons (dVar 6) aNil))))))))))
def m_read_items : List D → Option D := runD 9 (m_read_items_b)
theorem sc_m_read_items : FnScope sm_read_items_N ["text", "marked", "low", "high"] (defScope (topS 60)) := ⟨rfl, rfl, rfl, by decide +kernel, rfl, by decide +kernel, by decide +kernel⟩
theorem ok_m_read_items {f : Addr} {fd : FuncData} (F : DFun K "read_items" "read_items" (topS 60) f fd) (C_items_of : Cal P w K mg base "items_of" 1 ["text"] (spD K c 1 m_items_of)) (C_plain_item : Cal P w K mg base "plain_item" 6 ["item", "at", "low", "high"] (spD K c 4 m_plain_item)) (V_marked : CalV P w K mg base c 5 1 t_marked) (g_MOST_ITEMS_marks : GlobD K c mg "MOST_ITEMS_marks" k_MOST_ITEMS_marks) (g_MOST_MARKS : GlobD K c mg "MOST_MARKS" k_MOST_MARKS) (n_len : mg "len" = none) (n_min : mg "min" = none) (n_range : mg "range" = none) :
    FnOk P w K mg base CX0 7 f fd ["text", "marked", "low", "high"] (spD K c 4 (m_read_items)) := by
  have S := sc_m_read_items
  refine okD' (n := 9) (m := 4) (B := m_read_items_b) F S rfl rfl rfl fun cdv A outer s H E hr => ?_
  exact (ss_cons (s_set (i := 4) S.nd (d_call C_items_of hr (by decide) (a_cons (d_var 0) a_nil))) (ss_cons (s_set (i := 5) S.nd d_int) (ss_cons (s_setO (i := 6) S.nd (o_lst a_nil)) (ss_cons (s_for PassesOwn.never rfl (it_r1 n_range (a_cons (d_callB (bu_min rfl) n_min (a_cons (d_glob g_MOST_ITEMS_marks) (a_cons (d_callB bu_len n_len (a_cons (d_var 4) a_nil)) a_nil))) a_nil)) (g_name (i := 7) S.nd) (ss_cons (s_set (i := 8) S.nd (d_callV 1 V_marked hr (by decide) (a_cons (d_ix (d_var 4) (d_var 7)) a_nil))) (ss_one (s_if (d_tcmp opD_isN (d_var 8) d_non) (ss_one (s_set (i := 5) S.nd (d_op opD_or (d_var 5) (d_call C_plain_item hr (by decide) (a_cons (d_ix (d_var 4) (d_var 7)) (a_cons (d_var 7) (a_cons (d_var 2) (a_cons (d_var 3) a_nil)))))))) (ss_one (s_if (d_tcmp (opD_eq hr) (d_ownLen 6 n_len) (d_glob g_MOST_MARKS)) (ss_one s_never) (ss_one (s_app 6 (d_var 8))))))))) (ss_cons (s_if (d_tcmp opD_gt (d_callB bu_len n_len (a_cons (d_var 4) a_nil)) (d_glob g_MOST_ITEMS_marks)) (ss_one s_never) ss_nil) (ss_frz 6 (ss_one (s_ret (d_tup (a_cons (d_var 5) (a_cons (d_var 6) a_nil)))))))))))
abbrev sm_read_days_N : List Str := ["text", "mask", "marks"]
def m_read_days_b : DS := (sSeq (sIf (asB (dOp opEq (dVar 0) (dC (.str "*")))) (sRet (dC .non)) sNil) (sSeq (sAsg (dCall 4 m_read_items (aCons (dVar 0) (aCons (dC (.fn 0)) (aCons (dC (.int 1)) (aCons (dC (.int 31)) aNil))))) (tgT [1, 2])) (sSeq (sIf (asB (dOp opEq (dVar 1) (dC (.int 0)))) (sRet (dVar 2)) sNil) (sRet (dOp opAdd (dO (oLst (aCons (dMake 1 1 i_Numbers (aCons (dVar 1) aNil)) aNil))) (dVar 2))))))
def m_read_days : List D → Option D := runD 3 (m_read_days_b)
theorem sc_m_read_days : FnScope sm_read_days_N ["text"] (defScope (topS 61)) := ⟨rfl, rfl, rfl, by decide +kernel, rfl, by decide +kernel, by decide +kernel⟩
theorem ok_m_read_days {f : Addr} {fd : FuncData} (F : DFun K "read_days" "read_days" (topS 61) f fd) (C_read_items : Cal P w K mg base "read_items" 7 ["text", "marked", "low", "high"] (spD K c 4 m_read_items)) (K_Numbers : Mak P w K mg base c "Numbers" 1 1 1 i_Numbers) (v_day_mark : mg "day_mark" = some (.ref (c.fn 0))) :
    FnOk P w K mg base CX0 8 f fd ["text"] (spD K c 1 (m_read_days)) := by
  have S := sc_m_read_days
  refine okD' (n := 3) (m := 1) (B := m_read_days_b) F S rfl rfl rfl fun cdv A outer s H E hr => ?_
  exact (ss_cons (s_if (d_tcmp (opD_eq hr) (d_var 0) d_str) (ss_one (s_ret d_non)) ss_nil) (ss_cons (s_asg (d_call C_read_items hr (by decide) (a_cons (d_var 0) (a_cons (d_fnv (i := 0) v_day_mark) (a_cons d_int (a_cons d_int a_nil))))) (g_tup (is := [1, 2]) rfl (gs_cons (i := 1) S.nd (gs_cons (i := 2) S.nd gs_nil)))) (ss_cons (s_if (d_tcmp (opD_eq hr) (d_var 1) d_int) (ss_one (s_ret (d_var 2))) ss_nil) (ss_one (s_ret (d_op opD_add (d_ofO (o_lst (a_cons (d_make K_Numbers hr (by decide) (a_cons (d_var 1) a_nil)) a_nil))) (d_var 2)))))))
abbrev sm_read_weekdays_N : List Str := ["text", "mask", "marks"]
def m_read_weekdays_b : DS := (sSeq (sIf (asB (dOp opEq (dVar 0) (dC (.str "*")))) (sRet (dC .non)) sNil) (sSeq (sAsg (dCall 4 m_read_items (aCons (dVar 0) (aCons (dC (.fn 1)) (aCons (dC (.int 0)) (aCons (dC (.int 7)) aNil))))) (tgT [1, 2])) (sSeq (sAsg (dOp opOr (dOp opAnd (dVar 1) (dC (.int 127))) (dOp opShr (dVar 1) (dC (.int 7)))) (tgN 1)) (sSeq (sIf (asB (dOp opEq (dVar 1) (dC (.int 0)))) (sRet (dVar 2)) sNil) (sRet (dOp opAdd (dO (oLst (aCons (dMake 5 1 i_Weekdays (aCons (dVar 1) aNil)) aNil))) (dVar 2)))))))
def m_read_weekdays : List D → Option D := runD 3 (m_read_weekdays_b)
theorem sc_m_read_weekdays : FnScope sm_read_weekdays_N ["text"] (defScope (topS 62)) := ⟨rfl, rfl, rfl, by decide +kernel, rfl, by decide +kernel, by decide +kernel⟩
theorem ok_m_read_weekdays {f : Addr} {fd : FuncData} (F : DFun K "read_weekdays" "read_weekdays" (topS 62) f fd) (C_read_items : Cal P w K mg base "read_items" 7 ["text", "marked", "low", "high"] (spD K c 4 m_read_items)) (K_Weekdays : Mak P w K mg base c "Weekdays" 5 1 1 i_Weekdays) (v_weekday_mark : mg "weekday_mark" = some (.ref (c.fn 1))) :
    FnOk P w K mg base CX0 8 f fd ["text"] (spD K c 1 (m_read_weekdays)) := by
  have S := sc_m_read_weekdays
  refine okD' (n := 3) (m := 1) (B := m_read_weekdays_b) F S rfl rfl rfl fun cdv A outer s H E hr => ?_
  exact (ss_cons (s_if (d_tcmp (opD_eq hr) (d_var 0) d_str) (ss_one (s_ret d_non)) ss_nil) (ss_cons (s_asg (d_call C_read_items hr (by decide) (a_cons (d_var 0) (a_cons (d_fnv (i := 1) v_weekday_mark) (a_cons d_int (a_cons d_int a_nil))))) (g_tup (is := [1, 2]) rfl (gs_cons (i := 1) S.nd (gs_cons (i := 2) S.nd gs_nil)))) (ss_cons (s_set (i := 1) S.nd (d_op opD_or (d_op opD_and (d_var 1) d_int) (d_op opD_shr (d_var 1) d_int))) (ss_cons (s_if (d_tcmp (opD_eq hr) (d_var 1) d_int) (ss_one (s_ret (d_var 2))) ss_nil) (ss_one (s_ret (d_op opD_add (d_ofO (o_lst (a_cons (d_make K_Weekdays hr (by decide) (a_cons (d_var 1) a_nil)) a_nil))) (d_var 2))))))))
abbrev sm_Row___init___N : List Str := ["self", "minutes", "hours", "days", "months", "weekdays"]
def as_Row : List IStep := [.sto "minute_mask" (dVar 1), .sto "hour_mask" (dVar 2), .sto "day_marks" (dVar 3), .sto "month_mask" (dVar 4), .sto "weekday_marks" (dVar 5)]
def i_Row : List D → Option (List D) := some
theorem hF_Row (y : Addr) (ds fs : List D) (hl : ds.length = 5) (e : i_Row ds = some fs) : noOwn (startD 6 (.raw (.ref y) :: ds)) = true ∧ evalI y false as_Row (startD 6 (.raw (.ref y) :: ds)) = some fs := by
  match ds, hl with
  | [a, b, d, u, g], _ =>
    cases e
    exact ⟨rfl, (ev_sto (f := "minute_mask") rfl (by decide +kernel) rfl (ev_sto (f := "hour_mask") rfl (by decide +kernel) rfl (ev_sto (f := "day_marks") rfl (by decide +kernel) rfl (ev_sto (f := "month_mask") rfl (by decide +kernel) rfl (ev_sto (f := "weekday_marks") rfl (by decide +kernel) rfl ev_nil)))))⟩
theorem sc_m_Row___init__ : FnScope sm_Row___init___N ["self", "minutes", "hours", "days", "months", "weekdays"] (defScope (inClass (topS 71) 0)) := ⟨rfl, rfl, rfl, by decide +kernel, rfl, by decide +kernel, by decide +kernel⟩
theorem ok_m_Row___init__ (hnm : c.nm 0 = nmF 0) {f : Addr} {fd : FuncData} (F : DFun K "__init__" "Row.__init__" (inClass (topS 71) 0) f fd) (hp0 : c.pl []) (hpl : ∀ f : Str, f ≠ kT → ∀ fs v, c.pl fs → c.pl (putF f v fs)) (hC : Cls K (c.cl 0)) (A_minute_mask : NoAttr K (c.cl 0) "minute_mask") (A_hour_mask : NoAttr K (c.cl 0) "hour_mask") (A_day_marks : NoAttr K (c.cl 0) "day_marks") (A_month_mask : NoAttr K (c.cl 0) "month_mask") (A_weekday_marks : NoAttr K (c.cl 0) "weekday_marks") :
    FnOk P w K mg base CX0 1 f fd ["self", "minutes", "hours", "days", "months", "weekdays"] (spI K c 0 5 i_Row) := by
  have S := sc_m_Row___init__
  refine okI (as := as_Row) (nn := 6) F S rfl rfl hnm.symm (by first | (rw [hnm]; decide +kernel) | exact (show (nmF 9).Nodup by decide +kernel)) (by first | (rw [hnm]; decide) | exact (show (nmF 9).length < 1000 by decide)) hp0 hF_Row fun cdv A outer s H E hr => ?_
  exact (ii_sto (d_var 1) hC A_minute_mask (ii_sto (d_var 2) hC A_hour_mask (ii_sto (d_var 3) hC A_day_marks (ii_sto (d_var 4) hC A_month_mask (ii_sto (d_var 5) hC A_weekday_marks ii_nil (hpl _ (by decide +kernel))) (hpl _ (by decide +kernel))) (hpl _ (by decide +kernel))) (hpl _ (by decide +kernel))) (hpl _ (by decide +kernel)))
abbrev sm_Row_months_N : List Str := ["self"]
def m_Row_months_b : DS := (sRet (dFld at_month_mask (dVar 0)))
def m_Row_months : List D → Option D := runD 1 (m_Row_months_b)
theorem sc_m_Row_months : FnScope sm_Row_months_N ["self"] (defScope (inClass (topS 71) 3)) := ⟨rfl, rfl, rfl, by decide +kernel, rfl, by decide +kernel, by decide +kernel⟩
theorem ok_m_Row_months {f : Addr} {fd : FuncData} (F : DFun K "months" "Row.months" (inClass (topS 71) 3) f fd) (f_month_mask : FldOk K c "month_mask" at_month_mask) :
    FnOk P w K mg base CX0 1 f fd ["self"] (spD K c 1 (m_Row_months)) := by
  have S := sc_m_Row_months
  refine okD' (n := 1) (m := 1) (B := m_Row_months_b) F S rfl rfl rfl fun cdv A outer s H E hr => ?_
  exact (ss_one (s_ret (d_fld f_month_mask (d_var 0))))
def t_months : Nat → Option (List D → Option D)
  | 0 => some m_Row_months
  | _ => none
abbrev sm_Row_times_N : List Str := ["self", "found", "hour"]
def m_Row_times_b : DS := (sSeq (sAsg (dC (.int 0)) (tgN 1)) (sSeq (sFor (itE (dCall 1 m_numbers_in (aCons (dFld at_hour_mask (dVar 0)) aNil))) (tgN 2) (sAsg (dOp opOr (dVar 1) (dOp opShl (dFld at_minute_mask (dVar 0)) (dOp opMul (dC k_MINUTES_rows) (dVar 2)))) (tgN 1))) (sRet (dVar 1))))
def m_Row_times : List D → Option D := runD 3 (m_Row_times_b)
theorem sc_m_Row_times : FnScope sm_Row_times_N ["self"] (defScope (inClass (topS 71) 4)) := ⟨rfl, rfl, rfl, by decide +kernel, rfl, by decide +kernel, by decide +kernel⟩
theorem ok_m_Row_times {f : Addr} {fd : FuncData} (F : DFun K "times" "Row.times" (inClass (topS 71) 4) f fd) (C_numbers_in : Cal P w K mg base "numbers_in" 1 ["mask"] (spD K c 1 m_numbers_in)) (g_MINUTES_rows : GlobD K c mg "MINUTES_rows" k_MINUTES_rows) (f_hour_mask : FldOk K c "hour_mask" at_hour_mask) (f_minute_mask : FldOk K c "minute_mask" at_minute_mask) :
    FnOk P w K mg base CX0 2 f fd ["self"] (spD K c 1 (m_Row_times)) := by
  have S := sc_m_Row_times
  refine okD' (n := 3) (m := 1) (B := m_Row_times_b) F S rfl rfl rfl fun cdv A outer s H E hr => ?_
  exact (ss_cons (s_set (i := 1) S.nd d_int) (ss_cons (s_for PassesOwn.never rfl (it_e (d_call C_numbers_in hr (by decide) (a_cons (d_fld f_hour_mask (d_var 0)) a_nil))) (g_name (i := 2) S.nd) (ss_one (s_set (i := 1) S.nd (d_op opD_or (d_var 1) (d_op opD_shl (d_fld f_minute_mask (d_var 0)) (d_op opD_mul (d_glob g_MINUTES_rows) (d_var 2))))))) (ss_one (s_ret (d_var 1)))))
def t_times : Nat → Option (List D → Option D)
  | 0 => some m_Row_times
  | _ => none
abbrev sm_Row_days_in_N : List Str := ["self", "kind", "month", "last", "first", "found", "marks"]
def m_Row_days_in_b : DS := (sSeq (sAsg (dCall 1 m_month_at (aCons (dVar 1) aNil)) (tgT [2, 3, 4])) (sSeq (sIf (asB (dOp opEq (dOp opAnd (dOp opShr (dFld at_month_mask (dVar 0)) (dVar 2)) (dC (.int 1))) (dC (.int 0)))) (sRet (dC (.int 0))) sNil) (sSeq (sIf (dAndT (asB (dOp opIsN (dFld at_day_marks (dVar 0)) (dC .non))) (asB (dOp opIsN (dFld at_weekday_marks (dVar 0)) (dC .non)))) (sRet (dOp opSub (dOp opShl (dC (.int 1)) (dOp opAdd (dVar 3) (dC (.int 1)))) (dC (.int 2)))) sNil) (sSeq (sAsg (dC (.int 0)) (tgN 5)) (sSeq (sFor (itE (dTup (aCons (dFld at_day_marks (dVar 0)) (aCons (dFld at_weekday_marks (dVar 0)) aNil)))) (tgN 6) (sIf (asB (dOp opNotN (dVar 6) (dC .non))) (sAsg (dOp opOr (dVar 5) (dCall 3 m_any_days (aCons (dVar 6) (aCons (dVar 3) (aCons (dVar 4) aNil))))) (tgN 5)) sNil)) (sRet (dVar 5)))))))
def m_Row_days_in : List D → Option D := runD 7 (m_Row_days_in_b)
theorem sc_m_Row_days_in : FnScope sm_Row_days_in_N ["self", "kind"] (defScope (inClass (topS 71) 5)) := ⟨rfl, rfl, rfl, by decide +kernel, rfl, by decide +kernel, by decide +kernel⟩
theorem ok_m_Row_days_in {f : Addr} {fd : FuncData} (F : DFun K "days_in" "Row.days_in" (inClass (topS 71) 5) f fd) (C_month_at : Cal P w K mg base "month_at" 3 ["kind"] (spD K c 1 m_month_at)) (C_any_days : Cal P w K mg base "any_days" 3 ["marks", "last", "first"] (spD K c 3 m_any_days)) (f_month_mask : FldOk K c "month_mask" at_month_mask) (f_day_marks : FldOk K c "day_marks" at_day_marks) (f_weekday_marks : FldOk K c "weekday_marks" at_weekday_marks) :
    FnOk P w K mg base CX0 4 f fd ["self", "kind"] (spD K c 2 (m_Row_days_in)) := by
  have S := sc_m_Row_days_in
  refine okD' (n := 7) (m := 2) (B := m_Row_days_in_b) F S rfl rfl rfl fun cdv A outer s H E hr => ?_
  exact (ss_cons (s_asg (d_call C_month_at hr (by decide) (a_cons (d_var 1) a_nil)) (g_tup (is := [2, 3, 4]) rfl (gs_cons (i := 2) S.nd (gs_cons (i := 3) S.nd (gs_cons (i := 4) S.nd gs_nil))))) (ss_cons (s_if (d_tcmp (opD_eq hr) (d_op opD_and (d_op opD_shr (d_fld f_month_mask (d_var 0)) (d_var 2)) d_int) d_int) (ss_one (s_ret d_int)) ss_nil) (ss_cons (s_if (PW.pt (d_wand (d_tcmp opD_isN (d_fld f_day_marks (d_var 0)) d_non) (d_wand1 (d_tcmp opD_isN (d_fld f_weekday_marks (d_var 0)) d_non)))) (ss_one (s_ret (d_op opD_sub (d_op opD_shl d_int (d_op opD_add (d_var 3) d_int)) d_int))) ss_nil) (ss_cons (s_set (i := 5) S.nd d_int) (ss_cons (s_for PassesOwn.never rfl (it_e (d_tup (a_cons (d_fld f_day_marks (d_var 0)) (a_cons (d_fld f_weekday_marks (d_var 0)) a_nil)))) (g_name (i := 6) S.nd) (ss_one (s_if (d_tcmp opD_notN (d_var 6) d_non) (ss_one (s_set (i := 5) S.nd (d_op opD_or (d_var 5) (d_call C_any_days hr (by decide) (a_cons (d_var 6) (a_cons (d_var 3) (a_cons (d_var 4) a_nil))))))) ss_nil))) (ss_one (s_ret (d_var 5))))))))
def t_days_in : Nat → Option (List D → Option D)
  | 0 => some m_Row_days_in
  | _ => none
abbrev sm_words_of_N : List Str := ["text", "words"]
def m_words_of_b : DS := (sSeq (sIf (dOrT (dNotT (asB (dIsi (isiB "str") (dVar 0)))) (asB (dOp opGt (dBu bLen (aCons (dVar 0) aNil)) (dC k_MOST_SIGNS_rows)))) sNever sNil) (sSeq (sAsg (dO (oOp bSplit (dVar 0) (dC (.str " ")))) (tgN 1)) (sSeq (sIf (dOrT (asB (dOp opNe (dBu bLen (aCons (dVar 1) aNil)) (dC (.int 5)))) (asB (dOp opIn (dC (.str "")) (dVar 1)))) sNever sNil) (sRet (dVar 1)))))
def m_words_of : List D → Option D := runD 2 (m_words_of_b)
theorem sc_m_words_of : FnScope sm_words_of_N ["text"] (defScope (topS 72)) := ⟨rfl, rfl, rfl, by decide +kernel, rfl, by decide +kernel, by decide +kernel⟩
theorem ok_m_words_of {f : Addr} {fd : FuncData} (F : DFun K "words_of" "words_of" (topS 72) f fd) (g_MOST_SIGNS_rows : GlobD K c mg "MOST_SIGNS_rows" k_MOST_SIGNS_rows) (n_isinstance : mg "isinstance" = none) (n_str : mg "str" = none) (n_len : mg "len" = none) :
    FnOk P w K mg base CX0 1 f fd ["text"] (spD K c 1 (m_words_of)) := by
  have S := sc_m_words_of
  refine okD' (n := 2) (m := 1) (B := m_words_of_b) F S rfl rfl rfl fun cdv A outer s H E hr => ?_
  exact (ss_cons (s_if (PW.pt (d_wor (d_tnot (d_test (d_isiB (n := "str") n_isinstance n_str (by decide +kernel) (d_var 0)))) (d_wor1 (d_tcmp opD_gt (d_callB bu_len n_len (a_cons (d_var 0) a_nil)) (d_glob g_MOST_SIGNS_rows))))) (ss_one s_never) ss_nil) (ss_cons (s_set (i := 1) S.nd (d_ofO (o_split (d_var 0) d_str))) (ss_cons (s_if (PW.pt (d_wor (d_tcmp (opD_ne hr) (d_callB bu_len n_len (a_cons (d_var 1) a_nil)) d_int) (d_wor1 (d_tcmp opD_in d_str (d_var 1))))) (ss_one s_never) ss_nil) (ss_one (s_ret (d_var 1))))))
abbrev sm_field_at_N : List Str := ["words", "place", "word"]
def m_field_at_b : DS := (sSeq (sAsg (dOp opIx (dVar 0) (dVar 1)) (tgN 2)) (sSeq (sIf (asB (dOp opEq (dVar 1) (dC (.int 0)))) (sRet (dCall 3 m_read_field (aCons (dVar 2) (aCons (dC (.int 0)) (aCons (dOp opSub (dC k_MINUTES_rows) (dC (.int 1))) aNil))))) sNil) (sSeq (sIf (asB (dOp opEq (dVar 1) (dC (.int 1)))) (sRet (dCall 3 m_read_field (aCons (dVar 2) (aCons (dC (.int 0)) (aCons (dOp opSub (dC k_HOURS) (dC (.int 1))) aNil))))) sNil) (sSeq (sIf (asB (dOp opEq (dVar 1) (dC (.int 2)))) (sRet (dCall 1 m_read_days (aCons (dVar 2) aNil))) sNil) (sSeq (sIf (asB (dOp opEq (dVar 1) (dC (.int 3)))) (sRet (dCall 3 m_read_field (aCons (dVar 2) (aCons (dC (.int 1)) (aCons (dC (.int 12)) aNil))))) sNil) (sRet (dCall 1 m_read_weekdays (aCons (dVar 2) aNil))))))))
def m_field_at : List D → Option D := runD 3 (m_field_at_b)
theorem sc_m_field_at : FnScope sm_field_at_N ["words", "place"] (defScope (topS 73)) := ⟨rfl, rfl, rfl, by decide +kernel, rfl, by decide +kernel, by decide +kernel⟩
theorem ok_m_field_at {f : Addr} {fd : FuncData} (F : DFun K "field_at" "field_at" (topS 73) f fd) (C_read_field : Cal P w K mg base "read_field" 5 ["text", "low", "high"] (spD K c 3 m_read_field)) (C_read_days : Cal P w K mg base "read_days" 8 ["text"] (spD K c 1 m_read_days)) (C_read_weekdays : Cal P w K mg base "read_weekdays" 8 ["text"] (spD K c 1 m_read_weekdays)) (g_MINUTES_rows : GlobD K c mg "MINUTES_rows" k_MINUTES_rows) (g_HOURS : GlobD K c mg "HOURS" k_HOURS) :
    FnOk P w K mg base CX0 9 f fd ["words", "place"] (spD K c 2 (m_field_at)) := by
  have S := sc_m_field_at
  refine okD' (n := 3) (m := 2) (B := m_field_at_b) F S rfl rfl rfl fun cdv A outer s H E hr => ?_
  exact (ss_cons (s_set (i := 2) S.nd (d_ix (d_var 0) (d_var 1))) (ss_cons (s_if (d_tcmp (opD_eq hr) (d_var 1) d_int) (ss_one (s_ret (d_call C_read_field hr (by decide) (a_cons (d_var 2) (a_cons d_int (a_cons (d_op opD_sub (d_glob g_MINUTES_rows) d_int) a_nil)))))) ss_nil) (ss_cons (s_if (d_tcmp (opD_eq hr) (d_var 1) d_int) (ss_one (s_ret (d_call C_read_field hr (by decide) (a_cons (d_var 2) (a_cons d_int (a_cons (d_op opD_sub (d_glob g_HOURS) d_int) a_nil)))))) ss_nil) (ss_cons (s_if (d_tcmp (opD_eq hr) (d_var 1) d_int) (ss_one (s_ret (d_call C_read_days hr (by decide) (a_cons (d_var 2) a_nil)))) ss_nil) (ss_cons (s_if (d_tcmp (opD_eq hr) (d_var 1) d_int) (ss_one (s_ret (d_call C_read_field hr (by decide) (a_cons (d_var 2) (a_cons d_int (a_cons d_int a_nil)))))) ss_nil) (ss_one (s_ret (d_call C_read_weekdays hr (by decide) (a_cons (d_var 2) a_nil)))))))))
abbrev sm_read_row_N : List Str := ["text", "words", "fields", "place"]
def m_read_row_b : DS := (sSeq (sAsg (dCall 1 m_words_of (aCons (dVar 0) aNil)) (tgN 1)) (sSeq (sAsgO (oLst aNil) 2) (sSeq (sFor (itR1 (aCons (dC (.int 5)) aNil)) (tgN 3) (sApp 2 (dCall 2 m_field_at (aCons (dVar 1) (aCons (dVar 3) aNil))))) (sRet (dMake 0 5 i_Row (aCons (dOwnIx 2 (dC (.int 0))) (aCons (dOwnIx 2 (dC (.int 1))) (aCons (dOwnIx 2 (dC (.int 2))) (aCons (dOwnIx 2 (dC (.int 3))) (aCons (dOwnIx 2 (dC (.int 4))) aNil))))))))))
def m_read_row : List D → Option D := runD 4 (m_read_row_b)
theorem sc_m_read_row : FnScope sm_read_row_N ["text"] (defScope (topS 74)) := ⟨rfl, rfl, rfl, by decide +kernel, rfl, by decide +kernel, by decide +kernel⟩
theorem ok_m_read_row {f : Addr} {fd : FuncData} (F : DFun K "read_row" "read_row" (topS 74) f fd) (C_words_of : Cal P w K mg base "words_of" 1 ["text"] (spD K c 1 m_words_of)) (C_field_at : Cal P w K mg base "field_at" 9 ["words", "place"] (spD K c 2 m_field_at)) (K_Row : Mak P w K mg base c "Row" 0 1 5 i_Row) (n_range : mg "range" = none) :
    FnOk P w K mg base CX0 10 f fd ["text"] (spD K c 1 (m_read_row)) := by
  have S := sc_m_read_row
  refine okD' (n := 4) (m := 1) (B := m_read_row_b) F S rfl rfl rfl fun cdv A outer s H E hr => ?_
  exact (ss_cons (s_set (i := 1) S.nd (d_call C_words_of hr (by decide) (a_cons (d_var 0) a_nil))) (ss_cons (s_setO (i := 2) S.nd (o_lst a_nil)) (ss_cons (s_for PassesOwn.never rfl (it_r1 n_range (a_cons d_int a_nil)) (g_name (i := 3) S.nd) (ss_one (s_tryN (fun _ _ h => h) (ss_one (s_app 2 (d_call C_field_at hr (by decide) (a_cons (d_var 1) (a_cons (d_var 3) a_nil)))))))) (ss_one (s_ret (d_make K_Row hr (by decide) (a_cons (d_ownIx 2 d_int) (a_cons (d_ownIx 2 d_int) (a_cons (d_ownIx 2 d_int) (a_cons (d_ownIx 2 d_int) (a_cons (d_ownIx 2 d_int) a_nil)))))))))))
abbrev sm_all_times_N : List Str := []
def m_all_times_b : DS := (sRet (dOp opSub (dOp opShl (dC (.int 1)) (dC k_MINUTES_books)) (dC (.int 1))))
def m_all_times : List D → Option D := runD 0 (m_all_times_b)
theorem sc_m_all_times : FnScope sm_all_times_N [] (defScope (topS 80)) := ⟨rfl, rfl, rfl, by decide +kernel, rfl, by decide +kernel, by decide +kernel⟩
theorem ok_m_all_times {f : Addr} {fd : FuncData} (F : DFun K "all_times" "all_times" (topS 80) f fd) (g_MINUTES_books : GlobD K c mg "MINUTES_books" k_MINUTES_books) :
    FnOk P w K mg base CX0 1 f fd [] (spD K c 0 (m_all_times)) := by
  have S := sc_m_all_times
  refine okD' (n := 0) (m := 0) (B := m_all_times_b) F S rfl rfl rfl fun cdv A outer s H E hr => ?_
  exact (ss_one (s_ret (d_op opD_sub (d_op opD_shl d_int (d_glob g_MINUTES_books)) d_int)))
abbrev sm_days_of_N : List Str := ["kind"]
def m_days_of_b : DS := (sRet (dOp opIx (dCall 1 m_month_at (aCons (dVar 0) aNil)) (dC (.int 1))))
def m_days_of : List D → Option D := runD 1 (m_days_of_b)
theorem sc_m_days_of : FnScope sm_days_of_N ["kind"] (defScope (topS 81)) := ⟨rfl, rfl, rfl, by decide +kernel, rfl, by decide +kernel, by decide +kernel⟩
theorem ok_m_days_of {f : Addr} {fd : FuncData} (F : DFun K "days_of" "days_of" (topS 81) f fd) (C_month_at : Cal P w K mg base "month_at" 3 ["kind"] (spD K c 1 m_month_at)) :
    FnOk P w K mg base CX0 4 f fd ["kind"] (spD K c 1 (m_days_of)) := by
  have S := sc_m_days_of
  refine okD' (n := 1) (m := 1) (B := m_days_of_b) F S rfl rfl rfl fun cdv A outer s H E hr => ?_
  exact (ss_one (s_ret (d_ix (d_call C_month_at hr (by decide) (a_cons (d_var 0) a_nil)) d_int)))
abbrev sm_need_book_N : List Str := ["book"]
def m_need_book_b : DS := (sIf (dNotT (asB (dIsi isiBook (dVar 0)))) sNever sNil)
def m_need_book : List D → Option D := runD 1 (m_need_book_b)
theorem sc_m_need_book : FnScope sm_need_book_N ["book"] (defScope (topS 82)) := ⟨rfl, rfl, rfl, by decide +kernel, rfl, by decide +kernel, by decide +kernel⟩
theorem ok_m_need_book {f : Addr} {fd : FuncData} (F : DFun K "need_book" "need_book" (topS 82) f fd) (x_Book : mg "Book" = some (.ref (c.cl 8))) (q_Book : IsiOk K c (.ref (c.cl 8)) isiBook) (n_isinstance : mg "isinstance" = none) :
    FnOk P w K mg base CX0 1 f fd ["book"] (spD K c 1 (m_need_book)) := by
  have S := sc_m_need_book
  refine okD' (n := 1) (m := 1) (B := m_need_book_b) F S rfl rfl rfl fun cdv A outer s H E hr => ?_
  exact (ss_one (s_if (d_tnot (d_test (d_isiC (n := 8) n_isinstance x_Book q_Book (d_var 0)))) (ss_one s_never) ss_nil))
abbrev sm_Book_on_days_N : List Str := ["self", "kind", "day"]
def m_Book_on_days_b : DS := (sRet (dO (oLc (itR1 (aCons (dCall 1 m_days_of (aCons (dVar 1) aNil)) aNil)) (tgN 2) tTrue (dC (.int 0)) [2])))
def m_Book_on_days : List D → Option D := runD 3 (m_Book_on_days_b)
theorem sc_m_Book_on_days : FnScope sm_Book_on_days_N ["self", "kind"] (defScope (inClass (topS 85) 1)) := ⟨rfl, rfl, rfl, by decide +kernel, rfl, by decide +kernel, by decide +kernel⟩
theorem ok_m_Book_on_days {f : Addr} {fd : FuncData} (F : DFun K "on_days" "Book.on_days" (inClass (topS 85) 1) f fd) (C_days_of : Cal P w K mg base "days_of" 4 ["kind"] (spD K c 1 m_days_of)) (n_range : mg "range" = none) :
    FnOk P w K mg base CX0 5 f fd ["self", "kind"] (spD K c 2 (m_Book_on_days)) := by
  have S := sc_m_Book_on_days
  refine okD' (n := 3) (m := 2) (B := m_Book_on_days_b) F S rfl rfl rfl fun cdv A outer s H E hr => ?_
  exact (ss_one (s_ret (d_ofO (o_lc (own := [("day", 2)]) rfl S.nd (it_r1 n_range (a_cons (d_call C_days_of hr (by decide) (a_cons (d_var 1) a_nil)) a_nil)) (blkOk_by (own := [("day", 2)]) (N := sm_Book_on_days_N) (sc := defScope (inClass (topS 85) 1)) (by decide +kernel)) (tgN_in (by decide)) (fun _ _ _ _ _ => (g_name (i := 2) S.nd)) (fun _ _ _ _ _ => ts_nil) (fun _ _ _ _ _ => d_int)))))
abbrev sm_Book_tally_N : List Str := ["self"]
def m_Book_tally_b : DS := (sRet (dC (.int 1)))
def m_Book_tally : List D → Option D := runD 1 (m_Book_tally_b)
theorem sc_m_Book_tally : FnScope sm_Book_tally_N ["self"] (defScope (inClass (topS 85) 2)) := ⟨rfl, rfl, rfl, by decide +kernel, rfl, by decide +kernel, by decide +kernel⟩
theorem ok_m_Book_tally {f : Addr} {fd : FuncData} (F : DFun K "tally" "Book.tally" (inClass (topS 85) 2) f fd)  :
    FnOk P w K mg base CX0 1 f fd ["self"] (spD K c 1 (m_Book_tally)) := by
  have S := sc_m_Book_tally
  refine okD' (n := 1) (m := 1) (B := m_Book_tally_b) F S rfl rfl rfl fun cdv A outer s H E hr => ?_
  exact (ss_one (s_ret d_int))
abbrev sm_Book_depth_N : List Str := ["self"]
def m_Book_depth_b : DS := (sRet (dC (.int 1)))
def m_Book_depth : List D → Option D := runD 1 (m_Book_depth_b)
theorem sc_m_Book_depth : FnScope sm_Book_depth_N ["self"] (defScope (inClass (topS 85) 3)) := ⟨rfl, rfl, rfl, by decide +kernel, rfl, by decide +kernel, by decide +kernel⟩
theorem ok_m_Book_depth {f : Addr} {fd : FuncData} (F : DFun K "depth" "Book.depth" (inClass (topS 85) 3) f fd)  :
    FnOk P w K mg base CX0 1 f fd ["self"] (spD K c 1 (m_Book_depth)) := by
  have S := sc_m_Book_depth
  refine okD' (n := 1) (m := 1) (B := m_Book_depth_b) F S rfl rfl rfl fun cdv A outer s H E hr => ?_
  exact (ss_one (s_ret d_int))
abbrev sm_Of___init___N : List Str := ["self", "row"]
def as_Of : List IStep := [.chk (sIf (dNotT (asB (dIsi isiRow (dVar 1)))) sNever sNil), .sto kR (dVar 1), .sto "told_times" (dMeth 0 t_times (dVar 1) aNil), .hid]
def i_Of : List D → Option (List D)
  | [.ins 0 fs] => if rig (.ins 0 fs) then (m_Row_times [.ins 0 fs]).map fun t => [.ins 0 fs, t, .any] else none
  | _ => none
theorem hF_Of (y : Addr) (ds fs : List D) (hl : ds.length = 1) (e : i_Of ds = some fs) : noOwn (startD 2 (.raw (.ref y) :: ds)) = true ∧ evalI y false as_Of (startD 2 (.raw (.ref y) :: ds)) = some fs := by
  match ds, hl with
  | [a], _ =>
    unfold i_Of at e
    split at e
    case h_2 => cases e
    rename_i fs0 _ he
    cases he
    split at e
    case isFalse => cases e
    rename_i rg
    obtain ⟨t, e1, rfl⟩ := Option.map_eq_some_iff.mp e
    exact ⟨rfl, ev_chk rfl rfl (ev_row rfl rfl rg (ev_sto rfl (by decide +kernel) e1 (ev_hid rfl)))⟩
theorem sc_m_Of___init__ : FnScope sm_Of___init___N ["self", "row"] (defScope (inClass (topS 86) 0)) := ⟨rfl, rfl, rfl, by decide +kernel, rfl, by decide +kernel, by decide +kernel⟩
theorem ok_m_Of___init__ {cl : Nat → Addr} {fn : Nat → Addr} {dayF : D → Int → Int → Option Int} {f : Addr} {fd : FuncData} (F : DFun K "__init__" "Of.__init__" (inClass (topS 86) 0) f fd) (hpl : ∀ f : Str, f ≠ kT → ∀ fs v, (cfB K cl nmF fn dayF).pl fs → (cfB K cl nmF fn dayF).pl (putF f v fs)) (hC : Cls K ((cfB K cl nmF fn dayF).cl 9)) (A_row : NoAttr K ((cfB K cl nmF fn dayF).cl 9) "row") (A_told_times : NoAttr K ((cfB K cl nmF fn dayF).cl 9) "told_times") (A_told_days : NoAttr K ((cfB K cl nmF fn dayF).cl 9) kT) (M_times : MCal P w K mg base (cfB K cl nmF fn dayF) "times" 2 0 t_times) (x_Row : mg "Row" = some (.ref ((cfB K cl nmF fn dayF).cl 0))) (q_Row : IsiOk K (cfB K cl nmF fn dayF) (.ref ((cfB K cl nmF fn dayF).cl 0)) isiRow) (n_isinstance : mg "isinstance" = none) :
    FnOk P w K mg base CX0 3 f fd ["self", "row"] (spI K (cfB K cl nmF fn dayF) 9 1 i_Of) := by
  have S := sc_m_Of___init__
  refine okI (as := as_Of) (nn := 2) F S rfl rfl rfl (by first | (rw [hnm]; decide +kernel) | exact (show (nmF 9).Nodup by decide +kernel)) (by first | (rw [hnm]; decide) | exact (show (nmF 9).length < 1000 by decide)) rfl hF_Of fun cdv A outer s H E hr => ?_
  exact (ii_chk (s_if (d_tnot (d_test (d_isiC (n := 0) n_isinstance x_Row q_Row (d_var 1)))) (ss_one s_never) ss_nil) (ii_sto (d_var 1) hC A_row (ii_sto (d_meth0 M_times hr (by decide) (d_var 1)) hC A_told_times (ii_hid hC A_told_days) (hpl _ (by decide +kernel))) (hpl _ (by decide +kernel))))
abbrev sm_Of_on_days_N : List Str := ["self", "kind", "month", "last", "first", "days", "day"]
def m_Of_on_days_b : DS := (sSeq (sAsg (dCall 1 m_month_at (aCons (dVar 1) aNil)) (tgT [2, 3, 4])) (sSeq (sIf (asB (dOp opEq (dOp opAnd (dOp opShr (dMeth 0 t_months (dFld at_row (dVar 0)) aNil) (dVar 2)) (dC (.int 1))) (dC (.int 0)))) (sRet (dO (oLc (itR1 (aCons (dVar 3) aNil)) (tgN 6) tTrue (dC (.int 0)) [6]))) sNil) (sSeq (sCache dayB 0 3 4 5 (dMeth 1 t_days_in (dFld at_row (dVar 0)) (aCons (dVar 1) aNil))) (sRet (dO (oLc (itR2 (aCons (dC (.int 1)) (aCons (dOp opAdd (dVar 3) (dC (.int 1))) aNil))) (tgN 6) tTrue (dOp opMul (dFld at_told_times (dVar 0)) (dOp opAnd (dOp opShr (dVar 5) (dVar 6)) (dC (.int 1)))) [6]))))))
def m_Of_on_days : List D → Option D := runD 7 (m_Of_on_days_b)
theorem sc_m_Of_on_days : FnScope sm_Of_on_days_N ["self", "kind"] (defScope (inClass (topS 86) 2)) := ⟨rfl, rfl, rfl, by decide +kernel, rfl, by decide +kernel, by decide +kernel⟩
theorem ok_m_Of_on_days {cl : Nat → Addr} {fn : Nat → Addr} (hinj : ∀ i j, cl i = cl j → i = j) (hC : Cls K (cl 9)) (A_told_days : NoAttr K (cl 9) kT) {f : Addr} {fd : FuncData} (F : DFun K "on_days" "Of.on_days" (inClass (topS 86) 2) f fd) (C_month_at : Cal P w K mg base "month_at" 3 ["kind"] (spD K (cfB K cl nmF fn dayB) 1 m_month_at)) (M_months : MCal P w K mg base (cfB K cl nmF fn dayB) "months" 1 0 t_months) (M_days_in : MCal P w K mg base (cfB K cl nmF fn dayB) "days_in" 5 1 t_days_in) (n_range : mg "range" = none) (f_row : FldOk K (cfB K cl nmF fn dayB) "row" at_row) (f_told_times : FldOk K (cfB K cl nmF fn dayB) "told_times" at_told_times) :
    FnOk P w K mg base CX0 6 f fd ["self", "kind"] (spD K (cfB K cl nmF fn dayB) 2 (m_Of_on_days)) := by
  have S := sc_m_Of_on_days
  refine okD' (n := 7) (m := 2) (B := m_Of_on_days_b) F S rfl rfl rfl fun cdv A outer s H E hr => ?_
  exact (ss_cons (s_asg (d_call C_month_at hr (by decide) (a_cons (d_var 1) a_nil)) (g_tup (is := [2, 3, 4]) rfl (gs_cons (i := 2) S.nd (gs_cons (i := 3) S.nd (gs_cons (i := 4) S.nd gs_nil))))) (ss_cons (s_if (d_tcmp (opD_eq hr) (d_op opD_and (d_op opD_shr (d_meth0 M_months hr (by decide) (d_fld f_row (d_var 0))) (d_var 2)) d_int) d_int) (ss_one (s_ret (d_ofO (o_lc (own := [("day", 6)]) rfl S.nd (it_r1 n_range (a_cons (d_var 3) a_nil)) (blkOk_by (own := [("day", 6)]) (N := sm_Of_on_days_N) (sc := defScope (inClass (topS 86) 2)) (by decide +kernel)) (tgN_in (by decide)) (fun _ _ _ _ _ => (g_name (i := 6) S.nd)) (fun _ _ _ _ _ => ts_nil) (fun _ _ _ _ _ => d_int))))) ss_nil) (ss_cache (i := 0) (l := 3) (f := 4) (j := 5) hinj rfl hC A_told_days hr (d_meth M_days_in hr (by decide) (d_fld f_row (d_var 0)) (a_cons (d_var 1) a_nil)) S.nd (ss_one (s_ret (d_ofO (o_lc (own := [("day", 6)]) rfl S.nd (it_r2 n_range (a_cons d_int (a_cons (d_op opD_add (d_var 3) d_int) a_nil))) (blkOk_by (own := [("day", 6)]) (N := sm_Of_on_days_N) (sc := defScope (inClass (topS 86) 2)) (by decide +kernel)) (tgN_in (by decide)) (fun _ _ _ _ _ => (g_name (i := 6) S.nd)) (fun _ _ _ _ _ => ts_nil) (fun _ _ _ _ _ => (d_op opD_mul (d_fld f_told_times (d_var 0)) (d_op opD_and (d_op opD_shr (d_var 5) (d_var 6)) d_int))))))))))
abbrev sm_Joined_on_days_N : List Str := ["self", "kind", "found", "book", "day", "one", "other"]
def m_Joined_on_days_b (t_on_days : Nat → Option (List D → Option D)) : DS := (sSeq (sAsg (dO (oLc (itR1 (aCons (dCall 1 m_days_of (aCons (dVar 1) aNil)) aNil)) (tgN 4) tTrue (dC (.int 0)) [4])) (tgN 2)) (sSeq (sFor (itE (dFld at_books (dVar 0))) (tgN 3) (sAsg (dO (oLc (itZip (aCons (dVar 2) (aCons (dMeth 1 t_on_days (dVar 3) (aCons (dVar 1) aNil)) aNil))) (tgT [5, 6]) tTrue (dOp opOr (dVar 5) (dVar 6)) [5, 6])) (tgN 2))) (sRet (dVar 2))))
def m_Joined_on_days (t_on_days : Nat → Option (List D → Option D)) : List D → Option D := runD 7 (m_Joined_on_days_b t_on_days)
theorem sc_m_Joined_on_days : FnScope sm_Joined_on_days_N ["self", "kind"] (defScope (inClass (topS 87) 2)) := ⟨rfl, rfl, rfl, by decide +kernel, rfl, by decide +kernel, by decide +kernel⟩
theorem ok_m_Joined_on_days {f : Addr} {fd : FuncData} (F : DFun K "on_days" "Joined.on_days" (inClass (topS 87) 2) f fd) {lv : Nat} {t_on_days : Nat → Option (List D → Option D)} (hlv : 4 ≤ lv) (C_days_of : Cal P w K mg base "days_of" 4 ["kind"] (spD K c 1 m_days_of)) (M_on_days : MCal P w K mg base c "on_days" lv 1 t_on_days) (n_range : mg "range" = none) (n_zip : mg "zip" = none) (f_books : FldOk K c "books" at_books) :
    FnOk P w K mg base CX0 (lv + 1) f fd ["self", "kind"] (spD K c 2 (m_Joined_on_days t_on_days)) := by
  have S := sc_m_Joined_on_days
  refine okD' (n := 7) (m := 2) (B := m_Joined_on_days_b t_on_days) F S rfl rfl rfl fun cdv A outer s H E hr => ?_
  exact (ss_cons (s_setLc (i := 2) (own := [("day", 4)]) rfl S.nd (it_r1 n_range (a_cons (d_call C_days_of hr (by omega) (a_cons (d_var 1) a_nil)) a_nil)) (blkOk_by (own := [("day", 4)]) (N := sm_Joined_on_days_N) (sc := defScope (inClass (topS 87) 2)) (by decide +kernel)) (tgN_in (by decide)) (fun _ _ _ _ _ => (g_name (i := 4) S.nd)) (fun _ _ _ _ _ => ts_nil) (fun _ _ _ _ _ => d_int)) (ss_cons (s_for PassesOwn.never rfl (it_e (d_fld f_books (d_var 0))) (g_name (i := 3) S.nd) (ss_one (s_setLc (i := 2) (own := [("one", 5), ("other", 6)]) rfl S.nd (it_zip n_zip (a_cons (d_var 2) (a_cons (d_meth M_on_days hr (by omega) (d_var 3) (a_cons (d_var 1) a_nil)) a_nil))) (blkOk_by (own := [("one", 5), ("other", 6)]) (N := sm_Joined_on_days_N) (sc := defScope (inClass (topS 87) 2)) (by decide +kernel)) (tgT_in (by decide)) (fun _ _ _ _ _ => (g_tup (is := [5, 6]) rfl (gs_cons (i := 5) S.nd (gs_cons (i := 6) S.nd gs_nil)))) (fun _ _ _ _ _ => ts_nil) (fun _ _ _ _ _ => (d_op opD_or (d_var 5) (d_var 6)))))) (ss_one (s_ret (d_var 2)))))
abbrev sm_Joined_tally_N : List Str := ["self", "book"]
def m_Joined_tally_b (t_tally : Nat → Option (List D → Option D)) : DS := (sRet (dOp opAdd (dC (.int 1)) (dBu bSum (aCons (dO (oLc (itE (dFld at_books (dVar 0))) (tgN 1) tTrue (dMeth 0 t_tally (dVar 1) aNil) [1])) aNil))))
def m_Joined_tally (t_tally : Nat → Option (List D → Option D)) : List D → Option D := runD 2 (m_Joined_tally_b t_tally)
theorem sc_m_Joined_tally : FnScope sm_Joined_tally_N ["self"] (defScope (inClass (topS 87) 3)) := ⟨rfl, rfl, rfl, by decide +kernel, rfl, by decide +kernel, by decide +kernel⟩
theorem ok_m_Joined_tally {f : Addr} {fd : FuncData} (F : DFun K "tally" "Joined.tally" (inClass (topS 87) 3) f fd) {lv : Nat} {t_tally : Nat → Option (List D → Option D)} (hlv : 0 ≤ lv) (M_tally : MCal P w K mg base c "tally" lv 0 t_tally) (n_sum : mg "sum" = none) (f_books : FldOk K c "books" at_books) :
    FnOk P w K mg base CX0 (lv + 1) f fd ["self"] (spD K c 1 (m_Joined_tally t_tally)) := by
  have S := sc_m_Joined_tally
  refine okD' (n := 2) (m := 1) (B := m_Joined_tally_b t_tally) F S rfl rfl rfl fun cdv A outer s H E hr => ?_
  exact (ss_one (s_ret (d_op opD_add d_int (d_callB (bu_sum rfl) n_sum (a_cons (d_ofO (o_lc (own := [("book", 1)]) rfl S.nd (it_e (d_fld f_books (d_var 0))) (blkOk_by (own := [("book", 1)]) (N := sm_Joined_tally_N) (sc := defScope (inClass (topS 87) 3)) (by decide +kernel)) (tgN_in (by decide)) (fun _ _ _ _ _ => (g_name (i := 1) S.nd)) (fun _ _ _ _ _ => ts_nil) (fun _ _ _ _ _ => (d_meth0 M_tally hr (by omega) (d_var 1))))) a_nil)))))
abbrev sm_Joined_depth_N : List Str := ["self", "book"]
def m_Joined_depth_b (t_depth : Nat → Option (List D → Option D)) : DS := (sRet (dOp opAdd (dC (.int 1)) (dBu bMax (aCons (dO (oLc (itE (dFld at_books (dVar 0))) (tgN 1) tTrue (dMeth 0 t_depth (dVar 1) aNil) [1])) aNil))))
def m_Joined_depth (t_depth : Nat → Option (List D → Option D)) : List D → Option D := runD 2 (m_Joined_depth_b t_depth)
theorem sc_m_Joined_depth : FnScope sm_Joined_depth_N ["self"] (defScope (inClass (topS 87) 4)) := ⟨rfl, rfl, rfl, by decide +kernel, rfl, by decide +kernel, by decide +kernel⟩
theorem ok_m_Joined_depth {f : Addr} {fd : FuncData} (F : DFun K "depth" "Joined.depth" (inClass (topS 87) 4) f fd) {lv : Nat} {t_depth : Nat → Option (List D → Option D)} (hlv : 0 ≤ lv) (M_depth : MCal P w K mg base c "depth" lv 0 t_depth) (n_max : mg "max" = none) (f_books : FldOk K c "books" at_books) :
    FnOk P w K mg base CX0 (lv + 1) f fd ["self"] (spD K c 1 (m_Joined_depth t_depth)) := by
  have S := sc_m_Joined_depth
  refine okD' (n := 2) (m := 1) (B := m_Joined_depth_b t_depth) F S rfl rfl rfl fun cdv A outer s H E hr => ?_
  exact (ss_one (s_ret (d_op opD_add d_int (d_callB (bu_max rfl) n_max (a_cons (d_ofO (o_lc (own := [("book", 1)]) rfl S.nd (it_e (d_fld f_books (d_var 0))) (blkOk_by (own := [("book", 1)]) (N := sm_Joined_depth_N) (sc := defScope (inClass (topS 87) 4)) (by decide +kernel)) (tgN_in (by decide)) (fun _ _ _ _ _ => (g_name (i := 1) S.nd)) (fun _ _ _ _ _ => ts_nil) (fun _ _ _ _ _ => (d_meth0 M_depth hr (by omega) (d_var 1))))) a_nil)))))
abbrev sm_Met_on_days_N : List Str := ["self", "kind", "found", "book", "day", "one", "other"]
def m_Met_on_days_b (t_on_days : Nat → Option (List D → Option D)) : DS := (sSeq (sAsg (dO (oLc (itR1 (aCons (dCall 1 m_days_of (aCons (dVar 1) aNil)) aNil)) (tgN 4) tTrue (dCall 0 m_all_times aNil) [4])) (tgN 2)) (sSeq (sFor (itE (dFld at_books (dVar 0))) (tgN 3) (sAsg (dO (oLc (itZip (aCons (dVar 2) (aCons (dMeth 1 t_on_days (dVar 3) (aCons (dVar 1) aNil)) aNil))) (tgT [5, 6]) tTrue (dOp opAnd (dVar 5) (dVar 6)) [5, 6])) (tgN 2))) (sRet (dVar 2))))
def m_Met_on_days (t_on_days : Nat → Option (List D → Option D)) : List D → Option D := runD 7 (m_Met_on_days_b t_on_days)
theorem sc_m_Met_on_days : FnScope sm_Met_on_days_N ["self", "kind"] (defScope (inClass (topS 88) 2)) := ⟨rfl, rfl, rfl, by decide +kernel, rfl, by decide +kernel, by decide +kernel⟩
theorem ok_m_Met_on_days {f : Addr} {fd : FuncData} (F : DFun K "on_days" "Met.on_days" (inClass (topS 88) 2) f fd) {lv : Nat} {t_on_days : Nat → Option (List D → Option D)} (hlv : 4 ≤ lv) (C_days_of : Cal P w K mg base "days_of" 4 ["kind"] (spD K c 1 m_days_of)) (C_all_times : Cal P w K mg base "all_times" 1 [] (spD K c 0 m_all_times)) (M_on_days : MCal P w K mg base c "on_days" lv 1 t_on_days) (n_range : mg "range" = none) (n_zip : mg "zip" = none) (f_books : FldOk K c "books" at_books) :
    FnOk P w K mg base CX0 (lv + 1) f fd ["self", "kind"] (spD K c 2 (m_Met_on_days t_on_days)) := by
  have S := sc_m_Met_on_days
  refine okD' (n := 7) (m := 2) (B := m_Met_on_days_b t_on_days) F S rfl rfl rfl fun cdv A outer s H E hr => ?_
  exact (ss_cons (s_setLc (i := 2) (own := [("day", 4)]) rfl S.nd (it_r1 n_range (a_cons (d_call C_days_of hr (by omega) (a_cons (d_var 1) a_nil)) a_nil)) (blkOk_by (own := [("day", 4)]) (N := sm_Met_on_days_N) (sc := defScope (inClass (topS 88) 2)) (by decide +kernel)) (tgN_in (by decide)) (fun _ _ _ _ _ => (g_name (i := 4) S.nd)) (fun _ _ _ _ _ => ts_nil) (fun _ _ _ _ _ => (d_call0 C_all_times hr (by omega)))) (ss_cons (s_for PassesOwn.never rfl (it_e (d_fld f_books (d_var 0))) (g_name (i := 3) S.nd) (ss_one (s_setLc (i := 2) (own := [("one", 5), ("other", 6)]) rfl S.nd (it_zip n_zip (a_cons (d_var 2) (a_cons (d_meth M_on_days hr (by omega) (d_var 3) (a_cons (d_var 1) a_nil)) a_nil))) (blkOk_by (own := [("one", 5), ("other", 6)]) (N := sm_Met_on_days_N) (sc := defScope (inClass (topS 88) 2)) (by decide +kernel)) (tgT_in (by decide)) (fun _ _ _ _ _ => (g_tup (is := [5, 6]) rfl (gs_cons (i := 5) S.nd (gs_cons (i := 6) S.nd gs_nil)))) (fun _ _ _ _ _ => ts_nil) (fun _ _ _ _ _ => (d_op opD_and (d_var 5) (d_var 6)))))) (ss_one (s_ret (d_var 2)))))
abbrev sm_Met_tally_N : List Str := ["self", "book"]
def m_Met_tally_b (t_tally : Nat → Option (List D → Option D)) : DS := (sRet (dOp opAdd (dC (.int 1)) (dBu bSum (aCons (dO (oLc (itE (dFld at_books (dVar 0))) (tgN 1) tTrue (dMeth 0 t_tally (dVar 1) aNil) [1])) aNil))))
def m_Met_tally (t_tally : Nat → Option (List D → Option D)) : List D → Option D := runD 2 (m_Met_tally_b t_tally)
theorem sc_m_Met_tally : FnScope sm_Met_tally_N ["self"] (defScope (inClass (topS 88) 3)) := ⟨rfl, rfl, rfl, by decide +kernel, rfl, by decide +kernel, by decide +kernel⟩
theorem ok_m_Met_tally {f : Addr} {fd : FuncData} (F : DFun K "tally" "Met.tally" (inClass (topS 88) 3) f fd) {lv : Nat} {t_tally : Nat → Option (List D → Option D)} (hlv : 0 ≤ lv) (M_tally : MCal P w K mg base c "tally" lv 0 t_tally) (n_sum : mg "sum" = none) (f_books : FldOk K c "books" at_books) :
    FnOk P w K mg base CX0 (lv + 1) f fd ["self"] (spD K c 1 (m_Met_tally t_tally)) := by
  have S := sc_m_Met_tally
  refine okD' (n := 2) (m := 1) (B := m_Met_tally_b t_tally) F S rfl rfl rfl fun cdv A outer s H E hr => ?_
  exact (ss_one (s_ret (d_op opD_add d_int (d_callB (bu_sum rfl) n_sum (a_cons (d_ofO (o_lc (own := [("book", 1)]) rfl S.nd (it_e (d_fld f_books (d_var 0))) (blkOk_by (own := [("book", 1)]) (N := sm_Met_tally_N) (sc := defScope (inClass (topS 88) 3)) (by decide +kernel)) (tgN_in (by decide)) (fun _ _ _ _ _ => (g_name (i := 1) S.nd)) (fun _ _ _ _ _ => ts_nil) (fun _ _ _ _ _ => (d_meth0 M_tally hr (by omega) (d_var 1))))) a_nil)))))
abbrev sm_Met_depth_N : List Str := ["self", "book"]
def m_Met_depth_b (t_depth : Nat → Option (List D → Option D)) : DS := (sRet (dOp opAdd (dC (.int 1)) (dBu bMax (aCons (dO (oLc (itE (dFld at_books (dVar 0))) (tgN 1) tTrue (dMeth 0 t_depth (dVar 1) aNil) [1])) aNil))))
def m_Met_depth (t_depth : Nat → Option (List D → Option D)) : List D → Option D := runD 2 (m_Met_depth_b t_depth)
theorem sc_m_Met_depth : FnScope sm_Met_depth_N ["self"] (defScope (inClass (topS 88) 4)) := ⟨rfl, rfl, rfl, by decide +kernel, rfl, by decide +kernel, by decide +kernel⟩
theorem ok_m_Met_depth {f : Addr} {fd : FuncData} (F : DFun K "depth" "Met.depth" (inClass (topS 88) 4) f fd) {lv : Nat} {t_depth : Nat → Option (List D → Option D)} (hlv : 0 ≤ lv) (M_depth : MCal P w K mg base c "depth" lv 0 t_depth) (n_max : mg "max" = none) (f_books : FldOk K c "books" at_books) :
    FnOk P w K mg base CX0 (lv + 1) f fd ["self"] (spD K c 1 (m_Met_depth t_depth)) := by
  have S := sc_m_Met_depth
  refine okD' (n := 2) (m := 1) (B := m_Met_depth_b t_depth) F S rfl rfl rfl fun cdv A outer s H E hr => ?_
  exact (ss_one (s_ret (d_op opD_add d_int (d_callB (bu_max rfl) n_max (a_cons (d_ofO (o_lc (own := [("book", 1)]) rfl S.nd (it_e (d_fld f_books (d_var 0))) (blkOk_by (own := [("book", 1)]) (N := sm_Met_depth_N) (sc := defScope (inClass (topS 88) 4)) (by decide +kernel)) (tgN_in (by decide)) (fun _ _ _ _ _ => (g_name (i := 1) S.nd)) (fun _ _ _ _ _ => ts_nil) (fun _ _ _ _ _ => (d_meth0 M_depth hr (by omega) (d_var 1))))) a_nil)))))
abbrev sm_Less_on_days_N : List Str := ["self", "kind", "one", "other"]
def m_Less_on_days_b (t_on_days : Nat → Option (List D → Option D)) : DS := (sRet (dO (oLc (itZip (aCons (dMeth 1 t_on_days (dFld at_one (dVar 0)) (aCons (dVar 1) aNil)) (aCons (dMeth 1 t_on_days (dFld at_other (dVar 0)) (aCons (dVar 1) aNil)) aNil))) (tgT [2, 3]) tTrue (dOp opXor (dVar 2) (dOp opAnd (dVar 2) (dVar 3))) [2, 3])))
def m_Less_on_days (t_on_days : Nat → Option (List D → Option D)) : List D → Option D := runD 4 (m_Less_on_days_b t_on_days)
theorem sc_m_Less_on_days : FnScope sm_Less_on_days_N ["self", "kind"] (defScope (inClass (topS 89) 2)) := ⟨rfl, rfl, rfl, by decide +kernel, rfl, by decide +kernel, by decide +kernel⟩
theorem ok_m_Less_on_days {f : Addr} {fd : FuncData} (F : DFun K "on_days" "Less.on_days" (inClass (topS 89) 2) f fd) {lv : Nat} {t_on_days : Nat → Option (List D → Option D)} (hlv : 0 ≤ lv) (M_on_days : MCal P w K mg base c "on_days" lv 1 t_on_days) (n_zip : mg "zip" = none) (f_other : FldOk K c "other" at_other) (f_one : FldOk K c "one" at_one) :
    FnOk P w K mg base CX0 (lv + 1) f fd ["self", "kind"] (spD K c 2 (m_Less_on_days t_on_days)) := by
  have S := sc_m_Less_on_days
  refine okD' (n := 4) (m := 2) (B := m_Less_on_days_b t_on_days) F S rfl rfl rfl fun cdv A outer s H E hr => ?_
  exact (ss_one (s_ret (d_ofO (o_lc (own := [("one", 2), ("other", 3)]) rfl S.nd (it_zip n_zip (a_cons (d_meth M_on_days hr (by omega) (d_fld f_one (d_var 0)) (a_cons (d_var 1) a_nil)) (a_cons (d_meth M_on_days hr (by omega) (d_fld f_other (d_var 0)) (a_cons (d_var 1) a_nil)) a_nil))) (blkOk_by (own := [("one", 2), ("other", 3)]) (N := sm_Less_on_days_N) (sc := defScope (inClass (topS 89) 2)) (by decide +kernel)) (tgT_in (by decide)) (fun _ _ _ _ _ => (g_tup (is := [2, 3]) rfl (gs_cons (i := 2) S.nd (gs_cons (i := 3) S.nd gs_nil)))) (fun _ _ _ _ _ => ts_nil) (fun _ _ _ _ _ => (d_op opD_xor (d_var 2) (d_op opD_and (d_var 2) (d_var 3))))))))
abbrev sm_Less_tally_N : List Str := ["self"]
def m_Less_tally_b (t_tally : Nat → Option (List D → Option D)) : DS := (sRet (dOp opAdd (dOp opAdd (dC (.int 1)) (dMeth 0 t_tally (dFld at_one (dVar 0)) aNil)) (dMeth 0 t_tally (dFld at_other (dVar 0)) aNil)))
def m_Less_tally (t_tally : Nat → Option (List D → Option D)) : List D → Option D := runD 1 (m_Less_tally_b t_tally)
theorem sc_m_Less_tally : FnScope sm_Less_tally_N ["self"] (defScope (inClass (topS 89) 3)) := ⟨rfl, rfl, rfl, by decide +kernel, rfl, by decide +kernel, by decide +kernel⟩
theorem ok_m_Less_tally {f : Addr} {fd : FuncData} (F : DFun K "tally" "Less.tally" (inClass (topS 89) 3) f fd) {lv : Nat} {t_tally : Nat → Option (List D → Option D)} (hlv : 0 ≤ lv) (M_tally : MCal P w K mg base c "tally" lv 0 t_tally) (f_one : FldOk K c "one" at_one) (f_other : FldOk K c "other" at_other) :
    FnOk P w K mg base CX0 (lv + 1) f fd ["self"] (spD K c 1 (m_Less_tally t_tally)) := by
  have S := sc_m_Less_tally
  refine okD' (n := 1) (m := 1) (B := m_Less_tally_b t_tally) F S rfl rfl rfl fun cdv A outer s H E hr => ?_
  exact (ss_one (s_ret (d_op opD_add (d_op opD_add d_int (d_meth0 M_tally hr (by omega) (d_fld f_one (d_var 0)))) (d_meth0 M_tally hr (by omega) (d_fld f_other (d_var 0))))))
abbrev sm_Less_depth_N : List Str := ["self"]
def m_Less_depth_b (t_depth : Nat → Option (List D → Option D)) : DS := (sRet (dOp opAdd (dC (.int 1)) (dBu bMax (aCons (dMeth 0 t_depth (dFld at_one (dVar 0)) aNil) (aCons (dMeth 0 t_depth (dFld at_other (dVar 0)) aNil) aNil)))))
def m_Less_depth (t_depth : Nat → Option (List D → Option D)) : List D → Option D := runD 1 (m_Less_depth_b t_depth)
theorem sc_m_Less_depth : FnScope sm_Less_depth_N ["self"] (defScope (inClass (topS 89) 4)) := ⟨rfl, rfl, rfl, by decide +kernel, rfl, by decide +kernel, by decide +kernel⟩
theorem ok_m_Less_depth {f : Addr} {fd : FuncData} (F : DFun K "depth" "Less.depth" (inClass (topS 89) 4) f fd) {lv : Nat} {t_depth : Nat → Option (List D → Option D)} (hlv : 0 ≤ lv) (M_depth : MCal P w K mg base c "depth" lv 0 t_depth) (n_max : mg "max" = none) (f_other : FldOk K c "other" at_other) (f_one : FldOk K c "one" at_one) :
    FnOk P w K mg base CX0 (lv + 1) f fd ["self"] (spD K c 1 (m_Less_depth t_depth)) := by
  have S := sc_m_Less_depth
  refine okD' (n := 1) (m := 1) (B := m_Less_depth_b t_depth) F S rfl rfl rfl fun cdv A outer s H E hr => ?_
  exact (ss_one (s_ret (d_op opD_add d_int (d_callB (bu_max rfl) n_max (a_cons (d_meth0 M_depth hr (by omega) (d_fld f_one (d_var 0))) (a_cons (d_meth0 M_depth hr (by omega) (d_fld f_other (d_var 0))) a_nil))))))
abbrev sm_Turned_on_days_N : List Str := ["self", "kind", "times"]
def m_Turned_on_days_b (t_on_days : Nat → Option (List D → Option D)) : DS := (sRet (dO (oLc (itE (dMeth 1 t_on_days (dFld at_one (dVar 0)) (aCons (dVar 1) aNil))) (tgN 2) tTrue (dOp opXor (dCall 0 m_all_times aNil) (dVar 2)) [2])))
def m_Turned_on_days (t_on_days : Nat → Option (List D → Option D)) : List D → Option D := runD 3 (m_Turned_on_days_b t_on_days)
theorem sc_m_Turned_on_days : FnScope sm_Turned_on_days_N ["self", "kind"] (defScope (inClass (topS 90) 2)) := ⟨rfl, rfl, rfl, by decide +kernel, rfl, by decide +kernel, by decide +kernel⟩
theorem ok_m_Turned_on_days {f : Addr} {fd : FuncData} (F : DFun K "on_days" "Turned.on_days" (inClass (topS 90) 2) f fd) {lv : Nat} {t_on_days : Nat → Option (List D → Option D)} (hlv : 1 ≤ lv) (C_all_times : Cal P w K mg base "all_times" 1 [] (spD K c 0 m_all_times)) (M_on_days : MCal P w K mg base c "on_days" lv 1 t_on_days) (f_one : FldOk K c "one" at_one) :
    FnOk P w K mg base CX0 (lv + 1) f fd ["self", "kind"] (spD K c 2 (m_Turned_on_days t_on_days)) := by
  have S := sc_m_Turned_on_days
  refine okD' (n := 3) (m := 2) (B := m_Turned_on_days_b t_on_days) F S rfl rfl rfl fun cdv A outer s H E hr => ?_
  exact (ss_one (s_ret (d_ofO (o_lc (own := [("times", 2)]) rfl S.nd (it_e (d_meth M_on_days hr (by omega) (d_fld f_one (d_var 0)) (a_cons (d_var 1) a_nil))) (blkOk_by (own := [("times", 2)]) (N := sm_Turned_on_days_N) (sc := defScope (inClass (topS 90) 2)) (by decide +kernel)) (tgN_in (by decide)) (fun _ _ _ _ _ => (g_name (i := 2) S.nd)) (fun _ _ _ _ _ => ts_nil) (fun _ _ _ _ _ => (d_op opD_xor (d_call0 C_all_times hr (by omega)) (d_var 2)))))))
abbrev sm_Turned_tally_N : List Str := ["self"]
def m_Turned_tally_b (t_tally : Nat → Option (List D → Option D)) : DS := (sRet (dOp opAdd (dC (.int 1)) (dMeth 0 t_tally (dFld at_one (dVar 0)) aNil)))
def m_Turned_tally (t_tally : Nat → Option (List D → Option D)) : List D → Option D := runD 1 (m_Turned_tally_b t_tally)
theorem sc_m_Turned_tally : FnScope sm_Turned_tally_N ["self"] (defScope (inClass (topS 90) 3)) := ⟨rfl, rfl, rfl, by decide +kernel, rfl, by decide +kernel, by decide +kernel⟩
theorem ok_m_Turned_tally {f : Addr} {fd : FuncData} (F : DFun K "tally" "Turned.tally" (inClass (topS 90) 3) f fd) {lv : Nat} {t_tally : Nat → Option (List D → Option D)} (hlv : 0 ≤ lv) (M_tally : MCal P w K mg base c "tally" lv 0 t_tally) (f_one : FldOk K c "one" at_one) :
    FnOk P w K mg base CX0 (lv + 1) f fd ["self"] (spD K c 1 (m_Turned_tally t_tally)) := by
  have S := sc_m_Turned_tally
  refine okD' (n := 1) (m := 1) (B := m_Turned_tally_b t_tally) F S rfl rfl rfl fun cdv A outer s H E hr => ?_
  exact (ss_one (s_ret (d_op opD_add d_int (d_meth0 M_tally hr (by omega) (d_fld f_one (d_var 0))))))
abbrev sm_Turned_depth_N : List Str := ["self"]
def m_Turned_depth_b (t_depth : Nat → Option (List D → Option D)) : DS := (sRet (dOp opAdd (dC (.int 1)) (dMeth 0 t_depth (dFld at_one (dVar 0)) aNil)))
def m_Turned_depth (t_depth : Nat → Option (List D → Option D)) : List D → Option D := runD 1 (m_Turned_depth_b t_depth)
theorem sc_m_Turned_depth : FnScope sm_Turned_depth_N ["self"] (defScope (inClass (topS 90) 4)) := ⟨rfl, rfl, rfl, by decide +kernel, rfl, by decide +kernel, by decide +kernel⟩
theorem ok_m_Turned_depth {f : Addr} {fd : FuncData} (F : DFun K "depth" "Turned.depth" (inClass (topS 90) 4) f fd) {lv : Nat} {t_depth : Nat → Option (List D → Option D)} (hlv : 0 ≤ lv) (M_depth : MCal P w K mg base c "depth" lv 0 t_depth) (f_one : FldOk K c "one" at_one) :
    FnOk P w K mg base CX0 (lv + 1) f fd ["self"] (spD K c 1 (m_Turned_depth t_depth)) := by
  have S := sc_m_Turned_depth
  refine okD' (n := 1) (m := 1) (B := m_Turned_depth_b t_depth) F S rfl rfl rfl fun cdv A outer s H E hr => ?_
  exact (ss_one (s_ret (d_op opD_add d_int (d_meth0 M_depth hr (by omega) (d_fld f_one (d_var 0))))))
abbrev sm__law_cell_at_N : List Str := ["_law_script", "_law_k"]
def m__law_cell_at_b : DS := (sSeq (sIf (asB (dOp opLt (dVar 1) (dBu bLen (aCons (dVar 0) aNil)))) (sRet (dOp opIx (dVar 0) (dVar 1))) sNil) (sRet (dOp opMod (dOp opMul (dOp opPow (dOp opAdd (dVar 1) (dC (.int 2))) (dC (.int 5))) (dC (.int 1299709))) (dC (.int 15485863)))))
def m__law_cell_at : List D → Option D := runD 2 (m__law_cell_at_b)
theorem sc_m__law_cell_at : FnScope sm__law_cell_at_N ["_law_script", "_law_k"] (defScope (topS 95)) := ⟨rfl, rfl, rfl, by decide +kernel, rfl, by decide +kernel, by decide +kernel⟩
theorem ok_m__law_cell_at {f : Addr} {fd : FuncData} (F : DFun K "_law_cell_at" "_law_cell_at" (topS 95) f fd) (n_len : mg "len" = none) :
    FnOk P w K mg base CX0 1 f fd ["_law_script", "_law_k"] (spD K c 2 (m__law_cell_at)) := by
  have S := sc_m__law_cell_at
  refine okD' (n := 2) (m := 2) (B := m__law_cell_at_b) F S rfl rfl rfl fun cdv A outer s H E hr => ?_
  exact (ss_cons (s_if (d_tcmp opD_lt (d_var 1) (d_callB bu_len n_len (a_cons (d_var 0) a_nil))) (ss_one (s_ret (d_ix (d_var 0) (d_var 1)))) ss_nil) (ss_one (s_ret (d_op opD_mod (d_op opD_mul (d_op opD_pow (d_op opD_add (d_var 1) d_int) d_int) d_int) d_int))))
abbrev sm__law_stir_N : List Str := ["_law_number", "_law_first", "_law_second"]
def m__law_stir_b : DS := (sSeq (sAsg (dOp opMod (dOp opMul (dOp opAdd (dOp opMod (dVar 0) (dOp opPow (dC (.int 10)) (dC (.int 18)))) (dC (.int 1))) (dC (.int 452930459))) (dC (.int 4294967291))) (tgN 1)) (sSeq (sAsg (dOp opMod (dOp opMul (dVar 1) (dOp opAdd (dOp opMod (dVar 1) (dC (.int 65521))) (dC (.int 15485863)))) (dC (.int 999999937))) (tgN 2)) (sRet (dOp opMod (dOp opMul (dVar 2) (dOp opAdd (dOp opMod (dVar 2) (dC (.int 32749))) (dC (.int 3)))) (dC (.int 2147483629))))))
def m__law_stir : List D → Option D := runD 3 (m__law_stir_b)
theorem sc_m__law_stir : FnScope sm__law_stir_N ["_law_number"] (defScope (topS 96)) := ⟨rfl, rfl, rfl, by decide +kernel, rfl, by decide +kernel, by decide +kernel⟩
theorem ok_m__law_stir {f : Addr} {fd : FuncData} (F : DFun K "_law_stir" "_law_stir" (topS 96) f fd)  :
    FnOk P w K mg base CX0 1 f fd ["_law_number"] (spD K c 1 (m__law_stir)) := by
  have S := sc_m__law_stir
  refine okD' (n := 3) (m := 1) (B := m__law_stir_b) F S rfl rfl rfl fun cdv A outer s H E hr => ?_
  exact (ss_cons (s_set (i := 1) S.nd (d_op opD_mod (d_op opD_mul (d_op opD_add (d_op opD_mod (d_var 0) (d_op opD_pow d_int d_int)) d_int) d_int) d_int)) (ss_cons (s_set (i := 2) S.nd (d_op opD_mod (d_op opD_mul (d_var 1) (d_op opD_add (d_op opD_mod (d_var 1) d_int) d_int)) d_int)) (ss_one (s_ret (d_op opD_mod (d_op opD_mul (d_var 2) (d_op opD_add (d_op opD_mod (d_var 2) d_int) d_int)) d_int)))))
abbrev sm__law_digits_N : List Str := ["_law_cell", "_law_sizes", "_law_mixed", "_law_found", "_law_size"]
def m__law_digits_b : DS := (sSeq (sAsgO (oLst aNil) 3) (sSeq (sAsg (dOr (dVar 2) (dOp opLt (dBu bAbs (aCons (dVar 0) aNil)) (dOp opPow (dC (.int 10)) (dC (.int 18))))) (tgN 2)) (sSeq (sFor (itE (dVar 1)) (tgN 4) (sIf (asB (dVar 2)) (sSeq (sAsg (dCall 1 m__law_stir (aCons (dVar 0) aNil)) (tgN 0)) (sApp 3 (dOp opMod (dOp opFdiv (dVar 0) (dC (.int 8))) (dVar 4)))) (sSeq (sApp 3 (dOp opMod (dVar 0) (dVar 4))) (sAsg (dOp opFdiv (dVar 0) (dVar 4)) (tgN 0))))) (sRetO 3))))
def m__law_digits : List D → Option D := runD 5 (m__law_digits_b)
theorem sc_m__law_digits : FnScope sm__law_digits_N ["_law_cell", "_law_sizes", "_law_mixed"] (defScope (topS 97)) := ⟨rfl, rfl, rfl, by decide +kernel, rfl, by decide +kernel, by decide +kernel⟩
theorem ok_m__law_digits {f : Addr} {fd : FuncData} (F : DFun K "_law_digits" "_law_digits" (topS 97) f fd) (C__law_stir : Cal P w K mg base "_law_stir" 1 ["_law_number"] (spD K c 1 m__law_stir)) (n_abs : mg "abs" = none) :
    FnOk P w K mg base CX0 2 f fd ["_law_cell", "_law_sizes", "_law_mixed"] (spD K c 3 (m__law_digits)) := by
  have S := sc_m__law_digits
  refine okD' (n := 5) (m := 3) (B := m__law_digits_b) F S rfl rfl rfl fun cdv A outer s H E hr => ?_
  exact (ss_cons (s_setO (i := 3) S.nd (o_lst a_nil)) (ss_cons (s_set (i := 2) S.nd (d_or (d_var 2) (d_one (d_cmp opD_lt (d_callB bu_abs n_abs (a_cons (d_var 0) a_nil)) (d_op opD_pow d_int d_int))))) (ss_cons (s_for PassesOwn.never rfl (it_e (d_var 1)) (g_name (i := 4) S.nd) (ss_one (s_if (d_test (d_var 2)) (ss_cons (s_set (i := 0) S.nd (d_call C__law_stir hr (by decide) (a_cons (d_var 0) a_nil))) (ss_one (s_app 3 (d_op opD_mod (d_op opD_fdiv (d_var 0) d_int) (d_var 4))))) (ss_cons (s_app 3 (d_op opD_mod (d_var 0) (d_var 4))) (ss_one (s_set (i := 0) S.nd (d_op opD_fdiv (d_var 0) (d_var 4)))))))) (ss_one (s_retO 3)))))
abbrev sm__law_field_N : List Str := ["_law_parts", "_law_low", "_law_high", "_law_one", "_law_later", "_law_by", "_law_some"]
def m__law_field_b : DS := (sSeq (sAsg (dOp opAdd (dVar 1) (dOp opMod (dOp opIx (dVar 0) (dC (.int 1))) (dOp opAdd (dOp opSub (dVar 2) (dVar 1)) (dC (.int 1))))) (tgN 3)) (sSeq (sAsg (dOp opAdd (dVar 3) (dOp opMod (dOp opIx (dVar 0) (dC (.int 2))) (dOp opAdd (dOp opSub (dVar 2) (dVar 3)) (dC (.int 1))))) (tgN 4)) (sSeq (sAsg (dBu bStr (aCons (dOp opAdd (dC (.int 1)) (dOp opIx (dVar 0) (dC (.int 3)))) aNil)) (tgN 5)) (sSeq (sAsgO (oLst (aCons (dC (.str "*")) (aCons (dBu bStr (aCons (dVar 3) aNil)) (aCons (dOp opAdd (dOp opAdd (dBu bStr (aCons (dVar 3) aNil)) (dC (.str "-"))) (dBu bStr (aCons (dVar 4) aNil))) (aCons (dOp opAdd (dC (.str "*/")) (dVar 5)) (aCons (dOp opAdd (dOp opAdd (dBu bStr (aCons (dVar 3) aNil)) (dC (.str ","))) (dBu bStr (aCons (dVar 4) aNil))) (aCons (dBu bStr (aCons (dVar 4) aNil)) aNil))))))) 6) (sSeq (sApp 6 (dOp opAdd (dOp opAdd (dOp opAdd (dOp opAdd (dBu bStr (aCons (dVar 3) aNil)) (dC (.str "-"))) (dBu bStr (aCons (dVar 4) aNil))) (dC (.str "/"))) (dVar 5))) (sRet (dOwnIx 6 (dOp opIx (dVar 0) (dC (.int 0))))))))))
def m__law_field : List D → Option D := runD 7 (m__law_field_b)
theorem sc_m__law_field : FnScope sm__law_field_N ["_law_parts", "_law_low", "_law_high"] (defScope (topS 98)) := ⟨rfl, rfl, rfl, by decide +kernel, rfl, by decide +kernel, by decide +kernel⟩
theorem ok_m__law_field {f : Addr} {fd : FuncData} (F : DFun K "_law_field" "_law_field" (topS 98) f fd) (n_str : mg "str" = none) :
    FnOk P w K mg base CX0 1 f fd ["_law_parts", "_law_low", "_law_high"] (spD K c 3 (m__law_field)) := by
  have S := sc_m__law_field
  refine okD' (n := 7) (m := 3) (B := m__law_field_b) F S rfl rfl rfl fun cdv A outer s H E hr => ?_
  exact (ss_cons (s_set (i := 3) S.nd (d_op opD_add (d_var 1) (d_op opD_mod (d_ix (d_var 0) d_int) (d_op opD_add (d_op opD_sub (d_var 2) (d_var 1)) d_int)))) (ss_cons (s_set (i := 4) S.nd (d_op opD_add (d_var 3) (d_op opD_mod (d_ix (d_var 0) d_int) (d_op opD_add (d_op opD_sub (d_var 2) (d_var 3)) d_int)))) (ss_cons (s_set (i := 5) S.nd (d_callTy bu_str n_str (a_cons (d_op opD_add d_int (d_ix (d_var 0) d_int)) a_nil))) (ss_cons (s_setO (i := 6) S.nd (o_lst (a_cons d_str (a_cons (d_callTy bu_str n_str (a_cons (d_var 3) a_nil)) (a_cons (d_op opD_add (d_op opD_add (d_callTy bu_str n_str (a_cons (d_var 3) a_nil)) d_str) (d_callTy bu_str n_str (a_cons (d_var 4) a_nil))) (a_cons (d_op opD_add d_str (d_var 5)) (a_cons (d_op opD_add (d_op opD_add (d_callTy bu_str n_str (a_cons (d_var 3) a_nil)) d_str) (d_callTy bu_str n_str (a_cons (d_var 4) a_nil))) (a_cons (d_callTy bu_str n_str (a_cons (d_var 4) a_nil)) a_nil)))))))) (ss_cons (s_app 6 (d_op opD_add (d_op opD_add (d_op opD_add (d_op opD_add (d_callTy bu_str n_str (a_cons (d_var 3) a_nil)) d_str) (d_callTy bu_str n_str (a_cons (d_var 4) a_nil))) d_str) (d_var 5))) (ss_one (s_ret (d_ownIx 6 (d_ix (d_var 0) d_int)))))))))
abbrev sm__law_row_N : List Str := ["_law_cell", "_law_mixed", "_law_parts", "_law_one", "_law_day", "_law_days", "_law_weekdays", "_law_words"]
def m__law_row_b : DS := (sSeq (sAsg (dCall 3 m__law_digits (aCons (dVar 0) (aCons (dO (oLst (aCons (dC (.int 8)) (aCons (dC (.int 2)) (aCons (dC (.int 12)) (aCons (dC (.int 31)) (aCons (dC (.int 10)) (aCons (dC (.int 8)) (aCons (dC (.int 5)) (aCons (dC (.int 7)) (aCons (dC (.int 12)) (aCons (dC (.int 12)) (aCons (dC (.int 9)) (aCons (dC (.int 7)) (aCons (dC (.int 24)) (aCons (dC (.int 24)) (aCons (dC (.int 9)) (aCons (dC (.int 7)) (aCons (dC (.int 60)) (aCons (dC (.int 60)) (aCons (dC (.int 9)) aNil))))))))))))))))))))) (aCons (dVar 1) aNil)))) (tgN 2)) (sSeq (sAsg (dBu bStr (aCons (dOp opAdd (dC (.int 1)) (dOp opIx (dVar 2) (dC (.int 3)))) aNil)) (tgN 3)) (sSeq (sAsg (dBu bStr (aCons (dOp opIx (dVar 2) (dC (.int 5))) aNil)) (tgN 4)) (sSeq (sAsgO (oLst (aCons (dC (.str "*")) (aCons (dVar 3) (aCons (dC (.str "*")) (aCons (dC (.str "L")) (aCons (dOp opAdd (dC (.str "L-")) (dVar 3)) (aCons (dOp opAdd (dVar 3) (dC (.str "W"))) (aCons (dC (.str "LW")) (aCons (dC (.str "29")) (aCons (dC (.str "*")) (aCons (dC (.str "31")) (aCons (dOp opAdd (dC (.str "1-7,")) (dVar 3)) (aCons (dC (.str "*/2")) aNil))))))))))))) 5) (sSeq (sIf (asB (dOp opEq (dOp opIx (dVar 2) (dC (.int 3))) (dC (.int 30)))) (sSetI 5 (dC (.int 4)) (dC (.str "L-30"))) sNil) (sSeq (sAsg (dO (oLst (aCons (dC (.str "*")) (aCons (dC (.str "*")) (aCons (dC (.str "1-5")) (aCons (dVar 4) (aCons (dOp opAdd (dOp opAdd (dVar 4) (dC (.str "#"))) (dBu bStr (aCons (dOp opAdd (dC (.int 1)) (dOp opIx (dVar 2) (dC (.int 6)))) aNil))) (aCons (dOp opAdd (dVar 4) (dC (.str "L"))) (aCons (dOp opAdd (dVar 4) (dC (.str "#5"))) (aCons (dC (.str "5-7")) (aCons (dC (.str "*")) (aCons (dC (.str "*")) aNil)))))))))))) (tgN 6)) (sSeq (sAsgO (oLst (aCons (dCall 3 m__law_field (aCons (dSl (dVar 2) (oSome (dC (.int 15))) oNone) (aCons (dC (.int 0)) (aCons (dC (.int 59)) aNil)))) (aCons (dCall 3 m__law_field (aCons (dSl (dVar 2) (oSome (dC (.int 11))) (oSome (dC (.int 15)))) (aCons (dC (.int 0)) (aCons (dC (.int 23)) aNil)))) (aCons (dOwnIx 5 (dOp opIx (dVar 2) (dC (.int 2)))) aNil)))) 7) (sFrz 7 (sSeq (sAsgO (oOp bCat (dVar 7) (dO (oLst (aCons (dCall 3 m__law_field (aCons (dSl (dVar 2) (oSome (dC (.int 7))) (oSome (dC (.int 11)))) (aCons (dC (.int 1)) (aCons (dC (.int 12)) aNil)))) (aCons (dOp opIx (dVar 6) (dOp opIx (dVar 2) (dC (.int 4)))) aNil))))) 7) (sSeq (sIf (asB (dOp opEq (dOp opIx (dVar 2) (dC (.int 0))) (dC (.int 3)))) (sSetTail 7 2 (dO (oLst (aCons (dOp opIx (dO (oLst (aCons (dC (.str "29")) (aCons (dC (.str "*")) aNil)))) (dOp opIx (dVar 2) (dC (.int 1)))) (aCons (dC (.str "2")) (aCons (dOp opIx (dO (oLst (aCons (dC (.str "*")) (aCons (dOp opAdd (dVar 4) (dC (.str "#5"))) aNil)))) (dOp opIx (dVar 2) (dC (.int 1)))) aNil)))))) sNil) (sFrz 7 (sRet (dCall 1 m_read_row (aCons (dOp bJoin (dC (.str " ")) (dVar 7)) aNil))))))))))))))
def m__law_row : List D → Option D := runD 8 (m__law_row_b)
theorem sc_m__law_row : FnScope sm__law_row_N ["_law_cell", "_law_mixed"] (defScope (topS 99)) := ⟨rfl, rfl, rfl, by decide +kernel, rfl, by decide +kernel, by decide +kernel⟩
theorem ok_m__law_row {f : Addr} {fd : FuncData} (F : DFun K "_law_row" "_law_row" (topS 99) f fd) (C__law_digits : Cal P w K mg base "_law_digits" 2 ["_law_cell", "_law_sizes", "_law_mixed"] (spD K c 3 m__law_digits)) (C__law_field : Cal P w K mg base "_law_field" 1 ["_law_parts", "_law_low", "_law_high"] (spD K c 3 m__law_field)) (C_read_row : Cal P w K mg base "read_row" 10 ["text"] (spD K c 1 m_read_row)) (n_str : mg "str" = none) :
    FnOk P w K mg base CX0 11 f fd ["_law_cell", "_law_mixed"] (spD K c 2 (m__law_row)) := by
  have S := sc_m__law_row
  refine okD' (n := 8) (m := 2) (B := m__law_row_b) F S rfl rfl rfl fun cdv A outer s H E hr => ?_
  exact (ss_cons (s_set (i := 2) S.nd (d_call C__law_digits hr (by decide) (a_cons (d_var 0) (a_cons (d_ofO (o_lst (a_cons d_int (a_cons d_int (a_cons d_int (a_cons d_int (a_cons d_int (a_cons d_int (a_cons d_int (a_cons d_int (a_cons d_int (a_cons d_int (a_cons d_int (a_cons d_int (a_cons d_int (a_cons d_int (a_cons d_int (a_cons d_int (a_cons d_int (a_cons d_int (a_cons d_int a_nil))))))))))))))))))))) (a_cons (d_var 1) a_nil))))) (ss_cons (s_set (i := 3) S.nd (d_callTy bu_str n_str (a_cons (d_op opD_add d_int (d_ix (d_var 2) d_int)) a_nil))) (ss_cons (s_set (i := 4) S.nd (d_callTy bu_str n_str (a_cons (d_ix (d_var 2) d_int) a_nil))) (ss_cons (s_setO (i := 5) S.nd (o_lst (a_cons d_str (a_cons (d_var 3) (a_cons d_str (a_cons d_str (a_cons (d_op opD_add d_str (d_var 3)) (a_cons (d_op opD_add (d_var 3) d_str) (a_cons d_str (a_cons d_str (a_cons d_str (a_cons d_str (a_cons (d_op opD_add d_str (d_var 3)) (a_cons d_str a_nil)))))))))))))) (ss_cons (s_if (d_tcmp (opD_eq hr) (d_ix (d_var 2) d_int) d_int) (ss_one (s_setI 5 d_str d_int)) ss_nil) (ss_cons (s_set (i := 6) S.nd (d_ofO (o_lst (a_cons d_str (a_cons d_str (a_cons d_str (a_cons (d_var 4) (a_cons (d_op opD_add (d_op opD_add (d_var 4) d_str) (d_callTy bu_str n_str (a_cons (d_op opD_add d_int (d_ix (d_var 2) d_int)) a_nil))) (a_cons (d_op opD_add (d_var 4) d_str) (a_cons (d_op opD_add (d_var 4) d_str) (a_cons d_str (a_cons d_str (a_cons d_str a_nil))))))))))))) (ss_cons (s_setO (i := 7) S.nd (o_lst (a_cons (d_call C__law_field hr (by decide) (a_cons (d_slice (d_var 2) (o_some d_int) o_none) (a_cons d_int (a_cons d_int a_nil)))) (a_cons (d_call C__law_field hr (by decide) (a_cons (d_slice (d_var 2) (o_some d_int) (o_some d_int)) (a_cons d_int (a_cons d_int a_nil)))) (a_cons (d_ownIx 5 (d_ix (d_var 2) d_int)) a_nil))))) (ss_frz 7 (ss_cons (s_setO (i := 7) S.nd (o_cat (d_var 7) (d_ofO (o_lst (a_cons (d_call C__law_field hr (by decide) (a_cons (d_slice (d_var 2) (o_some d_int) (o_some d_int)) (a_cons d_int (a_cons d_int a_nil)))) (a_cons (d_ix (d_var 6) (d_ix (d_var 2) d_int)) a_nil)))))) (ss_cons (s_if (d_tcmp (opD_eq hr) (d_ix (d_var 2) d_int) d_int) (ss_one (s_setTail 7 2 (d_ofO (o_lst (a_cons (d_ix (d_ofO (o_lst (a_cons d_str (a_cons d_str a_nil)))) (d_ix (d_var 2) d_int)) (a_cons d_str (a_cons (d_ix (d_ofO (o_lst (a_cons d_str (a_cons (d_op opD_add (d_var 4) d_str) a_nil)))) (d_ix (d_var 2) d_int)) a_nil))))))) ss_nil) (ss_frz 7 (ss_one (s_ret (d_call C_read_row hr (by decide) (a_cons (d_join d_str (d_var 7)) a_nil)))))))))))))))
abbrev sm__law_tree_N : List Str := ["_law_script", "_law_n", "_law_deep", "_law_mixed", "_law_parts", "_law_row_here", "_law_word_here", "_law_many", "_law_k"]
def m__law_tree_b (self : List D → Option D) : DS := (sSeq (sAsg (dCall 3 m__law_digits (aCons (dCall 2 m__law_cell_at (aCons (dVar 0) (aCons (dOp opAdd (dC (.int 1)) (dOp opMul (dC (.int 2)) (dVar 1))) aNil))) (aCons (dO (oLst (aCons (dC (.int 9)) (aCons (dC (.int 3)) (aCons (dC (.int 16)) aNil))))) (aCons (dVar 3) aNil)))) (tgN 4)) (sSeq (sIf (dOrT (asB (dOp opEq (dVar 2) (dC (.int 0)))) (asB (dOp opLt (dOp opIx (dVar 4) (dC (.int 0))) (dC (.int 2))))) (sSeq (sIf (asB (dOp opEq (dOp opIx (dVar 4) (dC (.int 2))) (dC (.int 3)))) (sRet (dTup (aCons (dC (.str "none")) (aCons (dO (oLst aNil)) aNil)))) sNil) (sSeq (sAsg (dCall 2 m__law_row (aCons (dCall 2 m__law_cell_at (aCons (dVar 0) (aCons (dOp opAdd (dC (.int 2)) (dOp opMul (dC (.int 2)) (dVar 1))) aNil))) (aCons (dVar 3) aNil))) (tgN 5)) (sRet (dTup (aCons (dC (.str "row")) (aCons (dO (oLst (aCons (dVar 5) (aCons (dMeth 0 t_times (dVar 5) aNil) aNil)))) aNil)))))) sNil) (sSeq (sAsg (dOp opIx (dO (oLst (aCons (dC (.str "join")) (aCons (dC (.str "meet")) (aCons (dC (.str "less")) (aCons (dC (.str "turn")) (aCons (dC (.str "join")) (aCons (dC (.str "less")) (aCons (dC (.str "turn")) aNil))))))))) (dOp opSub (dOp opIx (dVar 4) (dC (.int 0))) (dC (.int 2)))) (tgN 6)) (sSeq (sAsg (dOp opDix (dDct [(Sum.inr "join"), (Sum.inr "meet"), (Sum.inr "less"), (Sum.inr "turn")] (aCons (dOp opAdd (dC (.int 1)) (dOp opIx (dVar 4) (dC (.int 1)))) (aCons (dOp opAdd (dC (.int 1)) (dOp opIx (dVar 4) (dC (.int 1)))) (aCons (dC (.int 2)) (aCons (dC (.int 1)) aNil))))) (dVar 6)) (tgN 7)) (sRet (dTup (aCons (dVar 6) (aCons (dO (oLc (itR1 (aCons (dVar 7) aNil)) (tgN 8) tTrue (dCall 4 self (aCons (dVar 0) (aCons (dOp opAdd (dOp opAdd (dOp opMul (dC (.int 3)) (dVar 1)) (dC (.int 1))) (dVar 8)) (aCons (dOp opSub (dVar 2) (dC (.int 1))) (aCons (dVar 3) aNil))))) [8])) aNil))))))))
def m__law_tree_f (self : List D → Option D) : List D → Option D := runD 9 (m__law_tree_b self)
theorem sc_m__law_tree : FnScope sm__law_tree_N ["_law_script", "_law_n", "_law_deep", "_law_mixed"] (defScope (topS 100)) := ⟨rfl, rfl, rfl, by decide +kernel, rfl, by decide +kernel, by decide +kernel⟩
theorem ok_m__law_tree {f : Addr} {fd : FuncData} (F : DFun K "_law_tree" "_law_tree" (topS 100) f fd) {lv : Nat} {self : List D → Option D} (hlv : 11 ≤ lv) (C_self : Cal P w K mg base "_law_tree" lv ["_law_script", "_law_n", "_law_deep", "_law_mixed"] (spD K c 4 self)) (C__law_digits : Cal P w K mg base "_law_digits" 2 ["_law_cell", "_law_sizes", "_law_mixed"] (spD K c 3 m__law_digits)) (C__law_cell_at : Cal P w K mg base "_law_cell_at" 1 ["_law_script", "_law_k"] (spD K c 2 m__law_cell_at)) (C__law_row : Cal P w K mg base "_law_row" 11 ["_law_cell", "_law_mixed"] (spD K c 2 m__law_row)) (M_times : MCal P w K mg base c "times" 2 0 t_times) (n_range : mg "range" = none) :
    FnOk P w K mg base CX0 (lv + 1) f fd ["_law_script", "_law_n", "_law_deep", "_law_mixed"] (spD K c 4 (m__law_tree_f self)) := by
  have S := sc_m__law_tree
  refine okD' (n := 9) (m := 4) (B := m__law_tree_b self) F S rfl rfl rfl fun cdv A outer s H E hr => ?_
  exact (ss_cons (s_set (i := 4) S.nd (d_call C__law_digits hr (by omega) (a_cons (d_call C__law_cell_at hr (by omega) (a_cons (d_var 0) (a_cons (d_op opD_add d_int (d_op opD_mul d_int (d_var 1))) a_nil))) (a_cons (d_ofO (o_lst (a_cons d_int (a_cons d_int (a_cons d_int a_nil))))) (a_cons (d_var 3) a_nil))))) (ss_cons (s_if (PW.pt (d_wor (d_tcmp (opD_eq hr) (d_var 2) d_int) (d_wor1 (d_tcmp opD_lt (d_ix (d_var 4) d_int) d_int)))) (ss_cons (s_if (d_tcmp (opD_eq hr) (d_ix (d_var 4) d_int) d_int) (ss_one (s_ret (d_tup (a_cons d_str (a_cons (d_ofO (o_lst a_nil)) a_nil))))) ss_nil) (ss_cons (s_set (i := 5) S.nd (d_call C__law_row hr (by omega) (a_cons (d_call C__law_cell_at hr (by omega) (a_cons (d_var 0) (a_cons (d_op opD_add d_int (d_op opD_mul d_int (d_var 1))) a_nil))) (a_cons (d_var 3) a_nil)))) (ss_one (s_ret (d_tup (a_cons d_str (a_cons (d_ofO (o_lst (a_cons (d_var 5) (a_cons (d_meth0 M_times hr (by omega) (d_var 5)) a_nil)))) a_nil))))))) ss_nil) (ss_cons (s_set (i := 6) S.nd (d_ix (d_ofO (o_lst (a_cons d_str (a_cons d_str (a_cons d_str (a_cons d_str (a_cons d_str (a_cons d_str (a_cons d_str a_nil))))))))) (d_op opD_sub (d_ix (d_var 4) d_int) d_int))) (ss_cons (s_set (i := 7) S.nd (d_dix hr (d_dct (dps_cons (x := (Sum.inr "join")) pe_str (d_op opD_add d_int (d_ix (d_var 4) d_int)) (dps_cons (x := (Sum.inr "meet")) pe_str (d_op opD_add d_int (d_ix (d_var 4) d_int)) (dps_cons (x := (Sum.inr "less")) pe_str d_int (dps_cons (x := (Sum.inr "turn")) pe_str d_int dps_nil)))) (by decide +kernel) (by decide)) (d_var 6))) (ss_one (s_ret (d_tup (a_cons (d_var 6) (a_cons (d_ofO (o_lc (own := [("_law_k", 8)]) rfl S.nd (it_r1 n_range (a_cons (d_var 7) a_nil)) (blkOk_by (own := [("_law_k", 8)]) (N := sm__law_tree_N) (sc := defScope (topS 100)) (by decide +kernel)) (tgN_in (by decide)) (fun _ _ _ _ _ => (g_name (i := 8) S.nd)) (fun _ _ _ _ _ => ts_nil) (fun _ _ _ _ _ => (d_call C_self hr (Nat.le_refl _) (a_cons (d_var 0) (a_cons (d_op opD_add (d_op opD_add (d_op opD_mul d_int (d_var 1)) d_int) (d_var 8)) (a_cons (d_op opD_sub (d_var 2) d_int) (a_cons (d_var 3) a_nil)))))))) a_nil)))))))))
def m__law_tree : Nat → List D → Option D
  | 0 => fun _ => none
  | n + 1 => m__law_tree_f (m__law_tree n)
theorem rec_m__law_tree {f : Addr} {fd : FuncData} (F : DFun K "_law_tree" "_law_tree" (topS 100) f fd) (hm : mg "_law_tree" = some (.ref f)) (hb : Binds K fd ["_law_script", "_law_n", "_law_deep", "_law_mixed"] []) (C__law_digits : Cal P w K mg base "_law_digits" 2 ["_law_cell", "_law_sizes", "_law_mixed"] (spD K c 3 m__law_digits)) (C__law_cell_at : Cal P w K mg base "_law_cell_at" 1 ["_law_script", "_law_k"] (spD K c 2 m__law_cell_at)) (C__law_row : Cal P w K mg base "_law_row" 11 ["_law_cell", "_law_mixed"] (spD K c 2 m__law_row)) (M_times : MCal P w K mg base c "times" 2 0 t_times) (n_range : mg "range" = none) :
    ∀ n, FnOk P w K mg base CX0 (11 + n) f fd ["_law_script", "_law_n", "_law_deep", "_law_mixed"] (spD K c 4 (m__law_tree n))
  | 0 => fnOk_none
  | n + 1 => ok_m__law_tree F (lv := 11 + n) (hlv := Nat.le_add_right _ _) (C_self := cal_mk hm F.kp hb (rec_m__law_tree F hm hb C__law_digits C__law_cell_at C__law_row M_times n_range n)) (C__law_digits := C__law_digits) (C__law_cell_at := C__law_cell_at) (C__law_row := C__law_row) (M_times := M_times) (n_range := n_range)
abbrev sm__law_joined_N : List Str := ["_law_word_here", "_law_one", "_law_other"]
def m__law_joined_b : DS := (sSeq (sIf (asB (dOp opEq (dVar 0) (dC (.str "join")))) (sRet (dOp opOr (dVar 1) (dVar 2))) sNil) (sSeq (sIf (asB (dOp opEq (dVar 0) (dC (.str "meet")))) (sRet (dOp opAnd (dVar 1) (dVar 2))) sNil) (sRet (dOp opAnd (dVar 1) (dOp opSub (dOp opSub (dOp opShl (dC (.int 1)) (dC (.int 1440))) (dC (.int 1))) (dVar 2))))))
def m__law_joined : List D → Option D := runD 3 (m__law_joined_b)
theorem sc_m__law_joined : FnScope sm__law_joined_N ["_law_word_here", "_law_one", "_law_other"] (defScope (topS 102)) := ⟨rfl, rfl, rfl, by decide +kernel, rfl, by decide +kernel, by decide +kernel⟩
theorem ok_m__law_joined {f : Addr} {fd : FuncData} (F : DFun K "_law_joined" "_law_joined" (topS 102) f fd)  :
    FnOk P w K mg base CX0 1 f fd ["_law_word_here", "_law_one", "_law_other"] (spD K c 3 (m__law_joined)) := by
  have S := sc_m__law_joined
  refine okD' (n := 3) (m := 3) (B := m__law_joined_b) F S rfl rfl rfl fun cdv A outer s H E hr => ?_
  exact (ss_cons (s_if (d_tcmp (opD_eq hr) (d_var 0) d_str) (ss_one (s_ret (d_op opD_or (d_var 1) (d_var 2)))) ss_nil) (ss_cons (s_if (d_tcmp (opD_eq hr) (d_var 0) d_str) (ss_one (s_ret (d_op opD_and (d_var 1) (d_var 2)))) ss_nil) (ss_one (s_ret (d_op opD_and (d_var 1) (d_op opD_sub (d_op opD_sub (d_op opD_shl d_int d_int) d_int) (d_var 2)))))))
abbrev sm__law_masks_N : List Str := ["_law_tree_here", "_law_kind", "_law_word_here", "_law_parts", "_law_last", "_law_days", "_law_found", "_law_part", "_law_more", "_law_k", "_law_one"]
def m__law_masks_b (self : List D → Option D) : DS := (sSeq (sAsg (dVar 0) (tgT [2, 3])) (sSeq (sAsg (dOp opIx (dCall 1 m_month_at (aCons (dVar 1) aNil)) (dC (.int 1))) (tgN 4)) (sSeq (sIf (asB (dOp opEq (dVar 2) (dC (.str "none")))) (sRet (dOp opMul (dO (oLst (aCons (dC (.int 0)) aNil))) (dVar 4))) sNil) (sSeq (sIf (asB (dOp opEq (dVar 2) (dC (.str "row")))) (sSeq (sAsg (dMeth 1 t_days_in (dOp opIx (dVar 3) (dC (.int 0))) (aCons (dVar 1) aNil)) (tgN 5)) (sRet (dO (oLc (itR2 (aCons (dC (.int 1)) (aCons (dOp opAdd (dVar 4) (dC (.int 1))) aNil))) (tgN 9) tTrue (dOp opMul (dOp opIx (dVar 3) (dC (.int 1))) (dOp opAnd (dOp opShr (dVar 5) (dVar 9)) (dC (.int 1)))) [9])))) sNil) (sSeq (sAsg (dCall 2 self (aCons (dOp opIx (dVar 3) (dC (.int 0))) (aCons (dVar 1) aNil))) (tgN 6)) (sSeq (sIf (asB (dOp opEq (dVar 2) (dC (.str "turn")))) (sRet (dO (oLc (itE (dVar 6)) (tgN 10) tTrue (dOp opSub (dOp opSub (dOp opShl (dC (.int 1)) (dC (.int 1440))) (dC (.int 1))) (dVar 10)) [10]))) sNil) (sSeq (sFor (itE (dSl (dVar 3) (oSome (dC (.int 1))) oNone)) (tgN 7) (sSeq (sAsg (dCall 2 self (aCons (dVar 7) (aCons (dVar 1) aNil))) (tgN 8)) (sAsg (dO (oLc (itR1 (aCons (dVar 4) aNil)) (tgN 9) tTrue (dCall 3 m__law_joined (aCons (dVar 2) (aCons (dOp opIx (dVar 6) (dVar 9)) (aCons (dOp opIx (dVar 8) (dVar 9)) aNil)))) [9])) (tgN 6)))) (sRet (dVar 6)))))))))
def m__law_masks_f (self : List D → Option D) : List D → Option D := runD 11 (m__law_masks_b self)
theorem sc_m__law_masks : FnScope sm__law_masks_N ["_law_tree_here", "_law_kind"] (defScope (topS 103)) := ⟨rfl, rfl, rfl, by decide +kernel, rfl, by decide +kernel, by decide +kernel⟩
theorem ok_m__law_masks {f : Addr} {fd : FuncData} (F : DFun K "_law_masks" "_law_masks" (topS 103) f fd) {lv : Nat} {self : List D → Option D} (hlv : 5 ≤ lv) (C_self : Cal P w K mg base "_law_masks" lv ["_law_tree_here", "_law_kind"] (spD K c 2 self)) (C_month_at : Cal P w K mg base "month_at" 3 ["kind"] (spD K c 1 m_month_at)) (C__law_joined : Cal P w K mg base "_law_joined" 1 ["_law_word_here", "_law_one", "_law_other"] (spD K c 3 m__law_joined)) (M_days_in : MCal P w K mg base c "days_in" 5 1 t_days_in) (n_range : mg "range" = none) :
    FnOk P w K mg base CX0 (lv + 1) f fd ["_law_tree_here", "_law_kind"] (spD K c 2 (m__law_masks_f self)) := by
  have S := sc_m__law_masks
  refine okD' (n := 11) (m := 2) (B := m__law_masks_b self) F S rfl rfl rfl fun cdv A outer s H E hr => ?_
  exact (ss_cons (s_asg (d_var 0) (g_tup (is := [2, 3]) rfl (gs_cons (i := 2) S.nd (gs_cons (i := 3) S.nd gs_nil)))) (ss_cons (s_set (i := 4) S.nd (d_ix (d_call C_month_at hr (by omega) (a_cons (d_var 1) a_nil)) d_int)) (ss_cons (s_if (d_tcmp (opD_eq hr) (d_var 2) d_str) (ss_one (s_ret (d_op opD_mul (d_ofO (o_lst (a_cons d_int a_nil))) (d_var 4)))) ss_nil) (ss_cons (s_if (d_tcmp (opD_eq hr) (d_var 2) d_str) (ss_cons (s_set (i := 5) S.nd (d_meth M_days_in hr (by omega) (d_ix (d_var 3) d_int) (a_cons (d_var 1) a_nil))) (ss_one (s_ret (d_ofO (o_lc (own := [("_law_k", 9)]) rfl S.nd (it_r2 n_range (a_cons d_int (a_cons (d_op opD_add (d_var 4) d_int) a_nil))) (blkOk_by (own := [("_law_k", 9)]) (N := sm__law_masks_N) (sc := defScope (topS 103)) (by decide +kernel)) (tgN_in (by decide)) (fun _ _ _ _ _ => (g_name (i := 9) S.nd)) (fun _ _ _ _ _ => ts_nil) (fun _ _ _ _ _ => (d_op opD_mul (d_ix (d_var 3) d_int) (d_op opD_and (d_op opD_shr (d_var 5) (d_var 9)) d_int)))))))) ss_nil) (ss_cons (s_set (i := 6) S.nd (d_call C_self hr (Nat.le_refl _) (a_cons (d_ix (d_var 3) d_int) (a_cons (d_var 1) a_nil)))) (ss_cons (s_if (d_tcmp (opD_eq hr) (d_var 2) d_str) (ss_one (s_ret (d_ofO (o_lc (own := [("_law_one", 10)]) rfl S.nd (it_e (d_var 6)) (blkOk_by (own := [("_law_one", 10)]) (N := sm__law_masks_N) (sc := defScope (topS 103)) (by decide +kernel)) (tgN_in (by decide)) (fun _ _ _ _ _ => (g_name (i := 10) S.nd)) (fun _ _ _ _ _ => ts_nil) (fun _ _ _ _ _ => (d_op opD_sub (d_op opD_sub (d_op opD_shl d_int d_int) d_int) (d_var 10))))))) ss_nil) (ss_cons (s_for PassesOwn.never rfl (it_e (d_slice (d_var 3) (o_some d_int) o_none)) (g_name (i := 7) S.nd) (ss_cons (s_set (i := 8) S.nd (d_call C_self hr (Nat.le_refl _) (a_cons (d_var 7) (a_cons (d_var 1) a_nil)))) (ss_one (s_set (i := 6) S.nd (d_ofO (o_lc (own := [("_law_k", 9)]) rfl S.nd (it_r1 n_range (a_cons (d_var 4) a_nil)) (blkOk_by (own := [("_law_k", 9)]) (N := sm__law_masks_N) (sc := defScope (topS 103)) (by decide +kernel)) (tgN_in (by decide)) (fun _ _ _ _ _ => (g_name (i := 9) S.nd)) (fun _ _ _ _ _ => ts_nil) (fun _ _ _ _ _ => (d_call C__law_joined hr (by omega) (a_cons (d_var 2) (a_cons (d_ix (d_var 6) (d_var 9)) (a_cons (d_ix (d_var 8) (d_var 9)) a_nil))))))))))) (ss_one (s_ret (d_var 6))))))))))
def m__law_masks : Nat → List D → Option D
  | 0 => fun _ => none
  | n + 1 => m__law_masks_f (m__law_masks n)
theorem rec_m__law_masks {f : Addr} {fd : FuncData} (F : DFun K "_law_masks" "_law_masks" (topS 103) f fd) (hm : mg "_law_masks" = some (.ref f)) (hb : Binds K fd ["_law_tree_here", "_law_kind"] []) (C_month_at : Cal P w K mg base "month_at" 3 ["kind"] (spD K c 1 m_month_at)) (C__law_joined : Cal P w K mg base "_law_joined" 1 ["_law_word_here", "_law_one", "_law_other"] (spD K c 3 m__law_joined)) (M_days_in : MCal P w K mg base c "days_in" 5 1 t_days_in) (n_range : mg "range" = none) :
    ∀ n, FnOk P w K mg base CX0 (5 + n) f fd ["_law_tree_here", "_law_kind"] (spD K c 2 (m__law_masks n))
  | 0 => fnOk_none
  | n + 1 => ok_m__law_masks F (lv := 5 + n) (hlv := Nat.le_add_right _ _) (C_self := cal_mk hm F.kp hb (rec_m__law_masks F hm hb C_month_at C__law_joined M_days_in n_range n)) (C_month_at := C_month_at) (C__law_joined := C__law_joined) (M_days_in := M_days_in) (n_range := n_range)
abbrev sm__law_rare_N : List Str := ["_law_cell", "_law_mixed", "_law_parts", "_law_one", "_law_some"]
def m__law_rare_b : DS := (sSeq (sAsg (dCall 3 m__law_digits (aCons (dVar 0) (aCons (dO (oLst (aCons (dC (.int 7)) (aCons (dC (.int 7)) (aCons (dC (.int 60)) (aCons (dC (.int 24)) aNil)))))) (aCons (dVar 1) aNil)))) (tgN 2)) (sSeq (sAsg (dBu bStr (aCons (dOp opIx (dVar 2) (dC (.int 1))) aNil)) (tgN 3)) (sSeq (sAsg (dO (oLst (aCons (dOp opAdd (dOp opAdd (dC (.str "* 2 ")) (dVar 3)) (dC (.str "#5"))) (aCons (dC (.str "29 2 *")) (aCons (dC (.str "31 1,3 *")) (aCons (dC (.str "LW 2 *")) (aCons (dOp opAdd (dOp opAdd (dC (.str "* * ")) (dVar 3)) (dC (.str "#5"))) (aCons (dC (.str "1W 11 *")) (aCons (dC (.str "30 2 *")) aNil))))))))) (tgN 4)) (sRet (dCall 1 m_read_row (aCons (dOp opAdd (dOp opAdd (dOp opAdd (dOp opAdd (dBu bStr (aCons (dOp opIx (dVar 2) (dC (.int 2))) aNil)) (dC (.str " "))) (dBu bStr (aCons (dOp opIx (dVar 2) (dC (.int 3))) aNil))) (dC (.str " "))) (dOp opIx (dVar 4) (dOp opIx (dVar 2) (dC (.int 0))))) aNil))))))
def m__law_rare : List D → Option D := runD 5 (m__law_rare_b)
theorem sc_m__law_rare : FnScope sm__law_rare_N ["_law_cell", "_law_mixed"] (defScope (topS 104)) := ⟨rfl, rfl, rfl, by decide +kernel, rfl, by decide +kernel, by decide +kernel⟩
theorem ok_m__law_rare {f : Addr} {fd : FuncData} (F : DFun K "_law_rare" "_law_rare" (topS 104) f fd) (C__law_digits : Cal P w K mg base "_law_digits" 2 ["_law_cell", "_law_sizes", "_law_mixed"] (spD K c 3 m__law_digits)) (C_read_row : Cal P w K mg base "read_row" 10 ["text"] (spD K c 1 m_read_row)) (n_str : mg "str" = none) :
    FnOk P w K mg base CX0 11 f fd ["_law_cell", "_law_mixed"] (spD K c 2 (m__law_rare)) := by
  have S := sc_m__law_rare
  refine okD' (n := 5) (m := 2) (B := m__law_rare_b) F S rfl rfl rfl fun cdv A outer s H E hr => ?_
  exact (ss_cons (s_set (i := 2) S.nd (d_call C__law_digits hr (by decide) (a_cons (d_var 0) (a_cons (d_ofO (o_lst (a_cons d_int (a_cons d_int (a_cons d_int (a_cons d_int a_nil)))))) (a_cons (d_var 1) a_nil))))) (ss_cons (s_set (i := 3) S.nd (d_callTy bu_str n_str (a_cons (d_ix (d_var 2) d_int) a_nil))) (ss_cons (s_set (i := 4) S.nd (d_ofO (o_lst (a_cons (d_op opD_add (d_op opD_add d_str (d_var 3)) d_str) (a_cons d_str (a_cons d_str (a_cons d_str (a_cons (d_op opD_add (d_op opD_add d_str (d_var 3)) d_str) (a_cons d_str (a_cons d_str a_nil)))))))))) (ss_one (s_ret (d_call C_read_row hr (by decide) (a_cons (d_op opD_add (d_op opD_add (d_op opD_add (d_op opD_add (d_callTy bu_str n_str (a_cons (d_ix (d_var 2) d_int) a_nil)) d_str) (d_callTy bu_str n_str (a_cons (d_ix (d_var 2) d_int) a_nil))) d_str) (d_ix (d_var 4) (d_ix (d_var 2) d_int))) a_nil)))))))
abbrev sm__law_two_N : List Str := ["_law_script", "_law_way", "_law_mixed", "_law_one", "_law_other", "_law_rows_here", "_law_rare_here", "_law_some", "_law_k"]
def m__law_two_b : DS := (sSeq (sAsg (dCall 4 (m__law_tree 8) (aCons (dVar 0) (aCons (dC (.int 1)) (aCons (dC (.int 1)) (aCons (dVar 2) aNil))))) (tgN 3)) (sSeq (sAsg (dCall 4 (m__law_tree 8) (aCons (dVar 0) (aCons (dC (.int 2)) (aCons (dC (.int 1)) (aCons (dVar 2) aNil))))) (tgN 4)) (sSeq (sAsg (dO (oLc (itR1 (aCons (dC (.int 2)) aNil)) (tgN 8) tTrue (dCall 2 m__law_rare (aCons (dCall 2 m__law_cell_at (aCons (dVar 0) (aCons (dOp opAdd (dC (.int 28)) (dVar 8)) aNil))) (aCons (dVar 2) aNil))) [8])) (tgN 5)) (sSeq (sAsg (dTup (aCons (dC (.str "row")) (aCons (dO (oLst (aCons (dOp opIx (dVar 5) (dC (.int 0))) (aCons (dMeth 0 t_times (dOp opIx (dVar 5) (dC (.int 0))) aNil) aNil)))) aNil))) (tgN 6)) (sSeq (sAsgO (oLst (aCons (dTup (aCons (dVar 3) (aCons (dVar 4) aNil))) (aCons (dTup (aCons (dVar 3) (aCons (dTup (aCons (dC (.str "less")) (aCons (dO (oLst (aCons (dVar 3) (aCons (dVar 6) aNil)))) aNil))) aNil))) (aCons (dTup (aCons (dVar 3) (aCons (dTup (aCons (dC (.str "join")) (aCons (dO (oLst (aCons (dVar 6) (aCons (dVar 3) aNil)))) aNil))) aNil))) (aCons (dTup (aCons (dVar 3) (aCons (dTup (aCons (dC (.str "less")) (aCons (dO (oLst (aCons (dVar 4) (aCons (dVar 3) aNil)))) aNil))) aNil))) aNil))))) 7) (sSeq (sApp 7 (dTup (aCons (dTup (aCons (dC (.str "turn")) (aCons (dO (oLst (aCons (dTup (aCons (dC (.str "turn")) (aCons (dO (oLst (aCons (dVar 3) aNil))) aNil))) aNil))) aNil))) (aCons (dVar 3) aNil)))) (sSeq (sApp 7 (dTup (aCons (dVar 3) (aCons (dTup (aCons (dC (.str "turn")) (aCons (dO (oLst (aCons (dVar 3) aNil))) aNil))) aNil)))) (sSeq (sApp 7 (dTup (aCons (dVar 3) (aCons (dTup (aCons (dC (.str "meet")) (aCons (dO (oLst (aCons (dVar 4) (aCons (dVar 3) aNil)))) aNil))) aNil)))) (sSeq (sApp 7 (dTup (aCons (dVar 6) (aCons (dTup (aCons (dC (.str "turn")) (aCons (dO (oLst (aCons (dVar 6) aNil))) aNil))) aNil)))) (sSeq (sApp 7 (dTup (aCons (dVar 6) (aCons (dTup (aCons (dC (.str "row")) (aCons (dO (oLst (aCons (dOp opIx (dVar 5) (dC (.int 1))) (aCons (dMeth 0 t_times (dOp opIx (dVar 5) (dC (.int 1))) aNil) aNil)))) aNil))) aNil)))) (sRet (dOwnIx 7 (dVar 1)))))))))))))
def m__law_two : List D → Option D := runD 9 (m__law_two_b)
theorem sc_m__law_two : FnScope sm__law_two_N ["_law_script", "_law_way", "_law_mixed"] (defScope (topS 105)) := ⟨rfl, rfl, rfl, by decide +kernel, rfl, by decide +kernel, by decide +kernel⟩
theorem ok_m__law_two {f : Addr} {fd : FuncData} (F : DFun K "_law_two" "_law_two" (topS 105) f fd) (C__law_tree : Cal P w K mg base "_law_tree" 19 ["_law_script", "_law_n", "_law_deep", "_law_mixed"] (spD K c 4 (m__law_tree 8))) (C__law_rare : Cal P w K mg base "_law_rare" 11 ["_law_cell", "_law_mixed"] (spD K c 2 m__law_rare)) (C__law_cell_at : Cal P w K mg base "_law_cell_at" 1 ["_law_script", "_law_k"] (spD K c 2 m__law_cell_at)) (M_times : MCal P w K mg base c "times" 2 0 t_times) (n_range : mg "range" = none) :
    FnOk P w K mg base CX0 20 f fd ["_law_script", "_law_way", "_law_mixed"] (spD K c 3 (m__law_two)) := by
  have S := sc_m__law_two
  refine okD' (n := 9) (m := 3) (B := m__law_two_b) F S rfl rfl rfl fun cdv A outer s H E hr => ?_
  exact (ss_cons (s_set (i := 3) S.nd (d_call C__law_tree hr (by decide) (a_cons (d_var 0) (a_cons d_int (a_cons d_int (a_cons (d_var 2) a_nil)))))) (ss_cons (s_set (i := 4) S.nd (d_call C__law_tree hr (by decide) (a_cons (d_var 0) (a_cons d_int (a_cons d_int (a_cons (d_var 2) a_nil)))))) (ss_cons (s_setLc (i := 5) (own := [("_law_k", 8)]) rfl S.nd (it_r1 n_range (a_cons d_int a_nil)) (blkOk_by (own := [("_law_k", 8)]) (N := sm__law_two_N) (sc := defScope (topS 105)) (by decide +kernel)) (tgN_in (by decide)) (fun _ _ _ _ _ => (g_name (i := 8) S.nd)) (fun _ _ _ _ _ => ts_nil) (fun _ _ _ _ _ => (d_call C__law_rare hr (by decide) (a_cons (d_call C__law_cell_at hr (by decide) (a_cons (d_var 0) (a_cons (d_op opD_add d_int (d_var 8)) a_nil))) (a_cons (d_var 2) a_nil))))) (ss_cons (s_set (i := 6) S.nd (d_tup (a_cons d_str (a_cons (d_ofO (o_lst (a_cons (d_ix (d_var 5) d_int) (a_cons (d_meth0 M_times hr (by decide) (d_ix (d_var 5) d_int)) a_nil)))) a_nil)))) (ss_cons (s_setO (i := 7) S.nd (o_lst (a_cons (d_tup (a_cons (d_var 3) (a_cons (d_var 4) a_nil))) (a_cons (d_tup (a_cons (d_var 3) (a_cons (d_tup (a_cons d_str (a_cons (d_ofO (o_lst (a_cons (d_var 3) (a_cons (d_var 6) a_nil)))) a_nil))) a_nil))) (a_cons (d_tup (a_cons (d_var 3) (a_cons (d_tup (a_cons d_str (a_cons (d_ofO (o_lst (a_cons (d_var 6) (a_cons (d_var 3) a_nil)))) a_nil))) a_nil))) (a_cons (d_tup (a_cons (d_var 3) (a_cons (d_tup (a_cons d_str (a_cons (d_ofO (o_lst (a_cons (d_var 4) (a_cons (d_var 3) a_nil)))) a_nil))) a_nil))) a_nil)))))) (ss_cons (s_app 7 (d_tup (a_cons (d_tup (a_cons d_str (a_cons (d_ofO (o_lst (a_cons (d_tup (a_cons d_str (a_cons (d_ofO (o_lst (a_cons (d_var 3) a_nil))) a_nil))) a_nil))) a_nil))) (a_cons (d_var 3) a_nil)))) (ss_cons (s_app 7 (d_tup (a_cons (d_var 3) (a_cons (d_tup (a_cons d_str (a_cons (d_ofO (o_lst (a_cons (d_var 3) a_nil))) a_nil))) a_nil)))) (ss_cons (s_app 7 (d_tup (a_cons (d_var 3) (a_cons (d_tup (a_cons d_str (a_cons (d_ofO (o_lst (a_cons (d_var 4) (a_cons (d_var 3) a_nil)))) a_nil))) a_nil)))) (ss_cons (s_app 7 (d_tup (a_cons (d_var 6) (a_cons (d_tup (a_cons d_str (a_cons (d_ofO (o_lst (a_cons (d_var 6) a_nil))) a_nil))) a_nil)))) (ss_cons (s_app 7 (d_tup (a_cons (d_var 6) (a_cons (d_tup (a_cons d_str (a_cons (d_ofO (o_lst (a_cons (d_ix (d_var 5) d_int) (a_cons (d_meth0 M_times hr (by decide) (d_ix (d_var 5) d_int)) a_nil)))) a_nil))) a_nil)))) (ss_one (s_ret (d_ownIx 7 (d_var 1))))))))))))))
abbrev sm__law_rows_N : List Str := ["_law_tree_here", "_law_rows_here", "_law_part"]
def m__law_rows_b (self : List D → Option D) : DS := (sSeq (sIf (asB (dOp opEq (dOp opIx (dVar 0) (dC (.int 0))) (dC (.str "row")))) (sRet (dSl (dOp opIx (dVar 0) (dC (.int 1))) oNone (oSome (dC (.int 1))))) sNil) (sSeq (sAsg (dO (oLst aNil)) (tgN 1)) (sSeq (sFor (itE (dOp opIx (dVar 0) (dC (.int 1)))) (tgN 2) (sAsg (dOp opAdd (dVar 1) (dCall 1 self (aCons (dVar 2) aNil))) (tgN 1))) (sRet (dVar 1)))))
def m__law_rows_f (self : List D → Option D) : List D → Option D := runD 3 (m__law_rows_b self)
theorem sc_m__law_rows : FnScope sm__law_rows_N ["_law_tree_here"] (defScope (topS 106)) := ⟨rfl, rfl, rfl, by decide +kernel, rfl, by decide +kernel, by decide +kernel⟩
theorem ok_m__law_rows {f : Addr} {fd : FuncData} (F : DFun K "_law_rows" "_law_rows" (topS 106) f fd) {lv : Nat} {self : List D → Option D} (hlv : 0 ≤ lv) (C_self : Cal P w K mg base "_law_rows" lv ["_law_tree_here"] (spD K c 1 self)) :
    FnOk P w K mg base CX0 (lv + 1) f fd ["_law_tree_here"] (spD K c 1 (m__law_rows_f self)) := by
  have S := sc_m__law_rows
  refine okD' (n := 3) (m := 1) (B := m__law_rows_b self) F S rfl rfl rfl fun cdv A outer s H E hr => ?_
  exact (ss_cons (s_if (d_tcmp (opD_eq hr) (d_ix (d_var 0) d_int) d_str) (ss_one (s_ret (d_slice (d_ix (d_var 0) d_int) o_none (o_some d_int)))) ss_nil) (ss_cons (s_set (i := 1) S.nd (d_ofO (o_lst a_nil))) (ss_cons (s_for PassesOwn.never rfl (it_e (d_ix (d_var 0) d_int)) (g_name (i := 2) S.nd) (ss_one (s_set (i := 1) S.nd (d_op opD_add (d_var 1) (d_call C_self hr (Nat.le_refl _) (a_cons (d_var 2) a_nil)))))) (ss_one (s_ret (d_var 1))))))
def m__law_rows : Nat → List D → Option D
  | 0 => fun _ => none
  | n + 1 => m__law_rows_f (m__law_rows n)
theorem rec_m__law_rows {f : Addr} {fd : FuncData} (F : DFun K "_law_rows" "_law_rows" (topS 106) f fd) (hm : mg "_law_rows" = some (.ref f)) (hb : Binds K fd ["_law_tree_here"] [])  :
    ∀ n, FnOk P w K mg base CX0 (0 + n) f fd ["_law_tree_here"] (spD K c 1 (m__law_rows n))
  | 0 => fnOk_none
  | n + 1 => ok_m__law_rows F (lv := 0 + n) (hlv := Nat.le_add_right _ _) (C_self := cal_mk hm F.kp hb (rec_m__law_rows F hm hb  n)) 
abbrev sm__law_leaves_N : List Str := ["_law_rows_here", "_law_row_here"]
def m__law_leaves_b : DS := (sRet (dTup (aCons (dC (.str "join")) (aCons (dOp opAdd (dO (oLc (itE (dVar 0)) (tgN 1) tTrue (dTup (aCons (dC (.str "row")) (aCons (dO (oLst (aCons (dVar 1) (aCons (dMeth 0 t_times (dVar 1) aNil) aNil)))) aNil))) [1])) (dO (oLst (aCons (dTup (aCons (dC (.str "none")) (aCons (dO (oLst aNil)) aNil))) aNil)))) aNil))))
def m__law_leaves : List D → Option D := runD 2 (m__law_leaves_b)
theorem sc_m__law_leaves : FnScope sm__law_leaves_N ["_law_rows_here"] (defScope (topS 108)) := ⟨rfl, rfl, rfl, by decide +kernel, rfl, by decide +kernel, by decide +kernel⟩
theorem ok_m__law_leaves {f : Addr} {fd : FuncData} (F : DFun K "_law_leaves" "_law_leaves" (topS 108) f fd) (M_times : MCal P w K mg base c "times" 2 0 t_times) :
    FnOk P w K mg base CX0 3 f fd ["_law_rows_here"] (spD K c 1 (m__law_leaves)) := by
  have S := sc_m__law_leaves
  refine okD' (n := 2) (m := 1) (B := m__law_leaves_b) F S rfl rfl rfl fun cdv A outer s H E hr => ?_
  exact (ss_one (s_ret (d_tup (a_cons d_str (a_cons (d_op opD_add (d_ofO (o_lc (own := [("_law_row_here", 1)]) rfl S.nd (it_e (d_var 0)) (blkOk_by (own := [("_law_row_here", 1)]) (N := sm__law_leaves_N) (sc := defScope (topS 108)) (by decide +kernel)) (tgN_in (by decide)) (fun _ _ _ _ _ => (g_name (i := 1) S.nd)) (fun _ _ _ _ _ => ts_nil) (fun _ _ _ _ _ => (d_tup (a_cons d_str (a_cons (d_ofO (o_lst (a_cons (d_var 1) (a_cons (d_meth0 M_times hr (by decide) (d_var 1)) a_nil)))) a_nil)))))) (d_ofO (o_lst (a_cons (d_tup (a_cons d_str (a_cons (d_ofO (o_lst a_nil)) a_nil))) a_nil)))) a_nil)))))
abbrev sm__law_word_N : List Str := ["_law_one", "_law_other", "_law_mine", "_law_yours", "_law_both", "_law_kind", "_law_a", "_law_b"]
def m__law_word_b : DS := (sSeq (sAsg (dC (.bl false)) (tgN 2)) (sSeq (sAsg (dC (.bl false)) (tgN 3)) (sSeq (sAsg (dC (.bl false)) (tgN 4)) (sSeq (sFor (itR1 (aCons (dC (.int 91)) aNil)) (tgN 5) (sFor (itZip (aCons (dCall 2 (m__law_masks 8) (aCons (dVar 0) (aCons (dVar 5) aNil))) (aCons (dCall 2 (m__law_masks 8) (aCons (dVar 1) (aCons (dVar 5) aNil))) aNil))) (tgT [6, 7]) (sSeq (sAsg (dOr (dVar 2) (dOp opNe (dOp opAnd (dVar 6) (dVar 7)) (dVar 6))) (tgN 2)) (sSeq (sAsg (dOr (dVar 3) (dOp opNe (dOp opAnd (dVar 6) (dVar 7)) (dVar 7))) (tgN 3)) (sAsg (dOr (dVar 4) (dOp opGt (dOp opAnd (dVar 6) (dVar 7)) (dC (.int 0)))) (tgN 4)))))) (sSeq (sIf (dNotT (asB (dVar 2))) (sRet (dOp opIx (dO (oLst (aCons (dC (.str "alike")) (aCons (dC (.str "within")) aNil)))) (dBu bInt (aCons (dVar 3) aNil)))) sNil) (sSeq (sIf (dNotT (asB (dVar 3))) (sRet (dC (.str "around"))) sNil) (sRet (dOp opIx (dO (oLst (aCons (dC (.str "apart")) (aCons (dC (.str "across")) aNil)))) (dBu bInt (aCons (dVar 4) aNil))))))))))
def m__law_word : List D → Option D := runD 8 (m__law_word_b)
theorem sc_m__law_word : FnScope sm__law_word_N ["_law_one", "_law_other"] (defScope (topS 109)) := ⟨rfl, rfl, rfl, by decide +kernel, rfl, by decide +kernel, by decide +kernel⟩
theorem ok_m__law_word {f : Addr} {fd : FuncData} (F : DFun K "_law_word" "_law_word" (topS 109) f fd) (C__law_masks : Cal P w K mg base "_law_masks" 13 ["_law_tree_here", "_law_kind"] (spD K c 2 (m__law_masks 8))) (n_range : mg "range" = none) (n_zip : mg "zip" = none) (n_int : mg "int" = none) :
    FnOk P w K mg base CX0 14 f fd ["_law_one", "_law_other"] (spD K c 2 (m__law_word)) := by
  have S := sc_m__law_word
  refine okD' (n := 8) (m := 2) (B := m__law_word_b) F S rfl rfl rfl fun cdv A outer s H E hr => ?_
  exact (ss_cons (s_set (i := 2) S.nd d_bl) (ss_cons (s_set (i := 3) S.nd d_bl) (ss_cons (s_set (i := 4) S.nd d_bl) (ss_cons (s_for PassesOwn.never rfl (it_r1 n_range (a_cons d_int a_nil)) (g_name (i := 5) S.nd) (ss_one (s_for PassesOwn.never rfl (it_zip n_zip (a_cons (d_call C__law_masks hr (by decide) (a_cons (d_var 0) (a_cons (d_var 5) a_nil))) (a_cons (d_call C__law_masks hr (by decide) (a_cons (d_var 1) (a_cons (d_var 5) a_nil))) a_nil))) (g_tup (is := [6, 7]) rfl (gs_cons (i := 6) S.nd (gs_cons (i := 7) S.nd gs_nil))) (ss_cons (s_set (i := 2) S.nd (d_or (d_var 2) (d_one (d_cmp (opD_ne hr) (d_op opD_and (d_var 6) (d_var 7)) (d_var 6))))) (ss_cons (s_set (i := 3) S.nd (d_or (d_var 3) (d_one (d_cmp (opD_ne hr) (d_op opD_and (d_var 6) (d_var 7)) (d_var 7))))) (ss_one (s_set (i := 4) S.nd (d_or (d_var 4) (d_one (d_cmp opD_gt (d_op opD_and (d_var 6) (d_var 7)) d_int)))))))))) (ss_cons (s_if (d_tnot (d_test (d_var 2))) (ss_one (s_ret (d_ix (d_ofO (o_lst (a_cons d_str (a_cons d_str a_nil)))) (d_callTy bu_int n_int (a_cons (d_var 3) a_nil))))) ss_nil) (ss_cons (s_if (d_tnot (d_test (d_var 3))) (ss_one (s_ret d_str)) ss_nil) (ss_one (s_ret (d_ix (d_ofO (o_lst (a_cons d_str (a_cons d_str a_nil)))) (d_callTy bu_int n_int (a_cons (d_var 4) a_nil)))))))))))
def T_tally : Nat → Nat → Option (List D → Option D)
  | 0 => fun _ => none
  | n + 1 => fun i => match i with
    | 8 => some m_Book_tally
    | 9 => some m_Book_tally
    | 10 => some (m_Joined_tally (T_tally n))
    | 11 => some (m_Met_tally (T_tally n))
    | 12 => some (m_Less_tally (T_tally n))
    | 13 => some (m_Turned_tally (T_tally n))
    | _ => none
def T_depth : Nat → Nat → Option (List D → Option D)
  | 0 => fun _ => none
  | n + 1 => fun i => match i with
    | 8 => some m_Book_depth
    | 9 => some m_Book_depth
    | 10 => some (m_Joined_depth (T_depth n))
    | 11 => some (m_Met_depth (T_depth n))
    | 12 => some (m_Less_depth (T_depth n))
    | 13 => some (m_Turned_depth (T_depth n))
    | _ => none
abbrev sm_need_small_N : List Str := ["books", "book"]
def m_need_small_b : DS := (sSeq (sIf (asB (dOp opGt (dOp opAdd (dC (.int 1)) (dBu bSum (aCons (dO (oLc (itE (dVar 0)) (tgN 1) tTrue (dMeth 0 (T_tally 8) (dVar 1) aNil) [1])) aNil))) (dC k_MOST_COUNTED))) sNever sNil) (sIf (asB (dOp opGt (dOp opAdd (dC (.int 1)) (dBu bMax (aCons (dO (oLc (itE (dVar 0)) (tgN 1) tTrue (dMeth 0 (T_depth 8) (dVar 1) aNil) [1])) aNil))) (dC k_DEEPEST))) sNever sNil))
def m_need_small : List D → Option D := runD 2 (m_need_small_b)
theorem sc_m_need_small : FnScope sm_need_small_N ["books"] (defScope (topS 83)) := ⟨rfl, rfl, rfl, by decide +kernel, rfl, by decide +kernel, by decide +kernel⟩
theorem ok_m_need_small {f : Addr} {fd : FuncData} (F : DFun K "need_small" "need_small" (topS 83) f fd) (M_tally : MCal P w K mg base c "tally" 11 0 (T_tally 8)) (M_depth : MCal P w K mg base c "depth" 11 0 (T_depth 8)) (g_MOST_COUNTED : GlobD K c mg "MOST_COUNTED" k_MOST_COUNTED) (g_DEEPEST : GlobD K c mg "DEEPEST" k_DEEPEST) (n_sum : mg "sum" = none) (n_max : mg "max" = none) :
    FnOk P w K mg base CX0 12 f fd ["books"] (spD K c 1 (m_need_small)) := by
  have S := sc_m_need_small
  refine okD' (n := 2) (m := 1) (B := m_need_small_b) F S rfl rfl rfl fun cdv A outer s H E hr => ?_
  exact (ss_cons (s_if (d_tcmp opD_gt (d_op opD_add d_int (d_callB (bu_sum rfl) n_sum (a_cons (d_ofO (o_lc (own := [("book", 1)]) rfl S.nd (it_e (d_var 0)) (blkOk_by (own := [("book", 1)]) (N := sm_need_small_N) (sc := defScope (topS 83)) (by decide +kernel)) (tgN_in (by decide)) (fun _ _ _ _ _ => (g_name (i := 1) S.nd)) (fun _ _ _ _ _ => ts_nil) (fun _ _ _ _ _ => (d_meth0 M_tally hr (by decide) (d_var 1))))) a_nil))) (d_glob g_MOST_COUNTED)) (ss_one s_never) ss_nil) (ss_one (s_if (d_tcmp opD_gt (d_op opD_add d_int (d_callB (bu_max rfl) n_max (a_cons (d_ofO (o_lc (own := [("book", 1)]) rfl S.nd (it_e (d_var 0)) (blkOk_by (own := [("book", 1)]) (N := sm_need_small_N) (sc := defScope (topS 83)) (by decide +kernel)) (tgN_in (by decide)) (fun _ _ _ _ _ => (g_name (i := 1) S.nd)) (fun _ _ _ _ _ => ts_nil) (fun _ _ _ _ _ => (d_meth0 M_depth hr (by decide) (d_var 1))))) a_nil))) (d_glob g_DEEPEST)) (ss_one s_never) ss_nil)))
abbrev sm_books_of_N : List Str := ["books", "book"]
def m_books_of_b : DS := (sSeq (sIf (dOrT (dNotT (asB (dIsi (isiB "list") (dVar 0)))) (dNotT (asB (dChain opLe opLe (dC (.int 1)) (dBu bLen (aCons (dVar 0) aNil)) (dC k_MOST_PARTS))))) sNever sNil) (sSeq (sFor (itE (dVar 0)) (tgN 1) (sDrop (dCall 1 m_need_book (aCons (dVar 1) aNil)))) (sSeq (sDrop (dCall 1 m_need_small (aCons (dVar 0) aNil))) (sRet (dBu bTuple (aCons (dVar 0) aNil))))))
def m_books_of : List D → Option D := runD 2 (m_books_of_b)
theorem sc_m_books_of : FnScope sm_books_of_N ["books"] (defScope (topS 84)) := ⟨rfl, rfl, rfl, by decide +kernel, rfl, by decide +kernel, by decide +kernel⟩
theorem ok_m_books_of {f : Addr} {fd : FuncData} (F : DFun K "books_of" "books_of" (topS 84) f fd) (C_need_book : Cal P w K mg base "need_book" 1 ["book"] (spD K c 1 m_need_book)) (C_need_small : Cal P w K mg base "need_small" 12 ["books"] (spD K c 1 m_need_small)) (g_MOST_PARTS : GlobD K c mg "MOST_PARTS" k_MOST_PARTS) (n_isinstance : mg "isinstance" = none) (n_list : mg "list" = none) (n_len : mg "len" = none) (n_tuple : mg "tuple" = none) :
    FnOk P w K mg base CX0 13 f fd ["books"] (spD K c 1 (m_books_of)) := by
  have S := sc_m_books_of
  refine okD' (n := 2) (m := 1) (B := m_books_of_b) F S rfl rfl rfl fun cdv A outer s H E hr => ?_
  exact (ss_cons (s_if (PW.pt (d_wor (d_tnot (d_test (d_isiB (n := "list") n_isinstance n_list (by decide +kernel) (d_var 0)))) (d_wor1 (d_tnot (d_tchain opD_le opD_le d_int (d_callB bu_len n_len (a_cons (d_var 0) a_nil)) (d_glob g_MOST_PARTS)))))) (ss_one s_never) ss_nil) (ss_cons (s_for PassesOwn.never rfl (it_e (d_var 0)) (g_name (i := 1) S.nd) (ss_one (s_expr (d_call C_need_book hr (by decide) (a_cons (d_var 1) a_nil))))) (ss_cons (s_expr (d_call C_need_small hr (by decide) (a_cons (d_var 0) a_nil))) (ss_one (s_ret (d_callTy bu_tuple n_tuple (a_cons (d_var 0) a_nil)))))))
abbrev sm_Joined___init___N : List Str := ["self", "books"]
def as_Joined : List IStep := [.sto "books" (dCall 1 m_books_of (aCons (dVar 1) aNil))]
def i_Joined : List D → Option (List D)
  | [a] => (m_books_of [a]).map fun t => [t]
  | _ => none
theorem hF_Joined (y : Addr) (ds fs : List D) (hl : ds.length = 1) (e : i_Joined ds = some fs) : noOwn (startD 2 (.raw (.ref y) :: ds)) = true ∧ evalI y false as_Joined (startD 2 (.raw (.ref y) :: ds)) = some fs := by
  match ds, hl with
  | [a], _ =>
    obtain ⟨t, e1, rfl⟩ := Option.map_eq_some_iff.mp e
    exact ⟨rfl, ev_sto rfl (by decide +kernel) e1 ev_nil⟩
theorem sc_m_Joined___init__ : FnScope sm_Joined___init___N ["self", "books"] (defScope (inClass (topS 87) 0)) := ⟨rfl, rfl, rfl, by decide +kernel, rfl, by decide +kernel, by decide +kernel⟩
theorem ok_m_Joined___init__ (hnm : c.nm 10 = nmF 10) {f : Addr} {fd : FuncData} (F : DFun K "__init__" "Joined.__init__" (inClass (topS 87) 0) f fd) (hp0 : c.pl []) (hpl : ∀ f : Str, f ≠ kT → ∀ fs v, c.pl fs → c.pl (putF f v fs)) (hC : Cls K (c.cl 10)) (A_books : NoAttr K (c.cl 10) "books") (C_books_of : Cal P w K mg base "books_of" 13 ["books"] (spD K c 1 m_books_of)) :
    FnOk P w K mg base CX0 14 f fd ["self", "books"] (spI K c 10 1 i_Joined) := by
  have S := sc_m_Joined___init__
  refine okI (as := as_Joined) (nn := 2) F S rfl rfl hnm.symm (by first | (rw [hnm]; decide +kernel) | exact (show (nmF 9).Nodup by decide +kernel)) (by first | (rw [hnm]; decide) | exact (show (nmF 9).length < 1000 by decide)) hp0 hF_Joined fun cdv A outer s H E hr => ?_
  exact (ii_sto (d_call C_books_of hr (by decide) (a_cons (d_var 1) a_nil)) hC A_books ii_nil (hpl _ (by decide +kernel)))
abbrev sm_Met___init___N : List Str := ["self", "books"]
def as_Met : List IStep := [.sto "books" (dCall 1 m_books_of (aCons (dVar 1) aNil))]
def i_Met : List D → Option (List D)
  | [a] => (m_books_of [a]).map fun t => [t]
  | _ => none
theorem hF_Met (y : Addr) (ds fs : List D) (hl : ds.length = 1) (e : i_Met ds = some fs) : noOwn (startD 2 (.raw (.ref y) :: ds)) = true ∧ evalI y false as_Met (startD 2 (.raw (.ref y) :: ds)) = some fs := by
  match ds, hl with
  | [a], _ =>
    obtain ⟨t, e1, rfl⟩ := Option.map_eq_some_iff.mp e
    exact ⟨rfl, ev_sto rfl (by decide +kernel) e1 ev_nil⟩
theorem sc_m_Met___init__ : FnScope sm_Met___init___N ["self", "books"] (defScope (inClass (topS 88) 0)) := ⟨rfl, rfl, rfl, by decide +kernel, rfl, by decide +kernel, by decide +kernel⟩
theorem ok_m_Met___init__ (hnm : c.nm 11 = nmF 11) {f : Addr} {fd : FuncData} (F : DFun K "__init__" "Met.__init__" (inClass (topS 88) 0) f fd) (hp0 : c.pl []) (hpl : ∀ f : Str, f ≠ kT → ∀ fs v, c.pl fs → c.pl (putF f v fs)) (hC : Cls K (c.cl 11)) (A_books : NoAttr K (c.cl 11) "books") (C_books_of : Cal P w K mg base "books_of" 13 ["books"] (spD K c 1 m_books_of)) :
    FnOk P w K mg base CX0 14 f fd ["self", "books"] (spI K c 11 1 i_Met) := by
  have S := sc_m_Met___init__
  refine okI (as := as_Met) (nn := 2) F S rfl rfl hnm.symm (by first | (rw [hnm]; decide +kernel) | exact (show (nmF 9).Nodup by decide +kernel)) (by first | (rw [hnm]; decide) | exact (show (nmF 9).length < 1000 by decide)) hp0 hF_Met fun cdv A outer s H E hr => ?_
  exact (ii_sto (d_call C_books_of hr (by decide) (a_cons (d_var 1) a_nil)) hC A_books ii_nil (hpl _ (by decide +kernel)))
abbrev sm_Less___init___N : List Str := ["self", "one", "other"]
def as_Less : List IStep := [.chk (sDrop (dCall 1 m_need_book (aCons (dVar 1) aNil))), .chk (sDrop (dCall 1 m_need_book (aCons (dVar 2) aNil))), .chk (sDrop (dCall 1 m_need_small (aCons (dO (oLst (aCons (dVar 1) (aCons (dVar 2) aNil)))) aNil))), .sto "one" (dVar 1), .sto "other" (dVar 2)]
def i_Less : List D → Option (List D)
  | [a, b] => (m_need_book [a]).bind fun _ => (m_need_book [b]).bind fun _ => (m_need_small [.lst [a, b]]).map fun _ => [a, b]
  | _ => none
theorem hF_Less (y : Addr) (ds fs : List D) (hl : ds.length = 2) (e : i_Less ds = some fs) : noOwn (startD 3 (.raw (.ref y) :: ds)) = true ∧ evalI y false as_Less (startD 3 (.raw (.ref y) :: ds)) = some fs := by
  match ds, hl with
  | [a, b], _ =>
    obtain ⟨t1, e1, e⟩ := Option.bind_eq_some_iff.mp e
    obtain ⟨t2, e2, e⟩ := Option.bind_eq_some_iff.mp e
    obtain ⟨t3, e3, rfl⟩ := Option.map_eq_some_iff.mp e
    exact ⟨rfl, ev_chk (drop_ok (show dCall 1 m_need_book _ _ = _ from e1)) rfl (ev_chk (drop_ok (show dCall 1 m_need_book _ _ = _ from e2)) rfl (ev_chk (drop_ok (show dCall 1 m_need_small _ _ = _ from e3)) rfl (ev_sto rfl (by decide +kernel) rfl (ev_sto rfl (by decide +kernel) rfl ev_nil))))⟩
theorem sc_m_Less___init__ : FnScope sm_Less___init___N ["self", "one", "other"] (defScope (inClass (topS 89) 0)) := ⟨rfl, rfl, rfl, by decide +kernel, rfl, by decide +kernel, by decide +kernel⟩
theorem ok_m_Less___init__ (hnm : c.nm 12 = nmF 12) {f : Addr} {fd : FuncData} (F : DFun K "__init__" "Less.__init__" (inClass (topS 89) 0) f fd) (hp0 : c.pl []) (hpl : ∀ f : Str, f ≠ kT → ∀ fs v, c.pl fs → c.pl (putF f v fs)) (hC : Cls K (c.cl 12)) (A_one : NoAttr K (c.cl 12) "one") (A_other : NoAttr K (c.cl 12) "other") (C_need_book : Cal P w K mg base "need_book" 1 ["book"] (spD K c 1 m_need_book)) (C_need_small : Cal P w K mg base "need_small" 12 ["books"] (spD K c 1 m_need_small)) :
    FnOk P w K mg base CX0 13 f fd ["self", "one", "other"] (spI K c 12 2 i_Less) := by
  have S := sc_m_Less___init__
  refine okI (as := as_Less) (nn := 3) F S rfl rfl hnm.symm (by first | (rw [hnm]; decide +kernel) | exact (show (nmF 9).Nodup by decide +kernel)) (by first | (rw [hnm]; decide) | exact (show (nmF 9).length < 1000 by decide)) hp0 hF_Less fun cdv A outer s H E hr => ?_
  exact (ii_chk (s_expr (d_call C_need_book hr (by decide) (a_cons (d_var 1) a_nil))) (ii_chk (s_expr (d_call C_need_book hr (by decide) (a_cons (d_var 2) a_nil))) (ii_chk (s_expr (d_call C_need_small hr (by decide) (a_cons (d_ofO (o_lst (a_cons (d_var 1) (a_cons (d_var 2) a_nil)))) a_nil))) (ii_sto (d_var 1) hC A_one (ii_sto (d_var 2) hC A_other ii_nil (hpl _ (by decide +kernel))) (hpl _ (by decide +kernel))))))
abbrev sm_Turned___init___N : List Str := ["self", "one"]
def as_Turned : List IStep := [.chk (sDrop (dCall 1 m_need_book (aCons (dVar 1) aNil))), .chk (sDrop (dCall 1 m_need_small (aCons (dO (oLst (aCons (dVar 1) aNil))) aNil))), .sto "one" (dVar 1)]
def i_Turned : List D → Option (List D)
  | [a] => (m_need_book [a]).bind fun _ => (m_need_small [.lst [a]]).map fun _ => [a]
  | _ => none
theorem hF_Turned (y : Addr) (ds fs : List D) (hl : ds.length = 1) (e : i_Turned ds = some fs) : noOwn (startD 2 (.raw (.ref y) :: ds)) = true ∧ evalI y false as_Turned (startD 2 (.raw (.ref y) :: ds)) = some fs := by
  match ds, hl with
  | [a], _ =>
    obtain ⟨t1, e1, e⟩ := Option.bind_eq_some_iff.mp e
    obtain ⟨t3, e3, rfl⟩ := Option.map_eq_some_iff.mp e
    exact ⟨rfl, ev_chk (drop_ok (show dCall 1 m_need_book _ _ = _ from e1)) rfl (ev_chk (drop_ok (show dCall 1 m_need_small _ _ = _ from e3)) rfl (ev_sto rfl (by decide +kernel) rfl ev_nil))⟩
theorem sc_m_Turned___init__ : FnScope sm_Turned___init___N ["self", "one"] (defScope (inClass (topS 90) 0)) := ⟨rfl, rfl, rfl, by decide +kernel, rfl, by decide +kernel, by decide +kernel⟩
theorem ok_m_Turned___init__ (hnm : c.nm 13 = nmF 13) {f : Addr} {fd : FuncData} (F : DFun K "__init__" "Turned.__init__" (inClass (topS 90) 0) f fd) (hp0 : c.pl []) (hpl : ∀ f : Str, f ≠ kT → ∀ fs v, c.pl fs → c.pl (putF f v fs)) (hC : Cls K (c.cl 13)) (A_one : NoAttr K (c.cl 13) "one") (C_need_book : Cal P w K mg base "need_book" 1 ["book"] (spD K c 1 m_need_book)) (C_need_small : Cal P w K mg base "need_small" 12 ["books"] (spD K c 1 m_need_small)) :
    FnOk P w K mg base CX0 13 f fd ["self", "one"] (spI K c 13 1 i_Turned) := by
  have S := sc_m_Turned___init__
  refine okI (as := as_Turned) (nn := 2) F S rfl rfl hnm.symm (by first | (rw [hnm]; decide +kernel) | exact (show (nmF 9).Nodup by decide +kernel)) (by first | (rw [hnm]; decide) | exact (show (nmF 9).length < 1000 by decide)) hp0 hF_Turned fun cdv A outer s H E hr => ?_
  exact (ii_chk (s_expr (d_call C_need_book hr (by decide) (a_cons (d_var 1) a_nil))) (ii_chk (s_expr (d_call C_need_small hr (by decide) (a_cons (d_ofO (o_lst (a_cons (d_var 1) a_nil))) a_nil))) (ii_sto (d_var 1) hC A_one ii_nil (hpl _ (by decide +kernel)))))
abbrev sm__law_make_N : List Str := ["_law_tree_here", "_law_word_here", "_law_parts", "_law_made", "_law_part"]
def m__law_make_b (self : List D → Option D) : DS := (sSeq (sAsg (dVar 0) (tgT [1, 2])) (sSeq (sIf (asB (dOp opEq (dVar 1) (dC (.str "none")))) (sRet (dC (.ins 8 []))) sNil) (sSeq (sIf (asB (dOp opEq (dVar 1) (dC (.str "row")))) (sRet (dMake 9 1 i_Of (aCons (dOp opIx (dVar 2) (dC (.int 0))) aNil))) sNil) (sSeq (sAsg (dO (oLc (itE (dVar 2)) (tgN 4) tTrue (dCall 1 self (aCons (dVar 4) aNil)) [4])) (tgN 3)) (sSeq (sIf (asB (dOp opEq (dVar 1) (dC (.str "join")))) (sRet (dMake 10 1 i_Joined (aCons (dVar 3) aNil))) sNil) (sSeq (sIf (asB (dOp opEq (dVar 1) (dC (.str "meet")))) (sRet (dMake 11 1 i_Met (aCons (dVar 3) aNil))) sNil) (sSeq (sIf (asB (dOp opEq (dVar 1) (dC (.str "less")))) (sRet (dMake 12 2 i_Less (aCons (dOp opIx (dVar 3) (dC (.int 0))) (aCons (dOp opIx (dVar 3) (dC (.int 1))) aNil)))) sNil) (sRet (dMake 13 1 i_Turned (aCons (dOp opIx (dVar 3) (dC (.int 0))) aNil))))))))))
def m__law_make_f (self : List D → Option D) : List D → Option D := runD 5 (m__law_make_b self)
theorem sc_m__law_make : FnScope sm__law_make_N ["_law_tree_here"] (defScope (topS 101)) := ⟨rfl, rfl, rfl, by decide +kernel, rfl, by decide +kernel, by decide +kernel⟩
theorem ok_m__law_make {f : Addr} {fd : FuncData} (F : DFun K "_law_make" "_law_make" (topS 101) f fd) {lv : Nat} {self : List D → Option D} (hlv : 15 ≤ lv) (C_self : Cal P w K mg base "_law_make" lv ["_law_tree_here"] (spD K c 1 self)) (K_Book : Mak0 K mg c "Book" 8) (K_Of : Mak P w K mg base c "Of" 9 3 1 i_Of) (K_Joined : Mak P w K mg base c "Joined" 10 14 1 i_Joined) (K_Met : Mak P w K mg base c "Met" 11 14 1 i_Met) (K_Less : Mak P w K mg base c "Less" 12 13 2 i_Less) (K_Turned : Mak P w K mg base c "Turned" 13 13 1 i_Turned) :
    FnOk P w K mg base CX0 (lv + 1) f fd ["_law_tree_here"] (spD K c 1 (m__law_make_f self)) := by
  have S := sc_m__law_make
  refine okD' (n := 5) (m := 1) (B := m__law_make_b self) F S rfl rfl rfl fun cdv A outer s H E hr => ?_
  exact (ss_cons (s_asg (d_var 0) (g_tup (is := [1, 2]) rfl (gs_cons (i := 1) S.nd (gs_cons (i := 2) S.nd gs_nil)))) (ss_cons (s_if (d_tcmp (opD_eq hr) (d_var 1) d_str) (ss_one (s_ret (d_make0 K_Book))) ss_nil) (ss_cons (s_if (d_tcmp (opD_eq hr) (d_var 1) d_str) (ss_one (s_ret (d_make K_Of hr (by omega) (a_cons (d_ix (d_var 2) d_int) a_nil)))) ss_nil) (ss_cons (s_setLc (i := 3) (own := [("_law_part", 4)]) rfl S.nd (it_e (d_var 2)) (blkOk_by (own := [("_law_part", 4)]) (N := sm__law_make_N) (sc := defScope (topS 101)) (by decide +kernel)) (tgN_in (by decide)) (fun _ _ _ _ _ => (g_name (i := 4) S.nd)) (fun _ _ _ _ _ => ts_nil) (fun _ _ _ _ _ => (d_call C_self hr (Nat.le_refl _) (a_cons (d_var 4) a_nil)))) (ss_cons (s_if (d_tcmp (opD_eq hr) (d_var 1) d_str) (ss_one (s_ret (d_make K_Joined hr (by omega) (a_cons (d_var 3) a_nil)))) ss_nil) (ss_cons (s_if (d_tcmp (opD_eq hr) (d_var 1) d_str) (ss_one (s_ret (d_make K_Met hr (by omega) (a_cons (d_var 3) a_nil)))) ss_nil) (ss_cons (s_if (d_tcmp (opD_eq hr) (d_var 1) d_str) (ss_one (s_ret (d_make K_Less hr (by omega) (a_cons (d_ix (d_var 3) d_int) (a_cons (d_ix (d_var 3) d_int) a_nil))))) ss_nil) (ss_one (s_ret (d_make K_Turned hr (by omega) (a_cons (d_ix (d_var 3) d_int) a_nil)))))))))))
def m__law_make : Nat → List D → Option D
  | 0 => fun _ => none
  | n + 1 => m__law_make_f (m__law_make n)
theorem rec_m__law_make {f : Addr} {fd : FuncData} (F : DFun K "_law_make" "_law_make" (topS 101) f fd) (hm : mg "_law_make" = some (.ref f)) (hb : Binds K fd ["_law_tree_here"] []) (K_Book : Mak0 K mg c "Book" 8) (K_Of : Mak P w K mg base c "Of" 9 3 1 i_Of) (K_Joined : Mak P w K mg base c "Joined" 10 14 1 i_Joined) (K_Met : Mak P w K mg base c "Met" 11 14 1 i_Met) (K_Less : Mak P w K mg base c "Less" 12 13 2 i_Less) (K_Turned : Mak P w K mg base c "Turned" 13 13 1 i_Turned) :
    ∀ n, FnOk P w K mg base CX0 (15 + n) f fd ["_law_tree_here"] (spD K c 1 (m__law_make n))
  | 0 => fnOk_none
  | n + 1 => ok_m__law_make F (lv := 15 + n) (hlv := Nat.le_add_right _ _) (C_self := cal_mk hm F.kp hb (rec_m__law_make F hm hb K_Book K_Of K_Joined K_Met K_Less K_Turned n)) (K_Book := K_Book) (K_Of := K_Of) (K_Joined := K_Joined) (K_Met := K_Met) (K_Less := K_Less) (K_Turned := K_Turned)
abbrev sm__law_wide_N : List Str := ["_law_rows_here", "_law_some", "_law_row_here"]
def m__law_wide_b : DS := (sSeq (sAsg (dOp opAdd (dO (oLst (aCons (dMake 10 1 i_Joined (aCons (dOp opMul (dO (oLst (aCons (dC (.ins 8 [])) aNil))) (dC (.int 8))) aNil)) (aCons (dMake 10 1 i_Joined (aCons (dOp opMul (dO (oLst (aCons (dC (.ins 8 [])) aNil))) (dC (.int 8))) aNil)) aNil)))) (dO (oLc (itE (dVar 0)) (tgN 2) tTrue (dMake 9 1 i_Of (aCons (dVar 2) aNil)) [2]))) (tgN 1)) (sRet (dMake 10 1 i_Joined (aCons (dOp opAdd (dVar 1) (dOp opMul (dO (oLst (aCons (dC (.ins 8 [])) aNil))) (dOp opSub (dC (.int 7)) (dBu bLen (aCons (dVar 1) aNil))))) aNil))))
def m__law_wide : List D → Option D := runD 3 (m__law_wide_b)
theorem sc_m__law_wide : FnScope sm__law_wide_N ["_law_rows_here"] (defScope (topS 107)) := ⟨rfl, rfl, rfl, by decide +kernel, rfl, by decide +kernel, by decide +kernel⟩
theorem ok_m__law_wide {f : Addr} {fd : FuncData} (F : DFun K "_law_wide" "_law_wide" (topS 107) f fd) (K_Joined : Mak P w K mg base c "Joined" 10 14 1 i_Joined) (K_Book : Mak0 K mg c "Book" 8) (K_Of : Mak P w K mg base c "Of" 9 3 1 i_Of) (n_len : mg "len" = none) :
    FnOk P w K mg base CX0 16 f fd ["_law_rows_here"] (spD K c 1 (m__law_wide)) := by
  have S := sc_m__law_wide
  refine okD' (n := 3) (m := 1) (B := m__law_wide_b) F S rfl rfl rfl fun cdv A outer s H E hr => ?_
  exact (ss_cons (s_set (i := 1) S.nd (d_op opD_add (d_ofO (o_lst (a_cons (d_make K_Joined hr (by decide) (a_cons (d_op opD_mul (d_ofO (o_lst (a_cons (d_make0 K_Book) a_nil))) d_int) a_nil)) (a_cons (d_make K_Joined hr (by decide) (a_cons (d_op opD_mul (d_ofO (o_lst (a_cons (d_make0 K_Book) a_nil))) d_int) a_nil)) a_nil)))) (d_ofO (o_lc (own := [("_law_row_here", 2)]) rfl S.nd (it_e (d_var 0)) (blkOk_by (own := [("_law_row_here", 2)]) (N := sm__law_wide_N) (sc := defScope (topS 107)) (by decide +kernel)) (tgN_in (by decide)) (fun _ _ _ _ _ => (g_name (i := 2) S.nd)) (fun _ _ _ _ _ => ts_nil) (fun _ _ _ _ _ => (d_make K_Of hr (by decide) (a_cons (d_var 2) a_nil))))))) (ss_one (s_ret (d_make K_Joined hr (by decide) (a_cons (d_op opD_add (d_var 1) (d_op opD_mul (d_ofO (o_lst (a_cons (d_make0 K_Book) a_nil))) (d_op opD_sub d_int (d_callB bu_len n_len (a_cons (d_var 1) a_nil))))) a_nil)))))
def T_on_days : Nat → Nat → Option (List D → Option D)
  | 0 => fun _ => none
  | n + 1 => fun i => match i with
    | 8 => some m_Book_on_days
    | 9 => some m_Of_on_days
    | 10 => some (m_Joined_on_days (T_on_days n))
    | 11 => some (m_Met_on_days (T_on_days n))
    | 12 => some (m_Less_on_days (T_on_days n))
    | 13 => some (m_Turned_on_days (T_on_days n))
    | _ => none
abbrev sm_against_N : List Str := ["one", "other", "more", "less", "both", "kind", "mine", "yours", "shared"]
def m_against_b : DS := (sSeq (sAsg (dC (.bl false)) (tgN 2)) (sSeq (sAsg (dC (.bl false)) (tgN 3)) (sSeq (sAsg (dC (.bl false)) (tgN 4)) (sSeq (sFor (itR1 (aCons (dC k_KINDS) aNil)) (tgN 5) (sFor (itZip (aCons (dMeth 1 (T_on_days 8) (dVar 0) (aCons (dVar 5) aNil)) (aCons (dMeth 1 (T_on_days 8) (dVar 1) (aCons (dVar 5) aNil)) aNil))) (tgT [6, 7]) (sSeq (sAsg (dOp opAnd (dVar 6) (dVar 7)) (tgN 8)) (sSeq (sAsg (dOr (dVar 2) (dOp opNe (dVar 8) (dVar 6))) (tgN 2)) (sSeq (sAsg (dOr (dVar 3) (dOp opNe (dVar 8) (dVar 7))) (tgN 3)) (sAsg (dOr (dVar 4) (dOp opGt (dVar 8) (dC (.int 0)))) (tgN 4))))))) (sSeq (sIf (dAndT (dNotT (asB (dVar 2))) (dNotT (asB (dVar 3)))) (sRet (dC (.str "alike"))) sNil) (sSeq (sIf (dNotT (asB (dVar 2))) (sRet (dC (.str "within"))) sNil) (sSeq (sIf (dNotT (asB (dVar 3))) (sRet (dC (.str "around"))) sNil) (sSeq (sIf (dNotT (asB (dVar 4))) (sRet (dC (.str "apart"))) sNil) (sRet (dC (.str "across")))))))))))
def m_against : List D → Option D := runD 9 (m_against_b)
theorem sc_m_against : FnScope sm_against_N ["one", "other"] (defScope (topS 93)) := ⟨rfl, rfl, rfl, by decide +kernel, rfl, by decide +kernel, by decide +kernel⟩
theorem ok_m_against {f : Addr} {fd : FuncData} (F : DFun K "against" "against" (topS 93) f fd) (M_on_days : MCal P w K mg base c "on_days" 20 1 (T_on_days 8)) (g_KINDS : GlobD K c mg "KINDS" k_KINDS) (n_range : mg "range" = none) (n_zip : mg "zip" = none) :
    FnOk P w K mg base CX0 21 f fd ["one", "other"] (spD K c 2 (m_against)) := by
  have S := sc_m_against
  refine okD' (n := 9) (m := 2) (B := m_against_b) F S rfl rfl rfl fun cdv A outer s H E hr => ?_
  exact (ss_cons (s_set (i := 2) S.nd d_bl) (ss_cons (s_set (i := 3) S.nd d_bl) (ss_cons (s_set (i := 4) S.nd d_bl) (ss_cons (s_for PassesOwn.never rfl (it_r1 n_range (a_cons (d_glob g_KINDS) a_nil)) (g_name (i := 5) S.nd) (ss_one (s_for PassesOwn.never rfl (it_zip n_zip (a_cons (d_meth M_on_days hr (by decide) (d_var 0) (a_cons (d_var 5) a_nil)) (a_cons (d_meth M_on_days hr (by decide) (d_var 1) (a_cons (d_var 5) a_nil)) a_nil))) (g_tup (is := [6, 7]) rfl (gs_cons (i := 6) S.nd (gs_cons (i := 7) S.nd gs_nil))) (ss_cons (s_set (i := 8) S.nd (d_op opD_and (d_var 6) (d_var 7))) (ss_cons (s_set (i := 2) S.nd (d_or (d_var 2) (d_one (d_cmp (opD_ne hr) (d_var 8) (d_var 6))))) (ss_cons (s_set (i := 3) S.nd (d_or (d_var 3) (d_one (d_cmp (opD_ne hr) (d_var 8) (d_var 7))))) (ss_one (s_set (i := 4) S.nd (d_or (d_var 4) (d_one (d_cmp opD_gt (d_var 8) d_int))))))))))) (ss_cons (s_if (PW.pt (d_wand (d_tnot (d_test (d_var 2))) (d_wand1 (d_tnot (d_test (d_var 3)))))) (ss_one (s_ret d_str)) ss_nil) (ss_cons (s_if (d_tnot (d_test (d_var 2))) (ss_one (s_ret d_str)) ss_nil) (ss_cons (s_if (d_tnot (d_test (d_var 3))) (ss_one (s_ret d_str)) ss_nil) (ss_cons (s_if (d_tnot (d_test (d_var 4))) (ss_one (s_ret d_str)) ss_nil) (ss_one (s_ret d_str))))))))))
abbrev sm_law_N : List Str := ["_law_script", "_law_mixed", "_law_way", "_law_trees", "_law_books", "_law_word_here", "_law_found", "_law_back", "_law_rows_here", "_law_great", "_law_due", "_law_empty", "_law_tree_here", "_law_some"]
def m_law_b : DS := (sSeq (sAsg (dOp opEq (dOp opMod (dCall 2 m__law_cell_at (aCons (dVar 0) (aCons (dC (.int 0)) aNil))) (dC (.int 2))) (dC (.int 1))) (tgN 1)) (sSeq (sAsg (dOp opIx (dCall 3 m__law_digits (aCons (dOp opFdiv (dCall 2 m__law_cell_at (aCons (dVar 0) (aCons (dC (.int 0)) aNil))) (dC (.int 2))) (aCons (dO (oLst (aCons (dC (.int 9)) aNil))) (aCons (dVar 1) aNil)))) (dC (.int 0))) (tgN 2)) (sSeq (sAsg (dCall 3 m__law_two (aCons (dVar 0) (aCons (dVar 2) (aCons (dVar 1) aNil)))) (tgN 3)) (sSeq (sAsg (dO (oLc (itE (dVar 3)) (tgN 12) tTrue (dCall 1 (m__law_make 8) (aCons (dVar 12) aNil)) [12])) (tgN 4)) (sSeq (sAsg (dCall 2 m__law_word (aCons (dOp opIx (dVar 3) (dC (.int 0))) (aCons (dOp opIx (dVar 3) (dC (.int 1))) aNil))) (tgN 5)) (sSeq (sAsg (dCall 2 m_against (aCons (dOp opIx (dVar 4) (dC (.int 0))) (aCons (dOp opIx (dVar 4) (dC (.int 1))) aNil))) (tgN 6)) (sSeq (sIf (dOrT (dNotT (asB (dIsi (isiB "str") (dVar 6)))) (asB (dOp opNe (dVar 6) (dVar 5)))) (sRet (dC (.bl false))) sNil) (sSeq (sAsg (dDct [(Sum.inr "alike"), (Sum.inr "within"), (Sum.inr "around"), (Sum.inr "apart"), (Sum.inr "across")] (aCons (dC (.str "alike")) (aCons (dC (.str "around")) (aCons (dC (.str "within")) (aCons (dC (.str "apart")) (aCons (dC (.str "across")) aNil)))))) (tgN 7)) (sSeq (sIf (dOrT (asB (dOp opNe (dCall 2 m_against (aCons (dOp opIx (dVar 4) (dC (.int 1))) (aCons (dOp opIx (dVar 4) (dC (.int 0))) aNil))) (dOp opDix (dVar 7) (dVar 5)))) (asB (dOp opNe (dCall 2 m_against (aCons (dOp opIx (dVar 4) (dC (.int 1))) (aCons (dOp opIx (dVar 4) (dC (.int 1))) aNil))) (dC (.str "alike"))))) (sRet (dC (.bl false))) sNil) (sSeq (sAsg (dO (oLc (itE (dVar 3)) (tgN 12) tTrue (dSl (dCall 1 (m__law_rows 8) (aCons (dVar 12) aNil)) oNone (oSome (dC (.int 5)))) [12])) (tgN 8)) (sSeq (sAsg (dO (oLc (itE (dVar 8)) (tgN 13) tTrue (dCall 1 m__law_wide (aCons (dVar 13) aNil)) [13])) (tgN 9)) (sSeq (sAsg (dCall 2 m__law_word (aCons (dCall 1 m__law_leaves (aCons (dOp opIx (dVar 8) (dC (.int 0))) aNil)) (aCons (dCall 1 m__law_leaves (aCons (dOp opIx (dVar 8) (dC (.int 1))) aNil)) aNil))) (tgN 10)) (sSeq (sIf (dOrT (asB (dOp opNe (dMeth 0 (T_tally 8) (dOp opIx (dVar 9) (dC (.int 0))) aNil) (dC (.int 24)))) (asB (dOp opNe (dCall 2 m_against (aCons (dOp opIx (dVar 9) (dC (.int 0))) (aCons (dOp opIx (dVar 9) (dC (.int 1))) aNil))) (dVar 10)))) (sRet (dC (.bl false))) sNil) (sSeq (sAsg (dCall 2 m__law_word (aCons (dOp opIx (dVar 3) (dC (.int 0))) (aCons (dTup (aCons (dC (.str "none")) (aCons (dO (oLst aNil)) aNil))) aNil))) (tgN 11)) (sSeq (sIf (asB (dOp opNe (dCall 2 m_against (aCons (dC (.ins 8 [])) (aCons (dOp opIx (dVar 4) (dC (.int 0))) aNil))) (dOp opDix (dVar 7) (dVar 11)))) (sRet (dC (.bl false))) sNil) (sRet (dAnd (dOp opEq (dCall 2 m_against (aCons (dOp opIx (dVar 4) (dC (.int 0))) (aCons (dC (.ins 8 [])) aNil))) (dVar 11)) (dOp opEq (dCall 2 m_against (aCons (dOp opIx (dVar 4) (dC (.int 0))) (aCons (dOp opIx (dVar 4) (dC (.int 1))) aNil))) (dVar 5)))))))))))))))))))
def m_law : List D → Option D := runD 14 (m_law_b)
theorem sc_m_law : FnScope sm_law_N ["_law_script"] (defScope (topS 110)) := ⟨rfl, rfl, rfl, by decide +kernel, rfl, by decide +kernel, by decide +kernel⟩
theorem ok_m_law {f : Addr} {fd : FuncData} (F : DFun K "law" "law" (topS 110) f fd) (C__law_cell_at : Cal P w K mg base "_law_cell_at" 1 ["_law_script", "_law_k"] (spD K c 2 m__law_cell_at)) (C__law_digits : Cal P w K mg base "_law_digits" 2 ["_law_cell", "_law_sizes", "_law_mixed"] (spD K c 3 m__law_digits)) (C__law_two : Cal P w K mg base "_law_two" 20 ["_law_script", "_law_way", "_law_mixed"] (spD K c 3 m__law_two)) (C__law_make : Cal P w K mg base "_law_make" 23 ["_law_tree_here"] (spD K c 1 (m__law_make 8))) (C__law_word : Cal P w K mg base "_law_word" 14 ["_law_one", "_law_other"] (spD K c 2 m__law_word)) (C_against : Cal P w K mg base "against" 21 ["one", "other"] (spD K c 2 m_against)) (C__law_rows : Cal P w K mg base "_law_rows" 8 ["_law_tree_here"] (spD K c 1 (m__law_rows 8))) (C__law_wide : Cal P w K mg base "_law_wide" 16 ["_law_rows_here"] (spD K c 1 m__law_wide)) (C__law_leaves : Cal P w K mg base "_law_leaves" 3 ["_law_rows_here"] (spD K c 1 m__law_leaves)) (M_tally : MCal P w K mg base c "tally" 11 0 (T_tally 8)) (K_Book : Mak0 K mg c "Book" 8) (n_isinstance : mg "isinstance" = none) (n_str : mg "str" = none) :
    FnOk P w K mg base CX0 24 f fd ["_law_script"] (spD K c 1 (m_law)) := by
  have S := sc_m_law
  refine okD' (n := 14) (m := 1) (B := m_law_b) F S rfl rfl rfl fun cdv A outer s H E hr => ?_
  exact (ss_cons (s_set (i := 1) S.nd (d_cmp (opD_eq hr) (d_op opD_mod (d_call C__law_cell_at hr (by decide) (a_cons (d_var 0) (a_cons d_int a_nil))) d_int) d_int)) (ss_cons (s_set (i := 2) S.nd (d_ix (d_call C__law_digits hr (by decide) (a_cons (d_op opD_fdiv (d_call C__law_cell_at hr (by decide) (a_cons (d_var 0) (a_cons d_int a_nil))) d_int) (a_cons (d_ofO (o_lst (a_cons d_int a_nil))) (a_cons (d_var 1) a_nil)))) d_int)) (ss_cons (s_set (i := 3) S.nd (d_call C__law_two hr (by decide) (a_cons (d_var 0) (a_cons (d_var 2) (a_cons (d_var 1) a_nil))))) (ss_cons (s_setLc (i := 4) (own := [("_law_tree_here", 12)]) rfl S.nd (it_e (d_var 3)) (blkOk_by (own := [("_law_tree_here", 12)]) (N := sm_law_N) (sc := defScope (topS 110)) (by decide +kernel)) (tgN_in (by decide)) (fun _ _ _ _ _ => (g_name (i := 12) S.nd)) (fun _ _ _ _ _ => ts_nil) (fun _ _ _ _ _ => (d_call C__law_make hr (by decide) (a_cons (d_var 12) a_nil)))) (ss_cons (s_set (i := 5) S.nd (d_call C__law_word hr (by decide) (a_cons (d_ix (d_var 3) d_int) (a_cons (d_ix (d_var 3) d_int) a_nil)))) (ss_cons (s_set (i := 6) S.nd (d_call C_against hr (by decide) (a_cons (d_ix (d_var 4) d_int) (a_cons (d_ix (d_var 4) d_int) a_nil)))) (ss_cons (s_if (PW.pt (d_wor (d_tnot (d_test (d_isiB (n := "str") n_isinstance n_str (by decide +kernel) (d_var 6)))) (d_wor1 (d_tcmp (opD_ne hr) (d_var 6) (d_var 5))))) (ss_one (s_ret d_bl)) ss_nil) (ss_cons (s_set (i := 7) S.nd (d_dct (dps_cons (x := (Sum.inr "alike")) pe_str d_str (dps_cons (x := (Sum.inr "within")) pe_str d_str (dps_cons (x := (Sum.inr "around")) pe_str d_str (dps_cons (x := (Sum.inr "apart")) pe_str d_str (dps_cons (x := (Sum.inr "across")) pe_str d_str dps_nil))))) (by decide +kernel) (by decide))) (ss_cons (s_if (PW.pt (d_wor (d_tcmp (opD_ne hr) (d_call C_against hr (by decide) (a_cons (d_ix (d_var 4) d_int) (a_cons (d_ix (d_var 4) d_int) a_nil))) (d_dix hr (d_var 7) (d_var 5))) (d_wor1 (d_tcmp (opD_ne hr) (d_call C_against hr (by decide) (a_cons (d_ix (d_var 4) d_int) (a_cons (d_ix (d_var 4) d_int) a_nil))) d_str)))) (ss_one (s_ret d_bl)) ss_nil) (ss_cons (s_setLc (i := 8) (own := [("_law_tree_here", 12)]) rfl S.nd (it_e (d_var 3)) (blkOk_by (own := [("_law_tree_here", 12)]) (N := sm_law_N) (sc := defScope (topS 110)) (by decide +kernel)) (tgN_in (by decide)) (fun _ _ _ _ _ => (g_name (i := 12) S.nd)) (fun _ _ _ _ _ => ts_nil) (fun _ _ _ _ _ => (d_slice (d_call C__law_rows hr (by decide) (a_cons (d_var 12) a_nil)) o_none (o_some d_int)))) (ss_cons (s_setLc (i := 9) (own := [("_law_some", 13)]) rfl S.nd (it_e (d_var 8)) (blkOk_by (own := [("_law_some", 13)]) (N := sm_law_N) (sc := defScope (topS 110)) (by decide +kernel)) (tgN_in (by decide)) (fun _ _ _ _ _ => (g_name (i := 13) S.nd)) (fun _ _ _ _ _ => ts_nil) (fun _ _ _ _ _ => (d_call C__law_wide hr (by decide) (a_cons (d_var 13) a_nil)))) (ss_cons (s_set (i := 10) S.nd (d_call C__law_word hr (by decide) (a_cons (d_call C__law_leaves hr (by decide) (a_cons (d_ix (d_var 8) d_int) a_nil)) (a_cons (d_call C__law_leaves hr (by decide) (a_cons (d_ix (d_var 8) d_int) a_nil)) a_nil)))) (ss_cons (s_if (PW.pt (d_wor (d_tcmp (opD_ne hr) (d_meth0 M_tally hr (by decide) (d_ix (d_var 9) d_int)) d_int) (d_wor1 (d_tcmp (opD_ne hr) (d_call C_against hr (by decide) (a_cons (d_ix (d_var 9) d_int) (a_cons (d_ix (d_var 9) d_int) a_nil))) (d_var 10))))) (ss_one (s_ret d_bl)) ss_nil) (ss_cons (s_set (i := 11) S.nd (d_call C__law_word hr (by decide) (a_cons (d_ix (d_var 3) d_int) (a_cons (d_tup (a_cons d_str (a_cons (d_ofO (o_lst a_nil)) a_nil))) a_nil)))) (ss_cons (s_if (d_tcmp (opD_ne hr) (d_call C_against hr (by decide) (a_cons (d_make0 K_Book) (a_cons (d_ix (d_var 4) d_int) a_nil))) (d_dix hr (d_var 7) (d_var 11))) (ss_one (s_ret d_bl)) ss_nil) (ss_one (s_ret (d_and (d_cmp (opD_eq hr) (d_call C_against hr (by decide) (a_cons (d_ix (d_var 4) d_int) (a_cons (d_make0 K_Book) a_nil))) (d_var 11)) (d_one (d_cmp (opD_eq hr) (d_call C_against hr (by decide) (a_cons (d_ix (d_var 4) d_int) (a_cons (d_ix (d_var 4) d_int) a_nil))) (d_var 5)))))))))))))))))))))
end
end DL
set_option maxRecDepth 100000
set_option maxHeartbeats 4000000
namespace DL
open PySem L2
def cNames : List Str := ["Row", "Numbers", "Last", "Near", "LastWork", "Weekdays", "Nth", "LastOne", "Book", "Of", "Joined", "Met", "Less", "Turned"]
def clA (K : PySem.W.Frag) : Nat → Addr := clOf cNames K
def fnA (K : PySem.W.Frag) : Nat → Addr
  | 0 => He.ga K "day_mark"
  | 1 => He.ga K "weekday_mark"
  | _ => 0
def cB (K : PySem.W.Frag) : Cf := cfB K (clA K) nmF (fnA K) dayB
def fa1 : List He.Fa := [.glo "law", .glo "_law_cell_at", .free "len", .glo "_law_digits", .glo "_law_stir", .free "abs", .glo "_law_two", .glo "_law_tree", .glo "_law_row", .glo "_law_field", .free "str", .glo "read_row", .glo "words_of", .int "MOST_SIGNS_rows" (1600), .free "isinstance", .glo "field_at", .glo "read_field", .glo "item_mask", .glo "span_in", .glo "number_in_fields", .glo "only_figures", .str "FIGURES_wholes" "0123456789", .free "int", .glo "mask_of", .int "MOST_STRIDE" (99), .free "list", .free "range", .int "MOST_SIGNS_fields" (300), .int "MOST_ITEMS_fields" (40), .free "enumerate", .glo "read_days", .glo "read_items", .glo "items_of", .int "MOST_SIGNS_marks" (300), .glo "plain_item", .glo "number_in_marks", .str "FIGURES_marks" "0123456789", .cls "Last", .noat "Last" "back", .glo "Last"] ++ [.mkr "Last", .keep "LastWork", .glo "LastWork", .cls "Near", .noat "Near" "day", .glo "Near", .mkr "Near", .cls "LastOne", .noat "LastOne" "weekday", .glo "LastOne", .mkr "LastOne", .cls "Nth", .noat "Nth" "weekday", .noat "Nth" "many", .glo "Nth", .mkr "Nth", .int "MOST_ITEMS_marks" (40), .int "MOST_MARKS" (20), .free "min", .cls "Numbers", .noat "Numbers" "mask", .glo "Numbers", .mkr "Numbers", .glo "day_mark", .glo "read_weekdays", .cls "Weekdays", .noat "Weekdays" "mask", .glo "Weekdays", .mkr "Weekdays", .glo "weekday_mark", .int "MINUTES_rows" (60), .int "HOURS" (24), .cls "Row", .noat "Row" "minute_mask", .noat "Row" "hour_mask", .noat "Row" "day_marks", .noat "Row" "month_mask", .noat "Row" "weekday_marks", .glo "Row", .mkr "Row"] ++ [.glo "numbers_in", .meth "Row" "times", .glo "_law_rare", .glo "_law_make", .keep "Book", .glo "Book", .cls "Of", .noat "Of" "row", .noat "Of" "told_times", .noat "Of" "told_days", .glo "Of", .mkr "Of", .cls "Joined", .noat "Joined" "books", .glo "books_of", .glo "need_book", .cls "Book", .cls "Met", .cls "Less", .cls "Turned", .glo "need_small", .meth "Book" "tally", .meth "Of" "tally", .free "sum", .noat "Met" "books", .meth "Joined" "tally", .meth "Met" "tally", .noat "Less" "one", .noat "Turned" "one", .noat "Less" "other", .meth "Less" "tally", .meth "Turned" "tally", .meth "Book" "depth", .meth "Of" "depth", .free "max", .meth "Joined" "depth", .meth "Met" "depth", .meth "Less" "depth", .meth "Turned" "depth", .int "MOST_COUNTED" (24)] ++ [.int "DEEPEST" (5), .int "MOST_PARTS" (8), .free "tuple", .glo "Joined", .mkr "Joined", .glo "Met", .mkr "Met", .glo "Less", .mkr "Less", .glo "Turned", .mkr "Turned", .glo "_law_word", .glo "_law_masks", .glo "month_at", .glo "last_of", .glo "is_long", .glo "LASTS", .int "LONG" (12), .int "SHORT_YEAR" (1), .free "divmod", .glo "_law_joined", .glo "any_days", .meth "Numbers" "days", .meth "Last" "days", .glo "weekday_in", .int "SATURDAY" (6), .int "SUNDAY" (0), .meth "Near" "days", .cls "LastWork", .meth "LastWork" "days", .meth "Weekdays" "days", .meth "Nth" "days", .meth "LastOne" "days", .meth "Row" "days_in", .free "zip", .glo "against", .glo "days_of", .meth "Book" "on_days", .meth "Row" "months", .meth "Of" "on_days"] ++ [.meth "Joined" "on_days", .glo "all_times", .int "MINUTES_books" (1440), .meth "Met" "on_days", .meth "Less" "on_days", .meth "Turned" "on_days", .int "KINDS" (91), .glo "_law_rows", .glo "_law_wide", .glo "_law_leaves"]
def xs1 : List (PySem.W.Frag → Bool) := [clT cNames, fun K => PySem.W.makesIn K (He.ga K "LastWork"), fun K => He.eqO (PySem.W.findIn K (.ref (He.ga K "LastWork")) "__init__") (some (some (.builtin "object.__init__"))), fun K => PySem.W.makesIn K (He.ga K "Book"), fun K => He.eqO (PySem.W.findIn K (.ref (He.ga K "Book")) "__init__") (some (some (.builtin "object.__init__"))), fun K => decide (PySem.W.kitOne K (.ref (He.ga K "Row")) (.ref (He.ga K "Row")) = some true), fun K => He.eqO (PySem.W.findIn K (.ref (He.ga K "Row")) "__class__") (some (some (.builtin "object.__class__"))), fun K => He.eqO (PySem.W.specialIn K (.builtin "object.__class__") "__get__") (some (some (.builtin "getset_descriptor.__get__"))), fun K => decide (PySem.W.takesIn K (.builtin "object.__class__") = some true), fun K => decide (PySem.W.mroIn K (He.ga K "Row") (.type "object") = some true), fun K => decide (PySem.W.kitOne K (.ref (He.ga K "Book")) (.ref (He.ga K "Book")) = some true), fun K => decide (PySem.W.kitOne K (.ref (He.ga K "Of")) (.ref (He.ga K "Book")) = some true), fun K => decide (PySem.W.kitOne K (.ref (He.ga K "Joined")) (.ref (He.ga K "Book")) = some true), fun K => decide (PySem.W.kitOne K (.ref (He.ga K "Met")) (.ref (He.ga K "Book")) = some true), fun K => decide (PySem.W.kitOne K (.ref (He.ga K "Less")) (.ref (He.ga K "Book")) = some true), fun K => decide (PySem.W.kitOne K (.ref (He.ga K "Turned")) (.ref (He.ga K "Book")) = some true), fun K => He.eqO (PySem.W.findIn K (.ref (He.ga K "Book")) "__class__") (some (some (.builtin "object.__class__"))), fun K => decide (PySem.W.mroIn K (He.ga K "Book") (.type "object") = some true), fun K => He.eqO (PySem.W.findIn K (.ref (He.ga K "Of")) "__class__") (some (some (.builtin "object.__class__"))), fun K => decide (PySem.W.mroIn K (He.ga K "Of") (.type "object") = some true), fun K => decide (PySem.W.kitOne K (.ref (He.ga K "Of")) (.ref (He.ga K "Of")) = some true), fun K => He.eqO (PySem.W.findIn K (.ref (He.ga K "Joined")) "__class__") (some (some (.builtin "object.__class__"))), fun K => decide (PySem.W.mroIn K (He.ga K "Joined") (.type "object") = some true), fun K => decide (PySem.W.kitOne K (.ref (He.ga K "Joined")) (.ref (He.ga K "Joined")) = some true), fun K => He.eqO (PySem.W.findIn K (.ref (He.ga K "Met")) "__class__") (some (some (.builtin "object.__class__"))), fun K => decide (PySem.W.mroIn K (He.ga K "Met") (.type "object") = some true), fun K => decide (PySem.W.kitOne K (.ref (He.ga K "Met")) (.ref (He.ga K "Met")) = some true), fun K => He.eqO (PySem.W.findIn K (.ref (He.ga K "Less")) "__class__") (some (some (.builtin "object.__class__"))), fun K => decide (PySem.W.mroIn K (He.ga K "Less") (.type "object") = some true), fun K => decide (PySem.W.kitOne K (.ref (He.ga K "Less")) (.ref (He.ga K "Less")) = some true), fun K => He.eqO (PySem.W.findIn K (.ref (He.ga K "Turned")) "__class__") (some (some (.builtin "object.__class__"))), fun K => decide (PySem.W.mroIn K (He.ga K "Turned") (.type "object") = some true), fun K => decide (PySem.W.kitOne K (.ref (He.ga K "Turned")) (.ref (He.ga K "Turned")) = some true), fun K => He.tupB K "LASTS" [.int 31, .int 28, .int 31, .int 30, .int 31, .int 30, .int 31, .int 31, .int 30, .int 31, .int 30, .int 31]]
def fn1 : List He.DefD := [(⟨("law", none), "law", "law", defArgs (topS 110), defBody (topS 110), defScope (topS 110), [], []⟩ : He.DefD), (⟨("_law_cell_at", none), "_law_cell_at", "_law_cell_at", defArgs (topS 95), defBody (topS 95), defScope (topS 95), [], []⟩ : He.DefD), (⟨("_law_digits", none), "_law_digits", "_law_digits", defArgs (topS 97), defBody (topS 97), defScope (topS 97), [], []⟩ : He.DefD), (⟨("_law_stir", none), "_law_stir", "_law_stir", defArgs (topS 96), defBody (topS 96), defScope (topS 96), [], []⟩ : He.DefD), (⟨("_law_two", none), "_law_two", "_law_two", defArgs (topS 105), defBody (topS 105), defScope (topS 105), [], []⟩ : He.DefD), (⟨("_law_tree", none), "_law_tree", "_law_tree", defArgs (topS 100), defBody (topS 100), defScope (topS 100), [], []⟩ : He.DefD), (⟨("_law_row", none), "_law_row", "_law_row", defArgs (topS 99), defBody (topS 99), defScope (topS 99), [], []⟩ : He.DefD), (⟨("_law_field", none), "_law_field", "_law_field", defArgs (topS 98), defBody (topS 98), defScope (topS 98), [], []⟩ : He.DefD), (⟨("read_row", none), "read_row", "read_row", defArgs (topS 74), defBody (topS 74), defScope (topS 74), [], []⟩ : He.DefD), (⟨("words_of", none), "words_of", "words_of", defArgs (topS 72), defBody (topS 72), defScope (topS 72), [], []⟩ : He.DefD), (⟨("field_at", none), "field_at", "field_at", defArgs (topS 73), defBody (topS 73), defScope (topS 73), [], []⟩ : He.DefD), (⟨("read_field", none), "read_field", "read_field", defArgs (topS 36), defBody (topS 36), defScope (topS 36), [], []⟩ : He.DefD), (⟨("item_mask", none), "item_mask", "item_mask", defArgs (topS 35), defBody (topS 35), defScope (topS 35), [], []⟩ : He.DefD), (⟨("span_in", none), "span_in", "span_in", defArgs (topS 34), defBody (topS 34), defScope (topS 34), [], []⟩ : He.DefD), (⟨("number_in_fields", none), "number_in", "number_in", defArgs (topS 32), defBody (topS 32), defScope (topS 32), [], []⟩ : He.DefD), (⟨("only_figures", none), "only_figures", "only_figures", defArgs (topS 10), defBody (topS 10), defScope (topS 10), [], []⟩ : He.DefD), (⟨("mask_of", none), "mask_of", "mask_of", defArgs (topS 30), defBody (topS 30), defScope (topS 30), [], []⟩ : He.DefD), (⟨("read_days", none), "read_days", "read_days", defArgs (topS 61), defBody (topS 61), defScope (topS 61), [], []⟩ : He.DefD), (⟨("read_items", none), "read_items", "read_items", defArgs (topS 60), defBody (topS 60), defScope (topS 60), [], []⟩ : He.DefD), (⟨("items_of", none), "items_of", "items_of", defArgs (topS 58), defBody (topS 58), defScope (topS 58), [], []⟩ : He.DefD), (⟨("plain_item", none), "plain_item", "plain_item", defArgs (topS 59), defBody (topS 59), defScope (topS 59), [], []⟩ : He.DefD), (⟨("day_mark", none), "day_mark", "day_mark", defArgs (topS 56), defBody (topS 56), defScope (topS 56), [], []⟩ : He.DefD), (⟨("number_in_marks", none), "number_in", "number_in", defArgs (topS 54), defBody (topS 54), defScope (topS 54), [], []⟩ : He.DefD), (⟨("Last", some "__init__"), "__init__", "Last.__init__", defArgs (inClass (topS 47) 0), defBody (inClass (topS 47) 0), defScope (inClass (topS 47) 0), [.int 0], []⟩ : He.DefD), (⟨("Near", some "__init__"), "__init__", "Near.__init__", defArgs (inClass (topS 48) 0), defBody (inClass (topS 48) 0), defScope (inClass (topS 48) 0), [], []⟩ : He.DefD), (⟨("weekday_mark", none), "weekday_mark", "weekday_mark", defArgs (topS 57), defBody (topS 57), defScope (topS 57), [], []⟩ : He.DefD), (⟨("LastOne", some "__init__"), "__init__", "LastOne.__init__", defArgs (inClass (topS 52) 0), defBody (inClass (topS 52) 0), defScope (inClass (topS 52) 0), [], []⟩ : He.DefD), (⟨("Nth", some "__init__"), "__init__", "Nth.__init__", defArgs (inClass (topS 51) 0), defBody (inClass (topS 51) 0), defScope (inClass (topS 51) 0), [], []⟩ : He.DefD), (⟨("Numbers", some "__init__"), "__init__", "Numbers.__init__", defArgs (inClass (topS 46) 0), defBody (inClass (topS 46) 0), defScope (inClass (topS 46) 0), [], []⟩ : He.DefD), (⟨("read_weekdays", none), "read_weekdays", "read_weekdays", defArgs (topS 62), defBody (topS 62), defScope (topS 62), [], []⟩ : He.DefD), (⟨("Weekdays", some "__init__"), "__init__", "Weekdays.__init__", defArgs (inClass (topS 50) 0), defBody (inClass (topS 50) 0), defScope (inClass (topS 50) 0), [], []⟩ : He.DefD), (⟨("Row", some "__init__"), "__init__", "Row.__init__", defArgs (inClass (topS 71) 0), defBody (inClass (topS 71) 0), defScope (inClass (topS 71) 0), [], []⟩ : He.DefD), (⟨("Row", some "times"), "times", "Row.times", defArgs (inClass (topS 71) 4), defBody (inClass (topS 71) 4), defScope (inClass (topS 71) 4), [], []⟩ : He.DefD), (⟨("numbers_in", none), "numbers_in", "numbers_in", defArgs (topS 31), defBody (topS 31), defScope (topS 31), [], []⟩ : He.DefD), (⟨("_law_rare", none), "_law_rare", "_law_rare", defArgs (topS 104), defBody (topS 104), defScope (topS 104), [], []⟩ : He.DefD), (⟨("_law_make", none), "_law_make", "_law_make", defArgs (topS 101), defBody (topS 101), defScope (topS 101), [], []⟩ : He.DefD), (⟨("Of", some "__init__"), "__init__", "Of.__init__", defArgs (inClass (topS 86) 0), defBody (inClass (topS 86) 0), defScope (inClass (topS 86) 0), [], []⟩ : He.DefD), (⟨("books_of", none), "books_of", "books_of", defArgs (topS 84), defBody (topS 84), defScope (topS 84), [], []⟩ : He.DefD), (⟨("need_book", none), "need_book", "need_book", defArgs (topS 82), defBody (topS 82), defScope (topS 82), [], []⟩ : He.DefD), (⟨("need_small", none), "need_small", "need_small", defArgs (topS 83), defBody (topS 83), defScope (topS 83), [], []⟩ : He.DefD)] ++ [(⟨("Book", some "tally"), "tally", "Book.tally", defArgs (inClass (topS 85) 2), defBody (inClass (topS 85) 2), defScope (inClass (topS 85) 2), [], []⟩ : He.DefD), (⟨("Of", some "tally"), "tally", "Book.tally", defArgs (inClass (topS 85) 2), defBody (inClass (topS 85) 2), defScope (inClass (topS 85) 2), [], []⟩ : He.DefD), (⟨("Joined", some "tally"), "tally", "Joined.tally", defArgs (inClass (topS 87) 3), defBody (inClass (topS 87) 3), defScope (inClass (topS 87) 3), [], []⟩ : He.DefD), (⟨("Met", some "tally"), "tally", "Met.tally", defArgs (inClass (topS 88) 3), defBody (inClass (topS 88) 3), defScope (inClass (topS 88) 3), [], []⟩ : He.DefD), (⟨("Less", some "tally"), "tally", "Less.tally", defArgs (inClass (topS 89) 3), defBody (inClass (topS 89) 3), defScope (inClass (topS 89) 3), [], []⟩ : He.DefD), (⟨("Turned", some "tally"), "tally", "Turned.tally", defArgs (inClass (topS 90) 3), defBody (inClass (topS 90) 3), defScope (inClass (topS 90) 3), [], []⟩ : He.DefD), (⟨("Book", some "depth"), "depth", "Book.depth", defArgs (inClass (topS 85) 3), defBody (inClass (topS 85) 3), defScope (inClass (topS 85) 3), [], []⟩ : He.DefD), (⟨("Of", some "depth"), "depth", "Book.depth", defArgs (inClass (topS 85) 3), defBody (inClass (topS 85) 3), defScope (inClass (topS 85) 3), [], []⟩ : He.DefD), (⟨("Joined", some "depth"), "depth", "Joined.depth", defArgs (inClass (topS 87) 4), defBody (inClass (topS 87) 4), defScope (inClass (topS 87) 4), [], []⟩ : He.DefD), (⟨("Met", some "depth"), "depth", "Met.depth", defArgs (inClass (topS 88) 4), defBody (inClass (topS 88) 4), defScope (inClass (topS 88) 4), [], []⟩ : He.DefD), (⟨("Less", some "depth"), "depth", "Less.depth", defArgs (inClass (topS 89) 4), defBody (inClass (topS 89) 4), defScope (inClass (topS 89) 4), [], []⟩ : He.DefD), (⟨("Turned", some "depth"), "depth", "Turned.depth", defArgs (inClass (topS 90) 4), defBody (inClass (topS 90) 4), defScope (inClass (topS 90) 4), [], []⟩ : He.DefD), (⟨("Joined", some "__init__"), "__init__", "Joined.__init__", defArgs (inClass (topS 87) 0), defBody (inClass (topS 87) 0), defScope (inClass (topS 87) 0), [], []⟩ : He.DefD), (⟨("Met", some "__init__"), "__init__", "Met.__init__", defArgs (inClass (topS 88) 0), defBody (inClass (topS 88) 0), defScope (inClass (topS 88) 0), [], []⟩ : He.DefD), (⟨("Less", some "__init__"), "__init__", "Less.__init__", defArgs (inClass (topS 89) 0), defBody (inClass (topS 89) 0), defScope (inClass (topS 89) 0), [], []⟩ : He.DefD), (⟨("Turned", some "__init__"), "__init__", "Turned.__init__", defArgs (inClass (topS 90) 0), defBody (inClass (topS 90) 0), defScope (inClass (topS 90) 0), [], []⟩ : He.DefD), (⟨("_law_word", none), "_law_word", "_law_word", defArgs (topS 109), defBody (topS 109), defScope (topS 109), [], []⟩ : He.DefD), (⟨("_law_masks", none), "_law_masks", "_law_masks", defArgs (topS 103), defBody (topS 103), defScope (topS 103), [], []⟩ : He.DefD), (⟨("month_at", none), "month_at", "month_at", defArgs (topS 25), defBody (topS 25), defScope (topS 25), [], []⟩ : He.DefD), (⟨("last_of", none), "last_of", "last_of", defArgs (topS 17), defBody (topS 17), defScope (topS 17), [], []⟩ : He.DefD), (⟨("is_long", none), "is_long", "is_long", defArgs (topS 15), defBody (topS 15), defScope (topS 15), [], []⟩ : He.DefD), (⟨("_law_joined", none), "_law_joined", "_law_joined", defArgs (topS 102), defBody (topS 102), defScope (topS 102), [], []⟩ : He.DefD), (⟨("Row", some "days_in"), "days_in", "Row.days_in", defArgs (inClass (topS 71) 5), defBody (inClass (topS 71) 5), defScope (inClass (topS 71) 5), [], []⟩ : He.DefD), (⟨("any_days", none), "any_days", "any_days", defArgs (topS 53), defBody (topS 53), defScope (topS 53), [], []⟩ : He.DefD), (⟨("Numbers", some "days"), "days", "Numbers.days", defArgs (inClass (topS 46) 1), defBody (inClass (topS 46) 1), defScope (inClass (topS 46) 1), [], []⟩ : He.DefD), (⟨("Last", some "days"), "days", "Last.days", defArgs (inClass (topS 47) 1), defBody (inClass (topS 47) 1), defScope (inClass (topS 47) 1), [], []⟩ : He.DefD), (⟨("Near", some "days"), "days", "Near.days", defArgs (inClass (topS 48) 1), defBody (inClass (topS 48) 1), defScope (inClass (topS 48) 1), [], []⟩ : He.DefD), (⟨("weekday_in", none), "weekday_in", "weekday_in", defArgs (topS 44), defBody (topS 44), defScope (topS 44), [], []⟩ : He.DefD), (⟨("LastWork", some "days"), "days", "LastWork.days", defArgs (inClass (topS 49) 0), defBody (inClass (topS 49) 0), defScope (inClass (topS 49) 0), [], []⟩ : He.DefD), (⟨("Weekdays", some "days"), "days", "Weekdays.days", defArgs (inClass (topS 50) 1), defBody (inClass (topS 50) 1), defScope (inClass (topS 50) 1), [], []⟩ : He.DefD), (⟨("Nth", some "days"), "days", "Nth.days", defArgs (inClass (topS 51) 1), defBody (inClass (topS 51) 1), defScope (inClass (topS 51) 1), [], []⟩ : He.DefD), (⟨("LastOne", some "days"), "days", "LastOne.days", defArgs (inClass (topS 52) 1), defBody (inClass (topS 52) 1), defScope (inClass (topS 52) 1), [], []⟩ : He.DefD), (⟨("against", none), "against", "against", defArgs (topS 93), defBody (topS 93), defScope (topS 93), [], []⟩ : He.DefD), (⟨("Book", some "on_days"), "on_days", "Book.on_days", defArgs (inClass (topS 85) 1), defBody (inClass (topS 85) 1), defScope (inClass (topS 85) 1), [], []⟩ : He.DefD), (⟨("days_of", none), "days_of", "days_of", defArgs (topS 81), defBody (topS 81), defScope (topS 81), [], []⟩ : He.DefD), (⟨("Of", some "on_days"), "on_days", "Of.on_days", defArgs (inClass (topS 86) 2), defBody (inClass (topS 86) 2), defScope (inClass (topS 86) 2), [], []⟩ : He.DefD), (⟨("Row", some "months"), "months", "Row.months", defArgs (inClass (topS 71) 3), defBody (inClass (topS 71) 3), defScope (inClass (topS 71) 3), [], []⟩ : He.DefD), (⟨("Joined", some "on_days"), "on_days", "Joined.on_days", defArgs (inClass (topS 87) 2), defBody (inClass (topS 87) 2), defScope (inClass (topS 87) 2), [], []⟩ : He.DefD), (⟨("Met", some "on_days"), "on_days", "Met.on_days", defArgs (inClass (topS 88) 2), defBody (inClass (topS 88) 2), defScope (inClass (topS 88) 2), [], []⟩ : He.DefD), (⟨("all_times", none), "all_times", "all_times", defArgs (topS 80), defBody (topS 80), defScope (topS 80), [], []⟩ : He.DefD)] ++ [(⟨("Less", some "on_days"), "on_days", "Less.on_days", defArgs (inClass (topS 89) 2), defBody (inClass (topS 89) 2), defScope (inClass (topS 89) 2), [], []⟩ : He.DefD), (⟨("Turned", some "on_days"), "on_days", "Turned.on_days", defArgs (inClass (topS 90) 2), defBody (inClass (topS 90) 2), defScope (inClass (topS 90) 2), [], []⟩ : He.DefD), (⟨("_law_rows", none), "_law_rows", "_law_rows", defArgs (topS 106), defBody (topS 106), defScope (topS 106), [], []⟩ : He.DefD), (⟨("_law_wide", none), "_law_wide", "_law_wide", defArgs (topS 107), defBody (topS 107), defScope (topS 107), [], []⟩ : He.DefD), (⟨("_law_leaves", none), "_law_leaves", "_law_leaves", defArgs (topS 108), defBody (topS 108), defScope (topS 108), [], []⟩ : He.DefD)]
abbrev EV (K : PySem.W.Frag) (mg : Str → Option Value) : Prop := Ev fa1 xs1 fn1 K mg
section
variable {P : Program} {w : World} {K : PySem.W.Frag} {mg : Str → Option Value} {base : Heap}
theorem C__law_cell_at (E : EV K mg) : Cal P w K mg base "_law_cell_at" 1 ["_law_script", "_law_k"] (spD K (cB K) 2 m__law_cell_at) := by
  obtain ⟨fd, F⟩ := E.d 1
  exact cal_mk (E.glo (E.f 1)) F.kp (F.bindsN (ps := ["_law_script", "_law_k"]) (fun _ _ _ _ _ _ us hl => match us, hl with | [_, _], _ => rfl)) (ok_m__law_cell_at (dfun F) (n_len := (E.free (E.f 2))))
theorem C__law_stir (E : EV K mg) : Cal P w K mg base "_law_stir" 1 ["_law_number"] (spD K (cB K) 1 m__law_stir) := by
  obtain ⟨fd, F⟩ := E.d 3
  exact cal_mk (E.glo (E.f 4)) F.kp (F.bindsN (ps := ["_law_number"]) (fun _ _ _ _ _ _ us hl => match us, hl with | [_], _ => rfl)) (ok_m__law_stir (dfun F) )
theorem C__law_digits (E : EV K mg) : Cal P w K mg base "_law_digits" 2 ["_law_cell", "_law_sizes", "_law_mixed"] (spD K (cB K) 3 m__law_digits) := by
  obtain ⟨fd, F⟩ := E.d 2
  exact cal_mk (E.glo (E.f 3)) F.kp (F.bindsN (ps := ["_law_cell", "_law_sizes", "_law_mixed"]) (fun _ _ _ _ _ _ us hl => match us, hl with | [_, _, _], _ => rfl)) (ok_m__law_digits (dfun F) (C__law_stir := (C__law_stir E)) (n_abs := (E.free (E.f 5))))
theorem C__law_field (E : EV K mg) : Cal P w K mg base "_law_field" 1 ["_law_parts", "_law_low", "_law_high"] (spD K (cB K) 3 m__law_field) := by
  obtain ⟨fd, F⟩ := E.d 7
  exact cal_mk (E.glo (E.f 9)) F.kp (F.bindsN (ps := ["_law_parts", "_law_low", "_law_high"]) (fun _ _ _ _ _ _ us hl => match us, hl with | [_, _, _], _ => rfl)) (ok_m__law_field (dfun F) (n_str := (E.free (E.f 10))))
theorem G_MOST_SIGNS_rows (E : EV K mg) : GlobD K (cB K) mg "MOST_SIGNS_rows" k_MOST_SIGNS_rows := E.gInt (E.f 13)
theorem C_words_of (E : EV K mg) : Cal P w K mg base "words_of" 1 ["text"] (spD K (cB K) 1 m_words_of) := by
  obtain ⟨fd, F⟩ := E.d 9
  exact cal_mk (E.glo (E.f 12)) F.kp (F.bindsN (ps := ["text"]) (fun _ _ _ _ _ _ us hl => match us, hl with | [_], _ => rfl)) (ok_m_words_of (dfun F) (g_MOST_SIGNS_rows := (G_MOST_SIGNS_rows E)) (n_isinstance := (E.free (E.f 14))) (n_str := (E.free (E.f 10))) (n_len := (E.free (E.f 2))))
theorem G_FIGURES_wholes (E : EV K mg) : GlobD K (cB K) mg "FIGURES_wholes" k_FIGURES_wholes := E.gStr (E.f 21)
theorem C_only_figures (E : EV K mg) : Cal P w K mg base "only_figures" 1 ["signs"] (spD K (cB K) 1 m_only_figures) := by
  obtain ⟨fd, F⟩ := E.d 15
  exact cal_mk (E.glo (E.f 20)) F.kp (F.bindsN (ps := ["signs"]) (fun _ _ _ _ _ _ us hl => match us, hl with | [_], _ => rfl)) (ok_m_only_figures (dfun F) (g_FIGURES_wholes := (G_FIGURES_wholes E)))
theorem C_number_in_fields (E : EV K mg) : Cal P w K mg base "number_in_fields" 2 ["text", "low", "high"] (spD K (cB K) 3 m_number_in) := by
  obtain ⟨fd, F⟩ := E.d 14
  exact cal_mk (E.glo (E.f 19)) F.kp (F.bindsN (ps := ["text", "low", "high"]) (fun _ _ _ _ _ _ us hl => match us, hl with | [_, _, _], _ => rfl)) (ok_m_number_in (dfun F) (C_only_figures := (C_only_figures E)) (n_len := (E.free (E.f 2))) (n_int := (E.free (E.f 22))))
theorem C_span_in (E : EV K mg) : Cal P w K mg base "span_in" 3 ["text", "low", "high"] (spO K (cB K) 3 m_span_in) := by
  obtain ⟨fd, F⟩ := E.d 13
  exact cal_mk (E.glo (E.f 18)) F.kp (F.bindsN (ps := ["text", "low", "high"]) (fun _ _ _ _ _ _ us hl => match us, hl with | [_, _, _], _ => rfl)) (ok_m_span_in (dfun F) (C_number_in_fields := (C_number_in_fields E)) (n_len := (E.free (E.f 2))))
theorem C_mask_of (E : EV K mg) : Cal P w K mg base "mask_of" 1 ["numbers"] (spD K (cB K) 1 m_mask_of) := by
  obtain ⟨fd, F⟩ := E.d 16
  exact cal_mk (E.glo (E.f 23)) F.kp (F.bindsN (ps := ["numbers"]) (fun _ _ _ _ _ _ us hl => match us, hl with | [_], _ => rfl)) (ok_m_mask_of (dfun F) )
theorem G_MOST_STRIDE (E : EV K mg) : GlobD K (cB K) mg "MOST_STRIDE" k_MOST_STRIDE := E.gInt (E.f 24)
theorem C_item_mask (E : EV K mg) : Cal P w K mg base "item_mask" 4 ["item", "low", "high"] (spD K (cB K) 3 m_item_mask) := by
  obtain ⟨fd, F⟩ := E.d 12
  exact cal_mk (E.glo (E.f 17)) F.kp (F.bindsN (ps := ["item", "low", "high"]) (fun _ _ _ _ _ _ us hl => match us, hl with | [_, _, _], _ => rfl)) (ok_m_item_mask (dfun F) (C_span_in := (C_span_in E)) (C_mask_of := (C_mask_of E)) (C_number_in_fields := (C_number_in_fields E)) (C_only_figures := (C_only_figures E)) (g_MOST_STRIDE := (G_MOST_STRIDE E)) (n_len := (E.free (E.f 2))) (n_list := (E.free (E.f 25))) (n_range := (E.free (E.f 26))))
theorem G_MOST_SIGNS_fields (E : EV K mg) : GlobD K (cB K) mg "MOST_SIGNS_fields" k_MOST_SIGNS_fields := E.gInt (E.f 27)
theorem G_MOST_ITEMS_fields (E : EV K mg) : GlobD K (cB K) mg "MOST_ITEMS_fields" k_MOST_ITEMS_fields := E.gInt (E.f 28)
theorem C_read_field (E : EV K mg) : Cal P w K mg base "read_field" 5 ["text", "low", "high"] (spD K (cB K) 3 m_read_field) := by
  obtain ⟨fd, F⟩ := E.d 11
  exact cal_mk (E.glo (E.f 16)) F.kp (F.bindsN (ps := ["text", "low", "high"]) (fun _ _ _ _ _ _ us hl => match us, hl with | [_, _, _], _ => rfl)) (ok_m_read_field (dfun F) (C_item_mask := (C_item_mask E)) (g_MOST_SIGNS_fields := (G_MOST_SIGNS_fields E)) (g_MOST_ITEMS_fields := (G_MOST_ITEMS_fields E)) (n_isinstance := (E.free (E.f 14))) (n_str := (E.free (E.f 10))) (n_len := (E.free (E.f 2))) (n_enumerate := (E.free (E.f 29))))
theorem G_MOST_SIGNS_marks (E : EV K mg) : GlobD K (cB K) mg "MOST_SIGNS_marks" k_MOST_SIGNS_marks := E.gInt (E.f 33)
theorem C_items_of (E : EV K mg) : Cal P w K mg base "items_of" 1 ["text"] (spD K (cB K) 1 m_items_of) := by
  obtain ⟨fd, F⟩ := E.d 19
  exact cal_mk (E.glo (E.f 32)) F.kp (F.bindsN (ps := ["text"]) (fun _ _ _ _ _ _ us hl => match us, hl with | [_], _ => rfl)) (ok_m_items_of (dfun F) (g_MOST_SIGNS_marks := (G_MOST_SIGNS_marks E)) (n_isinstance := (E.free (E.f 14))) (n_str := (E.free (E.f 10))) (n_len := (E.free (E.f 2))))
theorem C_plain_item (E : EV K mg) : Cal P w K mg base "plain_item" 6 ["item", "at", "low", "high"] (spD K (cB K) 4 m_plain_item) := by
  obtain ⟨fd, F⟩ := E.d 20
  exact cal_mk (E.glo (E.f 34)) F.kp (F.bindsN (ps := ["item", "at", "low", "high"]) (fun _ _ _ _ _ _ us hl => match us, hl with | [_, _, _, _], _ => rfl)) (ok_m_plain_item (dfun F) (C_read_field := (C_read_field E)))
theorem G_FIGURES_marks (E : EV K mg) : GlobD K (cB K) mg "FIGURES_marks" k_FIGURES_marks := E.gStr (E.f 36)
theorem C_number_in_marks (E : EV K mg) : Cal P w K mg base "number_in_marks" 1 ["text", "low", "high"] (spD K (cB K) 3 m_number_in_v2) := by
  obtain ⟨fd, F⟩ := E.d 22
  exact cal_mk (E.glo (E.f 35)) F.kp (F.bindsN (ps := ["text", "low", "high"]) (fun _ _ _ _ _ _ us hl => match us, hl with | [_, _, _], _ => rfl)) (ok_m_number_in_v2 (dfun F) (g_FIGURES_marks := (G_FIGURES_marks E)) (n_len := (E.free (E.f 2))) (n_int := (E.free (E.f 22))))
theorem Cl_Last (E : EV K mg) : Cls K (He.ga K "Last") := He.cls_ok (E.f 37)
theorem Na_Last_back (E : EV K mg) : NoAttr K (He.ga K "Last") "back" := He.noat_ok (E.f 38)
theorem K_Last (E : EV K mg) : MakD P w K mg base (cB K) "Last" 2 1 1 i_Last dd_Last := by
  obtain ⟨fd, F⟩ := E.d 23
  obtain ⟨ds, hv, hb⟩ := F.binds1 (ps := ["self", "back"]) 1 0 (by simp [He.DefD.dvs, He.Dv.v]) rfl (fun _ _ _ _ _ _ _ us its h1 h2 => match us, its, h1, h2 with | [_], [_], _, _ => ⟨_, rfl, rfl⟩)
  have b2 : Binds K fd ["self", "back"] [] := by
    obtain ⟨ds2, hv2, hb2⟩ := F.binds1 (ps := ["self", "back"]) 2 1 (by simp [He.DefD.dvs, He.Dv.v]) rfl (fun _ _ _ _ _ _ _ us its h1 h2 => match us, its, h1, h2 with | [_, _], [_], _, _ => ⟨_, rfl, rfl⟩)
    cases hv2
    exact hb2
  have o := ok_m_Last___init__ (P := P) (w := w) (mg := mg) (base := base) (c := cB K) (F := dfun F) (hpl := plB) (hnm := rfl) (hp0 := rfl) (hC := (Cl_Last E)) (A_back := (Na_Last_back E))
  exact ⟨⟨_, fd, ["self", "back"], (E.glo (E.f 39)), He.mkr_ok (E.f 40), b2, o⟩, ⟨_, fd, ["self", "back"], _, ds, (E.glo (E.f 39)), He.mkr_ok (E.f 40), hb, hv, fun G => ⟨_, _, rfl, rfl, rfl⟩, o⟩⟩
theorem K_LastWork (E : EV K mg) : Mak0 K mg (cB K) "LastWork" 4 := ⟨(E.glo (E.f 42)), (E.x 1), He.eqO_ok (E.x 2), He.keep_ok (E.f 41), rfl, rfl⟩
theorem Cl_Near (E : EV K mg) : Cls K (He.ga K "Near") := He.cls_ok (E.f 43)
theorem Na_Near_day (E : EV K mg) : NoAttr K (He.ga K "Near") "day" := He.noat_ok (E.f 44)
theorem K_Near (E : EV K mg) : Mak P w K mg base (cB K) "Near" 3 1 1 i_Near := by
  obtain ⟨fd, F⟩ := E.d 24
  exact ⟨_, fd, ["self", "day"], (E.glo (E.f 45)), He.mkr_ok (E.f 46), F.bindsN (fun _ _ _ _ _ _ us hl => match us, hl with | [_, _], _ => rfl), ok_m_Near___init__ (dfun F) (hpl := plB) (hnm := rfl) (hp0 := rfl) (hC := (Cl_Near E)) (A_day := (Na_Near_day E))⟩
theorem Cl_LastOne (E : EV K mg) : Cls K (He.ga K "LastOne") := He.cls_ok (E.f 47)
theorem Na_LastOne_weekday (E : EV K mg) : NoAttr K (He.ga K "LastOne") "weekday" := He.noat_ok (E.f 48)
theorem K_LastOne (E : EV K mg) : Mak P w K mg base (cB K) "LastOne" 7 1 1 i_LastOne := by
  obtain ⟨fd, F⟩ := E.d 26
  exact ⟨_, fd, ["self", "weekday"], (E.glo (E.f 49)), He.mkr_ok (E.f 50), F.bindsN (fun _ _ _ _ _ _ us hl => match us, hl with | [_, _], _ => rfl), ok_m_LastOne___init__ (dfun F) (hpl := plB) (hnm := rfl) (hp0 := rfl) (hC := (Cl_LastOne E)) (A_weekday := (Na_LastOne_weekday E))⟩
theorem Cl_Nth (E : EV K mg) : Cls K (He.ga K "Nth") := He.cls_ok (E.f 51)
theorem Na_Nth_weekday (E : EV K mg) : NoAttr K (He.ga K "Nth") "weekday" := He.noat_ok (E.f 52)
theorem Na_Nth_many (E : EV K mg) : NoAttr K (He.ga K "Nth") "many" := He.noat_ok (E.f 53)
theorem K_Nth (E : EV K mg) : Mak P w K mg base (cB K) "Nth" 6 1 2 i_Nth := by
  obtain ⟨fd, F⟩ := E.d 27
  exact ⟨_, fd, ["self", "weekday", "many"], (E.glo (E.f 54)), He.mkr_ok (E.f 55), F.bindsN (fun _ _ _ _ _ _ us hl => match us, hl with | [_, _, _], _ => rfl), ok_m_Nth___init__ (dfun F) (hpl := plB) (hnm := rfl) (hp0 := rfl) (hC := (Cl_Nth E)) (A_weekday := (Na_Nth_weekday E)) (A_many := (Na_Nth_many E))⟩
theorem V_marked (E : EV K mg) : CalV P w K mg base (cB K) 5 1 t_marked := by
  refine ⟨fun i F h => ?_⟩
  unfold t_marked at h
  split at h
  · cases h
    obtain ⟨fd, F⟩ := E.d 21
    exact ⟨fd, ["item"], F.kp, F.bindsN (fun _ _ _ _ _ _ us hl => match us, hl with | [_], _ => rfl), (ok_m_day_mark (dfun F) (C_number_in_marks := (C_number_in_marks E)) (K_Last := (K_Last E)) (K_LastWork := (K_LastWork E)) (K_Near := (K_Near E))).mono (by decide)⟩
  · cases h
    obtain ⟨fd, F⟩ := E.d 25
    exact ⟨fd, ["item"], F.kp, F.bindsN (fun _ _ _ _ _ _ us hl => match us, hl with | [_], _ => rfl), (ok_m_weekday_mark (dfun F) (C_number_in_marks := (C_number_in_marks E)) (K_LastOne := (K_LastOne E)) (K_Nth := (K_Nth E)) (n_len := (E.free (E.f 2)))).mono (by decide)⟩
  · cases h
theorem G_MOST_ITEMS_marks (E : EV K mg) : GlobD K (cB K) mg "MOST_ITEMS_marks" k_MOST_ITEMS_marks := E.gInt (E.f 56)
theorem G_MOST_MARKS (E : EV K mg) : GlobD K (cB K) mg "MOST_MARKS" k_MOST_MARKS := E.gInt (E.f 57)
theorem C_read_items (E : EV K mg) : Cal P w K mg base "read_items" 7 ["text", "marked", "low", "high"] (spD K (cB K) 4 m_read_items) := by
  obtain ⟨fd, F⟩ := E.d 18
  exact cal_mk (E.glo (E.f 31)) F.kp (F.bindsN (ps := ["text", "marked", "low", "high"]) (fun _ _ _ _ _ _ us hl => match us, hl with | [_, _, _, _], _ => rfl)) (ok_m_read_items (dfun F) (C_items_of := (C_items_of E)) (C_plain_item := (C_plain_item E)) (V_marked := (V_marked E)) (g_MOST_ITEMS_marks := (G_MOST_ITEMS_marks E)) (g_MOST_MARKS := (G_MOST_MARKS E)) (n_len := (E.free (E.f 2))) (n_min := (E.free (E.f 58))) (n_range := (E.free (E.f 26))))
theorem Cl_Numbers (E : EV K mg) : Cls K (He.ga K "Numbers") := He.cls_ok (E.f 59)
theorem Na_Numbers_mask (E : EV K mg) : NoAttr K (He.ga K "Numbers") "mask" := He.noat_ok (E.f 60)
theorem K_Numbers (E : EV K mg) : Mak P w K mg base (cB K) "Numbers" 1 1 1 i_Numbers := by
  obtain ⟨fd, F⟩ := E.d 28
  exact ⟨_, fd, ["self", "mask"], (E.glo (E.f 61)), He.mkr_ok (E.f 62), F.bindsN (fun _ _ _ _ _ _ us hl => match us, hl with | [_, _], _ => rfl), ok_m_Numbers___init__ (dfun F) (hpl := plB) (hnm := rfl) (hp0 := rfl) (hC := (Cl_Numbers E)) (A_mask := (Na_Numbers_mask E))⟩
theorem C_read_days (E : EV K mg) : Cal P w K mg base "read_days" 8 ["text"] (spD K (cB K) 1 m_read_days) := by
  obtain ⟨fd, F⟩ := E.d 17
  exact cal_mk (E.glo (E.f 30)) F.kp (F.bindsN (ps := ["text"]) (fun _ _ _ _ _ _ us hl => match us, hl with | [_], _ => rfl)) (ok_m_read_days (dfun F) (C_read_items := (C_read_items E)) (K_Numbers := (K_Numbers E)) (v_day_mark := (E.glo (E.f 63))))
theorem Cl_Weekdays (E : EV K mg) : Cls K (He.ga K "Weekdays") := He.cls_ok (E.f 65)
theorem Na_Weekdays_mask (E : EV K mg) : NoAttr K (He.ga K "Weekdays") "mask" := He.noat_ok (E.f 66)
theorem K_Weekdays (E : EV K mg) : Mak P w K mg base (cB K) "Weekdays" 5 1 1 i_Weekdays := by
  obtain ⟨fd, F⟩ := E.d 30
  exact ⟨_, fd, ["self", "mask"], (E.glo (E.f 67)), He.mkr_ok (E.f 68), F.bindsN (fun _ _ _ _ _ _ us hl => match us, hl with | [_, _], _ => rfl), ok_m_Weekdays___init__ (dfun F) (hpl := plB) (hnm := rfl) (hp0 := rfl) (hC := (Cl_Weekdays E)) (A_mask := (Na_Weekdays_mask E))⟩
theorem C_read_weekdays (E : EV K mg) : Cal P w K mg base "read_weekdays" 8 ["text"] (spD K (cB K) 1 m_read_weekdays) := by
  obtain ⟨fd, F⟩ := E.d 29
  exact cal_mk (E.glo (E.f 64)) F.kp (F.bindsN (ps := ["text"]) (fun _ _ _ _ _ _ us hl => match us, hl with | [_], _ => rfl)) (ok_m_read_weekdays (dfun F) (C_read_items := (C_read_items E)) (K_Weekdays := (K_Weekdays E)) (v_weekday_mark := (E.glo (E.f 69))))
theorem G_MINUTES_rows (E : EV K mg) : GlobD K (cB K) mg "MINUTES_rows" k_MINUTES_rows := E.gInt (E.f 70)
theorem G_HOURS (E : EV K mg) : GlobD K (cB K) mg "HOURS" k_HOURS := E.gInt (E.f 71)
theorem C_field_at (E : EV K mg) : Cal P w K mg base "field_at" 9 ["words", "place"] (spD K (cB K) 2 m_field_at) := by
  obtain ⟨fd, F⟩ := E.d 10
  exact cal_mk (E.glo (E.f 15)) F.kp (F.bindsN (ps := ["words", "place"]) (fun _ _ _ _ _ _ us hl => match us, hl with | [_, _], _ => rfl)) (ok_m_field_at (dfun F) (C_read_field := (C_read_field E)) (C_read_days := (C_read_days E)) (C_read_weekdays := (C_read_weekdays E)) (g_MINUTES_rows := (G_MINUTES_rows E)) (g_HOURS := (G_HOURS E)))
theorem Cl_Row (E : EV K mg) : Cls K (He.ga K "Row") := He.cls_ok (E.f 72)
theorem Na_Row_minute_mask (E : EV K mg) : NoAttr K (He.ga K "Row") "minute_mask" := He.noat_ok (E.f 73)
theorem Na_Row_hour_mask (E : EV K mg) : NoAttr K (He.ga K "Row") "hour_mask" := He.noat_ok (E.f 74)
theorem Na_Row_day_marks (E : EV K mg) : NoAttr K (He.ga K "Row") "day_marks" := He.noat_ok (E.f 75)
theorem Na_Row_month_mask (E : EV K mg) : NoAttr K (He.ga K "Row") "month_mask" := He.noat_ok (E.f 76)
theorem Na_Row_weekday_marks (E : EV K mg) : NoAttr K (He.ga K "Row") "weekday_marks" := He.noat_ok (E.f 77)
theorem K_Row (E : EV K mg) : Mak P w K mg base (cB K) "Row" 0 1 5 i_Row := by
  obtain ⟨fd, F⟩ := E.d 31
  exact ⟨_, fd, ["self", "minutes", "hours", "days", "months", "weekdays"], (E.glo (E.f 78)), He.mkr_ok (E.f 79), F.bindsN (fun _ _ _ _ _ _ us hl => match us, hl with | [_, _, _, _, _, _], _ => rfl), ok_m_Row___init__ (dfun F) (hpl := plB) (hnm := rfl) (hp0 := rfl) (hC := (Cl_Row E)) (A_minute_mask := (Na_Row_minute_mask E)) (A_hour_mask := (Na_Row_hour_mask E)) (A_day_marks := (Na_Row_day_marks E)) (A_month_mask := (Na_Row_month_mask E)) (A_weekday_marks := (Na_Row_weekday_marks E))⟩
theorem C_read_row (E : EV K mg) : Cal P w K mg base "read_row" 10 ["text"] (spD K (cB K) 1 m_read_row) := by
  obtain ⟨fd, F⟩ := E.d 8
  exact cal_mk (E.glo (E.f 11)) F.kp (F.bindsN (ps := ["text"]) (fun _ _ _ _ _ _ us hl => match us, hl with | [_], _ => rfl)) (ok_m_read_row (dfun F) (C_words_of := (C_words_of E)) (C_field_at := (C_field_at E)) (K_Row := (K_Row E)) (n_range := (E.free (E.f 26))))
theorem C__law_row (E : EV K mg) : Cal P w K mg base "_law_row" 11 ["_law_cell", "_law_mixed"] (spD K (cB K) 2 m__law_row) := by
  obtain ⟨fd, F⟩ := E.d 6
  exact cal_mk (E.glo (E.f 8)) F.kp (F.bindsN (ps := ["_law_cell", "_law_mixed"]) (fun _ _ _ _ _ _ us hl => match us, hl with | [_, _], _ => rfl)) (ok_m__law_row (dfun F) (C__law_digits := (C__law_digits E)) (C__law_field := (C__law_field E)) (C_read_row := (C_read_row E)) (n_str := (E.free (E.f 10))))
theorem C_numbers_in (E : EV K mg) : Cal P w K mg base "numbers_in" 1 ["mask"] (spD K (cB K) 1 m_numbers_in) := by
  obtain ⟨fd, F⟩ := E.d 33
  exact cal_mk (E.glo (E.f 80)) F.kp (F.bindsN (ps := ["mask"]) (fun _ _ _ _ _ _ us hl => match us, hl with | [_], _ => rfl)) (ok_m_numbers_in (dfun F) )
theorem Fl_hour_mask (E : EV K mg) : FldOk K (cB K) "hour_mask" at_hour_mask := by
  intro n i h
  unfold at_hour_mask at h
  split at h
  · cases h
    exact ⟨(Cl_Row E), (Na_Row_hour_mask E), (show (nmF 0).Nodup by decide +kernel), rfl⟩
  · cases h
theorem Fl_minute_mask (E : EV K mg) : FldOk K (cB K) "minute_mask" at_minute_mask := by
  intro n i h
  unfold at_minute_mask at h
  split at h
  · cases h
    exact ⟨(Cl_Row E), (Na_Row_minute_mask E), (show (nmF 0).Nodup by decide +kernel), rfl⟩
  · cases h
theorem M_times (E : EV K mg) : MCal P w K mg base (cB K) "times" 2 0 t_times := by
  refine ⟨fun i F h => ?_⟩
  unfold t_times at h
  split at h
  · cases h
    obtain ⟨fd, F⟩ := E.d 32
    exact ⟨_, fd, ["self"], (Cl_Row E), He.meth_ok (E.f 81), F.bindsN (fun _ _ _ _ _ _ us hl => match us, hl with | [_], _ => rfl), (ok_m_Row_times (dfun F) (C_numbers_in := (C_numbers_in E)) (g_MINUTES_rows := (G_MINUTES_rows E)) (f_hour_mask := (Fl_hour_mask E)) (f_minute_mask := (Fl_minute_mask E))).mono (by decide), (show _ ∉ nmF 0 by decide +kernel)⟩
  · cases h
theorem C__law_tree (E : EV K mg) : Cal P w K mg base "_law_tree" 19 ["_law_script", "_law_n", "_law_deep", "_law_mixed"] (spD K (cB K) 4 (m__law_tree 8)) := by
  obtain ⟨fd, F⟩ := E.d 5
  have b := F.bindsN (ps := ["_law_script", "_law_n", "_law_deep", "_law_mixed"]) (fun _ _ _ _ _ _ us hl => match us, hl with | [_, _, _, _], _ => rfl)
  exact cal_mk (E.glo (E.f 7)) F.kp b (rec_m__law_tree (dfun F) (E.glo (E.f 7)) b (C__law_digits := (C__law_digits E)) (C__law_cell_at := (C__law_cell_at E)) (C__law_row := (C__law_row E)) (M_times := (M_times E)) (n_range := (E.free (E.f 26))) 8)
theorem C__law_rare (E : EV K mg) : Cal P w K mg base "_law_rare" 11 ["_law_cell", "_law_mixed"] (spD K (cB K) 2 m__law_rare) := by
  obtain ⟨fd, F⟩ := E.d 34
  exact cal_mk (E.glo (E.f 82)) F.kp (F.bindsN (ps := ["_law_cell", "_law_mixed"]) (fun _ _ _ _ _ _ us hl => match us, hl with | [_, _], _ => rfl)) (ok_m__law_rare (dfun F) (C__law_digits := (C__law_digits E)) (C_read_row := (C_read_row E)) (n_str := (E.free (E.f 10))))
theorem C__law_two (E : EV K mg) : Cal P w K mg base "_law_two" 20 ["_law_script", "_law_way", "_law_mixed"] (spD K (cB K) 3 m__law_two) := by
  obtain ⟨fd, F⟩ := E.d 4
  exact cal_mk (E.glo (E.f 6)) F.kp (F.bindsN (ps := ["_law_script", "_law_way", "_law_mixed"]) (fun _ _ _ _ _ _ us hl => match us, hl with | [_, _, _], _ => rfl)) (ok_m__law_two (dfun F) (C__law_tree := (C__law_tree E)) (C__law_rare := (C__law_rare E)) (C__law_cell_at := (C__law_cell_at E)) (M_times := (M_times E)) (n_range := (E.free (E.f 26))))
theorem K_Book (E : EV K mg) : Mak0 K mg (cB K) "Book" 8 := ⟨(E.glo (E.f 85)), (E.x 3), He.eqO_ok (E.x 4), He.keep_ok (E.f 84), rfl, rfl⟩
theorem Cl_Of (E : EV K mg) : Cls K (He.ga K "Of") := He.cls_ok (E.f 86)
theorem Na_Of_row (E : EV K mg) : NoAttr K (He.ga K "Of") "row" := He.noat_ok (E.f 87)
theorem Na_Of_told_times (E : EV K mg) : NoAttr K (He.ga K "Of") "told_times" := He.noat_ok (E.f 88)
theorem Na_Of_told_days (E : EV K mg) : NoAttr K (He.ga K "Of") "told_days" := He.noat_ok (E.f 89)
theorem Ic_Row (E : EV K mg) : C8.InsC K (He.ga K "Row") := ⟨(Cl_Row E), He.eqO_ok (E.x 6), He.eqO_ok (E.x 7), of_decide_eq_true (E.x 8), of_decide_eq_true (E.x 9), of_decide_eq_true (E.x 5)⟩
theorem Is_Row (E : EV K mg) : IsiOk K (cB K) (.ref (He.ga K "Row")) isiRow := by
  refine ⟨fun t r h => ?_, fun i r h => ?_⟩
  · unfold isiRow at h
    split at h
    · cases h
      exact of_decide_eq_true (E.x 5)
    · cases h
  · unfold isiRow at h
    split at h
    · rename_i z
      cases z
      exact (Ic_Row E)
    · cases h
theorem K_Of (E : EV K mg) : Mak P w K mg base (cB K) "Of" 9 3 1 i_Of := by
  obtain ⟨fd, F⟩ := E.d 36
  exact ⟨_, fd, ["self", "row"], (E.glo (E.f 90)), He.mkr_ok (E.f 91), F.bindsN (fun _ _ _ _ _ _ us hl => match us, hl with | [_, _], _ => rfl), ok_m_Of___init__ (dfun F) (hpl := plB) (hC := (Cl_Of E)) (A_row := (Na_Of_row E)) (A_told_times := (Na_Of_told_times E)) (A_told_days := (Na_Of_told_days E)) (M_times := (M_times E)) (x_Row := (E.glo (E.f 78))) (q_Row := (Is_Row E)) (n_isinstance := (E.free (E.f 14)))⟩
theorem Cl_Joined (E : EV K mg) : Cls K (He.ga K "Joined") := He.cls_ok (E.f 92)
theorem Na_Joined_books (E : EV K mg) : NoAttr K (He.ga K "Joined") "books" := He.noat_ok (E.f 93)
theorem Cl_Book (E : EV K mg) : Cls K (He.ga K "Book") := He.cls_ok (E.f 96)
theorem Ic_Book (E : EV K mg) : C8.InsC K (He.ga K "Book") := ⟨(Cl_Book E), He.eqO_ok (E.x 16), He.eqO_ok (E.x 7), of_decide_eq_true (E.x 8), of_decide_eq_true (E.x 17), of_decide_eq_true (E.x 10)⟩
theorem Ic_Of (E : EV K mg) : C8.InsC K (He.ga K "Of") := ⟨(Cl_Of E), He.eqO_ok (E.x 18), He.eqO_ok (E.x 7), of_decide_eq_true (E.x 8), of_decide_eq_true (E.x 19), of_decide_eq_true (E.x 20)⟩
theorem Ic_Joined (E : EV K mg) : C8.InsC K (He.ga K "Joined") := ⟨(Cl_Joined E), He.eqO_ok (E.x 21), He.eqO_ok (E.x 7), of_decide_eq_true (E.x 8), of_decide_eq_true (E.x 22), of_decide_eq_true (E.x 23)⟩
theorem Cl_Met (E : EV K mg) : Cls K (He.ga K "Met") := He.cls_ok (E.f 97)
theorem Ic_Met (E : EV K mg) : C8.InsC K (He.ga K "Met") := ⟨(Cl_Met E), He.eqO_ok (E.x 24), He.eqO_ok (E.x 7), of_decide_eq_true (E.x 8), of_decide_eq_true (E.x 25), of_decide_eq_true (E.x 26)⟩
theorem Cl_Less (E : EV K mg) : Cls K (He.ga K "Less") := He.cls_ok (E.f 98)
theorem Ic_Less (E : EV K mg) : C8.InsC K (He.ga K "Less") := ⟨(Cl_Less E), He.eqO_ok (E.x 27), He.eqO_ok (E.x 7), of_decide_eq_true (E.x 8), of_decide_eq_true (E.x 28), of_decide_eq_true (E.x 29)⟩
theorem Cl_Turned (E : EV K mg) : Cls K (He.ga K "Turned") := He.cls_ok (E.f 99)
theorem Ic_Turned (E : EV K mg) : C8.InsC K (He.ga K "Turned") := ⟨(Cl_Turned E), He.eqO_ok (E.x 30), He.eqO_ok (E.x 7), of_decide_eq_true (E.x 8), of_decide_eq_true (E.x 31), of_decide_eq_true (E.x 32)⟩
theorem Is_Book (E : EV K mg) : IsiOk K (cB K) (.ref (He.ga K "Book")) isiBook := by
  refine ⟨fun t r h => ?_, fun i r h => ?_⟩
  · unfold isiBook at h
    split at h
    · cases h
      exact of_decide_eq_true (E.x 10)
    · cases h
      exact of_decide_eq_true (E.x 11)
    · cases h
      exact of_decide_eq_true (E.x 12)
    · cases h
      exact of_decide_eq_true (E.x 13)
    · cases h
      exact of_decide_eq_true (E.x 14)
    · cases h
      exact of_decide_eq_true (E.x 15)
    · cases h
  · unfold isiBook at h
    split at h
    · rename_i z
      cases z
      exact (Ic_Book E)
    · rename_i z
      cases z
      exact (Ic_Of E)
    · rename_i z
      cases z
      exact (Ic_Joined E)
    · rename_i z
      cases z
      exact (Ic_Met E)
    · rename_i z
      cases z
      exact (Ic_Less E)
    · rename_i z
      cases z
      exact (Ic_Turned E)
    · cases h
theorem C_need_book (E : EV K mg) : Cal P w K mg base "need_book" 1 ["book"] (spD K (cB K) 1 m_need_book) := by
  obtain ⟨fd, F⟩ := E.d 38
  exact cal_mk (E.glo (E.f 95)) F.kp (F.bindsN (ps := ["book"]) (fun _ _ _ _ _ _ us hl => match us, hl with | [_], _ => rfl)) (ok_m_need_book (dfun F) (x_Book := (E.glo (E.f 85))) (q_Book := (Is_Book E)) (n_isinstance := (E.free (E.f 14))))
theorem Na_Met_books (E : EV K mg) : NoAttr K (He.ga K "Met") "books" := He.noat_ok (E.f 104)
theorem Fl_books (E : EV K mg) : FldOk K (cB K) "books" at_books := by
  intro n i h
  unfold at_books at h
  split at h
  · cases h
    exact ⟨(Cl_Joined E), (Na_Joined_books E), (show (nmF 10).Nodup by decide +kernel), rfl⟩
  · cases h
    exact ⟨(Cl_Met E), (Na_Met_books E), (show (nmF 11).Nodup by decide +kernel), rfl⟩
  · cases h
theorem Na_Less_one (E : EV K mg) : NoAttr K (He.ga K "Less") "one" := He.noat_ok (E.f 107)
theorem Na_Turned_one (E : EV K mg) : NoAttr K (He.ga K "Turned") "one" := He.noat_ok (E.f 108)
theorem Fl_one (E : EV K mg) : FldOk K (cB K) "one" at_one := by
  intro n i h
  unfold at_one at h
  split at h
  · cases h
    exact ⟨(Cl_Less E), (Na_Less_one E), (show (nmF 12).Nodup by decide +kernel), rfl⟩
  · cases h
    exact ⟨(Cl_Turned E), (Na_Turned_one E), (show (nmF 13).Nodup by decide +kernel), rfl⟩
  · cases h
theorem Na_Less_other (E : EV K mg) : NoAttr K (He.ga K "Less") "other" := He.noat_ok (E.f 109)
theorem Fl_other (E : EV K mg) : FldOk K (cB K) "other" at_other := by
  intro n i h
  unfold at_other at h
  split at h
  · cases h
    exact ⟨(Cl_Less E), (Na_Less_other E), (show (nmF 12).Nodup by decide +kernel), rfl⟩
  · cases h
theorem MT_tally (E : EV K mg) : ∀ n, MCal P w K mg base (cB K) "tally" (3 + n) 0 (T_tally n) := by
  intro n
  induction n with
  | zero => exact ⟨fun i F h => nomatch h⟩
  | succ n ih =>
    refine ⟨fun i F h => ?_⟩
    unfold T_tally at h
    split at h
    · cases h
      obtain ⟨fd, F⟩ := E.d 40
      exact ⟨_, fd, ["self"], (Cl_Book E), He.meth_ok (E.f 101), F.bindsN (fun _ _ _ _ _ _ us hl => match us, hl with | [_], _ => rfl), (ok_m_Book_tally (dfun F) ).mono (by omega), (show _ ∉ nmF 8 by decide +kernel)⟩
    · cases h
      obtain ⟨fd, F⟩ := E.d 41
      exact ⟨_, fd, ["self"], (Cl_Of E), He.meth_ok (E.f 102), F.bindsN (fun _ _ _ _ _ _ us hl => match us, hl with | [_], _ => rfl), (ok_m_Book_tally (dfun F) ).mono (by omega), (show _ ∉ nmF 9 by decide +kernel)⟩
    · cases h
      obtain ⟨fd, F⟩ := E.d 42
      exact ⟨_, fd, ["self"], (Cl_Joined E), He.meth_ok (E.f 105), F.bindsN (fun _ _ _ _ _ _ us hl => match us, hl with | [_], _ => rfl), (ok_m_Joined_tally (dfun F) (lv := _) (hlv := by omega) (M_tally := ih) (n_sum := (E.free (E.f 103))) (f_books := (Fl_books E))).mono (by omega), (show _ ∉ nmF 10 by decide +kernel)⟩
    · cases h
      obtain ⟨fd, F⟩ := E.d 43
      exact ⟨_, fd, ["self"], (Cl_Met E), He.meth_ok (E.f 106), F.bindsN (fun _ _ _ _ _ _ us hl => match us, hl with | [_], _ => rfl), (ok_m_Met_tally (dfun F) (lv := _) (hlv := by omega) (M_tally := ih) (n_sum := (E.free (E.f 103))) (f_books := (Fl_books E))).mono (by omega), (show _ ∉ nmF 11 by decide +kernel)⟩
    · cases h
      obtain ⟨fd, F⟩ := E.d 44
      exact ⟨_, fd, ["self"], (Cl_Less E), He.meth_ok (E.f 110), F.bindsN (fun _ _ _ _ _ _ us hl => match us, hl with | [_], _ => rfl), (ok_m_Less_tally (dfun F) (lv := _) (hlv := by omega) (M_tally := ih) (f_one := (Fl_one E)) (f_other := (Fl_other E))).mono (by omega), (show _ ∉ nmF 12 by decide +kernel)⟩
    · cases h
      obtain ⟨fd, F⟩ := E.d 45
      exact ⟨_, fd, ["self"], (Cl_Turned E), He.meth_ok (E.f 111), F.bindsN (fun _ _ _ _ _ _ us hl => match us, hl with | [_], _ => rfl), (ok_m_Turned_tally (dfun F) (lv := _) (hlv := by omega) (M_tally := ih) (f_one := (Fl_one E))).mono (by omega), (show _ ∉ nmF 13 by decide +kernel)⟩
    · cases h
theorem MT_depth (E : EV K mg) : ∀ n, MCal P w K mg base (cB K) "depth" (3 + n) 0 (T_depth n) := by
  intro n
  induction n with
  | zero => exact ⟨fun i F h => nomatch h⟩
  | succ n ih =>
    refine ⟨fun i F h => ?_⟩
    unfold T_depth at h
    split at h
    · cases h
      obtain ⟨fd, F⟩ := E.d 46
      exact ⟨_, fd, ["self"], (Cl_Book E), He.meth_ok (E.f 112), F.bindsN (fun _ _ _ _ _ _ us hl => match us, hl with | [_], _ => rfl), (ok_m_Book_depth (dfun F) ).mono (by omega), (show _ ∉ nmF 8 by decide +kernel)⟩
    · cases h
      obtain ⟨fd, F⟩ := E.d 47
      exact ⟨_, fd, ["self"], (Cl_Of E), He.meth_ok (E.f 113), F.bindsN (fun _ _ _ _ _ _ us hl => match us, hl with | [_], _ => rfl), (ok_m_Book_depth (dfun F) ).mono (by omega), (show _ ∉ nmF 9 by decide +kernel)⟩
    · cases h
      obtain ⟨fd, F⟩ := E.d 48
      exact ⟨_, fd, ["self"], (Cl_Joined E), He.meth_ok (E.f 115), F.bindsN (fun _ _ _ _ _ _ us hl => match us, hl with | [_], _ => rfl), (ok_m_Joined_depth (dfun F) (lv := _) (hlv := by omega) (M_depth := ih) (n_max := (E.free (E.f 114))) (f_books := (Fl_books E))).mono (by omega), (show _ ∉ nmF 10 by decide +kernel)⟩
    · cases h
      obtain ⟨fd, F⟩ := E.d 49
      exact ⟨_, fd, ["self"], (Cl_Met E), He.meth_ok (E.f 116), F.bindsN (fun _ _ _ _ _ _ us hl => match us, hl with | [_], _ => rfl), (ok_m_Met_depth (dfun F) (lv := _) (hlv := by omega) (M_depth := ih) (n_max := (E.free (E.f 114))) (f_books := (Fl_books E))).mono (by omega), (show _ ∉ nmF 11 by decide +kernel)⟩
    · cases h
      obtain ⟨fd, F⟩ := E.d 50
      exact ⟨_, fd, ["self"], (Cl_Less E), He.meth_ok (E.f 117), F.bindsN (fun _ _ _ _ _ _ us hl => match us, hl with | [_], _ => rfl), (ok_m_Less_depth (dfun F) (lv := _) (hlv := by omega) (M_depth := ih) (n_max := (E.free (E.f 114))) (f_other := (Fl_other E)) (f_one := (Fl_one E))).mono (by omega), (show _ ∉ nmF 12 by decide +kernel)⟩
    · cases h
      obtain ⟨fd, F⟩ := E.d 51
      exact ⟨_, fd, ["self"], (Cl_Turned E), He.meth_ok (E.f 118), F.bindsN (fun _ _ _ _ _ _ us hl => match us, hl with | [_], _ => rfl), (ok_m_Turned_depth (dfun F) (lv := _) (hlv := by omega) (M_depth := ih) (f_one := (Fl_one E))).mono (by omega), (show _ ∉ nmF 13 by decide +kernel)⟩
    · cases h
theorem G_MOST_COUNTED (E : EV K mg) : GlobD K (cB K) mg "MOST_COUNTED" k_MOST_COUNTED := E.gInt (E.f 119)
theorem G_DEEPEST (E : EV K mg) : GlobD K (cB K) mg "DEEPEST" k_DEEPEST := E.gInt (E.f 120)
theorem C_need_small (E : EV K mg) : Cal P w K mg base "need_small" 12 ["books"] (spD K (cB K) 1 m_need_small) := by
  obtain ⟨fd, F⟩ := E.d 39
  exact cal_mk (E.glo (E.f 100)) F.kp (F.bindsN (ps := ["books"]) (fun _ _ _ _ _ _ us hl => match us, hl with | [_], _ => rfl)) (ok_m_need_small (dfun F) (M_tally := (MT_tally E 8)) (M_depth := (MT_depth E 8)) (g_MOST_COUNTED := (G_MOST_COUNTED E)) (g_DEEPEST := (G_DEEPEST E)) (n_sum := (E.free (E.f 103))) (n_max := (E.free (E.f 114))))
theorem G_MOST_PARTS (E : EV K mg) : GlobD K (cB K) mg "MOST_PARTS" k_MOST_PARTS := E.gInt (E.f 121)
theorem C_books_of (E : EV K mg) : Cal P w K mg base "books_of" 13 ["books"] (spD K (cB K) 1 m_books_of) := by
  obtain ⟨fd, F⟩ := E.d 37
  exact cal_mk (E.glo (E.f 94)) F.kp (F.bindsN (ps := ["books"]) (fun _ _ _ _ _ _ us hl => match us, hl with | [_], _ => rfl)) (ok_m_books_of (dfun F) (C_need_book := (C_need_book E)) (C_need_small := (C_need_small E)) (g_MOST_PARTS := (G_MOST_PARTS E)) (n_isinstance := (E.free (E.f 14))) (n_list := (E.free (E.f 25))) (n_len := (E.free (E.f 2))) (n_tuple := (E.free (E.f 122))))
theorem K_Joined (E : EV K mg) : Mak P w K mg base (cB K) "Joined" 10 14 1 i_Joined := by
  obtain ⟨fd, F⟩ := E.d 52
  exact ⟨_, fd, ["self", "books"], (E.glo (E.f 123)), He.mkr_ok (E.f 124), F.bindsN (fun _ _ _ _ _ _ us hl => match us, hl with | [_, _], _ => rfl), ok_m_Joined___init__ (dfun F) (hpl := plB) (hnm := rfl) (hp0 := rfl) (hC := (Cl_Joined E)) (A_books := (Na_Joined_books E)) (C_books_of := (C_books_of E))⟩
theorem K_Met (E : EV K mg) : Mak P w K mg base (cB K) "Met" 11 14 1 i_Met := by
  obtain ⟨fd, F⟩ := E.d 53
  exact ⟨_, fd, ["self", "books"], (E.glo (E.f 125)), He.mkr_ok (E.f 126), F.bindsN (fun _ _ _ _ _ _ us hl => match us, hl with | [_, _], _ => rfl), ok_m_Met___init__ (dfun F) (hpl := plB) (hnm := rfl) (hp0 := rfl) (hC := (Cl_Met E)) (A_books := (Na_Met_books E)) (C_books_of := (C_books_of E))⟩
theorem K_Less (E : EV K mg) : Mak P w K mg base (cB K) "Less" 12 13 2 i_Less := by
  obtain ⟨fd, F⟩ := E.d 54
  exact ⟨_, fd, ["self", "one", "other"], (E.glo (E.f 127)), He.mkr_ok (E.f 128), F.bindsN (fun _ _ _ _ _ _ us hl => match us, hl with | [_, _, _], _ => rfl), ok_m_Less___init__ (dfun F) (hpl := plB) (hnm := rfl) (hp0 := rfl) (hC := (Cl_Less E)) (A_one := (Na_Less_one E)) (A_other := (Na_Less_other E)) (C_need_book := (C_need_book E)) (C_need_small := (C_need_small E))⟩
theorem K_Turned (E : EV K mg) : Mak P w K mg base (cB K) "Turned" 13 13 1 i_Turned := by
  obtain ⟨fd, F⟩ := E.d 55
  exact ⟨_, fd, ["self", "one"], (E.glo (E.f 129)), He.mkr_ok (E.f 130), F.bindsN (fun _ _ _ _ _ _ us hl => match us, hl with | [_, _], _ => rfl), ok_m_Turned___init__ (dfun F) (hpl := plB) (hnm := rfl) (hp0 := rfl) (hC := (Cl_Turned E)) (A_one := (Na_Turned_one E)) (C_need_book := (C_need_book E)) (C_need_small := (C_need_small E))⟩
theorem C__law_make (E : EV K mg) : Cal P w K mg base "_law_make" 23 ["_law_tree_here"] (spD K (cB K) 1 (m__law_make 8)) := by
  obtain ⟨fd, F⟩ := E.d 35
  have b := F.bindsN (ps := ["_law_tree_here"]) (fun _ _ _ _ _ _ us hl => match us, hl with | [_], _ => rfl)
  exact cal_mk (E.glo (E.f 83)) F.kp b (rec_m__law_make (dfun F) (E.glo (E.f 83)) b (K_Book := (K_Book E)) (K_Of := (K_Of E)) (K_Joined := (K_Joined E)) (K_Met := (K_Met E)) (K_Less := (K_Less E)) (K_Turned := (K_Turned E)) 8)
theorem C_is_long (E : EV K mg) : Cal P w K mg base "is_long" 1 ["year"] (spD K (cB K) 1 m_is_long) := by
  obtain ⟨fd, F⟩ := E.d 60
  exact cal_mk (E.glo (E.f 135)) F.kp (F.bindsN (ps := ["year"]) (fun _ _ _ _ _ _ us hl => match us, hl with | [_], _ => rfl)) (ok_m_is_long (dfun F) )
theorem G_LASTS (E : EV K mg) : GlobD K (cB K) mg "LASTS" k_LASTS := E.gTup (ns := [31, 28, 31, 30, 31, 30, 31, 31, 30, 31, 30, 31]) (E.f 136) (E.x 33)
theorem C_last_of (E : EV K mg) : Cal P w K mg base "last_of" 2 ["year", "month"] (spD K (cB K) 2 m_last_of) := by
  obtain ⟨fd, F⟩ := E.d 59
  exact cal_mk (E.glo (E.f 134)) F.kp (F.bindsN (ps := ["year", "month"]) (fun _ _ _ _ _ _ us hl => match us, hl with | [_, _], _ => rfl)) (ok_m_last_of (dfun F) (C_is_long := (C_is_long E)) (g_LASTS := (G_LASTS E)))
theorem G_LONG (E : EV K mg) : GlobD K (cB K) mg "LONG" k_LONG := E.gInt (E.f 137)
theorem G_SHORT_YEAR (E : EV K mg) : GlobD K (cB K) mg "SHORT_YEAR" k_SHORT_YEAR := E.gInt (E.f 138)
theorem C_month_at (E : EV K mg) : Cal P w K mg base "month_at" 3 ["kind"] (spD K (cB K) 1 m_month_at) := by
  obtain ⟨fd, F⟩ := E.d 58
  exact cal_mk (E.glo (E.f 133)) F.kp (F.bindsN (ps := ["kind"]) (fun _ _ _ _ _ _ us hl => match us, hl with | [_], _ => rfl)) (ok_m_month_at (dfun F) (C_last_of := (C_last_of E)) (g_LONG := (G_LONG E)) (g_SHORT_YEAR := (G_SHORT_YEAR E)) (n_divmod := (E.free (E.f 139))))
theorem C__law_joined (E : EV K mg) : Cal P w K mg base "_law_joined" 1 ["_law_word_here", "_law_one", "_law_other"] (spD K (cB K) 3 m__law_joined) := by
  obtain ⟨fd, F⟩ := E.d 61
  exact cal_mk (E.glo (E.f 140)) F.kp (F.bindsN (ps := ["_law_word_here", "_law_one", "_law_other"]) (fun _ _ _ _ _ _ us hl => match us, hl with | [_, _, _], _ => rfl)) (ok_m__law_joined (dfun F) )
theorem Fl_mask (E : EV K mg) : FldOk K (cB K) "mask" at_mask := by
  intro n i h
  unfold at_mask at h
  split at h
  · cases h
    exact ⟨(Cl_Numbers E), (Na_Numbers_mask E), (show (nmF 1).Nodup by decide +kernel), rfl⟩
  · cases h
    exact ⟨(Cl_Weekdays E), (Na_Weekdays_mask E), (show (nmF 5).Nodup by decide +kernel), rfl⟩
  · cases h
theorem Fl_back (E : EV K mg) : FldOk K (cB K) "back" at_back := by
  intro n i h
  unfold at_back at h
  split at h
  · cases h
    exact ⟨(Cl_Last E), (Na_Last_back E), (show (nmF 2).Nodup by decide +kernel), rfl⟩
  · cases h
theorem C_weekday_in (E : EV K mg) : Cal P w K mg base "weekday_in" 1 ["day", "first"] (spD K (cB K) 2 m_weekday_in) := by
  obtain ⟨fd, F⟩ := E.d 67
  exact cal_mk (E.glo (E.f 144)) F.kp (F.bindsN (ps := ["day", "first"]) (fun _ _ _ _ _ _ us hl => match us, hl with | [_, _], _ => rfl)) (ok_m_weekday_in (dfun F) )
theorem G_SATURDAY (E : EV K mg) : GlobD K (cB K) mg "SATURDAY" k_SATURDAY := E.gInt (E.f 145)
theorem G_SUNDAY (E : EV K mg) : GlobD K (cB K) mg "SUNDAY" k_SUNDAY := E.gInt (E.f 146)
theorem Fl_day (E : EV K mg) : FldOk K (cB K) "day" at_day := by
  intro n i h
  unfold at_day at h
  split at h
  · cases h
    exact ⟨(Cl_Near E), (Na_Near_day E), (show (nmF 3).Nodup by decide +kernel), rfl⟩
  · cases h
theorem Cl_LastWork (E : EV K mg) : Cls K (He.ga K "LastWork") := He.cls_ok (E.f 148)
theorem Fl_weekday (E : EV K mg) : FldOk K (cB K) "weekday" at_weekday := by
  intro n i h
  unfold at_weekday at h
  split at h
  · cases h
    exact ⟨(Cl_Nth E), (Na_Nth_weekday E), (show (nmF 6).Nodup by decide +kernel), rfl⟩
  · cases h
    exact ⟨(Cl_LastOne E), (Na_LastOne_weekday E), (show (nmF 7).Nodup by decide +kernel), rfl⟩
  · cases h
theorem Fl_many (E : EV K mg) : FldOk K (cB K) "many" at_many := by
  intro n i h
  unfold at_many at h
  split at h
  · cases h
    exact ⟨(Cl_Nth E), (Na_Nth_many E), (show (nmF 6).Nodup by decide +kernel), rfl⟩
  · cases h
theorem M_days (E : EV K mg) : MCal P w K mg base (cB K) "days" 2 2 t_days := by
  refine ⟨fun i F h => ?_⟩
  unfold t_days at h
  split at h
  · cases h
    obtain ⟨fd, F⟩ := E.d 64
    exact ⟨_, fd, ["self", "last", "first"], (Cl_Numbers E), He.meth_ok (E.f 142), F.bindsN (fun _ _ _ _ _ _ us hl => match us, hl with | [_, _, _], _ => rfl), (ok_m_Numbers_days (dfun F) (f_mask := (Fl_mask E))).mono (by decide), (show _ ∉ nmF 1 by decide +kernel)⟩
  · cases h
    obtain ⟨fd, F⟩ := E.d 65
    exact ⟨_, fd, ["self", "last", "first"], (Cl_Last E), He.meth_ok (E.f 143), F.bindsN (fun _ _ _ _ _ _ us hl => match us, hl with | [_, _, _], _ => rfl), (ok_m_Last_days (dfun F) (f_back := (Fl_back E))).mono (by decide), (show _ ∉ nmF 2 by decide +kernel)⟩
  · cases h
    obtain ⟨fd, F⟩ := E.d 66
    exact ⟨_, fd, ["self", "last", "first"], (Cl_Near E), He.meth_ok (E.f 147), F.bindsN (fun _ _ _ _ _ _ us hl => match us, hl with | [_, _, _], _ => rfl), (ok_m_Near_days (dfun F) (C_weekday_in := (C_weekday_in E)) (g_SATURDAY := (G_SATURDAY E)) (g_SUNDAY := (G_SUNDAY E)) (f_day := (Fl_day E))).mono (by decide), (show _ ∉ nmF 3 by decide +kernel)⟩
  · cases h
    obtain ⟨fd, F⟩ := E.d 68
    exact ⟨_, fd, ["self", "last", "first"], (Cl_LastWork E), He.meth_ok (E.f 149), F.bindsN (fun _ _ _ _ _ _ us hl => match us, hl with | [_, _, _], _ => rfl), (ok_m_LastWork_days (dfun F) (C_weekday_in := (C_weekday_in E)) (g_SATURDAY := (G_SATURDAY E)) (g_SUNDAY := (G_SUNDAY E))).mono (by decide), (show _ ∉ nmF 4 by decide +kernel)⟩
  · cases h
    obtain ⟨fd, F⟩ := E.d 69
    exact ⟨_, fd, ["self", "last", "first"], (Cl_Weekdays E), He.meth_ok (E.f 150), F.bindsN (fun _ _ _ _ _ _ us hl => match us, hl with | [_, _, _], _ => rfl), (ok_m_Weekdays_days (dfun F) (C_weekday_in := (C_weekday_in E)) (n_range := (E.free (E.f 26))) (f_mask := (Fl_mask E))).mono (by decide), (show _ ∉ nmF 5 by decide +kernel)⟩
  · cases h
    obtain ⟨fd, F⟩ := E.d 70
    exact ⟨_, fd, ["self", "last", "first"], (Cl_Nth E), He.meth_ok (E.f 151), F.bindsN (fun _ _ _ _ _ _ us hl => match us, hl with | [_, _, _], _ => rfl), (ok_m_Nth_days (dfun F) (f_weekday := (Fl_weekday E)) (f_many := (Fl_many E))).mono (by decide), (show _ ∉ nmF 6 by decide +kernel)⟩
  · cases h
    obtain ⟨fd, F⟩ := E.d 71
    exact ⟨_, fd, ["self", "last", "first"], (Cl_LastOne E), He.meth_ok (E.f 152), F.bindsN (fun _ _ _ _ _ _ us hl => match us, hl with | [_, _, _], _ => rfl), (ok_m_LastOne_days (dfun F) (C_weekday_in := (C_weekday_in E)) (f_weekday := (Fl_weekday E))).mono (by decide), (show _ ∉ nmF 7 by decide +kernel)⟩
  · cases h
theorem C_any_days (E : EV K mg) : Cal P w K mg base "any_days" 3 ["marks", "last", "first"] (spD K (cB K) 3 m_any_days) := by
  obtain ⟨fd, F⟩ := E.d 63
  exact cal_mk (E.glo (E.f 141)) F.kp (F.bindsN (ps := ["marks", "last", "first"]) (fun _ _ _ _ _ _ us hl => match us, hl with | [_, _, _], _ => rfl)) (ok_m_any_days (dfun F) (M_days := (M_days E)))
theorem Fl_month_mask (E : EV K mg) : FldOk K (cB K) "month_mask" at_month_mask := by
  intro n i h
  unfold at_month_mask at h
  split at h
  · cases h
    exact ⟨(Cl_Row E), (Na_Row_month_mask E), (show (nmF 0).Nodup by decide +kernel), rfl⟩
  · cases h
theorem Fl_day_marks (E : EV K mg) : FldOk K (cB K) "day_marks" at_day_marks := by
  intro n i h
  unfold at_day_marks at h
  split at h
  · cases h
    exact ⟨(Cl_Row E), (Na_Row_day_marks E), (show (nmF 0).Nodup by decide +kernel), rfl⟩
  · cases h
theorem Fl_weekday_marks (E : EV K mg) : FldOk K (cB K) "weekday_marks" at_weekday_marks := by
  intro n i h
  unfold at_weekday_marks at h
  split at h
  · cases h
    exact ⟨(Cl_Row E), (Na_Row_weekday_marks E), (show (nmF 0).Nodup by decide +kernel), rfl⟩
  · cases h
theorem M_days_in (E : EV K mg) : MCal P w K mg base (cB K) "days_in" 5 1 t_days_in := by
  refine ⟨fun i F h => ?_⟩
  unfold t_days_in at h
  split at h
  · cases h
    obtain ⟨fd, F⟩ := E.d 62
    exact ⟨_, fd, ["self", "kind"], (Cl_Row E), He.meth_ok (E.f 153), F.bindsN (fun _ _ _ _ _ _ us hl => match us, hl with | [_, _], _ => rfl), (ok_m_Row_days_in (dfun F) (C_month_at := (C_month_at E)) (C_any_days := (C_any_days E)) (f_month_mask := (Fl_month_mask E)) (f_day_marks := (Fl_day_marks E)) (f_weekday_marks := (Fl_weekday_marks E))).mono (by decide), (show _ ∉ nmF 0 by decide +kernel)⟩
  · cases h
theorem C__law_masks (E : EV K mg) : Cal P w K mg base "_law_masks" 13 ["_law_tree_here", "_law_kind"] (spD K (cB K) 2 (m__law_masks 8)) := by
  obtain ⟨fd, F⟩ := E.d 57
  have b := F.bindsN (ps := ["_law_tree_here", "_law_kind"]) (fun _ _ _ _ _ _ us hl => match us, hl with | [_, _], _ => rfl)
  exact cal_mk (E.glo (E.f 132)) F.kp b (rec_m__law_masks (dfun F) (E.glo (E.f 132)) b (C_month_at := (C_month_at E)) (C__law_joined := (C__law_joined E)) (M_days_in := (M_days_in E)) (n_range := (E.free (E.f 26))) 8)
theorem C__law_word (E : EV K mg) : Cal P w K mg base "_law_word" 14 ["_law_one", "_law_other"] (spD K (cB K) 2 m__law_word) := by
  obtain ⟨fd, F⟩ := E.d 56
  exact cal_mk (E.glo (E.f 131)) F.kp (F.bindsN (ps := ["_law_one", "_law_other"]) (fun _ _ _ _ _ _ us hl => match us, hl with | [_, _], _ => rfl)) (ok_m__law_word (dfun F) (C__law_masks := (C__law_masks E)) (n_range := (E.free (E.f 26))) (n_zip := (E.free (E.f 154))) (n_int := (E.free (E.f 22))))
theorem C_days_of (E : EV K mg) : Cal P w K mg base "days_of" 4 ["kind"] (spD K (cB K) 1 m_days_of) := by
  obtain ⟨fd, F⟩ := E.d 74
  exact cal_mk (E.glo (E.f 156)) F.kp (F.bindsN (ps := ["kind"]) (fun _ _ _ _ _ _ us hl => match us, hl with | [_], _ => rfl)) (ok_m_days_of (dfun F) (C_month_at := (C_month_at E)))
theorem M_months (E : EV K mg) : MCal P w K mg base (cB K) "months" 1 0 t_months := by
  refine ⟨fun i F h => ?_⟩
  unfold t_months at h
  split at h
  · cases h
    obtain ⟨fd, F⟩ := E.d 76
    exact ⟨_, fd, ["self"], (Cl_Row E), He.meth_ok (E.f 158), F.bindsN (fun _ _ _ _ _ _ us hl => match us, hl with | [_], _ => rfl), (ok_m_Row_months (dfun F) (f_month_mask := (Fl_month_mask E))).mono (by decide), (show _ ∉ nmF 0 by decide +kernel)⟩
  · cases h
theorem Fl_row (E : EV K mg) : FldOk K (cB K) "row" at_row := by
  intro n i h
  unfold at_row at h
  split at h
  · cases h
    exact ⟨(Cl_Of E), (Na_Of_row E), (show (nmF 9).Nodup by decide +kernel), rfl⟩
  · cases h
theorem Fl_told_times (E : EV K mg) : FldOk K (cB K) "told_times" at_told_times := by
  intro n i h
  unfold at_told_times at h
  split at h
  · cases h
    exact ⟨(Cl_Of E), (Na_Of_told_times E), (show (nmF 9).Nodup by decide +kernel), rfl⟩
  · cases h
theorem G_MINUTES_books (E : EV K mg) : GlobD K (cB K) mg "MINUTES_books" k_MINUTES_books := E.gInt (E.f 162)
theorem C_all_times (E : EV K mg) : Cal P w K mg base "all_times" 1 [] (spD K (cB K) 0 m_all_times) := by
  obtain ⟨fd, F⟩ := E.d 79
  exact cal_mk (E.glo (E.f 161)) F.kp (F.bindsN (ps := []) (fun _ _ _ _ _ _ us hl => match us, hl with | [], _ => rfl)) (ok_m_all_times (dfun F) (g_MINUTES_books := (G_MINUTES_books E)))
theorem MT_on_days (E : EV K mg) : ∀ n, MCal P w K mg base (cB K) "on_days" (12 + n) 1 (T_on_days n) := by
  intro n
  induction n with
  | zero => exact ⟨fun i F h => nomatch h⟩
  | succ n ih =>
    refine ⟨fun i F h => ?_⟩
    unfold T_on_days at h
    split at h
    · cases h
      obtain ⟨fd, F⟩ := E.d 73
      exact ⟨_, fd, ["self", "kind"], (Cl_Book E), He.meth_ok (E.f 157), F.bindsN (fun _ _ _ _ _ _ us hl => match us, hl with | [_, _], _ => rfl), (ok_m_Book_on_days (dfun F) (C_days_of := (C_days_of E)) (n_range := (E.free (E.f 26)))).mono (by omega), (show _ ∉ nmF 8 by decide +kernel)⟩
    · cases h
      obtain ⟨fd, F⟩ := E.d 75
      exact ⟨_, fd, ["self", "kind"], (Cl_Of E), He.meth_ok (E.f 159), F.bindsN (fun _ _ _ _ _ _ us hl => match us, hl with | [_, _], _ => rfl), (ok_m_Of_on_days (dfun F) (hinj := (clOf_inj (E.x 0))) (hC := (Cl_Of E)) (A_told_days := (Na_Of_told_days E)) (C_month_at := (C_month_at E)) (M_months := (M_months E)) (M_days_in := (M_days_in E)) (n_range := (E.free (E.f 26))) (f_row := (Fl_row E)) (f_told_times := (Fl_told_times E))).mono (by omega), (show _ ∉ nmF 9 by decide +kernel)⟩
    · cases h
      obtain ⟨fd, F⟩ := E.d 77
      exact ⟨_, fd, ["self", "kind"], (Cl_Joined E), He.meth_ok (E.f 160), F.bindsN (fun _ _ _ _ _ _ us hl => match us, hl with | [_, _], _ => rfl), (ok_m_Joined_on_days (dfun F) (lv := _) (hlv := by omega) (M_on_days := ih) (C_days_of := (C_days_of E)) (n_range := (E.free (E.f 26))) (n_zip := (E.free (E.f 154))) (f_books := (Fl_books E))).mono (by omega), (show _ ∉ nmF 10 by decide +kernel)⟩
    · cases h
      obtain ⟨fd, F⟩ := E.d 78
      exact ⟨_, fd, ["self", "kind"], (Cl_Met E), He.meth_ok (E.f 163), F.bindsN (fun _ _ _ _ _ _ us hl => match us, hl with | [_, _], _ => rfl), (ok_m_Met_on_days (dfun F) (lv := _) (hlv := by omega) (M_on_days := ih) (C_days_of := (C_days_of E)) (C_all_times := (C_all_times E)) (n_range := (E.free (E.f 26))) (n_zip := (E.free (E.f 154))) (f_books := (Fl_books E))).mono (by omega), (show _ ∉ nmF 11 by decide +kernel)⟩
    · cases h
      obtain ⟨fd, F⟩ := E.d 80
      exact ⟨_, fd, ["self", "kind"], (Cl_Less E), He.meth_ok (E.f 164), F.bindsN (fun _ _ _ _ _ _ us hl => match us, hl with | [_, _], _ => rfl), (ok_m_Less_on_days (dfun F) (lv := _) (hlv := by omega) (M_on_days := ih) (n_zip := (E.free (E.f 154))) (f_other := (Fl_other E)) (f_one := (Fl_one E))).mono (by omega), (show _ ∉ nmF 12 by decide +kernel)⟩
    · cases h
      obtain ⟨fd, F⟩ := E.d 81
      exact ⟨_, fd, ["self", "kind"], (Cl_Turned E), He.meth_ok (E.f 165), F.bindsN (fun _ _ _ _ _ _ us hl => match us, hl with | [_, _], _ => rfl), (ok_m_Turned_on_days (dfun F) (lv := _) (hlv := by omega) (M_on_days := ih) (C_all_times := (C_all_times E)) (f_one := (Fl_one E))).mono (by omega), (show _ ∉ nmF 13 by decide +kernel)⟩
    · cases h
theorem G_KINDS (E : EV K mg) : GlobD K (cB K) mg "KINDS" k_KINDS := E.gInt (E.f 166)
theorem C_against (E : EV K mg) : Cal P w K mg base "against" 21 ["one", "other"] (spD K (cB K) 2 m_against) := by
  obtain ⟨fd, F⟩ := E.d 72
  exact cal_mk (E.glo (E.f 155)) F.kp (F.bindsN (ps := ["one", "other"]) (fun _ _ _ _ _ _ us hl => match us, hl with | [_, _], _ => rfl)) (ok_m_against (dfun F) (M_on_days := (MT_on_days E 8)) (g_KINDS := (G_KINDS E)) (n_range := (E.free (E.f 26))) (n_zip := (E.free (E.f 154))))
theorem C__law_rows (E : EV K mg) : Cal P w K mg base "_law_rows" 8 ["_law_tree_here"] (spD K (cB K) 1 (m__law_rows 8)) := by
  obtain ⟨fd, F⟩ := E.d 82
  have b := F.bindsN (ps := ["_law_tree_here"]) (fun _ _ _ _ _ _ us hl => match us, hl with | [_], _ => rfl)
  exact cal_mk (E.glo (E.f 167)) F.kp b (rec_m__law_rows (dfun F) (E.glo (E.f 167)) b  8)
theorem C__law_wide (E : EV K mg) : Cal P w K mg base "_law_wide" 16 ["_law_rows_here"] (spD K (cB K) 1 m__law_wide) := by
  obtain ⟨fd, F⟩ := E.d 83
  exact cal_mk (E.glo (E.f 168)) F.kp (F.bindsN (ps := ["_law_rows_here"]) (fun _ _ _ _ _ _ us hl => match us, hl with | [_], _ => rfl)) (ok_m__law_wide (dfun F) (K_Joined := (K_Joined E)) (K_Book := (K_Book E)) (K_Of := (K_Of E)) (n_len := (E.free (E.f 2))))
theorem C__law_leaves (E : EV K mg) : Cal P w K mg base "_law_leaves" 3 ["_law_rows_here"] (spD K (cB K) 1 m__law_leaves) := by
  obtain ⟨fd, F⟩ := E.d 84
  exact cal_mk (E.glo (E.f 169)) F.kp (F.bindsN (ps := ["_law_rows_here"]) (fun _ _ _ _ _ _ us hl => match us, hl with | [_], _ => rfl)) (ok_m__law_leaves (dfun F) (M_times := (M_times E)))
theorem C_law (E : EV K mg) : Cal P w K mg base "law" 24 ["_law_script"] (spD K (cB K) 1 m_law) := by
  obtain ⟨fd, F⟩ := E.d 0
  exact cal_mk (E.glo (E.f 0)) F.kp (F.bindsN (ps := ["_law_script"]) (fun _ _ _ _ _ _ us hl => match us, hl with | [_], _ => rfl)) (ok_m_law (dfun F) (C__law_cell_at := (C__law_cell_at E)) (C__law_digits := (C__law_digits E)) (C__law_two := (C__law_two E)) (C__law_make := (C__law_make E)) (C__law_word := (C__law_word E)) (C_against := (C_against E)) (C__law_rows := (C__law_rows E)) (C__law_wide := (C__law_wide E)) (C__law_leaves := (C__law_leaves E)) (M_tally := (MT_tally E 8)) (K_Book := (K_Book E)) (n_isinstance := (E.free (E.f 14))) (n_str := (E.free (E.f 10))))
end
end DL
set_option maxRecDepth 100000
set_option maxHeartbeats 4000000
namespace DL
open PySem L2
def nm1_0 : List Str := ["_wall", "FieldError", "NoDay", "NoField", "NoRow", "NoBook", "FIGURES_wholes", "is_whole", "only_figures", "LASTS", "ROUND_YEARS", "ROUND_DAYS", "is_long", "days_before", "last_of", "day_of", "date_of", "weekday", "LONG", "SHORT_YEAR", "kind_of", "month_at", "MOST_SIGNS_fields", "MOST_ITEMS_fields", "MOST_STRIDE"]
def nm1_1 : List Str := ["mask_of", "numbers_in", "number_in", "number_in_fields", "span_in", "item_mask", "read_field", "FIGURES_marks", "MOST_SIGNS_marks", "MOST_ITEMS_marks", "MOST_MARKS", "SUNDAY", "SATURDAY", "weekday_in", "Mark", "Numbers", "Last", "Near", "LastWork", "Weekdays", "Nth", "LastOne", "any_days", "number_in_marks", "day_mark"]
def nm1_2 : List Str := ["weekday_mark", "items_of", "plain_item", "read_items", "read_days", "read_weekdays", "DAY", "HOUR", "parted", "MOST_SIGNS_rows", "HOURS", "MINUTES_rows", "Row", "words_of", "field_at", "read_row", "MOST_PARTS", "MOST_COUNTED", "DEEPEST", "MINUTES_books", "all_times", "days_of", "need_book", "need_small", "books_of"]
def nm1_3 : List Str := ["Book", "Of", "Joined", "Met", "Less", "Turned", "KINDS", "against", "_law_cell_at", "_law_stir", "_law_digits", "_law_field", "_law_row", "_law_tree", "_law_make", "_law_joined", "_law_masks", "_law_rare", "_law_two", "_law_rows", "_law_wide", "_law_leaves", "_law_word"]
def nm1 : List Str := nm1_0 ++ nm1_1 ++ nm1_2 ++ nm1_3
abbrev R1 : PySem.W.OpenRow := PySem.W.OpenLaw.row PySem.Challenge.rw_fivefields_k71_against
def as1 : List Addr := [3, 60, 79, 224, 231, 252, 259, 266, 286, 293, 300, 319, 326, 333, 352, 359, 378, 385, 392, 411, 418, 425, 444, 451, 458, 547, 554, 561, 568, 575, 582, 589, 596, 603, 678, 683, 690, 697, 718, 725] ++ [730, 749, 756, 761, 766, 771, 790, 797, 802, 807, 812, 831, 838, 843, 850, 857, 876, 883, 888, 895, 902, 6, 4, 21, 31, 44, 63, 82, 94, 103, 110, 111, 118, 125, 132, 137, 144, 151, 158, 165] ++ [172, 179, 477, 184, 189, 196, 203, 210, 234, 269, 303, 336, 362, 395, 428, 461, 470, 484, 491, 498, 505, 512, 519, 526, 533, 606, 617, 624, 631, 638, 645, 652, 657, 664, 700, 733, 774, 815, 860, 905] ++ [914, 921, 928, 935, 942, 949, 954, 959, 966, 971, 978, 983, 990, 995, 1000, 1007, 1012, 0, 20, 30, 43, 62, 81, 93, 102, 109, 117, 124, 131, 136, 143, 150, 157, 164, 171, 178, 476, 183, 188, 195] ++ [202, 209, 233, 268, 302, 335, 361, 394, 427, 460, 469, 483, 490, 497, 504, 511, 518, 525, 532, 605, 616, 623, 630, 637, 644, 651, 656, 663, 699, 732, 773, 814, 859, 904, 913, 920, 927, 934, 941, 948] ++ [953, 958, 965, 970, 977, 982, 989, 994, 999, 1006, 1011, 59, 78, 223, 230, 251, 258, 265, 285, 279, 292, 299, 318, 325, 332, 351, 358, 377, 384, 391, 410, 417, 424, 443, 450, 457, 546, 553, 560, 567] ++ [574, 581, 588, 595, 602, 677, 682, 689, 696, 717, 724, 729, 748, 755, 760, 765, 770, 789, 796, 801, 806, 811, 830, 837, 842, 849, 856, 875, 882, 887, 894, 901]
end DL
set_option maxRecDepth 100000
set_option maxHeartbeats 4000000
namespace DL
open PySem L2
theorem runA (w : World) : HandSHeadRun.RunEq R1 (PySem.W.view R1.prog [110]) (hkL as1 fa1 [] []) (obL as1 fa1 [] []) 30000 nm1 w := by
  intro os
  kernel_rfl
end DL
set_option maxRecDepth 100000
set_option maxHeartbeats 4000000
namespace DL
open PySem L2
theorem runB (w : World) : HandSHeadRun.RunEq R1 (PySem.W.view R1.prog [110]) (hkL as1 [] xs1 []) (obL as1 [] xs1 []) 30000 nm1 w := by
  intro os
  kernel_rfl
end DL
set_option maxRecDepth 100000
set_option maxHeartbeats 4000000
namespace DL
open PySem L2
theorem runC (w : World) : HandSHeadRun.RunEq R1 (PySem.W.view R1.prog [110]) (hkL as1 [] [] fn1) (obL as1 [] [] fn1) 30000 nm1 w := by
  intro os
  kernel_rfl
end DL
set_option maxRecDepth 100000
namespace DL
open PySem L2
/-! ### the mirrors, run by simp -/
section
variable {ρ : Sl} {f g h : DE} {F G : DS} {t u : DB} {a : DA} {o o' : D → D → Option D} {i j : Nat} {x y d : D} {ds : List D} {T : TgD}
@[simp] theorem s_var : dVar i ρ = match ρ[i]? with | some (.val d) => some d | _ => none := rfl
@[simp] theorem s_c : dC d ρ = some d := rfl
@[simp] theorem s_op : dOp o f g ρ = (f ρ).bind fun x => (g ρ).bind fun y => o x y := rfl
/-- a truth, if it is one -/
def truth : D → Option Bool
  | .bl b => some b
  | _ => none
@[simp] theorem truth_bl {b : Bool} : truth (.bl b) = some b := rfl
@[simp] theorem s_asB : asB f ρ = (f ρ).bind truth := by
  unfold asB
  cases f ρ with
  | none => rfl
  | some d => cases d <;> rfl
@[simp] theorem s_andT : dAndT t u ρ = (t ρ).bind fun b => if b = true then u ρ else some false := by
  unfold dAndT
  cases t ρ with
  | none => rfl
  | some b => cases b <;> rfl
@[simp] theorem s_orT : dOrT t u ρ = (t ρ).bind fun b => if b = true then some true else u ρ := by
  unfold dOrT
  cases t ρ with
  | none => rfl
  | some b => cases b <;> rfl
@[simp] theorem s_notT : dNotT t ρ = (t ρ).map (!·) := rfl
@[simp] theorem s_and : dAnd f g ρ = ((f ρ).bind truth).bind fun b => if b = true then g ρ else some (.bl false) := by
  unfold dAnd
  cases f ρ with
  | none => rfl
  | some d => cases d with
    | bl b => cases b <;> rfl
    | _ => rfl
@[simp] theorem s_or : dOr f g ρ = ((f ρ).bind truth).bind fun b => if b = true then some (.bl true) else g ρ := by
  unfold dOr
  cases f ρ with
  | none => rfl
  | some d => cases d with
    | bl b => cases b <;> rfl
    | _ => rfl
@[simp] theorem s_not : dNot f ρ = ((f ρ).bind truth).map fun b => .bl (!b) := by
  unfold dNot
  cases f ρ with
  | none => rfl
  | some d => cases d <;> rfl
@[simp] theorem s_ifE : dIf t f g ρ = (t ρ).bind fun b => if b = true then f ρ else g ρ := by
  unfold dIf
  cases t ρ with
  | none => rfl
  | some b => cases b <;> rfl
@[simp] theorem s_chain : dChain o o' f g h ρ = (f ρ).bind fun x => (g ρ).bind fun y => ((o x y).bind truth).bind fun b => if b = true then (h ρ).bind fun z => o' y z else some (.bl false) := by
  unfold dChain
  cases f ρ with
  | none => rfl
  | some x =>
    cases g ρ with
    | none => rfl
    | some y =>
      show (match o x y with
        | some (.bl true) => (h ρ).bind fun z => o' y z
        | some (.bl false) => some (.bl false)
        | _ => none) = ((o x y).bind truth).bind _
      cases o x y with
      | none => rfl
      | some d => cases d with
        | bl b => cases b <;> rfl
        | _ => rfl
@[simp] theorem s_nil : aNil ρ = some [] := rfl
@[simp] theorem s_cons : aCons f a ρ = (f ρ).bind fun x => (a ρ).map fun r => x :: r := rfl
@[simp] theorem s_tup : dTup a ρ = (a ρ).bind fun ds => if ds.length ≤ 100000 then some (.tup ds) else none := rfl
@[simp] theorem s_dO {f : DOw} : dO f ρ = (f ρ).map .lst := rfl
@[simp] theorem s_oLst : oLst a ρ = (a ρ).bind fun ds => if ds.length ≤ 100000 then some ds else none := rfl
@[simp] theorem s_call {n : Nat} {M : List D → Option D} : dCall n M a ρ = (a ρ).bind fun ds => if ds.length = n then M ds else none := rfl
@[simp] theorem s_oCall {n : Nat} {M : List D → Option (List D)} : oCall n M a ρ = (a ρ).bind fun ds => if ds.length = n then M ds else none := rfl
@[simp] theorem s_make {n m : Nat} {M : List D → Option (List D)} : dMake n m M a ρ = (a ρ).bind fun ds => if ds.length = m then (M ds).map (.ins n) else none := rfl
@[simp] theorem s_bu {M : List D → Option D} : dBu M a ρ = (a ρ).bind M := rfl
@[simp] theorem s_oBu {M : List D → Option (List D)} : oBu M a ρ = (a ρ).bind M := rfl
@[simp] theorem s_oOp {o : D → D → Option (List D)} : oOp o f g ρ = (f ρ).bind fun x => (g ρ).bind fun y => o x y := rfl
@[simp] theorem s_isi {M : Tag → Option Bool} : dIsi M f ρ = (f ρ).bind fun d => (tagOf d).bind fun t => (M t).map .bl := rfl
@[simp] theorem s_oNone : oNone ρ = some none := rfl
@[simp] theorem s_oSome : oSome f ρ = match f ρ with | some (.int i) => some (some i) | _ => none := rfl
@[simp] theorem s_sl {l r : DO} : dSl f l r ρ = (f ρ).bind fun x => (l ρ).bind fun l => (r ρ).bind fun h => opSl x l h := rfl
@[simp] theorem s_dneg : dNeg f ρ = match f ρ with | some (.int i) => some (.int (-i)) | _ => none := rfl
@[simp] theorem s_fld {att : Nat → Option Nat} : dFld att f ρ = match f ρ with | some (.ins n fs) => (att n).bind fun i => fs[i]? | _ => none := rfl
@[simp] theorem s_meth {n : Nat} {tbl : Nat → Option (List D → Option D)} : dMeth n tbl f a ρ = (f ρ).bind fun x => (a ρ).bind fun ds => if ds.length = n then match x with
  | .ins i _ => (tbl i).bind fun M => M (x :: ds)
  | _ => none else none := rfl
@[simp] theorem s_wipe0 : wipeD ρ [] = ρ := rfl
@[simp] theorem s_wipe {v : Nat} {vs : List Nat} : wipeD ρ (v :: vs) = (wipeD ρ vs).set v .un := rfl
@[simp] theorem s_ap0 : apD ρ [] = ρ := rfl
@[simp] theorem s_tgN : tgN i d = some [(i, d)] := rfl
@[simp] theorem s_tgT {is : List Nat} : tgT is (.tup ds) = if ds.length = is.length then some (is.zip ds) else none := rfl
/-! statements -/
@[simp] theorem s_sNil : sNil ρ = some (.nx ρ) := rfl
@[simp] theorem s_seq : sSeq F G ρ = match F ρ with | some (.nx ρ') => G ρ' | r => r := rfl
@[simp] theorem s_never_ : sNever ρ = none := rfl
@[simp] theorem s_asg_ : sAsg f T ρ = (f ρ).bind fun d => (T d).map fun l => .nx (apD ρ l) := rfl
@[simp] theorem s_asgO {f : DOw} : sAsgO f i ρ = (f ρ).map fun ds => .nx (ρ.set i (.own ds)) := rfl
@[simp] theorem s_drop : sDrop f ρ = (f ρ).map fun _ => .nx ρ := rfl
@[simp] theorem s_ret_ : sRet f ρ = (f ρ).map .rt := rfl
@[simp] theorem s_retE_ {f : DOw} : sRetE f ρ = (f ρ).map .ro := rfl
@[simp] theorem s_if_ : sIf t F G ρ = (t ρ).bind fun b => if b = true then F ρ else G ρ := by
  unfold sIf
  cases t ρ with
  | none => rfl
  | some b => cases b <;> rfl
@[simp] theorem s_frz : sFrz i F ρ = F (frzD i ρ) := rfl
@[simp] theorem s_forI {it : Sl → Option (List D)} : sFor it T F ρ = (it ρ).bind fun ds => forD T F ds ρ := rfl
@[simp] theorem s_for0 : forD T F [] ρ = some (.nx ρ) := rfl
@[simp] theorem s_runD {n : Nat} : runD n F ds = match F (startD n ds) with
  | some (.rt d) => some d
  | some (.nx _) => some .non
  | some (.ro ds) => some (.lst ds)
  | _ => none := rfl
@[simp] theorem s_runO {n : Nat} : runO n F ds = match F (startD n ds) with
  | some (.ro ds) => some ds
  | _ => none := rfl
/-! operators on ints -/
variable {m n : Int}
@[simp] theorem o_add : opAdd (.int m) (.int n) = some (.int (m + n)) := rfl
@[simp] theorem o_sub : opSub (.int m) (.int n) = some (.int (m - n)) := rfl
@[simp] theorem o_and : opAnd (.int m) (.int n) = some (.int (Builtin.bitAnd m n)) := rfl
@[simp] theorem o_or : opOr (.int m) (.int n) = some (.int (Builtin.bitOr m n)) := rfl
@[simp] theorem o_xor : opXor (.int m) (.int n) = some (.int (Builtin.bitXor m n)) := rfl
@[simp] theorem o_mod : opMod (.int m) (.int n) = if 0 < n then some (.int (m % n)) else none := rfl
@[simp] theorem o_fdiv : opFdiv (.int m) (.int n) = if 0 < n ∧ n < 1073741824 then some (.int (m / n)) else none := rfl
@[simp] theorem o_shl : opShl (.int m) (.int n) = if 0 ≤ n ∧ n ≤ 1000000 ∧ m.natAbs < 2 ^ 64 then some (.int (m * 2 ^ n.toNat)) else none := rfl
@[simp] theorem o_shr : opShr (.int m) (.int n) = if 0 ≤ n then some (.int (m / 2 ^ n.toNat)) else none := rfl
@[simp] theorem o_mul : opMul (.int m) (.int n) = if (-(2 ^ 64) < m ∧ m < 2 ^ 64) ∨ (-(2 ^ 64) < n ∧ n < 2 ^ 64) then some (.int (m * n)) else none := rfl
@[simp] theorem o_pow : opPow (.int m) (.int n) = if 0 ≤ n ∧ n ≤ 1000000 ∧ m.natAbs < 2 ^ 64 then some (.int (m ^ n.toNat)) else none := rfl
@[simp] theorem o_eq : opEq (.int m) (.int n) = some (.bl (decide (m = n))) := rfl
@[simp] theorem o_ne : opNe (.int m) (.int n) = some (.bl (!decide (m = n))) := rfl
@[simp] theorem o_eqS {x y : Str} : opEq (.str x) (.str y) = some (.bl (decide (x = y))) := rfl
@[simp] theorem o_neS {x y : Str} : opNe (.str x) (.str y) = some (.bl (!decide (x = y))) := rfl
@[simp] theorem o_lt : opLt (.int m) (.int n) = some (.bl (decide (m < n))) := rfl
@[simp] theorem o_le : opLe (.int m) (.int n) = some (.bl (decide (m ≤ n))) := rfl
@[simp] theorem o_gt : opGt (.int m) (.int n) = some (.bl (decide (m > n))) := rfl
@[simp] theorem o_ge : opGe (.int m) (.int n) = some (.bl (decide (m ≥ n))) := rfl
@[simp] theorem o_isN : opIsN x .non = (isNon x).map .bl := rfl
@[simp] theorem o_notN : opNotN x .non = (isNon x).map fun b => .bl (!b) := rfl
end
@[simp] theorem s_start0 {n : Nat} : startD n [] = List.replicate n .un := by simp [startD]
end DL
set_option maxRecDepth 100000
namespace DL
open PySem L2
open PyProof.Rows (bitAnd_comm bitAnd_zero bitAnd_self bitAnd_not bitOr_and bitOr_comm bitAnd_pp nat_or_add_and)
/-! ### masks -/
abbrev bA := Builtin.bitAnd
abbrev bO := Builtin.bitOr
abbrev bX := Builtin.bitXor
theorem or_pp {x y : Int} (hx : 0 ≤ x) (hy : 0 ≤ y) : bO x y = ((x.toNat ||| y.toNat : Nat) : Int) := by
  have h := nat_or_add_and x.toNat y.toNat
  show Builtin.bitOr x y = _
  rw [bitOr_and, bitAnd_pp hx hy]
  omega
theorem or_rng {k : Nat} {x y : Int} (hx : 0 ≤ x) (hy : 0 ≤ y) (hx' : x < 2 ^ k) (hy' : y < 2 ^ k) : 0 ≤ bO x y ∧ bO x y < 2 ^ k := by
  rw [or_pp hx hy]
  have c := PySem.W.kbt_cast k
  have := Nat.or_lt_two_pow (x := x.toNat) (y := y.toNat) (n := k) (by omega) (by omega)
  omega
theorem zero_or (x : Int) : bO 0 x = x := by
  show Builtin.bitOr 0 x = x
  rw [bitOr_and, bitAnd_comm, bitAnd_zero]
  omega
theorem and_rng {x y : Int} (hx : 0 ≤ x) : 0 ≤ bA x y ∧ bA x y ≤ x := by
  show 0 ≤ Builtin.bitAnd x y ∧ Builtin.bitAnd x y ≤ x
  rw [bitAnd_comm]
  exact PyProof.Rows.bitAnd_range y hx
theorem and_less (k : Nat) : ∀ a b : Int, 0 ≤ a → a < 2 ^ k → 0 ≤ b → b < 2 ^ k → bA a (2 ^ k - 1 - b) = a - bA a b := by
  induction k with
  | zero =>
    intro a b h1 h2 h3 h4
    have : a = 0 := by simp at h2; omega
    have : b = 0 := by simp at h4; omega
    subst a b
    simp [bA, bitAnd_zero]
  | succ k ih =>
    intro a b h1 h2 h3 h4
    have e : (2 : Int) ^ (k + 1) = 2 * 2 ^ k := by rw [Int.pow_succ]; omega
    rw [e] at h2 h4 ⊢
    have r1 := PySem.W.kbt_halves a (2 * 2 ^ k - 1 - b)
    have r2 := PySem.W.kbt_halves a b
    have d : (2 * 2 ^ k - 1 - b) / 2 = 2 ^ k - 1 - b / 2 := by omega
    rw [d] at r1
    have h := ih (a / 2) (b / 2) (by omega) (by omega) (by omega) (by omega)
    show Builtin.bitAnd _ _ = a - Builtin.bitAnd _ _
    rw [r1, r2]
    have h : Builtin.bitAnd (a / 2) (2 ^ k - 1 - b / 2) = a / 2 - Builtin.bitAnd (a / 2) (b / 2) := h
    rw [h]
    by_cases p : a % 2 = 1 <;> by_cases q : b % 2 = 1
    · rw [if_neg (by omega), if_pos ⟨p, q⟩]; omega
    · rw [if_pos (by omega), if_neg (by omega)]; omega
    · rw [if_neg (by omega), if_neg (by omega)]; omega
    · rw [if_neg (by omega), if_neg (by omega)]; omega
theorem and_abs {a b : Int} (ha : 0 ≤ a) (hb : 0 ≤ b) : Builtin.bitAnd a (Builtin.bitAnd a b) = Builtin.bitAnd a b := by
  have e := bitAnd_pp ha hb
  rw [e, bitAnd_pp ha (by omega)]
  simp [← Nat.and_assoc]
theorem xor_and_self {a b : Int} (ha : 0 ≤ a) (hb : 0 ≤ b) : bX a (bA a b) = a - bA a b := by
  show Builtin.bitXor a (Builtin.bitAnd a b) = a - Builtin.bitAnd a b
  rw [PyProof.Rows.bitXor_and, and_abs ha hb]
  omega
end DL
set_option maxRecDepth 100000
namespace DL
open PySem L2
/-! ### months -/
def isM : Option D → Bool
  | some (.tup [.int m, .int l, .int f]) => decide (1 ≤ m ∧ m ≤ 12 ∧ 28 ≤ l ∧ l ≤ 31 ∧ 0 ≤ f ∧ f ≤ 6)
  | _ => false
theorem months_all : ((List.range 91).all fun k => isM (m_month_at [.int k])) = true := by decide +kernel
/-- month, last day, first weekday of a kind -/
def mon (k : Nat) : Int × Int × Int := match m_month_at [.int k] with
  | some (.tup [.int m, .int l, .int f]) => (m, l, f)
  | _ => (0, 0, 0)
theorem month_ok {k : Nat} (h : k < 91) : m_month_at [.int k] = some (.tup [.int (mon k).1, .int (mon k).2.1, .int (mon k).2.2]) ∧ 1 ≤ (mon k).1 ∧ (mon k).1 ≤ 12 ∧ 28 ≤ (mon k).2.1 ∧ (mon k).2.1 ≤ 31 ∧ 0 ≤ (mon k).2.2 ∧ (mon k).2.2 ≤ 6 := by
  have a := List.all_eq_true.mp months_all k (List.mem_range.mpr h)
  unfold isM at a
  unfold mon
  split at a
  · rename_i m l f e
    rw [e]
    have := of_decide_eq_true a
    exact ⟨rfl, this⟩
  · cases a
end DL
set_option maxRecDepth 100000
namespace DL
open PySem L2
/-! ### loops -/
theorem for_ind {T : TgD} {B : DS} (P : List D → Sl → Prop) (step : ∀ d ds ρ, P (d :: ds) ρ → ∃ l ρ', T d = some l ∧ B (apD ρ l) = some (.nx ρ') ∧ P ds ρ') : ∀ (ds : List D) (ρ : Sl), P ds ρ → ∃ ρ', forD T B ds ρ = some (.nx ρ') ∧ P [] ρ'
  | [], ρ, h => ⟨ρ, rfl, h⟩
  | d :: ds, ρ, h => by
    obtain ⟨l, ρ1, e1, e2, h1⟩ := step d ds ρ h
    obtain ⟨ρ2, e3, h2⟩ := for_ind P step ds ρ1 h1
    refine ⟨ρ2, ?_, h2⟩
    unfold forD
    rw [e1]
    simp only [Option.bind_some, e2, e3]
theorem lc_map {T : TgD} {elt : DE} {ρ : Sl} (F : D → D) : ∀ (ds : List D), (∀ d ∈ ds, ∃ l, T d = some l ∧ elt (apD ρ l) = some (F d)) → lcD T tTrue elt ρ ds = some (ds.map F)
  | [], _ => rfl
  | d :: ds, h => by
    obtain ⟨l, e1, e2⟩ := h d (List.mem_cons_self ..)
    unfold lcD
    rw [e1]
    simp only [Option.bind_some, tTrue, e2, lc_map F ds (fun x hx => h x (List.mem_cons_of_mem _ hx)), Option.map_some, List.map_cons]
theorem while_ind {t : DB} {B : DS} (P : Nat → Sl → Prop) (Q : Sl → Prop) (step : ∀ m ρ, P m ρ → (t ρ = some false ∧ Q ρ) ∨ ∃ k ρ', m = k + 1 ∧ t ρ = some true ∧ B ρ = some (.nx ρ') ∧ P k ρ') : ∀ (m : Nat) (ρ : Sl) (n : Nat), P m ρ → m < n → ∃ ρ', whileD t B n ρ = some (.nx ρ') ∧ Q ρ'
  | m, ρ, 0, _, h => absurd h (Nat.not_lt_zero _)
  | m, ρ, n + 1, hp, h => by
    rcases step m ρ hp with ⟨e, q⟩ | ⟨k, ρ1, rfl, e1, e2, h1⟩
    · refine ⟨ρ, ?_, q⟩
      unfold whileD
      rw [e]
    · obtain ⟨ρ2, e3, q⟩ := while_ind P Q step k ρ1 n h1 (by omega)
      refine ⟨ρ2, ?_, q⟩
      unfold whileD
      rw [e1]
      simp only [e2, e3]
/-- ints within bounds -/
def intsIn (lo hi : Int) (ds : List D) : Prop := ∀ d ∈ ds, ∃ i : Int, d = .int i ∧ lo ≤ i ∧ i < hi
theorem pow_div0 {x : Int} {k n : Nat} (h0 : 0 ≤ x) (h : x < 2 ^ k) (hn : k ≤ n) : x / 2 ^ n = 0 := by
  refine Int.ediv_eq_zero_of_lt h0 (Int.lt_of_lt_of_le h ?_)
  have := Nat.pow_le_pow_right (n := 2) (by decide) hn
  have c1 := PySem.W.kbt_cast k
  have c2 := PySem.W.kbt_cast n
  omega
theorem numbers_ok {hh : Int} {k : Nat} (h0 : 0 ≤ hh) (h : hh < 2 ^ k) (hk : k ≤ 64) : ∃ ds, m_numbers_in [.int hh] = some (.lst ds) ∧ intsIn 0 k ds := by
  let P : Nat → Sl → Prop := fun m ρ => ∃ (n : Nat) (ds : List D), n + m = k ∧ ds.length ≤ n ∧ intsIn 0 k ds ∧ ρ = [.val (.int hh), .own ds, .val (.int n)]
  let Q : Sl → Prop := fun ρ => ∃ (n : Nat) (ds : List D), intsIn 0 k ds ∧ ρ = [.val (.int hh), .own ds, .val (.int n)]
  obtain ⟨ρ', e, n, ds, q, rfl⟩ := while_ind (t := asB (dOp opGt (dOp opShr (dVar 0) (dVar 2)) (dC (.int 0)))) (B := sSeq (sIf (asB (dOp opEq (dOp opAnd (dOp opShr (dVar 0) (dVar 2)) (dC (.int 1))) (dC (.int 1)))) (sApp 1 (dVar 2)) sNil) (sAsg (dOp opAdd (dVar 2) (dC (.int 1))) (tgN 2))) P Q (by
    rintro m ρ ⟨n, ds, hm, hl, hd, rfl⟩
    by_cases z : hh / 2 ^ n > 0
    · right
      have hn : n < k := by
        apply Classical.byContradiction
        intro c
        rw [pow_div0 h0 h (by omega)] at z
        omega
      by_cases y : Builtin.bitAnd (hh / 2 ^ n) 1 = 1
      · refine ⟨m - 1, [.val (.int hh), .own (ds ++ [.int n]), .val (.int (n + 1 : Nat))], by omega, ?_, ?_, n + 1, ds ++ [.int n], by omega, by simp; omega, ?_, rfl⟩
        · simp [z]
        · have : ds.length ≤ 100000 := by omega
          simp [sApp, y, this, apD]
        · intro d hd'
          rcases List.mem_append.mp hd' with h' | h'
          · exact hd d h'
          · rw [List.mem_singleton] at h'
            exact ⟨n, h', by omega, by omega⟩
      · refine ⟨m - 1, [.val (.int hh), .own ds, .val (.int (n + 1 : Nat))], by omega, ?_, ?_, n + 1, ds, by omega, by omega, hd, rfl⟩
        · simp [z]
        · simp [y, apD]
    · left
      refine ⟨by simp [z], n, ds, hd, rfl⟩) k [.val (.int hh), .own [], .val (.int (0 : Nat))] 100000 ⟨0, [], by omega, Nat.le_refl _, (fun d hd => nomatch hd), rfl⟩ (by omega)
  refine ⟨ds, ?_, q⟩
  have e' : sWhile 100000 (asB (dOp opGt (dOp opShr (dVar 0) (dVar 2)) (dC (.int 0)))) (sSeq (sIf (asB (dOp opEq (dOp opAnd (dOp opShr (dVar 0) (dVar 2)) (dC (.int 1))) (dC (.int 1)))) (sApp 1 (dVar 2)) sNil) (sAsg (dOp opAdd (dVar 2) (dC (.int 1))) (tgN 2))) [.val (.int hh), .own [], .val (.int 0)] = some (.nx [.val (.int hh), .own ds, .val (.int n)]) := e
  unfold m_numbers_in m_numbers_in_b
  simp only [s_runD, s_seq, s_asgO, s_oLst, s_nil, startD, List.map_cons, List.map_nil, List.length_cons, List.length_nil, Option.bind_some, Option.map_some, List.replicate, List.cons_append, List.nil_append, List.set_cons_succ, List.set_cons_zero, s_asg_, s_c, s_tgN, apD, Nat.zero_le, if_true, ite_true]
  have : ((3 - (0 + 1) : Nat)) = 2 := rfl
  simp [apD, e', sRetO, List.replicate]
end DL
set_option maxRecDepth 100000
namespace DL
open PySem L2
/-! ### times of a row -/
abbrev rowD (mm hh : Int) (dm : D) (mo : Int) (wm : D) : D := .ins 0 [.int mm, .int hh, dm, .int mo, wm]
theorem shl_rng {mm h : Int} (m0 : 0 ≤ mm) (m1 : mm < 2 ^ 60) (h0 : 0 ≤ h) (h1 : h < 24) : 0 ≤ mm * 2 ^ (60 * h).toNat ∧ mm * 2 ^ (60 * h).toNat < 2 ^ 1440 := by
  have hp : (0 : Int) < 2 ^ (60 * h).toNat := PySem.W.kbt_pos _
  refine ⟨Int.mul_nonneg m0 (Int.le_of_lt hp), ?_⟩
  have a : mm * 2 ^ (60 * h).toNat < 2 ^ 60 * 2 ^ (60 * h).toNat := Int.mul_lt_mul_of_pos_right m1 hp
  rw [← Int.pow_add] at a
  have hle : 60 + (60 * h).toNat ≤ 1440 := by omega
  have c1 := PySem.W.kbt_cast (60 + (60 * h).toNat)
  have c2 := PySem.W.kbt_cast 1440
  have := Nat.pow_le_pow_right (n := 2) (by decide) hle
  rw [← c1] at a
  rw [← c2]
  exact Int.lt_of_lt_of_le a (Int.ofNat_le.mpr this)
theorem times_ok {mm hh mo : Int} {dm wm : D} (m0 : 0 ≤ mm) (m1 : mm < 2 ^ 60) (h0 : 0 ≤ hh) (h1 : hh < 2 ^ 24) : ∃ t, m_Row_times [rowD mm hh dm mo wm] = some (.int t) ∧ 0 ≤ t ∧ t < 2 ^ 1440 := by
  obtain ⟨ds, e, hd⟩ := numbers_ok h0 (k := 24) h1 (by decide)
  obtain ⟨ρ', ef, t, x, _, rfl, t0, t1⟩ := for_ind (T := tgN 2) (B := sAsg (dOp opOr (dVar 1) (dOp opShl (dFld at_minute_mask (dVar 0)) (dOp opMul (dC k_MINUTES_rows) (dVar 2)))) (tgN 1))
    (fun ds ρ => ∃ (t : Int) (x : S3), intsIn 0 24 ds ∧ ρ = [.val (rowD mm hh dm mo wm), .val (.int t), x] ∧ 0 ≤ t ∧ t < 2 ^ 1440) (by
      rintro d ds ρ ⟨t, x, hd, rfl, t0, t1⟩
      obtain ⟨i, rfl, i0, i1⟩ := hd d (List.mem_cons_self ..)
      obtain ⟨s0, s1⟩ := shl_rng m0 m1 i0 i1
      obtain ⟨r0, r1⟩ := or_rng (k := 1440) t0 s0 t1 s1
      refine ⟨_, [.val (rowD mm hh dm mo wm), .val (.int (bO t (mm * 2 ^ (60 * i).toNat))), .val (.int i)], rfl, ?_, _, _, fun d hd' => hd d (List.mem_cons_of_mem _ hd'), rfl, r0, r1⟩
      have a1 : (0 : Int) ≤ 60 * i := by omega
      have a2 : 60 * i ≤ 1000000 := by omega
      have a3 : mm.natAbs < 18446744073709551616 := by omega
      simp [apD, at_minute_mask, a1, a2, a3]) ds [.val (rowD mm hh dm mo wm), .val (.int 0), .un] ⟨0, .un, hd, rfl, Int.le_refl _, PySem.W.kbt_pos _⟩
  refine ⟨t, ?_, t0, t1⟩
  unfold m_Row_times m_Row_times_b
  simp [startD, apD, itE, at_hour_mask, e, ef]
end DL
set_option maxRecDepth 100000
namespace DL
open PySem L2
/-! ### marks -/
def mday (m : D) (l f : Int) : Option D := match m with
  | .ins i fs => (t_days i).bind fun M => M [.ins i fs, .int l, .int f]
  | _ => none
def isInt : Option D → Bool
  | some (.int _) => true
  | _ => false
theorem isInt_ok {o : Option D} (h : isInt o = true) : ∃ n, o = some (.int n) := by
  unfold isInt at h
  split at h
  · exact ⟨_, rfl⟩
  · cases h
/-- all of 28 to 31, 0 to 6 -/
def allLF (p : Int → Int → Bool) : Bool := (List.range 4).all fun a => (List.range 7).all fun b => p (28 + a) b
theorem allLF_ok {p : Int → Int → Bool} (h : allLF p = true) {l f : Int} (h1 : 28 ≤ l ∧ l ≤ 31 ∧ 0 ≤ f ∧ f ≤ 6) : p l f = true := by
  have a := List.all_eq_true.mp (List.all_eq_true.mp h (l - 28).toNat (List.mem_range.mpr (by omega))) f.toNat (List.mem_range.mpr (by omega))
  have e1 : (28 + ((l - 28).toNat : Int)) = l := by omega
  have e2 : (f.toNat : Int) = f := by omega
  rw [e1, e2] at a
  exact a
theorem last_all : ((List.range 31).all fun b => allLF fun l f => isInt (mday (.ins 2 [.int b]) l f)) = true := by decide +kernel
theorem near_all : ((List.range 32).all fun b => allLF fun l f => isInt (mday (.ins 3 [.int b]) l f)) = true := by decide +kernel
theorem lastwork_all : (allLF fun l f => isInt (mday (.ins 4 []) l f)) = true := by decide +kernel
theorem nth_all : ((List.range 7).all fun b => (List.range 5).all fun c => allLF fun l f => isInt (mday (.ins 6 [.int b, .int (1 + c)]) l f)) = true := by decide +kernel
theorem lastone_all : ((List.range 7).all fun b => allLF fun l f => isInt (mday (.ins 7 [.int b]) l f)) = true := by decide +kernel
def markOk : D → Bool
  | .ins 1 [.int _] => true
  | .ins 2 [.int b] => decide (0 ≤ b ∧ b ≤ 30)
  | .ins 3 [.int d] => decide (0 ≤ d ∧ d ≤ 31)
  | .ins 4 [] => true
  | .ins 5 [.int _] => true
  | .ins 6 [.int w, .int m] => decide (0 ≤ w ∧ w ≤ 6 ∧ 1 ≤ m ∧ m ≤ 5)
  | .ins 7 [.int w] => decide (0 ≤ w ∧ w ≤ 6)
  | _ => false
theorem weekday_in_ok {a b : Int} : m_weekday_in [.int a, .int b] = some (.int ((b + a - 1) % 7)) := by
  unfold m_weekday_in m_weekday_in_b
  simp [startD]
theorem mem_rng {lo : Int} {n : Nat} {d : D} (h : d ∈ rngD lo n) : ∃ k : Nat, k < n ∧ d = .int (lo + k) := by
  obtain ⟨k, hk, rfl⟩ := List.mem_map.mp h
  exact ⟨k, List.mem_range.mp hk, rfl⟩
theorem weekdays_ok {x l f : Int} (h : 28 ≤ l ∧ l ≤ 31 ∧ 0 ≤ f ∧ f ≤ 6) : ∃ n, m_Weekdays_days [.ins 5 [.int x], .int l, .int f] = some (.int n) := by
  obtain ⟨h1, h2, h3, h4⟩ := h
  have a1 : -4611686018427387904 ≤ l + 1 := by omega
  have a2 : l + 1 < 4611686018427387904 := by omega
  obtain ⟨ρ', ef, t, y, _, rfl⟩ := for_ind (T := tgN 4) (B := sIf (asB (dOp opEq (dOp opAnd (dOp opShr (dFld at_mask (dVar 0)) (dCall 2 m_weekday_in (aCons (dVar 4) (aCons (dVar 2) aNil)))) (dC (.int 1))) (dC (.int 1)))) (sAsg (dOp opOr (dVar 3) (dOp opShl (dC (.int 1)) (dVar 4))) (tgN 3)) sNil)
    (fun ds ρ => ∃ (t : Int) (y : S3), intsIn 1 40 ds ∧ ρ = [.val (.ins 5 [.int x]), .val (.int l), .val (.int f), .val (.int t), y]) (by
      rintro d ds ρ ⟨t, y, hd, rfl⟩
      obtain ⟨i, rfl, i0, i1⟩ := hd d (List.mem_cons_self ..)
      have b1 : 0 ≤ (f + i - 1) % 7 := by omega
      have b2 : 0 ≤ i := by omega
      have b3 : i ≤ 1000000 := by omega
      by_cases z : Builtin.bitAnd (x / 2 ^ ((f + i - 1) % 7).toNat) 1 = 1
      · exact ⟨_, [.val (.ins 5 [.int x]), .val (.int l), .val (.int f), .val (.int (bO t (1 * 2 ^ i.toNat))), .val (.int i)], rfl, by simp [apD, at_mask, weekday_in_ok, b1, b2, b3, z], _, _, fun d hd' => hd d (List.mem_cons_of_mem _ hd'), rfl⟩
      · exact ⟨_, [.val (.ins 5 [.int x]), .val (.int l), .val (.int f), .val (.int t), .val (.int i)], rfl, by simp [apD, at_mask, weekday_in_ok, b1, z], _, _, fun d hd' => hd d (List.mem_cons_of_mem _ hd'), rfl⟩) (rngD 1 (l + 1 - 1).toNat) [.val (.ins 5 [.int x]), .val (.int l), .val (.int f), .val (.int 0), .un] ⟨0, .un, fun d hd => by
        obtain ⟨k, hk, rfl⟩ := mem_rng hd
        exact ⟨_, rfl, by omega, by omega⟩, rfl⟩
  refine ⟨t, ?_⟩
  unfold m_Weekdays_days m_Weekdays_days_b
  have e2 : (l + 1 - 1).toNat = l.toNat := by omega
  rw [e2] at ef
  simp [startD, apD, itR2, a1, a2, ef]
theorem mday_ok {m : D} {l f : Int} (hm : markOk m = true) (h : 28 ≤ l ∧ l ≤ 31 ∧ 0 ≤ f ∧ f ≤ 6) : ∃ n, mday m l f = some (.int n) := by
  unfold markOk at hm
  split at hm
  · rename_i x
    refine ⟨bA x (1 * 2 ^ (l + 1).toNat - 1), ?_⟩
    have b1 : 0 ≤ l + 1 := by omega
    have b2 : l + 1 ≤ 1000000 := by omega
    unfold mday
    simp [t_days, m_Numbers_days, m_Numbers_days_b, startD, at_mask, b1, b2]
  · rename_i b
    have hb := of_decide_eq_true hm
    have := allLF_ok (List.all_eq_true.mp last_all b.toNat (List.mem_range.mpr (by omega))) h
    rw [show ((b.toNat : Nat) : Int) = b by omega] at this
    exact isInt_ok this
  · rename_i b
    have hb := of_decide_eq_true hm
    have := allLF_ok (List.all_eq_true.mp near_all b.toNat (List.mem_range.mpr (by omega))) h
    rw [show ((b.toNat : Nat) : Int) = b by omega] at this
    exact isInt_ok this
  · exact isInt_ok (allLF_ok lastwork_all h)
  · rename_i x
    obtain ⟨n, e⟩ := weekdays_ok (x := x) h
    exact ⟨n, e⟩
  · rename_i w m
    have hb := of_decide_eq_true hm
    have := allLF_ok (List.all_eq_true.mp (List.all_eq_true.mp nth_all w.toNat (List.mem_range.mpr (by omega))) (m - 1).toNat (List.mem_range.mpr (by omega))) h
    rw [show ((w.toNat : Nat) : Int) = w by omega, show (1 + (((m - 1).toNat : Nat) : Int)) = m by omega] at this
    exact isInt_ok this
  · rename_i w
    have hb := of_decide_eq_true hm
    have := allLF_ok (List.all_eq_true.mp lastone_all w.toNat (List.mem_range.mpr (by omega))) h
    rw [show ((w.toNat : Nat) : Int) = w by omega] at this
    exact isInt_ok this
  · cases hm
end DL
set_option maxRecDepth 100000
namespace DL
open PySem L2
/-! ### days of a row -/
def marksOk : D → Bool
  | .non => true
  | .lst ms => ms.all markOk
  | _ => false
theorem any_days_ok {ms : List D} {l f : Int} (hm : ms.all markOk = true) (h : 28 ≤ l ∧ l ≤ 31 ∧ 0 ≤ f ∧ f ≤ 6) : ∃ n, m_any_days [.lst ms, .int l, .int f] = some (.int n) := by
  obtain ⟨ρ', ef, t, y, _, rfl⟩ := for_ind (T := tgN 4) (B := sAsg (dOp opOr (dVar 3) (dMeth 2 t_days (dVar 4) (aCons (dVar 1) (aCons (dVar 2) aNil)))) (tgN 3))
    (fun ds ρ => ∃ (t : Int) (y : S3), ds.all markOk = true ∧ ρ = [.val (.lst ms), .val (.int l), .val (.int f), .val (.int t), y]) (by
      rintro d ds ρ ⟨t, y, hd, rfl⟩
      rw [List.all_cons, Bool.and_eq_true] at hd
      obtain ⟨n, e⟩ := mday_ok hd.1 h
      refine ⟨_, [.val (.lst ms), .val (.int l), .val (.int f), .val (.int (bO t n)), .val d], rfl, ?_, _, _, hd.2, rfl⟩
      unfold mday at e
      split at e
      · simp [apD, e]
      · cases e) ms [.val (.lst ms), .val (.int l), .val (.int f), .val (.int 0), .un] ⟨0, .un, hm, rfl⟩
  refine ⟨t, ?_⟩
  unfold m_any_days m_any_days_b
  simp [startD, apD, itE, ef]
theorem dayM_ok {m : D} {l f x : Int} (hm : marksOk m = true) (h : 28 ≤ l ∧ l ≤ 31 ∧ 0 ≤ f ∧ f ≤ 6) : ∃ n, dayM m l f (.int x) = some (.int n) := by
  unfold marksOk at hm
  split at hm
  · exact ⟨x, rfl⟩
  · rename_i ms
    obtain ⟨n, e⟩ := any_days_ok hm h
    exact ⟨bO x n, by unfold dayM; simp [e]⟩
  · cases hm
theorem dayB_ok {mm hh mo l f : Int} {dm wm : D} (h1 : marksOk dm = true) (h2 : marksOk wm = true) (h : 28 ≤ l ∧ l ≤ 31 ∧ 0 ≤ f ∧ f ≤ 6) : ∃ n, dayB (rowD mm hh dm mo wm) l f = some n := by
  have b1 : 0 ≤ l + 1 := by omega
  have b2 : l + 1 ≤ 1000000 := by omega
  have gen : ∃ n, ((dayM dm l f (.int 0)).bind fun x => dayM wm l f x) = some (.int n) := by
    obtain ⟨n, e⟩ := dayM_ok (x := 0) h1 h
    obtain ⟨n', e'⟩ := dayM_ok (x := n) h2 h
    exact ⟨n', by rw [e]; exact e'⟩
  obtain ⟨n, e⟩ := gen
  cases dm with
  | non =>
    cases wm with
    | non => exact ⟨2 ^ (l + 1).toNat - 2, by simp [dayB, b1, b2]⟩
    | _ => exact ⟨n, by simp only [dayB, e]; rfl⟩
  | _ => exact ⟨n, by simp only [dayB, e]; rfl⟩
theorem isNon_marks {m : D} (h : marksOk m = true) : isNon m = some (match m with | .non => true | _ => false) := by
  unfold marksOk at h
  split at h
  · rfl
  · rfl
  · cases h
/-- whether a month is in a mask -/
def inMo (mo m : Int) : Prop := bA (mo / 2 ^ m.toNat) 1 ≠ 0
instance {mo m : Int} : Decidable (inMo mo m) := inferInstanceAs (Decidable (_ ≠ _))
theorem days_in_ok {mm hh mo : Int} {dm wm : D} {k : Nat} (hk : k < 91) (h1 : marksOk dm = true) (h2 : marksOk wm = true) :
    m_Row_days_in [rowD mm hh dm mo wm, .int k] = if inMo mo (mon k).1 then (dayB (rowD mm hh dm mo wm) (mon k).2.1 (mon k).2.2).map .int else some (.int 0) := by
  obtain ⟨e, a1, a2, b⟩ := month_ok hk
  generalize (mon k).1 = m at *
  generalize (mon k).2.1 = l at *
  generalize (mon k).2.2 = f at *
  have c1 : 0 ≤ m := by omega
  have d1 : 0 ≤ l + 1 := by omega
  have d2 : l + 1 ≤ 1000000 := by omega
  unfold m_Row_days_in m_Row_days_in_b
  by_cases z : Builtin.bitAnd (mo / 2 ^ m.toNat) 1 = 0
  · have : ¬ inMo mo m := fun q => q z
    rw [if_neg this]
    simp [startD, apD, e, at_month_mask, c1, z]
  · have : inMo mo m := z
    rw [if_pos this]
    unfold marksOk at h1 h2
    split at h1
    · split at h2
      · simp [startD, apD, e, at_month_mask, c1, z, at_day_marks, at_weekday_marks, isNon, dayB, d1, d2]
      · rename_i ms
        obtain ⟨n, e2⟩ := any_days_ok h2 b
        simp [startD, apD, e, at_month_mask, c1, z, at_day_marks, at_weekday_marks, isNon, dayB, d1, d2, itE, forD, dayM, e2]
      · cases h2
    · rename_i ms
      obtain ⟨n, e2⟩ := any_days_ok h1 b
      split at h2
      · simp [startD, apD, e, at_month_mask, c1, z, at_day_marks, at_weekday_marks, isNon, dayB, d1, d2, itE, forD, dayM, e2]
      · rename_i ms'
        obtain ⟨n', e3⟩ := any_days_ok h2 b
        simp [startD, apD, e, at_month_mask, c1, z, at_day_marks, at_weekday_marks, isNon, dayB, d1, d2, itE, forD, dayM, e2, e3]
      · cases h2
    · cases h1
end DL
set_option maxRecDepth 100000
namespace DL
open PySem L2
/-! ### a row's masks -/
theorem rig_mark {m : D} (h : markOk m = true) : rig m = true := by
  unfold markOk at h
  split at h <;> first | rfl | cases h
theorem rig_all : ∀ {ms : List D}, ms.all markOk = true → rigL ms = true
  | [], _ => rfl
  | m :: ms, h => by
    rw [List.all_cons, Bool.and_eq_true] at h
    unfold rigL
    rw [rig_mark h.1, rig_all h.2]
    rfl
theorem rig_marks {m : D} (h : marksOk m = true) : rig m = true := by
  unfold marksOk at h
  split at h
  · rfl
  · unfold rig
    exact rig_all h
  · cases h
/-- a row as it may be -/
structure RowOk (d : D) : Prop where
  ex : ∃ mm hh mo dm wm, d = rowD mm hh dm mo wm ∧ 0 ≤ mm ∧ mm < 2 ^ 60 ∧ 0 ≤ hh ∧ hh < 2 ^ 24 ∧ marksOk dm = true ∧ marksOk wm = true
def rowMo : D → Int
  | .ins 0 [_, _, _, .int mo, _] => mo
  | _ => 0
/-- its days in a kind of month -/
def dayN (d : D) (k : Nat) : Int := if inMo (rowMo d) (mon k).1 then (dayB d (mon k).2.1 (mon k).2.2).getD 0 else 0
theorem RowOk.rg {d : D} (h : RowOk d) : rig d = true := by
  obtain ⟨mm, hh, mo, dm, wm, rfl, _, _, _, _, h1, h2⟩ := h.ex
  simp [rowD, rig, rigL, rig_marks h1, rig_marks h2]
theorem RowOk.days {d : D} (h : RowOk d) {k : Nat} (hk : k < 91) : m_Row_days_in [d, .int k] = some (.int (dayN d k)) := by
  obtain ⟨mm, hh, mo, dm, wm, rfl, _, _, _, _, h1, h2⟩ := h.ex
  rw [days_in_ok hk h1 h2]
  obtain ⟨n, e⟩ := dayB_ok (mm := mm) (hh := hh) (mo := mo) h1 h2 (month_ok hk).2.2.2
  unfold dayN
  show _ = some (D.int (if inMo mo (mon k).1 then _ else 0))
  split
  · rw [e]; rfl
  · rfl
theorem RowOk.times {d : D} (h : RowOk d) : ∃ t, m_Row_times [d] = some (.int t) ∧ 0 ≤ t ∧ t < 2 ^ 1440 := by
  obtain ⟨mm, hh, mo, dm, wm, rfl, a, b, c, e, h1, h2⟩ := h.ex
  exact times_ok a b c e
def rowM (d : D) (t : Int) (k : Nat) : List Int := (List.range (mon k).2.1.toNat).map fun i : Nat => t * bA (dayN d k / 2 ^ (1 + i)) 1
def intD (l : List Int) : List D := l.map .int
theorem zeros_row {d : D} {t : Int} {k : Nat} (h : dayN d k = 0) : rowM d t k = List.replicate (mon k).2.1.toNat 0 := by
  unfold rowM
  rw [List.eq_replicate_iff]
  refine ⟨by simp, fun b hb => ?_⟩
  obtain ⟨i, _, rfl⟩ := List.mem_map.mp hb
  rw [h]
  simp [bA, Builtin.bitAnd]
theorem lst_row {T : TgD} {elt : DE} {ρ : Sl} {d : D} {t : Int} {k : Nat} (hT : ∀ i : Int, T (.int i) = T (.int i)) (he : ∀ i : Nat, ∃ l, T (.int (1 + i)) = some l ∧ elt (apD ρ l) = some (.int (t * bA (dayN d k / 2 ^ (1 + i)) 1))) :
    lcD T tTrue elt ρ (rngD 1 (mon k).2.1.toNat) = some (intD (rowM d t k)) := by
  rw [lc_map (F := fun x => match x with | .int i => .int (t * bA (dayN d k / 2 ^ i.toNat) 1) | x => x)]
  · congr 1
    unfold rngD intD rowM
    rw [List.map_map, List.map_map]
    apply List.map_congr_left
    intro i _
    have : (1 + (i : Int)).toNat = 1 + i := by omega
    simp [this]
  · intro x hx
    obtain ⟨i, _, rfl⟩ := mem_rng hx
    obtain ⟨l, e1, e2⟩ := he i
    have : (1 + (i : Int)).toNat = 1 + i := by omega
    exact ⟨l, e1, by rw [e2]; simp [this]⟩
theorem lc_const {i : Nat} {d : D} {ρ : Sl} (ds : List D) : lcD (tgN i) tTrue (dC d) ρ ds = some (List.replicate ds.length d) := by
  rw [lc_map (T := tgN i) (elt := dC d) (fun _ => d) ds (fun x hx => ⟨_, rfl, rfl⟩), List.map_const']
theorem len_rng {lo : Int} {n : Nat} : (rngD lo n).length = n := by simp [rngD]
theorem zeros_int {n : Nat} : intD (List.replicate n 0) = List.replicate n (.int 0) := by simp [intD]
theorem bit_small (x : Int) : (-(2 ^ 64) : Int) < bA x 1 ∧ bA x 1 < 2 ^ 64 := by
  have := PyProof.Rows.bitAnd_m1 x
  show _ < Builtin.bitAnd x 1 ∧ Builtin.bitAnd x 1 < _
  rw [this]
  omega
theorem of_days_ok {d : D} {t : Int} {k : Nat} (h : RowOk d) (hk : k < 91) : m_Of_on_days [.ins 9 [d, .int t, .any], .int k] = some (.lst (intD (rowM d t k))) := by
  have hd := h.days hk
  have rg := h.rg
  obtain ⟨mm, hh, mo, dm, wm, rfl, _, _, _, _, h1, h2⟩ := h.ex
  obtain ⟨n, eB⟩ := dayB_ok (mm := mm) (hh := hh) (mo := mo) h1 h2 (month_ok hk).2.2.2
  obtain ⟨e, a1, a2, b1, b2, b3, b4⟩ := month_ok hk
  have z0 : 0 ≤ (mon k).1 := by omega
  have r1 : -4611686018427387904 ≤ (mon k).2.1 := by omega
  have r2 : (mon k).2.1 < 4611686018427387904 := by omega
  have r3 : -4611686018427387904 ≤ (mon k).2.1 + 1 := by omega
  have r4 : (mon k).2.1 + 1 < 4611686018427387904 := by omega
  have r5 : (mon k).2.1.toNat ≤ 100000 := by omega
  have r6 : ((mon k).2.1 + 1 - 1).toNat = (mon k).2.1.toNat := by omega
  unfold m_Of_on_days m_Of_on_days_b
  by_cases z : Builtin.bitAnd (mo / 2 ^ (mon k).1.toNat) 1 = 0
  · have nm : ¬ inMo mo (mon k).1 := fun q => q z
    have dz : dayN (rowD mm hh dm mo wm) k = 0 := by
      unfold dayN
      exact if_neg nm
    rw [zeros_row dz]
    simp [startD, apD, e, at_row, t_months, m_Row_months, m_Row_months_b, at_month_mask, z0, z, itR1, r1, r2, oLc, len_rng, r5, lc_const, zeros_int]
  · have nm : inMo mo (mon k).1 := z
    have dz : dayN (rowD mm hh dm mo wm) k = n := by
      unfold dayN
      rw [show rowMo (rowD mm hh dm mo wm) = mo from rfl, if_pos nm, eB]
      rfl
    have lz := fun (ρ : Sl) (hρ : ρ = [.val (.ins 9 [rowD mm hh dm mo wm, .int t, .any]), .val (.int k), .val (.int (mon k).1), .val (.int (mon k).2.1), .val (.int (mon k).2.2), .val (.int n), .un]) =>
      lst_row (T := tgN 6) (elt := dOp opMul (dFld at_told_times (dVar 0)) (dOp opAnd (dOp opShr (dVar 5) (dVar 6)) (dC (.int 1)))) (ρ := ρ) (d := rowD mm hh dm mo wm) (t := t) (k := k) (fun _ => rfl) (fun i => ⟨_, rfl, by
        subst hρ
        have q1 : 0 ≤ 1 + (i : Int) := by omega
        have q2 : (1 + (i : Int)).toNat = 1 + i := by omega
        have q3 := bit_small (n / 2 ^ (1 + i))
        have q4 : (-18446744073709551616 < t ∧ t < 18446744073709551616) ∨ (-18446744073709551616 < Builtin.bitAnd (n / 2 ^ (1 + i)) 1 ∧ Builtin.bitAnd (n / 2 ^ (1 + i)) 1 < 18446744073709551616) := .inr q3
        simp [apD, at_told_times, q1, q2, q4, dz]⟩)
    rw [dz] at hd
    have lz := lz _ rfl
    have ll : (rngD 1 (mon k).2.1.toNat).length ≤ 100000 := by simp [rngD]; omega
    simp [startD, apD, e, at_row, t_months, m_Row_months, m_Row_months_b, at_month_mask, z0, z, sCache, t_days_in, hd, rg, b1, b2, b3, b4, eB, itR2, r3, r4, r6, oLc, ll, lz]
end DL
set_option maxRecDepth 100000
namespace DL
open PySem L2
/-! ### masks of books -/
theorem lc_zip {i j : Nat} {elt : DE} {ρ : Sl} {g : Int → Int → Int} (he : ∀ x y : Int, elt (apD ρ [(i, .int x), (j, .int y)]) = some (.int (g x y))) : ∀ a b : List Int, lcD (tgT [i, j]) tTrue elt ρ (zipD (intD a) (intD b)) = some (intD (List.zipWith g a b))
  | [], _ => by simp [zipD, intD, lcD]
  | _ :: _, [] => by simp [zipD, intD, lcD]
  | x :: a, y :: b => by
    have ih := lc_zip he a b
    unfold zipD intD at ih ⊢
    simp only [List.map_cons, List.zip_cons_cons]
    unfold lcD
    simp only [s_tgT, List.length_cons, List.length_nil, if_true, Option.bind_some, List.zip_cons_cons, List.zip_nil_left, tTrue, he, ih, Option.map_some, List.zipWith_cons_cons, List.map_cons]
theorem lc_one {i : Nat} {elt : DE} {ρ : Sl} {g : Int → Int} (he : ∀ x : Int, elt (apD ρ [(i, .int x)]) = some (.int (g x))) (a : List Int) : lcD (tgN i) tTrue elt ρ (intD a) = some (intD (a.map g)) := by
  rw [lc_map (fun d => match d with | .int x => .int (g x) | d => d)]
  · simp [intD]
  · intro d hd
    obtain ⟨x, _, rfl⟩ := List.mem_map.mp hd
    exact ⟨_, rfl, he x⟩
theorem len_zip {a b : List Int} : (zipD (intD a) (intD b)).length = min a.length b.length := by simp [zipD, intD]
abbrev Ms := Nat → List Int
/-- masks of each kind of month -/
structure MsOk (M : Ms) : Prop where
  len : ∀ k, k < 91 → (M k).length = (mon k).2.1.toNat
  rng : ∀ k, k < 91 → ∀ x ∈ M k, 0 ≤ x ∧ x < 2 ^ 1440
def zeroM : Ms := fun k => List.replicate (mon k).2.1.toNat 0
def full : Int := 2 ^ 1440 - 1
def zipM (g : Int → Int → Int) (A B : Ms) : Ms := fun k => List.zipWith g (A k) (B k)
def turnM (A : Ms) : Ms := fun k => (A k).map fun x => full - x
theorem zero_ok : MsOk zeroM := ⟨fun k _ => by simp [zeroM], fun k _ x hx => by
  have := (List.mem_replicate.mp hx).2
  subst this
  exact ⟨Int.le_refl _, PySem.W.kbt_pos _⟩⟩
theorem row_ok {d : D} {t : Int} (t0 : 0 ≤ t) (t1 : t < 2 ^ 1440) : MsOk (rowM d t) := ⟨fun k _ => by simp [rowM], fun k _ x hx => by
  obtain ⟨i, _, rfl⟩ := List.mem_map.mp hx
  have e : bA (dayN d k / 2 ^ (1 + i)) 1 = (dayN d k / 2 ^ (1 + i)) % 2 := PyProof.Rows.bitAnd_m1 _
  rw [e]
  have h2 : dayN d k / 2 ^ (1 + i) % 2 = 0 ∨ dayN d k / 2 ^ (1 + i) % 2 = 1 := by omega
  rcases h2 with h | h
  · rw [h, Int.mul_zero]; exact ⟨Int.le_refl _, PySem.W.kbt_pos _⟩
  · rw [h, Int.mul_one]; exact ⟨t0, t1⟩⟩
theorem mem_zipWith {g : Int → Int → Int} : ∀ {a b : List Int} {z : Int}, z ∈ List.zipWith g a b → ∃ x ∈ a, ∃ y ∈ b, z = g x y
  | [], _, _, h => by simp at h
  | _ :: _, [], _, h => by simp at h
  | x :: a, y :: b, z, h => by
    rw [List.zipWith_cons_cons] at h
    rcases List.mem_cons.mp h with e | h
    · exact ⟨x, List.mem_cons_self .., y, List.mem_cons_self .., e⟩
    · obtain ⟨x', hx, y', hy, e⟩ := mem_zipWith h
      exact ⟨x', List.mem_cons_of_mem _ hx, y', List.mem_cons_of_mem _ hy, e⟩
theorem zip_ok {g : Int → Int → Int} {A B : Ms} (a : MsOk A) (b : MsOk B) (h : ∀ x y : Int, 0 ≤ x → x < 2 ^ 1440 → 0 ≤ y → y < 2 ^ 1440 → 0 ≤ g x y ∧ g x y < 2 ^ 1440) : MsOk (zipM g A B) :=
  ⟨fun k hk => by simp [zipM, a.len k hk, b.len k hk], fun k hk z hz => by
    obtain ⟨x, hx, y, hy, rfl⟩ := mem_zipWith hz
    exact h x y (a.rng k hk x hx).1 (a.rng k hk x hx).2 (b.rng k hk y hy).1 (b.rng k hk y hy).2⟩
theorem turn_ok {A : Ms} (a : MsOk A) : MsOk (turnM A) := ⟨fun k hk => by simp [turnM, a.len k hk], fun k hk z hz => by
  obtain ⟨x, hx, rfl⟩ := List.mem_map.mp hz
  have := a.rng k hk x hx
  unfold full
  omega⟩
theorem orM_ok {A B : Ms} (a : MsOk A) (b : MsOk B) : MsOk (zipM bO A B) := zip_ok a b fun x y x0 x1 y0 y1 => or_rng x0 y0 x1 y1
theorem andM_ok {A B : Ms} (a : MsOk A) (b : MsOk B) : MsOk (zipM bA A B) := zip_ok a b fun x y x0 x1 y0 y1 => ⟨(and_rng x0).1, Int.lt_of_le_of_lt (and_rng x0).2 x1⟩
/-- one less the other -/
def lessI (x y : Int) : Int := x - bA x y
theorem lessM_ok {A B : Ms} (a : MsOk A) (b : MsOk B) : MsOk (zipM lessI A B) := zip_ok a b fun x y x0 x1 y0 y1 => by
  have := and_rng (y := y) x0
  unfold lessI
  omega
end DL
set_option maxRecDepth 100000
set_option exponentiation.threshold 2000
namespace DL
open PySem L2
/-! ### books -/
def bm (tbl : Nat → Option (List D → Option D)) (b : D) (xs : List D) : Option D := match b with
  | .ins i fs => (tbl i).bind fun M => M (.ins i fs :: xs)
  | _ => none
structure Bk (b : D) (n : Nat) (M : Ms) (tal dep : Int) : Prop where
  cl : ∃ c fs, b = .ins c fs ∧ 8 ≤ c ∧ c ≤ 13
  on : ∀ m, n ≤ m → ∀ k : Nat, k < 91 → bm (T_on_days m) b [.int k] = some (.lst (intD (M k)))
  ta : ∀ m, n ≤ m → bm (T_tally m) b [] = some (.int tal)
  de : ∀ m, n ≤ m → bm (T_depth m) b [] = some (.int dep)
  ok : MsOk M
theorem Bk.up {b : D} {n n' : Nat} {M : Ms} {t d : Int} (h : Bk b n M t d) (l : n ≤ n') : Bk b n' M t d :=
  ⟨h.cl, fun m z => h.on m (Nat.le_trans l z), fun m z => h.ta m (Nat.le_trans l z), fun m z => h.de m (Nat.le_trans l z), h.ok⟩
/-- a book's method as the walk asks for it -/
theorem meth_bm {n : Nat} {tbl : Nat → Option (List D → Option D)} {b : D} {xs : List D} {r : D} (hn : xs.length = n) (h : bm tbl b xs = some r) : (if xs.length = n then match b with
  | .ins i _ => (tbl i).bind fun M => M (b :: xs)
  | _ => none else none) = some r := by
  rw [if_pos hn]
  unfold bm at h
  split at h
  · exact h
  · cases h
theorem days_of_ok {k : Nat} (hk : k < 91) : m_days_of [.int k] = some (.int (mon k).2.1) := by
  unfold m_days_of m_days_of_b
  simp [startD, (month_ok hk).1, opIx, L2.atI, show ixN 3 1 = some 1 from rfl]
theorem all_times_ok : m_all_times [] = some (.int full) := by
  unfold m_all_times m_all_times_b full
  simp [startD]
theorem book_on {k : Nat} (hk : k < 91) : m_Book_on_days [.ins 8 [], .int k] = some (.lst (intD (zeroM k))) := by
  obtain ⟨e, a1, a2, b1, b2, b3, b4⟩ := month_ok hk
  have r1 : -4611686018427387904 ≤ (mon k).2.1 := by omega
  have r2 : (mon k).2.1 < 4611686018427387904 := by omega
  have r5 : (mon k).2.1.toNat ≤ 100000 := by omega
  unfold m_Book_on_days m_Book_on_days_b
  simp [startD, days_of_ok hk, itR1, r1, r2, oLc, len_rng, r5, lc_const, zeroM, zeros_int]
theorem bk_none : Bk (.ins 8 []) 1 zeroM 1 1 := by
  refine ⟨⟨8, [], rfl, by decide, by decide⟩, fun m hm k hk => ?_, fun m hm => ?_, fun m hm => ?_, zero_ok⟩
  · obtain ⟨j, rfl⟩ : ∃ j, m = j + 1 := ⟨m - 1, by omega⟩
    exact book_on hk
  · obtain ⟨j, rfl⟩ : ∃ j, m = j + 1 := ⟨m - 1, by omega⟩
    rfl
  · obtain ⟨j, rfl⟩ : ∃ j, m = j + 1 := ⟨m - 1, by omega⟩
    rfl
theorem bk_of {d : D} {t : Int} (h : RowOk d) (t0 : 0 ≤ t) (t1 : t < 2 ^ 1440) : Bk (.ins 9 [d, .int t, .any]) 1 (rowM d t) 1 1 := by
  refine ⟨⟨9, _, rfl, by decide, by decide⟩, fun m hm k hk => ?_, fun m hm => ?_, fun m hm => ?_, row_ok t0 t1⟩
  · obtain ⟨j, rfl⟩ : ∃ j, m = j + 1 := ⟨m - 1, by omega⟩
    exact of_days_ok h hk
  · obtain ⟨j, rfl⟩ : ∃ j, m = j + 1 := ⟨m - 1, by omega⟩
    rfl
  · obtain ⟨j, rfl⟩ : ∃ j, m = j + 1 := ⟨m - 1, by omega⟩
    rfl
structure Part where
  b : D
  M : Ms
  ta : Int
  de : Int
def Parts (n : Nat) (ps : List Part) : Prop := ∀ p ∈ ps, Bk p.b n p.M p.ta p.de
def foldM (g : Int → Int → Int) (A : Ms) (ps : List Part) : Ms := ps.foldl (fun A p => zipM g A p.M) A
theorem fold_on {o : D → D → Option D} {g : Int → Int → Int} (ho : ∀ x y : Int, o (.int x) (.int y) = some (.int (g x y))) (hg : ∀ A B, MsOk A → MsOk B → MsOk (zipM g A B)) {n m k : Nat} (hm : n ≤ m) (hk : k < 91) {self : D} {A : Ms} {ps : List Part} (hA : MsOk A) (hp : Parts n ps) :
    ∃ x, forD (tgN 3) (sAsg (dO (oLc (itZip (aCons (dVar 2) (aCons (dMeth 1 (T_on_days m) (dVar 3) (aCons (dVar 1) aNil)) aNil))) (tgT [5, 6]) tTrue (dOp o (dVar 5) (dVar 6)) [5, 6])) (tgN 2)) (ps.map (·.b)) [.val self, .val (.int k), .val (.lst (intD (A k))), .un, .un, .un, .un] =
      some (.nx [.val self, .val (.int k), .val (.lst (intD (foldM g A ps k))), x, .un, .un, .un]) := by
  obtain ⟨ρ', e, qs, B, x, hq, _, rfl, _, hf⟩ := for_ind (T := tgN 3) (B := sAsg (dO (oLc (itZip (aCons (dVar 2) (aCons (dMeth 1 (T_on_days m) (dVar 3) (aCons (dVar 1) aNil)) aNil))) (tgT [5, 6]) tTrue (dOp o (dVar 5) (dVar 6)) [5, 6])) (tgN 2))
    (fun ds ρ => ∃ (qs : List Part) (B : Ms) (x : S3), ds = qs.map (·.b) ∧ Parts n qs ∧ ρ = [.val self, .val (.int k), .val (.lst (intD (B k))), x, .un, .un, .un] ∧ MsOk B ∧ foldM g B qs = foldM g A ps) (by
      rintro d ds ρ ⟨qs, B, x, hq, hP, rfl, hB, hf⟩
      cases qs with
      | nil => cases hq
      | cons p qs =>
        rw [List.map_cons] at hq
        obtain ⟨rfl, rfl⟩ := List.cons.inj hq
        have hb := hP p (List.mem_cons_self ..)
        have hon := meth_bm (n := 1) rfl (hb.on m hm k hk)
        refine ⟨_, [.val self, .val (.int k), .val (.lst (intD (zipM g B p.M k))), .val p.b, .un, .un, .un], rfl, ?_, qs, zipM g B p.M, _, rfl, fun q hq' => hP q (List.mem_cons_of_mem _ hq'), rfl, hg _ _ hB hb.ok, hf⟩
        have hl : min (B k).length (p.M k).length ≤ 100000 := by
          rw [hB.len k hk, hb.ok.len k hk]
          have := (month_ok hk).2.2.2.2.1
          omega
        obtain ⟨c, fs, ec, _, _⟩ := hb.cl
        rw [ec] at hon ⊢
        simp only [List.length_cons, List.length_nil, if_true] at hon
        have z := lc_zip (i := 5) (j := 6) (elt := dOp o (dVar 5) (dVar 6)) (ρ := [.val self, .val (.int k), .val (.lst (intD (B k))), .val (.ins c fs), .un, .un, .un]) (g := g) (fun x y => by simp [apD, ho]) (B k) (p.M k)
        simp [apD, itZip, hon, oLc, len_zip, hl, z, zipM]) (ps.map (·.b)) _ ⟨ps, A, .un, rfl, hp, rfl, hA, rfl⟩
  cases qs with
  | nil =>
    have : B = foldM g A ps := hf
    subst this
    exact ⟨x, e⟩
  | cons q qs => cases hq
end DL
set_option maxRecDepth 100000
set_option exponentiation.threshold 2000
namespace DL
open PySem L2
/-! ### books of books -/
def fullM : Ms := fun k => List.replicate (mon k).2.1.toNat full
theorem full_ok : MsOk fullM := ⟨fun k _ => by simp [fullM], fun k _ x hx => by
  have := (List.mem_replicate.mp hx).2
  subst this
  unfold full
  have := PySem.W.kbt_pos 1440
  omega⟩
theorem asInts_intD : ∀ l : List Int, asInts (intD l) = some l
  | [] => rfl
  | x :: l => by
    have ih := asInts_intD l
    unfold intD at ih ⊢
    simp [asInts, ih]
theorem lc_parts {i : Nat} {tbl : Nat → Option (List D → Option D)} {ρ : Sl} {f : Part → Int} (hv : ∀ d : D, dVar i (apD ρ [(i, d)]) = some d) : ∀ ps : List Part, (∀ p ∈ ps, bm tbl p.b [] = some (.int (f p))) → lcD (tgN i) tTrue (dMeth 0 tbl (dVar i) aNil) ρ (ps.map (·.b)) = some (intD (ps.map f))
  | [], _ => rfl
  | p :: ps, h => by
    have ih := lc_parts (f := f) hv ps (fun q hq => h q (List.mem_cons_of_mem _ hq))
    have e := h p (List.mem_cons_self ..)
    unfold bm at e
    split at e
    · rename_i c fs eb
      unfold intD at ih ⊢
      rw [List.map_cons, eb]
      unfold lcD
      simp only [s_tgN, Option.bind_some, tTrue, s_meth, hv, s_nil, ih, Option.map_some, List.map_cons, List.length_nil, if_true]
      rw [e]
      rfl
    · cases e
section
variable {n m k : Nat} {ps : List Part}
theorem joined_on (hm : n ≤ m) (hk : k < 91) (hp : Parts n ps) : m_Joined_on_days (T_on_days m) [.ins 10 [.tup (ps.map (·.b))], .int k] = some (.lst (intD (foldM bO zeroM ps k))) := by
  obtain ⟨e, a1, a2, b1, b2, b3, b4⟩ := month_ok hk
  have r1 : -4611686018427387904 ≤ (mon k).2.1 := by omega
  have r2 : (mon k).2.1 < 4611686018427387904 := by omega
  have r5 : (mon k).2.1.toNat ≤ 100000 := by omega
  obtain ⟨x, ef⟩ := fold_on (o := opOr) (fun _ _ => rfl) (fun A B => orM_ok) hm hk (self := .ins 10 [.tup (ps.map (·.b))]) zero_ok hp
  unfold m_Joined_on_days m_Joined_on_days_b
  rw [zeroM, zeros_int] at ef
  simp [startD, days_of_ok hk, itR1, r1, r2, oLc, len_rng, r5, lc_const, apD, itE, at_books, ef]
theorem met_on (hm : n ≤ m) (hk : k < 91) (hp : Parts n ps) : m_Met_on_days (T_on_days m) [.ins 11 [.tup (ps.map (·.b))], .int k] = some (.lst (intD (foldM bA fullM ps k))) := by
  obtain ⟨e, a1, a2, b1, b2, b3, b4⟩ := month_ok hk
  have r1 : -4611686018427387904 ≤ (mon k).2.1 := by omega
  have r2 : (mon k).2.1 < 4611686018427387904 := by omega
  have r5 : (mon k).2.1.toNat ≤ 100000 := by omega
  obtain ⟨x, ef⟩ := fold_on (o := opAnd) (fun _ _ => rfl) (fun A B => andM_ok) hm hk (self := .ins 11 [.tup (ps.map (·.b))]) full_ok hp
  unfold m_Met_on_days m_Met_on_days_b
  have fi : intD (List.replicate (mon k).2.1.toNat full) = List.replicate (mon k).2.1.toNat (.int full) := by simp [intD]
  have lcf : ∀ ρ : Sl, lcD (tgN 4) tTrue (dCall 0 m_all_times aNil) ρ (rngD 0 (mon k).2.1.toNat) = some (List.replicate (mon k).2.1.toNat (.int full)) := fun ρ => by
    rw [lc_map (T := tgN 4) (elt := dCall 0 m_all_times aNil) (fun _ => .int full) _ (fun x hx => ⟨_, rfl, by simp [all_times_ok]⟩), List.map_const', len_rng]
  rw [fullM, fi] at ef
  simp [startD, days_of_ok hk, itR1, r1, r2, oLc, len_rng, r5, lcf, apD, itE, at_books, ef]
theorem joined_tally (hm : n ≤ m) (hl : ps.length ≤ 8) (hp : Parts n ps) : m_Joined_tally (T_tally m) [.ins 10 [.tup (ps.map (·.b))]] = some (.int (1 + (ps.map (·.ta)).sum)) := by
  have z := lc_parts (i := 1) (tbl := T_tally m) (ρ := [.val (.ins 10 [.tup (ps.map (·.b))]), .un]) (f := (·.ta)) (fun d => by simp [apD]) ps (fun p hp' => (hp p hp').ta m hm)
  have l8 : ps.length ≤ 100000 := by omega
  unfold m_Joined_tally m_Joined_tally_b
  simp [startD, oLc, itE, at_books, l8, z, bSum, asInts_intD]
theorem joined_depth (hm : n ≤ m) (h0 : 0 < ps.length) (hl : ps.length ≤ 8) (hp : Parts n ps) : m_Joined_depth (T_depth m) [.ins 10 [.tup (ps.map (·.b))]] = some (.int (1 + maxI (ps.map (·.de)))) := by
  have z := lc_parts (i := 1) (tbl := T_depth m) (ρ := [.val (.ins 10 [.tup (ps.map (·.b))]), .un]) (f := (·.de)) (fun d => by simp [apD]) ps (fun p hp' => (hp p hp').de m hm)
  have l8 : ps.length ≤ 100000 := by omega
  unfold m_Joined_depth m_Joined_depth_b
  simp [startD, oLc, itE, at_books, l8, z, bMax, asInts_intD, h0]
theorem met_tally (hm : n ≤ m) (hl : ps.length ≤ 8) (hp : Parts n ps) : m_Met_tally (T_tally m) [.ins 11 [.tup (ps.map (·.b))]] = some (.int (1 + (ps.map (·.ta)).sum)) := by
  have z := lc_parts (i := 1) (tbl := T_tally m) (ρ := [.val (.ins 11 [.tup (ps.map (·.b))]), .un]) (f := (·.ta)) (fun d => by simp [apD]) ps (fun p hp' => (hp p hp').ta m hm)
  have l8 : ps.length ≤ 100000 := by omega
  unfold m_Met_tally m_Met_tally_b
  simp [startD, oLc, itE, at_books, l8, z, bSum, asInts_intD]
theorem met_depth (hm : n ≤ m) (h0 : 0 < ps.length) (hl : ps.length ≤ 8) (hp : Parts n ps) : m_Met_depth (T_depth m) [.ins 11 [.tup (ps.map (·.b))]] = some (.int (1 + maxI (ps.map (·.de)))) := by
  have z := lc_parts (i := 1) (tbl := T_depth m) (ρ := [.val (.ins 11 [.tup (ps.map (·.b))]), .un]) (f := (·.de)) (fun d => by simp [apD]) ps (fun p hp' => (hp p hp').de m hm)
  have l8 : ps.length ≤ 100000 := by omega
  unfold m_Met_depth m_Met_depth_b
  simp [startD, oLc, itE, at_books, l8, z, bMax, asInts_intD, h0]
theorem fold_ok {g : Int → Int → Int} (hg : ∀ A B, MsOk A → MsOk B → MsOk (zipM g A B)) : ∀ (ps : List Part) (A : Ms), MsOk A → Parts n ps → MsOk (foldM g A ps)
  | [], A, h, _ => h
  | p :: ps, A, h, hp => fold_ok hg ps (zipM g A p.M) (hg _ _ h (hp p (List.mem_cons_self ..)).ok) (fun q hq => hp q (List.mem_cons_of_mem _ hq))
theorem bk_joined (h0 : 0 < ps.length) (hl : ps.length ≤ 8) (hp : Parts n ps) : Bk (.ins 10 [.tup (ps.map (·.b))]) (n + 1) (foldM bO zeroM ps) (1 + (ps.map (·.ta)).sum) (1 + maxI (ps.map (·.de))) := by
  refine ⟨⟨10, _, rfl, by decide, by decide⟩, fun m hm k hk => ?_, fun m hm => ?_, fun m hm => ?_, fold_ok (fun A B => orM_ok) ps _ zero_ok hp⟩ <;> obtain ⟨j, rfl⟩ : ∃ j, m = j + 1 := ⟨m - 1, by omega⟩
  · exact joined_on (by omega) hk hp
  · exact joined_tally (by omega) hl hp
  · exact joined_depth (by omega) h0 hl hp
theorem bk_met (h0 : 0 < ps.length) (hl : ps.length ≤ 8) (hp : Parts n ps) : Bk (.ins 11 [.tup (ps.map (·.b))]) (n + 1) (foldM bA fullM ps) (1 + (ps.map (·.ta)).sum) (1 + maxI (ps.map (·.de))) := by
  refine ⟨⟨11, _, rfl, by decide, by decide⟩, fun m hm k hk => ?_, fun m hm => ?_, fun m hm => ?_, fold_ok (fun A B => andM_ok) ps _ full_ok hp⟩ <;> obtain ⟨j, rfl⟩ : ∃ j, m = j + 1 := ⟨m - 1, by omega⟩
  · exact met_on (by omega) hk hp
  · exact met_tally (by omega) hl hp
  · exact met_depth (by omega) h0 hl hp
end
end DL
set_option maxRecDepth 100000
set_option exponentiation.threshold 2000
namespace DL
open PySem L2
theorem zip_same {g h : Int → Int → Int} : ∀ {a b : List Int}, (∀ x ∈ a, ∀ y ∈ b, g x y = h x y) → List.zipWith g a b = List.zipWith h a b
  | [], _, _ => by simp
  | _ :: _, [], _ => by simp
  | x :: a, y :: b, e => by
    rw [List.zipWith_cons_cons, List.zipWith_cons_cons, e x (List.mem_cons_self ..) y (List.mem_cons_self ..), zip_same fun x hx y hy => e x (List.mem_cons_of_mem _ hx) y (List.mem_cons_of_mem _ hy)]
theorem xor_full {x : Int} (h0 : 0 ≤ x) (h1 : x < 2 ^ 1440) : bX full x = full - x := by
  show Builtin.bitXor full x = _
  have e : Builtin.bitAnd full x = x := by
    unfold full
    rw [PySem.W.kbt_mask']
    exact Int.emod_eq_of_lt h0 h1
  rw [PyProof.Rows.bitXor_and, e]
  omega
section
variable {n m k : Nat} {a b : D} {A B : Ms} {ta tb da db : Int}
theorem less_on (hm : n ≤ m) (hk : k < 91) (ha : Bk a n A ta da) (hb : Bk b n B tb db) : m_Less_on_days (T_on_days m) [.ins 12 [a, b], .int k] = some (.lst (intD (zipM lessI A B k))) := by
  have e1 := ha.on m hm k hk
  have e2 := hb.on m hm k hk
  obtain ⟨c, fs, rfl, _, _⟩ := ha.cl
  obtain ⟨c', fs', rfl, _, _⟩ := hb.cl
  unfold bm at e1 e2
  dsimp only at e1 e2
  have hl : min (A k).length (B k).length ≤ 100000 := by
    rw [ha.ok.len k hk]
    have := (month_ok hk).2.2.2.2.1
    omega
  have z := lc_zip (i := 2) (j := 3) (elt := dOp opXor (dVar 2) (dOp opAnd (dVar 2) (dVar 3))) (ρ := [.val (.ins 12 [.ins c fs, .ins c' fs']), .val (.int k), .un, .un]) (g := fun x y => bX x (bA x y)) (fun x y => by simp [apD]) (A k) (B k)
  have q : List.zipWith (fun x y => bX x (bA x y)) (A k) (B k) = zipM lessI A B k := zip_same fun x hx y hy => xor_and_self (ha.ok.rng k hk x hx).1 (hb.ok.rng k hk y hy).1
  rw [q] at z
  unfold m_Less_on_days m_Less_on_days_b
  simp [startD, itZip, at_one, at_other, e1, e2, oLc, len_zip, hl, z]
theorem turned_on (hm : n ≤ m) (hk : k < 91) (ha : Bk a n A ta da) : m_Turned_on_days (T_on_days m) [.ins 13 [a], .int k] = some (.lst (intD (turnM A k))) := by
  have e1 := ha.on m hm k hk
  obtain ⟨c, fs, rfl, _, _⟩ := ha.cl
  unfold bm at e1
  dsimp only at e1
  have hl : (intD (A k)).length ≤ 100000 := by
    have := (month_ok hk).2.2.2.2.1
    simp only [intD, List.length_map, ha.ok.len k hk]
    omega
  have z := lc_one (i := 2) (elt := dOp opXor (dCall 0 m_all_times aNil) (dVar 2)) (ρ := [.val (.ins 13 [.ins c fs]), .val (.int k), .un]) (g := fun x => bX full x) (fun x => by simp [apD, all_times_ok]) (A k)
  have q : (A k).map (fun x => bX full x) = turnM A k := List.map_congr_left fun x hx => xor_full (ha.ok.rng k hk x hx).1 (ha.ok.rng k hk x hx).2
  rw [q] at z
  unfold m_Turned_on_days m_Turned_on_days_b
  simp [startD, itE, at_one, e1, oLc, hl, z]
theorem bk_less (ha : Bk a n A ta da) (hb : Bk b n B tb db) : Bk (.ins 12 [a, b]) (n + 1) (zipM lessI A B) (1 + ta + tb) (1 + (if db > da then db else da)) := by
  refine ⟨⟨12, _, rfl, by decide, by decide⟩, fun m hm k hk => ?_, fun m hm => ?_, fun m hm => ?_, lessM_ok ha.ok hb.ok⟩ <;> obtain ⟨j, rfl⟩ : ∃ j, m = j + 1 := ⟨m - 1, by omega⟩
  · exact less_on (by omega) hk ha hb
  · have e1 := ha.ta j (by omega)
    have e2 := hb.ta j (by omega)
    obtain ⟨c, fs, rfl, _, _⟩ := ha.cl
    obtain ⟨c', fs', rfl, _, _⟩ := hb.cl
    unfold bm at e1 e2
    dsimp only at e1 e2
    show m_Less_tally (T_tally j) [.ins 12 [.ins c fs, .ins c' fs']] = _
    unfold m_Less_tally m_Less_tally_b
    simp [startD, at_one, at_other, e1, e2]
  · have e1 := ha.de j (by omega)
    have e2 := hb.de j (by omega)
    obtain ⟨c, fs, rfl, _, _⟩ := ha.cl
    obtain ⟨c', fs', rfl, _, _⟩ := hb.cl
    unfold bm at e1 e2
    dsimp only at e1 e2
    show m_Less_depth (T_depth j) [.ins 12 [.ins c fs, .ins c' fs']] = _
    unfold m_Less_depth m_Less_depth_b
    simp [startD, at_one, at_other, e1, e2, bMax]
theorem bk_turned (ha : Bk a n A ta da) : Bk (.ins 13 [a]) (n + 1) (turnM A) (1 + ta) (1 + da) := by
  refine ⟨⟨13, _, rfl, by decide, by decide⟩, fun m hm k hk => ?_, fun m hm => ?_, fun m hm => ?_, turn_ok ha.ok⟩ <;> obtain ⟨j, rfl⟩ : ∃ j, m = j + 1 := ⟨m - 1, by omega⟩
  · exact turned_on (by omega) hk ha
  · have e1 := ha.ta j (by omega)
    obtain ⟨c, fs, rfl, _, _⟩ := ha.cl
    unfold bm at e1
    dsimp only at e1
    show m_Turned_tally (T_tally j) [.ins 13 [.ins c fs]] = _
    unfold m_Turned_tally m_Turned_tally_b
    simp [startD, at_one, e1]
  · have e1 := ha.de j (by omega)
    obtain ⟨c, fs, rfl, _, _⟩ := ha.cl
    unfold bm at e1
    dsimp only at e1
    show m_Turned_depth (T_depth j) [.ins 13 [.ins c fs]] = _
    unfold m_Turned_depth m_Turned_depth_b
    simp [startD, at_one, e1]
end
/-! ### books made -/
theorem isBook_ok {b : D} {n : Nat} {M : Ms} {t d : Int} (h : Bk b n M t d) : m_need_book [b] = some .non := by
  obtain ⟨c, fs, rfl, h1, h2⟩ := h.cl
  have hc : c = 8 ∨ c = 9 ∨ c = 10 ∨ c = 11 ∨ c = 12 ∨ c = 13 := by omega
  unfold m_need_book m_need_book_b
  rcases hc with rfl | rfl | rfl | rfl | rfl | rfl <;> simp [startD, tagOf, isiBook]
theorem need_small_ok {n : Nat} {ps : List Part} (hn : n ≤ 8) (hp : Parts n ps) (h0 : 0 < ps.length) (hl : ps.length ≤ 8) (ht : 1 + (ps.map (·.ta)).sum ≤ 24) (hd : 1 + maxI (ps.map (·.de)) ≤ 5) : m_need_small [.lst (ps.map (·.b))] = some .non := by
  have z := lc_parts (i := 1) (tbl := T_tally 8) (ρ := [.val (.lst (ps.map (·.b))), .un]) (f := (·.ta)) (fun d => by simp [apD]) ps (fun p hp' => (hp p hp').ta 8 hn)
  have y := lc_parts (i := 1) (tbl := T_depth 8) (ρ := [.val (.lst (ps.map (·.b))), .un]) (f := (·.de)) (fun d => by simp [apD]) ps (fun p hp' => (hp p hp').de 8 hn)
  have l8 : ps.length ≤ 100000 := by omega
  have t2 : ¬ (24 < 1 + (ps.map (·.ta)).sum) := by omega
  have d2 : ¬ (5 < 1 + maxI (ps.map (·.de))) := by omega
  unfold m_need_small m_need_small_b
  simp [startD, oLc, itE, l8, z, y, bSum, bMax, asInts_intD, h0, t2, d2]
end DL
set_option maxRecDepth 100000
set_option exponentiation.threshold 2000
namespace DL
open PySem L2
/-! ### books by their classes -/
section
variable {n : Nat} {ps : List Part}
/-- small enough to be put in a book -/
structure Small (ps : List Part) : Prop where
  h0 : 0 < ps.length
  hl : ps.length ≤ 8
  ht : 1 + (ps.map (·.ta)).sum ≤ 24
  hd : 1 + maxI (ps.map (·.de)) ≤ 5
theorem books_of_ok (hn : n ≤ 8) (hp : Parts n ps) (s : Small ps) : m_books_of [.lst (ps.map (·.b))] = some (.tup (ps.map (·.b))) := by
  obtain ⟨ρ', e, qs, x, hq, _, rfl⟩ := for_ind (T := tgN 1) (B := sDrop (dCall 1 m_need_book (aCons (dVar 1) aNil)))
    (fun ds ρ => ∃ (qs : List Part) (x : S3), ds = qs.map (·.b) ∧ Parts n qs ∧ ρ = [.val (.lst (ps.map (·.b))), x]) (by
      rintro d ds ρ ⟨qs, x, hq, hP, rfl⟩
      cases qs with
      | nil => cases hq
      | cons p qs =>
        rw [List.map_cons] at hq
        obtain ⟨rfl, rfl⟩ := List.cons.inj hq
        exact ⟨_, [.val (.lst (ps.map (·.b))), .val p.b], rfl, by simp [apD, isBook_ok (hP p (List.mem_cons_self ..))], qs, _, rfl, fun q hq' => hP q (List.mem_cons_of_mem _ hq'), rfl⟩) (ps.map (·.b)) [.val (.lst (ps.map (·.b))), .un] ⟨ps, .un, rfl, hp, rfl⟩
  have z := need_small_ok hn hp s.h0 s.hl s.ht s.hd
  have l1 : (1 : Int) ≤ ps.length := by have := s.h0; omega
  have l2 : (ps.length : Int) ≤ 8 := by have := s.hl; omega
  unfold m_books_of m_books_of_b
  simp [startD, tagOf, isiB, kitB, bLen, l1, l2, itE, e, z, bTuple]
theorem joined_made (hn : n ≤ 8) (hp : Parts n ps) (s : Small ps) : i_Joined [.lst (ps.map (·.b))] = some [.tup (ps.map (·.b))] := by
  show (m_books_of _).map _ = _
  rw [books_of_ok hn hp s]
  rfl
theorem met_made (hn : n ≤ 8) (hp : Parts n ps) (s : Small ps) : i_Met [.lst (ps.map (·.b))] = some [.tup (ps.map (·.b))] := by
  show (m_books_of _).map _ = _
  rw [books_of_ok hn hp s]
  rfl
theorem less_made {p q : Part} (hn : n ≤ 8) (hp : Parts n [p, q]) (s : Small [p, q]) : i_Less [p.b, q.b] = some [p.b, q.b] := by
  have z := need_small_ok hn hp s.h0 s.hl s.ht s.hd
  show (m_need_book _).bind _ = _
  rw [isBook_ok (hp p (by simp))]
  show (m_need_book _).bind _ = _
  rw [isBook_ok (hp q (by simp))]
  show (m_need_small [.lst [p.b, q.b]]).map _ = _
  have z : m_need_small [.lst [p.b, q.b]] = some .non := z
  rw [z]
  rfl
theorem turned_made {p : Part} (hn : n ≤ 8) (hp : Parts n [p]) (s : Small [p]) : i_Turned [p.b] = some [p.b] := by
  have z := need_small_ok hn hp s.h0 s.hl s.ht s.hd
  show (m_need_book _).bind _ = _
  rw [isBook_ok (hp p (by simp))]
  show (m_need_small [.lst [p.b]]).map _ = _
  have z : m_need_small [.lst [p.b]] = some .non := z
  rw [z]
  rfl
theorem of_made {d : D} {t : Int} (h : RowOk d) (ht : m_Row_times [d] = some (.int t)) : i_Of [d] = some [d, .int t, .any] := by
  have rg := h.rg
  obtain ⟨mm, hh, mo, dm, wm, rfl, _⟩ := h.ex
  show (if rig (rowD mm hh dm mo wm) = true then (m_Row_times [rowD mm hh dm mo wm]).map _ else none) = _
  rw [if_pos rg, ht]
  rfl
end
end DL
set_option maxRecDepth 100000
set_option exponentiation.threshold 2000
namespace DL
open PySem L2
/-! ### the law's trees -/
theorem law_joined_join {x y : Int} : m__law_joined [.str "join", .int x, .int y] = some (.int (bO x y)) := by
  unfold m__law_joined m__law_joined_b
  simp [startD]
theorem law_joined_meet {x y : Int} : m__law_joined [.str "meet", .int x, .int y] = some (.int (bA x y)) := by
  have h1 : ¬ (("meet" : Str) = "join") := by decide +kernel
  unfold m__law_joined m__law_joined_b
  simp [startD, h1]
theorem law_joined_less {x y : Int} : m__law_joined [.str "less", .int x, .int y] = some (.int (bA x (full - y))) := by
  have h1 : ¬ (("less" : Str) = "join") := by decide +kernel
  have h2 : ¬ (("less" : Str) = "meet") := by decide +kernel
  unfold m__law_joined m__law_joined_b full
  simp [startD, h1, h2]
theorem masks_none {n k : Nat} {xs : List D} (hk : k < 91) : m__law_masks (n + 1) [.tup [.str "none", .lst xs], .int k] = some (.lst (intD (zeroM k))) := by
  obtain ⟨e, a1, a2, b1, b2, b3, b4⟩ := month_ok hk
  have q1 : -(2 ^ 63) ≤ (mon k).2.1 ∧ (mon k).2.1 < 2 ^ 63 ∧ (mon k).2.1.toNat ≤ 100000 := by omega
  show runD 11 (m__law_masks_b (m__law_masks n)) _ = _
  unfold m__law_masks_b
  simp [startD, apD, e, opIx, L2.atI, show ixN 3 1 = some 1 from rfl, opMul, zeroM, zeros_int]
  have q2 : -9223372036854775808 ≤ (mon k).2.1 := by omega
  have q3 : (mon k).2.1 < 9223372036854775808 := by omega
  have q4 : (mon k).2.1 ≤ 100000 := by omega
  simp [q2, q3, q4]
theorem masks_row {n k : Nat} {d : D} {t : Int} (hk : k < 91) (h : RowOk d) : m__law_masks (n + 1) [.tup [.str "row", .lst [d, .int t]], .int k] = some (.lst (intD (rowM d t k))) := by
  have h1 : ¬ (("row" : Str) = "none") := by decide +kernel
  obtain ⟨e, a1, a2, b1, b2, b3, b4⟩ := month_ok hk
  have hd := h.days hk
  obtain ⟨mm, hh, mo, dm, wm, rfl, _, _, _, _, _, _⟩ := h.ex
  have r3 : -4611686018427387904 ≤ (mon k).2.1 + 1 := by omega
  have r4 : (mon k).2.1 + 1 < 4611686018427387904 := by omega
  have r6 : ((mon k).2.1 + 1 - 1).toNat = (mon k).2.1.toNat := by omega
  have ll : (mon k).2.1.toNat ≤ 100000 := by omega
  have lz := lst_row (T := tgN 9) (elt := dOp opMul (dOp opIx (dVar 3) (dC (.int 1))) (dOp opAnd (dOp opShr (dVar 5) (dVar 9)) (dC (.int 1)))) (ρ := [.val (.tup [.str "row", .lst [rowD mm hh dm mo wm, .int t]]), .val (.int k), .val (.str "row"), .val (.lst [rowD mm hh dm mo wm, .int t]), .val (.int (mon k).2.1), .val (.int (dayN (rowD mm hh dm mo wm) k)), .un, .un, .un, .un, .un]) (d := rowD mm hh dm mo wm) (t := t) (k := k) (fun _ => rfl) (fun i => ⟨_, rfl, by
    have q1 : 0 ≤ 1 + (i : Int) := by omega
    have q2 : (1 + (i : Int)).toNat = 1 + i := by omega
    have q3 := bit_small (dayN (rowD mm hh dm mo wm) k / 2 ^ (1 + i))
    have q4 : (-18446744073709551616 < t ∧ t < 18446744073709551616) ∨ (-18446744073709551616 < Builtin.bitAnd (dayN (rowD mm hh dm mo wm) k / 2 ^ (1 + i)) 1 ∧ Builtin.bitAnd (dayN (rowD mm hh dm mo wm) k / 2 ^ (1 + i)) 1 < 18446744073709551616) := .inr q3
    simp [apD, opIx, L2.atI, show ixN 2 1 = some 1 from rfl, q1, q2, q4]⟩)
  show runD 11 (m__law_masks_b (m__law_masks n)) _ = _
  unfold m__law_masks_b
  simp [startD, apD, e, h1, opIx, L2.atI, show ixN 3 1 = some 1 from rfl, show ixN 2 0 = some 0 from rfl, t_days_in, hd, itR2, r3, r4, r6, oLc, len_rng, ll, lz]
theorem atI_nat {α : Type} {xs : List α} {i : Nat} {x : α} (h : xs[i]? = some x) : L2.atI xs (i : Int) = some x := by
  have hl : i < xs.length := (List.getElem?_eq_some_iff.mp h).1
  unfold L2.atI
  have e : ixN xs.length (i : Int) = some i := by
    unfold ixN
    simp [hl]
  rw [e]
  exact h
/-- [f(a[i], b[i]) for i in range(n)] -/
theorem lc_at {w : Str} {g : Int → Int → Int} (hg : ∀ x y : Int, m__law_joined [.str w, .int x, .int y] = some (.int (g x y))) {ρ : Sl} {a b : List Int} (hl : a.length = b.length)
    (h2 : ∀ i : Nat, dVar 2 (apD ρ [(9, .int i)]) = some (.str w)) (h6 : ∀ i : Nat, dVar 6 (apD ρ [(9, .int i)]) = some (.lst (intD a))) (h8 : ∀ i : Nat, dVar 8 (apD ρ [(9, .int i)]) = some (.lst (intD b))) (h9 : ∀ i : Nat, dVar 9 (apD ρ [(9, .int i)]) = some (.int i)) :
    lcD (tgN 9) tTrue (dCall 3 m__law_joined (aCons (dVar 2) (aCons (dOp opIx (dVar 6) (dVar 9)) (aCons (dOp opIx (dVar 8) (dVar 9)) aNil)))) ρ (rngD 0 a.length) = some (intD (List.zipWith g a b)) := by
  rw [lc_map (fun d => match d with | .int i => (.int (g (a.getD i.toNat 0) (b.getD i.toNat 0))) | d => d)]
  · congr 1
    unfold rngD intD
    rw [List.map_map]
    apply List.ext_getElem
    · simp [hl]
    · intro i p q
      have hi : i < a.length := by simpa using p
      have hj : i < b.length := by omega
      simp [hi, hj]
  · intro d hd
    obtain ⟨i, hi, rfl⟩ := mem_rng hd
    have hj : i < b.length := by omega
    have z : (0 : Int) + (i : Int) = i := by omega
    rw [z]
    refine ⟨_, rfl, ?_⟩
    have ea : L2.atI (intD a) (i : Int) = some (.int a[i]) := atI_nat (by simp [intD, hi])
    have eb : L2.atI (intD b) (i : Int) = some (.int b[i]) := atI_nat (by simp [intD, hj])
    simp only [s_call, s_cons, s_nil, s_op, h2, h6, h8, h9, Option.bind_some, Option.map_some, opIx, ea, eb, List.length_cons, List.length_nil, if_true, hg, Int.toNat_natCast]
    simp [hi, hj]
end DL
set_option maxRecDepth 100000
set_option exponentiation.threshold 2000
namespace DL
open PySem L2
section
variable {n k : Nat}
theorem masks_turn {t : D} {A : Ms} (hk : k < 91) (hA : MsOk A) (h : m__law_masks n [t, .int k] = some (.lst (intD (A k)))) : m__law_masks (n + 1) [.tup [.str "turn", .lst [t]], .int k] = some (.lst (intD (turnM A k))) := by
  have h1 : ¬ (("turn" : Str) = "none") := by decide +kernel
  have h2 : ¬ (("turn" : Str) = "row") := by decide +kernel
  obtain ⟨e, a1, a2, b1, b2, b3, b4⟩ := month_ok hk
  have hl : (intD (A k)).length ≤ 100000 := by
    simp only [intD, List.length_map, hA.len k hk]
    omega
  have z := lc_one (i := 10) (elt := dOp opSub (dOp opSub (dOp opShl (dC (.int 1)) (dC (.int 1440))) (dC (.int 1))) (dVar 10)) (ρ := [.val (.tup [.str "turn", .lst [t]]), .val (.int k), .val (.str "turn"), .val (.lst [t]), .val (.int (mon k).2.1), .un, .val (.lst (intD (A k))), .un, .un, .un, .un]) (g := fun x => full - x) (fun x => by simp [apD, full]) (A k)
  show runD 11 (m__law_masks_b (m__law_masks n)) _ = _
  unfold m__law_masks_b
  simp [startD, apD, e, h1, h2, opIx, L2.atI, show ixN 3 1 = some 1 from rfl, show ixN 1 0 = some 0 from rfl, h, itE, oLc, hl, z, turnM]
/-- a tree with its masks -/
def TrM (n : Nat) (t : D) (A : Ms) : Prop := ∀ k : Nat, k < 91 → m__law_masks n [t, .int k] = some (.lst (intD (A k)))
theorem masks_fold {w : Str} {g : Int → Int → Int} (h1 : ¬ w = "none") (h2 : ¬ w = "row") (h3 : ¬ w = "turn") (hg : ∀ x y : Int, m__law_joined [.str w, .int x, .int y] = some (.int (g x y))) (hgM : ∀ A B, MsOk A → MsOk B → MsOk (zipM g A B)) (hk : k < 91)
    {t : D} {A : Ms} (ht : TrM n t A) (hA : MsOk A) {ts : List (D × Ms)} (hts : ∀ q ∈ ts, TrM n q.1 q.2 ∧ MsOk q.2) : m__law_masks (n + 1) [.tup [.str w, .lst (t :: ts.map (·.1))], .int k] = some (.lst (intD ((ts.foldl (fun B q => zipM g B q.2) A) k))) := by
  obtain ⟨e, a1, a2, b1, b2, b3, b4⟩ := month_ok hk
  have r1 : -4611686018427387904 ≤ (mon k).2.1 := by omega
  have r2 : (mon k).2.1 < 4611686018427387904 := by omega
  have r5 : (mon k).2.1.toNat ≤ 100000 := by omega
  obtain ⟨ρ', ef, qs, B, x, y, hq, _, _, hf, rfl⟩ := for_ind (T := tgN 7) (B := sSeq (sAsg (dCall 2 (m__law_masks n) (aCons (dVar 7) (aCons (dVar 1) aNil))) (tgN 8)) (sAsg (dO (oLc (itR1 (aCons (dVar 4) aNil)) (tgN 9) tTrue (dCall 3 m__law_joined (aCons (dVar 2) (aCons (dOp opIx (dVar 6) (dVar 9)) (aCons (dOp opIx (dVar 8) (dVar 9)) aNil)))) [9])) (tgN 6)))
    (fun ds ρ => ∃ (qs : List (D × Ms)) (B : Ms) (x y : S3), ds = qs.map (·.1) ∧ (∀ q ∈ qs, TrM n q.1 q.2 ∧ MsOk q.2) ∧ MsOk B ∧ qs.foldl (fun B q => zipM g B q.2) B = ts.foldl (fun B q => zipM g B q.2) A ∧
      ρ = [.val (.tup [.str w, .lst (t :: ts.map (·.1))]), .val (.int k), .val (.str w), .val (.lst (t :: ts.map (·.1))), .val (.int (mon k).2.1), .un, .val (.lst (intD (B k))), x, y, .un, .un]) (by
      rintro d ds ρ ⟨qs, B, x, y, hq, hP, hB, hf, rfl⟩
      cases qs with
      | nil => cases hq
      | cons q qs =>
        rw [List.map_cons] at hq
        obtain ⟨rfl, rfl⟩ := List.cons.inj hq
        obtain ⟨hm, hM⟩ := hP q (List.mem_cons_self ..)
        refine ⟨_, [.val (.tup [.str w, .lst (t :: ts.map (·.1))]), .val (.int k), .val (.str w), .val (.lst (t :: ts.map (·.1))), .val (.int (mon k).2.1), .un, .val (.lst (intD (zipM g B q.2 k))), .val q.1, .val (.lst (intD (q.2 k))), .un, .un], rfl, ?_, qs, zipM g B q.2, _, _, rfl, fun r hr => hP r (List.mem_cons_of_mem _ hr), hgM _ _ hB hM, hf, rfl⟩
        have z := lc_at hg (ρ := [.val (.tup [.str w, .lst (t :: ts.map (·.1))]), .val (.int k), .val (.str w), .val (.lst (t :: ts.map (·.1))), .val (.int (mon k).2.1), .un, .val (.lst (intD (B k))), .val q.1, .val (.lst (intD (q.2 k))), .un, .un]) (a := B k) (b := q.2 k) (by rw [hB.len k hk, hM.len k hk]) (fun i => by simp [apD]) (fun i => by simp [apD]) (fun i => by simp [apD]) (fun i => by simp [apD])
        rw [hB.len k hk] at z
        simp [apD, hm k hk, itR1, r1, r2, oLc, len_rng, r5, z, zipM]) (ts.map (·.1)) _ ⟨ts, A, .un, .un, rfl, hts, hA, rfl, rfl⟩
  cases qs with
  | cons q qs => cases hq
  | nil =>
    have hf : B = ts.foldl (fun B q => zipM g B q.2) A := hf
    subst hf
    show runD 11 (m__law_masks_b (m__law_masks n)) _ = _
    unfold m__law_masks_b
    have sl : opSl (.lst (t :: ts.map (·.1))) (some 1) none = some (.lst (ts.map (·.1))) := by
      show some (D.lst (cutD _ _ _)) = _
      congr 2
      simp [cutD, HT.sIx, List.take_of_length_le]
    have i0 : L2.atI (t :: ts.map (·.1)) 0 = some t := atI_nat (i := 0) rfl
    have i1 : L2.atI [D.int (mon k).1, D.int (mon k).2.1, D.int (mon k).2.2] 1 = some (D.int (mon k).2.1) := rfl
    simp [startD, apD, e, h1, h2, h3, opIx, i0, i1, ht k hk, itE, sl, ef]
end
end DL
set_option maxRecDepth 100000
set_option exponentiation.threshold 2000
namespace DL
open PySem L2
section
variable {n j : Nat}
/-- a tree that makes a book -/
def TrB (n : Nat) (t b : D) : Prop := m__law_make n [t] = some b
theorem make_none {xs : List D} : TrB (n + 1) (.tup [.str "none", .lst xs]) (.ins 8 []) := by
  show runD 5 (m__law_make_b (m__law_make n)) [.tup [.str "none", .lst xs]] = some (.ins 8 [])
  unfold m__law_make_b
  simp [startD, apD]
theorem make_row {d : D} {t : Int} (h : RowOk d) (ht : m_Row_times [d] = some (.int t)) : TrB (n + 1) (.tup [.str "row", .lst [d, .int t]]) (.ins 9 [d, .int t, .any]) := by
  have h1 : ¬ (("row" : Str) = "none") := by decide +kernel
  have i0 : L2.atI [d, D.int t] 0 = some d := rfl
  show runD 5 (m__law_make_b (m__law_make n)) _ = _
  unfold m__law_make_b
  simp [startD, apD, h1, opIx, i0, of_made h ht]
theorem lc_make {ρ : Sl} (hv : ∀ d : D, dVar 4 (apD ρ [(4, d)]) = some d) : ∀ qs : List (D × Part), (∀ q ∈ qs, TrB n q.1 q.2.b) → lcD (tgN 4) tTrue (dCall 1 (m__law_make n) (aCons (dVar 4) aNil)) ρ (qs.map (·.1)) = some (qs.map fun q => q.2.b)
  | [], _ => rfl
  | q :: qs, h => by
    have ih := lc_make hv qs fun r hr => h r (List.mem_cons_of_mem _ hr)
    have e : m__law_make n [q.1] = some q.2.b := h q (List.mem_cons_self ..)
    rw [List.map_cons, List.map_cons]
    unfold lcD
    simp only [s_tgN, Option.bind_some, tTrue, s_call, s_cons, s_nil, hv, Option.map_some, List.length_cons, List.length_nil, if_true, e, ih]
variable {qs : List (D × Part)}
theorem make_join (hq : ∀ q ∈ qs, TrB n q.1 q.2.b) (hj : j ≤ 8) (hp : Parts j (qs.map (·.2))) (s : Small (qs.map (·.2))) : TrB (n + 1) (.tup [.str "join", .lst (qs.map (·.1))]) (.ins 10 [.tup ((qs.map (·.2)).map (·.b))]) := by
  have h1 : ¬ (("join" : Str) = "none") := by decide +kernel
  have h2 : ¬ (("join" : Str) = "row") := by decide +kernel
  have l8 : qs.length ≤ 100000 := by have := s.hl; simp at this; omega
  have z := lc_make (n := n) (ρ := [.val (.tup [.str "join", .lst (qs.map (·.1))]), .val (.str "join"), .val (.lst (qs.map (·.1))), .un, .un]) (fun d => by simp [apD]) qs hq
  have m := joined_made hj hp s
  rw [List.map_map] at m ⊢
  have m : i_Joined [.lst (qs.map fun q => q.2.b)] = some [.tup (qs.map fun q => q.2.b)] := m
  show runD 5 (m__law_make_b (m__law_make n)) _ = _
  unfold m__law_make_b
  simp [startD, apD, h1, h2, itE, oLc, l8, z, m]
theorem make_meet (hq : ∀ q ∈ qs, TrB n q.1 q.2.b) (hj : j ≤ 8) (hp : Parts j (qs.map (·.2))) (s : Small (qs.map (·.2))) : TrB (n + 1) (.tup [.str "meet", .lst (qs.map (·.1))]) (.ins 11 [.tup ((qs.map (·.2)).map (·.b))]) := by
  have h1 : ¬ (("meet" : Str) = "none") := by decide +kernel
  have h2 : ¬ (("meet" : Str) = "row") := by decide +kernel
  have h3 : ¬ (("meet" : Str) = "join") := by decide +kernel
  have l8 : qs.length ≤ 100000 := by have := s.hl; simp at this; omega
  have z := lc_make (n := n) (ρ := [.val (.tup [.str "meet", .lst (qs.map (·.1))]), .val (.str "meet"), .val (.lst (qs.map (·.1))), .un, .un]) (fun d => by simp [apD]) qs hq
  have m := met_made hj hp s
  rw [List.map_map] at m ⊢
  have m : i_Met [.lst (qs.map fun q => q.2.b)] = some [.tup (qs.map fun q => q.2.b)] := m
  show runD 5 (m__law_make_b (m__law_make n)) _ = _
  unfold m__law_make_b
  simp [startD, apD, h1, h2, h3, itE, oLc, l8, z, m]
end
end DL
set_option maxRecDepth 100000
set_option exponentiation.threshold 2000
namespace DL
open PySem L2
section
variable {n j : Nat}
theorem make_less {t t' : D} {p q : Part} (ht : TrB n t p.b) (ht' : TrB n t' q.b) (hj : j ≤ 8) (hp : Parts j [p, q]) (s : Small [p, q]) : TrB (n + 1) (.tup [.str "less", .lst [t, t']]) (.ins 12 [p.b, q.b]) := by
  have h1 : ¬ (("less" : Str) = "none") := by decide +kernel
  have h2 : ¬ (("less" : Str) = "row") := by decide +kernel
  have h3 : ¬ (("less" : Str) = "join") := by decide +kernel
  have h4 : ¬ (("less" : Str) = "meet") := by decide +kernel
  have z := lc_make (n := n) (ρ := [.val (.tup [.str "less", .lst [t, t']]), .val (.str "less"), .val (.lst [t, t']), .un, .un]) (fun d => by simp [apD]) [(t, p), (t', q)] (by simp [ht, ht'])
  have m := less_made hj hp s
  have i0 : L2.atI [p.b, q.b] 0 = some p.b := rfl
  have i1 : L2.atI [p.b, q.b] 1 = some q.b := rfl
  simp only [List.map_cons, List.map_nil] at z
  show runD 5 (m__law_make_b (m__law_make n)) [.tup [.str "less", .lst [t, t']]] = some (.ins 12 [p.b, q.b])
  unfold m__law_make_b
  simp [startD, apD, h1, h2, h3, h4, itE, oLc, z, m, opIx, i0, i1]
theorem make_turn {t : D} {p : Part} (ht : TrB n t p.b) (hj : j ≤ 8) (hp : Parts j [p]) (s : Small [p]) : TrB (n + 1) (.tup [.str "turn", .lst [t]]) (.ins 13 [p.b]) := by
  have h1 : ¬ (("turn" : Str) = "none") := by decide +kernel
  have h2 : ¬ (("turn" : Str) = "row") := by decide +kernel
  have h3 : ¬ (("turn" : Str) = "join") := by decide +kernel
  have h4 : ¬ (("turn" : Str) = "meet") := by decide +kernel
  have h5 : ¬ (("turn" : Str) = "less") := by decide +kernel
  have z := lc_make (n := n) (ρ := [.val (.tup [.str "turn", .lst [t]]), .val (.str "turn"), .val (.lst [t]), .un, .un]) (fun d => by simp [apD]) [(t, p)] (by simp [ht])
  have m := turned_made hj hp s
  have i0 : L2.atI [p.b] 0 = some p.b := rfl
  simp only [List.map_cons, List.map_nil] at z
  show runD 5 (m__law_make_b (m__law_make n)) [.tup [.str "turn", .lst [t]]] = some (.ins 13 [p.b])
  unfold m__law_make_b
  simp [startD, apD, h1, h2, h3, h4, h5, itE, oLc, z, m, opIx, i0]
/-- a tree's rows -/
def TrR (n : Nat) (t : D) (rs : List D) : Prop := m__law_rows n [t] = some (.lst rs)
theorem rows_row {d : D} {t : D} : TrR (n + 1) (.tup [.str "row", .lst [d, t]]) [d] := by
  have i0 : L2.atI [D.str "row", D.lst [d, t]] 0 = some (D.str "row") := rfl
  have i1 : L2.atI [D.str "row", D.lst [d, t]] 1 = some (D.lst [d, t]) := rfl
  have sl : opSl (.lst [d, t]) none (some 1) = some (.lst [d]) := rfl
  show runD 3 (m__law_rows_b (m__law_rows n)) [.tup [.str "row", .lst [d, t]]] = some (.lst [d])
  unfold m__law_rows_b
  simp [startD, apD, opIx, i0, i1, sl]
theorem rows_fold {w : Str} (h : ¬ w = "row") {ts : List (D × List D)} (ht : ∀ q ∈ ts, TrR n q.1 q.2) (hl : (ts.map fun q => q.2.length).sum ≤ 1000) : TrR (n + 1) (.tup [.str w, .lst (ts.map (·.1))]) (ts.map (·.2)).flatten := by
  have i0 : L2.atI [D.str w, D.lst (ts.map (·.1))] 0 = some (D.str w) := rfl
  have i1 : L2.atI [D.str w, D.lst (ts.map (·.1))] 1 = some (D.lst (ts.map (·.1))) := rfl
  obtain ⟨ρ', e, qs, rs, x, hq, _, hf, _, rfl⟩ := for_ind (T := tgN 2) (B := sAsg (dOp opAdd (dVar 1) (dCall 1 (m__law_rows n) (aCons (dVar 2) aNil))) (tgN 1))
    (fun ds ρ => ∃ (qs : List (D × List D)) (rs : List D) (x : S3), ds = qs.map (·.1) ∧ (∀ q ∈ qs, TrR n q.1 q.2) ∧ rs ++ (qs.map (·.2)).flatten = (ts.map (·.2)).flatten ∧ rs.length + (qs.map fun q => q.2.length).sum ≤ 1000 ∧ ρ = [.val (.tup [.str w, .lst (ts.map (·.1))]), .val (.lst rs), x]) (by
      rintro d ds ρ ⟨qs, rs, x, hq, hP, hf, hl, rfl⟩
      cases qs with
      | nil => cases hq
      | cons q qs =>
        rw [List.map_cons] at hq
        obtain ⟨rfl, rfl⟩ := List.cons.inj hq
        have e : m__law_rows n [q.1] = some (.lst q.2) := hP q (List.mem_cons_self ..)
        simp only [List.map_cons, List.sum_cons] at hl
        have l1 : rs.length + q.2.length ≤ 100000 := by omega
        refine ⟨_, [.val (.tup [.str w, .lst (ts.map (·.1))]), .val (.lst (rs ++ q.2)), .val q.1], rfl, by simp [apD, e, opAdd, l1], qs, rs ++ q.2, _, rfl, fun r hr => hP r (List.mem_cons_of_mem _ hr), by rw [← hf]; simp, by simp; omega, rfl⟩) (ts.map (·.1)) [.val (.tup [.str w, .lst (ts.map (·.1))]), .val (.lst []), .un] ⟨ts, [], .un, rfl, ht, rfl, by simpa using hl, rfl⟩
  cases qs with
  | cons q qs => cases hq
  | nil =>
    simp only [List.map_nil, List.flatten_nil, List.append_nil] at hf
    subst hf
    show runD 3 (m__law_rows_b (m__law_rows n)) [.tup [.str w, .lst (ts.map (·.1))]] = _
    unfold m__law_rows_b
    simp [startD, apD, opIx, i0, i1, h, itE, e]
end
end DL
set_option maxRecDepth 100000
set_option exponentiation.threshold 2000
namespace DL
open PySem L2
/-! ### the word -/
structure T3 where
  mo : Bool
  le : Bool
  bo : Bool
def st3 (s : T3) (q : Int × Int) : T3 := ⟨s.mo || !decide (bA q.1 q.2 = q.1), s.le || !decide (bA q.1 q.2 = q.2), s.bo || decide (bA q.1 q.2 > 0)⟩
def kind3 (A B : Ms) (s : T3) (k : Nat) : T3 := ((A k).zip (B k)).foldl st3 s
def all3 (A B : Ms) : T3 := (List.range 91).foldl (kind3 A B) ⟨false, false, false⟩
def wordOf (s : T3) : Str := if s.mo = false then (if s.le = false then "alike" else "within") else if s.le = false then "around" else if s.bo = false then "apart" else "across"
theorem zip_pairs {a b : List Int} : zipD (intD a) (intD b) = (a.zip b).map fun q => .tup [.int q.1, .int q.2] := by
  unfold zipD intD
  rw [List.zip_map, List.map_map]
  rfl
theorem rng_nat {n : Nat} : rngD 0 n = (List.range n).map fun k : Nat => .int k := by
  unfold rngD
  apply List.map_congr_left
  intro k _
  simp
section
variable {x y : D} {A B : Ms}
abbrev bl3 (s : T3) (r : Sl) : Sl := .val (.bl s.mo) :: .val (.bl s.le) :: .val (.bl s.bo) :: r
theorem law_in {s : T3} {k : D} {u v : S3} (ps : List (Int × Int)) : ∃ u' v', forD (tgT [6, 7]) (sSeq (sAsg (dOr (dVar 2) (dOp opNe (dOp opAnd (dVar 6) (dVar 7)) (dVar 6))) (tgN 2)) (sSeq (sAsg (dOr (dVar 3) (dOp opNe (dOp opAnd (dVar 6) (dVar 7)) (dVar 7))) (tgN 3)) (sAsg (dOr (dVar 4) (dOp opGt (dOp opAnd (dVar 6) (dVar 7)) (dC (.int 0)))) (tgN 4))))
    (ps.map fun q => .tup [.int q.1, .int q.2]) (.val x :: .val y :: bl3 s [.val k, u, v]) = some (.nx (.val x :: .val y :: bl3 (ps.foldl st3 s) [.val k, u', v'])) := by
  induction ps generalizing s u v with
  | nil => exact ⟨u, v, rfl⟩
  | cons q ps ih =>
    obtain ⟨u', v', e⟩ := ih (s := st3 s q) (u := .val (.int q.1)) (v := .val (.int q.2))
    refine ⟨u', v', ?_⟩
    rw [List.map_cons]
    unfold forD
    rw [List.foldl_cons, ← e]
    obtain ⟨a, b, c⟩ := s
    cases a <;> cases b <;> cases c <;> simp [apD, st3]
theorem ag_in {s : T3} {k : D} {u v w : S3} (ps : List (Int × Int)) : ∃ u' v' w', forD (tgT [6, 7]) (sSeq (sAsg (dOp opAnd (dVar 6) (dVar 7)) (tgN 8)) (sSeq (sAsg (dOr (dVar 2) (dOp opNe (dVar 8) (dVar 6))) (tgN 2)) (sSeq (sAsg (dOr (dVar 3) (dOp opNe (dVar 8) (dVar 7))) (tgN 3)) (sAsg (dOr (dVar 4) (dOp opGt (dVar 8) (dC (.int 0)))) (tgN 4)))))
    (ps.map fun q => .tup [.int q.1, .int q.2]) (.val x :: .val y :: bl3 s [.val k, u, v, w]) = some (.nx (.val x :: .val y :: bl3 (ps.foldl st3 s) [.val k, u', v', w'])) := by
  induction ps generalizing s u v w with
  | nil => exact ⟨u, v, w, rfl⟩
  | cons q ps ih =>
    obtain ⟨u', v', w', e⟩ := ih (s := st3 s q) (u := .val (.int q.1)) (v := .val (.int q.2)) (w := .val (.int (bA q.1 q.2)))
    refine ⟨u', v', w', ?_⟩
    rw [List.map_cons]
    unfold forD
    rw [List.foldl_cons, ← e]
    obtain ⟨a, b, c⟩ := s
    cases a <;> cases b <;> cases c <;> simp [apD, st3]
theorem law_word_ok (hA : TrM 8 x A) (hB : TrM 8 y B) : m__law_word [x, y] = some (.str (wordOf (all3 A B))) := by
  obtain ⟨ρ', e, ks, s, p, u, v, hk, hin, hf, rfl⟩ := for_ind (T := tgN 5) (B := sFor (itZip (aCons (dCall 2 (m__law_masks 8) (aCons (dVar 0) (aCons (dVar 5) aNil))) (aCons (dCall 2 (m__law_masks 8) (aCons (dVar 1) (aCons (dVar 5) aNil))) aNil))) (tgT [6, 7]) (sSeq (sAsg (dOr (dVar 2) (dOp opNe (dOp opAnd (dVar 6) (dVar 7)) (dVar 6))) (tgN 2)) (sSeq (sAsg (dOr (dVar 3) (dOp opNe (dOp opAnd (dVar 6) (dVar 7)) (dVar 7))) (tgN 3)) (sAsg (dOr (dVar 4) (dOp opGt (dOp opAnd (dVar 6) (dVar 7)) (dC (.int 0)))) (tgN 4)))))
    (fun ds ρ => ∃ (ks : List Nat) (s : T3) (p u v : S3), ds = ks.map (fun k : Nat => .int k) ∧ (∀ k ∈ ks, k < 91) ∧ ks.foldl (kind3 A B) s = all3 A B ∧ ρ = .val x :: .val y :: bl3 s [p, u, v]) (by
      rintro d ds ρ ⟨ks, s, p, u, v, hk, hin, hf, rfl⟩
      cases ks with
      | nil => cases hk
      | cons k ks =>
        rw [List.map_cons] at hk
        obtain ⟨rfl, rfl⟩ := List.cons.inj hk
        have h91 := hin k (List.mem_cons_self ..)
        obtain ⟨u', v', e⟩ := law_in (x := x) (y := y) (s := s) (k := .int k) (u := u) (v := v) ((A k).zip (B k))
        refine ⟨_, .val x :: .val y :: bl3 (kind3 A B s k) [.val (.int k), u', v'], rfl, ?_, ks, _, _, _, _, rfl, fun r hr => hin r (List.mem_cons_of_mem _ hr), hf, rfl⟩
        rw [← zip_pairs] at e
        simp [apD, hA k h91, hB k h91, itZip, e, kind3]) ((List.range 91).map fun k : Nat => .int k) (.val x :: .val y :: bl3 ⟨false, false, false⟩ [.un, .un, .un]) ⟨List.range 91, _, _, _, _, rfl, fun k hk => List.mem_range.mp hk, rfl, rfl⟩
  cases ks with
  | cons k ks => cases hk
  | nil =>
    have hf : s = all3 A B := hf
    rw [← hf]
    rw [← rng_nat] at e
    unfold m__law_word m__law_word_b
    simp [startD, apD, itR1, e]
    obtain ⟨a, b, c⟩ := s
    cases a <;> cases b <;> cases c <;> rfl
end
end DL
set_option maxRecDepth 100000
set_option exponentiation.threshold 2000
namespace DL
open PySem L2
section
variable {x y : D} {A B : Ms}
theorem against_ok {n n' : Nat} {ta da tb db : Int} (ha : Bk x n A ta da) (hb : Bk y n' B tb db) (hn : n ≤ 8) (hn' : n' ≤ 8) : m_against [x, y] = some (.str (wordOf (all3 A B))) := by
  have hA : ∀ k : Nat, k < 91 → bm (T_on_days 8) x [.int k] = some (.lst (intD (A k))) := fun k hk => ha.on 8 hn k hk
  have hB : ∀ k : Nat, k < 91 → bm (T_on_days 8) y [.int k] = some (.lst (intD (B k))) := fun k hk => hb.on 8 hn' k hk
  obtain ⟨c, fs, rfl, _, _⟩ := ha.cl
  obtain ⟨c', fs', rfl, _, _⟩ := hb.cl
  unfold bm at hA hB
  dsimp only at hA hB
  obtain ⟨ρ', e, ks, s, p, u, v, w, hk, hin, hf, rfl⟩ := for_ind (T := tgN 5) (B := sFor (itZip (aCons (dMeth 1 (T_on_days 8) (dVar 0) (aCons (dVar 5) aNil)) (aCons (dMeth 1 (T_on_days 8) (dVar 1) (aCons (dVar 5) aNil)) aNil))) (tgT [6, 7]) (sSeq (sAsg (dOp opAnd (dVar 6) (dVar 7)) (tgN 8)) (sSeq (sAsg (dOr (dVar 2) (dOp opNe (dVar 8) (dVar 6))) (tgN 2)) (sSeq (sAsg (dOr (dVar 3) (dOp opNe (dVar 8) (dVar 7))) (tgN 3)) (sAsg (dOr (dVar 4) (dOp opGt (dVar 8) (dC (.int 0)))) (tgN 4))))))
    (fun ds ρ => ∃ (ks : List Nat) (s : T3) (p u v w : S3), ds = ks.map (fun k : Nat => .int k) ∧ (∀ k ∈ ks, k < 91) ∧ ks.foldl (kind3 A B) s = all3 A B ∧ ρ = .val (.ins c fs) :: .val (.ins c' fs') :: bl3 s [p, u, v, w]) (by
      rintro d ds ρ ⟨ks, s, p, u, v, w, hk, hin, hf, rfl⟩
      cases ks with
      | nil => cases hk
      | cons k ks =>
        rw [List.map_cons] at hk
        obtain ⟨rfl, rfl⟩ := List.cons.inj hk
        have h91 := hin k (List.mem_cons_self ..)
        obtain ⟨u', v', w', e⟩ := ag_in (x := .ins c fs) (y := .ins c' fs') (s := s) (k := .int k) (u := u) (v := v) (w := w) ((A k).zip (B k))
        refine ⟨_, .val (.ins c fs) :: .val (.ins c' fs') :: bl3 (kind3 A B s k) [.val (.int k), u', v', w'], rfl, ?_, ks, _, _, _, _, _, rfl, fun r hr => hin r (List.mem_cons_of_mem _ hr), hf, rfl⟩
        rw [← zip_pairs] at e
        simp [apD, hA k h91, hB k h91, itZip, e, kind3]) ((List.range 91).map fun k : Nat => .int k) (.val (.ins c fs) :: .val (.ins c' fs') :: bl3 ⟨false, false, false⟩ [.un, .un, .un, .un]) ⟨List.range 91, _, _, _, _, _, rfl, fun k hk => List.mem_range.mp hk, rfl, rfl⟩
  cases ks with
  | cons k ks => cases hk
  | nil =>
    have hf : s = all3 A B := hf
    rw [← hf]
    rw [← rng_nat] at e
    unfold m_against m_against_b
    simp [startD, apD, itR1, e]
    obtain ⟨a, b, c⟩ := s
    cases a <;> cases b <;> cases c <;> rfl
/-! both ways round -/
def flip3 (s : T3) : T3 := ⟨s.le, s.mo, s.bo⟩
theorem flip_in : ∀ (a b : List Int) (s : T3), (b.zip a).foldl st3 (flip3 s) = flip3 ((a.zip b).foldl st3 s)
  | [], b, s => by simp
  | _ :: _, [], s => by simp
  | p :: a, q :: b, s => by
    rw [List.zip_cons_cons, List.zip_cons_cons, List.foldl_cons, List.foldl_cons, ← flip_in a b]
    congr 1
    unfold st3 flip3
    have e : bA q p = bA p q := PyProof.Rows.bitAnd_comm q p
    simp [e]
theorem flip_all : all3 B A = flip3 (all3 A B) := by
  unfold all3
  have : ∀ (ks : List Nat) (s : T3), ks.foldl (kind3 B A) (flip3 s) = flip3 (ks.foldl (kind3 A B) s) := by
    intro ks
    induction ks with
    | nil => intro s; rfl
    | cons k ks ih =>
      intro s
      rw [List.foldl_cons, List.foldl_cons, ← ih]
      congr 1
      exact flip_in (A k) (B k) s
  exact this (List.range 91) ⟨false, false, false⟩
theorem same_in : ∀ (a : List Int) (s : T3), s.mo = false → s.le = false → ((a.zip a).foldl st3 s).mo = false ∧ ((a.zip a).foldl st3 s).le = false
  | [], s, h, h' => ⟨h, h'⟩
  | p :: a, s, h, h' => by
    rw [List.zip_cons_cons, List.foldl_cons]
    have e : bA p p = p := PyProof.Rows.bitAnd_self p
    exact same_in a _ (by simp [st3, h, e]) (by simp [st3, h', e])
theorem same_all : wordOf (all3 A A) = "alike" := by
  have : ∀ (ks : List Nat) (s : T3), s.mo = false → s.le = false → (ks.foldl (kind3 A A) s).mo = false ∧ (ks.foldl (kind3 A A) s).le = false := by
    intro ks
    induction ks with
    | nil => intro s h h'; exact ⟨h, h'⟩
    | cons k ks ih =>
      intro s h h'
      obtain ⟨q, q'⟩ := same_in (A k) s h h'
      exact ih _ q q'
  obtain ⟨h, h'⟩ := this (List.range 91) ⟨false, false, false⟩ rfl rfl
  unfold wordOf
  rw [show (all3 A A).mo = false from h, show (all3 A A).le = false from h']
  rfl
end
end DL
set_option maxRecDepth 100000
namespace DL
open PySem L2
/-! ### texts split -/
def jl (c : Nat) : List (List Nat) → List Nat
  | [] => []
  | [w] => w
  | w :: ws => w ++ c :: jl c ws
theorem cut_inj {c : Nat} : ∀ {w v A B : List Nat}, c ∉ w → c ∉ v → w ++ c :: A = v ++ c :: B → w = v ∧ A = B
  | [], [], A, B, _, _, e => ⟨rfl, (List.cons.inj e).2⟩
  | [], x :: v, A, B, _, h, e => (h (by rw [(List.cons.inj e).1]; exact List.mem_cons_self ..)).elim
  | x :: w, [], A, B, h, _, e => (h (by rw [← (List.cons.inj e).1]; exact List.mem_cons_self ..)).elim
  | x :: w, y :: v, A, B, h, h', e => by
    obtain ⟨e1, e2⟩ := List.cons.inj e
    obtain ⟨r1, r2⟩ := cut_inj (fun z => h (List.mem_cons_of_mem _ z)) (fun z => h' (List.mem_cons_of_mem _ z)) e2
    exact ⟨by rw [e1, r1], r2⟩
theorem no_cut {c : Nat} {w v B : List Nat} (h : c ∉ w) (e : w = v ++ c :: B) : False := h (by rw [e]; simp)
theorem jl_inj {c : Nat} : ∀ {ws vs : List (List Nat)}, ws ≠ [] → vs ≠ [] → (∀ w ∈ ws, c ∉ w) → (∀ w ∈ vs, c ∉ w) → jl c ws = jl c vs → ws = vs
  | [], _, h, _, _, _, _ => (h rfl).elim
  | _, [], _, h, _, _, _ => (h rfl).elim
  | [w], [v], _, _, _, _, e => by rw [show w = v from e]
  | [w], v :: v' :: vs, _, _, h, _, e => (no_cut (h w (List.mem_cons_self ..)) e).elim
  | w :: w' :: ws, [v], _, _, _, h, e => (no_cut (h v (List.mem_cons_self ..)) e.symm).elim
  | w :: w' :: ws, v :: v' :: vs, _, _, h, h', e => by
    obtain ⟨e1, e2⟩ := cut_inj (h w (List.mem_cons_self ..)) (h' v (List.mem_cons_self ..)) e
    rw [e1, jl_inj (by simp) (by simp) (fun x hx => h x (List.mem_cons_of_mem _ hx)) (fun x hx => h' x (List.mem_cons_of_mem _ hx)) e2]
theorem join_jl (c : Nat) : ∀ ws : List Str, (Str.join ⟨#[c]⟩ ws).cps.toList = jl c (ws.map fun w => w.cps.toList)
  | [] => rfl
  | [w] => rfl
  | w :: w' :: ws => by
    have ih := join_jl c (w' :: ws)
    show ((w.cps ++ #[c]) ++ (Str.join ⟨#[c]⟩ (w' :: ws)).cps).toList = w.cps.toList ++ c :: jl c ((w' :: ws).map fun w => w.cps.toList)
    rw [Array.toList_append, Array.toList_append, ih]
    simp
theorem str_ext {x y : Str} (h : x.cps.toList = y.cps.toList) : x = y := by
  cases x with | mk a => cases y with | mk b => exact congrArg Str.mk (Array.toList_inj.mp h)
/-- a text that was joined, split again -/
theorem split_join {c : Nat} {ws : List Str} (h0 : ws ≠ []) (h : ∀ w ∈ ws, c ∉ w.cps.toList) : Txt.split (Str.join ⟨#[c]⟩ ws) ⟨#[c]⟩ = ws := by
  have e1 := PySem.StrLaws.join_split (Str.join ⟨#[c]⟩ ws) ⟨#[c]⟩
  have e2 := PySem.StrLaws.split_free (Str.join ⟨#[c]⟩ ws) c
  have n0 : Txt.split (Str.join ⟨#[c]⟩ ws) ⟨#[c]⟩ ≠ [] := fun z => by
    have := PyProof.Rows.split_pos (Str.join ⟨#[c]⟩ ws) ⟨#[c]⟩
    rw [z] at this
    simp at this
  have e3 := congrArg (fun s : Str => s.cps.toList) e1
  rw [join_jl, join_jl] at e3
  have e4 := jl_inj (by simpa using n0) (by simpa using h0) (fun w hw => by
    obtain ⟨p, hp, rfl⟩ := List.mem_map.mp hw
    exact e2 p hp) (fun w hw => by
    obtain ⟨p, hp, rfl⟩ := List.mem_map.mp hw
    exact h p hp) e3
  exact List.map_inj_right (fun _ _ q => str_ext q) |>.mp e4
end DL
namespace DL
open PySem L2
set_option maxRecDepth 100000
def dec (n : Nat) : Str := Str.ofString (toString (n : Int))
theorem dec_free : ((List.range 60).all fun n => (dec n).cps.toList.all fun c => decide (48 ≤ c ∧ c ≤ 57)) = true := by decide +kernel
def isOne (o : Option D) (n : Nat) : Bool := match o with
  | some (.lst [.int i]) => decide (i = n)
  | _ => false
theorem num_min : ((List.range 60).all fun n => isOne (m_number_in [.str (dec n), .int 0, .int 59]) n) = true := by decide +kernel
end DL
set_option maxRecDepth 100000
namespace DL
open PySem L2
/-! ### masks of numbers -/
theorem or_ge {x y : Int} (hx : 0 ≤ x) (hy : 0 ≤ y) : y ≤ bO x y := by
  rw [or_pp hx hy]
  have := @Nat.right_le_or x.toNat y.toNat
  omega
theorem mask_of_ok {K : Nat} (hK : K ≤ 64) {ds : List D} (hd : intsIn 0 K ds) (h0 : ds ≠ []) : ∃ m, m_mask_of [.lst ds] = some (.int m) ∧ 0 < m ∧ m < 2 ^ K := by
  obtain ⟨ρ', e, t, x, _, rfl, t0, t1, tp⟩ := for_ind (T := tgN 2) (B := sAsg (dOp opOr (dVar 1) (dOp opShl (dC (.int 1)) (dVar 2))) (tgN 1))
    (fun qs ρ => ∃ (t : Int) (x : S3), intsIn 0 K qs ∧ ρ = [.val (.lst ds), .val (.int t), x] ∧ 0 ≤ t ∧ t < 2 ^ K ∧ (0 < t ∨ qs ≠ [])) (by
      rintro d qs ρ ⟨t, x, hq, rfl, t0, t1, tp⟩
      obtain ⟨i, rfl, i0, i1⟩ := hq d (List.mem_cons_self ..)
      have s0 : (0 : Int) < 2 ^ i.toNat := PySem.W.kbt_pos _
      have s1 : (2 : Int) ^ i.toNat < 2 ^ K := by
        have := Nat.pow_lt_pow_right (a := 2) (by decide) (show i.toNat < K by omega)
        have c1 := PySem.W.kbt_cast i.toNat
        have c2 := PySem.W.kbt_cast K
        omega
      obtain ⟨r0, r1⟩ := or_rng (k := K) t0 (Int.le_of_lt s0) t1 s1
      have rg := or_ge t0 (Int.le_of_lt s0)
      have q3 : i ≤ 1000000 := by omega
      exact ⟨_, [.val (.lst ds), .val (.int (bO t (2 ^ i.toNat))), .val (.int i)], rfl, by simp [apD, i0, q3], _, _, fun r hr => hq r (List.mem_cons_of_mem _ hr), rfl, r0, r1, .inl (by omega)⟩) ds [.val (.lst ds), .val (.int 0), .un] ⟨0, .un, hd, rfl, Int.le_refl _, PySem.W.kbt_pos _, .inr h0⟩
  refine ⟨t, ?_, ?_, t1⟩
  · unfold m_mask_of m_mask_of_b
    simp [startD, apD, itE, e]
  · rcases tp with h | h
    · exact h
    · exact absurd rfl h
end DL
set_option maxRecDepth 100000
namespace DL
open PySem L2
theorem num_hour : ((List.range 24).all fun n => isOne (m_number_in [.str (dec n), .int 0, .int 23]) n) = true := by decide +kernel
theorem num_month : ((List.range 13).all fun n => n == 0 || isOne (m_number_in [.str (dec n), .int 1, .int 12]) n) = true := by decide +kernel
theorem num_by : ((List.range 10).all fun n => n == 0 || isOne (m_number_in [.str (dec n), .int 1, .int 99]) n) = true := by decide +kernel
theorem isOne_ok {o : Option D} {n : Nat} (h : isOne o n = true) : o = some (.lst [.int n]) := by
  unfold isOne at h
  split at h
  · rw [of_decide_eq_true h]
  · cases h
/-- figures that a field's numbers are written in -/
def NumOk (lo hi : Int) (n : Nat) : Prop := m_number_in [.str (dec n), .int lo, .int hi] = some (.lst [.int n])
/-- no sign of these -/
def Free (c : Nat) (x : Str) : Prop := c ∉ x.cps.toList
theorem dec_no {c n : Nat} (hn : n < 60) (hc : ¬ (48 ≤ c ∧ c ≤ 57)) : Free c (dec n) := fun h => by
  have := List.all_eq_true.mp (List.all_eq_true.mp dec_free n (List.mem_range.mpr hn)) c h
  exact hc (of_decide_eq_true this)
end DL
set_option maxRecDepth 100000
namespace DL
open PySem L2
theorem sep_dash : ("-" : Str) = ⟨#[45]⟩ := by decide +kernel
theorem sep_slash : ("/" : Str) = ⟨#[47]⟩ := by decide +kernel
theorem sep_comma : ("," : Str) = ⟨#[44]⟩ := by decide +kernel
theorem sep_blank : (" " : Str) = ⟨#[32]⟩ := by decide +kernel
theorem sep_hash : ("#" : Str) = ⟨#[35]⟩ := by decide +kernel
theorem split1 {c : Nat} {x : Str} (h : Free c x) : Txt.split x ⟨#[c]⟩ = [x] := split_join (ws := [x]) (by simp) (fun w hw => by rw [List.mem_singleton] at hw; subst hw; exact h)
theorem split2 {c : Nat} {x y : Str} (h : Free c x) (h' : Free c y) : Txt.split (x ++ ⟨#[c]⟩ ++ y) ⟨#[c]⟩ = [x, y] := split_join (ws := [x, y]) (by simp) (by
  intro w hw
  simp only [List.mem_cons, List.not_mem_nil, or_false] at hw
  rcases hw with rfl | rfl
  · exact h
  · exact h')
theorem free_app {c : Nat} {x y : Str} (h : Free c x) (h' : Free c y) : Free c (x ++ y) := by
  unfold Free at *
  show c ∉ (x.cps ++ y.cps).toList
  rw [Array.toList_append, List.mem_append]
  exact fun z => z.elim h h'
end DL
set_option maxRecDepth 100000
namespace DL
open PySem L2
/-! ### spans -/
theorem span_star {lo hi : Int} : m_span_in [.str "*", .int lo, .int hi] = some [.int lo, .int hi] := by
  unfold m_span_in m_span_in_b
  simp [startD]
theorem span_one {lo hi : Int} {n : Nat} (hn : n < 60) (h : NumOk lo hi n) : m_span_in [.str (dec n), .int lo, .int hi] = some [.int n, .int n] := by
  have ns : ¬ dec n = "*" := fun z => dec_no (c := 42) hn (by decide) (by rw [z]; decide)
  have sp := split1 (dec_no (c := 45) hn (by decide))
  have l1 : (dec n).length ≤ 100000 := by
    have : ((List.range 60).all fun n => decide ((dec n).length ≤ 100000)) = true := by decide +kernel
    exact of_decide_eq_true (List.all_eq_true.mp this n (List.mem_range.mpr hn))
  unfold NumOk at h
  have d1 : opInDeep (.lst []) (.lst [.lst [.int n]]) = some (.bl false) := by rfl
  unfold m_span_in m_span_in_b
  have sl : (({ cps := #[45] } : Str).length = 0) = False := by decide
  simp [startD, apD, ns, bSplit, sep_dash, sp, sl, l1, itE, oLc, lcD, tTrue, h, bLen, d1, opIx, L2.atI, show ixN 1 0 = some 0 from rfl, show ixN 1 (-1) = some 0 from rfl]
theorem dec_len {n : Nat} (hn : n < 60) : (dec n).length ≤ 2 := by
  have : ((List.range 60).all fun n => decide ((dec n).length ≤ 2)) = true := by decide +kernel
  exact of_decide_eq_true (List.all_eq_true.mp this n (List.mem_range.mpr hn))
theorem len_app {x y : Str} : (x ++ y).length = x.length + y.length := by
  show (x.cps ++ y.cps).size = _
  rw [Array.size_append]
  rfl
theorem span_two {lo hi : Int} {a b : Nat} (ha : a < 60) (hb : b < 60) (hab : a ≤ b) (h : NumOk lo hi a) (h' : NumOk lo hi b) : m_span_in [.str (dec a ++ "-" ++ dec b), .int lo, .int hi] = some [.int a, .int b] := by
  have ns : ¬ dec a ++ "-" ++ dec b = "*" := fun z => free_app (c := 42) (free_app (dec_no ha (by decide)) (show Free 42 "-" by unfold Free; decide)) (dec_no hb (by decide)) (by rw [z]; decide)
  have sp := split2 (dec_no (c := 45) ha (by decide)) (dec_no (c := 45) hb (by decide))
  have l1 : (dec a ++ "-" ++ dec b).length ≤ 100000 := by
    rw [len_app, len_app]
    have := dec_len ha
    have := dec_len hb
    have : ("-" : Str).length = 1 := by decide
    omega
  unfold NumOk at h h'
  rw [sep_dash] at ns l1
  have d1 : opInDeep (.lst []) (.lst [.lst [.int a], .lst [.int b]]) = some (.bl false) := by rfl
  have sl : (({ cps := #[45] } : Str).length = 0) = False := by decide
  have hab' : ¬ ((b : Int) < a) := by omega
  unfold m_span_in m_span_in_b
  simp [startD, apD, ns, bSplit, sep_dash, sp, sl, l1, itE, oLc, lcD, tTrue, h, h', bLen, d1, opIx, L2.atI, show ixN 1 0 = some 0 from rfl, show ixN 2 0 = some 0 from rfl, show ixN 2 (-1) = some 1 from rfl, hab']
end DL
set_option maxRecDepth 100000
namespace DL
open PySem L2
/-! ### loops that may return -/
theorem for_out {T : TgD} {B : DS} (P : List D → Sl → Prop) (Q : D → Prop) (step : ∀ d ds ρ, P (d :: ds) ρ → ∃ l, T d = some l ∧ ((∃ ρ', B (apD ρ l) = some (.nx ρ') ∧ P ds ρ') ∨ ∃ x, B (apD ρ l) = some (.rt x) ∧ Q x)) :
    ∀ (ds : List D) (ρ : Sl), P ds ρ → (∃ ρ', forD T B ds ρ = some (.nx ρ') ∧ P [] ρ') ∨ ∃ x, forD T B ds ρ = some (.rt x) ∧ Q x
  | [], ρ, h => .inl ⟨ρ, rfl, h⟩
  | d :: ds, ρ, h => by
    obtain ⟨l, e1, h⟩ := step d ds ρ h
    rcases h with ⟨ρ1, e2, h1⟩ | ⟨x, e2, q⟩
    · rcases for_out P Q step ds ρ1 h1 with ⟨ρ2, e3, h2⟩ | ⟨x, e3, q⟩
      · refine .inl ⟨ρ2, ?_, h2⟩
        unfold forD
        rw [e1]
        simp only [Option.bind_some, e2, e3]
      · refine .inr ⟨x, ?_, q⟩
        unfold forD
        rw [e1]
        simp only [Option.bind_some, e2, e3]
    · refine .inr ⟨x, ?_, q⟩
      unfold forD
      rw [e1]
      simp only [Option.bind_some, e2]
/-! ### figures -/
def isFig (c : Nat) : Prop := 48 ≤ c ∧ c ≤ 57
instance {c : Nat} : Decidable (isFig c) := inferInstanceAs (Decidable (_ ∧ _))
theorem figs_list : ("0123456789" : Str).cps.toList = [48, 49, 50, 51, 52, 53, 54, 55, 56, 57] := by decide +kernel
theorem fig_in {c : Nat} : c ∈ ("0123456789" : Str).cps.toList ↔ isFig c := by
  rw [figs_list]
  unfold isFig
  simp
  omega
theorem notIn_fig {c : Nat} : opNotIn (.str ⟨#[c]⟩) (.str "0123456789") = some (.bl (!decide (isFig c))) := by
  show (inD _ _).map _ = _
  have e : inD (.str ⟨#[c]⟩) (.str "0123456789") = some (decide (c ∈ ("0123456789" : Str).cps.toList)) := rfl
  rw [e]
  simp only [Option.map_some, fig_in]
theorem only_no {t : Str} {c : Nat} (hc : c ∈ t.cps.toList) (h : ¬ isFig c) : m_only_figures [.str t] = some (.bl false) := by
  rcases for_out (T := tgN 1) (B := sIf (asB (dOp opNotIn (dVar 1) (dC k_FIGURES_wholes))) (sRet (dC (.bl false))) sNil) (fun ds ρ => ∃ (cs : List Nat) (x : S3), ds = cs.map (fun k => .str ⟨#[k]⟩) ∧ c ∈ cs ∧ ρ = [.val (.str t), x]) (fun x => x = .bl false) (by
    rintro d ds ρ ⟨cs, x, hd, hm, rfl⟩
    cases cs with
    | nil => cases hm
    | cons a cs =>
      rw [List.map_cons] at hd
      obtain ⟨rfl, rfl⟩ := List.cons.inj hd
      refine ⟨_, rfl, ?_⟩
      by_cases z : isFig a
      · refine .inl ⟨[.val (.str t), .val (.str ⟨#[a]⟩)], by simp [apD, notIn_fig, z], cs, _, rfl, ?_, rfl⟩
        rcases List.mem_cons.mp hm with e | e
        · subst e; exact (h z).elim
        · exact e
      · exact .inr ⟨.bl false, by simp [apD, notIn_fig, z], rfl⟩) (signsD t) [.val (.str t), .un] ⟨t.cps.toList, .un, rfl, hc, rfl⟩ with ⟨ρ', e, cs, x, h1, h2, _⟩ | ⟨x, e, rfl⟩
  · cases cs with
    | nil => cases h2
    | cons _ _ => cases h1
  · unfold m_only_figures m_only_figures_b
    simp [startD, itE, e]
theorem only_yes {t : Str} (h : ∀ c ∈ t.cps.toList, isFig c) : m_only_figures [.str t] = some (.bl (!decide (t = ""))) := by
  obtain ⟨ρ', e, cs, x, h1, _, rfl⟩ := for_ind (T := tgN 1) (B := sIf (asB (dOp opNotIn (dVar 1) (dC k_FIGURES_wholes))) (sRet (dC (.bl false))) sNil) (fun ds ρ => ∃ (cs : List Nat) (x : S3), ds = cs.map (fun k => .str ⟨#[k]⟩) ∧ (∀ c ∈ cs, isFig c) ∧ ρ = [.val (.str t), x]) (by
    rintro d ds ρ ⟨cs, x, hd, hm, rfl⟩
    cases cs with
    | nil => cases hd
    | cons a cs =>
      rw [List.map_cons] at hd
      obtain ⟨rfl, rfl⟩ := List.cons.inj hd
      have z := hm a (List.mem_cons_self ..)
      exact ⟨_, [.val (.str t), .val (.str ⟨#[a]⟩)], rfl, by simp [apD, notIn_fig, z], cs, _, rfl, fun c hc => hm c (List.mem_cons_of_mem _ hc), rfl⟩) (signsD t) [.val (.str t), .un] ⟨t.cps.toList, .un, rfl, h, rfl⟩
  unfold m_only_figures m_only_figures_b
  simp [startD, itE, e]
/-! ### masks of numbers, just so -/
def maskL (ns : List Int) : Int := ns.foldl (fun m n => bO m (2 ^ n.toNat)) 0
theorem mask_of_eq {ns : List Int} (h : ∀ n ∈ ns, 0 ≤ n ∧ n ≤ 1000000) : m_mask_of [.lst (intD ns)] = some (.int (maskL ns)) := by
  obtain ⟨ρ', e, qs, t, x, hq, _, rfl, ht⟩ := for_ind (T := tgN 2) (B := sAsg (dOp opOr (dVar 1) (dOp opShl (dC (.int 1)) (dVar 2))) (tgN 1))
    (fun ds ρ => ∃ (qs : List Int) (t : Int) (x : S3), ds = intD qs ∧ (∀ n ∈ qs, 0 ≤ n ∧ n ≤ 1000000) ∧ ρ = [.val (.lst (intD ns)), .val (.int t), x] ∧ qs.foldl (fun m n => bO m (2 ^ n.toNat)) t = maskL ns) (by
      rintro d ds ρ ⟨qs, t, x, hq, hb, rfl, ht⟩
      cases qs with
      | nil => cases hq
      | cons i qs =>
        obtain ⟨rfl, rfl⟩ := List.cons.inj hq
        obtain ⟨i0, i1⟩ := hb i (List.mem_cons_self ..)
        exact ⟨_, [.val (.lst (intD ns)), .val (.int (bO t (2 ^ i.toNat))), .val (.int i)], rfl, by simp [apD, i0, i1], qs, _, _, rfl, fun n hn => hb n (List.mem_cons_of_mem _ hn), rfl, ht⟩) (intD ns) [.val (.lst (intD ns)), .val (.int 0), .un] ⟨ns, 0, .un, rfl, h, rfl, rfl⟩
  cases qs with
  | cons _ _ => cases hq
  | nil =>
    have ht : t = maskL ns := ht
    unfold m_mask_of m_mask_of_b
    simp [startD, apD, itE, e, ht]
theorem maskF_rng {K : Nat} : ∀ {ns : List Int} {t : Int}, (∀ n ∈ ns, 0 ≤ n ∧ n < K) → 0 ≤ t → t < 2 ^ K → (0 < t ∨ ns ≠ []) → 0 < ns.foldl (fun m n => bO m (2 ^ n.toNat)) t ∧ ns.foldl (fun m n => bO m (2 ^ n.toNat)) t < 2 ^ K
  | [], t, _, h0, h1, h2 => by
    rcases h2 with h | h
    · exact ⟨h, h1⟩
    · exact absurd rfl h
  | i :: ns, t, h, t0, t1, _ => by
    obtain ⟨i0, i1⟩ := h i (List.mem_cons_self ..)
    have s0 : (0 : Int) < 2 ^ i.toNat := PySem.W.kbt_pos _
    have s1 : (2 : Int) ^ i.toNat < 2 ^ K := by
      have := Nat.pow_lt_pow_right (a := 2) (by decide) (show i.toNat < K by omega)
      have c1 := PySem.W.kbt_cast i.toNat
      have c2 := PySem.W.kbt_cast K
      omega
    obtain ⟨r0, r1⟩ := or_rng (k := K) t0 (Int.le_of_lt s0) t1 s1
    have rg := or_ge t0 (Int.le_of_lt s0)
    rw [List.foldl_cons]
    exact maskF_rng (fun n hn => h n (List.mem_cons_of_mem _ hn)) r0 r1 (.inl (by omega))
theorem maskL_rng {K : Nat} {ns : List Int} (h : ∀ n ∈ ns, 0 ≤ n ∧ n < K) (h0 : ns ≠ []) : 0 < maskL ns ∧ maskL ns < 2 ^ K := maskF_rng h (Int.le_refl _) (PySem.W.kbt_pos _) (.inr h0)
/-- whole numbers from one to another -/
def upto (a b : Int) : List Int := (List.range (b + 1 - a).toNat).map fun k : Nat => a + (k : Int)
def uptoBy (a b s : Int) : List Int := (List.range ((b + 1 - a + s - 1) / s).toNat).map fun k : Nat => a + (k : Int) * s
theorem upto_mem {a b n : Int} (h : n ∈ upto a b) : a ≤ n ∧ n ≤ b := by
  obtain ⟨k, hk, rfl⟩ := List.mem_map.mp h
  have := List.mem_range.mp hk
  omega
theorem uptoBy_mem {a b s n : Int} (hs : 0 < s) (h : n ∈ uptoBy a b s) : a ≤ n ∧ n ≤ b := by
  obtain ⟨k, hk, rfl⟩ := List.mem_map.mp h
  have hk := List.mem_range.mp hk
  have h1 : (k : Int) < (b + 1 - a + s - 1) / s := by omega
  have h2 : ((k : Int) + 1) * s ≤ b + 1 - a + s - 1 := (Int.le_ediv_iff_mul_le hs).mp (by omega)
  have h3 : (0 : Int) ≤ (k : Int) * s := Int.mul_nonneg (by omega) (by omega)
  rw [Int.add_mul] at h2
  omega
theorem upto_ne {a b : Int} (h : a ≤ b) : upto a b ≠ [] := by
  unfold upto
  intro e
  have := congrArg List.length e
  simp at this
  omega
theorem uptoBy_ne {a b s : Int} (hs : 0 < s) (h : a ≤ b) : uptoBy a b s ≠ [] := by
  unfold uptoBy
  intro e
  have := congrArg List.length e
  simp at this
  have q : (1 : Int) ≤ (b + 1 - a + s - 1) / s := (Int.le_ediv_iff_mul_le hs).mpr (by omega)
  omega
end DL
set_option maxRecDepth 100000
namespace DL
open PySem L2
/-! ### items -/
theorem oRange_eq {f g : DE} {ρ : Sl} {a b : Int} (hf : f ρ = some (.int a)) (hg : g ρ = some (.int (b + 1))) (h : -1000 ≤ a ∧ a ≤ 1000 ∧ -1000 ≤ b ∧ b ≤ 1000) : oRange f g ρ = some (intD (upto a b)) := by
  unfold oRange
  rw [hf, hg]
  simp only []
  rw [if_pos (by omega)]
  simp [intD, upto]
theorem oRange3_eq {f g h : DE} {ρ : Sl} {a b s : Int} (hf : f ρ = some (.int a)) (hg : g ρ = some (.int (b + 1))) (hh : h ρ = some (.int s)) (q : -1000 ≤ a ∧ a ≤ 1000 ∧ -1000 ≤ b ∧ b ≤ 1000 ∧ 1 ≤ s ∧ s ≤ 1000) : oRange3 f g h ρ = some (intD (uptoBy a b s)) := by
  unfold oRange3
  rw [hf, hg, hh]
  simp only []
  rw [if_pos (by omega)]
  simp [intD, uptoBy, rngC]
theorem split_plain {c : Nat} {t : Str} (h : Free c t) (hl : t.length ≤ 100000) : bSplit (.str t) (.str ⟨#[c]⟩) = some [.str t] := by
  unfold bSplit
  have sl : (({ cps := #[c] } : Str).length == 0) = false := rfl
  simp only [sl, hl, split1 h, List.map_cons, List.map_nil, true_and, if_true]
theorem split_pair {c : Nat} {x y : Str} (h : Free c x) (h' : Free c y) (hl : (x ++ ⟨#[c]⟩ ++ y : Str).length ≤ 100000) : bSplit (.str (x ++ ⟨#[c]⟩ ++ y)) (.str ⟨#[c]⟩) = some [.str x, .str y] := by
  unfold bSplit
  have sl : (({ cps := #[c] } : Str).length == 0) = false := rfl
  simp only [sl, hl, split2 h h', List.map_cons, List.map_nil, true_and, if_true]
theorem ownNe2 {x y : Int} {i : Nat} {ρ : Sl} (h : ρ[i]? = some (.own [.int x, .int y])) : dOwnEq i ρ = some (.bl false) := by
  unfold dOwnEq
  rw [h]
  rfl
theorem item_plain {t : Str} {lo hi a b : Int} (hf : Free 47 t) (hl : t.length ≤ 1000) (hs : m_span_in [.str t, .int lo, .int hi] = some [.int a, .int b]) (q : 0 ≤ a ∧ a ≤ b ∧ b ≤ 63) :
    m_item_mask [.str t, .int lo, .int hi] = some (.int (maskL (upto a b))) := by
  have sp := split_plain hf (by omega)
  have mk := mask_of_eq (ns := upto a b) (fun n hn => by have := upto_mem hn; omega)
  unfold m_item_mask m_item_mask_b
  have i0 : L2.atI [D.str t] 0 = some (D.str t) := rfl
  have j0 : L2.atI [D.int a, D.int b] 0 = some (D.int a) := rfl
  have j1 : L2.atI [D.int a, D.int b] 1 = some (D.int b) := rfl
  have rg := oRange_eq (f := dOwnIx 4 (dC (.int 0))) (g := dOp opAdd (dOwnIx 4 (dC (.int 1))) (dC (.int 1))) (ρ := [.val (.str t), .val (.int lo), .val (.int hi), .val (.lst [.str t]), .own [.int a, .int b], .un]) (a := a) (b := b) (by simp [dOwnIx, j0]) (by simp [dOwnIx, j1]) (by omega)
  have ne : dOwnEq 4 [.val (.str t), .val (.int lo), .val (.int hi), .val (.lst [.str t]), .own [.int a, .int b], .un] = some (.bl false) := ownNe2 rfl
  simp [startD, apD, sep_slash, sp, opIx, i0, hs, ne, bLen, rg, mk]
theorem item_by {t : Str} {lo hi a b : Int} {by_ : Nat} (hf : Free 47 t) (hl : t.length ≤ 1000) (hs : m_span_in [.str t, .int lo, .int hi] = some [.int a, .int b]) (q : 0 ≤ a ∧ a ≤ b ∧ b ≤ 63)
    (h1 : 1 ≤ by_ ∧ by_ < 10) {c : Nat} (hc : c ∈ t.cps.toList) (hc' : ¬ isFig c) : m_item_mask [.str (t ++ "/" ++ dec by_), .int lo, .int hi] = some (.int (maskL (uptoBy a b by_))) := by
  have dn := dec_len (n := by_) (by omega)
  have ll : (t ++ (⟨#[47]⟩ : Str) ++ dec by_).length ≤ 100000 := by
    rw [len_app, len_app]
    have : (⟨#[47]⟩ : Str).length = 1 := rfl
    omega
  have sp := split_pair hf (dec_no (c := 47) (n := by_) (by omega) (by decide)) ll
  have mk := mask_of_eq (ns := uptoBy a b by_) (fun n hn => by have := uptoBy_mem (by omega) hn; omega)
  have nb : NumOk 1 99 by_ := by
    have := List.all_eq_true.mp num_by by_ (List.mem_range.mpr (by omega))
    rcases Bool.or_eq_true_iff.mp this with z | z
    · have := beq_iff_eq.mp z
      omega
    · exact isOne_ok z
  unfold NumOk at nb
  have of := only_no hc hc'
  have i0 : L2.atI [D.str t, D.str (dec by_)] 0 = some (D.str t) := rfl
  have i1 : L2.atI [D.str t, D.str (dec by_)] 1 = some (D.str (dec by_)) := rfl
  have j0 : L2.atI [D.int a, D.int b] 0 = some (D.int a) := rfl
  have j1 : L2.atI [D.int a, D.int b] 1 = some (D.int b) := rfl
  have k0 : L2.atI [D.int by_] 0 = some (D.int by_) := rfl
  have rg := oRange3_eq (f := dOwnIx 4 (dC (.int 0))) (g := dOp opAdd (dOwnIx 4 (dC (.int 1))) (dC (.int 1))) (h := dOp opIx (dVar 5) (dC (.int 0))) (ρ := [.val (.str (t ++ ⟨#[47]⟩ ++ dec by_)), .val (.int lo), .val (.int hi), .val (.lst [.str t, .str (dec by_)]), .own [.int a, .int b], .val (.lst [.int by_])]) (a := a) (b := b) (s := by_) (by simp [dOwnIx, j0]) (by simp [dOwnIx, j1]) (by simp [opIx, k0]) (by omega)
  have ne : dOwnEq 4 [.val (.str (t ++ ⟨#[47]⟩ ++ dec by_)), .val (.int lo), .val (.int hi), .val (.lst [.str t, .str (dec by_)]), .own [.int a, .int b], .un] = some (.bl false) := ownNe2 rfl
  have eq0 : opEq (.lst [.int by_]) (.lst []) = some (.bl false) := rfl
  unfold m_item_mask m_item_mask_b
  simp [startD, apD, sep_slash, sp, opIx, i0, i1, hs, ne, bLen, nb, eq0, of, rg, mk]
end DL
set_option maxRecDepth 100000
namespace DL
open PySem L2
/-! ### fields -/
theorem enum_zip (ds : List D) : enumD ds = ds.zipIdx.map fun p => .tup [.int p.2, p.1] := by
  unfold enumD
  apply List.ext_getElem
  · simp
  · intro i h1 h2
    simp at h1
    simp [h1]
theorem cut_all {xs : List D} {k : Nat} (h : xs.length ≤ k) : opSl (.lst xs) none (some (k : Int)) = some (.lst xs) := by
  show some (D.lst (cutD _ _ _)) = _
  congr 2
  unfold cutD
  rw [HT.sIx_none, HT.sIx_nat, List.drop_zero, Nat.min_eq_right h]
  exact List.take_of_length_le (by omega)
def orL (ps : List Int) : Int := ps.foldl (fun m p => bO m p) 0
theorem read_field_eq {t : Str} {ws : List Str} {ms : List Int} {lo hi : Int} (ht : Txt.split t ⟨#[44]⟩ = ws) (hl : t.length ≤ 300) (h40 : ws.length ≤ 40) (he : ws.length = ms.length)
    (hm : ∀ p ∈ ws.zip ms, m_item_mask [.str p.1, .int lo, .int hi] = some (.int p.2) ∧ p.2 ≠ 0) : m_read_field [.str t, .int lo, .int hi] = some (.int (orL ms)) := by
  have l1 : t.length ≤ 100000 := by omega
  have l2 : ¬ ((300 : Int) < t.length) := by omega
  have l3 : ¬ ((40 : Int) < ws.length) := by omega
  have cut : opSl (.lst (ws.map D.str)) none (some 40) = some (.lst (ws.map D.str)) := cut_all (xs := ws.map D.str) (k := 40) (by simpa using h40)
  have ez : enumD (ws.map D.str) = (ws.zip ms).zipIdx.map fun p => .tup [.int p.2, .str p.1.1] := by
    rw [enum_zip]
    apply List.ext_getElem
    · simp [he]
    · intro i h1 h2
      simp
  obtain ⟨ρ', e, qs, m, x, y, z, hq, _, hf, rfl⟩ := for_ind (T := tgT [5, 6]) (B := sSeq (sAsg (dCall 3 m_item_mask (aCons (dVar 6) (aCons (dVar 1) (aCons (dVar 2) aNil)))) (tgN 7)) (sSeq (sIf (asB (dOp opEq (dVar 7) (dC (.int 0)))) sNever sNil) (sAsg (dOp opOr (dVar 3) (dVar 7)) (tgN 3))))
    (fun ds ρ => ∃ (qs : List ((Str × Int) × Nat)) (m : Int) (x y z : S3), ds = qs.map (fun p => .tup [.int p.2, .str p.1.1]) ∧ (∀ q ∈ qs, m_item_mask [.str q.1.1, .int lo, .int hi] = some (.int q.1.2) ∧ q.1.2 ≠ 0) ∧ qs.foldl (fun m q => bO m q.1.2) m = orL ms ∧
      ρ = [.val (.str t), .val (.int lo), .val (.int hi), .val (.int m), .val (.lst (ws.map D.str)), x, y, z]) (by
      rintro d ds ρ ⟨qs, m, x, y, z, hq, hP, hf, rfl⟩
      cases qs with
      | nil => cases hq
      | cons q qs =>
        rw [List.map_cons] at hq
        obtain ⟨rfl, rfl⟩ := List.cons.inj hq
        obtain ⟨e1, e2⟩ := hP q (List.mem_cons_self ..)
        exact ⟨_, [.val (.str t), .val (.int lo), .val (.int hi), .val (.int (bO m q.1.2)), .val (.lst (ws.map D.str)), .val (.int q.2), .val (.str q.1.1), .val (.int q.1.2)], rfl, by simp [apD, e1, e2], qs, _, _, _, _, rfl, fun r hr => hP r (List.mem_cons_of_mem _ hr), hf, rfl⟩)
    ((ws.zip ms).zipIdx.map fun p => .tup [.int p.2, .str p.1.1]) [.val (.str t), .val (.int lo), .val (.int hi), .val (.int 0), .val (.lst (ws.map D.str)), .un, .un, .un] ⟨(ws.zip ms).zipIdx, 0, .un, .un, .un, rfl, fun q hq => hm q.1 (by
        have := List.mem_map_of_mem (f := Prod.fst) hq
        rwa [List.zipIdx_map_fst] at this), by
        unfold orL
        have e1 : (ws.zip ms).zipIdx.foldl (fun m q => bO m q.1.2) 0 = (((ws.zip ms).zipIdx.map Prod.fst).map Prod.snd).foldl (fun m p => bO m p) 0 := by
          rw [List.map_map, List.foldl_map]
          rfl
        rw [e1, List.zipIdx_map_fst, List.map_snd_zip (by omega)], rfl⟩
  cases qs with
  | cons _ _ => cases hq
  | nil =>
    have hf : m = orL ms := hf
    rw [← ez] at e
    unfold m_read_field m_read_field_b
    have sl : (({ cps := #[44] } : Str).length = 0) = False := by simp [Str.length]
    have lw : (ws.map D.str).length = ws.length := by simp
    simp [startD, apD, tagOf, isiB, kitB, bLen, l1, l2, l3, sep_comma, bSplit, ht, sl, cut, itEn, e, hf, lw]
theorem orF_rng {K : Nat} : ∀ {ps : List Int} {t : Int}, (∀ n ∈ ps, 0 < n ∧ n < 2 ^ K) → 0 ≤ t → t < 2 ^ K → (0 < t ∨ ps ≠ []) → 0 < ps.foldl (fun m p => bO m p) t ∧ ps.foldl (fun m p => bO m p) t < 2 ^ K
  | [], t, _, h0, h1, h2 => by
    rcases h2 with h | h
    · exact ⟨h, h1⟩
    · exact absurd rfl h
  | i :: ns, t, h, t0, t1, _ => by
    obtain ⟨i0, i1⟩ := h i (List.mem_cons_self ..)
    obtain ⟨r0, r1⟩ := or_rng (k := K) t0 (Int.le_of_lt i0) t1 i1
    have rg := or_ge t0 (Int.le_of_lt i0)
    rw [List.foldl_cons]
    exact orF_rng (fun n hn => h n (List.mem_cons_of_mem _ hn)) r0 r1 (.inl (by omega))
theorem orL_rng {K : Nat} {ps : List Int} (h : ∀ n ∈ ps, 0 < n ∧ n < 2 ^ K) (h0 : ps ≠ []) : 0 < orL ps ∧ orL ps < 2 ^ K := orF_rng h (Int.le_refl _) (PySem.W.kbt_pos _) (.inr h0)
/-- a word of a row -/
structure Word (x : Str) : Prop where
  fr : Free 32 x
  ln : x.length ≤ 20
  ne : x ≠ ""
/-- a field's text with its mask -/
structure FT (lo hi : Int) (K : Nat) (x : Str) (m : Int) : Prop where
  w : Word x
  rd : m_read_field [.str x, .int lo, .int hi] = some (.int m)
  m0 : 0 < m
  m1 : m < 2 ^ K
/-- texts of one item -/
structure Item (lo hi : Int) (x : Str) (m : Int) : Prop where
  f44 : Free 44 x
  f32 : Free 32 x
  ln : x.length ≤ 8
  ne : x ≠ ""
  rd : m_item_mask [.str x, .int lo, .int hi] = some (.int m)
theorem Item.ft {lo hi m : Int} {K : Nat} {x : Str} (h : Item lo hi x m) (m0 : 0 < m) (m1 : m < 2 ^ K) : FT lo hi K x m := by
  refine ⟨⟨h.f32, by have := h.ln; omega, h.ne⟩, ?_, m0, m1⟩
  have := read_field_eq (t := x) (ws := [x]) (ms := [m]) (lo := lo) (hi := hi) (split1 h.f44) (by have := h.ln; omega) (by simp) rfl (by
    intro p hp
    simp only [List.zip_cons_cons, List.zip_nil_left, List.mem_singleton] at hp
    subst hp
    exact ⟨h.rd, by show m ≠ 0; omega⟩)
  rw [this]
  show some (D.int (bO 0 m)) = _
  rw [zero_or]
theorem free_lit {c : Nat} {x : Str} (h : (x.cps.toList.all fun k => k != c) = true) : Free c x := fun z => by
  have := List.all_eq_true.mp h c z
  simp at this
theorem ne_of_len {x : Str} (h : x.length ≠ 0) : x ≠ "" := fun e => h (by rw [e]; rfl)
theorem Item.ft2 {lo hi m m' : Int} {K : Nat} {x y : Str} (h : Item lo hi x m) (h' : Item lo hi y m') (m0 : 0 < m) (m1 : m < 2 ^ K) (m0' : 0 < m') (m1' : m' < 2 ^ K) : FT lo hi K (x ++ "," ++ y) (orL [m, m']) := by
  have r := orL_rng (K := K) (ps := [m, m']) (by simp [m0, m1, m0', m1']) (by simp)
  have lc : ("," : Str).length = 1 := by decide
  have a1 := h.ln
  have a2 := h'.ln
  refine ⟨⟨free_app (free_app h.f32 (free_lit (by decide +kernel))) h'.f32, by rw [len_app, len_app]; omega, ne_of_len (by rw [len_app, len_app]; omega)⟩, ?_, r.1, r.2⟩
  refine read_field_eq (ws := [x, y]) ?_ (by rw [len_app, len_app]; omega) (by simp) rfl (by
    intro p hp
    simp only [List.zip_cons_cons, List.zip_nil_left, List.mem_cons, List.not_mem_nil, or_false] at hp
    rcases hp with rfl | rfl
    · exact ⟨h.rd, by show m ≠ 0; omega⟩
    · exact ⟨h'.rd, by show m' ≠ 0; omega⟩)
  rw [sep_comma]
  exact split2 h.f44 h'.f44
end DL
set_option maxRecDepth 100000
namespace DL
open PySem L2
/-! ### drawn fields -/
section
variable {lo hi : Int}
theorem dec_ne {n : Nat} (hn : n < 60) : dec n ≠ "" := by
  have : ((List.range 60).all fun n => decide ((dec n).length ≠ 0)) = true := by decide +kernel
  exact ne_of_len (of_decide_eq_true (List.all_eq_true.mp this n (List.mem_range.mpr hn)))
theorem item_star (h : 0 ≤ lo ∧ lo ≤ hi ∧ hi ≤ 63) : Item lo hi "*" (maskL (upto lo hi)) :=
  ⟨free_lit (by decide +kernel), free_lit (by decide +kernel), by decide +kernel, by decide +kernel, item_plain (free_lit (by decide +kernel)) (by decide +kernel) span_star h⟩
theorem item_one {n : Nat} (hn : n < 60) (h : NumOk lo hi n) : Item lo hi (dec n) (maskL (upto n n)) :=
  ⟨dec_no hn (by decide), dec_no hn (by decide), by have := dec_len hn; omega, dec_ne hn, item_plain (dec_no hn (by decide)) (by have := dec_len hn; omega) (span_one hn h) (by omega)⟩
theorem item_two {a b : Nat} (ha : a < 60) (hb : b < 60) (hab : a ≤ b) (h : NumOk lo hi a) (h' : NumOk lo hi b) : Item lo hi (dec a ++ "-" ++ dec b) (maskL (upto a b)) := by
  have f : ∀ c, ¬ (48 ≤ c ∧ c ≤ 57) → c ≠ 45 → Free c (dec a ++ "-" ++ dec b) := fun c h1 h2 => free_app (free_app (dec_no ha h1) (by unfold Free; rw [show ("-" : Str).cps.toList = [45] by decide +kernel]; simpa using h2)) (dec_no hb h1)
  have l : (dec a ++ "-" ++ dec b).length ≤ 5 := by
    rw [len_app, len_app]
    have := dec_len ha
    have := dec_len hb
    have : ("-" : Str).length = 1 := by decide +kernel
    omega
  have z : (dec a ++ "-" ++ dec b).length ≠ 0 := by
    rw [len_app, len_app]
    have : ("-" : Str).length = 1 := by decide +kernel
    omega
  exact ⟨f _ (by decide) (by decide), f _ (by decide) (by decide), by omega, ne_of_len z, item_plain (f _ (by decide) (by decide)) (by omega) (span_two ha hb hab h h') (by omega)⟩
theorem item_star_by {s : Nat} (h1 : 1 ≤ s ∧ s < 10) (h : 0 ≤ lo ∧ lo ≤ hi ∧ hi ≤ 63) : Item lo hi ("*" ++ "/" ++ dec s) (maskL (uptoBy lo hi s)) := by
  have f : ∀ c, ¬ (48 ≤ c ∧ c ≤ 57) → c ≠ 42 → c ≠ 47 → Free c ("*" ++ "/" ++ dec s) := fun c h1 h2 h3 => free_app (free_app (by unfold Free; rw [show ("*" : Str).cps.toList = [42] by decide +kernel]; simpa using h2) (by unfold Free; rw [show ("/" : Str).cps.toList = [47] by decide +kernel]; simpa using h3)) (dec_no (by omega) h1)
  have l : ("*" ++ "/" ++ dec s : Str).length = 2 + (dec s).length := by
    rw [len_app, len_app]
    have : ("*" : Str).length = 1 := by decide +kernel
    have : ("/" : Str).length = 1 := by decide +kernel
    omega
  have := dec_len (n := s) (by omega)
  exact ⟨f _ (by decide) (by decide) (by decide), f _ (by decide) (by decide) (by decide), by omega, ne_of_len (by omega), item_by (free_lit (by decide +kernel)) (by decide +kernel) span_star h h1 (c := 42) (by decide +kernel) (by decide)⟩
theorem item_two_by {a b s : Nat} (ha : a < 60) (hb : b < 60) (hab : a ≤ b) (h : NumOk lo hi a) (h' : NumOk lo hi b) (h1 : 1 ≤ s ∧ s < 10) : Item lo hi (dec a ++ "-" ++ dec b ++ "/" ++ dec s) (maskL (uptoBy a b s)) := by
  have fd : ∀ c, ¬ (48 ≤ c ∧ c ≤ 57) → c ≠ 45 → Free c (dec a ++ "-" ++ dec b) := fun c h1 h2 => free_app (free_app (dec_no ha h1) (by unfold Free; rw [show ("-" : Str).cps.toList = [45] by decide +kernel]; simpa using h2)) (dec_no hb h1)
  have f : ∀ c, ¬ (48 ≤ c ∧ c ≤ 57) → c ≠ 45 → c ≠ 47 → Free c (dec a ++ "-" ++ dec b ++ "/" ++ dec s) := fun c h1 h2 h3 => free_app (free_app (fd c h1 h2) (by unfold Free; rw [show ("/" : Str).cps.toList = [47] by decide +kernel]; simpa using h3)) (dec_no (by omega) h1)
  have e1 : ("-" : Str).length = 1 := by decide +kernel
  have e2 : ("/" : Str).length = 1 := by decide +kernel
  have d1 := dec_len ha
  have d2 := dec_len hb
  have d3 := dec_len (n := s) (by omega)
  have d4 : (dec s).length ≤ 1 := by
    have : ((List.range 10).all fun n => decide ((dec n).length ≤ 1)) = true := by decide +kernel
    exact of_decide_eq_true (List.all_eq_true.mp this s (List.mem_range.mpr (by omega)))
  have l : (dec a ++ "-" ++ dec b).length ≤ 5 := by
    rw [len_app, len_app]
    omega
  refine ⟨f _ (by decide) (by decide) (by decide), f _ (by decide) (by decide) (by decide), ?_, ne_of_len ?_, item_by (fd _ (by decide) (by decide)) (by omega) (span_two ha hb hab h h') (by omega) h1 (c := 45) ?_ (by decide)⟩
  · rw [len_app, len_app]; omega
  · rw [len_app, len_app]; omega
  · show 45 ∈ ((dec a).cps ++ ("-" : Str).cps ++ (dec b).cps).toList
    rw [Array.toList_append, Array.toList_append, show ("-" : Str).cps.toList = [45] by decide +kernel]
    simp
end
end DL
set_option maxRecDepth 100000
namespace DL
open PySem L2
/-! ### what is drawn -/
theorem cell_in {ns : List Int} {k : Nat} (h : k < ns.length) : m__law_cell_at [.scr ns, .int k] = some (.int ns[k]) := by
  unfold m__law_cell_at m__law_cell_at_b
  have e := atI_nat (xs := ns) (List.getElem?_eq_getElem h)
  have h' : (k : Int) < ns.length := by omega
  simp [startD, bLen, h', opIx, e]
def cellO (x : Int) : Int := (x + 2) ^ 5 * 1299709 % 15485863
theorem cell_out {ns : List Int} {x : Int} (h : ¬ x < ns.length) (h0 : 0 ≤ x ∧ x ≤ 100000) : m__law_cell_at [.scr ns, .int x] = some (.int (cellO x)) := by
  have q : (x + 2).natAbs < 18446744073709551616 := by omega
  unfold m__law_cell_at m__law_cell_at_b cellO
  simp [startD, bLen, h, q]
def cellI (ns : List Int) (k : Nat) : Int := match ns[k]? with
  | some v => v
  | none => cellO k
theorem cell_ok {ns : List Int} {k : Nat} (hk : k ≤ 100000) : m__law_cell_at [.scr ns, .int k] = some (.int (cellI ns k)) := by
  unfold cellI
  by_cases h : k < ns.length
  · rw [cell_in h, List.getElem?_eq_getElem h]
  · rw [cell_out (by omega) (by omega), List.getElem?_eq_none (by omega)]
def stir1 (x : Int) : Int := (x % 1000000000000000000 + 1) * 452930459 % 4294967291
def stir2 (x : Int) : Int := x * (x % 65521 + 15485863) % 999999937
def stirI (x : Int) : Int := stir2 (stir1 x) * (stir2 (stir1 x) % 32749 + 3) % 2147483629
theorem stir_ok {x : Int} : m__law_stir [.int x] = some (.int (stirI x)) := by
  have a1 : 0 ≤ stir1 x ∧ stir1 x < 4294967291 := by unfold stir1; omega
  have a2 : 0 ≤ stir2 (stir1 x) ∧ stir2 (stir1 x) < 999999937 := by unfold stir2; omega
  have q1 : -18446744073709551616 < stir1 x ∧ stir1 x < 18446744073709551616 := by omega
  have q2 : -18446744073709551616 < stir2 (stir1 x) ∧ stir2 (stir1 x) < 18446744073709551616 := by omega
  have e1 : (x % 1000000000000000000 + 1) * 452930459 % 4294967291 = stir1 x := rfl
  unfold m__law_stir m__law_stir_b
  simp only [s_runD, s_seq, s_asg_, s_op, s_var, s_c, startD, List.map_cons, List.map_nil, List.length_cons, List.length_nil, List.replicate, List.cons_append, List.nil_append, Option.bind_some, List.getElem?_cons_zero, o_pow, o_mod, o_add, o_mul, s_tgN, Option.map_some, apD, List.set_cons_succ, List.set_cons_zero, List.getElem?_cons_succ, s_ret_]
  simp [apD, e1, q1]
  have e2 : stir1 x * (stir1 x % 65521 + 15485863) % 999999937 = stir2 (stir1 x) := rfl
  simp [e2, q2]
  rfl
/-- digits of sizes -/
def Dig : List Int → List Int → Prop
  | [], ds => ds = []
  | s :: ss, ds => ∃ d r, ds = d :: r ∧ 0 ≤ d ∧ d < s ∧ Dig ss r
theorem dig_app {a b : List Int} {s d : Int} : Dig a b → 0 ≤ d → d < s → Dig (a ++ [s]) (b ++ [d]) := by
  induction a generalizing b with
  | nil =>
    intro h h0 h1
    have : b = [] := h
    subst this
    exact ⟨d, [], rfl, h0, h1, rfl⟩
  | cons x a ih =>
    rintro ⟨y, r, rfl, q0, q1, q⟩ h0 h1
    exact ⟨y, r ++ [d], rfl, q0, q1, ih q h0 h1⟩
theorem digits_ok {c : Int} {ss : List Int} {mx : Bool} (hs : ∀ s ∈ ss, 0 < s ∧ s < 1073741824) (hl : ss.length ≤ 1000) : ∃ ds, m__law_digits [.int c, .lst (intD ss), .bl mx] = some (.lst (intD ds)) ∧ Dig ss ds := by
  have go : ∀ mx' : Bool, ∃ ds c' x, Dig ss ds ∧ forD (tgN 4) (sIf (asB (dVar 2)) (sSeq (sAsg (dCall 1 m__law_stir (aCons (dVar 0) aNil)) (tgN 0)) (sApp 3 (dOp opMod (dOp opFdiv (dVar 0) (dC (.int 8))) (dVar 4)))) (sSeq (sApp 3 (dOp opMod (dVar 0) (dVar 4))) (sAsg (dOp opFdiv (dVar 0) (dVar 4)) (tgN 0)))) (intD ss)
      [.val (.int c), .val (.lst (intD ss)), .val (.bl mx'), .own [], .un] = some (.nx [.val c', .val (.lst (intD ss)), .val (.bl mx'), .own (intD ds), x]) := by
    intro mx'
    obtain ⟨ρ', e, ps, qs, ds, c', x, hq, hps, hd, hb, rfl⟩ := for_ind (T := tgN 4) (B := sIf (asB (dVar 2)) (sSeq (sAsg (dCall 1 m__law_stir (aCons (dVar 0) aNil)) (tgN 0)) (sApp 3 (dOp opMod (dOp opFdiv (dVar 0) (dC (.int 8))) (dVar 4)))) (sSeq (sApp 3 (dOp opMod (dVar 0) (dVar 4))) (sAsg (dOp opFdiv (dVar 0) (dVar 4)) (tgN 0))))
      (fun q ρ => ∃ (ps qs ds : List Int) (c' : Int) (x : S3), q = intD qs ∧ ps ++ qs = ss ∧ Dig ps ds ∧ ds.length = ps.length ∧ ρ = [.val (.int c'), .val (.lst (intD ss)), .val (.bl mx'), .own (intD ds), x]) (by
        rintro d q ρ ⟨ps, qs, ds, c', x, hq, hps, hd, hb, rfl⟩
        cases qs with
        | nil => cases hq
        | cons s qs =>
          obtain ⟨rfl, rfl⟩ := List.cons.inj hq
          obtain ⟨s0, s1⟩ := hs s (by rw [← hps]; simp)
          have l1 : ds.length ≤ 100000 := by
            have : ps.length ≤ ss.length := by rw [← hps]; simp
            omega
          have hps' : (ps ++ [s]) ++ qs = ss := by rw [← hps]; simp
          cases mx' with
          | true =>
            have m0 := Int.emod_nonneg (stirI c' / 8) (Int.ne_of_gt s0)
            have m1 := Int.emod_lt_of_pos (stirI c' / 8) s0
            exact ⟨_, [.val (.int (stirI c')), .val (.lst (intD ss)), .val (.bl true), .own (intD (ds ++ [stirI c' / 8 % s])), .val (.int s)], rfl, by simp [apD, stir_ok, sApp, l1, s0, intD], ps ++ [s], qs, ds ++ [stirI c' / 8 % s], stirI c', _, rfl, hps', dig_app hd m0 m1, by simp [hb], rfl⟩
          | false =>
            have m0 := Int.emod_nonneg c' (Int.ne_of_gt s0)
            have m1 := Int.emod_lt_of_pos c' s0
            exact ⟨_, [.val (.int (c' / s)), .val (.lst (intD ss)), .val (.bl false), .own (intD (ds ++ [c' % s])), .val (.int s)], rfl, by simp [apD, sApp, l1, s0, s1, intD], ps ++ [s], qs, ds ++ [c' % s], c' / s, _, rfl, hps', dig_app hd m0 m1, by simp [hb], rfl⟩) (intD ss) [.val (.int c), .val (.lst (intD ss)), .val (.bl mx'), .own [], .un] ⟨[], ss, [], c, .un, rfl, rfl, rfl, rfl, rfl⟩
    cases qs with
    | cons _ _ => cases hq
    | nil =>
      rw [List.append_nil] at hps
      subst hps
      exact ⟨ds, _, x, hd, e⟩
  have key : ∀ mx' : Bool, (∃ ds, Dig ss ds ∧ (match (some (.nx [.val (.int c), .val (.lst (intD ss)), .val (.bl mx'), .own [], .un]) : Option Out) with | some (.nx ρ) => sSeq (sFor (itE (dVar 1)) (tgN 4) (sIf (asB (dVar 2)) (sSeq (sAsg (dCall 1 m__law_stir (aCons (dVar 0) aNil)) (tgN 0)) (sApp 3 (dOp opMod (dOp opFdiv (dVar 0) (dC (.int 8))) (dVar 4)))) (sSeq (sApp 3 (dOp opMod (dVar 0) (dVar 4))) (sAsg (dOp opFdiv (dVar 0) (dVar 4)) (tgN 0))))) (sRetO 3) ρ | r => r) = some (.ro (intD ds))) := by
    intro mx'
    obtain ⟨ds, c', x, hd, e⟩ := go mx'
    refine ⟨ds, hd, ?_⟩
    simp [itE, e, sRetO]
  cases mx with
  | true =>
    obtain ⟨ds, hd, e⟩ := key true
    refine ⟨ds, ?_, hd⟩
    unfold m__law_digits m__law_digits_b
    simp only [s_seq] at e
    simp [startD, apD]
    simp at e
    simp [e]
  | false =>
    obtain ⟨ds, hd, e⟩ := key (decide ((if c < 0 then -c else c) < 1000000000000000000))
    refine ⟨ds, ?_, hd⟩
    unfold m__law_digits m__law_digits_b
    simp only [s_seq] at e
    simp [startD, apD, bAbs]
    simp at e
    simp [e]
end DL
set_option maxRecDepth 100000
namespace DL
open PySem L2
/-! ### drawn texts of fields -/
theorem bstr_dec {n : Nat} (h : n < 100) : bStr [.int n] = some (.str (dec n)) := by
  have : (n : Int).natAbs.log2 < 1920 := by
    have e : (n : Int).natAbs = n := by omega
    rw [e]
    have := Nat.log2_le_self n
    omega
  show (if (n : Int).natAbs.log2 < 1920 then some (D.str (Str.ofString (toString (n : Int)))) else none) = _
  rw [if_pos this]
  rfl
theorem bstr_int {i : Int} (h0 : 0 ≤ i) (h : i < 100) : bStr [.int i] = some (.str (dec i.toNat)) := by
  have := bstr_dec (n := i.toNat) (by omega)
  rwa [show ((i.toNat : Nat) : Int) = i by omega] at this
theorem add_str {x y : Str} (h : x.length + y.length ≤ 100000) : opAdd (.str x) (.str y) = some (.str (x ++ y)) := by
  show (if _ then _ else _) = _
  rw [if_pos h]
def fieldT (p : Int) (a b s : Nat) : Str :=
  if p = 0 then "*" else if p = 1 then dec a else if p = 2 then dec a ++ "-" ++ dec b else if p = 3 then "*/" ++ dec s
  else if p = 4 then dec a ++ "," ++ dec b else if p = 5 then dec b else dec a ++ "-" ++ dec b ++ "/" ++ dec s
def fieldM (lo hi : Int) (p : Int) (a b s : Nat) : Int :=
  if p = 0 then maskL (upto lo hi) else if p = 1 then maskL (upto a a) else if p = 2 then maskL (upto a b) else if p = 3 then maskL (uptoBy lo hi s)
  else if p = 4 then orL [maskL (upto a a), maskL (upto b b)] else if p = 5 then maskL (upto b b) else maskL (uptoBy a b s)
theorem atI_lit {α : Type} {xs : List α} {p : Int} (h0 : 0 ≤ p) (h : p < xs.length) : L2.atI xs p = xs[p.toNat]? := by
  obtain ⟨n, rfl⟩ := Int.eq_ofNat_of_zero_le h0
  have hn : n < xs.length := by omega
  have := atI_nat (xs := xs) (List.getElem?_eq_getElem hn)
  rw [this, Int.toNat_natCast, List.getElem?_eq_getElem hn]
theorem dec_len60 {n : Nat} (h : n < 100) : (dec n).length ≤ 2 := by
  have : ((List.range 100).all fun n => decide ((dec n).length ≤ 2)) = true := by decide +kernel
  exact of_decide_eq_true (List.all_eq_true.mp this n (List.mem_range.mpr h))
theorem law_field_ok {p0 p1 p2 p3 lo hi : Int} (hb : 0 ≤ lo ∧ lo ≤ hi ∧ hi < 60) (h0 : 0 ≤ p0 ∧ p0 < 7) (h1 : 0 ≤ p1) (h2 : 0 ≤ p2) (h3 : 0 ≤ p3 ∧ p3 < 9) :
    ∃ a b s : Nat, lo ≤ a ∧ a ≤ b ∧ b ≤ hi ∧ 1 ≤ s ∧ s < 10 ∧ m__law_field [.lst (intD [p0, p1, p2, p3]), .int lo, .int hi] = some (.str (fieldT p0 a b s)) := by
  obtain ⟨b0, b1, b2⟩ := hb
  have s0 : 0 < hi - lo + 1 := by omega
  have m0 := Int.emod_nonneg p1 (Int.ne_of_gt s0)
  have m1 := Int.emod_lt_of_pos p1 s0
  have t0 : 0 < hi - (lo + p1 % (hi - lo + 1)) + 1 := by omega
  have n0 := Int.emod_nonneg p2 (Int.ne_of_gt t0)
  have n1 := Int.emod_lt_of_pos p2 t0
  generalize hA : lo + p1 % (hi - lo + 1) = A at *
  generalize hB : A + p2 % (hi - A + 1) = B at *
  have r1 : lo ≤ A ∧ A ≤ B ∧ B ≤ hi := by omega
  refine ⟨A.toNat, B.toNat, (1 + p3).toNat, by omega, by omega, by omega, by omega, by omega, ?_⟩
  have i0 : L2.atI (intD [p0, p1, p2, p3]) 0 = some (.int p0) := rfl
  have i1 : L2.atI (intD [p0, p1, p2, p3]) 1 = some (.int p1) := rfl
  have i2 : L2.atI (intD [p0, p1, p2, p3]) 2 = some (.int p2) := rfl
  have i3 : L2.atI (intD [p0, p1, p2, p3]) 3 = some (.int p3) := rfl
  have sA := bstr_int (i := A) (by omega) (by omega)
  have sB := bstr_int (i := B) (by omega) (by omega)
  have sS := bstr_int (i := 1 + p3) (by omega) (by omega)
  have lA := dec_len60 (n := A.toNat) (by omega)
  have lB := dec_len60 (n := B.toNat) (by omega)
  have lS := dec_len60 (n := (1 + p3).toNat) (by omega)
  have lm : ("-" : Str).length = 1 := by decide +kernel
  have lc : ("," : Str).length = 1 := by decide +kernel
  have ls : ("/" : Str).length = 1 := by decide +kernel
  have lt : ("*/" : Str).length = 2 := by decide +kernel
  have a1 : opAdd (.str (dec A.toNat)) (.str "-") = some (.str (dec A.toNat ++ "-")) := add_str (by omega)
  have a2 : opAdd (.str (dec A.toNat ++ "-")) (.str (dec B.toNat)) = some (.str (dec A.toNat ++ "-" ++ dec B.toNat)) := add_str (by rw [len_app]; omega)
  have a3 : opAdd (.str "*/") (.str (dec (1 + p3).toNat)) = some (.str ("*/" ++ dec (1 + p3).toNat)) := add_str (by omega)
  have a4 : opAdd (.str (dec A.toNat)) (.str ",") = some (.str (dec A.toNat ++ ",")) := add_str (by omega)
  have a5 : opAdd (.str (dec A.toNat ++ ",")) (.str (dec B.toNat)) = some (.str (dec A.toNat ++ "," ++ dec B.toNat)) := add_str (by rw [len_app]; omega)
  have a6 : opAdd (.str (dec A.toNat ++ "-" ++ dec B.toNat)) (.str "/") = some (.str (dec A.toNat ++ "-" ++ dec B.toNat ++ "/")) := add_str (by rw [len_app, len_app]; omega)
  have a7 : opAdd (.str (dec A.toNat ++ "-" ++ dec B.toNat ++ "/")) (.str (dec (1 + p3).toNat)) = some (.str (dec A.toNat ++ "-" ++ dec B.toNat ++ "/" ++ dec (1 + p3).toNat)) := add_str (by rw [len_app, len_app, len_app]; omega)
  have fin : L2.atI [D.str "*", .str (dec A.toNat), .str (dec A.toNat ++ "-" ++ dec B.toNat), .str ("*/" ++ dec (1 + p3).toNat), .str (dec A.toNat ++ "," ++ dec B.toNat), .str (dec B.toNat), .str (dec A.toNat ++ "-" ++ dec B.toNat ++ "/" ++ dec (1 + p3).toNat)] p0 = some (.str (fieldT p0 A.toNat B.toNat (1 + p3).toNat)) := by
    have hp : p0 = 0 ∨ p0 = 1 ∨ p0 = 2 ∨ p0 = 3 ∨ p0 = 4 ∨ p0 = 5 ∨ p0 = 6 := by omega
    rcases hp with rfl | rfl | rfl | rfl | rfl | rfl | rfl <;> rfl
  unfold m__law_field m__law_field_b
  simp [startD, apD, opIx, i0, i1, i2, i3, s0, hA, t0, hB, sA, sB, sS, a1, a2, a3, a4, a5, a6, a7, sApp, dOwnIx, fin]
theorem fieldT_ok {lo hi : Int} {K : Nat} {p : Int} {a b s : Nat} (hb : 0 ≤ lo ∧ hi < 60 ∧ hi < K) (ha : lo ≤ a ∧ a ≤ b ∧ b ≤ hi) (hs : 1 ≤ s ∧ s < 10) (hN : ∀ n : Nat, lo ≤ n → n ≤ hi → NumOk lo hi n) : FT lo hi K (fieldT p a b s) (fieldM lo hi p a b s) := by
  obtain ⟨b0, b1, b2⟩ := hb
  have na := hN a (by omega) (by omega)
  have nb := hN b (by omega) (by omega)
  have r : ∀ {x y : Int}, lo ≤ x → x ≤ y → y ≤ hi → 0 < maskL (upto x y) ∧ maskL (upto x y) < 2 ^ K := fun h1 h2 h3 => maskL_rng (fun n hn => by have := upto_mem hn; omega) (upto_ne h2)
  have rb : ∀ {x y : Int}, lo ≤ x → x ≤ y → y ≤ hi → 0 < maskL (uptoBy x y s) ∧ maskL (uptoBy x y s) < 2 ^ K := fun h1 h2 h3 => maskL_rng (fun n hn => by have := uptoBy_mem (by omega) hn; omega) (uptoBy_ne (by omega) h2)
  unfold fieldT fieldM
  split
  · exact (item_star ⟨b0, by omega, by omega⟩).ft (r (by omega) (by omega) (by omega)).1 (r (by omega) (by omega) (by omega)).2
  split
  · exact (item_one (by omega) na).ft (r (by omega) (by omega) (by omega)).1 (r (by omega) (by omega) (by omega)).2
  split
  · exact (item_two (by omega) (by omega) (by omega) na nb).ft (r (by omega) (by omega) (by omega)).1 (r (by omega) (by omega) (by omega)).2
  split
  · have e : ("*/" : Str) = "*" ++ "/" := by decide +kernel
    rw [e]
    exact (item_star_by hs ⟨b0, by omega, by omega⟩).ft (rb (by omega) (by omega) (by omega)).1 (rb (by omega) (by omega) (by omega)).2
  split
  · exact (item_one (by omega) na).ft2 (item_one (by omega) nb) (r (by omega) (by omega) (by omega)).1 (r (by omega) (by omega) (by omega)).2 (r (by omega) (by omega) (by omega)).1 (r (by omega) (by omega) (by omega)).2
  split
  · exact (item_one (by omega) nb).ft (r (by omega) (by omega) (by omega)).1 (r (by omega) (by omega) (by omega)).2
  · exact (item_two_by (by omega) (by omega) (by omega) na nb hs).ft (rb (by omega) (by omega) (by omega)).1 (rb (by omega) (by omega) (by omega)).2
theorem NumOk.min {n : Nat} (h : (0 : Int) ≤ n) (h' : (n : Int) ≤ 59) : NumOk 0 59 n := isOne_ok (List.all_eq_true.mp num_min n (List.mem_range.mpr (by omega)))
theorem NumOk.hour {n : Nat} (h : (0 : Int) ≤ n) (h' : (n : Int) ≤ 23) : NumOk 0 23 n := isOne_ok (List.all_eq_true.mp num_hour n (List.mem_range.mpr (by omega)))
theorem NumOk.month {n : Nat} (h : (1 : Int) ≤ n) (h' : (n : Int) ≤ 12) : NumOk 1 12 n := by
  have := List.all_eq_true.mp num_month n (List.mem_range.mpr (by omega))
  rcases Bool.or_eq_true_iff.mp this with z | z
  · have := beq_iff_eq.mp z
    omega
  · exact isOne_ok z
end DL
set_option maxRecDepth 100000
namespace DL
open PySem L2
/-! ### days and weekdays of drawn rows -/
def wordChk (x : Str) : Bool := (x.cps.toList.all fun k => k != 32) && decide (x.length ≤ 20) && decide (x.length ≠ 0)
theorem wordChk_ok {x : Str} (h : wordChk x = true) : Word x := by
  unfold wordChk at h
  rw [Bool.and_eq_true, Bool.and_eq_true] at h
  exact ⟨free_lit h.1.1, of_decide_eq_true h.1.2, ne_of_len (of_decide_eq_true h.2)⟩
def dayChk (x : Str) : Bool := wordChk x && (match m_read_days [.str x] with | some d => marksOk d | none => false)
def wdayChk (x : Str) : Bool := wordChk x && (match m_read_weekdays [.str x] with | some d => marksOk d | none => false)
structure DT (x : Str) : Prop where
  w : Word x
  rd : ∃ d, m_read_days [.str x] = some d ∧ marksOk d = true
structure WT (x : Str) : Prop where
  w : Word x
  rd : ∃ d, m_read_weekdays [.str x] = some d ∧ marksOk d = true
theorem DT.of {x : Str} (h : dayChk x = true) : DT x := by
  unfold dayChk at h
  rw [Bool.and_eq_true] at h
  refine ⟨wordChk_ok h.1, ?_⟩
  have h2 := h.2
  split at h2
  · rename_i d e
    exact ⟨d, e, h2⟩
  · cases h2
theorem WT.of {x : Str} (h : wdayChk x = true) : WT x := by
  unfold wdayChk at h
  rw [Bool.and_eq_true] at h
  refine ⟨wordChk_ok h.1, ?_⟩
  have h2 := h.2
  split at h2
  · rename_i d e
    exact ⟨d, e, h2⟩
  · cases h2
theorem days_lit : ((["*", "L", "LW", "29", "31", "*/2", "1W", "30"] : List Str).all dayChk) = true := by decide +kernel
theorem days_num : ((List.range 31).all fun n => dayChk (dec (1 + n))) = true := by decide +kernel
theorem days_back : ((List.range 30).all fun n => dayChk ("L-" ++ dec (1 + n))) = true := by decide +kernel
theorem days_near : ((List.range 31).all fun n => dayChk (dec (1 + n) ++ "W")) = true := by decide +kernel
theorem days_more : ((List.range 31).all fun n => dayChk ("1-7," ++ dec (1 + n))) = true := by decide +kernel
theorem wdays_lit : ((["*", "1-5", "5-7"] : List Str).all wdayChk) = true := by decide +kernel
theorem wdays_num : ((List.range 8).all fun n => wdayChk (dec n)) = true := by decide +kernel
theorem wdays_last : ((List.range 8).all fun n => wdayChk (dec n ++ "L")) = true := by decide +kernel
theorem wdays_nth : ((List.range 8).all fun n => (List.range 5).all fun m => wdayChk (dec n ++ "#" ++ dec (1 + m))) = true := by decide +kernel
theorem wdays_5 : ((List.range 8).all fun n => wdayChk (dec n ++ "#5")) = true := by decide +kernel
theorem all_lit {P : Str → Bool} {l : List Str} (h : l.all P = true) {x : Str} (hx : x ∈ l) : P x = true := List.all_eq_true.mp h x hx
end DL
set_option maxRecDepth 100000
namespace DL
open PySem L2
/-! ### rows read -/
theorem words_ok {t w0 w1 w2 w3 w4 : Str} (ht : Txt.split t ⟨#[32]⟩ = [w0, w1, w2, w3, w4]) (hl : t.length ≤ 1600) (h0 : w0 ≠ "") (h1 : w1 ≠ "") (h2 : w2 ≠ "") (h3 : w3 ≠ "") (h4 : w4 ≠ "") :
    m_words_of [.str t] = some (.lst [.str w0, .str w1, .str w2, .str w3, .str w4]) := by
  have l1 : t.length ≤ 100000 := by omega
  have l2 : ¬ ((1600 : Int) < t.length) := by omega
  have sl : (({ cps := #[32] } : Str).length = 0) = False := by simp [Str.length]
  have ni : opIn (.str "") (.lst [.str w0, .str w1, .str w2, .str w3, .str w4]) = some (.bl false) := by
    have q : ∀ {w : Str}, w ≠ "" → (w == "") = false := fun h => beq_eq_false_iff_ne.mpr h
    show (inD _ _).map _ = _
    unfold inD
    simp [flatD, inF, eqF, q h0, q h1, q h2, q h3, q h4]
  unfold m_words_of m_words_of_b
  simp [startD, apD, tagOf, isiB, kitB, bLen, l1, l2, sep_blank, bSplit, ht, sl]
  rw [sep_blank.symm] at *
  simp [ni]
theorem read_row_ok {t w0 w1 w2 w3 w4 : Str} {mm hh mo : Int} {dm wm : D} (ht : Txt.split t ⟨#[32]⟩ = [w0, w1, w2, w3, w4]) (hl : t.length ≤ 1600) (f0 : FT 0 59 60 w0 mm) (f1 : FT 0 23 24 w1 hh) (h2 : w2 ≠ "") (f2 : m_read_days [.str w2] = some dm) (f3 : FT 1 12 13 w3 mo) (h4 : w4 ≠ "") (f4 : m_read_weekdays [.str w4] = some wm) :
    m_read_row [.str t] = some (rowD mm hh dm mo wm) := by
  have wd := words_ok ht hl f0.w.ne f1.w.ne h2 f3.w.ne h4
  have a0 : m_field_at [.lst [.str w0, .str w1, .str w2, .str w3, .str w4], .int 0] = some (.int mm) := by
    have i : L2.atI [D.str w0, D.str w1, D.str w2, D.str w3, D.str w4] 0 = some (.str w0) := rfl
    unfold m_field_at m_field_at_b
    simp [startD, apD, opIx, i, f0.rd]
  have a1 : m_field_at [.lst [.str w0, .str w1, .str w2, .str w3, .str w4], .int 1] = some (.int hh) := by
    have i : L2.atI [D.str w0, D.str w1, D.str w2, D.str w3, D.str w4] 1 = some (.str w1) := rfl
    unfold m_field_at m_field_at_b
    simp [startD, apD, opIx, i, f1.rd]
  have a2 : m_field_at [.lst [.str w0, .str w1, .str w2, .str w3, .str w4], .int 2] = some dm := by
    have i : L2.atI [D.str w0, D.str w1, D.str w2, D.str w3, D.str w4] 2 = some (.str w2) := rfl
    unfold m_field_at m_field_at_b
    simp [startD, apD, opIx, i, f2]
  have a3 : m_field_at [.lst [.str w0, .str w1, .str w2, .str w3, .str w4], .int 3] = some (.int mo) := by
    have i : L2.atI [D.str w0, D.str w1, D.str w2, D.str w3, D.str w4] 3 = some (.str w3) := rfl
    unfold m_field_at m_field_at_b
    simp [startD, apD, opIx, i, f3.rd]
  have a4 : m_field_at [.lst [.str w0, .str w1, .str w2, .str w3, .str w4], .int 4] = some wm := by
    have i : L2.atI [D.str w0, D.str w1, D.str w2, D.str w3, D.str w4] 4 = some (.str w4) := rfl
    unfold m_field_at m_field_at_b
    simp [startD, apD, opIx, i, f4]
  have rg : rngD 0 5 = [.int 0, .int 1, .int 2, .int 3, .int 4] := rfl
  have j0 : L2.atI [D.int mm, D.int hh, dm, D.int mo, wm] 0 = some (.int mm) := rfl
  have j1 : L2.atI [D.int mm, D.int hh, dm, D.int mo, wm] 1 = some (.int hh) := rfl
  have j2 : L2.atI [D.int mm, D.int hh, dm, D.int mo, wm] 2 = some dm := rfl
  have j3 : L2.atI [D.int mm, D.int hh, dm, D.int mo, wm] 3 = some (.int mo) := rfl
  have j4 : L2.atI [D.int mm, D.int hh, dm, D.int mo, wm] 4 = some wm := rfl
  unfold m_read_row m_read_row_b
  simp [startD, apD, wd, itR1, rg, forD, sApp, a0, a1, a2, a3, a4, dOwnIx, j0, j1, j2, j3, j4, i_Row]
/-- a drawn row, read -/
theorem RowOk.read {t w0 w1 w2 w3 w4 : Str} {mm hh mo : Int} (ht : Txt.split t ⟨#[32]⟩ = [w0, w1, w2, w3, w4]) (hl : t.length ≤ 1600) (f0 : FT 0 59 60 w0 mm) (f1 : FT 0 23 24 w1 hh) (f2 : DT w2) (f3 : FT 1 12 13 w3 mo) (f4 : WT w4) : ∃ d, m_read_row [.str t] = some d ∧ RowOk d := by
  obtain ⟨dm, e2, k2⟩ := f2.rd
  obtain ⟨wm, e4, k4⟩ := f4.rd
  exact ⟨_, read_row_ok ht hl f0 f1 f2.w.ne e2 f3 f4.w.ne e4, ⟨mm, hh, mo, dm, wm, rfl, Int.le_of_lt f0.m0, f0.m1, Int.le_of_lt f1.m0, f1.m1, k2, k4⟩⟩
/-- words joined by blanks -/
theorem join5 {w0 w1 w2 w3 w4 : Str} (h0 : Word w0) (h1 : Word w1) (h2 : Word w2) (h3 : Word w3) (h4 : Word w4) : Txt.split (Str.join ⟨#[32]⟩ [w0, w1, w2, w3, w4]) ⟨#[32]⟩ = [w0, w1, w2, w3, w4] ∧ (Str.join ⟨#[32]⟩ [w0, w1, w2, w3, w4]).length ≤ 1600 := by
  refine ⟨split_join (by simp) (by
    intro w hw
    simp only [List.mem_cons, List.not_mem_nil, or_false] at hw
    rcases hw with rfl | rfl | rfl | rfl | rfl
    · exact h0.fr
    · exact h1.fr
    · exact h2.fr
    · exact h3.fr
    · exact h4.fr), ?_⟩
  have e := congrArg List.length (join_jl 32 [w0, w1, w2, w3, w4])
  have q : ∀ x : Str, x.cps.toList.length = x.length := fun x => rfl
  simp only [jl, List.map_cons, List.map_nil, List.length_append, List.length_cons, q] at e
  have := h0.ln
  have := h1.ln
  have := h2.ln
  have := h3.ln
  have := h4.ln
  omega
end DL
set_option maxRecDepth 100000
namespace DL
open PySem L2
/-! ### drawn rows -/
theorem join_eq {ws : List Str} (h : (ws.map (·.length)).sum + ws.length ≤ 100000) : bJoin (.str " ") (.lst (ws.map D.str)) = some (.str (Str.join ⟨#[32]⟩ ws)) := by
  have e1 : (" " : Str).length = 1 := by decide +kernel
  have e2 : Txt.join " " ws = Str.join " " ws := StrLaws.glued_eq_join " " ws
  unfold bJoin
  simp only [asStrs_map, Option.bind_some, e1, Nat.mul_one, h, if_true, e2]
  rw [sep_blank]
theorem word_lit {x : Str} (h : wordChk x = true) : Word x := wordChk_ok h
theorem all_rng {n : Nat} {P : Nat → Bool} (h : ((List.range n).all P) = true) {i : Nat} (hi : i < n) : P i = true := List.all_eq_true.mp h i (List.mem_range.mpr hi)
theorem dt_num {n : Nat} (h : 1 ≤ n ∧ n ≤ 31) : DT (dec n) := DT.of (by have := all_rng days_num (i := n - 1) (by omega); rwa [show 1 + (n - 1) = n by omega] at this)
theorem dt_back {n : Nat} (h : 1 ≤ n ∧ n ≤ 30) : DT ("L-" ++ dec n) := DT.of (by have := all_rng days_back (i := n - 1) (by omega); rwa [show 1 + (n - 1) = n by omega] at this)
theorem dt_near {n : Nat} (h : 1 ≤ n ∧ n ≤ 31) : DT (dec n ++ "W") := DT.of (by have := all_rng days_near (i := n - 1) (by omega); rwa [show 1 + (n - 1) = n by omega] at this)
theorem dt_more {n : Nat} (h : 1 ≤ n ∧ n ≤ 31) : DT ("1-7," ++ dec n) := DT.of (by have := all_rng days_more (i := n - 1) (by omega); rwa [show 1 + (n - 1) = n by omega] at this)
theorem dt_lit {x : Str} (h : x ∈ (["*", "L", "LW", "29", "31", "*/2", "1W", "30"] : List Str)) : DT x := DT.of (all_lit days_lit h)
theorem wt_num {n : Nat} (h : n < 8) : WT (dec n) := WT.of (all_rng wdays_num h)
theorem wt_last {n : Nat} (h : n < 8) : WT (dec n ++ "L") := WT.of (all_rng wdays_last h)
theorem wt_5 {n : Nat} (h : n < 8) : WT (dec n ++ "#5") := WT.of (all_rng wdays_5 h)
theorem wt_nth {n m : Nat} (h : n < 8) (hm : 1 ≤ m ∧ m ≤ 5) : WT (dec n ++ "#" ++ dec m) := WT.of (by
  have := all_rng (all_rng wdays_nth h) (i := m - 1) (by omega)
  rwa [show 1 + (m - 1) = m by omega] at this)
theorem wt_lit {x : Str} (h : x ∈ (["*", "1-5", "5-7"] : List Str)) : WT x := WT.of (all_lit wdays_lit h)
def daysL (n : Nat) (back : Str) : List Str := ["*", dec n, "*", "L", back, dec n ++ "W", "LW", "29", "*", "31", "1-7," ++ dec n, "*/2"]
def wdaysL (n m : Nat) : List Str := ["*", "*", "1-5", dec n, dec n ++ "#" ++ dec m, dec n ++ "L", dec n ++ "#5", "5-7", "*", "*"]
theorem daysL_ok {n : Nat} {b : Str} (h : 1 ≤ n ∧ n ≤ 31) (hb : DT b) : ∀ x ∈ daysL n b, DT x := by
  intro x hx
  simp only [daysL, List.mem_cons, List.not_mem_nil, or_false] at hx
  rcases hx with rfl | rfl | rfl | rfl | rfl | rfl | rfl | rfl | rfl | rfl | rfl | rfl
  · exact dt_lit (by simp)
  · exact dt_num h
  · exact dt_lit (by simp)
  · exact dt_lit (by simp)
  · exact hb
  · exact dt_near h
  · exact dt_lit (by simp)
  · exact dt_lit (by simp)
  · exact dt_lit (by simp)
  · exact dt_lit (by simp)
  · exact dt_more h
  · exact dt_lit (by simp)
theorem wdaysL_ok {n m : Nat} (h : n < 8) (hm : 1 ≤ m ∧ m ≤ 5) : ∀ x ∈ wdaysL n m, WT x := by
  intro x hx
  simp only [wdaysL, List.mem_cons, List.not_mem_nil, or_false] at hx
  rcases hx with rfl | rfl | rfl | rfl | rfl | rfl | rfl | rfl | rfl | rfl
  · exact wt_lit (by simp)
  · exact wt_lit (by simp)
  · exact wt_lit (by simp)
  · exact wt_num h
  · exact wt_nth h hm
  · exact wt_last h
  · exact wt_5 h
  · exact wt_lit (by simp)
  · exact wt_lit (by simp)
  · exact wt_lit (by simp)
theorem pick {P : Str → Prop} {l : List Str} (h : ∀ x ∈ l, P x) {p : Int} (h0 : 0 ≤ p) (h1 : p < l.length) : ∃ x, L2.atI (l.map D.str) p = some (.str x) ∧ P x := by
  have hn : p.toNat < l.length := by omega
  refine ⟨l[p.toNat], ?_, h _ (List.getElem_mem ..)⟩
  rw [atI_lit h0 (by simpa using h1)]
  simp [hn]
theorem ft_two : FT 1 12 13 "2" (maskL (upto 2 2)) := by
  have e : ("2" : Str) = dec 2 := by decide +kernel
  have r := maskL_rng (K := 13) (ns := upto 2 2) (fun n hn => by have := upto_mem hn; omega) (upto_ne (by omega))
  rw [e]
  exact (item_one (lo := 1) (hi := 12) (n := 2) (by omega) (NumOk.month (by omega) (by omega))).ft r.1 r.2
theorem read_five {w0 w1 w2 w3 w4 : Str} {mm hh mo : Int} (f0 : FT 0 59 60 w0 mm) (f1 : FT 0 23 24 w1 hh) (f2 : DT w2) (f3 : FT 1 12 13 w3 mo) (f4 : WT w4) :
    bJoin (.str " ") (.lst [.str w0, .str w1, .str w2, .str w3, .str w4]) = some (.str (Str.join ⟨#[32]⟩ [w0, w1, w2, w3, w4])) ∧ ∃ d, m_read_row [.str (Str.join ⟨#[32]⟩ [w0, w1, w2, w3, w4])] = some d ∧ RowOk d := by
  obtain ⟨s, l⟩ := join5 f0.w f1.w f2.w f3.w f4.w
  refine ⟨join_eq (ws := [w0, w1, w2, w3, w4]) ?_, RowOk.read s l f0 f1 f2 f3 f4⟩
  have := f0.w.ln
  have := f1.w.ln
  have := f2.w.ln
  have := f3.w.ln
  have := f4.w.ln
  simp
  omega
theorem law_row_ok {c : Int} {mx : Bool} : ∃ d, m__law_row [.int c, .bl mx] = some d ∧ RowOk d := by
  obtain ⟨ds, e, hd⟩ := digits_ok (c := c) (mx := mx) (ss := [8, 2, 12, 31, 10, 8, 5, 7, 12, 12, 9, 7, 24, 24, 9, 7, 60, 60, 9]) (by decide) (by decide)
  obtain ⟨p0, _, rfl, a0, b0, p1, _, rfl, a1, b1, p2, _, rfl, a2, b2, p3, _, rfl, a3, b3, p4, _, rfl, a4, b4, p5, _, rfl, a5, b5, p6, _, rfl, a6, b6, p7, _, rfl, a7, b7, p8, _, rfl, a8, b8, p9, _, rfl, a9, b9, hd⟩ := hd
  obtain ⟨q0, _, rfl, c0, d0, q1, _, rfl, c1, d1, q2, _, rfl, c2, d2, q3, _, rfl, c3, d3, q4, _, rfl, c4, d4, q5, _, rfl, c5, d5, q6, _, rfl, c6, d6, q7, _, rfl, c7, d7, q8, _, rfl, c8, d8, hd⟩ := hd
  cases hd
  obtain ⟨aM, bM, sM, m1, m2, m3, m4, m5, eM⟩ := law_field_ok (p0 := q5) (p1 := q6) (p2 := q7) (p3 := q8) (lo := 0) (hi := 59) (by decide) ⟨c5, d5⟩ c6 c7 ⟨c8, d8⟩
  obtain ⟨aH, bH, sH, h1, h2, h3, h4, h5, eH⟩ := law_field_ok (p0 := q1) (p1 := q2) (p2 := q3) (p3 := q4) (lo := 0) (hi := 23) (by decide) ⟨c1, d1⟩ c2 c3 ⟨c4, d4⟩
  obtain ⟨aO, bO, sO, o1, o2, o3, o4, o5, eO⟩ := law_field_ok (p0 := p7) (p1 := p8) (p2 := p9) (p3 := q0) (lo := 1) (hi := 12) (by decide) ⟨a7, b7⟩ a8 a9 ⟨c0, d0⟩
  have FM := fieldT_ok (lo := 0) (hi := 59) (K := 60) (p := q5) (by decide) ⟨m1, m2, m3⟩ ⟨m4, m5⟩ (fun n h h' => NumOk.min h h')
  have FH := fieldT_ok (lo := 0) (hi := 23) (K := 24) (p := q1) (by decide) ⟨h1, h2, h3⟩ ⟨h4, h5⟩ (fun n h h' => NumOk.hour h h')
  have FO := fieldT_ok (lo := 1) (hi := 12) (K := 13) (p := p7) (by decide) ⟨o1, o2, o3⟩ ⟨o4, o5⟩ (fun n h h' => NumOk.month h h')
  have hN : 1 ≤ (1 + p3).toNat ∧ (1 + p3).toNat ≤ 31 := by omega
  have hW : p5.toNat < 8 := by omega
  have hS : 1 ≤ (1 + p6).toNat ∧ (1 + p6).toNat ≤ 5 := by omega
  obtain ⟨back, hback⟩ : ∃ b : Str, b = (if p3 = 30 then ("L-30" : Str) else "L-" ++ dec (1 + p3).toNat) := ⟨_, rfl⟩
  have hB : DT back := by
    by_cases z : p3 = 30
    · have : back = "L-" ++ dec 30 := by
        rw [hback, if_pos z]
        decide +kernel
      rw [this]
      exact dt_back (by decide)
    · have : back = "L-" ++ dec (1 + p3).toNat := hback.trans (if_neg z)
      rw [this]
      exact dt_back (by omega)
  obtain ⟨xd, ed, hxd⟩ := pick (daysL_ok hN hB) a2 b2
  obtain ⟨xw, ew, hxw⟩ := pick (wdaysL_ok hW hS) a4 b4
  have s3 := bstr_int (i := 1 + p3) (by omega) (by omega)
  have s5 := bstr_int (i := p5) (by omega) (by omega)
  have s6 := bstr_int (i := 1 + p6) (by omega) (by omega)
  have l3 := dec_len60 (n := (1 + p3).toNat) (by omega)
  have l5 := dec_len60 (n := p5.toNat) (by omega)
  have l6 := dec_len60 (n := (1 + p6).toNat) (by omega)
  have k1 : ("L-" : Str).length = 2 := by decide +kernel
  have k2 : ("W" : Str).length = 1 := by decide +kernel
  have k3 : ("1-7," : Str).length = 4 := by decide +kernel
  have k4 : ("#" : Str).length = 1 := by decide +kernel
  have k5 : ("L" : Str).length = 1 := by decide +kernel
  have k6 : ("#5" : Str).length = 2 := by decide +kernel
  have e1 : opAdd (.str "L-") (.str (dec (1 + p3).toNat)) = some (.str ("L-" ++ dec (1 + p3).toNat)) := add_str (by omega)
  have e2 : opAdd (.str (dec (1 + p3).toNat)) (.str "W") = some (.str (dec (1 + p3).toNat ++ "W")) := add_str (by omega)
  have e3 : opAdd (.str "1-7,") (.str (dec (1 + p3).toNat)) = some (.str ("1-7," ++ dec (1 + p3).toNat)) := add_str (by omega)
  have e4 : opAdd (.str (dec p5.toNat)) (.str "#") = some (.str (dec p5.toNat ++ "#")) := add_str (by omega)
  have e5 : opAdd (.str (dec p5.toNat ++ "#")) (.str (dec (1 + p6).toNat)) = some (.str (dec p5.toNat ++ "#" ++ dec (1 + p6).toNat)) := add_str (by rw [len_app]; omega)
  have e6 : opAdd (.str (dec p5.toNat)) (.str "L") = some (.str (dec p5.toNat ++ "L")) := add_str (by omega)
  have e7 : opAdd (.str (dec p5.toNat)) (.str "#5") = some (.str (dec p5.toNat ++ "#5")) := add_str (by omega)
  generalize hds : [p0, p1, p2, p3, p4, p5, p6, p7, p8, p9, q0, q1, q2, q3, q4, q5, q6, q7, q8] = ds at e
  have i0 : L2.atI (intD ds) 0 = some (.int p0) := by rw [← hds]; rfl
  have i1 : L2.atI (intD ds) 1 = some (.int p1) := by rw [← hds]; rfl
  have i2 : L2.atI (intD ds) 2 = some (.int p2) := by rw [← hds]; rfl
  have i3 : L2.atI (intD ds) 3 = some (.int p3) := by rw [← hds]; rfl
  have i4 : L2.atI (intD ds) 4 = some (.int p4) := by rw [← hds]; rfl
  have i5 : L2.atI (intD ds) 5 = some (.int p5) := by rw [← hds]; rfl
  have i6 : L2.atI (intD ds) 6 = some (.int p6) := by rw [← hds]; rfl
  have t1 : opSl (.lst (intD ds)) (some 15) none = some (.lst (intD [q5, q6, q7, q8])) := by rw [← hds]; rfl
  have t2 : opSl (.lst (intD ds)) (some 11) (some 15) = some (.lst (intD [q1, q2, q3, q4])) := by rw [← hds]; rfl
  have t3 : opSl (.lst (intD ds)) (some 7) (some 11) = some (.lst (intD [p7, p8, p9, q0])) := by rw [← hds]; rfl
  have ss : intD [8, 2, 12, 31, 10, 8, 5, 7, 12, 12, 9, 7, 24, 24, 9, 7, 60, 60, 9] = [.int 8, .int 2, .int 12, .int 31, .int 10, .int 8, .int 5, .int 7, .int 12, .int 12, .int 9, .int 7, .int 24, .int 24, .int 9, .int 7, .int 60, .int 60, .int 9] := rfl
  rw [ss] at e
  have cat : ∀ a b c d f : D, bCat (.lst [a, b, c]) (.lst [d, f]) = some [a, b, c, d, f] := fun _ _ _ _ _ => rfl
  generalize fieldT q5 aM bM sM = wM at *
  generalize fieldT q1 aH bH sH = wH at *
  generalize fieldT p7 aO bO sO = wO at *
  have ed' : L2.atI [D.str "*", .str (dec (1 + p3).toNat), .str "*", .str "L", .str back, .str (dec (1 + p3).toNat ++ "W"), .str "LW", .str "29", .str "*", .str "31", .str ("1-7," ++ dec (1 + p3).toNat), .str "*/2"] p2 = some (.str xd) := ed
  have ew' : L2.atI [D.str "*", .str "*", .str "1-5", .str (dec p5.toNat), .str (dec p5.toNat ++ "#" ++ dec (1 + p6).toNat), .str (dec p5.toNat ++ "L"), .str (dec p5.toNat ++ "#5"), .str "5-7", .str "*", .str "*"] p4 = some (.str xw) := ew
  obtain ⟨J1, d1', R1, K1⟩ := read_five FM FH hxd FO hxw
  have l1 : L2.atI [D.str "29", D.str "*"] p1 = some (.str (if p1 = 0 then "29" else "*")) := by
    rcases (by omega : p1 = 0 ∨ p1 = 1) with rfl | rfl <;> rfl
  have l2 : L2.atI [D.str "*", D.str (dec p5.toNat ++ "#5")] p1 = some (.str (if p1 = 0 then "*" else dec p5.toNat ++ "#5")) := by
    rcases (by omega : p1 = 0 ∨ p1 = 1) with rfl | rfl <;> rfl
  have g2 : DT (if p1 = 0 then "29" else "*") := by split <;> exact dt_lit (by simp)
  have g4 : WT (if p1 = 0 then "*" else dec p5.toNat ++ "#5") := by
    split
    · exact wt_lit (by simp)
    · exact wt_5 hW
  obtain ⟨J2, d2', R2, K2⟩ := read_five FM FH g2 ft_two g4
  generalize (if p1 = 0 then ("29" : Str) else "*") = y2 at *
  generalize (if p1 = 0 then ("*" : Str) else dec p5.toNat ++ "#5") = y4 at *
  have ix4 : ixN 12 4 = some 4 := rfl
  unfold m__law_row m__law_row_b
  by_cases z : p3 = 30
  · rw [if_pos z] at hback
    subst hback
    subst z
    simp only [Int.reduceAdd, Int.reduceToNat] at *
    by_cases y : p0 = 3
    · refine ⟨d2', ?_, K2⟩
      simp [startD, apD, e, opIx, i0, i1, i2, i3, i4, i5, i6, s3, s5, s6, e1, e2, e3, e4, e5, e6, e7, sSetI, ix4, y, t1, t2, t3, eM, eH, eO, dOwnIx, ed', ew', cat, frzD, sSetTail, l1, l2, J2, R2]
    · refine ⟨d1', ?_, K1⟩
      simp [startD, apD, e, opIx, i0, i1, i2, i3, i4, i5, i6, s3, s5, s6, e1, e2, e3, e4, e5, e6, e7, sSetI, ix4, y, t1, t2, t3, eM, eH, eO, dOwnIx, ed', ew', cat, frzD, sSetTail, l1, l2, J1, R1]
  · rw [if_neg z] at hback
    subst hback
    by_cases y : p0 = 3
    · refine ⟨d2', ?_, K2⟩
      simp [startD, apD, e, opIx, i0, i1, i2, i3, i4, i5, i6, s3, s5, s6, e1, e2, e3, e4, e5, e6, e7, sSetI, ix4, z, y, t1, t2, t3, eM, eH, eO, dOwnIx, ed', ew', cat, frzD, sSetTail, l1, l2, J2, R2]
    · refine ⟨d1', ?_, K1⟩
      simp [startD, apD, e, opIx, i0, i1, i2, i3, i4, i5, i6, s3, s5, s6, e1, e2, e3, e4, e5, e6, e7, sSetI, ix4, z, y, t1, t2, t3, eM, eH, eO, dOwnIx, ed', ew', cat, frzD, sSetTail, l1, l2, J1, R1]
end DL
set_option maxRecDepth 100000
namespace DL
open PySem L2
/-! ### rare rows -/
structure Tail (x : Str) : Prop where
  ex : ∃ w2 w3 w4 mo, x = w2 ++ " " ++ w3 ++ " " ++ w4 ∧ DT w2 ∧ FT 1 12 13 w3 mo ∧ WT w4
theorem ft_num {n : Nat} (h : 1 ≤ n ∧ n ≤ 12) : FT 1 12 13 (dec n) (maskL (upto n n)) := by
  have r := maskL_rng (K := 13) (ns := upto n n) (fun k hk => by have := upto_mem hk; omega) (upto_ne (by omega))
  exact (item_one (lo := 1) (hi := 12) (n := n) (by omega) (NumOk.month (by omega) (by omega))).ft r.1 r.2
theorem ft_13 : ∃ mo, FT 1 12 13 "1,3" mo := by
  have e : ("1,3" : Str) = dec 1 ++ "," ++ dec 3 := by decide +kernel
  have r := fun (n : Nat) (h : 1 ≤ n ∧ n ≤ 12) => maskL_rng (K := 13) (ns := upto n n) (fun k hk => by have := upto_mem hk; omega) (upto_ne (by omega))
  rw [e]
  exact ⟨_, (item_one (lo := 1) (hi := 12) (n := 1) (by omega) (NumOk.month (by omega) (by omega))).ft2 (item_one (lo := 1) (hi := 12) (n := 3) (by omega) (NumOk.month (by omega) (by omega))) (r 1 (by decide)).1 (r 1 (by decide)).2 (r 3 (by decide)).1 (r 3 (by decide)).2⟩
theorem ft_star : ∃ mo, FT 1 12 13 "*" mo := by
  have r := maskL_rng (K := 13) (ns := upto 1 12) (fun k hk => by have := upto_mem hk; omega) (upto_ne (by omega))
  exact ⟨_, (item_star (lo := 1) (hi := 12) (by decide)).ft r.1 r.2⟩
theorem ft_11 : ∃ mo, FT 1 12 13 "11" mo := by
  have e : ("11" : Str) = dec 11 := by decide +kernel
  rw [e]
  exact ⟨_, ft_num (by decide)⟩
def rareL (n : Nat) : List Str := ["* 2 " ++ dec n ++ "#5", "29 2 *", "31 1,3 *", "LW 2 *", "* * " ++ dec n ++ "#5", "1W 11 *", "30 2 *"]
theorem rareL_ok {n : Nat} (h : n < 8) : ∀ x ∈ rareL n, Tail x := by
  intro x hx
  simp only [rareL, List.mem_cons, List.not_mem_nil, or_false] at hx
  obtain ⟨m1, f1⟩ := ft_13
  obtain ⟨m2, f2⟩ := ft_star
  obtain ⟨m3, f3⟩ := ft_11
  rcases hx with rfl | rfl | rfl | rfl | rfl | rfl | rfl
  · exact ⟨"*", "2", dec n ++ "#5", _, by rw [show ("* 2 " : Str) = "*" ++ " " ++ "2" ++ " " by decide +kernel]; simp [Str.append_assoc], dt_lit (by simp), ft_two, wt_5 h⟩
  · exact ⟨"29", "2", "*", _, by decide +kernel, dt_lit (by simp), ft_two, wt_lit (by simp)⟩
  · exact ⟨"31", "1,3", "*", _, by decide +kernel, dt_lit (by simp), f1, wt_lit (by simp)⟩
  · exact ⟨"LW", "2", "*", _, by decide +kernel, dt_lit (by simp), ft_two, wt_lit (by simp)⟩
  · exact ⟨"*", "*", dec n ++ "#5", _, by rw [show ("* * " : Str) = "*" ++ " " ++ "*" ++ " " by decide +kernel]; simp [Str.append_assoc], dt_lit (by simp), f2, wt_5 h⟩
  · exact ⟨"1W", "11", "*", _, by decide +kernel, dt_lit (by simp), f3, wt_lit (by simp)⟩
  · exact ⟨"30", "2", "*", _, by decide +kernel, dt_lit (by simp), ft_two, wt_lit (by simp)⟩
theorem law_rare_ok {c : Int} {mx : Bool} : ∃ d, m__law_rare [.int c, .bl mx] = some d ∧ RowOk d := by
  obtain ⟨ds, e, hd⟩ := digits_ok (c := c) (mx := mx) (ss := [7, 7, 60, 24]) (by decide) (by decide)
  obtain ⟨p0, _, rfl, a0, b0, p1, _, rfl, a1, b1, p2, _, rfl, a2, b2, p3, _, rfl, a3, b3, hd⟩ := hd
  cases hd
  obtain ⟨x, ex, tl⟩ := pick (rareL_ok (n := p1.toNat) (by omega)) a0 b0
  obtain ⟨w2, w3, w4, mo, rfl, h2, h3, h4⟩ := tl.ex
  have r1 := maskL_rng (K := 60) (ns := upto p2.toNat p2.toNat) (fun k hk => by have := upto_mem hk; omega) (upto_ne (by omega))
  have r2 := maskL_rng (K := 24) (ns := upto p3.toNat p3.toNat) (fun k hk => by have := upto_mem hk; omega) (upto_ne (by omega))
  have F0 := (item_one (lo := 0) (hi := 59) (n := p2.toNat) (by omega) (NumOk.min (by omega) (by omega))).ft r1.1 r1.2
  have F1 := (item_one (lo := 0) (hi := 23) (n := p3.toNat) (by omega) (NumOk.hour (by omega) (by omega))).ft r2.1 r2.2
  obtain ⟨J, d, R, K⟩ := read_five F0 F1 h2 h3 h4
  refine ⟨d, ?_, K⟩
  have s1 := bstr_int (i := p1) (by omega) (by omega)
  have s2 := bstr_int (i := p2) (by omega) (by omega)
  have s3 := bstr_int (i := p3) (by omega) (by omega)
  have l1 := dec_len60 (n := p1.toNat) (by omega)
  have l2 := dec_len60 (n := p2.toNat) (by omega)
  have l3 := dec_len60 (n := p3.toNat) (by omega)
  have k1 : ("* 2 " : Str).length = 4 := by decide +kernel
  have k2 : ("* * " : Str).length = 4 := by decide +kernel
  have k3 : ("#5" : Str).length = 2 := by decide +kernel
  have k4 : (" " : Str).length = 1 := by decide +kernel
  have e1 : opAdd (.str "* 2 ") (.str (dec p1.toNat)) = some (.str ("* 2 " ++ dec p1.toNat)) := add_str (by omega)
  have e2 : opAdd (.str ("* 2 " ++ dec p1.toNat)) (.str "#5") = some (.str ("* 2 " ++ dec p1.toNat ++ "#5")) := add_str (by rw [len_app]; omega)
  have e3 : opAdd (.str "* * ") (.str (dec p1.toNat)) = some (.str ("* * " ++ dec p1.toNat)) := add_str (by omega)
  have e4 : opAdd (.str ("* * " ++ dec p1.toNat)) (.str "#5") = some (.str ("* * " ++ dec p1.toNat ++ "#5")) := add_str (by rw [len_app]; omega)
  have t1 : opAdd (.str (dec p2.toNat)) (.str " ") = some (.str (dec p2.toNat ++ " ")) := add_str (by omega)
  have t2 : opAdd (.str (dec p2.toNat ++ " ")) (.str (dec p3.toNat)) = some (.str (dec p2.toNat ++ " " ++ dec p3.toNat)) := add_str (by rw [len_app]; omega)
  have t3 : opAdd (.str (dec p2.toNat ++ " " ++ dec p3.toNat)) (.str " ") = some (.str (dec p2.toNat ++ " " ++ dec p3.toNat ++ " ")) := add_str (by rw [len_app, len_app]; omega)
  have t4 : opAdd (.str (dec p2.toNat ++ " " ++ dec p3.toNat ++ " ")) (.str (w2 ++ " " ++ w3 ++ " " ++ w4)) = some (.str (Str.join ⟨#[32]⟩ [dec p2.toNat, dec p3.toNat, w2, w3, w4])) := by
    rw [add_str]
    · rw [sep_blank]
      simp [Str.join, Str.append_assoc]
    · have := h2.w.ln
      have := h3.w.ln
      have := h4.w.ln
      simp only [len_app]
      omega
  have ex' : L2.atI [D.str ("* 2 " ++ dec p1.toNat ++ "#5"), .str "29 2 *", .str "31 1,3 *", .str "LW 2 *", .str ("* * " ++ dec p1.toNat ++ "#5"), .str "1W 11 *", .str "30 2 *"] p0 = some (.str (w2 ++ " " ++ w3 ++ " " ++ w4)) := ex
  have i0 : L2.atI (intD [p0, p1, p2, p3]) 0 = some (.int p0) := rfl
  have i1 : L2.atI (intD [p0, p1, p2, p3]) 1 = some (.int p1) := rfl
  have i2 : L2.atI (intD [p0, p1, p2, p3]) 2 = some (.int p2) := rfl
  have i3 : L2.atI (intD [p0, p1, p2, p3]) 3 = some (.int p3) := rfl
  have ss : intD [7, 7, 60, 24] = [.int 7, .int 7, .int 60, .int 24] := rfl
  rw [ss] at e
  unfold m__law_rare m__law_rare_b
  simp [startD, apD, e, opIx, i0, i1, i2, i3, s1, s2, s3, e1, e2, e3, e4, t1, t2, t3, ex', t4, R]
end DL
set_option maxRecDepth 100000
set_option exponentiation.threshold 2000
namespace DL
open PySem L2
/-! ### trees, with the books that they make -/
structure Kid where
  t : D
  p : Part
  rs : List D
structure Tr (n : Nat) (q : Kid) : Prop where
  m : ∀ j, n ≤ j → TrM j q.t q.p.M
  b : ∀ j, n ≤ j → TrB j q.t q.p.b
  r : ∀ j, n ≤ j → TrR j q.t q.rs
  k : Bk q.p.b n q.p.M q.p.ta q.p.de
  ro : ∀ d ∈ q.rs, RowOk d
theorem Tr.up {n n' : Nat} {q : Kid} (h : Tr n q) (l : n ≤ n') : Tr n' q := ⟨fun j z => h.m j (by omega), fun j z => h.b j (by omega), fun j z => h.r j (by omega), h.k.up l, h.ro⟩
theorem TrM.eq {n : Nat} {t : D} {A B : Ms} (h : TrM n t A) (e : ∀ k, k < 91 → A k = B k) : TrM n t B := fun k hk => by rw [h k hk, e k hk]
theorem suc {n j : Nat} (h : n + 1 ≤ j) : ∃ i, j = i + 1 ∧ n ≤ i := ⟨j - 1, by omega, by omega⟩
theorem parts_of {n : Nat} {qs : List Kid} (h : ∀ q ∈ qs, Tr n q) : Parts n (qs.map (·.p)) := fun p hp => by
  obtain ⟨q, hq, rfl⟩ := List.mem_map.mp hp
  exact (h q hq).k
theorem ro_flat {n : Nat} {qs : List Kid} (h : ∀ q ∈ qs, Tr n q) : ∀ d ∈ (qs.map (·.rs)).flatten, RowOk d := fun d hd => by
  obtain ⟨l, hl, hd⟩ := List.mem_flatten.mp hd
  obtain ⟨q, hq, rfl⟩ := List.mem_map.mp hl
  exact (h q hq).ro d hd
theorem rows_kids {n : Nat} {w : Str} (hw : ¬ w = "row") {qs : List Kid} (h : ∀ q ∈ qs, TrR n q.t q.rs) (hl : (qs.map fun q => q.rs.length).sum ≤ 1000) : TrR (n + 1) (.tup [.str w, .lst (qs.map (·.t))]) (qs.map (·.rs)).flatten := by
  have := rows_fold (n := n) (w := w) hw (ts := qs.map fun q => (q.t, q.rs)) (fun x hx => by
    obtain ⟨q, hq, rfl⟩ := List.mem_map.mp hx
    exact h q hq) (by rw [List.map_map]; exact hl)
  simpa [List.map_map, Function.comp_def] using this
def noneK : Kid := ⟨.tup [.str "none", .lst []], ⟨.ins 8 [], zeroM, 1, 1⟩, []⟩
def rowK (d : D) (t : Int) : Kid := ⟨.tup [.str "row", .lst [d, .int t]], ⟨.ins 9 [d, .int t, .any], rowM d t, 1, 1⟩, [d]⟩
def taS (qs : List Kid) : Int := 1 + ((qs.map (·.p)).map (·.ta)).sum
def deS (qs : List Kid) : Int := 1 + maxI ((qs.map (·.p)).map (·.de))
def joinK (qs : List Kid) : Kid := ⟨.tup [.str "join", .lst (qs.map (·.t))], ⟨.ins 10 [.tup ((qs.map (·.p)).map (·.b))], foldM bO zeroM (qs.map (·.p)), taS qs, deS qs⟩, (qs.map (·.rs)).flatten⟩
def meetK (qs : List Kid) : Kid := ⟨.tup [.str "meet", .lst (qs.map (·.t))], ⟨.ins 11 [.tup ((qs.map (·.p)).map (·.b))], foldM bA fullM (qs.map (·.p)), taS qs, deS qs⟩, (qs.map (·.rs)).flatten⟩
def lessK (x y : Kid) : Kid := ⟨.tup [.str "less", .lst [x.t, y.t]], ⟨.ins 12 [x.p.b, y.p.b], zipM lessI x.p.M y.p.M, 1 + x.p.ta + y.p.ta, 1 + (if y.p.de > x.p.de then y.p.de else x.p.de)⟩, x.rs ++ y.rs⟩
def turnK (x : Kid) : Kid := ⟨.tup [.str "turn", .lst [x.t]], ⟨.ins 13 [x.p.b], turnM x.p.M, 1 + x.p.ta, 1 + x.p.de⟩, x.rs⟩
theorem tr_none : Tr 1 noneK := by
  refine ⟨fun j z k hk => ?_, fun j z => ?_, fun j z => ?_, bk_none, fun d hd => nomatch hd⟩ <;> obtain ⟨i, rfl, _⟩ := suc (n := 0) z
  · exact masks_none hk
  · exact make_none
  · have := rows_kids (n := i) (w := "none") (by decide +kernel) (qs := []) (fun q hq => nomatch hq) (by simp)
    exact this
theorem tr_row {d : D} {t : Int} (h : RowOk d) (ht : m_Row_times [d] = some (.int t)) (t0 : 0 ≤ t) (t1 : t < 2 ^ 1440) : Tr 1 (rowK d t) := by
  refine ⟨fun j z k hk => ?_, fun j z => ?_, fun j z => ?_, bk_of h t0 t1, fun x hx => ?_⟩
  · obtain ⟨i, rfl, _⟩ := suc (n := 0) z
    exact masks_row hk h
  · obtain ⟨i, rfl, _⟩ := suc (n := 0) z
    exact make_row h ht
  · obtain ⟨i, rfl, _⟩ := suc (n := 0) z
    exact rows_row
  · have : x ∈ [d] := hx
    rw [List.mem_singleton] at this
    rw [this]
    exact h
theorem zip_id {g : Int → Int → Int} {c : Int} : ∀ {l : List Int} {n : Nat}, l.length = n → (∀ x ∈ l, g c x = x) → List.zipWith g (List.replicate n c) l = l
  | [], n, h, _ => by simp
  | x :: l, 0, h, _ => by simp at h
  | x :: l, n + 1, h, e => by
    rw [List.replicate_succ, List.zipWith_cons_cons, e x (List.mem_cons_self ..), zip_id (by simpa using h) fun y hy => e y (List.mem_cons_of_mem _ hy)]
theorem zero_join {A : Ms} (h : MsOk A) {k : Nat} (hk : k < 91) : zipM bO zeroM A k = A k := zip_id (h.len k hk) fun x _ => zero_or x
theorem full_meet {A : Ms} (h : MsOk A) {k : Nat} (hk : k < 91) : zipM bA fullM A k = A k := zip_id (h.len k hk) fun x hx => by
  obtain ⟨h0, h1⟩ := h.rng k hk x hx
  show Builtin.bitAnd full x = x
  unfold full
  rw [PySem.W.kbt_mask']
  exact Int.emod_eq_of_lt h0 h1
theorem fold_eq {g : Int → Int → Int} {k : Nat} : ∀ (ps : List Part) {A B : Ms}, A k = B k → foldM g A ps k = foldM g B ps k
  | [], A, B, h => h
  | p :: ps, A, B, h => fold_eq ps (by show List.zipWith g (A k) _ = List.zipWith g (B k) _; rw [h])
theorem fold_kids {g : Int → Int → Int} : ∀ (qs : List Kid) (A : Ms), ((qs.map fun q => (q.t, q.p.M)).foldl (fun B q => zipM g B q.2) A) = foldM g A (qs.map (·.p))
  | [], A => rfl
  | q :: qs, A => by
    rw [List.map_cons, List.foldl_cons, List.map_cons]
    exact fold_kids qs _
theorem masks_kids {n : Nat} {w : Str} {g : Int → Int → Int} (h1 : ¬ w = "none") (h2 : ¬ w = "row") (h3 : ¬ w = "turn") (hg : ∀ x y : Int, m__law_joined [.str w, .int x, .int y] = some (.int (g x y))) (hgM : ∀ A B, MsOk A → MsOk B → MsOk (zipM g A B)) {q : Kid} {qs : List Kid} (h : ∀ x ∈ q :: qs, TrM n x.t x.p.M ∧ MsOk x.p.M) :
    TrM (n + 1) (.tup [.str w, .lst ((q :: qs).map (·.t))]) (foldM g q.p.M (qs.map (·.p))) := fun k hk => by
  have hq := h q (List.mem_cons_self ..)
  have := masks_fold h1 h2 h3 hg hgM hk hq.1 hq.2 (ts := qs.map fun q => (q.t, q.p.M)) (fun x hx => by
    obtain ⟨y, hy, rfl⟩ := List.mem_map.mp hx
    exact h y (List.mem_cons_of_mem _ hy))
  rw [fold_kids, List.map_map] at this
  exact this
theorem qs_len {qs : List Kid} : ((qs.map (·.p)).map (·.b)) = qs.map fun q => q.p.b := by rw [List.map_map]; rfl
theorem tr_join {n : Nat} (hn : n ≤ 8) {qs : List Kid} (h : ∀ q ∈ qs, Tr n q) (s : Small (qs.map (·.p))) (hl : (qs.map fun q => q.rs.length).sum ≤ 1000) : Tr (n + 1) (joinK qs) := by
  have h0 := s.h0
  have l8 := s.hl
  refine ⟨fun j z => ?_, fun j z => ?_, fun j z => ?_, bk_joined h0 l8 (parts_of h), ro_flat h⟩
  · obtain ⟨i, rfl, hi⟩ := suc z
    cases qs with
    | nil => simp at h0
    | cons q qs =>
      refine (masks_kids (by decide +kernel) (by decide +kernel) (by decide +kernel) (fun x y => law_joined_join) (fun A B => orM_ok) (fun x hx => ⟨(h x hx).m i hi, (h x hx).k.ok⟩)).eq fun k hk => ?_
      show foldM bO q.p.M (qs.map (·.p)) k = foldM bO (zipM bO zeroM q.p.M) (qs.map (·.p)) k
      exact fold_eq _ (zero_join (h q (List.mem_cons_self ..)).k.ok hk).symm
  · obtain ⟨i, rfl, hi⟩ := suc z
    show TrB _ (.tup [.str "join", .lst (qs.map (·.t))]) (.ins 10 [.tup ((qs.map (·.p)).map (·.b))])
    have := make_join (n := i) (qs := qs.map fun q => (q.t, q.p)) (fun x hx => by
      obtain ⟨y, hy, rfl⟩ := List.mem_map.mp hx
      exact (h y hy).b i hi) (j := n) hn (by rw [List.map_map]; exact parts_of h) (by rw [List.map_map]; exact s)
    simpa [List.map_map, Function.comp_def] using this
  · obtain ⟨i, rfl, hi⟩ := suc z
    exact rows_kids (by decide +kernel) (fun q hq => (h q hq).r i hi) hl
theorem tr_meet {n : Nat} (hn : n ≤ 8) {qs : List Kid} (h : ∀ q ∈ qs, Tr n q) (s : Small (qs.map (·.p))) (hl : (qs.map fun q => q.rs.length).sum ≤ 1000) : Tr (n + 1) (meetK qs) := by
  have h0 := s.h0
  have l8 := s.hl
  refine ⟨fun j z => ?_, fun j z => ?_, fun j z => ?_, bk_met h0 l8 (parts_of h), ro_flat h⟩
  · obtain ⟨i, rfl, hi⟩ := suc z
    cases qs with
    | nil => simp at h0
    | cons q qs =>
      refine (masks_kids (by decide +kernel) (by decide +kernel) (by decide +kernel) (fun x y => law_joined_meet) (fun A B => andM_ok) (fun x hx => ⟨(h x hx).m i hi, (h x hx).k.ok⟩)).eq fun k hk => ?_
      show foldM bA q.p.M (qs.map (·.p)) k = foldM bA (zipM bA fullM q.p.M) (qs.map (·.p)) k
      exact fold_eq _ (full_meet (h q (List.mem_cons_self ..)).k.ok hk).symm
  · obtain ⟨i, rfl, hi⟩ := suc z
    show TrB _ (.tup [.str "meet", .lst (qs.map (·.t))]) (.ins 11 [.tup ((qs.map (·.p)).map (·.b))])
    have := make_meet (n := i) (qs := qs.map fun q => (q.t, q.p)) (fun x hx => by
      obtain ⟨y, hy, rfl⟩ := List.mem_map.mp hx
      exact (h y hy).b i hi) (j := n) hn (by rw [List.map_map]; exact parts_of h) (by rw [List.map_map]; exact s)
    simpa [List.map_map, Function.comp_def] using this
  · obtain ⟨i, rfl, hi⟩ := suc z
    exact rows_kids (by decide +kernel) (fun q hq => (h q hq).r i hi) hl
theorem less_eq {A B : Ms} (a : MsOk A) (b : MsOk B) {k : Nat} (hk : k < 91) : zipM (fun x y => bA x (full - y)) A B k = zipM lessI A B k := zip_same fun x hx y hy => by
  obtain ⟨x0, x1⟩ := a.rng k hk x hx
  obtain ⟨y0, y1⟩ := b.rng k hk y hy
  exact and_less 1440 x y x0 x1 y0 y1
theorem lessF_ok {A B : Ms} (a : MsOk A) (b : MsOk B) : MsOk (zipM (fun x y => bA x (full - y)) A B) := by
  have := lessM_ok a b
  exact ⟨fun k hk => by rw [less_eq a b hk]; exact this.len k hk, fun k hk => by rw [less_eq a b hk]; exact this.rng k hk⟩
theorem tr_less {n : Nat} (hn : n ≤ 8) {x y : Kid} (hx : Tr n x) (hy : Tr n y) (s : Small [x.p, y.p]) (hl : x.rs.length + y.rs.length ≤ 1000) : Tr (n + 1) (lessK x y) := by
  refine ⟨fun j z => ?_, fun j z => ?_, fun j z => ?_, bk_less hx.k hy.k, fun d hd => ?_⟩
  · obtain ⟨i, rfl, hi⟩ := suc z
    refine (masks_kids (w := "less") (q := x) (qs := [y]) (by decide +kernel) (by decide +kernel) (by decide +kernel) (fun x y => law_joined_less) (fun A B => lessF_ok) (fun v hv => ?_)).eq fun k hk => less_eq hx.k.ok hy.k.ok hk
    simp only [List.mem_cons, List.not_mem_nil, or_false] at hv
    rcases hv with rfl | rfl
    · exact ⟨hx.m i hi, hx.k.ok⟩
    · exact ⟨hy.m i hi, hy.k.ok⟩
  · obtain ⟨i, rfl, hi⟩ := suc z
    exact make_less (hx.b i hi) (hy.b i hi) (j := n) hn (fun p hp => by
      simp only [List.mem_cons, List.not_mem_nil, or_false] at hp
      rcases hp with rfl | rfl
      · exact hx.k
      · exact hy.k) s
  · obtain ⟨i, rfl, hi⟩ := suc z
    have := rows_kids (n := i) (w := "less") (by decide +kernel) (qs := [x, y]) (fun q hq => by
      simp only [List.mem_cons, List.not_mem_nil, or_false] at hq
      rcases hq with rfl | rfl
      · exact hx.r i hi
      · exact hy.r i hi) (by simpa using hl)
    simpa [lessK] using this
  · rcases List.mem_append.mp hd with h | h
    · exact hx.ro d h
    · exact hy.ro d h
theorem tr_turn {n : Nat} (hn : n ≤ 8) {x : Kid} (hx : Tr n x) (s : Small [x.p]) (hl : x.rs.length ≤ 1000) : Tr (n + 1) (turnK x) := by
  refine ⟨fun j z k hk => ?_, fun j z => ?_, fun j z => ?_, bk_turned hx.k, hx.ro⟩
  · obtain ⟨i, rfl, hi⟩ := suc z
    exact masks_turn hk hx.k.ok (hx.m i hi k hk)
  · obtain ⟨i, rfl, hi⟩ := suc z
    exact make_turn (hx.b i hi) (j := n) hn (fun p hp => by
      simp only [List.mem_cons, List.not_mem_nil, or_false] at hp
      rw [hp]
      exact hx.k) s
  · obtain ⟨i, rfl, hi⟩ := suc z
    have := rows_kids (n := i) (w := "turn") (by decide +kernel) (qs := [x]) (fun q hq => by
      simp only [List.mem_cons, List.not_mem_nil, or_false] at hq
      rw [hq]
      exact hx.r i hi) (by simpa using hl)
    simpa [turnK] using this
end DL
set_option maxRecDepth 100000
set_option exponentiation.threshold 2000
namespace DL
open PySem L2
/-! ### drawn trees -/
theorem lc_ex {T : TgD} {elt : DE} {ρ : Sl} {P : D → Prop} : ∀ (ds : List D), (∀ d ∈ ds, ∃ l y, T d = some l ∧ elt (apD ρ l) = some y ∧ P y) → ∃ ys, lcD T tTrue elt ρ ds = some ys ∧ ys.length = ds.length ∧ ∀ y ∈ ys, P y
  | [], _ => ⟨[], rfl, rfl, fun y hy => nomatch hy⟩
  | d :: ds, h => by
    obtain ⟨l, y, e1, e2, hy⟩ := h d (List.mem_cons_self ..)
    obtain ⟨ys, e3, e4, e5⟩ := lc_ex ds fun x hx => h x (List.mem_cons_of_mem _ hx)
    refine ⟨y :: ys, ?_, by simp [e4], fun z hz => ?_⟩
    · unfold lcD
      rw [e1]
      simp only [Option.bind_some, tTrue, e2, e3, Option.map_some]
    · rcases List.mem_cons.mp hz with rfl | hz
      · exact hy
      · exact e5 z hz
theorem ex_list {α β : Type} {f : α → β} {R : α → Prop} : ∀ {ys : List β}, (∀ y ∈ ys, ∃ q, y = f q ∧ R q) → ∃ qs : List α, ys = qs.map f ∧ ∀ q ∈ qs, R q
  | [], _ => ⟨[], rfl, fun q hq => nomatch hq⟩
  | y :: ys, h => by
    obtain ⟨q, rfl, hq⟩ := h y (List.mem_cons_self ..)
    obtain ⟨qs, rfl, h2⟩ := ex_list fun z hz => h z (List.mem_cons_of_mem _ hz)
    refine ⟨q :: qs, rfl, fun x hx => ?_⟩
    rcases List.mem_cons.mp hx with rfl | hx
    · exact hq
    · exact h2 x hx
def capT : Nat → Nat
  | 0 => 1
  | d + 1 => 1 + 3 * capT d
def capR : Nat → Nat
  | 0 => 1
  | d + 1 => 3 * capR d
/-- a drawn tree so deep at most -/
structure Drawn (d : Nat) (q : Kid) : Prop where
  tr : Tr (d + 1) q
  ta : q.p.ta ≤ capT d
  t0 : 1 ≤ q.p.ta
  de : q.p.de ≤ d + 1
  d0 : 1 ≤ q.p.de
  rs : q.rs.length ≤ capR d
theorem sum_le {α : Type} {f : α → Int} {c : Int} : ∀ {l : List α}, (∀ x ∈ l, f x ≤ c) → (l.map f).sum ≤ l.length * c
  | [], _ => by simp
  | x :: l, h => by
    have ih := sum_le fun y hy => h y (List.mem_cons_of_mem _ hy)
    have := h x (List.mem_cons_self ..)
    simp only [List.map_cons, List.sum_cons, List.length_cons]
    have e : ((l.length + 1 : Nat) : Int) * c = l.length * c + c := by rw [Int.natCast_add, Int.add_mul]; simp
    omega
theorem sum_leN {α : Type} {f : α → Nat} {c : Nat} : ∀ {l : List α}, (∀ x ∈ l, f x ≤ c) → (l.map f).sum ≤ l.length * c
  | [], _ => by simp
  | x :: l, h => by
    have ih := sum_leN fun y hy => h y (List.mem_cons_of_mem _ hy)
    have := h x (List.mem_cons_self ..)
    simp only [List.map_cons, List.sum_cons, List.length_cons, Nat.add_mul, Nat.one_mul]
    omega
theorem sum_pos {α : Type} {f : α → Int} : ∀ {l : List α}, (∀ x ∈ l, 0 ≤ f x) → 0 ≤ (l.map f).sum
  | [], _ => by simp
  | x :: l, h => by
    have ih := sum_pos fun y hy => h y (List.mem_cons_of_mem _ hy)
    have := h x (List.mem_cons_self ..)
    simp only [List.map_cons, List.sum_cons]
    omega
theorem maxI_le_all {c : Int} {ns : List Int} (h0 : 0 < ns.length) (h : ∀ x ∈ ns, x ≤ c) : maxI ns ≤ c := h _ (maxI_mem h0)
theorem kids_len {qs : List Kid} {c : Nat} (h : ∀ q ∈ qs, q.rs.length ≤ c) : ((qs.map (·.rs)).flatten).length ≤ qs.length * c := by
  rw [List.length_flatten, List.map_map]
  exact sum_leN h
theorem capT_le : ∀ d, d ≤ 2 → capT d ≤ 13 := by decide
theorem capR_le : ∀ d, d ≤ 2 → capR d ≤ 9 := by decide
section
variable {d : Nat} {qs : List Kid}
theorem kids_small (hd : d ≤ 1) (h : ∀ q ∈ qs, Drawn d q) (h0 : 0 < qs.length) (h3 : qs.length ≤ 3) : Small (qs.map (·.p)) ∧ 1 ≤ taS qs ∧ taS qs ≤ capT (d + 1) ∧ 1 ≤ deS qs ∧ deS qs ≤ d + 1 + 1 ∧ (qs.map fun q => q.rs.length).sum ≤ capR (d + 1) := by
  have a1 : ((qs.map (·.p)).map (·.ta)).sum ≤ qs.length * (capT d : Int) := by
    rw [List.map_map]
    exact sum_le fun q hq => (h q hq).ta
  have a0 : 0 ≤ ((qs.map (·.p)).map (·.ta)).sum := by
    rw [List.map_map]
    exact sum_pos fun q hq => by have := (h q hq).t0; show 0 ≤ q.p.ta; omega
  have a2 : (qs.length : Int) * (capT d : Int) ≤ 3 * (capT d : Int) := Int.mul_le_mul_of_nonneg_right (by omega) (by omega)
  have hl : 0 < ((qs.map (·.p)).map (·.de)).length := by simpa using h0
  have b1 : maxI ((qs.map (·.p)).map (·.de)) ≤ (d + 1 : Nat) := maxI_le_all hl fun x hx => by
    rw [List.map_map] at hx
    obtain ⟨q, hq, rfl⟩ := List.mem_map.mp hx
    exact (h q hq).de
  have b2 : 1 ≤ maxI ((qs.map (·.p)).map (·.de)) := by
    have := maxI_mem hl
    rw [List.map_map] at this
    obtain ⟨q, hq, e⟩ := List.mem_map.mp this
    have := (h q hq).d0
    rw [List.map_map, ← e]
    exact this
  have c1 : (qs.map fun q => q.rs.length).sum ≤ qs.length * capR d := sum_leN fun q hq => (h q hq).rs
  have c2 : qs.length * capR d ≤ 3 * capR d := Nat.mul_le_mul_right _ h3
  have e1 : capT d ≤ 4 := by
    have : ∀ d, d ≤ 1 → capT d ≤ 4 := by decide
    exact this d hd
  have e2 : capT (d + 1) = 1 + 3 * capT d := rfl
  have e3 : capR (d + 1) = 3 * capR d := rfl
  refine ⟨⟨by simpa using h0, by simp; omega, by omega, by omega⟩, by unfold taS; omega, by unfold taS; rw [e2]; omega, by unfold deS; omega, by unfold deS; omega, by omega⟩
theorem drawn_join (hd : d ≤ 1) (h : ∀ q ∈ qs, Drawn d q) (h0 : 0 < qs.length) (h3 : qs.length ≤ 3) : Drawn (d + 1) (joinK qs) := by
  obtain ⟨s, t0, t1, d0, d1, r⟩ := kids_small hd h h0 h3
  have := capR_le (d + 1) (by omega)
  refine ⟨tr_join (by omega) (fun q hq => (h q hq).tr) s (by omega), t1, t0, d1, d0, ?_⟩
  show ((qs.map (·.rs)).flatten).length ≤ _
  rw [List.length_flatten, List.map_map]
  exact r
theorem drawn_meet (hd : d ≤ 1) (h : ∀ q ∈ qs, Drawn d q) (h0 : 0 < qs.length) (h3 : qs.length ≤ 3) : Drawn (d + 1) (meetK qs) := by
  obtain ⟨s, t0, t1, d0, d1, r⟩ := kids_small hd h h0 h3
  have := capR_le (d + 1) (by omega)
  refine ⟨tr_meet (by omega) (fun q hq => (h q hq).tr) s (by omega), t1, t0, d1, d0, ?_⟩
  show ((qs.map (·.rs)).flatten).length ≤ _
  rw [List.length_flatten, List.map_map]
  exact r
theorem drawn_less (hd : d ≤ 1) {x y : Kid} (hx : Drawn d x) (hy : Drawn d y) : Drawn (d + 1) (lessK x y) := by
  obtain ⟨s, t0, t1, d0, d1, r⟩ := kids_small (qs := [x, y]) hd (fun q hq => by
    simp only [List.mem_cons, List.not_mem_nil, or_false] at hq
    rcases hq with rfl | rfl
    · exact hx
    · exact hy) (by simp) (by simp)
  have := capR_le (d + 1) (by omega)
  simp only [List.map_cons, List.map_nil, List.sum_cons, List.sum_nil, taS, deS] at t0 t1 d0 d1 r
  have md : maxI [x.p.de, y.p.de] = if y.p.de > x.p.de then y.p.de else x.p.de := by
    have q : maxI [x.p.de, y.p.de] = max x.p.de y.p.de := rfl
    rw [q]
    split <;> omega
  refine ⟨tr_less (by omega) hx.tr hy.tr s (by omega), ?_, ?_, ?_, ?_, ?_⟩
  · show 1 + x.p.ta + y.p.ta ≤ _
    omega
  · show 1 ≤ 1 + x.p.ta + y.p.ta
    omega
  · show 1 + _ ≤ _
    rw [← md]
    omega
  · show 1 ≤ 1 + _
    rw [← md]
    omega
  · show (x.rs ++ y.rs).length ≤ _
    rw [List.length_append]
    omega
theorem drawn_turn (hd : d ≤ 1) {x : Kid} (hx : Drawn d x) : Drawn (d + 1) (turnK x) := by
  obtain ⟨s, t0, t1, d0, d1, r⟩ := kids_small (qs := [x]) hd (fun q hq => by
    simp only [List.mem_cons, List.not_mem_nil, or_false] at hq
    rw [hq]
    exact hx) (by simp) (by simp)
  have := capR_le (d + 1) (by omega)
  simp only [List.map_cons, List.map_nil, List.sum_cons, List.sum_nil, taS, deS] at t0 t1 d0 d1 r
  have md : maxI [x.p.de] = x.p.de := rfl
  rw [md] at d0 d1
  refine ⟨tr_turn (by omega) hx.tr s (by omega), ?_, ?_, ?_, ?_, ?_⟩
  · show 1 + x.p.ta ≤ _
    omega
  · show 1 ≤ 1 + x.p.ta
    omega
  · show 1 + x.p.de ≤ _
    omega
  · show 1 ≤ 1 + x.p.de
    omega
  · show x.rs.length ≤ _
    omega
end
theorem drawn_up {d d' : Nat} {q : Kid} (h : Drawn d q) (l : d ≤ d') : Drawn d' q := by
  have m : ∀ {a b : Nat}, a ≤ b → capT a ≤ capT b ∧ capR a ≤ capR b := by
    intro a b hab
    induction hab with
    | refl => exact ⟨Nat.le_refl _, Nat.le_refl _⟩
    | step _ ih => exact ⟨Nat.le_trans ih.1 (by show _ ≤ 1 + 3 * _; omega), Nat.le_trans ih.2 (by show _ ≤ 3 * _; omega)⟩
  have := m l
  exact ⟨h.tr.up (by omega), by have := h.ta; omega, h.t0, by have := h.de; omega, h.d0, by have := h.rs; omega⟩
theorem drawn_none : Drawn 0 noneK := ⟨tr_none, by decide, by decide, by decide, by decide, by decide⟩
theorem drawn_row {r : D} {t : Int} (h : RowOk r) (ht : m_Row_times [r] = some (.int t)) (t0 : 0 ≤ t) (t1 : t < 2 ^ 1440) : Drawn 0 (rowK r t) := ⟨tr_row h ht t0 t1, by show (1 : Int) ≤ (1 : Nat); decide, by show (1 : Int) ≤ 1; decide, by show (1 : Int) ≤ _; decide, by show (1 : Int) ≤ 1; decide, by show 1 ≤ 1; decide⟩
end DL
set_option maxRecDepth 100000
set_option exponentiation.threshold 2000
namespace DL
open PySem L2
theorem words_of_tree {p : Int} (h0 : 2 ≤ p) (h1 : p < 9) : ∃ w : Str, L2.atI [D.str "join", .str "meet", .str "less", .str "turn", .str "join", .str "less", .str "turn"] (p - 2) = some (.str w) ∧ (w = "join" ∨ w = "meet" ∨ w = "less" ∨ w = "turn") := by
  rcases (by omega : p = 2 ∨ p = 3 ∨ p = 4 ∨ p = 5 ∨ p = 6 ∨ p = 7 ∨ p = 8) with rfl | rfl | rfl | rfl | rfl | rfl | rfl <;> exact ⟨_, rfl, by simp⟩
theorem many_of {a b c d : D} : (keyD (.str "join")).bind (fun k => findD [.inr "join", .inr "meet", .inr "less", .inr "turn"] [a, b, c, d] k) = some a ∧
    (keyD (.str "meet")).bind (fun k => findD [.inr "join", .inr "meet", .inr "less", .inr "turn"] [a, b, c, d] k) = some b ∧
    (keyD (.str "less")).bind (fun k => findD [.inr "join", .inr "meet", .inr "less", .inr "turn"] [a, b, c, d] k) = some c ∧
    (keyD (.str "turn")).bind (fun k => findD [.inr "join", .inr "meet", .inr "less", .inr "turn"] [a, b, c, d] k) = some d := by
  refine ⟨?_, ?_, ?_, ?_⟩ <;> rfl
theorem times_of {d : D} {t : Int} (h : RowOk d) (ht : m_Row_times [d] = some (.int t)) (ρ : Sl) {f : DE} (hf : f ρ = some d) : dMeth 0 t_times f aNil ρ = some (.int t) := by
  obtain ⟨mm, hh, mo, dm, wm, rfl, _⟩ := h.ex
  simp [hf, t_times, ht]
theorem law_tree_ok {ns : List Int} {mx : Bool} : ∀ (d : Nat), d ≤ 2 → ∀ (j n : Nat), d < j → (n + 1) * 4 ^ d ≤ 20000 → ∃ q, m__law_tree j [.scr ns, .int n, .int d, .bl mx] = some q.t ∧ Drawn d q := by
  intro d
  induction d with
  | zero =>
    intro _ j n hj hn
    obtain ⟨j, rfl, _⟩ := suc (n := 0) hj
    have hn : n ≤ 20000 := by omega
    obtain ⟨ds, e, hd⟩ := digits_ok (c := cellI ns (1 + 2 * n)) (mx := mx) (ss := [9, 3, 16]) (by decide) (by decide)
    obtain ⟨p0, _, rfl, a0, b0, p1, _, rfl, a1, b1, p2, _, rfl, a2, b2, hd⟩ := hd
    cases hd
    have c1 := cell_ok (ns := ns) (k := 1 + 2 * n) (by omega)
    have c2 := cell_ok (ns := ns) (k := 2 + 2 * n) (by omega)
    have i0 : L2.atI (intD [p0, p1, p2]) 0 = some (.int p0) := rfl
    have i2 : L2.atI (intD [p0, p1, p2]) 2 = some (.int p2) := rfl
    have ss : intD [9, 3, 16] = [.int 9, .int 3, .int 16] := rfl
    rw [ss] at e
    obtain ⟨r, er, hr⟩ := law_row_ok (c := cellI ns (2 + 2 * n)) (mx := mx)
    obtain ⟨t, et, t0, t1⟩ := hr.times
    have cc1 : ((1 + 2 * n : Nat) : Int) = 1 + 2 * (n : Int) := by omega
    have cc2 : ((2 + 2 * n : Nat) : Int) = 2 + 2 * (n : Int) := by omega
    rw [cc1] at c1
    rw [cc2] at c2
    generalize intD [p0, p1, p2] = dd at *
    by_cases z : p2 = 3
    · refine ⟨noneK, ?_, drawn_none⟩
      show runD 9 (m__law_tree_b (m__law_tree j)) _ = some (.tup [.str "none", .lst []])
      unfold m__law_tree_b
      simp [startD, apD, c1, e, opIx, i0, i2, z]
    · refine ⟨rowK r t, ?_, drawn_row hr et t0 t1⟩
      have tm := times_of hr et [.val (.scr ns), .val (.int n), .val (.int 0), .val (.bl mx), .val (.lst dd), .val r, .un, .un, .un] (f := dVar 5) rfl
      simp only [s_meth, s_var, List.getElem?_cons_succ, List.getElem?_cons_zero, Option.bind_some, s_nil, List.length_nil, if_true] at tm
      show runD 9 (m__law_tree_b (m__law_tree j)) _ = some (.tup [.str "row", .lst [r, .int t]])
      unfold m__law_tree_b
      simp [startD, apD, c1, c2, e, opIx, i0, i2, z, er, tm]
  | succ d ih =>
    intro hd2 j n hj hn
    obtain ⟨j, rfl, hj⟩ := suc hj
    have hp : (n + 1) * 4 ^ (d + 1) = 4 * (n + 1) * 4 ^ d := by rw [Nat.pow_succ, Nat.mul_comm (4 ^ d) 4, ← Nat.mul_assoc, Nat.mul_comm 4 (n + 1)]
    have hp1 : 1 ≤ 4 ^ d := Nat.one_le_pow _ _ (by omega)
    have hn4 : 4 * (n + 1) ≤ 20000 := by
      have := Nat.mul_le_mul_left (4 * (n + 1)) hp1
      omega
    obtain ⟨ds, e, hd⟩ := digits_ok (c := cellI ns (1 + 2 * n)) (mx := mx) (ss := [9, 3, 16]) (by decide) (by decide)
    obtain ⟨p0, _, rfl, a0, b0, p1, _, rfl, a1, b1, p2, _, rfl, a2, b2, hd⟩ := hd
    cases hd
    have c1 := cell_ok (ns := ns) (k := 1 + 2 * n) (by omega)
    have c2 := cell_ok (ns := ns) (k := 2 + 2 * n) (by omega)
    have i0 : L2.atI (intD [p0, p1, p2]) 0 = some (.int p0) := rfl
    have i1 : L2.atI (intD [p0, p1, p2]) 1 = some (.int p1) := rfl
    have i2 : L2.atI (intD [p0, p1, p2]) 2 = some (.int p2) := rfl
    have ss : intD [9, 3, 16] = [.int 9, .int 3, .int 16] := rfl
    rw [ss] at e
    obtain ⟨r, er, hr⟩ := law_row_ok (c := cellI ns (2 + 2 * n)) (mx := mx)
    obtain ⟨t, et, t0, t1⟩ := hr.times
    have cc1 : ((1 + 2 * n : Nat) : Int) = 1 + 2 * (n : Int) := by omega
    have cc2 : ((2 + 2 * n : Nat) : Int) = 2 + 2 * (n : Int) := by omega
    rw [cc1] at c1
    rw [cc2] at c2
    generalize intD [p0, p1, p2] = dd at *
    obtain ⟨D1, hD⟩ : ∃ D1 : Int, D1 = ((d + 1 : Nat) : Int) := ⟨_, rfl⟩
    have nz : ¬ D1 = 0 := by omega
    have dd1 : D1 - 1 = d := by omega
    rw [← hD]
    by_cases y : p0 < 2
    · by_cases z : p2 = 3
      · refine ⟨noneK, ?_, drawn_up drawn_none (by omega)⟩
        show runD 9 (m__law_tree_b (m__law_tree j)) _ = some (.tup [.str "none", .lst []])
        unfold m__law_tree_b
        simp [startD, apD, c1, e, opIx, i0, i2, z, y]
      · refine ⟨rowK r t, ?_, drawn_up (drawn_row hr et t0 t1) (by omega)⟩
        have tm := times_of hr et [.val (.scr ns), .val (.int n), .val (.int D1), .val (.bl mx), .val (.lst dd), .val r, .un, .un, .un] (f := dVar 5) rfl
        simp only [s_meth, s_var, List.getElem?_cons_succ, List.getElem?_cons_zero, Option.bind_some, s_nil, List.length_nil, if_true] at tm
        show runD 9 (m__law_tree_b (m__law_tree j)) _ = some (.tup [.str "row", .lst [r, .int t]])
        unfold m__law_tree_b
        simp [startD, apD, c1, c2, e, opIx, i0, i2, z, er, tm, y]
    · have kid : ∀ k : Nat, k < 3 → ∃ q, m__law_tree j [.scr ns, .int (3 * (n : Int) + 1 + k), .int d, .bl mx] = some q.t ∧ Drawn d q := fun k hk => by
        obtain ⟨q, e, h⟩ := ih (by omega) j (3 * n + 1 + k) (by omega) (by
          have : (3 * n + 1 + k + 1) * 4 ^ d ≤ 4 * (n + 1) * 4 ^ d := Nat.mul_le_mul_right _ (by omega)
          omega)
        rw [show ((3 * n + 1 + k : Nat) : Int) = 3 * (n : Int) + 1 + k by omega] at e
        exact ⟨q, e, h⟩
      have kids : ∀ (w : Str) (many : Int), 0 ≤ many → many ≤ 3 → ∃ qs : List Kid, lcD (tgN 8) tTrue (dCall 4 (m__law_tree j) (aCons (dVar 0) (aCons (dOp opAdd (dOp opAdd (dOp opMul (dC (.int 3)) (dVar 1)) (dC (.int 1))) (dVar 8)) (aCons (dOp opSub (dVar 2) (dC (.int 1))) (aCons (dVar 3) aNil)))))
          [.val (.scr ns), .val (.int n), .val (.int D1), .val (.bl mx), .val (.lst dd), .un, .val (.str w), .val (.int many), .un] (rngD 0 many.toNat) = some (qs.map (·.t)) ∧ (qs.length : Int) = many ∧ ∀ q ∈ qs, Drawn d q := by
        intro w many m0 m3
        obtain ⟨ys, e1, e2, e3⟩ := lc_ex (T := tgN 8) (elt := dCall 4 (m__law_tree j) (aCons (dVar 0) (aCons (dOp opAdd (dOp opAdd (dOp opMul (dC (.int 3)) (dVar 1)) (dC (.int 1))) (dVar 8)) (aCons (dOp opSub (dVar 2) (dC (.int 1))) (aCons (dVar 3) aNil)))))
          (ρ := [.val (.scr ns), .val (.int n), .val (.int D1), .val (.bl mx), .val (.lst dd), .un, .val (.str w), .val (.int many), .un]) (P := fun y => ∃ q : Kid, y = q.t ∧ Drawn d q) (rngD 0 many.toNat) (fun x hx => by
            obtain ⟨k, hk, rfl⟩ := mem_rng hx
            obtain ⟨q, e, h⟩ := kid k (by omega)
            exact ⟨_, q.t, rfl, by simp [apD, dd1, e], q, rfl, h⟩)
        obtain ⟨qs, rfl, h⟩ := ex_list e3
        refine ⟨qs, e1, ?_, h⟩
        rw [List.length_map, len_rng] at e2
        omega
      obtain ⟨w, ew, hw⟩ := words_of_tree (p := p0) (by omega) b0
      have fin : ∀ (many : Int) (qs : List Kid), 0 ≤ many → many ≤ 3 → (keyD (.str w)).bind (fun k => findD [.inr "join", .inr "meet", .inr "less", .inr "turn"] [.int (1 + p1), .int (1 + p1), .int 2, .int 1] k) = some (.int many) →
          lcD (tgN 8) tTrue (dCall 4 (m__law_tree j) (aCons (dVar 0) (aCons (dOp opAdd (dOp opAdd (dOp opMul (dC (.int 3)) (dVar 1)) (dC (.int 1))) (dVar 8)) (aCons (dOp opSub (dVar 2) (dC (.int 1))) (aCons (dVar 3) aNil)))))
          [.val (.scr ns), .val (.int n), .val (.int D1), .val (.bl mx), .val (.lst dd), .un, .val (.str w), .val (.int many), .un] (rngD 0 many.toNat) = some (qs.map (·.t)) →
          m__law_tree (j + 1) [.scr ns, .int n, .int D1, .bl mx] = some (.tup [.str w, .lst (qs.map (·.t))]) := by
        intro many qs m0 m3 hm hq
        have r1 : -4611686018427387904 ≤ many := by omega
        have r2 : many < 4611686018427387904 := by omega
        have r5 : many.toNat ≤ 100000 := by omega
        show runD 9 (m__law_tree_b (m__law_tree j)) _ = _
        unfold m__law_tree_b
        simp [startD, apD, c1, e, opIx, i0, i1, i2, y, nz, ew, dDct, opDix]
        rw [hm]
        have r6 : many ≤ 100000 := by omega
        simp [apD, oLc, itR1, r1, r2, r6, len_rng, hq]
      obtain ⟨M1, M2, M3, M4⟩ := many_of (a := .int (1 + p1)) (b := .int (1 + p1)) (c := .int 2) (d := .int 1)
      rcases hw with rfl | rfl | rfl | rfl
      · obtain ⟨qs, eq, hl, hq⟩ := kids "join" (1 + p1) (by omega) (by omega)
        exact ⟨joinK qs, fin _ _ (by omega) (by omega) M1 eq, drawn_join (by omega) hq (by omega) (by omega)⟩
      · obtain ⟨qs, eq, hl, hq⟩ := kids "meet" (1 + p1) (by omega) (by omega)
        exact ⟨meetK qs, fin _ _ (by omega) (by omega) M2 eq, drawn_meet (by omega) hq (by omega) (by omega)⟩
      · obtain ⟨qs, eq, hl, hq⟩ := kids "less" 2 (by omega) (by omega)
        obtain ⟨x, y, rfl⟩ : ∃ x y, qs = [x, y] := by
          match qs, hl with
          | [x, y], _ => exact ⟨x, y, rfl⟩
        exact ⟨lessK x y, fin _ _ (by omega) (by omega) M3 eq, drawn_less (by omega) (hq x (by simp)) (hq y (by simp))⟩
      · obtain ⟨qs, eq, hl, hq⟩ := kids "turn" 1 (by omega) (by omega)
        obtain ⟨x, rfl⟩ : ∃ x, qs = [x] := by
          match qs, hl with
          | [x], _ => exact ⟨x, rfl⟩
        exact ⟨turnK x, fin _ _ (by omega) (by omega) M4 eq, drawn_turn (by omega) (hq x (by simp))⟩
end DL
set_option maxRecDepth 100000
set_option exponentiation.threshold 2000
namespace DL
open PySem L2
/-! ### two trees -/
theorem drawn_turn2 {x : Kid} (hx : Drawn 2 x) : Drawn 3 (turnK x) := by
  have t0 := hx.t0
  have t1 := hx.ta
  have d0 := hx.d0
  have d1 := hx.de
  have r := hx.rs
  have e1 : capT 2 = 13 := rfl
  have e2 : capT 3 = 40 := rfl
  have e3 : capR 2 = 9 := rfl
  have e4 : capR 3 = 27 := rfl
  refine ⟨tr_turn (by omega) hx.tr ⟨by simp, by simp, by simp; omega, by show 1 + x.p.de ≤ 5; omega⟩ (by omega), ?_, ?_, ?_, ?_, ?_⟩
  · show 1 + x.p.ta ≤ _
    omega
  · show 1 ≤ 1 + x.p.ta
    omega
  · show 1 + x.p.de ≤ _
    omega
  · show 1 ≤ 1 + x.p.de
    omega
  · show x.rs.length ≤ _
    omega
theorem pair_at {l : List (Kid × Kid)} {P : Kid → Kid → Prop} (h : ∀ x ∈ l, P x.1 x.2) {p : Int} (h0 : 0 ≤ p) (h1 : p < l.length) : ∃ x y, L2.atI (l.map fun q => D.tup [q.1.t, q.2.t]) p = some (.tup [x.t, y.t]) ∧ P x y := by
  have hn : p.toNat < l.length := by omega
  refine ⟨l[p.toNat].1, l[p.toNat].2, ?_, h _ (List.getElem_mem ..)⟩
  rw [atI_lit h0 (by simpa using h1)]
  simp [hn]
theorem law_two_ok {ns : List Int} {mx : Bool} {p : Int} (p0 : 0 ≤ p) (p1 : p < 9) : ∃ x y : Kid, m__law_two [.scr ns, .int p, .bl mx] = some (.tup [x.t, y.t]) ∧ Drawn 3 x ∧ Drawn 3 y := by
  obtain ⟨x, ex, hx⟩ := law_tree_ok (ns := ns) (mx := mx) 1 (by decide) 8 1 (by decide) (by decide)
  obtain ⟨y, ey, hy⟩ := law_tree_ok (ns := ns) (mx := mx) 1 (by decide) 8 2 (by decide) (by decide)
  have cA := cell_ok (ns := ns) (k := 28) (by omega)
  have cB := cell_ok (ns := ns) (k := 29) (by omega)
  obtain ⟨a, ea, ha⟩ := law_rare_ok (c := cellI ns 28) (mx := mx)
  obtain ⟨b, eb, hb⟩ := law_rare_ok (c := cellI ns 29) (mx := mx)
  obtain ⟨ta, eta, ta0, ta1⟩ := ha.times
  obtain ⟨tb, etb, tb0, tb1⟩ := hb.times
  have kA := drawn_row ha eta ta0 ta1
  have kB := drawn_row hb etb tb0 tb1
  have cA : m__law_cell_at [.scr ns, .int 28] = some (.int (cellI ns 28)) := cA
  have cB : m__law_cell_at [.scr ns, .int 29] = some (.int (cellI ns 29)) := cB
  have ex : m__law_tree 8 [.scr ns, .int 1, .int 1, .bl mx] = some x.t := ex
  have ey : m__law_tree 8 [.scr ns, .int 2, .int 1, .bl mx] = some y.t := ey
  have up := fun {q : Kid} (h : Drawn 2 q) => drawn_up (d' := 3) h (by decide)
  have kA1 := drawn_up (d' := 1) kA (by decide)
  obtain ⟨u, v, e, hu, hv⟩ := pair_at (P := fun u v => Drawn 3 u ∧ Drawn 3 v) (l := [(x, y), (x, lessK x (rowK a ta)), (x, joinK [rowK a ta, x]), (x, lessK y x), (turnK (turnK x), x), (x, turnK x), (x, meetK [y, x]), (rowK a ta, turnK (rowK a ta)), (rowK a ta, rowK b tb)]) (by
    have x3 := drawn_up (d' := 3) hx (by decide)
    have y3 := drawn_up (d' := 3) hy (by decide)
    have a3 := drawn_up (d' := 3) kA (by decide)
    have b3 := drawn_up (d' := 3) kB (by decide)
    intro q hq
    simp only [List.mem_cons, List.not_mem_nil, or_false] at hq
    have two : ∀ {k l : Kid}, Drawn 1 k → Drawn 1 l → ∀ q ∈ [k, l], Drawn 1 q := fun h1 h2 q hq => by
      simp only [List.mem_cons, List.not_mem_nil, or_false] at hq
      rcases hq with rfl | rfl
      · exact h1
      · exact h2
    rcases hq with rfl | rfl | rfl | rfl | rfl | rfl | rfl | rfl | rfl
    · exact ⟨x3, y3⟩
    · exact ⟨x3, up (drawn_less (by decide) hx kA1)⟩
    · exact ⟨x3, up (drawn_join (by decide) (two kA1 hx) (by simp) (by simp))⟩
    · exact ⟨x3, up (drawn_less (by decide) hy hx)⟩
    · exact ⟨drawn_turn2 (drawn_turn (by decide) hx), x3⟩
    · exact ⟨x3, up (drawn_turn (by decide) hx)⟩
    · exact ⟨x3, up (drawn_meet (by decide) (two hy hx) (by simp) (by simp))⟩
    · exact ⟨a3, up (drawn_up (drawn_turn (by decide) kA) (by decide))⟩
    · exact ⟨a3, b3⟩) p0 (by simpa using p1)
  refine ⟨u, v, ?_, hu, hv⟩
  have e : L2.atI [D.tup [x.t, y.t], .tup [x.t, .tup [.str "less", .lst [x.t, .tup [.str "row", .lst [a, .int ta]]]]], .tup [x.t, .tup [.str "join", .lst [.tup [.str "row", .lst [a, .int ta]], x.t]]], .tup [x.t, .tup [.str "less", .lst [y.t, x.t]]],
    .tup [.tup [.str "turn", .lst [.tup [.str "turn", .lst [x.t]]]], x.t], .tup [x.t, .tup [.str "turn", .lst [x.t]]], .tup [x.t, .tup [.str "meet", .lst [y.t, x.t]]], .tup [.tup [.str "row", .lst [a, .int ta]], .tup [.str "turn", .lst [.tup [.str "row", .lst [a, .int ta]]]]], .tup [.tup [.str "row", .lst [a, .int ta]], .tup [.str "row", .lst [b, .int tb]]]] p = some (.tup [u.t, v.t]) := e
  have i0 : L2.atI [a, b] 0 = some a := rfl
  have i1 : L2.atI [a, b] 1 = some b := rfl
  have lc : lcD (tgN 8) tTrue (dCall 2 m__law_rare (aCons (dCall 2 m__law_cell_at (aCons (dVar 0) (aCons (dOp opAdd (dC (.int 28)) (dVar 8)) aNil))) (aCons (dVar 2) aNil))) [.val (.scr ns), .val (.int p), .val (.bl mx), .val x.t, .val y.t, .un, .un, .un, .un] (rngD 0 2) = some [a, b] := by
    have rg : rngD 0 2 = [.int 0, .int 1] := rfl
    rw [rg]
    simp [lcD, tTrue, apD, cA, cB, ea, eb]
  obtain ⟨mm, hh, mo, dm, wm, rfl, _⟩ := ha.ex
  obtain ⟨mm', hh', mo', dm', wm', rfl, _⟩ := hb.ex
  generalize x.t = xt at *
  generalize y.t = yt at *
  unfold m__law_two m__law_two_b
  simp [startD, apD, ex, ey, oLc, itR1, len_rng, lc, opIx, i0, i1, t_times, eta, etb, sApp, dOwnIx, e]
end DL
set_option maxRecDepth 100000
set_option exponentiation.threshold 2000
namespace DL
open PySem L2
/-! ### rows joined: the law's leaves and the wide books -/
structure RowT where
  d : D
  t : Int
structure RowT.Ok (r : RowT) : Prop where
  ok : RowOk r.d
  tm : m_Row_times [r.d] = some (.int r.t)
  t0 : 0 ≤ r.t
  t1 : r.t < 2 ^ 1440
theorem rows_t {rs : List D} (h : ∀ d ∈ rs, RowOk d) : ∃ qs : List RowT, rs = qs.map (·.d) ∧ ∀ q ∈ qs, q.Ok :=
  ex_list fun d hd => by
    obtain ⟨t, e, t0, t1⟩ := (h d hd).times
    exact ⟨⟨d, t⟩, rfl, ⟨h d hd, e, t0, t1⟩⟩
def RowT.k (r : RowT) : Kid := rowK r.d r.t
theorem RowT.Ok.tr {r : RowT} (h : r.Ok) : Tr 1 r.k := tr_row h.ok h.tm h.t0 h.t1
def leavesK (qs : List RowT) : Kid := joinK (qs.map RowT.k ++ [noneK])
theorem sum_one {ps : List Part} (h : ∀ p ∈ ps, p.ta = 1) : (ps.map (·.ta)).sum = ps.length := by
  induction ps with
  | nil => rfl
  | cons p ps ih =>
    have := ih fun q hq => h q (List.mem_cons_of_mem _ hq)
    have := h p (List.mem_cons_self ..)
    simp only [List.map_cons, List.sum_cons, List.length_cons]
    omega
theorem leaf_kids {qs : List RowT} (h : ∀ q ∈ qs, q.Ok) : ∀ q ∈ qs.map RowT.k ++ [noneK], Tr 1 q ∧ q.p.ta = 1 ∧ q.p.de = 1 ∧ q.rs.length ≤ 1 := by
  intro q hq
  rcases List.mem_append.mp hq with hq | hq
  · obtain ⟨r, hr, rfl⟩ := List.mem_map.mp hq
    exact ⟨(h r hr).tr, rfl, rfl, Nat.le_refl _⟩
  · rw [List.mem_singleton] at hq
    subst hq
    exact ⟨tr_none, rfl, rfl, Nat.zero_le _⟩
theorem leaves_tr {qs : List RowT} (h : ∀ q ∈ qs, q.Ok) (h5 : qs.length ≤ 5) : Tr 2 (leavesK qs) := by
  have hk := leaf_kids h
  have l : (qs.map RowT.k ++ [noneK]).length = qs.length + 1 := by simp
  refine tr_join (n := 1) (by decide) (fun q hq => (hk q hq).1) ⟨by simp, by simp; omega, ?_, ?_⟩ ?_
  · rw [sum_one (fun p hp => by
      obtain ⟨q, hq, rfl⟩ := List.mem_map.mp hp
      exact (hk q hq).2.1), List.length_map, l]
    omega
  · have : maxI (((qs.map RowT.k ++ [noneK]).map (·.p)).map (·.de)) ≤ 1 := maxI_le_all (by simp) fun x hx => by
      rw [List.map_map] at hx
      obtain ⟨q, hq, rfl⟩ := List.mem_map.mp hx
      show q.p.de ≤ 1
      rw [(hk q hq).2.2.1]
      decide
    omega
  · have := sum_leN (f := fun q : Kid => q.rs.length) (c := 1) (l := qs.map RowT.k ++ [noneK]) fun q hq => (hk q hq).2.2.2
    rw [l] at this
    omega
theorem leaves_ok {qs : List RowT} (h : ∀ q ∈ qs, q.Ok) (h5 : qs.length ≤ 5) : m__law_leaves [.lst (qs.map (·.d))] = some (leavesK qs).t := by
  have lc : ∀ (rs : List D) (qs : List RowT), (∀ q ∈ qs, q.Ok) → lcD (tgN 1) tTrue (dTup (aCons (dC (.str "row")) (aCons (dO (oLst (aCons (dVar 1) (aCons (dMeth 0 t_times (dVar 1) aNil) aNil)))) aNil))) [.val (.lst rs), .un] (qs.map (·.d)) = some ((qs.map RowT.k).map (·.t)) := by
    intro rs qs h
    induction qs with
    | nil => rfl
    | cons q qs ih =>
      have ih := ih fun r hr => h r (List.mem_cons_of_mem _ hr)
      have o := h q (List.mem_cons_self ..)
      have tm := times_of o.ok o.tm (apD [.val (.lst rs), .un] [(1, q.d)]) (f := dVar 1) (by simp [apD])
      rw [List.map_cons]
      unfold lcD
      simp only [s_tgN, Option.bind_some, tTrue, ih, Option.map_some]
      rw [s_tup, s_cons, s_cons, s_dO, s_oLst, s_cons, s_cons, tm]
      simp [apD, RowT.k, rowK]
  have lc := lc (qs.map (·.d)) qs h
  have l1 : qs.length ≤ 100000 := by omega
  have cat : opAdd (.lst ((qs.map RowT.k).map (·.t))) (.lst [.tup [.str "none", .lst []]]) = some (.lst ((qs.map RowT.k ++ [noneK]).map (·.t))) := by
    show (if _ then _ else _) = _
    rw [if_pos (by simp; omega)]
    simp [noneK]
  have e : (leavesK qs).t = .tup [.str "join", .lst ((qs.map RowT.k ++ [noneK]).map (·.t))] := rfl
  rw [e]
  generalize (qs.map RowT.k ++ [noneK]).map (·.t) = out at *
  generalize (qs.map RowT.k).map (·.t) = mid at *
  unfold m__law_leaves m__law_leaves_b
  simp [startD, oLc, itE, l1, lc, cat]
/-! ### wide books -/
def nonP : Part := noneK.p
def eightP : Part := (joinK (List.replicate 8 noneK)).p
theorem eight_tr : Tr 2 (joinK (List.replicate 8 noneK)) :=
  tr_join (n := 1) (by decide) (fun q hq => by rw [(List.mem_replicate.mp hq).2]; exact tr_none) ⟨by simp, by simp, by decide, by decide⟩ (by decide)
theorem eight_bk : Bk eightP.b 2 eightP.M 9 2 := eight_tr.k
def wideL (qs : List RowT) : List Part := [eightP, eightP] ++ qs.map (fun r => r.k.p) ++ List.replicate (5 - qs.length) nonP
theorem wide_parts {qs : List RowT} (h : ∀ q ∈ qs, q.Ok) : Parts 2 (wideL qs) := by
  intro p hp
  rcases List.mem_append.mp hp with hp | hp
  · rcases List.mem_append.mp hp with hp | hp
    · simp only [List.mem_cons, List.not_mem_nil, or_false] at hp
      rcases hp with rfl | rfl <;> exact eight_bk
    · obtain ⟨r, hr, rfl⟩ := List.mem_map.mp hp
      exact (h r hr).tr.k.up (by decide)
  · rw [(List.mem_replicate.mp hp).2]
    exact bk_none.up (by decide)
theorem wide_ta {qs : List RowT} (h5 : qs.length ≤ 5) : ((wideL qs).map (·.ta)).sum = 23 := by
  have a : ((qs.map (fun r => r.k.p)).map (·.ta)).sum = qs.length := by
    rw [sum_one (fun p hp => by
      obtain ⟨r, hr, rfl⟩ := List.mem_map.mp hp
      rfl), List.length_map]
  have b : ((List.replicate (5 - qs.length) nonP).map (·.ta)).sum = (5 - qs.length : Nat) := by
    rw [sum_one (fun p hp => by
      rw [(List.mem_replicate.mp hp).2]
      rfl), List.length_replicate]
  have c : eightP.ta = 9 := rfl
  unfold wideL
  rw [List.map_append, List.map_append, List.sum_append, List.sum_append, a, b]
  simp [c]
  omega
theorem wide_small {qs : List RowT} (h : ∀ q ∈ qs, q.Ok) (h5 : qs.length ≤ 5) : Small (wideL qs) := by
  refine ⟨by simp [wideL], by simp [wideL]; omega, by rw [wide_ta h5]; decide, ?_⟩
  have : maxI ((wideL qs).map (·.de)) ≤ 2 := maxI_le_all (by simp [wideL]) fun x hx => by
    obtain ⟨p, hp, rfl⟩ := List.mem_map.mp hx
    rcases List.mem_append.mp hp with hp | hp
    · rcases List.mem_append.mp hp with hp | hp
      · simp only [List.mem_cons, List.not_mem_nil, or_false] at hp
        rcases hp with rfl | rfl <;> decide
      · obtain ⟨r, hr, rfl⟩ := List.mem_map.mp hp
        show (1 : Int) ≤ 2
        decide
    · rw [(List.mem_replicate.mp hp).2]
      decide
  omega
def wideB (qs : List RowT) : D := .ins 10 [.tup ((wideL qs).map (·.b))]
theorem wide_bk {qs : List RowT} (h : ∀ q ∈ qs, q.Ok) (h5 : qs.length ≤ 5) : Bk (wideB qs) 3 (foldM bO zeroM (wideL qs)) 24 (1 + maxI ((wideL qs).map (·.de))) := by
  have s := wide_small h h5
  have := bk_joined s.h0 s.hl (wide_parts h)
  rw [wide_ta h5, show (1 + 23 : Int) = 24 from rfl] at this
  exact this
/-! the same masks -/
theorem or_zero {A : Ms} (h : MsOk A) {k : Nat} (hk : k < 91) : zipM bO A zeroM k = A k := by
  show List.zipWith bO (A k) (List.replicate _ 0) = A k
  rw [List.zipWith_comm_of_comm (f := bO)]
  · exact zero_join h hk
  · intro x y
    exact PyProof.Rows.bitOr_comm x y
theorem fold_skip {k : Nat} (hk : k < 91) : ∀ (ps : List Part) {A : Ms}, MsOk A → (∀ p ∈ ps, p.M k = zeroM k) → foldM bO A ps k = A k
  | [], A, _, _ => rfl
  | p :: ps, A, hA, h => by
    have e : zipM bO A p.M k = A k := by
      have := or_zero hA hk
      show List.zipWith bO (A k) (p.M k) = A k
      rw [h p (List.mem_cons_self ..)]
      exact this
    show foldM bO (zipM bO A p.M) ps k = A k
    rw [fold_eq ps e]
    exact fold_skip hk ps hA fun q hq => h q (List.mem_cons_of_mem _ hq)
theorem fold_app {g : Int → Int → Int} {A : Ms} {ps qs : List Part} : foldM g A (ps ++ qs) = foldM g (foldM g A ps) qs := List.foldl_append
theorem eight_zero {k : Nat} (hk : k < 91) : eightP.M k = zeroM k := by
  unfold eightP joinK
  dsimp only
  exact fold_skip hk _ zero_ok fun p hp => by
    obtain ⟨q, hq, rfl⟩ := List.mem_map.mp hp
    rw [(List.mem_replicate.mp hq).2]
    rfl
theorem wide_masks {qs : List RowT} (h : ∀ q ∈ qs, q.Ok) {k : Nat} (hk : k < 91) : foldM bO zeroM (wideL qs) k = (leavesK qs).p.M k := by
  have hp : Parts 1 (qs.map fun r => r.k.p) := fun p hp => by
    obtain ⟨r, hr, rfl⟩ := List.mem_map.mp hp
    exact (h r hr).tr.k
  have ok := fold_ok (n := 1) (g := bO) (fun A B => orM_ok) (qs.map fun r => r.k.p) zeroM zero_ok hp
  have e1 : foldM bO zeroM (wideL qs) k = foldM bO zeroM (qs.map fun r => r.k.p) k := by
    unfold wideL
    rw [fold_app, fold_app]
    have e0 : foldM bO zeroM [eightP, eightP] k = zeroM k := fold_skip hk _ zero_ok fun p hp => by
      simp only [List.mem_cons, List.not_mem_nil, or_false] at hp
      rcases hp with rfl | rfl <;> exact eight_zero hk
    rw [fold_eq _ (fold_eq _ e0)]
    exact fold_skip hk _ ok fun p hp => by
      rw [(List.mem_replicate.mp hp).2]
      rfl
  have e2 : (leavesK qs).p.M k = foldM bO zeroM (qs.map fun r => r.k.p) k := by
    show foldM bO zeroM ((qs.map RowT.k ++ [noneK]).map (·.p)) k = _
    rw [List.map_append, fold_app, List.map_map]
    exact fold_skip hk _ ok fun p hp => by
      simp only [List.map_cons, List.map_nil, List.mem_singleton] at hp
      rw [hp]
      rfl
  rw [e1, e2]
theorem all3_eq {A B A' B' : Ms} (ha : ∀ k, k < 91 → A k = A' k) (hb : ∀ k, k < 91 → B k = B' k) : all3 A B = all3 A' B' := by
  unfold all3
  have : ∀ (ks : List Nat) (s : T3), (∀ k ∈ ks, k < 91) → ks.foldl (kind3 A B) s = ks.foldl (kind3 A' B') s := by
    intro ks
    induction ks with
    | nil => intro s _; rfl
    | cons k ks ih =>
      intro s h
      have hk := h k (List.mem_cons_self ..)
      rw [List.foldl_cons, List.foldl_cons]
      have e : kind3 A B s k = kind3 A' B' s k := by
        unfold kind3
        rw [ha k hk, hb k hk]
      rw [e]
      exact ih _ fun q hq => h q (List.mem_cons_of_mem _ hq)
  exact this _ _ fun k hk => List.mem_range.mp hk
end DL
set_option maxRecDepth 100000
set_option exponentiation.threshold 2000
namespace DL
open PySem L2
theorem mul_one_list {b : D} {n : Nat} (h : n ≤ 1000) {i : Int} (e : i = n) : opMul (.lst [b]) (.int i) = some (.lst (List.replicate n b)) := by
  subst e
  have t : (n : Int).toNat = n := by omega
  unfold opMul
  dsimp only
  rw [if_pos ⟨by omega, by omega, by simp; omega⟩, t]
  congr 2
  induction n with
  | zero => rfl
  | succ n ih => rw [List.replicate_succ, List.flatten_cons, ih (by omega) (by omega), List.replicate_succ]; rfl
theorem law_wide_ok {qs : List RowT} (h : ∀ q ∈ qs, q.Ok) (h5 : qs.length ≤ 5) : m__law_wide [.lst (qs.map (·.d))] = some (wideB qs) := by
  have lc : ∀ (rs : List D) (qs : List RowT), (∀ q ∈ qs, q.Ok) → lcD (tgN 2) tTrue (dMake 9 1 i_Of (aCons (dVar 2) aNil)) [.val (.lst rs), .un, .un] (qs.map (·.d)) = some (qs.map fun r => r.k.p.b) := by
    intro rs qs h
    induction qs with
    | nil => rfl
    | cons q qs ih =>
      have ih := ih fun r hr => h r (List.mem_cons_of_mem _ hr)
      have o := h q (List.mem_cons_self ..)
      have e := of_made o.ok o.tm
      rw [List.map_cons]
      unfold lcD
      simp only [s_tgN, Option.bind_some, tTrue, ih, Option.map_some]
      simp [apD, e, RowT.k, rowK]
  have lc := lc (qs.map (·.d)) qs h
  have l1 : qs.length ≤ 100000 := by omega
  have m8 := mul_one_list (b := .ins 8 []) (n := 8) (by decide) (i := 8) rfl
  have e8 : i_Joined [.lst (List.replicate 8 (.ins 8 []))] = some [.tup (List.replicate 8 (.ins 8 []))] := by
    have := joined_made (n := 1) (ps := List.replicate 8 nonP) (by decide) (fun p hp => by
      rw [(List.mem_replicate.mp hp).2]
      exact bk_none) ⟨by simp, by simp, by decide, by decide⟩
    rw [List.map_replicate] at this
    exact this
  have b8 : eightP.b = .ins 10 [.tup (List.replicate 8 (.ins 8 []))] := rfl
  have c1 : opAdd (.lst [eightP.b, eightP.b]) (.lst (qs.map fun r => r.k.p.b)) = some (.lst ([eightP.b, eightP.b] ++ qs.map fun r => r.k.p.b)) := by
    show (if _ then _ else _) = _
    rw [if_pos (by simp; omega)]
  have m5 := fun i e => mul_one_list (b := .ins 8 []) (n := 5 - qs.length) (by omega) (i := i) e
  have hm : (qs.map fun r => r.k.p.b).length = qs.length := by simp
  have c2 : opAdd (.lst ([eightP.b, eightP.b] ++ qs.map fun r => r.k.p.b)) (.lst (List.replicate (5 - qs.length) (.ins 8 []))) = some (.lst ((wideL qs).map (·.b))) := by
    show (if _ then _ else _) = _
    rw [if_pos (by simp; omega)]
    unfold wideL
    simp only [List.map_append, List.map_replicate, List.map_map, List.map_cons, List.map_nil]
    rfl
  have jm := joined_made (n := 2) (by decide) (wide_parts h) (wide_small h h5)
  unfold wideB
  generalize (wideL qs).map (·.b) = out at *
  obtain ⟨r8, hr8⟩ : ∃ l, l = List.replicate 8 (D.ins 8 []) := ⟨_, rfl⟩
  rw [b8] at c1 c2
  rw [← hr8] at m8 e8 c1 c2
  generalize (qs.map fun r => r.k.p.b) = mid at *
  unfold m__law_wide m__law_wide_b
  simp only [List.cons_append, List.nil_append] at c1 c2
  simp [startD, m8, e8, oLc, itE, l1, lc, apD, c1, bLen]
  rw [m5 _ (by omega)]
  simp [c2, jm]
theorem cut5 {xs : List D} : opSl (.lst xs) none (some 5) = some (.lst (xs.take 5)) := by
  show some (D.lst (cutD _ _ _)) = _
  congr 2
  unfold cutD
  have e := HT.sIx_nat xs.length xs.length 5
  have e : HT.sIx xs.length xs.length (some 5) = min 5 xs.length := e
  rw [HT.sIx_none, e, List.drop_zero, Nat.sub_zero, List.take_eq_take_iff]
  omega
end DL
set_option maxRecDepth 100000
set_option exponentiation.threshold 2000
namespace DL
open PySem L2
def backKs : List Key := [Sum.inr "alike", Sum.inr "within", Sum.inr "around", Sum.inr "apart", Sum.inr "across"]
def backDs : List D := [.str "alike", .str "around", .str "within", .str "apart", .str "across"]
theorem back_ok (s : T3) : opDix (.dct backKs backDs) (.str (wordOf s)) = some (.str (wordOf (flip3 s))) := by
  obtain ⟨a, b, c⟩ := s
  cases a <;> cases b <;> cases c <;> rfl
theorem law_true (ns : List Int) (h : ns.length ≤ 63) : m_law [.scr ns] = some (.bl true) := by
  have c0 := cell_ok (ns := ns) (k := 0) (by omega)
  have c0 : m__law_cell_at [.scr ns, .int 0] = some (.int (cellI ns 0)) := c0
  generalize cellI ns 0 = c at c0
  obtain ⟨ds, e, hd⟩ := digits_ok (c := c / 2) (mx := decide (c % 2 = 1)) (ss := [9]) (by decide) (by decide)
  obtain ⟨p0, _, rfl, a0, b0, hd⟩ := hd
  cases hd
  have e : m__law_digits [.int (c / 2), .lst [.int 9], .bl (decide (c % 2 = 1))] = some (.lst [.int p0]) := e
  have i0 : L2.atI [D.int p0] 0 = some (.int p0) := rfl
  obtain ⟨x, y, e2, hx, hy⟩ := law_two_ok (ns := ns) (mx := decide (c % 2 = 1)) a0 b0
  have bx : m__law_make 8 [x.t] = some x.p.b := hx.tr.b 8 (by decide)
  have by_ : m__law_make 8 [y.t] = some y.p.b := hy.tr.b 8 (by decide)
  have rx : m__law_rows 8 [x.t] = some (.lst x.rs) := hx.tr.r 8 (by decide)
  have ry : m__law_rows 8 [y.t] = some (.lst y.rs) := hy.tr.r 8 (by decide)
  have w := law_word_ok (hx.tr.m 8 (by decide)) (hy.tr.m 8 (by decide))
  have A := against_ok hx.tr.k hy.tr.k (by decide) (by decide)
  have A' := against_ok hy.tr.k hx.tr.k (by decide) (by decide)
  have As := against_ok hy.tr.k hy.tr.k (by decide) (by decide)
  rw [same_all] at As
  rw [flip_all] at A'
  have wn := law_word_ok (hx.tr.m 8 (by decide)) (tr_none.m 8 (by decide))
  have An := against_ok tr_none.k hx.tr.k (by decide) (by decide)
  have An' := against_ok hx.tr.k tr_none.k (by decide) (by decide)
  rw [flip_all] at An
  obtain ⟨qx, ex, ox⟩ := rows_t (rs := x.rs.take 5) fun d hd => hx.tr.ro d (List.mem_of_mem_take hd)
  obtain ⟨qy, ey, oy⟩ := rows_t (rs := y.rs.take 5) fun d hd => hy.tr.ro d (List.mem_of_mem_take hd)
  have lx : qx.length ≤ 5 := by
    have := congrArg List.length ex
    simp at this
    omega
  have ly : qy.length ≤ 5 := by
    have := congrArg List.length ey
    simp at this
    omega
  have Lx := leaves_ok ox lx
  have Ly := leaves_ok oy ly
  have Wx := law_wide_ok ox lx
  have Wy := law_wide_ok oy ly
  have Kx := wide_bk ox lx
  have Ky := wide_bk oy ly
  have wl := law_word_ok ((leaves_tr ox lx).m 8 (by decide)) ((leaves_tr oy ly).m 8 (by decide))
  have AW := against_ok Kx Ky (by decide) (by decide)
  rw [all3_eq (fun k hk => wide_masks ox hk) (fun k hk => wide_masks oy hk)] at AW
  have tW := Kx.ta 8 (by decide)
  rw [← ex] at Lx Wx
  rw [← ey] at Ly Wy
  have cx := cut5 (xs := x.rs)
  have cy := cut5 (xs := y.rs)
  have B1 := back_ok (all3 x.p.M y.p.M)
  have B2 := back_ok (all3 x.p.M noneK.p.M)
  have nb : noneK.p.b = .ins 8 [] := rfl
  have nt : noneK.t = .tup [.str "none", .lst []] := rfl
  rw [nb] at An An'
  rw [nt] at wn
  generalize wordOf (flip3 (all3 x.p.M y.p.M)) = w1' at *
  generalize wordOf (all3 x.p.M y.p.M) = w1 at *
  generalize wordOf (flip3 (all3 x.p.M noneK.p.M)) = w2' at *
  generalize wordOf (all3 x.p.M noneK.p.M) = w2 at *
  generalize wordOf (all3 (leavesK qx).p.M (leavesK qy).p.M) = w3 at *
  unfold backKs backDs at B1 B2
  have tW : m_Joined_tally (T_tally 7) [wideB qx] = some (.int 24) := tW
  unfold wideB at *
  generalize (wideL qx).map (·.b) = wx at *
  generalize (wideL qy).map (·.b) = wy at *
  generalize x.rs.take 5 = x5 at *
  generalize y.rs.take 5 = y5 at *
  generalize (leavesK qx).t = lvx at *
  generalize (leavesK qy).t = lvy at *
  generalize x.p.b = xb at *
  generalize y.p.b = yb at *
  generalize x.t = xt at *
  generalize y.t = yt at *
  have j0 : ∀ a b : D, L2.atI [a, b] 0 = some a := fun _ _ => rfl
  have j1 : ∀ a b : D, L2.atI [a, b] 1 = some b := fun _ _ => rfl
  have tt : T_tally 8 10 = some (m_Joined_tally (T_tally 7)) := rfl
  unfold m_law m_law_b
  simp [startD, apD, c0, e, opIx, i0, e2, j0, j1, itE, oLc, lcD, tTrue, bx, by_, w, A, tagOf, isiB, kitB, dDct, B1, A', As, rx, ry, cx, cy, Wx, Wy, Lx, Ly, wl, AW, tt, tW, wn, B2, An, An']
end DL
set_option maxRecDepth 100000
set_option maxHeartbeats 4000000
namespace DL
open PySem L2

abbrev faX : List He.Fa := fa1 ++ ([] ++ [])
abbrev xsX : List (PySem.W.Frag → Bool) := [] ++ (xs1 ++ [])
abbrev fnX : List He.DefD := [] ++ ([] ++ fn1)
theorem runX (w : World) : HandSHeadRun.RunEq R1 (PySem.W.view R1.prog [110]) (hkL as1 faX xsX fnX) (obL as1 faX xsX fnX) 30000 nm1 w := run_join (runA w) (run_join (runB w) (runC w))
theorem ev_X {K : PySem.W.Frag} {mg : Str → Option Value} (E : Ev faX xsX fnX K mg) : EV K mg := by
  refine ⟨fun f hf => E.fact f ?_, fun e he => E.ext e ?_, fun d hd => E.df d ?_, E.hg⟩
  · exact List.mem_append_left _ hf
  · exact List.mem_append_right _ (List.mem_append_left _ he)
  · exact List.mem_append_right _ (List.mem_append_right _ hd)
theorem Law_ok {K : PySem.W.Frag} {mg : Str → Option Value} (E : EV K mg) : ∃ fd, (∀ (s : Shared) (u : Value), BindsTo s fd ⟨[u], []⟩ [("_law_script", u)]) ∧ ∀ (P : Program) (w : World) (base : Heap), FnOk P w K mg base CX0 24 (He.ga K "law") fd ["_law_script"] (spD K (cB K) 1 m_law) := by
  obtain ⟨fd, F⟩ := E.d 0
  have b := FunD.bindsA (ps := ["_law_script"]) F (fun _ _ _ _ _ _ us hl => match us, hl with | [_], _ => rfl)
  exact ⟨fd, fun s u => b s [u] rfl, fun P w base => ok_m_law (dfun F) (C__law_cell_at := (C__law_cell_at E)) (C__law_digits := (C__law_digits E)) (C__law_two := (C__law_two E)) (C__law_make := (C__law_make E)) (C__law_word := (C__law_word E)) (C_against := (C_against E)) (C__law_rows := (C__law_rows E)) (C__law_wide := (C__law_wide E)) (C__law_leaves := (C__law_leaves E)) (M_tally := (MT_tally E 8)) (K_Book := (K_Book E)) (n_isinstance := (E.free (E.f 14))) (n_str := (E.free (E.f 10)))⟩
theorem start_law {K : PySem.W.Frag} {H : Hp} {a : Addr} {ns : List Int} (hl : ns.length ≤ 63) (hO : Only H) (hS : SqL K H a (ns.map V.int)) : spD K (cB K) 1 m_law [.ref a] H (fun v _ => v = .bl true) (fun _ _ _ => False) := by
  refine ⟨H, [.scr ns], .bl true, ⟨.refl _, ?_, ?_⟩, ⟨_, [], rfl, ⟨a, rfl, hS⟩, rfl⟩, rfl, law_true ns hl, fun v G' H' g r => r⟩
  · intro p C dx fs v h1 _
    rcases hO p with h | ⟨o, xs, h⟩ <;> rw [h] at h1 <;> cases h1
  · intro p kvs h1
    rcases hO p with h | ⟨o, xs, h⟩ <;> rw [h] at h1 <;> cases h1
end DL
open PySem PySem.W PySem.Calls PyProof.Rows
theorem PySem.Challenge.cw_fivefields_k71_against_holds : PySem.Challenge.rw_fivefields_k71_against.Holds := by
  w_on; o_law
  refine HandSHeadRun.head_any (r := OpenLaw.row PySem.Challenge.rw_fivefields_k71_against) (q := view (OpenLaw.row PySem.Challenge.rw_fivefields_k71_against).prog [110]) (H := DL.hkL DL.as1 DL.faX DL.xsX DL.fnX) (ob := DL.obL DL.as1 DL.faX DL.xsX DL.fnX) (M := 30000) (loose := DL.nm1) (d := HandSHeadRun.topDef (OpenLaw.row PySem.Challenge.rw_fivefields_k71_against).prog 110) (kwd := []) DL.obL_ok
    (by kernel_rfl) (fun s => by kernel_rfl) DL.runX (by kernel_rfl) (by kernel_rfl) (by kernel_rfl) (by rfl) (by first | assumption | decide +kernel) (by decide +kernel) ⟨rfl, rfl, rfl, rfl, rfl, by decide +kernel⟩ ?hw ?hc
  case hw => w_witness2
  case hc =>
    refine L2.walk_ofE (l := PySem.Challenge.rw_fivefields_k71_against) (n := 63) (k := 24) (x := "_law_script") (CX := L2.CX0) rfl (by decide) (by kernel_rfl) ⟨rfl, by decide, by decide⟩ ?F (fun _ _ _ _ z => z)
    intro w mg fa h Y G hmg0
    obtain ⟨K, KX, e⟩ := Y
    have E : DL.EV K mg := DL.ev_X (DL.ev_of KX G e)
    have hmg : mg ("law" : PySem.Str) = some (.ref fa) := by
      have e : (HandSHeadRun.topDef (OpenLaw.row PySem.Challenge.rw_fivefields_k71_against).prog 110).name = ("law" : PySem.Str) := by kernel_rfl
      rw [← e]
      exact hmg0
    have e1 := hmg.symm.trans (E.glo (x := "law") (E.f 0))
    cases e1
    obtain ⟨fd, hb, hF⟩ := DL.Law_ok E
    exact ⟨K, fd, _, KX, hb, fun H a ns hl hO hS => DL.start_law hl hO hS, fun base _ _ => hF _ w base⟩
