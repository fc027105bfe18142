import PyProof.Rows.All
import Wide.All
import OpenK.AllK
import Wide.FinOn
import HandS.ForMost
import HandS.WideBits
import PyProof.NeKinds
import HandS.Spec
import HandS.IsInst
import HandS.Conv
import HandS.RaiseMore
import HandS.Walk
import HandS.Defaults
import HandS.Codes
import HandS.Exc
import HandS.Deep
import HandS.DictTup
import HandS.Head0
import HandS.Head1
import HandS.Head2
import HandS.HeadEnd
import HandS.HeadHook1
import HandS.HeadHook2
import KE.KBits
import PyProof.StrLawsChain
import PyProof.StrLawsTight
import PySem.Challenge.RW_fivefields_k63_on_days
set_option Elab.async false
set_option linter.all false
set_option maxRecDepth 100000
/-! Data layer: trees of data over the abstract heap, an expression as a function of the slots' data. -/
namespace DL
open PySem L2

inductive D where
  | non | bl (b : Bool) | int (i : Int) | str (x : Str)
  | lst (xs : List D) | tup (xs : List D) | ins (c : Nat) (fs : List D) | raw (v : V)
  /-- the script: ints that are read alone -/
  | scr (ns : List Int)
  /-- an attribute of which nothing is told -/
  | any
  /-- a def as a value; a dict that stays as it is -/
  | fn (i : Nat) | dct (ks : List Key) (ds : List D)
  /-- a dict that keeps what was told: its sort, what it belongs to, keys known to be there with what they tell -/
  | mem (i : Nat) (d : D) (ks : List (List Key)) (xs : List D)

/-- a list, a tuple, a dict with plain keys -/
def ben : HO → Prop
  | .lst _ => True
  | .tup _ => True
  | .dK _ => True
  | _ => False
def isDict : HO → Bool
  | .dT _ => true
  | .dK _ => true
  | _ => false
/-- what may be read: objects, the dicts that keep, their known entries -/
structure Gh where
  h : Hp
  m : Addr → Option (Nat × D)
  e : Addr → List Key → Option V
instance : CoeFun Gh (fun _ => Addr → Option HO) := ⟨Gh.h⟩
instance : Coe Gh Hp := ⟨Gh.h⟩
def Gh.put (G : Gh) (p : Addr) (o : HO) : Gh := ⟨upd G.h p o, G.m, G.e⟩
def Gh.mem (G : Gh) (p : Addr) (i : Nat) (d : D) : Gh := ⟨G.h, fun a => if a = p then some (i, d) else G.m a, G.e⟩
def Gh.learn (G : Gh) (p : Addr) (k : List Key) (w : V) : Gh := ⟨G.h, G.m, fun a l => if a = p ∧ l = k then some w else G.e a l⟩
structure SameG (G G' : Gh) : Prop where
  h : Same G.h G'.h
  m : ∀ a t, G.m a = some t → G'.m a = some t
  e : ∀ a k w, G.e a k = some w → G'.e a k = some w
instance {G G' : Gh} : CoeFun (SameG G G') (fun _ => Same G.h G'.h) := ⟨SameG.h⟩
theorem SameG.refl (G : Gh) : SameG G G := ⟨Same.refl _, fun _ _ h => h, fun _ _ _ h => h⟩
theorem SameG.trans {G G' G2 : Gh} (a : SameG G G') (b : SameG G' G2) : SameG G G2 := ⟨a.h.trans b.h, fun x t h => b.m x t (a.m x t h), fun x k w h => b.e x k w (a.e x k w h)⟩
theorem SameG.seq {K : PySem.W.Frag} {G G' : Gh} {p : Addr} {xs : List V} (s : SameG G G') (h : SqL K G p xs) : SqL K G' p xs := s.h.seq h
section
variable (K : PySem.W.Frag) (cl : Nat → Addr) (nm : Nat → List Str) (fn : Nat → Addr) (fm : Nat → D → List Key → Option D) (G : Gh)
mutual
def Rep0 : D → V → Prop
  | .non, v => v = .non
  | .bl b, v => v = .bl b
  | .int i, v => v = .int i
  | .str x, v => v = .str x
  | .lst ds, v => ∃ p vs, v = .ref p ∧ G p = some (.lst vs) ∧ RepL0 ds vs
  | .tup ds, v => ∃ p vs, v = .ref p ∧ SqT K G p vs ∧ RepL0 ds vs
  | .ins n ds, v => ∃ p dx vs, v = .ref p ∧ G p = some (.ins (cl n) dx ((nm n).zip vs)) ∧ vs.length = (nm n).length ∧ RepL0 ds vs
  | .raw w, v => v = w
  | .scr ns, v => ∃ p, v = .ref p ∧ SqL K G p (ns.map V.int)
  | .any, _ => True
  | .fn i, v => v = .ref (fn i)
  | .dct ks ds, v => ∃ p vs, v = .ref p ∧ G p = some (.dK (ks.zip vs)) ∧ vs.length = ks.length ∧ RepL0 ds vs
  | .mem i d ks xs, v => ∃ p vs, v = .ref p ∧ G.m p = some (i, d) ∧ vs.length = ks.length ∧ RepL0 xs vs ∧
    (∀ (j : Nat) (k : List Key) (w : V), ks[j]? = some k → vs[j]? = some w → G.e p k = some w) ∧ ∀ (j : Nat) (k : List Key) (x : D), ks[j]? = some k → xs[j]? = some x → fm i d k = some x
def RepL0 : List D → List V → Prop
  | [], vs => vs = []
  | d :: ds, vs => ∃ v r, vs = v :: r ∧ Rep0 d v ∧ RepL0 ds r
end
end

mutual
/-- no dict that keeps within -/
def mfree : D → Bool
  | .non => true
  | .bl _ => true
  | .int _ => true
  | .str _ => true
  | .lst ds => mfreeL ds
  | .tup ds => mfreeL ds
  | .ins _ ds => mfreeL ds
  | .raw _ => true
  | .scr _ => true
  | .any => true
  | .fn _ => true
  | .dct _ ds => mfreeL ds
  | .mem _ _ _ _ => false
def mfreeL : List D → Bool
  | [] => true
  | d :: ds => mfree d && mfreeL ds
end
/-- the classes: where each stands, the names of its instances' attributes in order; the defs that are values; the sorts of dicts that keep: what each tells of a key, which keys it may be asked, whether keys are tuples -/
structure Cf where
  K : PySem.W.Frag
  cl : Nat → Addr
  nm : Nat → List Str
  fn : Nat → Addr
  fm : Nat → D → List Key → Option D
  um : Nat → D → List (List Key)
  tk : Nat → Bool

abbrev Rep (K : PySem.W.Frag) (c : Cf) (G : Gh) : D → V → Prop := Rep0 K c.cl c.nm c.fn c.fm G
abbrev RepL (K : PySem.W.Frag) (c : Cf) (G : Gh) : List D → List V → Prop := RepL0 K c.cl c.nm c.fn c.fm G
inductive DObj : Bool → List (List Key × V) → HO → Prop
  | t (kvs : List (List Key × V)) : DObj true kvs (.dT kvs)
  | k (kvs : List (Key × V)) : DObj false (kvs.map fun q => ([q.1], q.2)) (.dK kvs)
structure MemOk (c : Cf) (G : Gh) (H : Hp) (a : Addr) (i : Nat) (d : D) (kvs : List (List Key × V)) (o : HO) : Prop where
  ho : H a = some o
  ob : DObj (c.tk i) kvs o
  en : ∀ k w, valV kvs k = some w → ∃ x, c.fm i d k = some x ∧ mfree x = true ∧ Rep c.K c G x w
  kn : ∀ k w, G.e a k = some w → valV kvs k = some w
  ct : kvs.length + (c.um i d).countP (fun k => (valV kvs k).isNone) ≤ (c.um i d).length
  ub : (c.um i d).length ≤ 100000
/-- what may be read lies in what stands -/
structure Sm (c : Cf) (G : Gh) (H : Hp) : Prop where
  s : Same G.h H
  n : ∀ a t, G.m a = some t → G.h a = none
  k : ∀ a i d, G.m a = some (i, d) → ∃ kvs o, MemOk c G H a i d kvs o
  q : ∀ a k w, G.e a k = some w → ∃ t, G.m a = some t
instance {c : Cf} {G : Gh} {H : Hp} : CoeFun (Sm c G H) (fun _ => Same G.h H) := ⟨Sm.s⟩
theorem Sm.none {c : Cf} {G : Gh} {H : Hp} (s : Sm c G H) {p : Addr} (h : H p = Option.none) : G p = Option.none := s.s.free h
theorem Sm.seq {K : PySem.W.Frag} {c : Cf} {G : Gh} {H : Hp} {p : Addr} {xs : List V} (s : Sm c G H) (h : SqL K G p xs) : SqL K H p xs := s.s.seq h
theorem DObj.dict {b : Bool} {kvs : List (List Key × V)} {o : HO} (h : DObj b kvs o) : isDict o = true := by cases h <;> rfl
/-- what is no dict keeps nothing -/
theorem Sm.nom {c : Cf} {G : Gh} {H : Hp} {p : Addr} {o : HO} (s : Sm c G H) (h : H p = some o) (b : isDict o = false) : G.m p = Option.none := by
  cases e : G.m p with
  | none => rfl
  | some t =>
    obtain ⟨kvs, o', q⟩ := s.k p t.1 t.2 e
    rw [q.ho] at h
    cases h
    rw [q.ob.dict] at b
    cases b
/-- what is not there keeps nothing -/
theorem Sm.nom0 {c : Cf} {G : Gh} {H : Hp} {p : Addr} (s : Sm c G H) (h : H p = Option.none) : G.m p = Option.none := by
  cases e : G.m p with
  | none => rfl
  | some t =>
    obtain ⟨kvs, o', q⟩ := s.k p t.1 t.2 e
    rw [q.ho] at h
    cases h
section
variable {K : PySem.W.Frag} {c : Cf} {G G' G1 G2 : Gh} {H H' H1 H2 : Hp}
mutual
theorem Rep0.mono (s : SameG G G') : ∀ {d : D} {v : V}, Rep K c G d v → Rep K c G' d v
  | .non, _, h => h
  | .bl _, _, h => h
  | .int _, _, h => h
  | .str _, _, h => h
  | .raw _, _, h => h
  | .scr _, _, h => by
    obtain ⟨p, e, q⟩ := h
    exact ⟨p, e, s.h.seq q⟩
  | .any, _, _ => True.intro
  | .fn _, _, h => h
  | .dct ks ds, _, h => by
    obtain ⟨p, vs, e, q, l, r⟩ := h
    exact ⟨p, vs, e, s _ _ q, l, RepL0.mono s r⟩
  | .mem i d ks xs, _, h => by
    obtain ⟨p, vs, e, q, l, r, z, f⟩ := h
    exact ⟨p, vs, e, s.m _ _ q, l, RepL0.mono s r, fun j k w h1 h2 => s.e _ _ _ (z j k w h1 h2), f⟩
  | .lst ds, _, h => by
    obtain ⟨p, vs, e, q, r⟩ := h
    exact ⟨p, vs, e, s _ _ q, RepL0.mono s r⟩
  | .tup ds, _, h => by
    obtain ⟨p, vs, e, q, r⟩ := h
    refine ⟨p, vs, e, ?_, RepL0.mono s r⟩
    rcases q with (q | ⟨o, q⟩) | q
    · exact .inl (.inl (s _ _ q))
    · exact .inl (.inr ⟨o, s _ _ q⟩)
    · exact .inr q
  | .ins n ds, _, h => by
    obtain ⟨p, dx, vs, e, q, l, r⟩ := h
    exact ⟨p, dx, vs, e, s _ _ q, l, RepL0.mono s r⟩
theorem RepL0.mono (s : SameG G G') : ∀ {ds : List D} {vs : List V}, RepL K c G ds vs → RepL K c G' ds vs
  | [], _, h => h
  | d :: ds, _, h => by
    obtain ⟨v, r, e, h1, h2⟩ := h
    exact ⟨v, r, e, Rep0.mono s h1, RepL0.mono s h2⟩
end
mutual
theorem Rep0.free (s : Same G.h G'.h) : ∀ {d : D} {v : V}, mfree d = true → Rep K c G d v → Rep K c G' d v
  | .non, _, _, h => h
  | .bl _, _, _, h => h
  | .int _, _, _, h => h
  | .str _, _, _, h => h
  | .raw _, _, _, h => h
  | .scr _, _, _, h => by
    obtain ⟨p, e, q⟩ := h
    exact ⟨p, e, s.seq q⟩
  | .any, _, _, _ => True.intro
  | .fn _, _, _, h => h
  | .dct ks ds, _, f, h => by
    obtain ⟨p, vs, e, q, l, r⟩ := h
    exact ⟨p, vs, e, s _ _ q, l, RepL0.free s f r⟩
  | .mem i d ks xs, _, f, _ => nomatch f
  | .lst ds, _, f, h => by
    obtain ⟨p, vs, e, q, r⟩ := h
    exact ⟨p, vs, e, s _ _ q, RepL0.free s f r⟩
  | .tup ds, _, f, h => by
    obtain ⟨p, vs, e, q, r⟩ := h
    refine ⟨p, vs, e, ?_, RepL0.free s f r⟩
    rcases q with (q | ⟨o, q⟩) | q
    · exact .inl (.inl (s _ _ q))
    · exact .inl (.inr ⟨o, s _ _ q⟩)
    · exact .inr q
  | .ins n ds, _, f, h => by
    obtain ⟨p, dx, vs, e, q, l, r⟩ := h
    exact ⟨p, dx, vs, e, s _ _ q, l, RepL0.free s f r⟩
theorem RepL0.free (s : Same G.h G'.h) : ∀ {ds : List D} {vs : List V}, mfreeL ds = true → RepL K c G ds vs → RepL K c G' ds vs
  | [], _, _, h => h
  | d :: ds, _, f, h => by
    obtain ⟨v, r, e, h1, h2⟩ := h
    unfold mfreeL at f
    rw [Bool.and_eq_true] at f
    exact ⟨v, r, e, Rep0.free s f.1 h1, RepL0.free s f.2 h2⟩
end
theorem RepL0.length : ∀ {ds : List D} {vs : List V}, RepL K c G ds vs → vs.length = ds.length
  | [], _, h => by cases h; rfl
  | d :: ds, _, h => by
    obtain ⟨v, r, rfl, _, h2⟩ := h
    simp [RepL0.length h2]
theorem RepL0.get : ∀ {ds : List D} {vs : List V} {i : Nat} {d : D}, RepL K c G ds vs → ds[i]? = some d → ∃ v, vs[i]? = some v ∧ Rep K c G d v
  | [], _, _, _, _, e => by simp at e
  | d :: ds, _, 0, x, h, e => by
    obtain ⟨v, r, rfl, h1, h2⟩ := h
    simp at e; subst e
    exact ⟨v, by simp, h1⟩
  | d :: ds, _, i + 1, x, h, e => by
    obtain ⟨v, r, rfl, h1, h2⟩ := h
    obtain ⟨u, e1, e2⟩ := RepL0.get (i := i) h2 (by simpa using e)
    exact ⟨u, by simpa using e1, e2⟩
theorem RepL0.getV : ∀ {ds : List D} {vs : List V} {i : Nat} {v : V}, RepL K c G ds vs → vs[i]? = some v → ∃ d, ds[i]? = some d ∧ Rep K c G d v
  | [], _, _, _, h, e => by cases h; simp at e
  | d :: ds, _, 0, x, h, e => by
    obtain ⟨v, r, rfl, h1, h2⟩ := h
    simp at e; subst e
    exact ⟨d, by simp, h1⟩
  | d :: ds, _, i + 1, x, h, e => by
    obtain ⟨v, r, rfl, h1, h2⟩ := h
    obtain ⟨u, e1, e2⟩ := RepL0.getV (i := i) h2 (by simpa using e)
    exact ⟨u, by simpa using e1, e2⟩
theorem RepL0.append : ∀ {ds es : List D} {vs us : List V}, RepL K c G ds vs → RepL K c G es us → RepL K c G (ds ++ es) (vs ++ us)
  | [], _, _, _, h, q => by cases h; exact q
  | d :: ds, _, _, _, h, q => by
    obtain ⟨v, r, rfl, h1, h2⟩ := h
    exact ⟨v, r ++ _, rfl, h1, RepL0.append h2 q⟩
theorem RepL0.one {d : D} {v : V} (h : Rep K c G d v) : RepL K c G [d] [v] := ⟨v, [], rfl, h, rfl⟩
theorem RepL0.set : ∀ {ds : List D} {vs : List V} {i : Nat} {d : D} {v : V}, RepL K c G ds vs → Rep K c G d v → RepL K c G (ds.set i d) (vs.set i v)
  | [], _, _, _, _, h, _ => by cases h; rfl
  | _ :: ds, _, 0, _, _, h, q => by
    obtain ⟨v, r, rfl, h1, h2⟩ := h
    exact ⟨_, r, rfl, q, h2⟩
  | _ :: ds, _, i + 1, _, _, h, q => by
    obtain ⟨v, r, rfl, h1, h2⟩ := h
    exact ⟨v, _, rfl, h1, RepL0.set h2 q⟩
theorem RepL0.take : ∀ {ds : List D} {vs : List V} (n : Nat), RepL K c G ds vs → RepL K c G (ds.take n) (vs.take n)
  | _, _, 0, _ => rfl
  | [], _, _ + 1, h => by cases h; rfl
  | d :: ds, _, n + 1, h => by
    obtain ⟨v, r, rfl, h1, h2⟩ := h
    exact ⟨v, _, rfl, h1, RepL0.take n h2⟩
theorem RepL0.drop : ∀ {ds : List D} {vs : List V} (n : Nat), RepL K c G ds vs → RepL K c G (ds.drop n) (vs.drop n)
  | _, _, 0, h => h
  | [], _, _ + 1, h => by cases h; rfl
  | d :: ds, _, n + 1, h => by
    obtain ⟨v, r, rfl, h1, h2⟩ := h
    exact RepL0.drop n h2

/-! ### the step: what may be read (G), all that stands (H) -/
structure Gr (c : Cf) (G : Gh) (H : Hp) (G' : Gh) (H' : Hp) : Prop where
  g : SameG G G'
  h : ∀ a o, H a = some o → G.m a = none → H' a = some o
  d : ∀ a, H' a = none → H a = none
  m : ∀ a o, H a = some o → G.m a = none → G'.m a = none
  nl : ∀ a o, H a = some o → isDict o = false → G.m a = none
  s : Sm c G' H'
  f : ∀ a o, H a = some o → G a = none → G' a = none
theorem Gr.refl (s : Sm c G H) : Gr c G H G H := ⟨.refl _, fun _ _ h _ => h, fun _ h => h, fun _ _ _ h => h, fun _ _ => s.nom, s, fun _ _ _ h => h⟩
theorem some_of {H : Hp} {a : Addr} {p : Prop} (h : H a = none → p) (n : ¬ p) : ∃ o, H a = some o := by
  cases q : H a with
  | none => exact (n (h q)).elim
  | some o => exact ⟨o, rfl⟩
theorem Gr.ex (a : Gr c G H G1 H1) {x : Addr} {o : HO} (e : H x = some o) : ∃ o', H1 x = some o' := by
  cases q : H1 x with
  | none => rw [a.d x q] at e; cases e
  | some o' => exact ⟨o', rfl⟩
theorem Gr.trans (a : Gr c G H G1 H1) (b : Gr c G1 H1 G2 H2) : Gr c G H G2 H2 :=
  ⟨a.g.trans b.g, fun x o e n => b.h x o (a.h x o e n) (a.m x o e n), fun x e => a.d x (b.d x e),
    fun x o e n => b.m x o (a.h x o e n) (a.m x o e n), a.nl, b.s, fun x o e n => let ⟨o', e'⟩ := a.ex e; b.f x o' e' (a.f x o e n)⟩
theorem Gr.hl {p : Addr} {vs : List V} (a : Gr c G H G1 H1) (e : H p = some (.lst vs)) : H1 p = some (.lst vs) := a.h p _ e (a.nl p _ e rfl)
theorem Gr.hi {p C dx : Addr} {fs : List (Str × V)} (a : Gr c G H G1 H1) (e : H p = some (.ins C dx fs)) : H1 p = some (.ins C dx fs) := a.h p _ e (a.nl p _ e rfl)
theorem Gr.hn {p : Addr} (a : Gr c G H G1 H1) (e : H1 p = none) : H p = none := a.d p e
theorem _root_.L2.Same.new {H : Hp} {p : Addr} {o : HO} (h : H p = none) : Same H (upd H p o) := fun a u e => by
  rw [upd_ne (ne_of_none e h)]; exact e
theorem _root_.L2.Same.none {G H : Hp} (s : Same G H) {p : Addr} (h : H p = Option.none) : G p = Option.none := s.free h
theorem SameG.put {p : Addr} {o : HO} (h : G p = none) : SameG G (G.put p o) := ⟨Same.new h, fun _ _ e => e, fun _ _ _ e => e⟩
theorem put_same {p : Addr} {o : HO} : (G.put p o).h p = some o := upd_same
theorem MemOk.up {a : Addr} {i : Nat} {d : D} {kvs : List (List Key × V)} {o : HO} (q : MemOk c G H a i d kvs o) (s : SameG G G') (he : ∀ k w, G'.e a k = some w → G.e a k = some w) (h : H' a = some o) : MemOk c G' H' a i d kvs o :=
  ⟨h, q.ob, fun k w e => let ⟨x, e1, f, r⟩ := q.en k w e; ⟨x, e1, f, r.mono s⟩, fun k w e => q.kn k w (he k w e), q.ct, q.ub⟩
/-- a new object that is not read -/
theorem Gr.add {p : Addr} {o : HO} (s : Sm c G H) (h : H p = none) (b : ben o) : Gr c G H G (upd H p o) :=
  have up : ∀ a u, H a = some u → (upd H p o) a = some u := fun a u e => by rw [upd_ne (ne_of_none e h)]; exact e
  ⟨.refl _, fun a u e _ => up a u e, fun a e => by
    by_cases z : a = p
    · subst z; exact h
    · rw [upd_ne z] at e; exact e, fun a u e z => z, fun _ _ => s.nom, ⟨fun a u e => up a u (s a u e), s.n, fun a i d e => let ⟨kvs, o', q⟩ := s.k a i d e; ⟨kvs, o', q.up (.refl _) (fun _ _ z => z) (up a _ q.ho)⟩, s.q⟩, fun _ _ _ n => n⟩
/-- a new object, to be read -/
theorem Gr.new {p : Addr} {o : HO} (s : Sm c G H) (h : H p = none) (b : ben o) : Gr c G H (G.put p o) (upd H p o) :=
  let g := Gr.add (c := c) (o := o) s h b
  have sg : SameG G (G.put p o) := SameG.put (s.none h)
  ⟨sg, g.h, g.d, g.m, g.nl, ⟨fun a u e => by
    by_cases z : a = p
    · subst z; rw [show (G.put a o).h a = some o from upd_same] at e; rw [upd_same]; exact e
    · rw [show (G.put p o).h a = G.h a from upd_ne z] at e; rw [upd_ne z]; exact s a u e, fun a t e => by
      by_cases z : a = p
      · subst z; rw [show (G.put a o).m a = none from s.nom0 h] at e; cases e
      · rw [show (G.put p o).h a = G.h a from upd_ne z]; exact s.n a t e, fun a i d e => let ⟨kvs, o', q⟩ := s.k a i d e; ⟨kvs, o', q.up sg (fun _ _ z => z) (by rw [upd_ne (ne_of_none q.ho h)]; exact q.ho)⟩, s.q⟩, fun a u e n => by rw [show (G.put p o).h a = G.h a from upd_ne (ne_of_none e h)]; exact n⟩
/-- an object that was not there at the start has changed -/
theorem Gr.chgB {p : Addr} {o o' : HO} (a : Gr c G H G1 H1) (n : H p = none) (m : G1 p = none) (e : H1 p = some o) (nm : G1.m p = none) : Gr c G H G1 (upd H1 p o') :=
  ⟨a.g, fun x o q z => by rw [upd_ne (ne_of_none q n)]; exact a.h x o q z, fun x q => by
    by_cases z : x = p
    · subst z; exact n
    · rw [upd_ne z] at q; exact a.d x q, a.m, a.nl, ⟨fun x o q => by rw [upd_ne (ne_of_none q m)]; exact a.s x o q, a.s.n, fun x i d q => by
      obtain ⟨kvs, ob, w⟩ := a.s.k x i d q
      have z : x ≠ p := fun z => by subst z; rw [nm] at q; cases q
      exact ⟨kvs, ob, w.up (.refl _) (fun _ _ z => z) (by rw [upd_ne z]; exact w.ho)⟩, a.s.q⟩, a.f⟩
theorem Gr.chg {p : Addr} {xs ys : List V} (a : Gr c G H G1 H1) (n : H p = none) (m : G1 p = none) (e : H1 p = some (.lst xs)) : Gr c G H G1 (upd H1 p (.lst ys)) := a.chgB n m e (a.s.nom e rfl)
/-- a new instance that is not read -/
theorem Gr.addI {p dx C : Addr} {fs : List (Str × V)} (s : Sm c G H) (h : H p = none) (hd : H dx = none) (ne : dx ≠ p) : Gr c G H G (upd (upd H dx (.own p)) p (.ins C dx fs)) :=
  have up : ∀ a u, H a = some u → (upd (upd H dx (.own p)) p (.ins C dx fs)) a = some u := fun a u e => by rw [upd_ne (ne_of_none e h), upd_ne (ne_of_none e hd)]; exact e
  ⟨.refl _, fun a u e _ => up a u e, fun a e => by
    by_cases z : a = p
    · subst z; exact h
    · rw [upd_ne z] at e
      by_cases y : a = dx
      · subst y; exact hd
      · rw [upd_ne y] at e; exact e, fun a u e z => z, fun _ _ => s.nom, ⟨fun a u e => up a u (s a u e), s.n, fun a i d e => let ⟨kvs, o', q⟩ := s.k a i d e; ⟨kvs, o', q.up (.refl _) (fun _ _ z => z) (up a _ q.ho)⟩, s.q⟩, fun _ _ _ n => n⟩
/-- an instance that was not there at the start has changed -/
theorem Gr.chI {p dx C : Addr} {fs fs' : List (Str × V)} (a : Gr c G H G1 H1) (n : H p = none) (m : G1 p = none) (e : H1 p = some (.ins C dx fs)) : Gr c G H G1 (upd H1 p (.ins C dx fs')) := a.chgB n m e (a.s.nom e rfl)
/-! a dict that keeps -/
theorem DObj.nil : ∀ b : Bool, DObj b [] (if b then .dT [] else .dK [])
  | true => .t []
  | false => .k []
theorem Gr.newM {p : Addr} {i : Nat} {d : D} {o : HO} (s : Sm c G H) (h : H p = none) (ho : DObj (c.tk i) [] o) (ub : (c.um i d).length ≤ 100000) : Gr c G H (G.mem p i d) (upd H p o) :=
  have gp : G p = none := s.none h
  have up : ∀ a u, H a = some u → (upd H p o) a = some u := fun a u e => by rw [upd_ne (ne_of_none e h)]; exact e
  have hm : ∀ a, a ≠ p → (G.mem p i d).m a = G.m a := fun a z => if_neg z
  have sg : SameG G (G.mem p i d) := ⟨.refl _, fun a t e => by
    have z : a ≠ p := fun z => by subst z; rw [s.nom0 h] at e; cases e
    rw [hm a z]; exact e, fun _ _ _ e => e⟩
  ⟨sg, fun a u e _ => up a u e, fun a e => by
    by_cases z : a = p
    · subst z; exact h
    · rw [upd_ne z] at e; exact e, fun a u e z => by
      rw [hm a (ne_of_none e h)]; exact z, fun _ _ => s.nom, ⟨fun a u e => up a u (s a u e), fun a t e => by
      by_cases z : a = p
      · subst z; exact gp
      · rw [hm a z] at e; exact s.n a t e, fun a i' d' e => by
      by_cases z : a = p
      · subst z
        have e : some (i, d) = some (i', d') := (if_pos rfl).symm.trans e
        cases e
        refine ⟨[], o, upd_same, ho, (fun k w e => nomatch (valV_nil (k := k)).symm.trans e), fun k w e => ?_, ?_, ub⟩
        · obtain ⟨t, et⟩ := s.q a k w e
          rw [s.nom0 h] at et
          cases et
        · simpa using List.countP_le_length
      · rw [hm a z] at e
        obtain ⟨kvs, o', q⟩ := s.k a i' d' e
        exact ⟨kvs, o', q.up sg (fun _ _ z => z) (up a _ q.ho)⟩, fun a k w e => by
      obtain ⟨t, et⟩ := s.q a k w e
      exact ⟨t, sg.m a t et⟩⟩, fun a u e n => n⟩
theorem DObj.inj {b b' : Bool} {kvs kvs' : List (List Key × V)} {o : HO} (h : DObj b kvs o) (h' : DObj b' kvs' o) : kvs = kvs' := by
  cases h with
  | t => cases h'; rfl
  | k => cases h'; rfl
theorem MemOk.same {a : Addr} {i i' : Nat} {d d' : D} {kvs kvs' : List (List Key × V)} {o o' : HO} (q : MemOk c G H a i d kvs o) (q' : MemOk c G H a i' d' kvs' o') : kvs = kvs' := by
  have e := q.ho.symm.trans q'.ho
  cases e
  exact q.ob.inj q'.ob
/-- an entry that is there is known from now on -/
theorem sameG_learn {p : Addr} {i : Nat} {d : D} {kvs : List (List Key × V)} {o : HO} {k : List Key} {w : V} (q : MemOk c G H p i d kvs o) (hv : ∀ u, valV kvs k = some u → u = w) : SameG G (G.learn p k w) :=
  ⟨.refl _, fun _ _ e => e, fun a l u e => by
    by_cases z : a = p ∧ l = k
    · obtain ⟨rfl, rfl⟩ := z
      rw [hv u (q.kn _ _ e)]
      exact if_pos ⟨rfl, rfl⟩
    · exact (if_neg z).trans e⟩
theorem Gr.learn {p : Addr} {i : Nat} {d : D} {kvs : List (List Key × V)} {o : HO} {k : List Key} {w : V} (s : Sm c G H) (hm : G.m p = some (i, d)) (q : MemOk c G H p i d kvs o) (hv : valV kvs k = some w) : Gr c G H (G.learn p k w) H :=
  have sg : SameG G (G.learn p k w) := sameG_learn q fun u e => by rw [hv] at e; exact (Option.some.inj e).symm
  ⟨sg, fun _ _ e _ => e, fun _ e => e, fun _ _ _ z => z, fun _ _ => s.nom, ⟨s.s, s.n, fun a i' d' e => by
    obtain ⟨kvs', o', q'⟩ := s.k a i' d' e
    refine ⟨kvs', o', q'.ho, q'.ob, fun k w e => let ⟨x, e1, f, r⟩ := q'.en k w e; ⟨x, e1, f, r.mono sg⟩, fun l u e1 => ?_, q'.ct, q'.ub⟩
    by_cases z : a = p ∧ l = k
    · obtain ⟨rfl, rfl⟩ := z
      have e2 : some w = some u := (if_pos ⟨rfl, rfl⟩).symm.trans e1
      cases e2
      rw [q'.same q]
      exact hv
    · exact q'.kn l u ((if_neg z).symm.trans e1), fun a l u e1 => by
    by_cases z : a = p ∧ l = k
    · obtain ⟨rfl, rfl⟩ := z
      exact ⟨_, hm⟩
    · exact s.q a l u ((if_neg z).symm.trans e1)⟩, fun _ _ _ n => n⟩
theorem countP_lt {α : Type} {p q : α → Bool} (h : ∀ a, q a = true → p a = true) {x : α} (hp : p x = true) (hq : q x = false) : ∀ l : List α, x ∈ l → l.countP q + 1 ≤ l.countP p
  | [], m => nomatch m
  | a :: l, m => by
    rw [List.countP_cons, List.countP_cons]
    have mono : l.countP q ≤ l.countP p := List.countP_mono_left fun b _ => h b
    rcases List.mem_cons.mp m with rfl | m
    · rw [hp, hq]; simp; omega
    · have ih := countP_lt h hp hq l m
      have : (if q a = true then 1 else 0) ≤ (if p a = true then 1 else 0) := by
        by_cases z : q a = true
        · rw [if_pos z, if_pos (h a z)]; exact Nat.le_refl _
        · rw [if_neg z]; exact Nat.zero_le _
      omega
theorem ct_put {kvs : List (List Key × V)} {k : List Key} {w : V} {U : List (List Key)} (h : kvs.length + U.countP (fun k => (valV kvs k).isNone) ≤ U.length) (hU : k ∈ U) : (putK kvs k w).length + U.countP (fun l => (valV (putK kvs k w) l).isNone) ≤ U.length := by
  cases q : valV kvs k with
  | none =>
    have hl : (putK kvs k w).length = kvs.length + 1 := by rw [putK_new _ q]; simp
    have := countP_lt (p := fun k => (valV kvs k).isNone) (q := fun l => (valV (putK kvs k w) l).isNone) (fun l z => by
      simp only [valV_put] at z
      split at z
      · cases z
      · exact z) (x := k) (by simp [q]) (by simp [valV_put]) U hU
    omega
  | some u =>
    have hl : (putK kvs k w).length = kvs.length := by
      unfold putK
      rw [valV_any, q]
      simp
    have hc : U.countP (fun l => (valV (putK kvs k w) l).isNone) = U.countP (fun k => (valV kvs k).isNone) := by
      congr 1
      funext l
      rw [valV_put]
      split
      · rename_i z
        rw [z, q]
        rfl
      · rfl
    rw [hl, hc]
    exact h
/-- an entry more -/
theorem Gr.putM {p : Addr} {i : Nat} {d x : D} {kvs : List (List Key × V)} {o o' : HO} {k : List Key} {w : V} (g : Gr c G H G1 H1) (hm : G.m p = some (i, d)) (hn : G.e p k = none) (q : MemOk c G1 H1 p i d kvs o) (ho : DObj (c.tk i) (putK kvs k w) o') (hx : c.fm i d k = some x) (fx : mfree x = true) (rx : Rep c.K c G1 x w) (hU : k ∈ c.um i d) :
    Gr c G H (G1.learn p k w) (upd H1 p o') :=
  have hm1 : G1.m p = some (i, d) := g.g.m _ _ hm
  have sm : Same G1.h (G1.learn p k w).h := Same.refl _
  ⟨⟨g.g.h, g.g.m, fun a l u e => by
    by_cases z : a = p ∧ l = k
    · obtain ⟨rfl, rfl⟩ := z
      rw [hn] at e
      cases e
    · exact (if_neg z).trans (g.g.e _ _ _ e)⟩, fun a u e z => by
    have n : a ≠ p := fun n => by subst n; rw [hm] at z; cases z
    rw [upd_ne n]; exact g.h a u e z, fun a e => by
    by_cases z : a = p
    · subst z; rw [upd_same] at e; cases e
    · rw [upd_ne z] at e; exact g.d a e, g.m, g.nl, ⟨fun a u e => by
    have n : a ≠ p := fun n => by
      subst n
      have e0 : G1.h a = some u := e
      rw [g.s.n a _ hm1] at e0
      cases e0
    rw [upd_ne n]; exact g.s a u e, g.s.n, fun a i' d' e => by
    by_cases z : a = p
    · subst z
      have e0 : some (i, d) = some (i', d') := hm1.symm.trans e
      cases e0
      refine ⟨_, o', upd_same, ho, fun l u e1 => ?_, fun l u e1 => ?_, ct_put q.ct hU, q.ub⟩
      · rw [valV_put] at e1
        split at e1
        · rename_i z
          cases e1
          rw [z]
          exact ⟨x, hx, fx, rx.free sm fx⟩
        · obtain ⟨x', e2, f, r⟩ := q.en l u e1
          exact ⟨x', e2, f, r.free sm f⟩
      · rw [valV_put]
        by_cases z : l = k
        · rw [if_pos z]
          exact (if_pos ⟨rfl, z⟩).symm.trans e1
        · rw [if_neg z]
          exact q.kn l u ((if_neg (fun y => z y.2)).symm.trans e1)
    · obtain ⟨kvs', ob, q'⟩ := g.s.k a i' d' e
      exact ⟨kvs', ob, by rw [upd_ne z]; exact q'.ho, q'.ob, fun l u e1 => let ⟨x', e2, f, r⟩ := q'.en l u e1; ⟨x', e2, f, r.free sm f⟩, fun l u e1 => q'.kn l u ((if_neg (fun y => z y.1)).symm.trans e1), q'.ct, q'.ub⟩, fun a l u e1 => by
    by_cases z : a = p ∧ l = k
    · obtain ⟨rfl, rfl⟩ := z
      exact ⟨_, hm1⟩
    · exact g.s.q a l u ((if_neg z).symm.trans e1)⟩, g.f⟩

/-! ### slots: unknown, a value to be read, a list of the def's own that it may change -/
inductive S3 where
  | un | val (d : D) | own (ds : List D)
abbrev Sl := List S3
structure Slots (K : PySem.W.Frag) (c : Cf) (G : Gh) (H : Hp) (ρ : Sl) (σ : St) : Prop where
  len : ρ.length = σ.length
  val : ∀ (i : Nat) (d : D), ρ[i]? = some (.val d) → ∃ v, σ[i]? = some (some v) ∧ Rep K c G d v
  own : ∀ (i : Nat) (ds : List D), ρ[i]? = some (.own ds) → ∃ p vs, σ[i]? = some (some (.ref p)) ∧ G p = none ∧ H p = some (.lst vs) ∧ RepL K c G ds vs
  dis : ∀ (i j : Nat) (ds es : List D) (p : Addr), ρ[i]? = some (.own ds) → ρ[j]? = some (.own es) → σ[i]? = some (some (.ref p)) → σ[j]? = some (some (.ref p)) → i = j
variable {ρ : Sl} {σ : St}
theorem Slots.step (h : Slots K c G H ρ σ) (g : Gr c G H G' H') : Slots K c G' H' ρ σ :=
  ⟨h.len, fun i d e => let ⟨v, a, b⟩ := h.val i d e; ⟨v, a, b.mono g.g⟩,
    fun i ds e => let ⟨p, vs, a, b, q, r⟩ := h.own i ds e; ⟨p, vs, a, g.f p _ q b, g.hl q, r.mono g.g⟩, h.dis⟩
theorem set_eq {α : Type} {l : List α} {i j : Nat} {x y : α} (h : (l.set i x)[j]? = some y) : (i = j ∧ i < l.length ∧ y = x) ∨ (i ≠ j ∧ l[j]? = some y) := by
  by_cases hj : i = j
  · subst hj
    by_cases hi : i < l.length
    · rw [List.getElem?_set_self hi] at h
      exact .inl ⟨rfl, hi, (Option.some.inj h).symm⟩
    · rw [List.getElem?_eq_none (by simpa using hi)] at h; cases h
  · rw [List.getElem?_set_ne hj] at h
    exact .inr ⟨hj, h⟩
theorem Slots.set {i : Nat} {d : D} {v : V} (h : Slots K c G H ρ σ) (r : Rep K c G d v) : Slots K c G H (ρ.set i (.val d)) (σ.set i (some v)) := by
  refine ⟨by simp [h.len], fun j x e => ?_, fun j x e => ?_, fun j k x y p e1 e2 e3 e4 => ?_⟩
  · rcases set_eq e with ⟨rfl, hi, z⟩ | ⟨hj, e⟩
    · cases z
      exact ⟨v, List.getElem?_set_self (by rw [← h.len]; exact hi), r⟩
    · rw [List.getElem?_set_ne hj]
      exact h.val j x e
  · rcases set_eq e with ⟨rfl, hi, z⟩ | ⟨hj, e⟩
    · cases z
    · rw [List.getElem?_set_ne hj]
      exact h.own j x e
  · rcases set_eq e1 with ⟨rfl, hi, z⟩ | ⟨hj, e1⟩
    · cases z
    · rcases set_eq e2 with ⟨rfl, hi, z⟩ | ⟨hk, e2⟩
      · cases z
      · rw [List.getElem?_set_ne hj] at e3
        rw [List.getElem?_set_ne hk] at e4
        exact h.dis j k x y p e1 e2 e3 e4
theorem Slots.unset {i : Nat} (h : Slots K c G H ρ σ) (o : Option V) : Slots K c G H (ρ.set i .un) (σ.set i o) := by
  refine ⟨by simp [h.len], fun j x e => ?_, fun j x e => ?_, fun j k x y p e1 e2 e3 e4 => ?_⟩
  · rcases set_eq e with ⟨rfl, hi, z⟩ | ⟨hj, e⟩
    · cases z
    · rw [List.getElem?_set_ne hj]
      exact h.val j x e
  · rcases set_eq e with ⟨rfl, hi, z⟩ | ⟨hj, e⟩
    · cases z
    · rw [List.getElem?_set_ne hj]
      exact h.own j x e
  · rcases set_eq e1 with ⟨rfl, hi, z⟩ | ⟨hj, e1⟩
    · cases z
    · rcases set_eq e2 with ⟨rfl, hi, z⟩ | ⟨hk, e2⟩
      · cases z
      · rw [List.getElem?_set_ne hj] at e3
        rw [List.getElem?_set_ne hk] at e4
        exact h.dis j k x y p e1 e2 e3 e4
/-- the comprehension's own names forgotten -/
def wipeD (ρ : Sl) : List Nat → Sl
  | [] => ρ
  | v :: vs => (wipeD ρ vs).set v .un
theorem Slots.wipe (h : Slots K c G H ρ σ) : ∀ vs, Slots K c G H (wipeD ρ vs) (L2.wipe σ vs)
  | [] => h
  | v :: vs => (h.wipe vs).unset none
end

/-! ### expressions -/
abbrev DE := Sl → Option D
abbrev DB := Sl → Option Bool
abbrev DA := Sl → Option (List D)
section
variable (K : PySem.W.Frag) (c : Cf)
def tD (f : DE) : TE := fun σ H Q => ∃ G ρ d, Sm c G H ∧ Slots K c G H ρ σ ∧ f ρ = some d ∧ ∀ v G' H', Gr c G H G' H' → Rep K c G' d v → Q v H'
def tDT (f : DB) : TT := fun σ H Q => ∃ G ρ b, Sm c G H ∧ Slots K c G H ρ σ ∧ f ρ = some b ∧ ∀ G' H', Gr c G H G' H' → Q b H'
def tDA (f : DA) : TA := fun σ H Q => ∃ G ρ ds, Sm c G H ∧ Slots K c G H ρ σ ∧ f ρ = some ds ∧ ∀ vs G' H', Gr c G H G' H' → RepL K c G' ds vs → Q vs H'
end
section
variable {X : Cx} {K : PySem.W.Frag} {c : Cf} {e a b : Expr} {es : List Expr} {pos : Pos}
theorem _root_.L2.PE.imp {t t' : TE} (h : PE X e t) (i : ∀ σ H Q, t' σ H Q → t σ H Q) : PE X e t' := ⟨fun pins s σ H Q I q => h.run pins s σ H Q I (i σ H Q q)⟩
theorem _root_.L2.PT.imp {t t' : TT} (h : PT X e t) (i : ∀ σ H Q, t' σ H Q → t σ H Q) : PT X e t' := ⟨fun pins s σ H Q I q => h.run pins s σ H Q I (i σ H Q q)⟩
theorem _root_.L2.PW.imp {t t' : TT} (h : PW X e t) (i : ∀ σ H Q, t' σ H Q → t σ H Q) : PW X e t' := ⟨fun w pins s σ H Q I q => h.run w pins s σ H Q I (i σ H Q q)⟩
theorem _root_.L2.PA.imp {t t' : TA} (h : PA X es t) (i : ∀ σ H Q, t' σ H Q → t σ H Q) : PA X es t' := ⟨fun p pins s σ H Q I q => h.run p pins s σ H Q I (i σ H Q q)⟩
theorem _root_.L2.PS.imp {st : Stmt} {t t' : TS} (h : PS X st t) (i : ∀ D σ H, t' D σ H → t D σ H) : PS X st t' := ⟨fun pins s σ H D I q => h.run pins s σ H D I (i D σ H q)⟩
theorem _root_.L2.PSs.imp {st : List Stmt} {t t' : TS} (h : PSs X st t) (i : ∀ D σ H, t' D σ H → t D σ H) : PSs X st t' := ⟨fun pins s σ H D I q => h.run pins s σ H D I (i D σ H q)⟩

def dVar (i : Nat) : DE := fun ρ => match ρ[i]? with | some (.val d) => some d | _ => none
theorem dVar_some {i : Nat} {ρ : Sl} {d : D} (e : dVar i ρ = some d) : ρ[i]? = some (.val d) := by
  unfold dVar at e
  split at e
  · rename_i q; cases e; exact q
  · cases e
theorem d_var (i : Nat) {x : Str} (hN : X.N[i]? = some x := by rfl) (hv : Vis X.env.scope x := by first | exact Or.inl rfl | exact Or.inr (Or.inl rfl) | exact Or.inr (Or.inr rfl)) (hd : (x == ("__debug__" : Str)) = false := by decide)
    (hcd : (x == ("__classdict__" : Str)) = false := by decide) : PE X (.Name x pos) (tD K c (dVar i)) := (pe_var hN hv hd hcd).imp fun σ H Q ⟨G, ρ, d, s, sl, e, k⟩ => by
  obtain ⟨v, h1, h2⟩ := sl.val i d (dVar_some e)
  exact ⟨v, h1, k v G H (.refl s) h2⟩
/-- a constant that needs no heap -/
def dC (d : D) : DE := fun _ => some d
theorem tD_of_tC {d : D} {v : V} (r : ∀ G, Rep K c G d v) {σ : St} {H : Hp} {Q : VK} (h : tD K c (dC d) σ H Q) : tC v σ H Q := by
  obtain ⟨G, ρ, d', s, sl, e, k⟩ := h
  cases e
  exact k v G H (.refl s) (r G)
theorem d_int {i j} : PE X (.Constant (.int i) j pos) (tD K c (dC (.int i))) := pe_int.imp fun _ _ _ h => tD_of_tC (d := .int i) (fun _ => rfl) h
theorem d_bl {b j} : PE X (.Constant (.bool b) j pos) (tD K c (dC (.bl b))) := pe_bl.imp fun _ _ _ h => tD_of_tC (d := .bl b) (fun _ => rfl) h
theorem d_non {j} : PE X (.Constant .none j pos) (tD K c (dC .non)) := pe_non.imp fun _ _ _ h => tD_of_tC (d := .non) (fun _ => rfl) h
theorem d_str {x j} : PE X (.Constant (.str x) j pos) (tD K c (dC (.str x))) := pe_str.imp fun _ _ _ h => tD_of_tC (d := .str x) (fun _ => rfl) h
/-- a constant of the module -/
def GlobD (K : PySem.W.Frag) (c : Cf) (mg : Str → Option Value) (x : Str) (d : D) : Prop := ∃ u v, mg x = some u ∧ RelV v u ∧ ∀ G, Rep K c G d v
theorem d_glob {x : Str} {d : D} (h : GlobD K c X.mg x d) (hg : Gl X x := by rfl) (hd : (x == ("__debug__" : Str)) = false := by decide) : PE X (.Name x pos) (tD K c (dC d)) := by
  obtain ⟨u, v, hm, r, q⟩ := h
  exact (pe_glob hg hm r hd).imp fun _ _ _ h => tD_of_tC q h

/-! ### operators -/
def OpD (X : Cx) (K : PySem.W.Frag) (c : Cf) (f : Value → Value → Sem Value) (o : D → D → Option D) : Prop :=
  ∃ r, OpR X f r ∧ ∀ x y z, o x y = some z → ∀ G H u w Q, Sm c G H → Rep K c G x u → Rep K c G y w → (∀ v G' H', Gr c G H G' H' → Rep K c G' z v → Q v H') → r u w H Q
def dOp (o : D → D → Option D) (f g : DE) : DE := fun ρ => (f ρ).bind fun x => (g ρ).bind fun y => o x y
theorem dOp_step {o : D → D → Option D} {f g : DE} {r : R2}
    (hr : ∀ x y z, o x y = some z → ∀ G H u w Q, Sm c G H → Rep K c G x u → Rep K c G y w → (∀ v G' H', Gr c G H G' H' → Rep K c G' z v → Q v H') → r u w H Q) :
    ∀ σ H Q, tD K c (dOp o f g) σ H Q → tOp r (tD K c f) (tD K c g) σ H Q := by
  rintro σ H Q ⟨G, ρ, d, s, sl, e, k⟩
  unfold dOp at e
  obtain ⟨x, ex, e⟩ := Option.bind_eq_some_iff.mp e
  obtain ⟨y, ey, e⟩ := Option.bind_eq_some_iff.mp e
  exact ⟨G, ρ, x, s, sl, ex, fun u G1 H1 g1 r1 => ⟨G1, ρ, y, g1.s, sl.step g1, ey, fun w G2 H2 g2 r2 =>
    hr x y d e G2 H2 u w Q g2.s (r1.mono g2.g) r2 fun v G' H' g3 r3 => k v G' H' ((g1.trans g2).trans g3) r3⟩⟩
theorem d_op {op : Operator} {o : D → D → Option D} {f g : DE} (ho : OpD X K c (binaryOp op) o) (ha : PE X a (tD K c f)) (hb : PE X b (tD K c g)) : PE X (.BinOp a op b pos) (tD K c (dOp o f g)) := by
  obtain ⟨r, h1, h2⟩ := ho
  exact (pe_op h1 ha hb).imp (dOp_step h2)
theorem d_cmp {op : CmpOp} {o : D → D → Option D} {f g : DE} (ho : OpD X K c (compareOp op) o) (ha : PE X a (tD K c f)) (hb : PE X b (tD K c g)) (hm : behindInMarks op b = false := by first | exact nomark _ | rfl) : PE X (.Compare a [op] [b] pos) (tD K c (dOp o f g)) := by
  obtain ⟨r, h1, h2⟩ := ho
  exact (pe_cmpR h1 ha hb hm).imp (dOp_step h2)
/-- as a test -/
def asB (f : DE) : DB := fun ρ => match f ρ with | some (.bl b) => some b | _ => none
theorem asB_some {f : DE} {ρ : Sl} {b : Bool} (h : asB f ρ = some b) : f ρ = some (.bl b) := by
  unfold asB at h
  split at h
  · rename_i e; cases h; exact e
  · cases h
theorem tDT_tB {f : DE} {σ : St} {H : Hp} {Q : Bool → Hp → Prop} (h : tDT K c (asB f) σ H Q) : tD K c f σ H fun x H1 => ∃ k, x = .bl k ∧ Q k H1 := by
  obtain ⟨G, ρ, b, s, sl, e, k⟩ := h
  exact ⟨G, ρ, _, s, sl, asB_some e, fun v G' H' g r => ⟨b, r, k G' H' g⟩⟩
theorem d_tcmp {op : CmpOp} {o : D → D → Option D} {f g : DE} (ho : OpD X K c (compareOp op) o) (ha : PE X a (tD K c f)) (hb : PE X b (tD K c g)) (hm : behindInMarks op b = false := by first | exact nomark _ | rfl) : PT X (.Compare a [op] [b] pos) (tDT K c (asB (dOp o f g))) := by
  obtain ⟨r, h1, h2⟩ := ho
  exact (pt_cmpR h1 ha hb hm).imp fun σ H Q h => dOp_step h2 σ H _ (tDT_tB h)
/-- a op b op' c -/
def dChain (o o' : D → D → Option D) (f g h : DE) : DE := fun ρ => (f ρ).bind fun x => (g ρ).bind fun y => match o x y with
  | some (.bl true) => (h ρ).bind fun z => o' y z
  | some (.bl false) => some (.bl false)
  | _ => none
theorem dChain_step {o o' : D → D → Option D} {f g h : DE} {r r' : R2}
    (hr : ∀ x y z, o x y = some z → ∀ G H u w Q, Sm c G H → Rep K c G x u → Rep K c G y w → (∀ v G' H', Gr c G H G' H' → Rep K c G' z v → Q v H') → r u w H Q)
    (hr' : ∀ x y z, o' x y = some z → ∀ G H u w Q, Sm c G H → Rep K c G x u → Rep K c G y w → (∀ v G' H', Gr c G H G' H' → Rep K c G' z v → Q v H') → r' u w H Q) :
    ∀ σ H Q, tD K c (dChain o o' f g h) σ H Q → tChain r r' (tD K c f) (tD K c g) (tD K c h) σ H Q := by
  rintro σ H Q ⟨G, ρ, d, s, sl, e, k⟩
  unfold dChain at e
  obtain ⟨x, ex, e⟩ := Option.bind_eq_some_iff.mp e
  obtain ⟨y, ey, e⟩ := Option.bind_eq_some_iff.mp e
  refine ⟨G, ρ, x, s, sl, ex, fun u G1 H1 g1 r1 => ⟨G1, ρ, y, g1.s, sl.step g1, ey, fun w G2 H2 g2 r2 => ?_⟩⟩
  split at e
  · rename_i q
    refine hr x y _ q G2 H2 u w _ g2.s (r1.mono g2.g) r2 fun v G3 H3 g3 r3 => ⟨true, r3, ?_⟩
    refine iteT ?_
    obtain ⟨z, ez, e⟩ := Option.bind_eq_some_iff.mp e
    exact ⟨G3, ρ, z, g3.s, sl.step ((g1.trans g2).trans g3), ez, fun w' G4 H4 g4 r4 => hr' y z d e G4 H4 w w' Q g4.s ((r2.mono g3.g).mono g4.g) r4 fun v' G' H' g5 r5 => k v' G' H' ((((g1.trans g2).trans g3).trans g4).trans g5) r5⟩
  · rename_i q
    cases e
    refine hr x y _ q G2 H2 u w _ g2.s (r1.mono g2.g) r2 fun v G3 H3 g3 r3 => ⟨false, r3, ?_⟩
    refine iteF ?_
    exact k (.bl false) G3 H3 ((g1.trans g2).trans g3) rfl
  · cases e
theorem d_chain {c1 : Expr} {op op' : CmpOp} {o o' : D → D → Option D} {f g h : DE} (ho : OpD X K c (compareOp op) o) (ho' : OpD X K c (compareOp op') o') (ha : PE X a (tD K c f)) (hb : PE X b (tD K c g)) (hc : PE X c1 (tD K c h))
    (hm : lastMarks [op, op'] [b, c1] = false := by with_unfolding_all rfl) : PE X (.Compare a [op, op'] [b, c1] pos) (tD K c (dChain o o' f g h)) := by
  obtain ⟨r, h1, h2⟩ := ho
  obtain ⟨r', h1', h2'⟩ := ho'
  exact (pe_chain h1 h1' ha hb hc hm).imp (dChain_step h2 h2')
theorem d_tchain {c1 : Expr} {op op' : CmpOp} {o o' : D → D → Option D} {f g h : DE} (ho : OpD X K c (compareOp op) o) (ho' : OpD X K c (compareOp op') o') (ha : PE X a (tD K c f)) (hb : PE X b (tD K c g)) (hc : PE X c1 (tD K c h))
    (hm : lastMarks [op, op'] [b, c1] = false := by with_unfolding_all rfl) : PT X (.Compare a [op, op'] [b, c1] pos) (tDT K c (asB (dChain o o' f g h))) := by
  obtain ⟨r, h1, h2⟩ := ho
  obtain ⟨r', h1', h2'⟩ := ho'
  exact (pt_chain h1 h1' ha hb hc hm).imp fun σ H Q q => dChain_step h2 h2' σ H _ (tDT_tB q)
theorem d_test {f : DE} (h : PE X e (tD K c f)) (he : ∀ whole, isTrue e X.env whole = (do let v ← whole; standAt e.pos; holding [v] (truthy v)) := by intro _; rfl) : PT X e (tDT K c (asB f)) :=
  (pt_val h he).imp fun _ _ _ q => tDT_tB q
/-! and, or, not -/
def dAndT (f g : DB) : DB := fun ρ => match f ρ with | some true => g ρ | some false => some false | none => none
def dOrT (f g : DB) : DB := fun ρ => match f ρ with | some true => some true | some false => g ρ | none => none
def dNotT (f : DB) : DB := fun ρ => (f ρ).map (!·)
theorem dAndT_step {f g : DB} : ∀ σ H Q, tDT K c (dAndT f g) σ H Q → tAnd (tDT K c f) (tDT K c g) σ H Q := by
  rintro σ H Q ⟨G, ρ, b, s, sl, e, k⟩
  unfold dAndT at e
  split at e
  · rename_i q
    refine ⟨G, ρ, true, s, sl, q, fun G1 H1 g1 => ?_⟩
    refine iteT ?_
    exact ⟨G1, ρ, b, g1.s, sl.step g1, e, fun G' H' g2 => k G' H' (g1.trans g2)⟩
  · rename_i q
    cases e
    refine ⟨G, ρ, false, s, sl, q, fun G1 H1 g1 => ?_⟩
    refine iteF ?_
    exact k G1 H1 g1
  · cases e
theorem dOrT_step {f g : DB} : ∀ σ H Q, tDT K c (dOrT f g) σ H Q → tOr (tDT K c f) (tDT K c g) σ H Q := by
  rintro σ H Q ⟨G, ρ, b, s, sl, e, k⟩
  unfold dOrT at e
  split at e
  · rename_i q
    cases e
    refine ⟨G, ρ, true, s, sl, q, fun G1 H1 g1 => ?_⟩
    refine iteT ?_
    exact k G1 H1 g1
  · rename_i q
    refine ⟨G, ρ, false, s, sl, q, fun G1 H1 g1 => ?_⟩
    refine iteF ?_
    exact ⟨G1, ρ, b, g1.s, sl.step g1, e, fun G' H' g2 => k G' H' (g1.trans g2)⟩
  · cases e
theorem d_wand1 {f : DB} (ha : PT X a (tDT K c f)) : PW X (.BoolOp .And [a] pos) (tDT K c f) := pw_and1 ha
theorem d_wor1 {f : DB} (ha : PT X a (tDT K c f)) : PW X (.BoolOp .Or [a] pos) (tDT K c f) := pw_or1 ha
theorem d_wand {f g : DB} (ha : PT X a (tDT K c f)) (hb : PW X (.BoolOp .And (b :: es) pos) (tDT K c g)) : PW X (.BoolOp .And (a :: b :: es) pos) (tDT K c (dAndT f g)) := (pw_and ha hb).imp dAndT_step
theorem d_wor {f g : DB} (ha : PT X a (tDT K c f)) (hb : PW X (.BoolOp .Or (b :: es) pos) (tDT K c g)) : PW X (.BoolOp .Or (a :: b :: es) pos) (tDT K c (dOrT f g)) := (pw_or ha hb).imp dOrT_step
theorem d_tnot {f : DB} (ha : PT X a (tDT K c f)) : PT X (.UnaryOp .Not a pos) (tDT K c (dNotT f)) := (pt_not ha).imp fun σ H Q ⟨G, ρ, b, s, sl, e, k⟩ => by
  unfold dNotT at e
  obtain ⟨b', e1, rfl⟩ := Option.map_eq_some_iff.mp e
  exact ⟨G, ρ, b', s, sl, e1, k⟩
def dAnd (f g : DE) : DE := fun ρ => match f ρ with | some (.bl true) => g ρ | some (.bl false) => some (.bl false) | _ => none
def dOr (f g : DE) : DE := fun ρ => match f ρ with | some (.bl true) => some (.bl true) | some (.bl false) => g ρ | _ => none
def dNot (f : DE) : DE := fun ρ => match f ρ with | some (.bl b) => some (.bl (!b)) | _ => none
theorem d_one {op} {f : DE} (ha : PE X a (tD K c f)) : PE X (.BoolOp op [a] pos) (tD K c f) := pe_one ha
theorem d_and {f g : DE} (ha : PE X a (tD K c f)) (hb : PE X (.BoolOp .And (b :: es) pos) (tD K c g)) : PE X (.BoolOp .And (a :: b :: es) pos) (tD K c (dAnd f g)) := (pe_and ha hb).imp fun σ H Q ⟨G, ρ, d, s, sl, e, k⟩ => by
  unfold dAnd at e
  split at e
  · rename_i q
    refine ⟨G, ρ, _, s, sl, q, fun v G1 H1 g1 r1 => ⟨true, r1, ?_⟩⟩
    refine iteT ?_
    exact ⟨G1, ρ, d, g1.s, sl.step g1, e, fun v' G' H' g2 r2 => k v' G' H' (g1.trans g2) r2⟩
  · rename_i q
    cases e
    refine ⟨G, ρ, _, s, sl, q, fun v G1 H1 g1 r1 => ⟨false, r1, ?_⟩⟩
    refine iteF ?_
    exact k _ G1 H1 g1 rfl
  · cases e
theorem d_or {f g : DE} (ha : PE X a (tD K c f)) (hb : PE X (.BoolOp .Or (b :: es) pos) (tD K c g)) : PE X (.BoolOp .Or (a :: b :: es) pos) (tD K c (dOr f g)) := (pe_or ha hb).imp fun σ H Q ⟨G, ρ, d, s, sl, e, k⟩ => by
  unfold dOr at e
  split at e
  · rename_i q
    cases e
    refine ⟨G, ρ, _, s, sl, q, fun v G1 H1 g1 r1 => ⟨true, r1, ?_⟩⟩
    refine iteT ?_
    exact k _ G1 H1 g1 rfl
  · rename_i q
    refine ⟨G, ρ, _, s, sl, q, fun v G1 H1 g1 r1 => ⟨false, r1, ?_⟩⟩
    refine iteF ?_
    exact ⟨G1, ρ, d, g1.s, sl.step g1, e, fun v' G' H' g2 r2 => k v' G' H' (g1.trans g2) r2⟩
  · cases e
theorem d_not {f : DE} (ha : PE X a (tD K c f)) : PE X (.UnaryOp .Not a pos) (tD K c (dNot f)) := (pe_not ha).imp fun σ H Q ⟨G, ρ, d, s, sl, e, k⟩ => by
  unfold dNot at e
  split at e
  · rename_i b q
    cases e
    exact ⟨G, ρ, _, s, sl, q, fun v G1 H1 g1 r1 => ⟨b, r1, k _ G1 H1 g1 rfl⟩⟩
  · cases e
def dIf (t : DB) (f g : DE) : DE := fun ρ => match t ρ with | some true => f ρ | some false => g ρ | none => none
theorem d_if {t : DB} {c1 : Expr} {f g : DE} (hc : PT X c1 (tDT K c t)) (ha : PE X a (tD K c f)) (hb : PE X b (tD K c g)) : PE X (.IfExp c1 a b pos) (tD K c (dIf t f g)) := (pe_ifExp hc ha hb).imp fun σ H Q ⟨G, ρ, d, s, sl, e, k⟩ => by
  unfold dIf at e
  split at e
  · rename_i q
    refine ⟨G, ρ, _, s, sl, q, fun G1 H1 g1 => ?_⟩
    refine iteT ?_
    exact ⟨G1, ρ, d, g1.s, sl.step g1, e, fun v' G' H' g2 r2 => k v' G' H' (g1.trans g2) r2⟩
  · rename_i q
    refine ⟨G, ρ, _, s, sl, q, fun G1 H1 g1 => ?_⟩
    refine iteF ?_
    exact ⟨G1, ρ, d, g1.s, sl.step g1, e, fun v' G' H' g2 r2 => k v' G' H' (g1.trans g2) r2⟩
  · cases e
/-! arguments -/
def aNil : DA := fun _ => some []
def aCons (f : DE) (g : DA) : DA := fun ρ => (f ρ).bind fun x => (g ρ).map fun r => x :: r
theorem a_nil : PA X [] (tDA K c aNil) := pa_nil.imp fun σ H Q ⟨G, ρ, d, s, sl, e, k⟩ => by
  cases e
  exact k [] G H (.refl s) rfl
theorem a_cons {f : DE} {g : DA} (ha : PE X e (tD K c f)) (hr : PA X es (tDA K c g)) (hs : starEach (e :: es) X.env = (false, eval e X.env) :: starEach es X.env := by rfl) : PA X (e :: es) (tDA K c (aCons f g)) := (pa_cons ha hr hs).imp fun σ H Q ⟨G, ρ, d, s, sl, e, k⟩ => by
  unfold aCons at e
  obtain ⟨x, ex, e⟩ := Option.bind_eq_some_iff.mp e
  obtain ⟨r, er, rfl⟩ := Option.map_eq_some_iff.mp e
  exact ⟨G, ρ, x, s, sl, ex, fun u G1 H1 g1 r1 => ⟨G1, ρ, r, g1.s, sl.step g1, er, fun vs G2 H2 g2 r2 => k (u :: vs) G2 H2 (g1.trans g2) ⟨u, vs, rfl, r1.mono g2.g, r2⟩⟩⟩
/-- displays -/
def dTup (g : DA) : DE := fun ρ => (g ρ).bind fun ds => if ds.length ≤ 100000 then some (.tup ds) else none
theorem line100 {n : Nat} (h : n ≤ 100000) : n ≤ sizeLine := Nat.le_trans h (by decide)
theorem d_tup {g : DA} {x1} (h : PA X es (tDA K c g)) : PE X (.Tuple es x1 pos) (tD K c (dTup g)) := (pe_tup h).imp fun σ H Q ⟨G, ρ, d, s, sl, e, k⟩ => by
  unfold dTup at e
  obtain ⟨ds, ed, e⟩ := Option.bind_eq_some_iff.mp e
  split at e
  · rename_i hl
    cases e
    exact ⟨G, ρ, ds, s, sl, ed, fun vs G1 H1 g1 r1 => ⟨by rw [r1.length]; exact line100 hl, fun p hp => k _ _ _ (g1.trans (.new g1.s hp True.intro)) ⟨p, vs, rfl, SqT.of upd_same, r1.mono (SameG.put (g1.s.none hp))⟩⟩⟩
  · cases e
/-- a new list that nobody else has -/
abbrev DOw := Sl → Option (List D)
def tDo (K : PySem.W.Frag) (c : Cf) (f : DOw) : TE := fun σ H Q => ∃ G ρ ds, Sm c G H ∧ Slots K c G H ρ σ ∧ f ρ = some ds ∧ ∀ p vs G' H', Gr c G H G' H' → H p = none → G' p = none → H' p = some (.lst vs) → RepL K c G' ds vs → Q (.ref p) H'
def dO (f : DOw) : DE := fun ρ => (f ρ).map .lst
theorem Gr.takeM {G G' : Gh} {H H' : Hp} {p : Addr} {o : HO} (g : Gr c G H G' H') (n : H p = none) (m : G' p = none) (e : H' p = some o) (nm : G'.m p = none) : Gr c G H (G'.put p o) H' :=
  have sg : SameG G' (G'.put p o) := SameG.put m
  ⟨g.g.trans sg, g.h, g.d, g.m, g.nl, ⟨fun a u q => by
    by_cases z : a = p
    · subst z; rw [show (G'.put a o).h a = some o from upd_same] at q; cases q; exact e
    · rw [show (G'.put p o).h a = G'.h a from upd_ne z] at q; exact g.s a u q, fun a t q => by
    by_cases z : a = p
    · subst z
      have q : G'.m a = some t := q
      rw [nm] at q; cases q
    · rw [show (G'.put p o).h a = G'.h a from upd_ne z]; exact g.s.n a t q, fun a i d q => let ⟨kvs, ob, w⟩ := g.s.k a i d q; ⟨kvs, ob, w.up sg (fun _ _ z => z) w.ho⟩, g.s.q⟩, fun a u q z => by rw [show (G'.put p o).h a = G'.h a from upd_ne (ne_of_none q n)]; exact g.f a u q z⟩
theorem Gr.take {G G' : Gh} {H H' : Hp} {p : Addr} {o : HO} (g : Gr c G H G' H') (n : H p = none) (m : G' p = none) (e : H' p = some o) (b : isDict o = false := by rfl) : Gr c G H (G'.put p o) H' := g.takeM n m e (g.s.nom e b)
theorem d_ofO {f : DOw} (h : PE X e (tDo K c f)) : PE X e (tD K c (dO f)) := h.imp fun σ H Q ⟨G, ρ, d, s, sl, e, k⟩ => by
  unfold dO at e
  obtain ⟨ds, e1, rfl⟩ := Option.map_eq_some_iff.mp e
  exact ⟨G, ρ, ds, s, sl, e1, fun p vs G' H' g n m q r => k (.ref p) _ H' (g.take n m q) ⟨p, vs, rfl, upd_same, r.mono (SameG.put m)⟩⟩
def oLst (g : DA) : DOw := fun ρ => (g ρ).bind fun ds => if ds.length ≤ 100000 then some ds else none
theorem o_lst {g : DA} (h : PA X es (tDA K c g)) : PE X (.List es pos) (tDo K c (oLst g)) := (pe_lst h).imp fun σ H Q ⟨G, ρ, d, s, sl, e, k⟩ => by
  unfold oLst at e
  obtain ⟨ds, ed, e⟩ := Option.bind_eq_some_iff.mp e
  split at e
  · rename_i hl
    obtain rfl := Option.some.inj e
    exact ⟨G, ρ, _, s, sl, ed, fun vs G1 H1 g1 r1 => ⟨by rw [r1.length]; exact line100 hl, fun p hp => k p vs G1 _ (g1.trans (.add g1.s hp True.intro)) (g1.d p hp) (g1.s.none hp) upd_same r1⟩⟩
  · cases e
/-! calls of defs -/
def spD (K : PySem.W.Frag) (c : Cf) (n : Nat) (F : List D → Option D) : Sp := fun vs H Q _ => ∃ G ds d, Sm c G H ∧ RepL K c G ds vs ∧ ds.length = n ∧ F ds = some d ∧ ∀ v G' H', Gr c G H G' H' → Rep K c G' d v → Q v H'
/-- a def of the module keeps a promise -/
structure Cal (P : Program) (w : World) (K : PySem.W.Frag) (mg : Str → Option Value) (base : Heap) (x : Str) (k : Nat) (ps : List Str) (sp : Sp) : Prop where
  ex : ∃ f fd, mg x = some (.ref f) ∧ PySem.W.keepIn K (.ref f) = true ∧ Binds K fd ps [] ∧ FnOk P w K mg base CX0 k f fd ps sp
def dCall (n : Nat) (F : List D → Option D) (g : DA) : DE := fun ρ => (g ρ).bind fun ds => if ds.length = n then F ds else none
theorem d_call {x : Str} {k k' n : Nat} {ps : List Str} {F : List D → Option D} {g : DA} {p : Pos} (C : Cal X.prog X.w X.K X.mg X.base x k ps (spD K c n F)) (hr : Room k' X.A) (hk : k ≤ k') (ha : PA X (e :: es) (tDA K c g)) (hg : Gl X x := by rfl)
    (hdb : (x == ("__debug__" : Str)) = false := by decide) (he : starEach (e :: es) X.env = (false, eval e X.env) :: starEach es X.env := by rfl) (hpl : (backTo pos (starEach es X.env)).any (·.1) = false := by rfl) :
    PE X (.Call (.Name x p) (e :: es) [] pos) (tD K c (dCall n F g)) := by
  obtain ⟨f, fd, h1, h2, h3, h4⟩ := C.ex
  refine (pe_call h4 (hr.mono hk) hg h1 h2 h3 .nil pass0 ha hdb he hpl).imp fun σ H Q ⟨G, ρ, d, s, sl, e, k⟩ => ?_
  unfold dCall at e
  obtain ⟨ds, ed, e⟩ := Option.bind_eq_some_iff.mp e
  split at e
  · rename_i hl
    refine ⟨G, ρ, ds, s, sl, ed, fun vs G1 H1 g1 r1 => ?_⟩
    show spD K c n F (vs ++ []) H1 Q E0
    rw [List.append_nil]
    exact ⟨G1, ds, d, g1.s, r1, hl, e, fun v G' H' g2 r2 => k v G' H' (g1.trans g2) r2⟩
  · cases e
theorem d_call0 {x : Str} {k k' : Nat} {ps : List Str} {F : List D → Option D} {p : Pos} (C : Cal X.prog X.w X.K X.mg X.base x k ps (spD K c 0 F)) (hr : Room k' X.A) (hk : k ≤ k') (hg : Gl X x := by rfl)
    (hdb : (x == ("__debug__" : Str)) = false := by decide) : PE X (.Call (.Name x p) [] [] pos) (tD K c (dCall 0 F aNil)) := by
  obtain ⟨f, fd, h1, h2, h3, h4⟩ := C.ex
  refine (pe_call0 h4 (hr.mono hk) hg h1 h2 h3 .nil pass0 hdb).imp fun σ H Q ⟨G, ρ, d, s, sl, e, k⟩ => ?_
  exact ⟨G, [], d, s, rfl, rfl, e, k⟩
end
end DL
set_option maxRecDepth 100000
namespace DL
open PySem L2
section
variable {X : Cx} {K : PySem.W.Frag} {c : Cf} {e a b : Expr} {es : List Expr} {pos : Pos}
/-! ### operators by the data -/
def opAdd : D → D → Option D
  | .int i, .int j => some (.int (i + j))
  | .str x, .str y => if x.length + y.length ≤ 100000 then some (.str (x ++ y)) else none
  | .lst x, .lst y => if x.length + y.length ≤ 100000 then some (.lst (x ++ y)) else none
  | _, _ => none
def opSub : D → D → Option D
  | .int i, .int j => some (.int (i - j))
  | _, _ => none
def opMul : D → D → Option D
  | .int i, .int j => if (-(2 ^ 64) < i ∧ i < 2 ^ 64) ∨ (-(2 ^ 64) < j ∧ j < 2 ^ 64) then some (.int (i * j)) else none
  | .lst x, .int k => if -(2 ^ 63) ≤ k ∧ k < 2 ^ 63 ∧ x.length * k.toNat ≤ 100000 then some (.lst (List.replicate k.toNat x).flatten) else none
  | _, _ => none
def opFdiv : D → D → Option D
  | .int i, .int j => if 0 < j ∧ j < 1073741824 then some (.int (i / j)) else none
  | _, _ => none
def opMod : D → D → Option D
  | .int i, .int j => if 0 < j then some (.int (i % j)) else none
  | _, _ => none
def opPow : D → D → Option D
  | .int i, .int j => if 0 ≤ j ∧ j ≤ 1000000 ∧ i.natAbs < 2 ^ 64 then some (.int (i ^ j.toNat)) else none
  | _, _ => none
def opShl : D → D → Option D
  | .int i, .int j => if 0 ≤ j ∧ j ≤ 1000000 ∧ i.natAbs < 2 ^ 64 then some (.int (i * 2 ^ j.toNat)) else none
  | _, _ => none
def opShr : D → D → Option D
  | .int i, .int j => if 0 ≤ j then some (.int (i / 2 ^ j.toNat)) else none
  | _, _ => none
def opAnd : D → D → Option D
  | .int i, .int j => some (.int (Builtin.bitAnd i j))
  | _, _ => none
def opOr : D → D → Option D
  | .int i, .int j => some (.int (Builtin.bitOr i j))
  | _, _ => none
def opXor : D → D → Option D
  | .int i, .int j => some (.int (Builtin.bitXor i j))
  | _, _ => none
/-- ints in, a value without heap out -/
theorem opD_int {f : Value → Value → Sem Value} {C : Int → Int → Prop} {g : Int → Int → V} {h : Int → Int → D} {o : D → D → Option D} (ho : OpR X f (rI C g)) (hg : ∀ i j G, Rep K c G (h i j) (g i j))
    (hs : ∀ x y z, o x y = some z → ∃ i j, x = .int i ∧ y = .int j ∧ C i j ∧ z = h i j) : OpD X K c f o := by
  refine ⟨_, ho, fun x y z e G H u w Q s ru rw k => ?_⟩
  obtain ⟨i, j, rfl, rfl, hc, rfl⟩ := hs x y z e
  cases ru
  cases rw
  exact ⟨i, j, rfl, rfl, hc, k _ G H (.refl s) (hg i j G)⟩
theorem opD_int0 {f : Value → Value → Sem Value} {g : Int → Int → V} {h : Int → Int → D} {o : D → D → Option D} (ho : OpR X f (rI0 g)) (hg : ∀ i j G, Rep K c G (h i j) (g i j))
    (hs : ∀ x y z, o x y = some z → ∃ i j, x = .int i ∧ y = .int j ∧ z = h i j) : OpD X K c f o := by
  refine ⟨_, ho, fun x y z e G H u w Q s ru rw k => ?_⟩
  obtain ⟨i, j, rfl, rfl, rfl⟩ := hs x y z e
  cases ru
  cases rw
  exact ⟨i, j, rfl, rfl, k _ G H (.refl s) (hg i j G)⟩
theorem opD_sub : OpD X K c (binaryOp .Sub) opSub := opD_int0 (h := fun i j => .int (i - j)) op_sub (fun _ _ _ => rfl) fun x y z e => by
  unfold opSub at e; split at e
  · cases e; exact ⟨_, _, rfl, rfl, rfl⟩
  · cases e
theorem opD_and : OpD X K c (binaryOp .BitAnd) opAnd := opD_int0 (h := fun i j => .int (Builtin.bitAnd i j)) op_and (fun _ _ _ => rfl) fun x y z e => by
  unfold opAnd at e; split at e
  · cases e; exact ⟨_, _, rfl, rfl, rfl⟩
  · cases e
theorem opD_or : OpD X K c (binaryOp .BitOr) opOr := opD_int0 (h := fun i j => .int (Builtin.bitOr i j)) op_or (fun _ _ _ => rfl) fun x y z e => by
  unfold opOr at e; split at e
  · cases e; exact ⟨_, _, rfl, rfl, rfl⟩
  · cases e
theorem opD_xor : OpD X K c (binaryOp .BitXor) opXor := opD_int0 (h := fun i j => .int (Builtin.bitXor i j)) op_xor (fun _ _ _ => rfl) fun x y z e => by
  unfold opXor at e; split at e
  · cases e; exact ⟨_, _, rfl, rfl, rfl⟩
  · cases e
theorem opD_fdiv : OpD X K c (binaryOp .FloorDiv) opFdiv := opD_int (h := fun i j => .int (i / j)) op_fdiv (fun _ _ _ => rfl) fun x y z e => by
  unfold opFdiv at e; split at e
  · split at e
    · rename_i h; cases e; exact ⟨_, _, rfl, rfl, h, rfl⟩
    · cases e
  · cases e
theorem opD_mod : OpD X K c (binaryOp .Mod) opMod := opD_int (h := fun i j => .int (i % j)) op_mod (fun _ _ _ => rfl) fun x y z e => by
  unfold opMod at e; split at e
  · split at e
    · rename_i h; cases e; exact ⟨_, _, rfl, rfl, h, rfl⟩
    · cases e
  · cases e
theorem opD_pow : OpD X K c (binaryOp .Pow) opPow := opD_int (h := fun i j => .int (i ^ j.toNat)) op_pow (fun _ _ _ => rfl) fun x y z e => by
  unfold opPow at e; split at e
  · split at e
    · rename_i h; cases e; exact ⟨_, _, rfl, rfl, h, rfl⟩
    · cases e
  · cases e
theorem opD_shl : OpD X K c (binaryOp .LShift) opShl := opD_int (h := fun i j => .int (i * 2 ^ j.toNat)) op_shl (fun _ _ _ => rfl) fun x y z e => by
  unfold opShl at e; split at e
  · split at e
    · rename_i h; cases e; exact ⟨_, _, rfl, rfl, h, rfl⟩
    · cases e
  · cases e
theorem opD_shr : OpD X K c (binaryOp .RShift) opShr := opD_int (h := fun i j => .int (i / 2 ^ j.toNat)) op_shr (fun _ _ _ => rfl) fun x y z e => by
  unfold opShr at e; split at e
  · split at e
    · rename_i h; cases e; exact ⟨_, _, rfl, rfl, h, rfl⟩
    · cases e
  · cases e
theorem RepL0.flat {G : Gh} {ds : List D} {vs : List V} (h : RepL K c G ds vs) : ∀ k : Nat, RepL K c G (List.replicate k ds).flatten (List.replicate k vs).flatten
  | 0 => rfl
  | k + 1 => by
    rw [List.replicate_succ, List.replicate_succ, List.flatten_cons, List.flatten_cons]
    exact h.append (h.flat k)
theorem opD_mul : OpD X K c (binaryOp .Mult) opMul := by
  refine ⟨_, op_mul.or op_rep, fun x y z e G H u w Q s ru rw k => ?_⟩
  unfold opMul at e; split at e
  · split at e
    · rename_i i j h
      cases e; cases ru; cases rw
      exact .inl ⟨i, j, rfl, rfl, h, k _ G H (.refl s) rfl⟩
    · cases e
  · split at e
    · rename_i ds n h
      cases e; cases rw
      obtain ⟨p, vs, rfl, hp, r⟩ := ru
      refine .inr ⟨p, n, vs, rfl, rfl, s _ _ hp, h.1, h.2.1, by rw [r.length]; exact line100 h.2.2, fun q hq => k _ _ _ (.new s hq True.intro) ⟨q, _, rfl, put_same, (r.flat n.toNat).mono (SameG.put (s.none hq))⟩⟩
    · cases e
  · cases e
theorem opD_add : OpD X K c (binaryOp .Add) opAdd := by
  refine ⟨_, op_add.or (op_add_str.or op_cat), fun x y z e G H u w Q s ru rw k => ?_⟩
  unfold opAdd at e; split at e
  · cases e; cases ru; cases rw
    exact .inl ⟨_, _, rfl, rfl, k _ G H (.refl s) rfl⟩
  · split at e
    · rename_i h
      cases e; cases ru; cases rw
      exact .inr (.inl ⟨_, _, rfl, rfl, line100 h, k _ G H (.refl s) rfl⟩)
    · cases e
  · split at e
    · rename_i h
      cases e
      obtain ⟨p, vs, rfl, hp, r⟩ := ru
      obtain ⟨p', vs', rfl, hp', r'⟩ := rw
      refine .inr (.inr ⟨p, p', vs, vs', rfl, rfl, s _ _ hp, s _ _ hp', by rw [r.length, r'.length]; exact line100 h, fun q hq => k _ _ _ (.new s hq True.intro) ⟨q, _, rfl, put_same, (r.append r').mono (SameG.put (s.none hq))⟩⟩)
    · cases e
  · cases e
/-! comparisons -/
def opLt : D → D → Option D
  | .int i, .int j => some (.bl (decide (i < j)))
  | _, _ => none
def opLe : D → D → Option D
  | .int i, .int j => some (.bl (decide (i ≤ j)))
  | _, _ => none
def opGt : D → D → Option D
  | .int i, .int j => some (.bl (decide (j < i)))
  | _, _ => none
def opGe : D → D → Option D
  | .int i, .int j => some (.bl (decide (j ≤ i)))
  | _, _ => none
theorem opD_lt : OpD X K c (compareOp .Lt) opLt := opD_int0 (h := fun i j => .bl (decide (i < j))) op_lt (fun _ _ _ => rfl) fun x y z e => by
  unfold opLt at e; split at e
  · cases e; exact ⟨_, _, rfl, rfl, rfl⟩
  · cases e
theorem opD_le : OpD X K c (compareOp .LtE) opLe := opD_int0 (h := fun i j => .bl (decide (i ≤ j))) op_le (fun _ _ _ => rfl) fun x y z e => by
  unfold opLe at e; split at e
  · cases e; exact ⟨_, _, rfl, rfl, rfl⟩
  · cases e
theorem opD_gt : OpD X K c (compareOp .Gt) opGt := opD_int0 (h := fun i j => .bl (decide (j < i))) op_gt (fun _ _ _ => rfl) fun x y z e => by
  unfold opGt at e; split at e
  · cases e; exact ⟨_, _, rfl, rfl, rfl⟩
  · cases e
theorem opD_ge : OpD X K c (compareOp .GtE) opGe := opD_int0 (h := fun i j => .bl (decide (j ≤ i))) op_ge (fun _ _ _ => rfl) fun x y z e => by
  unfold opGe at e; split at e
  · cases e; exact ⟨_, _, rfl, rfl, rfl⟩
  · cases e
/-- data as the library's own data -/
def toP : D → Option PyData
  | .non => some .none
  | .bl b => some (.bool b)
  | .int i => some (.int i)
  | .str x => some (.str x)
  | .lst xs => (toPL xs).map PyData.list
  | .tup xs => (toPL xs).map PyData.tuple
  | .ins _ _ => none
  | .raw _ => none
  | .scr _ => none
  | .any => none
  | .fn _ => none
  | .dct _ _ => none
  | .mem _ _ _ _ => none
where toPL : List D → Option (List PyData)
  | [] => some []
  | d :: ds => match toP d, toPL ds with
    | some p, some ps => some (p :: ps)
    | _, _ => none
theorem Same.sqt {G : Gh} {H : Hp} {a : Addr} {xs : List V} (s : Same G.h H) (q : SqT K G a xs) : SqT K H a xs := by
  rcases q with (q | ⟨o, q⟩) | q
  · exact .inl (.inl (s _ _ q))
  · exact .inl (.inr ⟨o, s _ _ q⟩)
  · exact .inr q
mutual
theorem toP_Dp {G : Gh} {H : Hp} (s : Same G.h H) : ∀ {d : D} {v : V} {p : PyData}, Rep K c G d v → toP d = some p → Dp K H v p
  | .non, _, _, h, e => by cases h; unfold toP at e; cases e; exact .non
  | .bl b, _, _, h, e => by cases h; unfold toP at e; cases e; exact .bl b
  | .int i, _, _, h, e => by cases h; unfold toP at e; cases e; exact .int i
  | .str x, _, _, h, e => by cases h; unfold toP at e; cases e; exact .str x
  | .lst xs, _, _, h, e => by
    unfold toP at e
    obtain ⟨ps, e1, rfl⟩ := Option.map_eq_some_iff.mp e
    obtain ⟨p, vs, rfl, hp, r⟩ := h
    exact .lst (SqL.of (s _ _ hp)) (toPL_Dp s r e1)
  | .tup xs, _, _, h, e => by
    unfold toP at e
    obtain ⟨ps, e1, rfl⟩ := Option.map_eq_some_iff.mp e
    obtain ⟨p, vs, rfl, hp, r⟩ := h
    exact .tup (DL.Same.sqt s hp) (toPL_Dp s r e1)
  | .ins _ _, _, _, _, e => by unfold toP at e; cases e
  | .raw _, _, _, _, e => by unfold toP at e; cases e
  | .scr _, _, _, _, e => by unfold toP at e; cases e
  | .any, _, _, _, e => by unfold toP at e; cases e
  | .fn _, _, _, _, e => by unfold toP at e; cases e
  | .dct _ _, _, _, _, e => by unfold toP at e; cases e
  | .mem _ _ _ _, _, _, _, e => by unfold toP at e; cases e
theorem toPL_Dp {G : Gh} {H : Hp} (s : Same G.h H) : ∀ {ds : List D} {vs : List V} {ps : List PyData}, RepL K c G ds vs → toP.toPL ds = some ps → DpAll K H vs ps
  | [], _, _, h, e => by cases h; unfold toP.toPL at e; cases e; exact .nil
  | d :: ds, _, _, h, e => by
    obtain ⟨v, r, rfl, h1, h2⟩ := h
    unfold toP.toPL at e
    split at e
    · rename_i p ps e1 e2
      cases e
      exact .cons (toP_Dp s h1 e1) (toPL_Dp s h2 e2)
    · cases e
end
def deepEq (x y : D) : Option Bool := match toP x, toP y with
  | some p, some q => if SeqAt.shaped p && SeqAt.shaped q then some (PyData.eqv p q) else none
  | _, _ => none
/-- lists of unlike lengths -/
def lenNe (x y : D) : Option Bool := match x, y with
  | .lst xs, .lst ys => if xs.length ≠ ys.length then some false else none
  | _, _ => none
theorem lenNe_rep {G : Gh} {x y : D} {b : Bool} {u w : V} (h : lenNe x y = some b) (r1 : Rep K c G x u) (r2 : Rep K c G y w) : b = false ∧ ∃ p q xs ys, u = .ref p ∧ w = .ref q ∧ G p = some (.lst xs) ∧ G q = some (.lst ys) ∧ xs.length ≠ ys.length := by
  unfold lenNe at h
  split at h
  · split at h
    · rename_i hl
      cases h
      obtain ⟨p, vs, rfl, hp, hr⟩ := r1
      obtain ⟨q, ws, rfl, hq, hs⟩ := r2
      exact ⟨rfl, p, q, vs, ws, rfl, rfl, hp, hq, by rw [hr.length, hs.length]; exact hl⟩
    · cases h
  · cases h
def rLen (b : Bool) : V → V → Hp → VK → Prop := fun x y H Q => ∃ p q xs ys, x = .ref p ∧ y = .ref q ∧ H p = some (.lst xs) ∧ H q = some (.lst ys) ∧ xs.length ≠ ys.length ∧ Q (.bl b) H
theorem isL_of {P : Program} {w : World} {h : Heap} {H : Hp} {K : PySem.W.Frag} {p : Addr} {xs : List V} (hok : HOk P w H h) (KX : K.In h) (e : H p = some (.lst xs)) : ∃ its : Array Value, h.IsList p its ∧ its.size = xs.length := by
  obtain ⟨its, o, n, hv, e1, e2, e3⟩ := sqL_at hok KX (SqL.of e)
  refine ⟨its.toArray, ⟨o, e1, e2, n, e3⟩, ?_⟩
  have := Vals.length hv
  simp [this]
theorem op_eqLen (hu : X.A.units < cLine) : OpR X (compareOp .Eq) (rLen false) := by
  intro pins s σ H x y v u Q I rx ry ⟨p, q, xs, ys, e1, e2, hp, hq, hl, h⟩
  subst e1 e2
  obtain rfl : v = Value.ref p := rx
  obtain rfl : u = Value.ref q := ry
  obtain ⟨i1, h1, n1⟩ := isL_of I.hok I.kIn hp
  obtain ⟨i2, h2, n2⟩ := isL_of I.hok I.kIn hq
  exact SeqAt.eq_list_lengthsAt h1 h2 (by simp [n1, n2, hl]) hu ⟨.bl false, H, I, rfl, h⟩
theorem op_neLen (hu : X.A.units < cLine) : OpR X (compareOp .NotEq) (rLen true) := by
  intro pins s σ H x y v u Q I rx ry ⟨p, q, xs, ys, e1, e2, hp, hq, hl, h⟩
  subst e1 e2
  obtain rfl : v = Value.ref p := rx
  obtain rfl : u = Value.ref q := ry
  obtain ⟨i1, h1, n1⟩ := isL_of I.hok I.kIn hp
  obtain ⟨i2, h2, n2⟩ := isL_of I.hok I.kIn hq
  exact SeqAt.RcNeAt.lists_lengths h1 h2 (by simp [n1, n2, hl]) hu _ _ _ _ ⟨.bl true, H, I, rfl, h⟩
def eqD : D → D → Option Bool
  | .int i, .int j => some (decide (i = j))
  | .str x, .str y => some (decide (x = y))
  | .bl x, .bl y => some (decide (x = y))
  | .non, .non => some true
  | .int _, .non => some false
  | .non, .int _ => some false
  | .int _, .str _ => some false
  | .str _, .int _ => some false
  | .non, .str _ => some false
  | .str _, .non => some false
  | x, y => match deepEq x y with
    | some b => some b
    | none => lenNe x y
def opEq (x y : D) : Option D := (eqD x y).map .bl
def opNe (x y : D) : Option D := (eqD x y).map fun b => .bl (!b)
theorem eqD_cases {x y : D} {b : Bool} (h : eqD x y = some b) : (∀ G u w, Rep K c G x u → Rep K c G y w → scal u w = true ∧ decide (u = w) = b) ∨ (∃ p q, toP x = some p ∧ toP y = some q ∧ SeqAt.shaped p = true ∧ SeqAt.shaped q = true ∧ PyData.eqv p q = b) ∨ lenNe x y = some b := by
  unfold eqD at h
  split at h
  · cases h; exact .inl fun G u w r1 r2 => by cases r1; cases r2; exact ⟨rfl, by simp⟩
  · cases h; exact .inl fun G u w r1 r2 => by cases r1; cases r2; exact ⟨rfl, by simp⟩
  · cases h; exact .inl fun G u w r1 r2 => by cases r1; cases r2; exact ⟨rfl, by simp⟩
  · cases h; exact .inl fun G u w r1 r2 => by cases r1; cases r2; exact ⟨rfl, by simp⟩
  · cases h; exact .inl fun G u w r1 r2 => by cases r1; cases r2; exact ⟨rfl, by simp⟩
  · cases h; exact .inl fun G u w r1 r2 => by cases r1; cases r2; exact ⟨rfl, by simp⟩
  · cases h; exact .inl fun G u w r1 r2 => by cases r1; cases r2; exact ⟨rfl, by simp⟩
  · cases h; exact .inl fun G u w r1 r2 => by cases r1; cases r2; exact ⟨rfl, by simp⟩
  · cases h; exact .inl fun G u w r1 r2 => by cases r1; cases r2; exact ⟨rfl, by simp⟩
  · cases h; exact .inl fun G u w r1 r2 => by cases r1; cases r2; exact ⟨rfl, by simp⟩
  · split at h
    · rename_i b' hd
      cases h
      unfold deepEq at hd
      split at hd
      · rename_i p q e1 e2
        split at hd
        · rename_i z
          cases hd
          rw [Bool.and_eq_true] at z
          exact .inr (.inl ⟨p, q, e1, e2, z.1, z.2, rfl⟩)
        · cases hd
      · cases hd
    · exact .inr (.inr h)
theorem opD_eq {k : Nat} (hr : Room k X.A) : OpD X X.K c (compareOp .Eq) opEq := by
  refine ⟨_, op_eq.or ((op_eqD hr.units).or (op_eqLen (by have := hr.units; omega))), fun x y z e G H u w Q s ru rw kk => ?_⟩
  obtain ⟨b, e0, rfl⟩ := Option.map_eq_some_iff.mp e
  rcases eqD_cases (K := X.K) (c := c) e0 with h | ⟨p, q, e1, e2, s1, s2, e3⟩ | hz
  · obtain ⟨h1, h2⟩ := h G u w ru rw
    exact .inl ⟨h1, by rw [h2]; exact kk _ G H (.refl s) rfl⟩
  · exact .inr (.inl ⟨p, q, toP_Dp s.s ru e1, toP_Dp s.s rw e2, s1, s2, by rw [e3]; exact kk _ G H (.refl s) rfl⟩)
  · obtain ⟨rfl, p, q, xs, ys, e1, e2, hp, hq, hl⟩ := lenNe_rep hz ru rw
    exact .inr (.inr ⟨p, q, xs, ys, e1, e2, s _ _ hp, s _ _ hq, hl, kk _ G H (.refl s) rfl⟩)
theorem opD_ne {k : Nat} (hr : Room k X.A) : OpD X X.K c (compareOp .NotEq) opNe := by
  refine ⟨_, op_ne.or ((op_neD hr.units).or (op_neLen (by have := hr.units; omega))), fun x y z e G H u w Q s ru rw kk => ?_⟩
  obtain ⟨b, e0, rfl⟩ := Option.map_eq_some_iff.mp e
  rcases eqD_cases (K := X.K) (c := c) e0 with h | ⟨p, q, e1, e2, s1, s2, e3⟩ | hz
  · obtain ⟨h1, h2⟩ := h G u w ru rw
    exact .inl ⟨h1, by rw [h2]; exact kk _ G H (.refl s) rfl⟩
  · exact .inr (.inl ⟨p, q, toP_Dp s.s ru e1, toP_Dp s.s rw e2, s1, s2, by rw [e3]; exact kk _ G H (.refl s) rfl⟩)
  · obtain ⟨rfl, p, q, xs, ys, e1, e2, hp, hq, hl⟩ := lenNe_rep hz ru rw
    exact .inr (.inr ⟨p, q, xs, ys, e1, e2, s _ _ hp, s _ _ hq, hl, kk _ G H (.refl s) rfl⟩)
/-- is None -/
def isNon : D → Option Bool
  | .non => some true
  | .raw _ => none
  | .any => none
  | _ => some false
def opIsN (x y : D) : Option D := match y with | .non => (isNon x).map .bl | _ => none
def opNotN (x y : D) : Option D := match y with | .non => (isNon x).map fun b => .bl (!b) | _ => none
theorem isNon_rep {G : Gh} {x : D} {u : V} {b : Bool} (h : isNon x = some b) (r : Rep K c G x u) : decide (u = .non) = b := by
  cases x with
  | non => cases r; cases h; rfl
  | bl _ => cases r; cases h; rfl
  | int _ => cases r; cases h; rfl
  | str _ => cases r; cases h; rfl
  | lst _ => obtain ⟨p, _, rfl, _⟩ := r; cases h; rfl
  | tup _ => obtain ⟨p, _, rfl, _⟩ := r; cases h; rfl
  | ins _ _ => obtain ⟨p, _, _, rfl, _⟩ := r; cases h; rfl
  | scr _ => obtain ⟨p, rfl, _⟩ := r; cases h; rfl
  | raw _ => cases h
  | any => cases h
  | fn _ => cases r; cases h; rfl
  | dct _ _ => obtain ⟨p, _, rfl, _⟩ := r; cases h; rfl
  | mem _ _ _ _ => obtain ⟨p, _, rfl, _⟩ := r; cases h; rfl
theorem opD_isN : OpD X K c (compareOp .Is) opIsN := by
  refine ⟨_, op_isN, fun x y z e G H u w Q s ru rw k => ?_⟩
  unfold opIsN at e; split at e
  · obtain ⟨b, e0, rfl⟩ := Option.map_eq_some_iff.mp e
    cases rw
    exact ⟨rfl, by rw [isNon_rep e0 ru]; exact k _ G H (.refl s) rfl⟩
  · cases e
theorem opD_notN : OpD X K c (compareOp .IsNot) opNotN := by
  refine ⟨_, op_notN, fun x y z e G H u w Q s ru rw k => ?_⟩
  unfold opNotN at e; split at e
  · obtain ⟨b, e0, rfl⟩ := Option.map_eq_some_iff.mp e
    cases rw
    exact ⟨rfl, by rw [isNon_rep e0 ru]; exact k _ G H (.refl s) rfl⟩
  · cases e
/-- in -/
def flatD : D → Bool
  | .non => true
  | .bl _ => true
  | .int _ => true
  | .str _ => true
  | _ => false
def eqF : D → D → Bool
  | .non, .non => true
  | .bl a, .bl b => a == b
  | .bl a, .int b => (if a then 1 else 0) == b
  | .int a, .bl b => a == (if b then 1 else 0)
  | .int a, .int b => a == b
  | .str a, .str b => a == b
  | _, _ => false
theorem flatD_rep {G : Gh} {x : D} {u : V} (h : flatD x = true) (r : Rep K c G x u) : flatV u = true := by
  cases x <;> first | cases h; done | (cases r; rfl)
theorem eqF_rep {G : Gh} {x y : D} {u w : V} (hx : flatD x = true) (hy : flatD y = true) (r : Rep K c G x u) (q : Rep K c G y w) : eqV u w = eqF x y := by
  cases x <;> first | cases hx; done | (cases r; cases y <;> first | cases hy; done | (cases q; rfl))
def inF (x : D) (ys : List D) : Bool := ys.any fun y => eqF y x
theorem allFlat {G : Gh} : ∀ {ds : List D} {vs : List V}, ds.all flatD = true → RepL K c G ds vs → vs.all flatV = true
  | [], _, _, h => by cases h; rfl
  | d :: ds, _, e, h => by
    obtain ⟨v, r, rfl, h1, h2⟩ := h
    rw [List.all_cons, Bool.and_eq_true] at e ⊢
    exact ⟨flatD_rep e.1 h1, allFlat e.2 h2⟩
theorem inF_rep {G : Gh} {x : D} {u : V} (hx : flatD x = true) (r : Rep K c G x u) : ∀ {ds : List D} {vs : List V}, ds.all flatD = true → RepL K c G ds vs → inV u vs = inF x ds
  | [], _, _, h => by cases h; rfl
  | d :: ds, _, e, h => by
    obtain ⟨v, rr, rfl, h1, h2⟩ := h
    rw [List.all_cons, Bool.and_eq_true] at e
    have ih := inF_rep hx r e.2 h2
    unfold inV inF at ih ⊢
    rw [List.any_cons, List.any_cons, ih, eqF_rep e.1 hx h1 r]
def inD (x y : D) : Option Bool := match x, y with
  | .str x, .str z => match x.cps.toList with | [k] => some (decide (k ∈ z.cps.toList)) | _ => none
  | x, .lst ys => if flatD x && ys.all flatD then some (inF x ys) else none
  | x, .tup ys => if flatD x && ys.all flatD then some (inF x ys) else none
  | _, _ => none
def opIn (x y : D) : Option D := (inD x y).map .bl
def opNotIn (x y : D) : Option D := (inD x y).map fun b => .bl (!b)
theorem one_str {x : Str} {k : Nat} (h : x.cps.toList = [k]) : x = ⟨#[k]⟩ := by
  obtain ⟨a⟩ := x
  have : a = #[k] := by
    apply Array.ext'
    simpa using h
  rw [this]
theorem inD_cases {x y : D} {b : Bool} {G : Gh} {u w : V} (h : inD x y = some b) (ru : Rep K c G x u) (rw : Rep K c G y w) : (∃ (k : Nat) (z : Str), u = .str ⟨#[k]⟩ ∧ w = .str z ∧ decide (k ∈ z.cps.toList) = b) ∨
    ∃ p xs, w = .ref p ∧ (SqL K G p xs ∨ SqT K G p xs) ∧ flatV u = true ∧ xs.all flatV = true ∧ inV u xs = b := by
  unfold inD at h
  split at h
  · cases ru; cases rw
    split at h
    · rename_i k e
      cases h
      exact .inl ⟨k, _, by rw [one_str e], rfl, rfl⟩
    · cases h
  · split at h
    · rename_i z
      cases h
      rw [Bool.and_eq_true] at z
      obtain ⟨p, vs, rfl, hp, r⟩ := rw
      exact .inr ⟨p, vs, rfl, .inl (SqL.of hp), flatD_rep z.1 ru, allFlat z.2 r, inF_rep z.1 ru z.2 r⟩
    · cases h
  · split at h
    · rename_i z
      cases h
      rw [Bool.and_eq_true] at z
      obtain ⟨p, vs, rfl, hp, r⟩ := rw
      exact .inr ⟨p, vs, rfl, .inr hp, flatD_rep z.1 ru, allFlat z.2 r, inF_rep z.1 ru z.2 r⟩
    · cases h
  · cases h
theorem Same.sq {G : Gh} {H : Hp} {p : Addr} {xs : List V} (s : Same G.h H) (h : SqL K G p xs ∨ SqT K G p xs) : SqL K H p xs ∨ SqT K H p xs := h.elim (fun q => .inl (s.seq q)) fun q => .inr (DL.Same.sqt s q)
theorem opD_in : OpD X X.K c (compareOp .In) opIn := by
  refine ⟨_, op_in_sign.or op_in_seq, fun x y z e G H u w Q s ru rw k => ?_⟩
  obtain ⟨b, e0, rfl⟩ := Option.map_eq_some_iff.mp e
  rcases inD_cases e0 ru rw with ⟨n, z, rfl, rfl, e⟩ | ⟨p, xs, rfl, h1, h2, h3, h4⟩
  · exact .inl ⟨n, z, rfl, rfl, by rw [e]; exact k _ G H (.refl s) rfl⟩
  · refine .inr ⟨p, xs, rfl, DL.Same.sq s.s h1, h2, h3, ?_⟩
    rw [if_neg Bool.false_ne_true, h4]
    exact k _ G H (.refl s) rfl
theorem opD_notIn : OpD X X.K c (compareOp .NotIn) opNotIn := by
  refine ⟨_, op_notIn_sign.or op_notIn_seq, fun x y z e G H u w Q s ru rw k => ?_⟩
  obtain ⟨b, e0, rfl⟩ := Option.map_eq_some_iff.mp e
  rcases inD_cases e0 ru rw with ⟨n, z, rfl, rfl, e⟩ | ⟨p, xs, rfl, h1, h2, h3, h4⟩
  · exact .inl ⟨n, z, rfl, rfl, by rw [e]; exact k _ G H (.refl s) rfl⟩
  · refine .inr ⟨p, xs, rfl, DL.Same.sq s.s h1, h2, h3, ?_⟩
    rw [if_pos rfl, h4]
    exact k _ G H (.refl s) rfl
/-! unary -/
def dNeg (f : DE) : DE := fun ρ => match f ρ with | some (.int i) => some (.int (-i)) | _ => none
theorem d_neg {f : DE} (ha : PE X a (tD K c f)) : PE X (.UnaryOp .USub a pos) (tD K c (dNeg f)) := (pe_un un_neg ha).imp fun σ H Q ⟨G, ρ, d, s, sl, e, k⟩ => by
  unfold dNeg at e
  split at e
  · rename_i i q
    cases e
    exact ⟨G, ρ, _, s, sl, q, fun v G1 H1 g1 r1 => ⟨i, r1, k _ G1 H1 g1 rfl⟩⟩
  · cases e
/-! items -/
def IxD (X : Cx) (c : Cf) (o : D → D → Option D) : Prop :=
  ∃ r, IxR X r ∧ ∀ x y z, o x y = some z → ∀ G H u w Q, Sm c G H → Rep X.K c G x u → Rep X.K c G y w → (∀ v G' H', Gr c G H G' H' → Rep X.K c G' z v → Q v H') → r u w H Q
def opIx : D → D → Option D
  | .lst xs, .int i => atI xs i
  | .tup xs, .int i => atI xs i
  | .scr ns, .int i => (atI ns i).map .int
  | .str z, .int i => if z.length ≤ 100000 then (atI z.cps.toList i).map fun k => .str ⟨#[k]⟩ else none
  | _, _ => none
theorem RepL0.atI {G : Gh} {ds : List D} {vs : List V} {i : Int} {d : D} (r : RepL K c G ds vs) (h : L2.atI ds i = some d) : ∃ v, L2.atI vs i = some v ∧ Rep K c G d v := by
  unfold L2.atI at h ⊢
  obtain ⟨j, e1, e2⟩ := Option.bind_eq_some_iff.mp h
  obtain ⟨v, e3, q⟩ := r.get e2
  exact ⟨v, by rw [r.length, e1]; exact e3, q⟩
theorem atI_map {α β : Type} {xs : List α} {i : Int} {f : α → β} : L2.atI (xs.map f) i = (L2.atI xs i).map f := by
  unfold L2.atI
  rw [List.length_map]
  cases L2.ixN xs.length i with
  | none => rfl
  | some j => simp
theorem ixD_seq : IxD X c opIx := by
  refine ⟨_, ix_seq, fun x y z e G H u w Q s ru rw k => ?_⟩
  unfold opIx at e; split at e
  · obtain ⟨p, vs, rfl, hp, r⟩ := ru
    cases rw
    obtain ⟨v, h1, h2⟩ := r.atI e
    exact .inl ⟨p, vs, _, v, rfl, rfl, SqL.of (s _ _ hp), h1, k v G H (.refl s) h2⟩
  · obtain ⟨p, vs, rfl, hp, r⟩ := ru
    cases rw
    obtain ⟨v, h1, h2⟩ := r.atI e
    exact .inr (.inl ⟨p, vs, _, v, rfl, rfl, DL.Same.sqt s.s hp, h1, k v G H (.refl s) h2⟩)
  · obtain ⟨p, rfl, hp⟩ := ru
    cases rw
    obtain ⟨n, e1, rfl⟩ := Option.map_eq_some_iff.mp e
    exact .inl ⟨p, _, _, .int n, rfl, rfl, s.seq hp, by rw [atI_map, e1]; rfl, k _ G H (.refl s) rfl⟩
  · cases ru
    cases rw
    split at e
    · rename_i hz
      obtain ⟨n, e1, rfl⟩ := Option.map_eq_some_iff.mp e
      exact .inr (.inr ⟨_, _, n, rfl, rfl, line100 hz, e1, k _ G H (.refl s) rfl⟩)
    · cases e
  · cases e
theorem d_ix {f g : DE} (ha : PE X a (tD X.K c f)) (hb : PE X b (tD X.K c g)) (hs : PlainIx b := by exact fun _ _ => rfl) : PE X (.Subscript a b pos) (tD X.K c (dOp opIx f g)) := by
  obtain ⟨r, h1, h2⟩ := ixD_seq (X := X) (c := c)
  exact (pe_ix h1 ha hb hs).imp (dOp_step h2)
/-! slices -/
abbrev DO := Sl → Option (Option Int)
def tDO (K : PySem.W.Frag) (c : Cf) (f : DO) : TO := fun σ H Q => ∃ G ρ o, Sm c G H ∧ Slots K c G H ρ σ ∧ f ρ = some o ∧ ∀ G' H', Gr c G H G' H' → Q o H'
def oNone : DO := fun _ => some none
def oSome (f : DE) : DO := fun ρ => match f ρ with | some (.int i) => some (some i) | _ => none
theorem _root_.L2.PO.imp {oe : Option Expr} {t t' : TO} (h : PO X oe t) (i : ∀ σ H Q, t' σ H Q → t σ H Q) : PO X oe t' := ⟨fun pins s σ H Q I q => h.run pins s σ H Q I (i σ H Q q)⟩
theorem o_none : PO X none (tDO K c oNone) := po_none.imp fun σ H Q ⟨G, ρ, o, s, sl, e, k⟩ => by cases e; exact k G H (.refl s)
theorem o_some {f : DE} (h : PE X e (tD K c f)) : PO X (some e) (tDO K c (oSome f)) := (po_some h).imp fun σ H Q ⟨G, ρ, o, s, sl, e, k⟩ => by
  unfold oSome at e
  split at e
  · rename_i i q
    cases e
    exact ⟨G, ρ, _, s, sl, q, fun v G1 H1 g1 r1 => ⟨i, r1, k G1 H1 g1⟩⟩
  · cases e
def cutD (xs : List D) (lo hi : Option Int) : List D := (xs.drop (HT.sIx xs.length 0 lo)).take (HT.sIx xs.length xs.length hi - HT.sIx xs.length 0 lo)
theorem RepL0.cut {G : Gh} {ds : List D} {vs : List V} (r : RepL K c G ds vs) (lo hi : Option Int) : RepL K c G (cutD ds lo hi) (cutV vs lo hi) := by
  unfold cutD cutV
  rw [r.length]
  exact (r.drop _).take _
def opSl (x : D) (lo hi : Option Int) : Option D := match x with
  | .lst xs => some (.lst (cutD xs lo hi))
  | .tup xs => if HT.sIx xs.length 0 lo = 0 ∧ HT.sIx xs.length xs.length hi = xs.length then none else some (.tup (cutD xs lo hi))
  | .str z => if z.length ≤ 100000 then some (.str (cutS z lo hi)) else none
  | _ => none
def dSl (f : DE) (lo hi : DO) : DE := fun ρ => (f ρ).bind fun x => (lo ρ).bind fun l => (hi ρ).bind fun h => opSl x l h
theorem d_slice {lo hi : Option Expr} {p2 : Pos} {f : DE} {fl fh : DO} (ha : PE X a (tD X.K c f)) (hl : PO X lo (tDO X.K c fl)) (hh : PO X hi (tDO X.K c fh)) : PE X (.Subscript a (.Slice lo hi none p2) pos) (tD X.K c (dSl f fl fh)) :=
  (pe_slice (sl_list.or (sl_tup.or sl_str)) ha hl hh).imp fun σ H Q ⟨G, ρ, d, s, sl, e, k⟩ => by
    unfold dSl at e
    obtain ⟨x, ex, e⟩ := Option.bind_eq_some_iff.mp e
    obtain ⟨l, el, e⟩ := Option.bind_eq_some_iff.mp e
    obtain ⟨h, eh, e⟩ := Option.bind_eq_some_iff.mp e
    refine ⟨G, ρ, x, s, sl, ex, fun u G1 H1 g1 r1 => ⟨G1, ρ, l, g1.s, sl.step g1, el, fun G2 H2 g2 => ⟨G2, ρ, h, g2.s, sl.step (g1.trans g2), eh, fun G3 H3 g3 => ?_⟩⟩⟩
    have r3 := (r1.mono g2.g).mono g3.g
    have kk := fun v G' H' (g : Gr c G3 H3 G' H') r => k v G' H' (((g1.trans g2).trans g3).trans g) r
    unfold opSl at e
    split at e
    · cases e
      obtain ⟨p, vs, rfl, hp, r⟩ := r3
      exact .inl ⟨p, vs, rfl, SqL.of (g3.s _ _ hp), fun q hq => kk _ _ _ (.new g3.s hq True.intro) ⟨q, _, rfl, put_same, (r.cut l h).mono (SameG.put (g3.s.none hq))⟩⟩
    · split at e
      · cases e
      · rename_i hw
        cases e
        obtain ⟨p, vs, rfl, hp, r⟩ := r3
        refine .inr (.inl ⟨p, vs, rfl, DL.Same.sqt g3.s.s hp, by rw [r.length]; exact hw, fun q hq => kk _ _ _ (.new g3.s hq True.intro) ⟨q, _, rfl, SqT.of put_same, (r.cut l h).mono (SameG.put (g3.s.none hq))⟩⟩)
    · split at e
      · rename_i hz
        cases e
        cases r3
        exact .inr (.inr ⟨_, rfl, line100 hz, kk _ _ _ (.refl g3.s) rfl⟩)
      · cases e
    · cases e
end
end DL
set_option maxRecDepth 100000
namespace DL
open PySem L2
section
variable {X : Cx} {K : PySem.W.Frag} {c : Cf} {e a b : Expr} {es : List Expr} {pos : Pos}
/-! ### attributes -/
theorem lookup_zip : ∀ {ns : List Str} {vs : List V} {f : Str} {i : Nat} {v : V}, ns.Nodup → ns[i]? = some f → vs[i]? = some v → (ns.zip vs).lookup f = some v
  | [], _, _, _, _, _, h, _ => by simp at h
  | _ :: _, [], _, _, _, _, _, h => by simp at h
  | n :: ns, w :: vs, f, 0, v, _, h1, h2 => by
    simp at h1 h2
    subst h1; subst h2
    rw [List.zip_cons_cons, List.lookup_cons]
    simp
  | n :: ns, w :: vs, f, i + 1, v, hn, h1, h2 => by
    have hm : f ∈ ns := List.mem_of_getElem? (by simpa using h1)
    have hne : n ≠ f := fun z => by subst z; exact (List.nodup_cons.mp hn).1 hm
    rw [List.zip_cons_cons, List.lookup_cons]
    have hb : (f == n) = false := beq_eq_false_iff_ne.mpr (Ne.symm hne)
    rw [hb]
    exact lookup_zip (List.nodup_cons.mp hn).2 (by simpa using h1) (by simpa using h2)
theorem lookup_zip_none : ∀ {ns : List Str} {vs : List V} {f : Str}, f ∉ ns → (ns.zip vs).lookup f = none
  | [], _, _, _ => rfl
  | _ :: _, [], _, _ => rfl
  | n :: ns, w :: vs, f, h => by
    rw [List.mem_cons, not_or] at h
    rw [List.zip_cons_cons, List.lookup_cons]
    have hb : (f == n) = false := beq_eq_false_iff_ne.mpr h.1
    rw [hb]
    exact lookup_zip_none h.2
/-- an attribute by its place, class by class -/
def FldOk (K : PySem.W.Frag) (c : Cf) (f : Str) (att : Nat → Option Nat) : Prop := ∀ n i, att n = some i → Cls K (c.cl n) ∧ NoAttr K (c.cl n) f ∧ (c.nm n).Nodup ∧ (c.nm n)[i]? = some f
def dFld (att : Nat → Option Nat) (f : DE) : DE := fun ρ => match f ρ with
  | some (.ins n fs) => (att n).bind fun i => fs[i]?
  | _ => none
theorem d_fld {f : Str} {att : Nat → Option Nat} {g : DE} (h : FldOk X.K c f att) (he : PE X e (tD X.K c g)) (hb : attributeBase e f X.env (eval e X.env) = eval e X.env := by rfl) : PE X (.Attribute e f pos) (tD X.K c (dFld att g)) :=
  (pe_fld he hb).imp fun σ H Q ⟨G, ρ, d, s, sl, e, k⟩ => by
    unfold dFld at e
    split at e
    · rename_i n fs q
      obtain ⟨i, e1, e2⟩ := Option.bind_eq_some_iff.mp e
      obtain ⟨h1, h2, h3, h4⟩ := h n i e1
      refine ⟨G, ρ, _, s, sl, q, fun v G1 H1 g1 r1 => ?_⟩
      obtain ⟨p, dx, vs, rfl, hp, hl, r⟩ := r1
      obtain ⟨v, h5, h6⟩ := r.get e2
      exact ⟨p, _, dx, _, v, rfl, g1.s _ _ hp, h1, h2, lookup_zip h3 h4 h5, k v G1 H1 g1 h6⟩
    · cases e
/-! ### methods by the class -/
structure MCal (P : Program) (w : World) (K : PySem.W.Frag) (mg : Str → Option Value) (base : Heap) (c : Cf) (m : Str) (k n : Nat) (tbl : Nat → Option (List D → Option D)) : Prop where
  ex : ∀ i F, tbl i = some F → ∃ f fd ps, Cls K (c.cl i) ∧ Meth K (c.cl i) m f ∧ Binds K fd ps [] ∧ FnOk P w K mg base CX0 k f fd ps (spD K c (n + 1) F) ∧ m ∉ c.nm i
def dMeth (n : Nat) (tbl : Nat → Option (List D → Option D)) (f : DE) (g : DA) : DE := fun ρ => (f ρ).bind fun x => (g ρ).bind fun ds => if ds.length = n then match x with
  | .ins i _ => (tbl i).bind fun F => F (x :: ds)
  | _ => none else none
theorem d_meth {o : Expr} {m : Str} {k k' n : Nat} {tbl : Nat → Option (List D → Option D)} {f : DE} {g : DA} {apos : Pos} {pl : Sem Bool} (C : MCal X.prog X.w X.K X.mg X.base c m k n tbl) (hr : Room k' X.A) (hk : k ≤ k') (ho : PE X o (tD X.K c f)) (ha : PA X (e :: es) (tDA X.K c g))
    (hst : starEach (e :: es) X.env = (false, eval e X.env) :: starEach es X.env := by rfl) (hpl : (backTo pos (starEach es X.env)).any (·.1) = false := by rfl)
    (ht : eval (.Call (.Attribute o m apos) (e :: es) [] pos) X.env = (do
      let ov ← eval o X.env
      standAt apos.atName
      let (f, first) ← holding [ov] (getMethod ov m pl)
      callWith pos f first (backTo pos (starEach (e :: es) X.env)) (backToKw pos (keywordEach [] X.env))) := by rfl) :
    PE X (.Call (.Attribute o m apos) (e :: es) [] pos) (tD X.K c (dMeth n tbl f g)) := by
  refine ⟨fun pins s σ H Q I h => ?_⟩
  obtain ⟨G, ρ, d, sm, sl, ed, kk⟩ := h
  unfold dMeth at ed
  obtain ⟨x, ex, ed⟩ := Option.bind_eq_some_iff.mp ed
  obtain ⟨ds, eds, ed⟩ := Option.bind_eq_some_iff.mp ed
  split at ed
  · rename_i hl
    split at ed
    · rename_i i fs _
      obtain ⟨F, eF, ed⟩ := Option.bind_eq_some_iff.mp ed
      obtain ⟨fa, fd, ps, h1, h2, h3, h4, h5⟩ := C.ex i F eF
      refine PySem.W.methodCall_KW (pl := pl) (thn (ho.run pins s σ H (fun v H1 => ∃ G1, Gr c G H G1 H1 ∧ Rep X.K c G1 (.ins i fs) v) I ⟨G, ρ, _, sm, sl, ex, fun v G1 H1 g1 r1 => ⟨G1, g1, r1⟩⟩) fun u s1 ⟨v, H1, I1, rx, G1, g1, r1⟩ => ?_) ht
      have r1' := r1
      obtain ⟨p, dx, vs, rfl, hp, hlen, r⟩ := r1
      obtain rfl : u = Value.ref p := rx
      refine getmeth_ok I1 (g1.s _ _ hp) h1 h2 (lookup_zip_none h5) ?_
      refine PySem.W.callWith_K (first := [.ref p]) (h₀ := X.base) I.ok.mod.kin h2.kp (thn (ha.run pos pins s1 σ H1 (fun us H2 => ∃ G2, Gr c G1 H1 G2 H2 ∧ RepL X.K c G2 ds us) I1 ⟨G1, ρ, ds, g1.s, sl.step g1, eds, fun us G2 H2 g2 r2 => ⟨G2, g2, r2⟩⟩) fun us s2 ⟨vs2, H2, I2, rr, G2, g2, r2⟩ => ⟨I2.kIn, ?_⟩) hst hpl
      refine run_fn (us := .ref p :: us) (vs := .ref p :: vs2) h4 (hr.mono hk) h3 .nil pass0 I2 (.cons rfl rr) ?_
      rw [List.append_nil]
      exact ⟨G2, .ins i fs :: ds, d, g2.s, ⟨_, _, rfl, r1'.mono g2.g, r2⟩, by simp [hl], ed, fun v G' H' g3 r3 => kk v G' H' ((g1.trans g2).trans g3) r3⟩
    · cases ed
  · cases ed
theorem d_meth0 {o : Expr} {m : Str} {k k' : Nat} {tbl : Nat → Option (List D → Option D)} {f : DE} {apos : Pos} {pl : Sem Bool} (C : MCal X.prog X.w X.K X.mg X.base c m k 0 tbl) (hr : Room k' X.A) (hk : k ≤ k') (ho : PE X o (tD X.K c f))
    (ht : eval (.Call (.Attribute o m apos) [] [] pos) X.env = (do
      let ov ← eval o X.env
      standAt apos.atName
      let (f, first) ← holding [ov] (getMethod ov m pl)
      callWith pos f first (backTo pos (starEach [] X.env)) (backToKw pos (keywordEach [] X.env))) := by rfl) :
    PE X (.Call (.Attribute o m apos) [] [] pos) (tD X.K c (dMeth 0 tbl f aNil)) := by
  refine ⟨fun pins s σ H Q I h => ?_⟩
  obtain ⟨G, ρ, d, sm, sl, ed, kk⟩ := h
  unfold dMeth at ed
  obtain ⟨x, ex, ed⟩ := Option.bind_eq_some_iff.mp ed
  obtain ⟨ds, eds, ed⟩ := Option.bind_eq_some_iff.mp ed
  cases eds
  split at ed
  · split at ed
    · rename_i i fs _
      obtain ⟨F, eF, ed⟩ := Option.bind_eq_some_iff.mp ed
      obtain ⟨fa, fd, ps, h1, h2, h3, h4, h5⟩ := C.ex i F eF
      refine PySem.W.methodCall_KW (pl := pl) (thn (ho.run pins s σ H (fun v H1 => ∃ G1, Gr c G H G1 H1 ∧ Rep X.K c G1 (.ins i fs) v) I ⟨G, ρ, _, sm, sl, ex, fun v G1 H1 g1 r1 => ⟨G1, g1, r1⟩⟩) fun u s1 ⟨v, H1, I1, rx, G1, g1, r1⟩ => ?_) ht
      have r1' := r1
      obtain ⟨p, dx, vs, rfl, hp, hlen, r⟩ := r1
      obtain rfl : u = Value.ref p := rx
      refine getmeth_ok I1 (g1.s _ _ hp) h1 h2 (lookup_zip_none h5) ?_
      refine PySem.W.callWith_K0 (first := [.ref p]) I1.kIn h2.kp ?_
      refine run_fn (us := [.ref p]) (vs := [.ref p]) h4 (hr.mono hk) h3 .nil pass0 I1 (.cons rfl .nil) ?_
      rw [List.append_nil]
      exact ⟨G1, [.ins i fs], d, g1.s, ⟨_, _, rfl, r1', rfl⟩, rfl, ed, fun v G' H' g3 r3 => kk v G' H' (g1.trans g3) r3⟩
    · cases ed
  · cases ed
end
end DL
set_option maxRecDepth 100000
namespace DL
open PySem L2
section
variable {X : Cx} {K : PySem.W.Frag} {c : Cf} {e a b : Expr} {es : List Expr} {pos : Pos}
/-! ### builtins by values -/
def BuD (X : Cx) (c : Cf) (f : Value) (F : List D → Option D) : Prop :=
  ∃ r, CallR X f r ∧ ∀ ds d, F ds = some d → ∀ G H vs Q, Sm c G H → RepL X.K c G ds vs → (∀ v G' H', Gr c G H G' H' → Rep X.K c G' d v → Q v H') → r vs H Q
/-- .. that give a new list -/
def BuO (X : Cx) (c : Cf) (f : Value) (F : List D → Option (List D)) : Prop :=
  ∃ r, CallR X f r ∧ ∀ ds d, F ds = some d → ∀ G H vs Q, Sm c G H → RepL X.K c G ds vs → (∀ p vs' G' H', Gr c G H G' H' → H p = none → G' p = none → H' p = some (.lst vs') → RepL X.K c G' d vs' → Q (.ref p) H') → r vs H Q
def dBu (F : List D → Option D) (g : DA) : DE := fun ρ => (g ρ).bind F
def oBu (F : List D → Option (List D)) (g : DA) : DOw := fun ρ => (g ρ).bind F
theorem d_callB {id : String} {F : List D → Option D} {g : DA} {x : Str} {p : Pos} (hB : BuD X c (.builtin id) F) (hm : X.mg x = none) (ha : PA X (e :: es) (tDA X.K c g)) (hv : bootBuiltins x = some (.builtin id) := by decide +kernel) (hg : Gl X x := by rfl)
    (hn : x ≠ "__name__" := by decide) (hdb : (x == ("__debug__" : Str)) = false := by decide) (he : starEach (e :: es) X.env = (false, eval e X.env) :: starEach es X.env := by rfl) (hpl : (backTo pos (starEach es X.env)).any (·.1) = false := by rfl) :
    PE X (.Call (.Name x p) (e :: es) [] pos) (tD X.K c (dBu F g)) := by
  obtain ⟨r, h1, h2⟩ := hB
  refine (pe_callB h1 hg hm hv ha hn hdb he hpl).imp fun σ H Q ⟨G, ρ, d, s, sl, e, k⟩ => ?_
  unfold dBu at e
  obtain ⟨ds, ed, e⟩ := Option.bind_eq_some_iff.mp e
  exact ⟨G, ρ, ds, s, sl, ed, fun vs G1 H1 g1 r1 => h2 ds d e G1 H1 vs Q g1.s r1 fun v G' H' g2 r2 => k v G' H' (g1.trans g2) r2⟩
theorem d_callTy {T : String} {F : List D → Option D} {g : DA} {x : Str} {p : Pos} (hB : BuD X c (.type T) F) (hm : X.mg x = none) (ha : PA X (e :: es) (tDA X.K c g)) (hv : bootBuiltins x = some (.type T) := by decide +kernel) (hg : Gl X x := by rfl)
    (hn : x ≠ "__name__" := by decide) (hdb : (x == ("__debug__" : Str)) = false := by decide) (he : starEach (e :: es) X.env = (false, eval e X.env) :: starEach es X.env := by rfl) (hpl : (backTo pos (starEach es X.env)).any (·.1) = false := by rfl) :
    PE X (.Call (.Name x p) (e :: es) [] pos) (tD X.K c (dBu F g)) := by
  obtain ⟨r, h1, h2⟩ := hB
  refine (pe_callTy h1 hg hm hv ha hn hdb he hpl).imp fun σ H Q ⟨G, ρ, d, s, sl, e, k⟩ => ?_
  unfold dBu at e
  obtain ⟨ds, ed, e⟩ := Option.bind_eq_some_iff.mp e
  exact ⟨G, ρ, ds, s, sl, ed, fun vs G1 H1 g1 r1 => h2 ds d e G1 H1 vs Q g1.s r1 fun v G' H' g2 r2 => k v G' H' (g1.trans g2) r2⟩
theorem o_callTy {T : String} {F : List D → Option (List D)} {g : DA} {x : Str} {p : Pos} (hB : BuO X c (.type T) F) (hm : X.mg x = none) (ha : PA X (e :: es) (tDA X.K c g)) (hv : bootBuiltins x = some (.type T) := by decide +kernel) (hg : Gl X x := by rfl)
    (hn : x ≠ "__name__" := by decide) (hdb : (x == ("__debug__" : Str)) = false := by decide) (he : starEach (e :: es) X.env = (false, eval e X.env) :: starEach es X.env := by rfl) (hpl : (backTo pos (starEach es X.env)).any (·.1) = false := by rfl) :
    PE X (.Call (.Name x p) (e :: es) [] pos) (tDo X.K c (oBu F g)) := by
  obtain ⟨r, h1, h2⟩ := hB
  refine (pe_callTy h1 hg hm hv ha hn hdb he hpl).imp fun σ H Q ⟨G, ρ, d, s, sl, e, k⟩ => ?_
  unfold oBu at e
  obtain ⟨ds, ed, e⟩ := Option.bind_eq_some_iff.mp e
  exact ⟨G, ρ, ds, s, sl, ed, fun vs G1 H1 g1 r1 => h2 ds d e G1 H1 vs Q g1.s r1 fun p vs' G' H' g2 n m q r2 => k p vs' G' H' (g1.trans g2) (g1.d p n) m q r2⟩
/-- ints of a list -/
def asInts : List D → Option (List Int)
  | [] => some []
  | .int i :: ds => (asInts ds).map (i :: ·)
  | _ => none
theorem asInts_rep {G : Gh} : ∀ {ds : List D} {ns : List Int} {vs : List V}, asInts ds = some ns → RepL K c G ds vs → vs = ns.map V.int
  | [], _, _, e, h => by cases e; cases h; rfl
  | d :: ds, ns, _, e, h => by
    obtain ⟨v, r, rfl, h1, h2⟩ := h
    unfold asInts at e
    split at e
    · rename_i z; cases z
    · rename_i i ds' z
      cases z
      obtain ⟨ms, e1, rfl⟩ := Option.map_eq_some_iff.mp e
      cases h1
      rw [asInts_rep e1 h2]
      rfl
    · cases e
theorem asInts_map (ns : List Int) : asInts (ns.map D.int) = some ns := by
  induction ns with
  | nil => rfl
  | cons n ns ih => rw [List.map_cons]; unfold asInts; rw [ih]; rfl
def asStrs : List D → Option (List Str)
  | [] => some []
  | .str i :: ds => (asStrs ds).map (i :: ·)
  | _ => none
theorem asStrs_rep {G : Gh} : ∀ {ds : List D} {ns : List Str} {vs : List V}, asStrs ds = some ns → RepL K c G ds vs → vs = ns.map V.str
  | [], _, _, e, h => by cases e; cases h; rfl
  | d :: ds, ns, _, e, h => by
    obtain ⟨v, r, rfl, h1, h2⟩ := h
    unfold asStrs at e
    split at e
    · rename_i z; cases z
    · rename_i i ds' z
      cases z
      obtain ⟨ms, e1, rfl⟩ := Option.map_eq_some_iff.mp e
      cases h1
      rw [asStrs_rep e1 h2]
      rfl
    · cases e
theorem asStrs_map (ns : List Str) : asStrs (ns.map D.str) = some ns := by
  induction ns with
  | nil => rfl
  | cons n ns ih => rw [List.map_cons]; unfold asStrs; rw [ih]; rfl
theorem RepL0.strs {G : Gh} : ∀ ys : List Str, RepL K c G (ys.map D.str) (ys.map V.str)
  | [] => rfl
  | y :: ys => ⟨.str y, ys.map V.str, rfl, rfl, RepL0.strs ys⟩
theorem RepL0.ints {G : Gh} : ∀ ys : List Int, RepL K c G (ys.map D.int) (ys.map V.int)
  | [] => rfl
  | y :: ys => ⟨.int y, ys.map V.int, rfl, rfl, RepL0.ints ys⟩
theorem RepL0.of1 {G : Gh} {d : D} {vs : List V} (h : RepL K c G [d] vs) : ∃ v, vs = [v] ∧ Rep K c G d v := by
  obtain ⟨v, r, rfl, h1, h2⟩ := h
  cases h2
  exact ⟨v, rfl, h1⟩
theorem RepL0.of2 {G : Gh} {d e : D} {vs : List V} (h : RepL K c G [d, e] vs) : ∃ v u, vs = [v, u] ∧ Rep K c G d v ∧ Rep K c G e u := by
  obtain ⟨v, r, rfl, h1, u, r2, rfl, h2, h3⟩ := h
  cases h3
  exact ⟨v, u, rfl, h1, h2⟩
def bLen : List D → Option D
  | [.lst xs] => some (.int xs.length)
  | [.tup xs] => some (.int xs.length)
  | [.scr xs] => some (.int xs.length)
  | [.str z] => if z.length ≤ 100000 then some (.int z.length) else none
  | _ => none
theorem bu_len : BuD X c (.builtin "len") bLen := by
  refine ⟨_, call_len, fun ds d e G H vs Q s r k => ?_⟩
  unfold bLen at e
  split at e
  · cases e
    obtain ⟨v, rfl, p, us, rfl, hp, hr⟩ := r.of1
    exact ⟨_, us.length, rfl, .inl ⟨us, SqL.of (s _ _ hp), rfl⟩, k _ G H (.refl s) (by rw [hr.length]; rfl)⟩
  · cases e
    obtain ⟨v, rfl, p, us, rfl, hp, hr⟩ := r.of1
    exact ⟨_, us.length, rfl, .inr ⟨us, DL.Same.sqt s.s hp, rfl⟩, k _ G H (.refl s) (by rw [hr.length]; rfl)⟩
  · cases e
    obtain ⟨v, rfl, p, rfl, hp⟩ := r.of1
    exact ⟨_, _, rfl, .inl ⟨_, s.seq hp, rfl⟩, k _ G H (.refl s) (by rw [List.length_map]; rfl)⟩
  · split at e
    · rename_i hz
      cases e
      obtain ⟨v, rfl, h1⟩ := r.of1
      cases h1
      exact ⟨_, _, rfl, ⟨line100 hz, rfl⟩, k _ G H (.refl s) rfl⟩
    · cases e
  · cases e
def bStr : List D → Option D
  | [.int i] => if i.natAbs.log2 < 1920 then some (.str (toString i)) else none
  | _ => none
theorem bu_str : BuD X c (.type "str") bStr := by
  refine ⟨_, call_str_int, fun ds d e G H vs Q s r k => ?_⟩
  unfold bStr at e
  split at e
  · split at e
    · rename_i i hz
      cases e
      obtain ⟨v, rfl, h1⟩ := r.of1
      cases h1
      exact ⟨i, rfl, hz, k _ G H (.refl s) rfl⟩
    · cases e
  · cases e
theorem CallR.or {f : Value} {r r' : List V → Hp → VK → Prop} (h : CallR X f r) (h' : CallR X f r') : CallR X f (fun xs H Q => r xs H Q ∨ r' xs H Q) := by
  intro pins s σ H xs us Q I r1 q
  rcases q with q | q
  · exact h pins s σ H xs us Q I r1 q
  · exact h' pins s σ H xs us Q I r1 q
def bInt : List D → Option D
  | [.int i] => some (.int i)
  | [.bl k] => some (.int (if k then 1 else 0))
  | [.str x] => if x.length ≤ 640 then (PySem.intText? x).map .int else none
  | _ => none
theorem bu_int : BuD X c (.type "int") bInt := by
  refine ⟨_, DL.CallR.or call_int1 call_int_str, fun ds d e G H vs Q s r k => ?_⟩
  unfold bInt at e
  split at e
  · cases e
    obtain ⟨v, rfl, h1⟩ := r.of1
    cases h1
    exact .inl (.inl ⟨_, rfl, k _ G H (.refl s) rfl⟩)
  · cases e
    obtain ⟨v, rfl, h1⟩ := r.of1
    cases h1
    exact .inl (.inr ⟨_, rfl, k _ G H (.refl s) rfl⟩)
  · split at e
    · rename_i hz
      obtain ⟨n, e1, rfl⟩ := Option.map_eq_some_iff.mp e
      obtain ⟨v, rfl, h1⟩ := r.of1
      cases h1
      exact .inr ⟨_, n, rfl, e1, hz, k _ G H (.refl s) rfl⟩
    · cases e
  · cases e
def bSum : List D → Option D
  | [.lst xs] => (asInts xs).map fun ns => .int ns.sum
  | _ => none
theorem bu_sum (hc : X.calm = true) : BuD X c (.builtin "sum") bSum := by
  refine ⟨_, cr_sum hc, fun ds d e G H vs Q s r k => ?_⟩
  unfold bSum at e
  split at e
  · obtain ⟨ns, e1, rfl⟩ := Option.map_eq_some_iff.mp e
    obtain ⟨v, rfl, p, us, rfl, hp, hr⟩ := r.of1
    rw [asInts_rep e1 hr] at hp
    exact ⟨p, ns, rfl, SqL.of (s _ _ hp), k _ G H (.refl s) rfl⟩
  · cases e
def maxI : List Int → Int
  | [] => 0
  | [x] => x
  | x :: xs => max x (maxI xs)
def minI : List Int → Int
  | [] => 0
  | [x] => x
  | x :: xs => min x (minI xs)
theorem maxI_le : ∀ {ns : List Int} {y : Int}, y ∈ ns → y ≤ maxI ns
  | [x], y, h => by simp at h; subst h; exact Int.le_refl _
  | x :: z :: xs, y, h => by
    show y ≤ max x (maxI (z :: xs))
    rcases List.mem_cons.mp h with rfl | h
    · omega
    · have := maxI_le h; omega
theorem maxI_mem : ∀ {ns : List Int}, 0 < ns.length → maxI ns ∈ ns
  | [x], _ => by simp [maxI]
  | x :: z :: xs, _ => by
    have ih := maxI_mem (ns := z :: xs) (by simp)
    show max x (maxI (z :: xs)) ∈ x :: z :: xs
    by_cases h : x ≤ maxI (z :: xs)
    · rw [Int.max_eq_right h]; exact List.mem_cons_of_mem _ ih
    · rw [Int.max_eq_left (by omega)]; exact List.mem_cons_self
theorem minI_le : ∀ {ns : List Int} {y : Int}, y ∈ ns → minI ns ≤ y
  | [x], y, h => by simp at h; subst h; exact Int.le_refl _
  | x :: z :: xs, y, h => by
    show min x (minI (z :: xs)) ≤ y
    rcases List.mem_cons.mp h with rfl | h
    · omega
    · have := minI_le h; omega
theorem minI_mem : ∀ {ns : List Int}, 0 < ns.length → minI ns ∈ ns
  | [x], _ => by simp [minI]
  | x :: z :: xs, _ => by
    have ih := minI_mem (ns := z :: xs) (by simp)
    show min x (minI (z :: xs)) ∈ x :: z :: xs
    by_cases h : x ≤ minI (z :: xs)
    · rw [Int.min_eq_left h]; exact List.mem_cons_self
    · rw [Int.min_eq_right (by omega)]; exact List.mem_cons_of_mem _ ih
def bMax : List D → Option D
  | [.lst xs] => (asInts xs).bind fun ns => if 0 < ns.length then some (.int (maxI ns)) else none
  | [.int i, .int j] => some (.int (if j > i then j else i))
  | _ => none
theorem bu_max (hc : X.calm = true) : BuD X c (.builtin "max") bMax := by
  refine ⟨_, DL.CallR.or (cr_max hc) (call_max2 hc), fun ds d e G H vs Q s r k => ?_⟩
  unfold bMax at e
  split at e
  · obtain ⟨ns, e1, e⟩ := Option.bind_eq_some_iff.mp e
    split at e
    · rename_i hz
      cases e
      obtain ⟨v, rfl, p, us, rfl, hp, hr⟩ := r.of1
      rw [asInts_rep e1 hr] at hp
      refine .inl ⟨p, ns, rfl, SqL.of (s _ _ hp), hz, fun m hm hy => ?_⟩
      have e2 : m = maxI ns := Int.le_antisymm (maxI_le hm) (hy _ (maxI_mem hz))
      rw [e2]
      exact k _ G H (.refl s) rfl
    · cases e
  · cases e
    obtain ⟨v, u, rfl, h1, h2⟩ := r.of2
    cases h1; cases h2
    exact .inr ⟨_, _, rfl, k _ G H (.refl s) rfl⟩
  · cases e
def bMin : List D → Option D
  | [.lst xs] => (asInts xs).bind fun ns => if 0 < ns.length then some (.int (minI ns)) else none
  | [.int i, .int j] => some (.int (if j < i then j else i))
  | _ => none
theorem bu_min (hc : X.calm = true) : BuD X c (.builtin "min") bMin := by
  refine ⟨_, DL.CallR.or (cr_min hc) (call_min2 hc), fun ds d e G H vs Q s r k => ?_⟩
  unfold bMin at e
  split at e
  · obtain ⟨ns, e1, e⟩ := Option.bind_eq_some_iff.mp e
    split at e
    · rename_i hz
      cases e
      obtain ⟨v, rfl, p, us, rfl, hp, hr⟩ := r.of1
      rw [asInts_rep e1 hr] at hp
      refine .inl ⟨p, ns, rfl, SqL.of (s _ _ hp), hz, fun m hm hy => ?_⟩
      have e2 : m = minI ns := Int.le_antisymm (hy _ (minI_mem hz)) (minI_le hm)
      rw [e2]
      exact k _ G H (.refl s) rfl
    · cases e
  · cases e
    obtain ⟨v, u, rfl, h1, h2⟩ := r.of2
    cases h1; cases h2
    exact .inr ⟨_, _, rfl, k _ G H (.refl s) rfl⟩
  · cases e
def bAbs : List D → Option D
  | [.int i] => some (.int (if i < 0 then -i else i))
  | _ => none
theorem bu_abs : BuD X c (.builtin "abs") bAbs := by
  refine ⟨_, call_abs, fun ds d e G H vs Q s r k => ?_⟩
  unfold bAbs at e
  split at e
  · cases e
    obtain ⟨v, rfl, h1⟩ := r.of1
    cases h1
    exact ⟨_, rfl, k _ G H (.refl s) rfl⟩
  · cases e
def bDivmod : List D → Option D
  | [.int i, .int j] => if 0 < j ∧ j < 1073741824 then some (.tup [.int (i / j), .int (i % j)]) else none
  | _ => none
theorem bu_divmod : BuD X c (.builtin "divmod") bDivmod := by
  refine ⟨_, call_divmod, fun ds d e G H vs Q s r k => ?_⟩
  unfold bDivmod at e
  split at e
  · split at e
    · rename_i hz
      cases e
      obtain ⟨v, u, rfl, h1, h2⟩ := r.of2
      cases h1; cases h2
      exact ⟨_, _, rfl, hz, fun p hp => k _ _ _ (.new s hp True.intro) ⟨p, _, rfl, SqT.of put_same, ⟨_, _, rfl, rfl, ⟨_, _, rfl, rfl, rfl⟩⟩⟩⟩
    · cases e
  · cases e
def bList : List D → Option (List D)
  | [.lst xs] => some xs
  | [.tup xs] => some xs
  | _ => none
theorem bu_list : BuO X c (.type "list") bList := by
  refine ⟨_, call_list_of, fun ds d e G H vs Q s r k => ?_⟩
  unfold bList at e
  split at e
  · cases e
    obtain ⟨v, rfl, p, us, rfl, hp, hr⟩ := r.of1
    exact ⟨p, us, rfl, .inl (SqL.of (s _ _ hp)), fun l hl => k l us G _ (.add s hl True.intro) hl (s.none hl) upd_same hr⟩
  · cases e
    obtain ⟨v, rfl, p, us, rfl, hp, hr⟩ := r.of1
    exact ⟨p, us, rfl, .inr (DL.Same.sqt s.s hp), fun l hl => k l us G _ (.add s hl True.intro) hl (s.none hl) upd_same hr⟩
  · cases e
def bTuple : List D → Option D
  | [.lst xs] => some (.tup xs)
  | [.tup xs] => some (.tup xs)
  | _ => none
theorem bu_tuple : BuD X c (.type "tuple") bTuple := by
  refine ⟨_, call_tuple_of, fun ds d e G H vs Q s r k => ?_⟩
  unfold bTuple at e
  split at e
  · cases e
    obtain ⟨v, rfl, p, us, rfl, hp, hr⟩ := r.of1
    exact ⟨p, us, rfl, .inl ⟨SqL.of (s _ _ hp), fun l hl => k _ _ _ (.new s hl True.intro) ⟨l, us, rfl, SqT.of put_same, hr.mono (SameG.put (s.none hl))⟩⟩⟩
  · cases e
    obtain ⟨v, rfl, p, us, rfl, hp, hr⟩ := r.of1
    exact ⟨p, us, rfl, .inr ⟨DL.Same.sqt s.s hp, k _ G H (.refl s) ⟨p, us, rfl, hp, hr⟩⟩⟩
  · cases e
/-! list(range(..)) -/
def oRange (f g : DE) : DOw := fun ρ => match f ρ, g ρ with
  | some (.int i), some (.int j) => if -1000000 ≤ i ∧ i ≤ 1000000 ∧ -1000000 ≤ j ∧ j ≤ 1000000 then some ((List.range (j - i).toNat).map fun k : Nat => D.int (i + k)) else none
  | _, _ => none
theorem rep_rg {G : Gh} {i j : Int} : RepL K c G ((List.range (j - i).toNat).map fun k : Nat => D.int (i + k)) (rgV i j) := by
  unfold rgV
  have h := RepL0.ints (K := K) (c := c) (G := G) ((List.range (j - i).toNat).map fun k : Nat => i + (k : Int))
  rw [List.map_map, List.map_map] at h
  exact h
theorem o_listRange2 {f g : DE} {p p2 pos2 : Pos} (hc : X.calm = true) (hm : X.mg "list" = none) (hm2 : X.mg "range" = none) (ha : PE X a (tD X.K c f)) (hb : PE X b (tD X.K c g)) (hg : Gl X "list" := by rfl) (hg2 : Gl X "range" := by rfl)
    (na : starEach [a, b] X.env = (false, eval a X.env) :: starEach [b] X.env := by rfl) (nb : starEach [b] X.env = (false, eval b X.env) :: starEach [] X.env := by rfl) (hp : (backTo pos2 (starEach [b] X.env)).any (·.1) = false := by rfl)
    (nc : starEach [Expr.Call (.Name "range" p2) [a, b] [] pos2] X.env = (false, eval (Expr.Call (.Name "range" p2) [a, b] [] pos2) X.env) :: starEach [] X.env := by rfl) :
    PE X (.Call (.Name "list" p) [.Call (.Name "range" p2) [a, b] [] pos2] [] pos) (tDo X.K c (oRange f g)) :=
  (pe_listRg hc hg hm (prg_2 hg2 hm2 ha hb na nb hp) nc).imp fun σ H Q ⟨G, ρ, d, s, sl, e, k⟩ => by
    unfold oRange at e
    split at e
    · rename_i i j q1 q2
      split at e
      · rename_i hz
        cases e
        refine ⟨G, ρ, _, s, sl, q1, fun v G1 H1 g1 r1 => ⟨G1, ρ, _, g1.s, sl.step g1, q2, fun v2 G2 H2 g2 r2 => ⟨i, j, r1, r2, ⟨by omega, by omega, by omega, by omega, by omega⟩, fun q hq => ?_⟩⟩⟩
        exact k q _ G2 _ ((g1.trans g2).trans (.add g2.s hq True.intro)) ((g1.trans g2).d q hq) (g2.s.none hq) upd_same rep_rg
      · cases e
    · cases e
/-! texts -/
def bSplit (x y : D) : Option (List D) := match x, y with
  | .str z, .str w => if (w.length == 0) = false ∧ z.length ≤ 100000 then some ((Txt.split z w).map .str) else none
  | _, _ => none
def oOp (o : D → D → Option (List D)) (f g : DE) : DOw := fun ρ => (f ρ).bind fun x => (g ρ).bind fun y => o x y
theorem o_split {o : Expr} {f g : DE} {apos : Pos} (ho : PE X o (tD X.K c f)) (he : PE X e (tD X.K c g)) (hs : starEach [e] X.env = [(false, eval e X.env)] := by rfl) (hbase : attributeBase o "split" X.env (eval o X.env) = eval o X.env := by rfl) (hline : (apos.endLine == pos.line) = true := by rfl) :
    PE X (.Call (.Attribute o "split" apos) [e] [] pos) (tDo X.K c (oOp bSplit f g)) := (pe_split ho he hs hbase hline).imp fun σ H Q ⟨G, ρ, d, s, sl, e, k⟩ => by
  unfold oOp at e
  obtain ⟨x, ex, e⟩ := Option.bind_eq_some_iff.mp e
  obtain ⟨y, ey, e⟩ := Option.bind_eq_some_iff.mp e
  unfold bSplit at e
  split at e
  · rename_i z w _
    split at e
    · rename_i hz
      cases e
      refine ⟨G, ρ, _, s, sl, ex, fun v G1 H1 g1 r1 => ⟨⟨z, r1⟩, G1, ρ, _, g1.s, sl.step g1, ey, fun u G2 H2 g2 r2 => ?_⟩⟩
      cases r1; cases r2
      refine ⟨z, w, rfl, rfl, hz.1, ?_, fun p hp => k p _ G2 _ ((g1.trans g2).trans (.add g2.s hp True.intro)) ((g1.trans g2).d p hp) (g2.s.none hp) upd_same (RepL0.strs _)⟩
      have h1 := hz.2
      have h2 : (100000 + 2 : Nat) ≤ sizeLine := by decide
      omega
    · cases e
  · cases e
def bJoin (x y : D) : Option D := match x, y with
  | .str z, .lst ws => (asStrs ws).bind fun ys => if (ys.map (·.length)).sum + ys.length * z.length ≤ 100000 then some (.str (Txt.join z ys)) else none
  | _, _ => none
theorem d_join {o : Expr} {f g : DE} {apos : Pos} (ho : PE X o (tD X.K c f)) (he : PE X e (tD X.K c g)) (hs : starEach [e] X.env = [(false, eval e X.env)] := by rfl) (hbase : attributeBase o "join" X.env (eval o X.env) = eval o X.env := by rfl) (hline : (apos.endLine == pos.line) = true := by rfl) :
    PE X (.Call (.Attribute o "join" apos) [e] [] pos) (tD X.K c (dOp bJoin f g)) := (pe_join ho he hs hbase hline).imp fun σ H Q ⟨G, ρ, d, s, sl, e, k⟩ => by
  unfold dOp at e
  obtain ⟨x, ex, e⟩ := Option.bind_eq_some_iff.mp e
  obtain ⟨y, ey, e⟩ := Option.bind_eq_some_iff.mp e
  unfold bJoin at e
  split at e
  · rename_i z ws _
    obtain ⟨ys, e1, e⟩ := Option.bind_eq_some_iff.mp e
    split at e
    · rename_i hz
      cases e
      refine ⟨G, ρ, _, s, sl, ex, fun v G1 H1 g1 r1 => ⟨⟨z, r1⟩, G1, ρ, _, g1.s, sl.step g1, ey, fun u G2 H2 g2 r2 => ?_⟩⟩
      cases r1
      obtain ⟨p, vs, rfl, hp, hr⟩ := r2
      rw [asStrs_rep e1 hr] at hp
      exact ⟨z, p, ys, rfl, rfl, .inl (SqL.of (g2.s _ _ hp)), by omega, k _ G2 H2 (g1.trans g2) rfl⟩
    · cases e
  · cases e
end
end DL
set_option maxRecDepth 100000
namespace DL
open PySem L2
section
variable {X : Cx} {K : PySem.W.Frag} {c : Cf} {e a b : Expr} {es : List Expr} {pos : Pos}
/-! ### what is walked -/
structure WalkD (K : PySem.W.Frag) (c : Cf) (J : It) (G0 : Gh) (ds : List D) : Prop where
  go : ∀ i G H, i < ds.length → SameG G0 G → Sm c G H → J.go i H
  stop : ∀ G H, SameG G0 G → Sm c G H → J.stop ds.length H
  yld : ∀ i G H x H', i < ds.length → SameG G0 G → Sm c G H → J.yld i H x H' → ∃ G' d, Gr c G H G' H' ∧ ds[i]? = some d ∧ Rep K c G' d x
theorem WalkD.mono {J : It} {G0 G1 : Gh} {ds : List D} (w : WalkD K c J G0 ds) (s : SameG G0 G1) : WalkD K c J G1 ds :=
  ⟨fun i G H h s1 s2 => w.go i G H h (s.trans s1) s2, fun G H s1 s2 => w.stop G H (s.trans s1) s2, fun i G H x H' h s1 s2 y => w.yld i G H x H' h (s.trans s1) s2 y⟩
theorem walkD_list {p : Addr} {G : Gh} {ds : List D} {vs : List V} (h : SqL K G p vs) (r : RepL K c G ds vs) : WalkD K c (Itl K p) G ds where
  go := fun i G1 H1 hi s1 s2 => by
    obtain ⟨v, h1, _⟩ := r.get (d := ds[i]) (i := i) (by simp [hi])
    exact ⟨vs, v, s2.seq (s1.seq h), h1⟩
  stop := fun G1 H1 s1 s2 => ⟨vs, s2.seq (s1.seq h), by rw [r.length]; exact Nat.le_refl _⟩
  yld := fun i G1 H1 x H' hi s1 s2 ⟨e, y⟩ => by
    subst e
    obtain ⟨d, h1, h2⟩ := r.getV (y vs (s2.seq (s1.seq h)))
    exact ⟨G1, d, .refl s2, h1, h2.mono s1⟩
theorem walkD_tup {p : Addr} {G : Gh} {ds : List D} {vs : List V} (h : SqT K G p vs) (r : RepL K c G ds vs) : WalkD K c (Itt K p) G ds where
  go := fun i G1 H1 hi s1 s2 => by
    obtain ⟨v, h1, _⟩ := r.get (d := ds[i]) (i := i) (by simp [hi])
    exact ⟨vs, v, DL.Same.sqt s2.s (DL.Same.sqt s1 h), h1⟩
  stop := fun G1 H1 s1 s2 => ⟨vs, DL.Same.sqt s2.s (DL.Same.sqt s1 h), by rw [r.length]; exact Nat.le_refl _⟩
  yld := fun i G1 H1 x H' hi s1 s2 ⟨e, y⟩ => by
    subst e
    obtain ⟨d, h1, h2⟩ := r.getV (y vs (DL.Same.sqt s2.s (DL.Same.sqt s1 h)))
    exact ⟨G1, d, .refl s2, h1, h2.mono s1⟩
def signsD (z : Str) : List D := z.cps.toList.map fun k => .str ⟨#[k]⟩
theorem walkD_str {z : Str} {G : Gh} : WalkD K c (Its z) G (signsD z) where
  go := fun i G1 H1 hi s1 s2 => by
    have hi : i < z.cps.size := by simpa [signsD] using hi
    exact hi
  stop := fun G1 H1 s1 s2 => by
    show z.cps.size ≤ (signsD z).length
    simp [signsD]
  yld := fun i G1 H1 x H' hi s1 s2 ⟨e, k, h1, h2⟩ => by
    subst e; subst h2
    exact ⟨G1, .str ⟨#[k]⟩, .refl s2, by simp [signsD, h1], rfl⟩
def rngD (lo : Int) (n : Nat) : List D := (List.range n).map fun k : Nat => .int (lo + k)
theorem walkD_range {lo : Int} {n : Nat} {G : Gh} : WalkD K c (Itr lo n) G (rngD lo n) where
  go := fun i G1 H1 hi s1 s2 => by
    have hi : i < n := by simpa [rngD] using hi
    exact hi
  stop := fun G1 H1 s1 s2 => by
    show n ≤ (rngD lo n).length
    simp [rngD]
  yld := fun i G1 H1 x H' hi s1 s2 ⟨e, h1⟩ => by
    subst e; subst h1
    have hi : i < n := by simpa [rngD] using hi
    exact ⟨G1, .int (lo + i), .refl s2, by simp [rngD, hi], rfl⟩
def rngC (lo st : Int) (n : Nat) : List D := (List.range n).map fun k : Nat => .int (lo + k * st)
theorem walkD_rangeC {lo st : Int} {n : Nat} {G : Gh} : WalkD K c (Itc lo st n) G (rngC lo st n) where
  go := fun i G1 H1 hi s1 s2 => by
    have hi : i < n := by simpa [rngC] using hi
    exact hi
  stop := fun G1 H1 s1 s2 => by
    show n ≤ (rngC lo st n).length
    simp [rngC]
  yld := fun i G1 H1 x H' hi s1 s2 ⟨e, h1⟩ => by
    subst e; subst h1
    have hi : i < n := by simpa [rngC] using hi
    exact ⟨G1, .int (lo + i * st), .refl s2, by simp [rngC, hi], rfl⟩
theorem rep_pair {G : Gh} {d e : D} {x y : V} {T : Addr} (h1 : Rep K c G d x) (h2 : Rep K c G e y) (n : G T = none) : Rep K c (G.put T (.tup [x, y])) (.tup [d, e]) (.ref T) :=
  ⟨T, [x, y], rfl, SqT.of put_same, x, [y], rfl, h1.mono (SameG.put n), y, [], rfl, h2.mono (SameG.put n), rfl⟩
def enumD (ds : List D) : List D := (List.range ds.length).map fun k : Nat => .tup [.int k, ds.getD k .non]
theorem walkD_enum {p : Addr} {G : Gh} {ds : List D} {vs : List V} (h : SqL K G p vs) (r : RepL K c G ds vs) : WalkD K c (Ite K p) G (enumD ds) where
  go := fun i G1 H1 hi s1 s2 => by
    have hi : i < ds.length := by simpa [enumD] using hi
    obtain ⟨v, h1, _⟩ := r.get (d := ds[i]) (i := i) (by simp [hi])
    exact ⟨vs, v, s2.seq (s1.seq h), h1⟩
  stop := fun G1 H1 s1 s2 => ⟨vs, s2.seq (s1.seq h), by rw [r.length]; simp [enumD]⟩
  yld := fun i G1 H1 x H' hi s1 s2 ⟨T, y, e1, e2, e3, e4⟩ => by
    subst e1; subst e3
    have hi : i < ds.length := by simpa [enumD] using hi
    obtain ⟨d, h1, h2⟩ := r.getV (e4 vs (s2.seq (s1.seq h)))
    refine ⟨_, .tup [.int i, d], .new s2 e2 True.intro, ?_, rep_pair rfl (h2.mono s1) (s2.none e2)⟩
    rw [enumD, List.getElem?_map, List.getElem?_range hi]
    simp [List.getD, h1]
def zipD (ds es : List D) : List D := (ds.zip es).map fun q => .tup [q.1, q.2]
theorem walkD_zip {p q : Addr} {G : Gh} {ds es : List D} {vs us : List V} (h : SqL K G p vs) (r : RepL K c G ds vs) (h' : SqL K G q us) (r' : RepL K c G es us) : WalkD K c (Itz K p q) G (zipD ds es) where
  go := fun i G1 H1 hi s1 s2 => by
    have hi : i < ds.length ∧ i < es.length := by simp [zipD] at hi; omega
    obtain ⟨v, h1, _⟩ := r.get (d := ds[i]) (i := i) (by simp [hi.1])
    obtain ⟨u, h2, _⟩ := r'.get (d := es[i]) (i := i) (by simp [hi.2])
    exact ⟨vs, us, v, u, s2.seq (s1.seq h), s2.seq (s1.seq h'), h1, h2⟩
  stop := fun G1 H1 s1 s2 => ⟨vs, us, s2.seq (s1.seq h), s2.seq (s1.seq h'), by rw [r.length, r'.length]; simp [zipD]; omega⟩
  yld := fun i G1 H1 x H' hi s1 s2 ⟨T, y, z, e1, e2, e3, e4, e5⟩ => by
    subst e1; subst e3
    obtain ⟨d, h1, h2⟩ := r.getV (e4 vs (s2.seq (s1.seq h)))
    obtain ⟨d', h1', h2'⟩ := r'.getV (e5 us (s2.seq (s1.seq h')))
    refine ⟨_, .tup [d, d'], .new s2 e2 True.intro, ?_, rep_pair (h2.mono s1) (h2'.mono s1) (s2.none e2)⟩
    rw [zipD, List.getElem?_map, (List.getElem?_zip_eq_some (z := (d, d'))).mpr ⟨h1, h1'⟩]
    rfl
/-- an iterable: the data it gives, one after another -/
structure DPI (X : Cx) (c : Cf) (tg iter : Expr) (F : Sl → Option (List D)) : Prop where
  ex : ∃ wi, PI X tg iter wi ∧ ∀ σ H (R : It → Hp → Prop), (∃ G ρ ds, Sm c G H ∧ Slots X.K c G H ρ σ ∧ F ρ = some ds ∧ ∀ J G' H', Gr c G H G' H' → WalkD X.K c J G' ds → R J H') → wi σ H R
theorem PI.or {tg iter : Expr} {w1 w2 : TI} (h1 : PI X tg iter w1) (h2 : PI X tg iter w2) : PI X tg iter (fun σ H R => w1 σ H R ∨ w2 σ H R) :=
  ⟨fun pins s σ H R I q => q.elim (fun q => h1.run pins s σ H R I q) fun q => h2.run pins s σ H R I q⟩
def itE (f : DE) : Sl → Option (List D) := fun ρ => match f ρ with
  | some (.lst ds) => some ds
  | some (.tup ds) => some ds
  | some (.str z) => some (signsD z)
  | some (.scr ns) => some (ns.map .int)
  | _ => none
theorem it_e {tg : Expr} {f : DE} (h : PE X e (tD X.K c f)) : DPI X c tg e (itE f) := by
  refine ⟨_, DL.PI.or (pi_list h) (DL.PI.or (pi_tup h) (pi_str h)), fun σ H R ⟨G, ρ, ds, s, sl, e, k⟩ => ?_⟩
  unfold itE at e
  split at e
  · rename_i q
    cases e
    exact .inl ⟨G, ρ, _, s, sl, q, fun v G1 H1 g1 ⟨p, vs, e1, h1, r⟩ => ⟨p, e1, ⟨vs, SqL.of (g1.s _ _ h1)⟩, k _ G1 H1 g1 (walkD_list (SqL.of h1) r)⟩⟩
  · rename_i q
    cases e
    exact .inr (.inl ⟨G, ρ, _, s, sl, q, fun v G1 H1 g1 ⟨p, vs, e1, h1, r⟩ => ⟨p, e1, ⟨vs, DL.Same.sqt g1.s.s h1⟩, k _ G1 H1 g1 (walkD_tup h1 r)⟩⟩)
  · rename_i q
    cases e
    exact .inr (.inr ⟨G, ρ, _, s, sl, q, fun v G1 H1 g1 r => ⟨_, r, k _ G1 H1 g1 walkD_str⟩⟩)
  · rename_i ns q
    cases e
    exact .inl ⟨G, ρ, _, s, sl, q, fun v G1 H1 g1 ⟨p, e1, h1⟩ => ⟨p, e1, ⟨_, g1.s.seq h1⟩, k _ G1 H1 g1 (walkD_list h1 (RepL0.ints ns))⟩⟩
  · cases e
def itR1 (g : DA) : Sl → Option (List D) := fun ρ => match g ρ with
  | some [.int j] => if -4611686018427387904 ≤ j ∧ j < 4611686018427387904 then some (rngD 0 j.toNat) else none
  | _ => none
theorem it_r1 {tg : Expr} {g : DA} {p : Pos} (hm : X.mg "range" = none) (ha : PA X [a] (tDA X.K c g)) (hg : Gl X "range" := by rfl) (hs : starEach [a] X.env = [(false, eval a X.env)] := by rfl) : DPI X c tg (.Call (.Name "range" p) [a] [] pos) (itR1 g) := by
  refine ⟨_, pi_range1 hg hm ha hs, fun σ H R ⟨G, ρ, ds, s, sl, e, k⟩ => ?_⟩
  unfold itR1 at e
  split at e
  · rename_i j q
    split at e
    · rename_i hz
      cases e
      refine ⟨G, ρ, _, s, sl, q, fun vs G1 H1 g1 r => ?_⟩
      obtain ⟨v, rfl, h1⟩ := RepL0.of1 r
      cases h1
      exact ⟨j, rfl, by omega, by omega, k _ G1 H1 g1 walkD_range⟩
    · cases e
  · cases e
def itR2 (g : DA) : Sl → Option (List D) := fun ρ => match g ρ with
  | some [.int i, .int j] => if -4611686018427387904 ≤ i ∧ i < 4611686018427387904 ∧ -4611686018427387904 ≤ j ∧ j < 4611686018427387904 then some (rngD i (j - i).toNat) else none
  | _ => none
theorem it_r2 {tg : Expr} {g : DA} {p : Pos} (hm : X.mg "range" = none) (ha : PA X [a, b] (tDA X.K c g)) (hg : Gl X "range" := by rfl) (hs : starEach [a, b] X.env = [(false, eval a X.env), (false, eval b X.env)] := by rfl) (hs2 : starEach [b] X.env = [(false, eval b X.env)] := by rfl) :
    DPI X c tg (.Call (.Name "range" p) [a, b] [] pos) (itR2 g) := by
  refine ⟨_, pi_range2 hg hm ha hs hs2, fun σ H R ⟨G, ρ, ds, s, sl, e, k⟩ => ?_⟩
  unfold itR2 at e
  split at e
  · rename_i i j q
    split at e
    · rename_i hz
      cases e
      refine ⟨G, ρ, _, s, sl, q, fun vs G1 H1 g1 r => ?_⟩
      obtain ⟨v, u, rfl, h1, h2⟩ := RepL0.of2 r
      cases h1; cases h2
      exact ⟨i, j, rfl, ⟨by omega, by omega, by omega, by omega⟩, k _ G1 H1 g1 walkD_range⟩
    · cases e
  · cases e
def itEn (g : DA) : Sl → Option (List D) := fun ρ => match g ρ with
  | some [.lst ds] => some (enumD ds)
  | _ => none
theorem it_en {g : DA} {p tpos : Pos} {elts : List Expr} {kk : Nat} (hm : X.mg "enumerate" = none) (ha : PA X [a] (tDA X.K c g)) (hg : Gl X "enumerate" := by rfl) (hs : starEach [a] X.env = [(false, eval a X.env)] := by rfl) :
    DPI X c (.Tuple elts kk tpos) (.Call (.Name "enumerate" p) [a] [] pos) (itEn g) := by
  refine ⟨_, pi_enum hg hm ha hs, fun σ H R ⟨G, ρ, ds, s, sl, e, k⟩ => ?_⟩
  unfold itEn at e
  split at e
  · rename_i ds q
    cases e
    refine ⟨G, ρ, _, s, sl, q, fun vs G1 H1 g1 r => ?_⟩
    obtain ⟨v, rfl, p1, us, rfl, hp, hr⟩ := RepL0.of1 r
    exact ⟨p1, us, rfl, SqL.of (g1.s _ _ hp), k _ G1 H1 g1 (walkD_enum (SqL.of hp) hr)⟩
  · cases e
def itZip (g : DA) : Sl → Option (List D) := fun ρ => match g ρ with
  | some [.lst ds, .lst es] => some (zipD ds es)
  | _ => none
theorem it_zip {g : DA} {p tpos : Pos} {elts : List Expr} {kk : Nat} (hm : X.mg "zip" = none) (ha : PA X [a, b] (tDA X.K c g)) (hg : Gl X "zip" := by rfl) (hs : starEach [a, b] X.env = (false, eval a X.env) :: starEach [b] X.env := by rfl) (hpl : (backTo pos (starEach [b] X.env)).any (·.1) = false := by rfl) :
    DPI X c (.Tuple elts kk tpos) (.Call (.Name "zip" p) [a, b] [] pos) (itZip g) := by
  refine ⟨_, pi_zip hg hm ha hs hpl, fun σ H R ⟨G, ρ, ds, s, sl, e, k⟩ => ?_⟩
  unfold itZip at e
  split at e
  · rename_i ds es q
    cases e
    refine ⟨G, ρ, _, s, sl, q, fun vs G1 H1 g1 r => ?_⟩
    obtain ⟨v, u, rfl, ⟨p1, us, rfl, hp, hr⟩, p2, us2, rfl, hp2, hr2⟩ := RepL0.of2 r
    exact ⟨p1, p2, us, us2, rfl, SqL.of (g1.s _ _ hp), SqL.of (g1.s _ _ hp2), k _ G1 H1 g1 (walkD_zip (SqL.of hp) hr (SqL.of hp2) hr2)⟩
  · cases e
/-! ### targets: the slots that are set -/
abbrev TgD := D → Option (List (Nat × D))
def apD (ρ : Sl) : List (Nat × D) → Sl
  | [] => ρ
  | (i, d) :: l => apD (ρ.set i (.val d)) l
def apV (σ : St) : List (Nat × V) → St
  | [] => σ
  | (i, v) :: l => apV (σ.set i (some v)) l
def RepA (K : PySem.W.Frag) (c : Cf) (G : Gh) : List (Nat × D) → List (Nat × V) → Prop
  | [], vs => vs = []
  | (i, d) :: l, vs => ∃ v r, vs = (i, v) :: r ∧ Rep K c G d v ∧ RepA K c G l r
theorem Slots.ap {G : Gh} {H : Hp} : ∀ {l : List (Nat × D)} {vs : List (Nat × V)} {ρ : Sl} {σ : St}, Slots K c G H ρ σ → RepA K c G l vs → Slots K c G H (apD ρ l) (apV σ vs)
  | [], _, _, _, h, r => by cases r; exact h
  | (i, d) :: l, _, ρ, σ, h, r => by
    obtain ⟨v, r', rfl, h1, h2⟩ := r
    exact Slots.ap (ρ := ρ.set i (.val d)) (σ := σ.set i (some v)) (h.set h1) h2
/-- the lists of one's own behind: as they were -/
theorem own_ap {G : Gh} : ∀ {l : List (Nat × D)} {vs : List (Nat × V)} {ρ : Sl} {σ : St} {j : Nat} {ds : List D}, RepA K c G l vs → ρ.length = σ.length → (apD ρ l)[j]? = some (.own ds) → ρ[j]? = some (.own ds) ∧ (apV σ vs)[j]? = σ[j]?
  | [], _, _, _, _, _, r, _, e => by cases r; exact ⟨e, rfl⟩
  | (i, d) :: l, _, ρ, σ, j, ds, r, hl, e => by
    obtain ⟨v, r', rfl, h1, h2⟩ := r
    obtain ⟨e1, e2⟩ := own_ap (σ := σ.set i (some v)) h2 (by simp [hl]) e
    rcases set_eq e1 with ⟨_, _, z⟩ | ⟨hj, e1⟩
    · cases z
    · exact ⟨e1, by show (apV (σ.set i (some v)) r')[j]? = _; rw [e2, List.getElem?_set_ne hj]⟩
def tG (K : PySem.W.Frag) (c : Cf) (T : TgD) : TG := fun v σ H Q => ∃ G d l, Sm c G H ∧ Rep K c G d v ∧ T d = some l ∧ ∀ vs, RepA K c G l vs → Q (apV σ vs) H
theorem _root_.L2.PG.imp {tg : Expr} {t t' : TG} (h : PG X tg t) (i : ∀ v σ H Q, t' v σ H Q → t v σ H Q) : PG X tg t' := ⟨fun pins s σ H v u Q I r q => h.run pins s σ H v u Q I r (i v σ H Q q)⟩
theorem _root_.L2.PTs.imp {ifs : List Expr} {t t' : TT} (h : PTs X ifs t) (i : ∀ σ H Q, t' σ H Q → t σ H Q) : PTs X ifs t' := ⟨fun pins s σ H Q I q => h.run pins s σ H Q I (i σ H Q q)⟩
def tgN (i : Nat) : TgD := fun d => some [(i, d)]
theorem g_name {i : Nat} {x : Str} (hN : X.N.Nodup) (hi : X.N[i]? = some x := by rfl) (hx : Loc X.env.scope x := by first | exact Or.inl rfl | exact Or.inr rfl) (hf : X.fn x = true ∨ X.env.scope.names.lookup x = some .local := by first | exact .inl rfl | exact .inr rfl) : PG X (.Name x pos) (tG K c (tgN i)) :=
  (pg_name hN hi hx hf).imp fun v σ H Q ⟨G, d, l, s, r, e, k⟩ => by
    cases e
    exact k [(i, v)] ⟨v, [], rfl, r, rfl⟩
/-- the targets of a tuple -/
def tGs (is : List Nat) : TGs := fun vs σ H Q => vs.length = is.length ∧ Q (apV σ (is.zip vs)) H
theorem _root_.L2.PGs.imp {ts : List Expr} {t t' : TGs} (h : PGs X ts t) (i : ∀ v σ H Q, t' v σ H Q → t v σ H Q) : PGs X ts t' := ⟨fun pins s σ H v u Q I r q => h.run pins s σ H v u Q I r (i v σ H Q q)⟩
theorem gs_nil : PGs X [] (tGs []) := pgs_nil.imp fun v σ H Q ⟨e, k⟩ => by
  cases v with
  | nil => exact ⟨rfl, k⟩
  | cons _ _ => cases e
theorem gs_cons {i : Nat} {is : List Nat} {x : Str} {es : List Expr} (hN : X.N.Nodup) (h2 : PGs X es (tGs is)) (hi : X.N[i]? = some x := by rfl) (hx : Loc X.env.scope x := by first | exact Or.inl rfl | exact Or.inr rfl) (hf : X.fn x = true ∨ X.env.scope.names.lookup x = some .local := by first | exact .inl rfl | exact .inr rfl)
    (hs : (assignEach (.Name x pos :: es) X.env).map (·.2) = assign (.Name x pos) X.env :: (assignEach es X.env).map (·.2) := by rfl) : PGs X (.Name x pos :: es) (tGs (i :: is)) :=
  (pgs_cons (pg_name hN hi hx hf) h2 hs).imp fun vs σ H Q ⟨e, k⟩ => by
    cases vs with
    | nil => cases e
    | cons v r => exact ⟨v, r, rfl, by simpa using e, k⟩
def tgT (is : List Nat) : TgD := fun d => match d with | .tup ds => if ds.length = is.length then some (is.zip ds) else none | _ => none
theorem repA_zip {G : Gh} : ∀ {is : List Nat} {ds : List D} {vs : List V}, RepL K c G ds vs → RepA K c G (is.zip ds) (is.zip vs)
  | [], _, _, _ => rfl
  | _ :: _, [], _, h => by cases h; rfl
  | i :: is, d :: ds, _, h => by
    obtain ⟨v, r, rfl, h1, h2⟩ := h
    exact ⟨v, _, rfl, h1, repA_zip h2⟩
theorem g_tup {is : List Nat} {es : List Expr} {kk : Nat} (hc : X.calm = true) (h : PGs X es (tGs is)) (hn : (assignEach es X.env).length = is.length := by rfl) (hst : (assignEach es X.env).findIdx? (·.1) = none := by rfl) : PG X (.Tuple es kk pos) (tG X.K c (tgT is)) :=
  (pg_tup hc h hn hst).imp fun v σ H Q ⟨G, d, l, s, r, e, k⟩ => by
    unfold tgT at e
    split at e
    · split at e
      · rename_i hl
        cases e
        obtain ⟨p, vs, rfl, hp, hr⟩ := r
        exact ⟨p, vs, rfl, DL.Same.sqt s.s hp, by rw [hr.length, hl], by rw [hr.length, hl], k _ (repA_zip hr)⟩
      · cases e
    · cases e
/-! ### comprehensions -/
theorem wipe_get : ∀ (σ : St) (vs : List Nat) (j : Nat), (L2.wipe σ vs)[j]? = if j ∈ vs then σ[j]?.map (fun _ => (none : Option V)) else σ[j]?
  | σ, [], j => by simp [L2.wipe]
  | σ, v :: vs, j => by
    unfold L2.wipe
    by_cases h : v = j
    · subst h
      rw [if_pos (List.mem_cons_self)]
      by_cases hl : v < σ.length
      · rw [List.getElem?_set_self (by rw [wipe_length]; exact hl)]
        simp [hl]
      · rw [List.getElem?_eq_none (by simp [wipe_length]; omega), List.getElem?_eq_none (by omega)]
        rfl
    · rw [List.getElem?_set_ne h, wipe_get σ vs j]
      simp [Ne.symm h]
theorem wipe_set {σ : St} {vs : List Nat} {i : Nat} {o : Option V} (h : i ∈ vs) : L2.wipe (σ.set i o) vs = L2.wipe σ vs := by
  apply List.ext_getElem?
  intro j
  rw [wipe_get, wipe_get]
  by_cases hj : i = j
  · subst hj
    rw [if_pos h, if_pos h]
    by_cases hl : i < σ.length
    · rw [List.getElem?_set_self hl]; simp [hl]
    · rw [List.getElem?_eq_none (by simp; omega), List.getElem?_eq_none (by omega)]
  · rw [List.getElem?_set_ne hj]
theorem wipe_wipe {σ : St} {vs : List Nat} : L2.wipe (L2.wipe σ vs) vs = L2.wipe σ vs := by
  apply List.ext_getElem?
  intro j
  rw [wipe_get, wipe_get]
  by_cases hj : j ∈ vs
  · rw [if_pos hj, if_pos hj]
    cases σ[j]? <;> rfl
  · rw [if_neg hj]
theorem wipe_ap : ∀ {l : List (Nat × V)} {σ : St} {vs : List Nat}, (∀ q ∈ l, q.1 ∈ vs) → L2.wipe (apV σ l) vs = L2.wipe σ vs
  | [], _, _, _ => rfl
  | (i, v) :: l, σ, vs, h => by
    show L2.wipe (apV (σ.set i (some v)) l) vs = _
    rw [wipe_ap fun q hq => h q (List.mem_cons_of_mem _ hq), wipe_set (h (i, v) List.mem_cons_self)]
theorem repA_idx {G : Gh} {vs : List Nat} : ∀ {l : List (Nat × D)} {us : List (Nat × V)}, RepA K c G l us → (∀ q ∈ l, q.1 ∈ vs) → ∀ q ∈ us, q.1 ∈ vs
  | [], _, r, _ => by cases r; simp
  | (i, d) :: l, _, r, h => by
    obtain ⟨v, r', rfl, _, h2⟩ := r
    intro q hq
    rcases List.mem_cons.mp hq with rfl | hq
    · exact h (i, d) List.mem_cons_self
    · exact repA_idx h2 (fun q hq => h q (List.mem_cons_of_mem _ hq)) q hq
def tTrue : DB := fun _ => some true
theorem ts_nil : PTs X [] (tDT K c tTrue) := pts_nil.imp fun σ H Q ⟨G, ρ, b, s, sl, e, k⟩ => by
  cases e
  exact k G H (.refl s)
theorem ts_one {f : DB} (h : PT X e (tDT K c f)) : PTs X [e] (tDT K c f) := pts_one h
def lcD (T : TgD) (test : DB) (elt : DE) (ρ : Sl) : List D → Option (List D)
  | [] => some []
  | d :: ds => (T d).bind fun l => match test (apD ρ l) with
    | some true => (elt (apD ρ l)).bind fun y => (lcD T test elt ρ ds).map (y :: ·)
    | some false => lcD T test elt ρ ds
    | none => none
def oLc (it : Sl → Option (List D)) (T : TgD) (test : DB) (elt : DE) (vs : List Nat) : DOw := fun ρ => (it ρ).bind fun ds => if ds.length ≤ 100000 then lcD T test elt (wipeD ρ vs) ds else none
theorem oLc_step {tg iter : Expr} {it : Sl → Option (List D)} {T : TgD} {test : DB} {elt : DE} {vs : List Nat} {wi : TI} (hT : ∀ d l, T d = some l → ∀ q ∈ l, q.1 ∈ vs)
    (hw : ∀ σ H (R : It → Hp → Prop), (∃ G ρ ds, Sm c G H ∧ Slots K c G H ρ σ ∧ it ρ = some ds ∧ ∀ J G' H', Gr c G H G' H' → WalkD K c J G' ds → R J H') → wi σ H R) :
    ∀ σ H Q, tDo K c (oLc it T test elt vs) σ H Q → tLc wi (tG K c T) (tDT K c test) (tD K c elt) vs σ H Q := by
  rintro σ H Q ⟨G, ρ, all, s, sl, e, k⟩
  unfold oLc at e
  obtain ⟨ds, ed, e⟩ := Option.bind_eq_some_iff.mp e
  split at e
  case isFalse => cases e
  rename_i hsz
  refine hw σ H _ ⟨G, ρ, ds, s, sl, ed, fun J G1 H1 g1 w L hL => ?_⟩
  have sl1 := sl.step g1
  refine ⟨fun i m H' => m = ds.length - i ∧ i ≤ ds.length ∧ ∃ G' acc accD rest, Gr c G1 H1 G' H' ∧ G' L = none ∧ H' L = some (.lst acc) ∧ RepL K c G' accD acc ∧ accD.length ≤ i ∧ lcD T test elt (wipeD ρ vs) (ds.drop i) = some rest ∧ accD ++ rest = all,
    ⟨_, rfl, Nat.zero_le _, G1, [], [], all, .add g1.s hL True.intro, g1.s.none hL, upd_same, rfl, Nat.le_refl _, e, rfl⟩, ?_⟩
  rintro i m H' ⟨rfl, hi, G', acc, accD, rest, g2, nL, eL, rL, lL, el, ea⟩
  by_cases hlt : i < ds.length
  · refine .inr ⟨w.go i G' H' hlt g2.g g2.s, fun H'' => ∃ G' acc accD rest, Gr c G1 H1 G' H'' ∧ G' L = none ∧ H'' L = some (.lst acc) ∧ RepL K c G' accD acc ∧ accD.length ≤ i + 1 ∧ lcD T test elt (wipeD ρ vs) (ds.drop (i + 1)) = some rest ∧ accD ++ rest = all,
      fun H'' h => ⟨ds.length - (i + 1), by omega, rfl, hlt, h⟩, fun x H2 y => ?_⟩
    obtain ⟨G3, d, g3, hd, rd⟩ := w.yld i G' H' x H2 hlt g2.g g2.s y
    rw [List.drop_eq_getElem_cons hlt] at el
    have hd' : ds[i] = d := by rw [List.getElem?_eq_getElem hlt] at hd; exact Option.some.inj hd
    rw [hd'] at el
    unfold lcD at el
    obtain ⟨l, hl, el⟩ := Option.bind_eq_some_iff.mp el
    refine ⟨G3, d, l, g3.s, rd, hl, fun us ru => ?_⟩
    have slB : Slots K c G3 H2 (apD (wipeD ρ vs) l) (apV (L2.wipe σ vs) us) := ((sl1.step (g2.trans g3)).wipe vs).ap ru
    refine ⟨by rw [wipe_ap (repA_idx ru (hT d l hl)), wipe_wipe], ?_⟩
    split at el
    · rename_i et
      obtain ⟨yd, ey, el⟩ := Option.bind_eq_some_iff.mp el
      obtain ⟨rest', er, rfl⟩ := Option.map_eq_some_iff.mp el
      refine ⟨G3, _, true, g3.s, slB, et, fun G4 H4 g4 => iteT ?_⟩
      refine ⟨G4, _, yd, g4.s, slB.step g4, ey, fun yv G5 H5 g5 r5 => ?_⟩
      have g := ((g2.trans g3).trans g4).trans g5
      have gl := (g3.trans g4).trans g5
      have nL5 : G5 L = none := gl.f L _ eL nL
      have eL5 : H5 L = some (.lst acc) := gl.hl eL
      refine ⟨acc, eL5, ?_, G5, acc ++ [yv], accD ++ [yd], rest', ?_, nL5, upd_same, (rL.mono gl.g).append (.one r5), by simp; omega, er, by rw [← ea]; simp⟩
      · rw [rL.length]
        exact Nat.lt_of_lt_of_le (Nat.lt_of_le_of_lt lL (Nat.lt_of_lt_of_le hlt hsz)) (by decide)
      · exact g.chg hL nL5 eL5
    · rename_i et
      refine ⟨G3, _, false, g3.s, slB, et, fun G4 H4 g4 => iteF ?_⟩
      have gl := g3.trans g4
      exact ⟨G4, acc, accD, rest, g2.trans gl, gl.f L _ eL nL, gl.hl eL, rL.mono gl.g, by omega, el, ea⟩
    · cases el
  · have hn : i = ds.length := by omega
    subst hn
    refine .inl ⟨w.stop G' H' g2.g g2.s, ?_⟩
    rw [List.drop_length] at el
    cases el
    rw [List.append_nil] at ea
    subst ea
    exact k L acc G' H' (g1.trans g2) (g1.d L hL) nL eL rL
theorem o_lc {elt tg iter : Expr} {ifs : List Expr} {scope : Scope} {own : List (Str × Nat)} {it : Sl → Option (List D)} {T : TgD} {test : DB} {fe : DE} (hc : X.calm = true) (hN : X.N.Nodup) (hi : DPI X c tg iter it) (ok : BlkOk X.N X.env.scope scope own)
    (hT : ∀ d l, T d = some l → ∀ q ∈ l, q.1 ∈ own.map (·.2))
    (hg : ∀ (s : Shared) (H : Hp) (C : Addr) (cl : List (Str × Addr)) (fp : List Addr), PG (X.blk s H scope (compEnvC scope cl C X.env) fp) tg (tG X.K c T)) (ht : ∀ (s : Shared) (H : Hp) (C : Addr) (cl : List (Str × Addr)) (fp : List Addr), PTs (X.blk s H scope (compEnvC scope cl C X.env) fp) ifs (tDT X.K c test))
    (he : ∀ (s : Shared) (H : Hp) (C : Addr) (cl : List (Str × Addr)) (fp : List Addr), PE (X.blk s H scope (compEnvC scope cl C X.env) fp) elt (tD X.K c fe)) (hs : ∀ x, foldedSetIterable iter X.env x = pure x := by intro _; rfl) :
    PE X (.ListComp elt [⟨tg, iter, ifs, 0⟩] scope pos) (tDo X.K c (oLc it T test fe (own.map (·.2)))) := by
  obtain ⟨wi, h1, h2⟩ := hi.ex
  exact (pe_lc hc hN h1 ok hg ht he hs).imp (oLc_step (tg := tg) (iter := iter) hT h2)
theorem tgN_in {i : Nat} {vs : List Nat} (h : i ∈ vs) : ∀ d l, tgN i d = some l → ∀ q ∈ l, q.1 ∈ vs := by
  intro d l e q hq
  cases e
  rcases List.mem_cons.mp hq with rfl | hq
  · exact h
  · cases hq
theorem tgT_in {is : List Nat} {vs : List Nat} (h : ∀ i ∈ is, i ∈ vs) : ∀ d l, tgT is d = some l → ∀ q ∈ l, q.1 ∈ vs := by
  intro d l e q hq
  unfold tgT at e
  split at e
  · split at e
    · cases e
      exact h _ (List.of_mem_zip hq).1
    · cases e
  · cases e
end
end DL
set_option maxRecDepth 100000
namespace DL
open PySem L2
section
variable {X : Cx} {K : PySem.W.Frag} {c : Cf} {e a b : Expr} {es : List Expr} {pos : Pos} {st : Stmt} {sts : List Stmt}
/-! ### statements -/
inductive Out where
  | nx (ρ : Sl) | rt (d : D) | ro (ds : List D) | bk (ρ : Sl) | ct (ρ : Sl)
abbrev DS := Sl → Option Out
structure StG (K : PySem.W.Frag) (c : Cf) (G0 : Gh) (H0 : Hp) (G : Gh) (H : Hp) (ρ : Sl) (σ : St) : Prop where
  gr : Gr c G0 H0 G H
  sl : Slots K c G H ρ σ
  nw : ∀ (i : Nat) (ds : List D) (p : Addr), ρ[i]? = some (.own ds) → σ[i]? = some (some (.ref p)) → H0 p = none
def StOk (K : PySem.W.Frag) (c : Cf) (G0 : Gh) (H0 : Hp) (ρ : Sl) (σ : St) (H : Hp) : Prop := ∃ G, StG K c G0 H0 G H ρ σ
def OutK (K : PySem.W.Frag) (c : Cf) (G0 : Gh) (H0 : Hp) (E : Ends) : Out → Prop
  | .nx ρ => ∀ σ H, StOk K c G0 H0 ρ σ H → E.nx σ H
  | .rt d => ∀ v G H, Gr c G0 H0 G H → Rep K c G d v → E.rt v H
  | .ro ds => ∀ p vs G H, Gr c G0 H0 G H → H0 p = none → G p = none → H p = some (.lst vs) → RepL K c G ds vs → E.rt (.ref p) H
  | .bk ρ => ∀ σ H, StOk K c G0 H0 ρ σ H → E.bk σ H
  | .ct ρ => ∀ σ H, StOk K c G0 H0 ρ σ H → E.ct σ H
def tS (K : PySem.W.Frag) (c : Cf) (F : DS) : TS := fun E σ H => ∃ G0 H0 ρ o, StOk K c G0 H0 ρ σ H ∧ F ρ = some o ∧ OutK K c G0 H0 E o
theorem StG.step {G0 G G' : Gh} {H0 H H' : Hp} {ρ : Sl} {σ : St} (h : StG K c G0 H0 G H ρ σ) (g : Gr c G H G' H') : StG K c G0 H0 G' H' ρ σ := ⟨h.gr.trans g, h.sl.step g, h.nw⟩
theorem StG.ap {G0 G : Gh} {H0 H : Hp} {ρ : Sl} {σ : St} {l : List (Nat × D)} {vs : List (Nat × V)} (h : StG K c G0 H0 G H ρ σ) (r : RepA K c G l vs) : StG K c G0 H0 G H (apD ρ l) (apV σ vs) :=
  ⟨h.gr, h.sl.ap r, fun i ds p e1 e2 => by
    obtain ⟨q1, q2⟩ := own_ap (σ := σ) r h.sl.len e1
    rw [q2] at e2
    exact h.nw i ds p q1 e2⟩
/-- a new list of one's own in slot i -/
theorem Slots.setOwn {G G' : Gh} {H H' : Hp} {ρ : Sl} {σ : St} {i : Nat} {ds : List D} {vs : List V} {p : Addr} (h : Slots K c G H ρ σ) (g : Gr c G H G' H') (n : H p = none) (m : G' p = none) (e : H' p = some (.lst vs)) (r : RepL K c G' ds vs) :
    Slots K c G' H' (ρ.set i (.own ds)) (σ.set i (some (.ref p))) := by
  have h' := h.step g
  have np : ∀ (j : Nat) (es : List D), ρ[j]? = some (.own es) → σ[j]? ≠ some (some (.ref p)) := fun j es e1 e2 => by
    obtain ⟨q, us, a1, a2, a3, a4⟩ := h.own j es e1
    rw [a1] at e2
    cases e2
    rw [n] at a3
    cases a3
  refine ⟨by simp [h.len], fun j x q => ?_, fun j x q => ?_, fun j k x y q e1 e2 e3 e4 => ?_⟩
  · rcases set_eq q with ⟨rfl, hi, z⟩ | ⟨hj, q⟩
    · cases z
    · rw [List.getElem?_set_ne hj]
      exact h'.val j x q
  · rcases set_eq q with ⟨rfl, hi, z⟩ | ⟨hj, q⟩
    · cases z
      exact ⟨p, vs, List.getElem?_set_self (by rw [← h.len]; exact hi), m, e, r⟩
    · rw [List.getElem?_set_ne hj]
      exact h'.own j x q
  · rcases set_eq e1 with ⟨rfl, hi, z⟩ | ⟨hj, e1⟩
    · rcases set_eq e2 with ⟨rfl, _, _⟩ | ⟨hk, e2⟩
      · rfl
      · rw [List.getElem?_set_self (by rw [← h.len]; exact hi)] at e3
        cases e3
        rw [List.getElem?_set_ne hk] at e4
        exact absurd e4 (np k y e2)
    · rcases set_eq e2 with ⟨rfl, hi, z⟩ | ⟨hk, e2⟩
      · rw [List.getElem?_set_self (by rw [← h.len]; exact hi)] at e4
        cases e4
        rw [List.getElem?_set_ne hj] at e3
        exact absurd e3 (np j x e1)
      · rw [List.getElem?_set_ne hj] at e3
        rw [List.getElem?_set_ne hk] at e4
        exact h'.dis j k x y q e1 e2 e3 e4
theorem StG.setOwn {G0 G G' : Gh} {H0 H H' : Hp} {ρ : Sl} {σ : St} {i : Nat} {ds : List D} {vs : List V} {p : Addr} (h : StG K c G0 H0 G H ρ σ) (g : Gr c G H G' H') (n : H p = none) (m : G' p = none) (e : H' p = some (.lst vs)) (r : RepL K c G' ds vs) :
    StG K c G0 H0 G' H' (ρ.set i (.own ds)) (σ.set i (some (.ref p))) := by
  refine ⟨h.gr.trans g, h.sl.setOwn g n m e r, fun j es q e1 e2 => ?_⟩
  rcases set_eq e1 with ⟨rfl, hi, z⟩ | ⟨hj, e1⟩
  · rw [List.getElem?_set_self (by rw [← h.sl.len]; exact hi)] at e2
    cases e2
    exact h.gr.d p n
  · rw [List.getElem?_set_ne hj] at e2
    exact h.nw j es q e1 e2
/-- the list of slot i has changed -/
theorem StG.upd {G0 G : Gh} {H0 H : Hp} {ρ : Sl} {σ : St} {i : Nat} {ds ds' : List D} {vs' : List V} {p : Addr} (h : StG K c G0 H0 G H ρ σ) (e : ρ[i]? = some (.own ds)) (e2 : σ[i]? = some (some (.ref p))) (r : RepL K c G ds' vs') :
    StG K c G0 H0 G (upd H p (.lst vs')) (ρ.set i (.own ds')) σ := by
  obtain ⟨q, us, a1, a2, a3, a4⟩ := h.sl.own i ds e
  rw [e2] at a1
  cases a1
  have hn := h.nw i ds p e e2
  have other : ∀ (j : Nat) (es : List D) (q : Addr), j ≠ i → ρ[j]? = some (.own es) → σ[j]? = some (some (.ref q)) → q ≠ p := fun j es q hj h1 h2 z => by
    subst z
    exact hj (h.sl.dis j i es ds q h1 e h2 e2)
  refine ⟨h.gr.chg hn a2 a3, ⟨by simp [h.sl.len], fun j x q => ?_, fun j x q => ?_, fun j k x y q e3 e4 e5 e6 => ?_⟩, fun j x q e3 e4 => ?_⟩
  · rcases set_eq q with ⟨rfl, _, z⟩ | ⟨hj, q⟩
    · cases z
    · exact h.sl.val j x q
  · rcases set_eq q with ⟨rfl, hi, z⟩ | ⟨hj, q⟩
    · cases z
      exact ⟨p, vs', e2, a2, upd_same, r⟩
    · obtain ⟨q', us', b1, b2, b3, b4⟩ := h.sl.own j x q
      exact ⟨q', us', b1, b2, by rw [upd_ne (other j x q' (Ne.symm hj) q b1)]; exact b3, b4⟩
  · have o1 : ∃ x', ρ[j]? = some (.own x') := by
      rcases set_eq e3 with ⟨rfl, _, _⟩ | ⟨_, e3⟩
      · exact ⟨ds, e⟩
      · exact ⟨x, e3⟩
    have o2 : ∃ x', ρ[k]? = some (.own x') := by
      rcases set_eq e4 with ⟨rfl, _, _⟩ | ⟨_, e4⟩
      · exact ⟨ds, e⟩
      · exact ⟨y, e4⟩
    obtain ⟨x1, o1⟩ := o1
    obtain ⟨x2, o2⟩ := o2
    exact h.sl.dis j k x1 x2 q o1 o2 e5 e6
  · rcases set_eq e3 with ⟨rfl, _, _⟩ | ⟨_, e3⟩
    · exact h.nw _ ds q e e4
    · exact h.nw j x q e3 e4
/-- a list of one's own is told as a value from now on -/
theorem StG.frz {G0 G : Gh} {H0 H : Hp} {ρ : Sl} {σ : St} {i : Nat} {ds : List D} (h : StG K c G0 H0 G H ρ σ) (e : ρ[i]? = some (.own ds)) : ∃ G', StG K c G0 H0 G' H (ρ.set i (.val (.lst ds))) σ := by
  obtain ⟨p, vs, a1, a2, a3, a4⟩ := h.sl.own i ds e
  have hn := h.nw i ds p e a1
  have sm : SameG G (G.put p (.lst vs)) := SameG.put a2
  refine ⟨G.put p (.lst vs), h.gr.take hn a2 a3, ⟨by simp [h.sl.len], fun j x q => ?_, fun j x q => ?_, fun j k x y q e3 e4 e5 e6 => ?_⟩, fun j x q e3 e4 => ?_⟩
  · rcases set_eq q with ⟨rfl, _, z⟩ | ⟨hj, q⟩
    · cases z
      exact ⟨.ref p, a1, p, vs, rfl, put_same, a4.mono sm⟩
    · obtain ⟨v, b1, b2⟩ := h.sl.val j x q
      exact ⟨v, b1, b2.mono sm⟩
  · rcases set_eq q with ⟨rfl, _, z⟩ | ⟨hj, q⟩
    · cases z
    · obtain ⟨q', us', b1, b2, b3, b4⟩ := h.sl.own j x q
      refine ⟨q', us', b1, ?_, b3, b4.mono sm⟩
      show (L2.upd G.h p (.lst vs)) q' = none
      rw [upd_ne ?_]
      · exact b2
      · intro z
        subst z
        exact hj (h.sl.dis i j ds x q' e q a1 b1)
  · rcases set_eq e3 with ⟨rfl, _, z⟩ | ⟨_, e3⟩
    · cases z
    · rcases set_eq e4 with ⟨rfl, _, z⟩ | ⟨_, e4⟩
      · cases z
      · exact h.sl.dis j k x y q e3 e4 e5 e6
  · rcases set_eq e3 with ⟨rfl, _, z⟩ | ⟨_, e3⟩
    · cases z
    · exact h.nw j x q e3 e4
def frzD (i : Nat) (ρ : Sl) : Sl := match ρ[i]? with | some (.own ds) => ρ.set i (.val (.lst ds)) | _ => ρ
def sFrz (i : Nat) (F : DS) : DS := fun ρ => F (frzD i ρ)
theorem sFrz_step {i : Nat} {F : DS} : ∀ E σ H, tS K c (sFrz i F) E σ H → tS K c F E σ H := by
  rintro E σ H ⟨G0, H0, ρ, o, ⟨G, h⟩, e, k⟩
  unfold sFrz frzD at e
  split at e
  · rename_i ds q
    exact ⟨G0, H0, _, o, h.frz q, e, k⟩
  · exact ⟨G0, H0, ρ, o, ⟨G, h⟩, e, k⟩
theorem ss_frz (i : Nat) {F : DS} (h : PSs X sts (tS K c F)) : PSs X sts (tS K c (sFrz i F)) := h.imp sFrz_step
/-! reading lists of one's own -/
def dOwnIx (i : Nat) (g : DE) : DE := fun ρ => match ρ[i]?, g ρ with
  | some (.own ds), some (.int k) => L2.atI ds k
  | _, _ => none
theorem tVar_own {i : Nat} {σ : St} {H : Hp} {Q : VK} {v : V} (h : σ[i]? = some (some v)) (q : Q v H) : tVar i σ H Q := ⟨v, h, q⟩
theorem d_ownIx (i : Nat) {x : Str} {g : DE} {p1 : Pos} (hb : PE X b (tD X.K c g)) (hN : X.N[i]? = some x := by rfl) (hv : Vis X.env.scope x := by first | exact Or.inl rfl | exact Or.inr (Or.inl rfl) | exact Or.inr (Or.inr rfl)) (hs : PlainIx b := by exact fun _ _ => rfl)
    (hd : (x == ("__debug__" : Str)) = false := by decide) (hcd : (x == ("__classdict__" : Str)) = false := by decide) : PE X (.Subscript (.Name x p1) b pos) (tD X.K c (dOwnIx i g)) :=
  (pe_ix ix_list (pe_var hN hv hd hcd) hb hs).imp fun σ H Q ⟨G, ρ, d, s, sl, e, k⟩ => by
    unfold dOwnIx at e
    split at e
    · rename_i ds n q1 q2
      obtain ⟨p, vs, a1, a2, a3, a4⟩ := sl.own i ds q1
      refine ⟨_, a1, G, ρ, _, s, sl, q2, fun w G1 H1 g1 r1 => ?_⟩
      cases r1
      obtain ⟨v, h1, h2⟩ := a4.atI e
      exact ⟨p, vs, n, v, rfl, rfl, SqL.of (g1.hl a3), h1, k v G1 H1 g1 (h2.mono g1.g)⟩
    · cases e
def dOwnLen (i : Nat) : DE := fun ρ => match ρ[i]? with
  | some (.own ds) => some (.int ds.length)
  | _ => none
theorem d_ownLen (i : Nat) {x : Str} {p1 p2 : Pos} (hm : X.mg "len" = none) (hN : X.N[i]? = some x := by rfl) (hv : Vis X.env.scope x := by first | exact Or.inl rfl | exact Or.inr (Or.inl rfl) | exact Or.inr (Or.inr rfl)) (hg : Gl X "len" := by rfl)
    (hd : (x == ("__debug__" : Str)) = false := by decide) (hcd : (x == ("__classdict__" : Str)) = false := by decide) (he : starEach [Expr.Name x p1] X.env = (false, eval (.Name x p1) X.env) :: starEach [] X.env := by rfl) : PE X (.Call (.Name "len" p2) [.Name x p1] [] pos) (tD X.K c (dOwnLen i)) :=
  (pe_callB call_len_seq hg hm (by decide +kernel) (pa_cons (pe_var hN hv hd hcd) pa_nil he)).imp fun σ H Q ⟨G, ρ, d, s, sl, e, k⟩ => by
    unfold dOwnLen at e
    split at e
    · rename_i ds q1
      cases e
      obtain ⟨p, vs, a1, a2, a3, a4⟩ := sl.own i ds q1
      exact ⟨_, a1, p, vs, rfl, .inl (SqL.of a3), k _ G H (.refl s) (by rw [a4.length]; rfl)⟩
    · cases e
/-! blocks -/
def sNil : DS := fun ρ => some (.nx ρ)
def sSeq (F G : DS) : DS := fun ρ => match F ρ with
  | some (.nx ρ') => G ρ'
  | r => r
theorem ss_nil : PSs X [] (tS K c sNil) := pss_nil.imp fun E σ H ⟨G0, H0, ρ, o, h, e, k⟩ => by
  cases e
  exact k σ H h
theorem ss_cons {F G : DS} (h1 : PS X st (tS K c F)) (h2 : PSs X sts (tS K c G)) : PSs X (st :: sts) (tS K c (sSeq F G)) := (pss_cons h1 h2).imp fun E σ H ⟨G0, H0, ρ, o, h, e, k⟩ => by
  unfold sSeq at e
  split at e
  · rename_i ρ' q
    exact ⟨G0, H0, ρ, _, h, q, fun σ' H' h' => ⟨G0, H0, ρ', o, h', e, k⟩⟩
  · rename_i r
    refine ⟨G0, H0, ρ, o, h, e, ?_⟩
    cases o with
    | nx ρ' => exact (r ρ' e).elim
    | rt d => exact k
    | ro d => exact k
    | bk ρ' => exact k
    | ct ρ' => exact k
theorem ss_one {F : DS} (h1 : PS X st (tS K c F)) : PSs X [st] (tS K c F) := pss_one h1
def sBreak : DS := fun ρ => some (.bk ρ)
def sCont : DS := fun ρ => some (.ct ρ)
theorem s_pass : PS X (.Pass pos) (tS K c sNil) := ps_pass.imp fun E σ H ⟨G0, H0, ρ, o, h, e, k⟩ => by cases e; exact k σ H h
theorem s_break : PS X (.Break pos) (tS K c sBreak) := ps_break.imp fun E σ H ⟨G0, H0, ρ, o, h, e, k⟩ => by cases e; exact k σ H h
theorem s_cont : PS X (.Continue pos) (tS K c sCont) := ps_continue.imp fun E σ H ⟨G0, H0, ρ, o, h, e, k⟩ => by cases e; exact k σ H h
def sNever : DS := fun _ => none
theorem s_never : PS X st (tS K c sNever) := ps_never.imp fun E σ H ⟨_, _, _, _, _, e, _⟩ => by cases e
theorem ss_never : PSs X sts (tS K c sNever) := pss_never.imp fun E σ H ⟨_, _, _, _, _, e, _⟩ => by cases e
/-! stores -/
def sAsg (f : DE) (T : TgD) : DS := fun ρ => (f ρ).bind fun d => (T d).map fun l => .nx (apD ρ l)
theorem sAsg_step {f : DE} {T : TgD} : ∀ E σ H, tS K c (sAsg f T) E σ H → tAsg (tD K c f) (tG K c T) E σ H := by
  rintro E σ H ⟨G0, H0, ρ, o, ⟨G, h⟩, e, k⟩
  unfold sAsg at e
  obtain ⟨d, ed, e⟩ := Option.bind_eq_some_iff.mp e
  obtain ⟨l, el, rfl⟩ := Option.map_eq_some_iff.mp e
  exact ⟨G, ρ, d, h.gr.s, h.sl, ed, fun v G1 H1 g1 r1 => ⟨G1, d, l, g1.s, r1, el, fun vs rv => k _ _ ⟨G1, (h.step g1).ap rv⟩⟩⟩
theorem s_asg {tg : Expr} {f : DE} {T : TgD} (he : PE X e (tD K c f)) (hg : PG X tg (tG K c T)) (hs : swapsWithSole [tg] e pos.line X.env = pure false := by rfl) (hw : swappedStores [tg] e X.env = pure none := by rfl)
    (h1 : (assignEach [tg] X.env).map (·.2) = [assign tg X.env] := by rfl) : PS X (.Assign [tg] e pos) (tS K c (sAsg f T)) := (ps_asg he hg hs hw h1).imp sAsg_step
theorem s_set {i : Nat} {x : Str} {f : DE} {pos' : Pos} (hN : X.N.Nodup) (he : PE X e (tD K c f)) (hi : X.N[i]? = some x := by rfl) (hx : Loc X.env.scope x := by first | exact Or.inl rfl | exact Or.inr rfl) (hs : swapsWith e (some (.Name x pos')) pos.line X.env = pure false := by rfl)
    (hf : X.fn x = true ∨ X.env.scope.names.lookup x = some .local := by first | exact .inl rfl | exact .inr rfl) : PS X (.Assign [.Name x pos'] e pos) (tS K c (sAsg f (tgN i))) := (ps_set hN hi hx he hs hf).imp fun E σ H ⟨G0, H0, ρ, o, ⟨G, h⟩, e, k⟩ => by
  unfold sAsg at e
  obtain ⟨d, ed, e⟩ := Option.bind_eq_some_iff.mp e
  obtain ⟨l, el, rfl⟩ := Option.map_eq_some_iff.mp e
  cases el
  exact ⟨G, ρ, d, h.gr.s, h.sl, ed, fun v G1 H1 g1 r1 => k _ _ ⟨G1, (h.step g1).ap (l := [(i, d)]) (vs := [(i, v)]) ⟨v, [], rfl, r1, rfl⟩⟩⟩
/-- x = [..] on one line, x a local -/
theorem s_setLc {i : Nat} {y : Str} {py : Pos} {elt tg iter : Expr} {ifs : List Expr} {scope : Scope} {own : List (Str × Nat)} {spos : Pos} {it : Sl → Option (List D)} {T : TgD} {test : DB} {fe : DE} (hc : X.calm = true) (hN : X.N.Nodup) (hi : DPI X c tg iter it) (ok : BlkOk X.N X.env.scope scope own)
    (hT : ∀ d l, T d = some l → ∀ q ∈ l, q.1 ∈ own.map (·.2))
    (hg : ∀ (s : Shared) (H : Hp) (C : Addr) (cl : List (Str × Addr)) (fp : List Addr), PG (X.blk s H scope (compEnvC scope cl C X.env) fp) tg (tG X.K c T)) (ht : ∀ (s : Shared) (H : Hp) (C : Addr) (cl : List (Str × Addr)) (fp : List Addr), PTs (X.blk s H scope (compEnvC scope cl C X.env) fp) ifs (tDT X.K c test))
    (he : ∀ (s : Shared) (H : Hp) (C : Addr) (cl : List (Str × Addr)) (fp : List Addr), PE (X.blk s H scope (compEnvC scope cl C X.env) fp) elt (tD X.K c fe)) (hy : X.N[i]? = some y := by rfl) (hyl : X.env.scope.names.lookup y = some .local := by rfl)
    (hsw : swapsWith (.ListComp elt [⟨tg, iter, ifs, 0⟩] scope pos) (some (.Name y py)) spos.line X.env = pure true := by exact sw_true rfl rfl rfl (by decide +kernel)) (hs : ∀ x, foldedSetIterable iter X.env x = pure x := by intro _; rfl) :
    PS X (.Assign [.Name y py] (.ListComp elt [⟨tg, iter, ifs, 0⟩] scope pos) spos) (tS X.K c (sAsg (dO (oLc it T test fe (own.map (·.2)))) (tgN i))) := by
  obtain ⟨wi, h1, h2⟩ := hi.ex
  refine (ps_setLc hc hN hy hyl hsw h1 ok hg ht he hs).imp fun E σ H ⟨G0, H0, ρ, o, ⟨G, h⟩, e, k⟩ => ?_
  unfold sAsg dO at e
  obtain ⟨d, ed, e⟩ := Option.bind_eq_some_iff.mp e
  obtain ⟨l, el, rfl⟩ := Option.map_eq_some_iff.mp e
  cases el
  obtain ⟨ds, eo, rfl⟩ := Option.map_eq_some_iff.mp ed
  refine oLc_step (tg := tg) (iter := iter) hT h2 σ H _ ⟨G, ρ, ds, h.gr.s, h.sl, eo, fun p vs G' H' g n m q r => ?_⟩
  exact k _ _ ⟨_, (h.step (g.take n m q)).ap (l := [(i, .lst ds)]) (vs := [(i, .ref p)]) ⟨_, [], rfl, ⟨p, vs, rfl, put_same, r.mono (SameG.put m)⟩, rfl⟩⟩
def sAsgO (f : DOw) (i : Nat) : DS := fun ρ => (f ρ).map fun ds => .nx (ρ.set i (.own ds))
theorem s_setO {i : Nat} {x : Str} {f : DOw} {pos' : Pos} (hN : X.N.Nodup) (he : PE X e (tDo K c f)) (hi : X.N[i]? = some x := by rfl) (hx : Loc X.env.scope x := by first | exact Or.inl rfl | exact Or.inr rfl) (hs : swapsWith e (some (.Name x pos')) pos.line X.env = pure false := by rfl)
    (hf : X.fn x = true ∨ X.env.scope.names.lookup x = some .local := by first | exact .inl rfl | exact .inr rfl) : PS X (.Assign [.Name x pos'] e pos) (tS K c (sAsgO f i)) := (ps_set hN hi hx he hs hf).imp fun E σ H ⟨G0, H0, ρ, o, ⟨G, h⟩, e, k⟩ => by
  unfold sAsgO at e
  obtain ⟨ds, ed, rfl⟩ := Option.map_eq_some_iff.mp e
  exact ⟨G, ρ, ds, h.gr.s, h.sl, ed, fun p vs G' H' g n m q r => k _ _ ⟨G', h.setOwn g n m q r⟩⟩
theorem s_setLcO {i : Nat} {y : Str} {py : Pos} {elt tg iter : Expr} {ifs : List Expr} {scope : Scope} {own : List (Str × Nat)} {spos : Pos} {it : Sl → Option (List D)} {T : TgD} {test : DB} {fe : DE} (hc : X.calm = true) (hN : X.N.Nodup) (hi : DPI X c tg iter it) (ok : BlkOk X.N X.env.scope scope own)
    (hT : ∀ d l, T d = some l → ∀ q ∈ l, q.1 ∈ own.map (·.2))
    (hg : ∀ (s : Shared) (H : Hp) (C : Addr) (cl : List (Str × Addr)) (fp : List Addr), PG (X.blk s H scope (compEnvC scope cl C X.env) fp) tg (tG X.K c T)) (ht : ∀ (s : Shared) (H : Hp) (C : Addr) (cl : List (Str × Addr)) (fp : List Addr), PTs (X.blk s H scope (compEnvC scope cl C X.env) fp) ifs (tDT X.K c test))
    (he : ∀ (s : Shared) (H : Hp) (C : Addr) (cl : List (Str × Addr)) (fp : List Addr), PE (X.blk s H scope (compEnvC scope cl C X.env) fp) elt (tD X.K c fe)) (hy : X.N[i]? = some y := by rfl) (hyl : X.env.scope.names.lookup y = some .local := by rfl)
    (hsw : swapsWith (.ListComp elt [⟨tg, iter, ifs, 0⟩] scope pos) (some (.Name y py)) spos.line X.env = pure true := by exact sw_true rfl rfl rfl (by decide +kernel)) (hs : ∀ x, foldedSetIterable iter X.env x = pure x := by intro _; rfl) :
    PS X (.Assign [.Name y py] (.ListComp elt [⟨tg, iter, ifs, 0⟩] scope pos) spos) (tS X.K c (sAsgO (oLc it T test fe (own.map (·.2))) i)) := by
  obtain ⟨wi, h1, h2⟩ := hi.ex
  refine (ps_setLc hc hN hy hyl hsw h1 ok hg ht he hs).imp fun E σ H ⟨G0, H0, ρ, o, ⟨G, h⟩, e, k⟩ => ?_
  unfold sAsgO at e
  obtain ⟨ds, eo, rfl⟩ := Option.map_eq_some_iff.mp e
  exact oLc_step (tg := tg) (iter := iter) hT h2 σ H _ ⟨G, ρ, ds, h.gr.s, h.sl, eo, fun p vs G' H' g n m q r => k _ _ ⟨G', h.setOwn g n m q r⟩⟩
/-- x.append(e) -/
def sApp (i : Nat) (f : DE) : DS := fun ρ => match ρ[i]?, f ρ with
  | some (.own ds), some d => if ds.length ≤ 100000 then some (.nx (ρ.set i (.own (ds ++ [d])))) else none
  | _, _ => none
theorem s_app (i : Nat) {x : Str} {f : DE} {p1 p2 p3 : Pos} (he : PE X e (tD X.K c f)) (hN : X.N[i]? = some x := by rfl) (hv : Vis X.env.scope x := by first | exact Or.inl rfl | exact Or.inr (Or.inl rfl) | exact Or.inr (Or.inr rfl))
    (hd : (x == ("__debug__" : Str)) = false := by decide) (hcd : (x == ("__classdict__" : Str)) = false := by decide)
    (hsw : swapsWith (.Call (.Attribute (.Name x p1) "append" p2) [e] [] p3) none pos.line X.env = pure false := by rfl)
    (hbase : attributeBase (.Name x p1) "append" X.env (eval (.Name x p1) X.env) = eval (.Name x p1) X.env := by rfl)
    (hfew : ((backTo p3 (starEach [e] X.env)).all (fun x => !x.1) && (backToKw p3 (keywordEach [] X.env)).all (fun x => x.1.isSome)
      && decide ([e].length + ([] : List Keyword).length + (if ([] : List Keyword).isEmpty then 0 else 1) < 30)) = true := by rfl)
    (hline : (p2.endLine == p3.line) = true := by rfl) (hs : starEach [e] X.env = (false, eval e X.env) :: starEach [] X.env := by rfl) (hplain : (backTo p3 (starEach [] X.env)).any (·.1) = false := by rfl) :
    PS X (.Expr (.Call (.Attribute (.Name x p1) "append" p2) [e] [] p3) pos) (tS X.K c (sApp i f)) :=
  (ps_expr (pe_bm PySem.F.plainAttrs_list PySem.F.slot_list_append PySem.F.type_list_append mt_append (pe_var hN hv hd hcd) (pa_cons he pa_nil hs) hbase hfew hline hs hplain) hsw).imp fun E σ H ⟨G0, H0, ρ, o, ⟨G, h⟩, e, k⟩ => by
    unfold sApp at e
    split at e
    · rename_i ds d q1 q2
      split at e
      · rename_i hl
        cases e
        obtain ⟨p, vs, a1, a2, a3, a4⟩ := h.sl.own i ds q1
        refine ⟨_, a1, .inl ⟨rfl, vs, SqL.of a3⟩, G, ρ, d, h.gr.s, h.sl, q2, fun v G1 H1 g1 r1 => ?_⟩
        have lt : vs.length < sizeLine := by
          rw [a4.length]
          exact Nat.lt_of_le_of_lt hl (by decide)
        exact ⟨p, vs, v, rfl, rfl, g1.hl a3, lt, k _ _ ⟨G1, (h.step g1).upd q1 a1 ((a4.mono g1.g).append (.one r1))⟩⟩
      · cases e
    · cases e
/-- x[i] = e -/
def sSetI (i : Nat) (g f : DE) : DS := fun ρ => match ρ[i]?, g ρ, f ρ with
  | some (.own ds), some (.int n), some d => (ixN ds.length n).map fun j => .nx (ρ.set i (.own (ds.set j d)))
  | _, _, _ => none
theorem s_setI (i : Nat) {x : Str} {ix : Expr} {f g : DE} {p1 p2 : Pos} (he : PE X e (tD X.K c f)) (hi : PE X ix (tD X.K c g)) (hN : X.N[i]? = some x := by rfl) (hv : Vis X.env.scope x := by first | exact Or.inl rfl | exact Or.inr (Or.inl rfl) | exact Or.inr (Or.inr rfl))
    (hd : (x == ("__debug__" : Str)) = false := by decide) (hcd : (x == ("__classdict__" : Str)) = false := by decide)
    (ha : ∀ v, assign (.Subscript (.Name x p1) ix p2) X.env v = (do
      let ov ← holding [v] (eval (.Name x p1) X.env)
      let iv ← holding [v, ov] (eval ix X.env)
      standAt p2
      holding [v, ov, iv] (setItem ov iv v)
      release [v, ov, iv] []) := by intro _; rfl)
    (hs : swapsWithSole [.Subscript (.Name x p1) ix p2] e pos.line X.env = pure false := by rfl) (hw : swappedStores [.Subscript (.Name x p1) ix p2] e X.env = pure none := by rfl)
    (h1 : (assignEach [.Subscript (.Name x p1) ix p2] X.env).map (·.2) = [assign (.Subscript (.Name x p1) ix p2) X.env] := by rfl) :
    PS X (.Assign [.Subscript (.Name x p1) ix p2] e pos) (tS X.K c (sSetI i g f)) :=
  (ps_asg he (pg_sub (pe_var hN hv hd hcd) hi set_list ha) hs hw h1).imp fun E σ H ⟨G0, H0, ρ, o, ⟨G, h⟩, e, k⟩ => by
    unfold sSetI at e
    split at e
    · rename_i ds n d q1 q2 q3
      obtain ⟨j, ej, rfl⟩ := Option.map_eq_some_iff.mp e
      obtain ⟨p, vs, a1, a2, a3, a4⟩ := h.sl.own i ds q1
      refine ⟨G, ρ, d, h.gr.s, h.sl, q3, fun v G1 H1 g1 r1 => ⟨_, a1, G1, ρ, _, g1.s, h.sl.step g1, q2, fun w G2 H2 g2 r2 => ?_⟩⟩
      cases r2
      have g := g1.trans g2
      exact ⟨p, vs, n, j, rfl, rfl, g.hl a3, by rw [a4.length]; exact ej, k _ _ ⟨G2, (h.step g).upd q1 a1 ((a4.mono g.g).set (r1.mono g2.g))⟩⟩
    · cases e
def sDrop (f : DE) : DS := fun ρ => (f ρ).map fun _ => .nx ρ
theorem s_expr {f : DE} (he : PE X e (tD K c f)) (hs : swapsWith e none pos.line X.env = pure false := by rfl) : PS X (.Expr e pos) (tS K c (sDrop f)) := (ps_expr he hs).imp fun E σ H ⟨G0, H0, ρ, o, ⟨G, h⟩, e, k⟩ => by
  unfold sDrop at e
  obtain ⟨d, ed, rfl⟩ := Option.map_eq_some_iff.mp e
  exact ⟨G, ρ, d, h.gr.s, h.sl, ed, fun v G1 H1 g1 r1 => k _ _ ⟨G1, h.step g1⟩⟩
theorem s_doc {x j p2} : PS X (.Expr (.Constant (.str x) j p2) pos) (tS K c sNil) := ps_doc.imp fun E σ H ⟨G0, H0, ρ, o, h, e, k⟩ => by cases e; exact k σ H h
/-! returns -/
def sRet (f : DE) : DS := fun ρ => (f ρ).map .rt
theorem s_ret {f : DE} (he : PE X e (tD K c f)) : PS X (.Return (some e) pos) (tS K c (sRet f)) := (ps_ret he).imp fun E σ H ⟨G0, H0, ρ, o, ⟨G, h⟩, e, k⟩ => by
  unfold sRet at e
  obtain ⟨d, ed, rfl⟩ := Option.map_eq_some_iff.mp e
  exact ⟨G, ρ, d, h.gr.s, h.sl, ed, fun v G1 H1 g1 r1 => k v G1 H1 (h.gr.trans g1) r1⟩
def sRetE (f : DOw) : DS := fun ρ => (f ρ).map .ro
theorem s_retE {f : DOw} (he : PE X e (tDo K c f)) : PS X (.Return (some e) pos) (tS K c (sRetE f)) := (ps_ret he).imp fun E σ H ⟨G0, H0, ρ, o, ⟨G, h⟩, e, k⟩ => by
  unfold sRetE at e
  obtain ⟨d, ed, rfl⟩ := Option.map_eq_some_iff.mp e
  exact ⟨G, ρ, d, h.gr.s, h.sl, ed, fun p vs G1 H1 g1 n m q r1 => k p vs G1 H1 (h.gr.trans g1) (h.gr.d p n) m q r1⟩
def sRetO (i : Nat) : DS := fun ρ => match ρ[i]? with
  | some (.own ds) => some (.ro ds)
  | _ => none
theorem s_retO (i : Nat) {x : Str} {p1 : Pos} (hN : X.N[i]? = some x := by rfl) (hv : Vis X.env.scope x := by first | exact Or.inl rfl | exact Or.inr (Or.inl rfl) | exact Or.inr (Or.inr rfl))
    (hd : (x == ("__debug__" : Str)) = false := by decide) (hcd : (x == ("__classdict__" : Str)) = false := by decide) : PS X (.Return (some (.Name x p1)) pos) (tS K c (sRetO i)) := (ps_ret (pe_var hN hv hd hcd)).imp fun E σ H ⟨G0, H0, ρ, o, ⟨G, h⟩, e, k⟩ => by
  unfold sRetO at e
  split at e
  · rename_i ds q
    cases e
    obtain ⟨p, vs, a1, a2, a3, a4⟩ := h.sl.own i ds q
    exact ⟨_, a1, k p vs G H h.gr (h.nw i ds p q a1) a2 a3 a4⟩
  · cases e
def sRetN : DS := fun _ => some (.rt .non)
theorem s_retN : PS X (.Return none pos) (tS K c sRetN) := ps_retN.imp fun E σ H ⟨G0, H0, ρ, o, ⟨G, h⟩, e, k⟩ => by
  cases e
  exact k .non G H h.gr rfl
/-! if, for, while -/
def sIf (t : DB) (F G : DS) : DS := fun ρ => match t ρ with
  | some true => F ρ
  | some false => G ρ
  | none => none
theorem s_if {cd : Expr} {A B : List Stmt} {t : DB} {F G : DS} (hc : PT X cd (tDT K c t)) (ha : PSs X A (tS K c F)) (hb : PSs X B (tS K c G)) : PS X (.If cd A B pos) (tS K c (sIf t F G)) := (ps_if hc ha hb).imp fun E σ H ⟨G0, H0, ρ, o, ⟨Gx, h⟩, e, k⟩ => by
  unfold sIf at e
  split at e
  · rename_i q
    exact ⟨Gx, ρ, true, h.gr.s, h.sl, q, fun G1 H1 g1 => iteT ⟨G0, H0, ρ, o, ⟨G1, h.step g1⟩, e, k⟩⟩
  · rename_i q
    exact ⟨Gx, ρ, false, h.gr.s, h.sl, q, fun G1 H1 g1 => iteF ⟨G0, H0, ρ, o, ⟨G1, h.step g1⟩, e, k⟩⟩
  · cases e
def forD (T : TgD) (B : DS) : List D → DS
  | [], ρ => some (.nx ρ)
  | d :: ds, ρ => (T d).bind fun l => match B (apD ρ l) with
    | some (.nx ρ') => forD T B ds ρ'
    | some (.ct ρ') => forD T B ds ρ'
    | some (.bk ρ') => some (.nx ρ')
    | some (.rt x) => some (.rt x)
    | some (.ro x) => some (.ro x)
    | none => none
def sFor (it : Sl → Option (List D)) (T : TgD) (B : DS) : DS := fun ρ => (it ρ).bind fun ds => forD T B ds ρ
/-- what may be read has grown -/
theorem Gr.re {G0 G1 G : Gh} {H0 H1 H : Hp} (a : Gr c G0 H0 G1 H1) (b : Gr c G1 H0 G H) : Gr c G0 H0 G H := ⟨a.g.trans b.g, fun x o e n => b.h x o e (a.m x o e n), b.d, fun x o e n => b.m x o e (a.m x o e n), a.nl, b.s, fun x o e n => b.f x o e (a.f x o e n)⟩
theorem Gr.up {G0 G1 G : Gh} {H0 H1 H : Hp} (a : Gr c G0 H0 G1 H1) (b : Gr c G1 H1 G H) : Gr c G1 H0 G H :=
  let t := a.trans b
  have q : ∀ x, G1.m x = none → G0.m x = none := fun x n => by
    cases e : G0.m x with
    | none => rfl
    | some t => rw [a.g.m x t e] at n; cases n
  ⟨b.g, fun x o e n => t.h x o e (q x n), t.d, fun x o e n => t.m x o e (q x n), fun x o e n => a.m x o e (a.nl x o e n), b.s, fun x o e n => let ⟨o', e'⟩ := a.ex e; b.f x o' e' n⟩
theorem OutK.re {G0 G1 : Gh} {H0 H1 : Hp} {E : Ends} {o : Out} (a : Gr c G0 H0 G1 H1) (k : OutK K c G0 H0 E o) : OutK K c G1 H0 E o := by
  cases o with
  | nx ρ => exact fun σ H ⟨G, h⟩ => k σ H ⟨G, a.re h.gr, h.sl, h.nw⟩
  | bk ρ => exact fun σ H ⟨G, h⟩ => k σ H ⟨G, a.re h.gr, h.sl, h.nw⟩
  | ct ρ => exact fun σ H ⟨G, h⟩ => k σ H ⟨G, a.re h.gr, h.sl, h.nw⟩
  | rt d => exact fun v G H g r => k v G H (a.re g) r
  | ro d => exact fun p vs G H g n m q r => k p vs G H (a.re g) n m q r
theorem s_for {tg iter : Expr} {body : List Stmt} {it : Sl → Option (List D)} {T : TgD} {B : DS} (hp : PassesOwn (model X.prog X.w) X.A X.env X.xe) (hc : X.calm = true) (hi : DPI X c tg iter it) (hg : PG X tg (tG X.K c T)) (hb : PSs X body (tS X.K c B)) (hs : ∀ x, foldedSetIterable iter X.env x = pure x := by intro _; rfl) :
    PS X (.For tg iter body [] pos) (tS X.K c (sFor it T B)) := by
  obtain ⟨wi, h1, h2⟩ := hi.ex
  refine (ps_for hp hc h1 hg hb hs).imp fun E σ H ⟨G0, H0, ρ, o, ⟨G, h⟩, e, k⟩ => ?_
  unfold sFor at e
  obtain ⟨ds, ed, e⟩ := Option.bind_eq_some_iff.mp e
  refine h2 σ H _ ⟨G, ρ, ds, h.gr.s, h.sl, ed, fun J G1 H1 g1 w => ?_⟩
  have gr1 : Gr c G0 H0 G1 H1 := h.gr.trans g1
  have k1 : OutK X.K c G1 H0 E o := k.re gr1
  refine ⟨fun i m σ' H' => m = ds.length - i ∧ i ≤ ds.length ∧ ∃ ρ', StOk X.K c G1 H0 ρ' σ' H' ∧ forD T B (ds.drop i) ρ' = some o, ⟨_, rfl, Nat.zero_le _, ρ, ⟨G1, gr1.up (.refl g1.s), h.sl.step g1, h.nw⟩, e⟩, ?_⟩
  rintro i m σ' H' ⟨rfl, hi, ρ', ⟨G', h'⟩, e'⟩
  by_cases hlt : i < ds.length
  · refine .inr ⟨w.go i G' H' hlt h'.gr.g h'.gr.s, fun σ2 H2 => ∃ ρ2, StOk X.K c G1 H0 ρ2 σ2 H2 ∧ forD T B (ds.drop (i + 1)) ρ2 = some o, fun σ2 H2 q => ⟨_, by omega, rfl, hlt, q⟩, fun x H2 y => ?_⟩
    obtain ⟨G3, d, g3, hd, rd⟩ := w.yld i G' H' x H2 hlt h'.gr.g h'.gr.s y
    rw [List.drop_eq_getElem_cons hlt] at e'
    have hd' : ds[i] = d := by rw [List.getElem?_eq_getElem hlt] at hd; exact Option.some.inj hd
    rw [hd'] at e'
    unfold forD at e'
    obtain ⟨l, hl, e'⟩ := Option.bind_eq_some_iff.mp e'
    refine ⟨G3, d, l, g3.s, rd, hl, fun us ru => ?_⟩
    have hB := (h'.step g3).ap ru
    split at e'
    · rename_i ρ3 q
      exact ⟨G1, H0, _, _, ⟨G3, hB⟩, q, fun σ4 H4 h4 => ⟨ρ3, h4, e'⟩⟩
    · rename_i ρ3 q
      exact ⟨G1, H0, _, _, ⟨G3, hB⟩, q, fun σ4 H4 h4 => ⟨ρ3, h4, e'⟩⟩
    · rename_i ρ3 q
      cases e'
      exact ⟨G1, H0, _, _, ⟨G3, hB⟩, q, k1⟩
    · rename_i ρ3 q
      cases e'
      exact ⟨G1, H0, _, _, ⟨G3, hB⟩, q, k1⟩
    · rename_i ρ3 q
      cases e'
      exact ⟨G1, H0, _, _, ⟨G3, hB⟩, q, k1⟩
    · cases e'
  · have hn : i = ds.length := by omega
    subst hn
    rw [List.drop_length] at e'
    cases e'
    exact .inl ⟨w.stop G' H' h'.gr.g h'.gr.s, k1 σ' H' ⟨G', h'⟩⟩
def whileD (t : DB) (B : DS) : Nat → DS
  | 0, _ => none
  | n + 1, ρ => match t ρ with
    | some true => (match B ρ with
      | some (.nx ρ') => whileD t B n ρ'
      | some (.ct ρ') => whileD t B n ρ'
      | some (.bk ρ') => some (.nx ρ')
      | some (.rt x) => some (.rt x)
      | some (.ro x) => some (.ro x)
      | none => none)
    | some false => some (.nx ρ)
    | none => none
/-- the turns are bounded by n -/
def sWhile (n : Nat) (t : DB) (B : DS) : DS := fun ρ => whileD t B n ρ
theorem s_while (n : Nat) {cd : Expr} {body : List Stmt} {t : DB} {B : DS} (hp : PassesOwn (model X.prog X.w) X.A X.env X.xe) (hc : PT X cd (tDT K c t)) (hb : PSs X body (tS K c B)) : PS X (.While cd body [] pos) (tS K c (sWhile n t B)) :=
  (ps_while hp hc hb).imp fun E σ H ⟨G0, H0, ρ, o, h, e, k⟩ => by
    refine ⟨fun m σ' H' => ∃ ρ', StOk K c G0 H0 ρ' σ' H' ∧ whileD t B m ρ' = some o, ⟨n, ρ, h, e⟩, ?_⟩
    rintro m σ' H' ⟨ρ', ⟨G', h'⟩, e'⟩
    cases m with
    | zero => cases e'
    | succ m =>
      unfold whileD at e'
      split at e'
      · rename_i q
        refine ⟨G', ρ', true, h'.gr.s, h'.sl, q, fun G1 H1 g1 => iteT ⟨fun σ2 H2 => ∃ ρ2, StOk K c G0 H0 ρ2 σ2 H2 ∧ whileD t B m ρ2 = some o, fun σ2 H2 q => ⟨m, Nat.lt_succ_self m, q⟩, ?_⟩⟩
        have hB := h'.step g1
        split at e'
        · rename_i ρ3 q
          exact ⟨G0, H0, _, _, ⟨G1, hB⟩, q, fun σ4 H4 h4 => ⟨ρ3, h4, e'⟩⟩
        · rename_i ρ3 q
          exact ⟨G0, H0, _, _, ⟨G1, hB⟩, q, fun σ4 H4 h4 => ⟨ρ3, h4, e'⟩⟩
        · rename_i ρ3 q
          cases e'
          exact ⟨G0, H0, _, _, ⟨G1, hB⟩, q, k⟩
        · rename_i ρ3 q
          cases e'
          exact ⟨G0, H0, _, _, ⟨G1, hB⟩, q, k⟩
        · rename_i ρ3 q
          cases e'
          exact ⟨G0, H0, _, _, ⟨G1, hB⟩, q, k⟩
        · cases e'
      · rename_i q
        cases e'
        exact ⟨G', ρ', false, h'.gr.s, h'.sl, q, fun G1 H1 g1 => iteF (k σ' H1 ⟨G1, h'.step g1⟩)⟩
      · cases e'
/-! ### defs -/
def startD (n : Nat) (ds : List D) : Sl := ds.map .val ++ List.replicate (n - ds.length) .un
def runD (n : Nat) (B : DS) (ds : List D) : Option D := match B (startD n ds) with
  | some (.rt d) => some d
  | some (.nx _) => some .non
  | some (.ro ds) => some (.lst ds)
  | _ => none
/-- .. that hands back a new list -/
def runO (n : Nat) (B : DS) (ds : List D) : Option (List D) := match B (startD n ds) with
  | some (.ro ds) => some ds
  | _ => none
theorem slots_start {G : Gh} {H : Hp} {n : Nat} : ∀ {ds : List D} {vs : List V}, RepL K c G ds vs → Slots K c G H (startD n ds) (vs.map some ++ List.replicate (n - vs.length) none) := by
  intro ds vs h
  have hl := h.length
  have nown : ∀ (i : Nat) (es : List D), (startD n ds)[i]? ≠ some (.own es) := fun i es e => by
    unfold startD at e
    by_cases hi : i < ds.length
    · rw [List.getElem?_append_left (by simpa using hi), List.getElem?_map] at e
      cases q : ds[i]? with
      | none => rw [q] at e; cases e
      | some d => rw [q] at e; cases e
    · rw [List.getElem?_append_right (by simpa using hi), List.getElem?_replicate] at e
      split at e <;> cases e
  refine ⟨by simp [startD, hl], fun i d e => ?_, fun i es e => (nown i es e).elim, fun i _ es _ _ e _ _ _ => (nown i es e).elim⟩
  unfold startD at e
  by_cases hi : i < ds.length
  · rw [List.getElem?_append_left (by simpa using hi), List.getElem?_map] at e
    cases q : ds[i]? with
    | none => rw [q] at e; cases e
    | some d' =>
      rw [q] at e
      cases e
      obtain ⟨v, h1, h2⟩ := h.get q
      exact ⟨v, by rw [List.getElem?_append_left (by simp; omega), List.getElem?_map, h1]; rfl, h2⟩
  · rw [List.getElem?_append_right (by simpa using hi), List.getElem?_replicate] at e
    split at e <;> cases e
theorem stG_start {G : Gh} {H : Hp} {n : Nat} {ds : List D} {vs : List V} (s : Sm c G H) (h : RepL K c G ds vs) : StG K c G H G H (startD n ds) (vs.map some ++ List.replicate (n - vs.length) none) := by
  refine ⟨.refl s, slots_start h, fun i es p e _ => ?_⟩
  obtain ⟨q, us, a1, a2, a3, a4⟩ := (slots_start (H := H) (n := n) h).own i es e
  exfalso
  unfold startD at e
  by_cases hi : i < ds.length
  · rw [List.getElem?_append_left (by simpa using hi), List.getElem?_map] at e
    cases q : ds[i]? with
    | none => rw [q] at e; cases e
    | some d => rw [q] at e; cases e
  · rw [List.getElem?_append_right (by simpa using hi), List.getElem?_replicate] at e
    split at e <;> cases e
theorem run_end {G : Gh} {H : Hp} {n : Nat} {B : DS} {ds : List D} {d : D} {vs : List V} {Q : VK} (s : Sm c G H) (h : RepL K c G ds vs) (e : runD n B ds = some d) (k : ∀ v G' H', Gr c G H G' H' → Rep K c G' d v → Q v H') :
    tS K c B { nx := fun _ H' => Q .non H', rt := Q } (vs.map some ++ List.replicate (n - vs.length) none) H := by
  unfold runD at e
  split at e
  · rename_i x q
    cases e
    exact ⟨G, H, _, _, ⟨G, stG_start s h⟩, q, k⟩
  · rename_i ρ q
    cases e
    exact ⟨G, H, _, _, ⟨G, stG_start s h⟩, q, fun σ' H' ⟨G', h'⟩ => k .non G' H' h'.gr rfl⟩
  · rename_i x q
    cases e
    exact ⟨G, H, _, _, ⟨G, stG_start s h⟩, q, fun p us G' H' g n m q r => k _ _ H' (g.take n m q) ⟨p, us, rfl, put_same, r.mono (SameG.put m)⟩⟩
  · cases e
variable {P : Program} {w : World} {mg : Str → Option Value} {base : Heap}
/-- a def of the module, whatever its defaults -/
structure DFun (K : PySem.W.Frag) (x qual : Str) (st : Stmt) (f : Addr) (fd : FuncData) : Prop where
  ex : ∃ dvs, FunD K x qual (defArgs st) (defBody st) (defScope st) dvs [] f fd
theorem DFun.kp {x qual : Str} {f : Addr} {fd : FuncData} (F : DFun K x qual st f fd) : PySem.W.keepIn K (.ref f) = true := let ⟨_, h⟩ := F.ex; h.kp
theorem DFun.ok {x qual : Str} {f : Addr} {fd : FuncData} {N ps : List Str} {k : Nat} {sp : Sp} (F : DFun K x qual st f fd) (S : FnScope N ps (defScope st)) (len : ∀ vs H Q E, sp vs H Q E → vs.length = ps.length)
    (hbody : ∀ (cdv : Value) (A : Around) (outer : List Env) (s : Shared) (H : Hp) (vs : List V) (Q : VK) (E : XK), Room k (A.deeper (PyProof.Rows.envOfC qual (defScope st) s.heap.objs.size f cdv)) → sp vs H Q E →
      ∃ t, PSs (cxOf CX0 P w K mg base N qual (defScope st) f cdv A outer s H E).nox (defBody st) t ∧ t { nx := fun _ H' => Q .non H', rt := Q } (start N vs) H) : FnOk P w K mg base CX0 (k + 1) f fd ps sp := by
  obtain ⟨dvs, h⟩ := F.ex
  exact h.ok S len fun cdv A outer s H vs Q E hr hsp => let ⟨t, a, b⟩ := hbody cdv A outer s H vs Q E hr hsp; ⟨t, a.nox, b⟩
/-- a def that keeps the promise of its mirror -/
theorem okD {x qual : Str} {f : Addr} {fd : FuncData} {N ps : List Str} {k : Nat} (B : DS) (F : DFun K x qual st f fd) (S : FnScope N ps (defScope st))
    (hbody : ∀ (cdv : Value) (A : Around) (outer : List Env) (s : Shared) (H : Hp) (E : XK), Room k (A.deeper (PyProof.Rows.envOfC qual (defScope st) s.heap.objs.size f cdv)) →
      PSs (cxOf CX0 P w K mg base N qual (defScope st) f cdv A outer s H E).nox (defBody st) (tS K c B)) : FnOk P w K mg base CX0 (k + 1) f fd ps (spD K c ps.length (runD N.length B)) := by
  refine F.ok S (fun vs H Q E h => ?_) (fun cdv A outer s H vs Q E hr h => ?_)
  · obtain ⟨G, ds, d, _, r, hl, _⟩ := h
    rw [r.length, hl]
  · obtain ⟨G, ds, d, sm, r, hl, e, kk⟩ := h
    exact ⟨_, hbody cdv A outer s H E hr, run_end sm r e kk⟩
theorem okD' {x qual : Str} {f : Addr} {fd : FuncData} {N ps : List Str} {k n m : Nat} {B : DS} {M : List D → Option D} (F : DFun K x qual st f fd) (S : FnScope N ps (defScope st)) (hn : N.length = n) (hm : ps.length = m) (hM : M = runD n B)
    (hbody : ∀ (cdv : Value) (A : Around) (outer : List Env) (s : Shared) (H : Hp) (E : XK), Room k (A.deeper (PyProof.Rows.envOfC qual (defScope st) s.heap.objs.size f cdv)) →
      PSs (cxOf CX0 P w K mg base N qual (defScope st) f cdv A outer s H E).nox (defBody st) (tS K c B)) : FnOk P w K mg base CX0 (k + 1) f fd ps (spD K c m M) := by
  subst hn hm hM
  exact okD B F S hbody
/-- .. whose new list is the caller's own -/
def spO (K : PySem.W.Frag) (c : Cf) (n : Nat) (F : List D → Option (List D)) : Sp := fun vs H Q _ => ∃ G ds xs, Sm c G H ∧ RepL K c G ds vs ∧ ds.length = n ∧ F ds = some xs ∧ ∀ p us G' H', Gr c G H G' H' → H p = none → G' p = none → H' p = some (.lst us) → RepL K c G' xs us → Q (.ref p) H'
theorem okO {x qual : Str} {f : Addr} {fd : FuncData} {N ps : List Str} {k : Nat} (B : DS) (F : DFun K x qual st f fd) (S : FnScope N ps (defScope st))
    (hbody : ∀ (cdv : Value) (A : Around) (outer : List Env) (s : Shared) (H : Hp) (E : XK), Room k (A.deeper (PyProof.Rows.envOfC qual (defScope st) s.heap.objs.size f cdv)) →
      PSs (cxOf CX0 P w K mg base N qual (defScope st) f cdv A outer s H E).nox (defBody st) (tS K c B)) : FnOk P w K mg base CX0 (k + 1) f fd ps (spO K c ps.length (runO N.length B)) := by
  refine F.ok S (fun vs H Q E h => ?_) (fun cdv A outer s H vs Q E hr h => ?_)
  · obtain ⟨G, ds, d, _, r, hl, _⟩ := h
    rw [r.length, hl]
  · obtain ⟨G, ds, d, sm, r, hl, e, kk⟩ := h
    refine ⟨_, hbody cdv A outer s H E hr, ?_⟩
    unfold runO at e
    split at e
    · rename_i x q
      cases e
      exact ⟨G, H, _, _, ⟨G, stG_start sm r⟩, q, kk⟩
    · cases e
theorem okO' {x qual : Str} {f : Addr} {fd : FuncData} {N ps : List Str} {k n m : Nat} {B : DS} {M : List D → Option (List D)} (F : DFun K x qual st f fd) (S : FnScope N ps (defScope st)) (hn : N.length = n) (hm : ps.length = m) (hM : M = runO n B)
    (hbody : ∀ (cdv : Value) (A : Around) (outer : List Env) (s : Shared) (H : Hp) (E : XK), Room k (A.deeper (PyProof.Rows.envOfC qual (defScope st) s.heap.objs.size f cdv)) →
      PSs (cxOf CX0 P w K mg base N qual (defScope st) f cdv A outer s H E).nox (defBody st) (tS K c B)) : FnOk P w K mg base CX0 (k + 1) f fd ps (spO K c m M) := by
  subst hn hm hM
  exact okO B F S hbody
def oCall (n : Nat) (F : List D → Option (List D)) (g : DA) : DOw := fun ρ => (g ρ).bind fun ds => if ds.length = n then F ds else none
theorem o_call {x : Str} {k k' n : Nat} {ps : List Str} {F : List D → Option (List D)} {g : DA} {p : Pos} (C : Cal X.prog X.w X.K X.mg X.base x k ps (spO X.K c n F)) (hr : Room k' X.A) (hk : k ≤ k') (ha : PA X (e :: es) (tDA X.K c g)) (hg : Gl X x := by rfl)
    (hdb : (x == ("__debug__" : Str)) = false := by decide) (he : starEach (e :: es) X.env = (false, eval e X.env) :: starEach es X.env := by rfl) (hpl : (backTo pos (starEach es X.env)).any (·.1) = false := by rfl) :
    PE X (.Call (.Name x p) (e :: es) [] pos) (tDo X.K c (oCall n F g)) := by
  obtain ⟨f, fd, h1, h2, h3, h4⟩ := C.ex
  refine (pe_call h4 (hr.mono hk) hg h1 h2 h3 .nil pass0 ha hdb he hpl).imp fun σ H Q ⟨G, ρ, d, s, sl, e, k⟩ => ?_
  unfold oCall at e
  obtain ⟨ds, ed, e⟩ := Option.bind_eq_some_iff.mp e
  split at e
  · rename_i hl
    refine ⟨G, ρ, ds, s, sl, ed, fun vs G1 H1 g1 r1 => ?_⟩
    show spO X.K c n F (vs ++ []) H1 Q E0
    rw [List.append_nil]
    exact ⟨G1, ds, d, g1.s, r1, hl, e, fun p us G' H' g2 n m q r2 => k p us G' H' (g1.trans g2) (g1.d p n) m q r2⟩
  · cases e
/-- .. also taken as a value -/
theorem spO_spD {n : Nat} {F : List D → Option (List D)} {k : Nat} {f : Addr} {fd : FuncData} {ps : List Str} (h : FnOk P w K mg base CX0 k f fd ps (spO K c n F)) : FnOk P w K mg base CX0 k f fd ps (spD K c n fun ds => (F ds).map .lst) :=
  h.imp fun vs H Q E ⟨G, ds, d, s, r, hl, e, kk⟩ => by
    obtain ⟨xs, e1, rfl⟩ := Option.map_eq_some_iff.mp e
    exact ⟨G, ds, xs, s, r, hl, e1, fun p us G' H' g n m q r => kk _ _ H' (g.take n m q) ⟨p, us, rfl, put_same, r.mono (SameG.put m)⟩⟩
theorem cal_mk {x : Str} {f : Addr} {fd : FuncData} {k : Nat} {ps : List Str} {sp : Sp} (h1 : mg x = some (.ref f)) (h2 : PySem.W.keepIn K (.ref f) = true) (h3 : Binds K fd ps []) (h4 : FnOk P w K mg base CX0 k f fd ps sp) : Cal P w K mg base x k ps sp := ⟨f, fd, h1, h2, h3, h4⟩
end
end DL
set_option maxRecDepth 100000
namespace DL
open PySem L2
section
variable {X : Cx} {K : PySem.W.Frag} {c : Cf} {e a b : Expr} {es : List Expr} {pos : Pos} {st : Stmt} {sts : List Stmt}
/-! ### instances made -/
/-- the promise of an __init__ of the class n with m arguments: F tells the attributes -/
def spI (K : PySem.W.Frag) (c : Cf) (n m : Nat) (F : List D → Option (List D)) : Sp := fun vs H Q _ => ∃ x dx us G H0 ds fs, vs = .ref x :: us ∧ H0 x = none ∧ H0 dx = none ∧ dx ≠ x ∧ H = upd (upd H0 dx (.own x)) x (.ins (c.cl n) dx []) ∧ Sm c G H0 ∧
  RepL K c G ds us ∧ ds.length = m ∧ F ds = some fs ∧ ∀ G' H' fvs, Gr c G H0 G' H' → H' x = some (.ins (c.cl n) dx ((c.nm n).zip fvs)) → G' x = none → fvs.length = (c.nm n).length → RepL K c G' fs fvs → Q .non H'
structure Mak (P : Program) (w : World) (K : PySem.W.Frag) (mg : Str → Option Value) (base : Heap) (c : Cf) (x : Str) (n k m : Nat) (F : List D → Option (List D)) : Prop where
  ex : ∃ f fd ps, mg x = some (.ref (c.cl n)) ∧ Mk K (c.cl n) f ∧ Binds K fd ps [] ∧ FnOk P w K mg base CX0 k f fd ps (spI K c n m F)
def dMake (n m : Nat) (F : List D → Option (List D)) (g : DA) : DE := fun ρ => (g ρ).bind fun ds => if ds.length = m then (F ds).map (.ins n) else none
theorem dMake_step {n m : Nat} {F : List D → Option (List D)} {g : DA} : ∀ σ H Q, tD K c (dMake n m F g) σ H Q → tMake (c.cl n) (spI K c n m F) [] E0 (tDA K c g) σ H Q := by
  rintro σ H Q ⟨G, ρ, d, s, sl, e, k⟩
  unfold dMake at e
  obtain ⟨ds, ed, e⟩ := Option.bind_eq_some_iff.mp e
  split at e
  · rename_i hl
    obtain ⟨fs, ef, rfl⟩ := Option.map_eq_some_iff.mp e
    refine ⟨G, ρ, ds, s, sl, ed, fun vs G1 H1 g1 r1 x dx hx hdx ne => ?_⟩
    rw [List.append_nil]
    exact ⟨x, dx, vs, G1, H1, ds, fs, rfl, hx, hdx, ne, rfl, g1.s, r1, hl, ef, fun G' H' fvs g2 e2 n2 l2 r2 => ⟨rfl, k _ _ H' (g1.trans (g2.take hx n2 e2)) ⟨x, dx, fvs, rfl, put_same, l2, r2.mono (SameG.put n2)⟩⟩⟩
  · cases e
theorem d_make {x : Str} {n k k' m : Nat} {F : List D → Option (List D)} {g : DA} {p : Pos} (C : Mak X.prog X.w X.K X.mg X.base c x n k m F) (hr : Room k' X.A) (hk : k + 1 ≤ k') (ha : PA X (e :: es) (tDA X.K c g)) (hg : Gl X x := by rfl)
    (hdb : (x == ("__debug__" : Str)) = false := by decide +kernel) (he : starEach (e :: es) X.env = (false, eval e X.env) :: starEach es X.env := by rfl) (hpl : (backTo pos (starEach es X.env)).any (·.1) = false := by rfl) :
    PE X (.Call (.Name x p) (e :: es) [] pos) (tD X.K c (dMake n m F g)) := by
  obtain ⟨f, fd, ps, h1, h2, h3, h4⟩ := C.ex
  exact (pe_make h2 h4 (hr.mono hk) hg h1 h3 .nil pass0 ha hdb he hpl).imp dMake_step
/-- a class without __init__ -/
structure Mak0 (K : PySem.W.Frag) (mg : Str → Option Value) (c : Cf) (x : Str) (n : Nat) : Prop where
  mgC : mg x = some (.ref (c.cl n))
  makes : PySem.W.makesIn K (c.cl n) = true
  init : PySem.W.findIn K (.ref (c.cl n)) "__init__" = some (some (.builtin "object.__init__"))
  kp : PySem.W.keepIn K (.ref (c.cl n)) = true
  nn : c.nm n = []
theorem run_make0 {pins : List (Addr × Obj)} {σ : St} {H : Hp} {s : Shared} {Q : VK} {C : Addr} (hm : PySem.W.makesIn X.K C = true) (hi : PySem.W.findIn X.K (.ref C) "__init__" = some (some (.builtin "object.__init__"))) (I : Inv X pins σ H s)
    (h : ∀ x dx, H x = none → H dx = none → dx ≠ x → Q (.ref x) (upd (upd H dx (.own x)) x (.ins C dx []))) : wpAny (model X.prog X.w) X.A (call (.ref C) []) (EP X pins σ Q) X.xe s := by
  have hq := h (s.heap.objs.size + 1) s.heap.objs.size (I.hok.fresh (Nat.le_succ _)) (I.hok.fresh (Nat.le_refl _)) (Nat.ne_of_lt (Nat.lt_succ_self _))
  have I2 := Inv.made (C := C) I
  have KX := I.kIn
  refine wpAny_call (make_map0 KX hm hi (fun self => PySem.W.Looks.of_pure (PySem.W.oi_bind self)) ?_)
  obtain ⟨hh, g, d, t, os⟩ := s
  have Y := PySem.W.makes_of (M := model X.prog X.w) KX hm
  have n1 : ((hh.push PySem.W.emptyDict).push (PySem.W.instObj C hh.objs.size)).get? (hh.objs.size + 1) = some (PySem.W.instObj C hh.objs.size) := by
    have := Heap.get?_push_size (hh.push PySem.W.emptyDict) (o := PySem.W.instObj C hh.objs.size) rfl
    rwa [Heap.size_push] at this
  have t1 : PySem.W.Looks (model X.prog X.w) ((hh.push PySem.W.emptyDict).push (PySem.W.instObj C hh.objs.size)) (typeOf (.ref (hh.objs.size + 1))) (.ref C) := (PySem.W.Looks.ld n1).andThen .now
  have t2 : PySem.W.Looks (model X.prog X.w) ((hh.push PySem.W.emptyDict).push (PySem.W.instObj C hh.objs.size)) (isInstance (.ref (hh.objs.size + 1)) (.type "object")) true := t1.andThen (Y.top.keeps fun b o e => Heap.get?_push_of_some _ (Heap.get?_push_of_some _ e))
  refine codeAny_call_builtin PySem.W.oi_plain PySem.W.entry_oi (@PySem.W.check_slot (model X.prog X.w) _ _ _ "object.__init__" "object" "__init__" (.ref (hh.objs.size + 1)) [] [] _ PySem.W.oi_kind PySem.W.oi_split t2 (PySem.W.oi_args (.ref (hh.objs.size + 1))) ?_)
  rw [PySem.W.oi_run]
  exact wpAny_pure (And.intro rfl ⟨.ref (hh.objs.size + 1), _, I2, rfl, hq⟩)
theorem d_make0 {x : Str} {n : Nat} {p : Pos} (C : Mak0 X.K X.mg c x n) (hg : Gl X x := by rfl) (hdb : (x == ("__debug__" : Str)) = false := by decide +kernel) : PE X (.Call (.Name x p) [] [] pos) (tD X.K c (dC (.ins n []))) := by
  refine ⟨fun pins s σ H Q I ⟨G, ρ, d, sm, sl, e, k⟩ => ?_⟩
  cases e
  refine wpAny_Call_Name_kw (ld_glob I hg C.mgC ?_ hdb)
  refine PySem.W.callWith_K0 I.kIn C.kp (run_make0 C.makes C.init I fun x dx hx hdx ne => ?_)
  refine k _ _ _ ((Gr.addI sm hx hdx ne).take hx (sm.none hx) upd_same) ⟨x, dx, [], rfl, by rw [C.nn]; exact put_same, by rw [C.nn]; rfl, rfl⟩
/-! ### isinstance -/
inductive Tag where
  | b (n : String) | c (i : Nat)
  deriving DecidableEq
def tagOf : D → Option Tag
  | .non => some (.b "NoneType")
  | .bl _ => some (.b "bool")
  | .int _ => some (.b "int")
  | .str _ => some (.b "str")
  | .lst _ => some (.b "list")
  | .tup _ => some (.b "tuple")
  | .ins n _ => some (.c n)
  | .dct _ _ => some (.b "dict")
  | .scr _ => none
  | .raw _ => none
  | .any => none
  | .fn _ => none
  | .mem _ _ _ _ => none
def Tag.val (c : Cf) : Tag → Value
  | .b n => .type n
  | .c i => .ref (c.cl i)
/-- what isinstance asks of own classes; ok i: the class's instances are asked of -/
structure IsiOk (K : PySem.W.Frag) (c : Cf) (u : Value) (F : Tag → Option Bool) : Prop where
  one : ∀ t r, F t = some r → PySem.W.kitOne K (t.val c) u = some r
  own : ∀ i r, F (.c i) = some r → C8.InsC K (c.cl i)
theorem tyX_of {G : Gh} {H : Hp} {d : D} {v : V} {t : Tag} (s : Same G.h H) (r : Rep K c G d v) (h : tagOf d = some t) (own : ∀ i, t = .c i → C8.InsC K (c.cl i)) : TyX K H v (t.val c) := by
  cases d with
  | non => cases r; cases h; exact .base .non
  | bl _ => cases r; cases h; exact .base (.bl _)
  | int _ => cases r; cases h; exact .base (.int _)
  | str _ => cases r; cases h; exact .base (.str _)
  | lst _ => obtain ⟨p, vs, rfl, hp, _⟩ := r; cases h; exact .base (.lst (s _ _ hp))
  | tup _ =>
    obtain ⟨p, vs, rfl, hp, _⟩ := r
    cases h
    rcases hp with (hp | ⟨o, hp⟩) | ⟨o, its, n, hk, hc, _⟩
    · exact .base (.tup (s _ _ hp))
    · exact .fTuple (s _ _ hp)
    · exact .kTuple hk hc
  | ins n _ =>
    obtain ⟨p, dx, vs, rfl, hp, _⟩ := r
    cases h
    have q := own n rfl
    exact .base (.ins (s _ _ hp) q.cl q.ha q.hn q.htk q.hm)
  | dct _ _ => obtain ⟨p, vs, rfl, hp, _⟩ := r; cases h; exact .base (.dK (s _ _ hp))
  | scr _ => cases h
  | raw _ => cases h
  | any => cases h
  | fn _ => cases h
  | mem _ _ _ _ => cases h
def dIsi (F : Tag → Option Bool) (f : DE) : DE := fun ρ => (f ρ).bind fun d => (tagOf d).bind fun t => (F t).map .bl
theorem dIsi_step {F : Tag → Option Bool} {f : DE} {cv : V} {u : Value} (hk : ClsV cv u) (h : IsiOk K c u F) : ∀ σ H Q, tD K c (dIsi F f) σ H Q → tCB (rIsi K) (tCons (tD K c f) (tCons (tC cv) tNil)) σ H Q := by
  rintro σ H Q ⟨G, ρ, d, s, sl, e, k⟩
  unfold dIsi at e
  obtain ⟨x, ex, e⟩ := Option.bind_eq_some_iff.mp e
  obtain ⟨t, et, e⟩ := Option.bind_eq_some_iff.mp e
  obtain ⟨r, er, rfl⟩ := Option.map_eq_some_iff.mp e
  exact ⟨G, ρ, x, s, sl, ex, fun v G1 H1 g1 r1 => ⟨v, cv, t.val c, u, r, rfl, hk, tyX_of g1.s r1 et (fun i z => h.own i r (by rw [← z]; exact er)), h.one t r er, k _ G1 H1 g1 rfl⟩⟩
theorem d_isi {F : Tag → Option Bool} {f : DE} {cl : Expr} {cv : V} {u : Value} {p : Pos} (hm : X.mg "isinstance" = none) (hk : ClsV cv u) (h : IsiOk X.K c u F) (ha : PE X a (tD X.K c f)) (hb : PE X cl (tC cv)) (hg : Gl X "isinstance" := by rfl)
    (h1 : starEach [a, cl] X.env = (false, eval a X.env) :: starEach [cl] X.env := by rfl) (h2 : starEach [cl] X.env = (false, eval cl X.env) :: starEach [] X.env := by rfl) (hpl : (backTo pos (starEach [cl] X.env)).any (·.1) = false := by rfl) :
    PE X (.Call (.Name "isinstance" p) [a, cl] [] pos) (tD X.K c (dIsi F f)) :=
  (pe_callB call_isi hg hm (by decide +kernel) (pa_cons ha (pa_cons hb pa_nil h2) h1) (by decide +kernel) (by decide +kernel) h1 hpl).imp (dIsi_step hk h)
/-- a built-in class -/
def isiB (n : String) : Tag → Option Bool
  | .b m => kitB m n
  | .c _ => none
theorem isiB_ok {n : String} : IsiOk K c (.type n) (isiB n) := ⟨fun t r e => by
  cases t with
  | b m => exact kit_ty e
  | c i => (exact nomatch (show none = some r from e)), fun i r e => nomatch (show none = some r from e)⟩
theorem d_isiB {n : String} {f : DE} {x : Str} {p p2 : Pos} (hm : X.mg "isinstance" = none) (hmx : X.mg x = none) (hv : bootBuiltins x = some (.type n)) (ha : PE X a (tD X.K c f)) (hg : Gl X "isinstance" := by rfl) (hgx : Gl X x := by rfl) (hn : x ≠ "__name__" := by decide +kernel) (hd : (x == ("__debug__" : Str)) = false := by decide +kernel)
    (h1 : starEach [a, .Name x p2] X.env = (false, eval a X.env) :: starEach [.Name x p2] X.env := by rfl) (h2 : starEach [Expr.Name x p2] X.env = (false, eval (.Name x p2) X.env) :: starEach [] X.env := by rfl) (hpl : (backTo pos (starEach [Expr.Name x p2] X.env)).any (·.1) = false := by rfl) :
    PE X (.Call (.Name "isinstance" p) [a, .Name x p2] [] pos) (tD X.K c (dIsi (isiB n) f)) :=
  d_isi hm (.ty n) isiB_ok ha (pe_bltn (v := .ty n) hgx hmx hv rfl hn hd) hg h1 h2 hpl
/-- an own class -/
theorem d_isiC {n : Nat} {F : Tag → Option Bool} {f : DE} {x : Str} {p p2 : Pos} (hm : X.mg "isinstance" = none) (hx : X.mg x = some (.ref (c.cl n))) (h : IsiOk X.K c (.ref (c.cl n)) F) (ha : PE X a (tD X.K c f)) (hg : Gl X "isinstance" := by rfl) (hgx : Gl X x := by rfl) (hd : (x == ("__debug__" : Str)) = false := by decide +kernel)
    (h1 : starEach [a, .Name x p2] X.env = (false, eval a X.env) :: starEach [.Name x p2] X.env := by rfl) (h2 : starEach [Expr.Name x p2] X.env = (false, eval (.Name x p2) X.env) :: starEach [] X.env := by rfl) (hpl : (backTo pos (starEach [Expr.Name x p2] X.env)).any (·.1) = false := by rfl) :
    PE X (.Call (.Name "isinstance" p) [a, .Name x p2] [] pos) (tD X.K c (dIsi F f)) :=
  d_isi hm (.own _) h ha (pe_glob (v := .ref (c.cl n)) hgx hx rfl hd) hg h1 h2 hpl
/-! ### a def as a value, called -/
structure CalV (P : Program) (w : World) (K : PySem.W.Frag) (mg : Str → Option Value) (base : Heap) (c : Cf) (k n : Nat) (tbl : Nat → Option (List D → Option D)) : Prop where
  ex : ∀ i F, tbl i = some F → ∃ fd ps, PySem.W.keepIn K (.ref (c.fn i)) = true ∧ Binds K fd ps [] ∧ FnOk P w K mg base CX0 k (c.fn i) fd ps (spD K c n F)
def dCallV (i n : Nat) (tbl : Nat → Option (List D → Option D)) (g : DA) : DE := fun ρ => match ρ[i]? with
  | some (.val (.fn j)) => (g ρ).bind fun ds => if ds.length = n then (tbl j).bind fun F => F ds else none
  | _ => none
theorem d_callV (i : Nat) {x : Str} {k k' n : Nat} {tbl : Nat → Option (List D → Option D)} {g : DA} {p : Pos} (C : CalV X.prog X.w X.K X.mg X.base c k n tbl) (hr : Room k' X.A) (hk : k ≤ k') (ha : PA X (e :: es) (tDA X.K c g)) (hN : X.N[i]? = some x := by rfl) (hv : Vis X.env.scope x := by first | exact Or.inl rfl | exact Or.inr (Or.inl rfl) | exact Or.inr (Or.inr rfl))
    (hd : (x == ("__debug__" : Str)) = false := by decide +kernel) (hcd : (x == ("__classdict__" : Str)) = false := by decide +kernel)
    (he : starEach (e :: es) X.env = (false, eval e X.env) :: starEach es X.env := by rfl) (hpl : (backTo pos (starEach es X.env)).any (·.1) = false := by rfl) : PE X (.Call (.Name x p) (e :: es) [] pos) (tD X.K c (dCallV i n tbl g)) := by
  refine ⟨fun pins s σ H Q I ⟨G, ρ, d, sm, sl, ed, kk⟩ => ?_⟩
  unfold dCallV at ed
  split at ed
  · rename_i j q
    obtain ⟨ds, eds, ed⟩ := Option.bind_eq_some_iff.mp ed
    split at ed
    · rename_i hl
      obtain ⟨F, eF, ed⟩ := Option.bind_eq_some_iff.mp ed
      obtain ⟨fd, ps, h1, h2, h3⟩ := C.ex j F eF
      obtain ⟨v, hσ, rv⟩ := sl.val i _ q
      cases rv
      refine wpAny_Call_Name_kw (thn ((pe_var (pos := p) hN hv hd hcd).run pins s σ H (fun v H1 => v = .ref (c.fn j) ∧ H1 = H) I ⟨_, hσ, rfl, rfl⟩) fun u s1 ⟨v, H1, I1, r1, q1⟩ => ?_)
      obtain ⟨rfl, rfl⟩ := q1
      cases r1
      refine PySem.W.callWith_K (h₀ := X.base) I.ok.mod.kin h1 (thn (ha.run pos pins s1 σ _ (fun us H2 => ∃ G2, Gr c G H1 G2 H2 ∧ RepL X.K c G2 ds us) I1 ⟨G, ρ, ds, sm, sl, eds, fun us G2 H2 g2 r2 => ⟨G2, g2, r2⟩⟩) fun us s2 ⟨vs, H2, I2, r, G2, g2, r2⟩ => ⟨I2.kIn, ?_⟩) he hpl
      refine run_fn h3 (hr.mono hk) h2 .nil pass0 I2 r ?_
      rw [List.append_nil]
      exact ⟨G2, ds, d, g2.s, r2, hl, ed, fun v G' H' g3 r3 => kk v G' H' (g2.trans g3) r3⟩
    · cases ed
  · cases ed
/-- a def's name as a value -/
theorem d_fnv {x : Str} {i : Nat} (hm : X.mg x = some (.ref (c.fn i))) (hg : Gl X x := by rfl) (hd : (x == ("__debug__" : Str)) = false := by decide +kernel) : PE X (.Name x pos) (tD K c (dC (.fn i))) :=
  (pe_glob (v := .ref (c.fn i)) hg hm rfl hd).imp fun _ _ _ h => tD_of_tC (d := .fn i) (fun _ => rfl) h
/-! ### try, where nothing is raised -/
theorem s_try {body : List Stmt} {h0 : ExceptHandler} {hs : List ExceptHandler} {F : DS} (hb : PSs X.nox body (tS K c F)) : PS X (.Try body (h0 :: hs) [] [] pos) (tS K c F) := ps_try_thru0 hb
theorem s_tryN {body : List Stmt} {h0 : ExceptHandler} {hs : List ExceptHandler} {F : DS} (hn : ∀ e s, ¬ X.xe e s) (hb : PSs X body (tS K c F)) : PS X (.Try body (h0 :: hs) [] [] pos) (tS K c F) :=
  (ps_try_never (u := tNext) hn hb pss_nil).imp fun E σ H h => h
/-! ### own lists against [] -/
def dOwnNe (i : Nat) : DE := fun ρ => match ρ[i]? with
  | some (.own ds) => (toP (.lst ds)).bind fun p => if SeqAt.shaped p then some (.bl (!ds.isEmpty)) else none
  | _ => none
theorem eqv_nil {p : List PyData} : PyData.eqv (.list p) (.list []) = p.isEmpty := by
  cases p <;> rfl
theorem toPL_len : ∀ {ds : List D} {ps : List PyData}, toP.toPL ds = some ps → ps.isEmpty = ds.isEmpty
  | [], _, e => by unfold toP.toPL at e; cases e; rfl
  | d :: ds, _, e => by
    unfold toP.toPL at e
    split at e
    · cases e; rfl
    · cases e
theorem d_ownNe (i : Nat) {x : Str} {k : Nat} {p1 p2 : Pos} (hr : Room k X.A) (hN : X.N[i]? = some x := by rfl) (hv : Vis X.env.scope x := by first | exact Or.inl rfl | exact Or.inr (Or.inl rfl) | exact Or.inr (Or.inr rfl))
    (hd : (x == ("__debug__" : Str)) = false := by decide +kernel) (hcd : (x == ("__classdict__" : Str)) = false := by decide +kernel) : PE X (.Compare (.Name x p1) [.NotEq] [.List [] p2] pos) (tD X.K c (dOwnNe i)) :=
  (pe_cmpR (op_neD hr.units) (pe_var hN hv hd hcd) (pe_lst pa_nil) (nomark _)).imp fun σ H Q ⟨G, ρ, d, s, sl, e, k⟩ => by
    unfold dOwnNe at e
    split at e
    · rename_i ds q
      obtain ⟨p, ep, e⟩ := Option.bind_eq_some_iff.mp e
      split at e
      · rename_i hs
        cases e
        obtain ⟨pa, vs, a1, a2, a3, a4⟩ := sl.own i ds q
        unfold toP at ep
        obtain ⟨ps, e1, rfl⟩ := Option.map_eq_some_iff.mp ep
        refine ⟨_, a1, by show 0 ≤ sizeLine; decide, fun p hp => ⟨.list ps, .list [], ?_, .lst (SqL.of upd_same) .nil, hs, by decide, ?_⟩⟩
        · exact .lst (SqL.of (by rw [upd_ne (ne_of_none a3 hp)]; exact a3)) (toPL_Dp (s.s.trans (Same.new hp)) a4 e1)
        · rw [eqv_nil, toPL_len e1]
          exact k _ G _ (.add s hp True.intro) rfl
      · cases e
    · cases e
theorem d_townNe (i : Nat) {x : Str} {k : Nat} {p1 p2 : Pos} (hr : Room k X.A) (hN : X.N[i]? = some x := by rfl) (hv : Vis X.env.scope x := by first | exact Or.inl rfl | exact Or.inr (Or.inl rfl) | exact Or.inr (Or.inr rfl))
    (hd : (x == ("__debug__" : Str)) = false := by decide +kernel) (hcd : (x == ("__classdict__" : Str)) = false := by decide +kernel) : PT X (.Compare (.Name x p1) [.NotEq] [.List [] p2] pos) (tDT X.K c (asB (dOwnNe i))) :=
  (pt_cmpR (op_neD hr.units) (pe_var hN hv hd hcd) (pe_lst pa_nil) (nomark _)).imp fun σ H Q ⟨G, ρ, b, s, sl, e, k⟩ => by
    have e := asB_some e
    unfold dOwnNe at e
    split at e
    · rename_i ds q
      obtain ⟨p, ep, e⟩ := Option.bind_eq_some_iff.mp e
      split at e
      · rename_i hs
        cases e
        obtain ⟨pa, vs, a1, a2, a3, a4⟩ := sl.own i ds q
        unfold toP at ep
        obtain ⟨ps, e1, rfl⟩ := Option.map_eq_some_iff.mp ep
        refine ⟨_, a1, by show 0 ≤ sizeLine; decide, fun p hp => ⟨.list ps, .list [], ?_, .lst (SqL.of upd_same) .nil, hs, by decide, ?_⟩⟩
        · exact .lst (SqL.of (by rw [upd_ne (ne_of_none a3 hp)]; exact a3)) (toPL_Dp (s.s.trans (Same.new hp)) a4 e1)
        · rw [eqv_nil, toPL_len e1]
          exact ⟨_, rfl, k G _ (.add s hp True.intro)⟩
      · cases e
    · cases e
/-! ### a + b of lists, the new list one's own -/
def bCat (x y : D) : Option (List D) := match x, y with
  | .lst a, .lst b => if a.length + b.length ≤ 100000 then some (a ++ b) else none
  | _, _ => none
theorem o_cat {f g : DE} (ha : PE X a (tD K c f)) (hb : PE X b (tD K c g)) : PE X (.BinOp a .Add b pos) (tDo K c (oOp bCat f g)) := (pe_op op_cat ha hb).imp fun σ H Q ⟨G, ρ, d, s, sl, e, k⟩ => by
  unfold oOp at e
  obtain ⟨x, ex, e⟩ := Option.bind_eq_some_iff.mp e
  obtain ⟨y, ey, e⟩ := Option.bind_eq_some_iff.mp e
  unfold bCat at e
  split at e
  · rename_i u w _
    split at e
    · rename_i hz
      cases e
      refine ⟨G, ρ, _, s, sl, ex, fun v G1 H1 g1 r1 => ⟨G1, ρ, _, g1.s, sl.step g1, ey, fun v2 G2 H2 g2 r2 => ?_⟩⟩
      obtain ⟨p, vs, rfl, hp, r⟩ := r1.mono g2.g
      obtain ⟨p', vs', rfl, hp', r'⟩ := r2
      exact ⟨p, p', vs, vs', rfl, rfl, g2.s _ _ hp, g2.s _ _ hp', by rw [r.length, r'.length]; exact line100 hz, fun l hl => k l _ G2 _ ((g1.trans g2).trans (.add g2.s hl True.intro)) ((g1.trans g2).d l hl) (g2.s.none hl) upd_same (r.append r')⟩
    · cases e
  · cases e
end
end DL
set_option maxRecDepth 100000
namespace DL
open PySem L2
section
variable {X : Cx} {K : PySem.W.Frag} {c : Cf} {e a b : Expr} {es : List Expr} {pos : Pos} {st : Stmt} {sts : List Stmt}
theorem _root_.L2.PE.or2 {t t' : TE} (h : PE X e t) (h' : PE X e t') : PE X e (fun σ H Q => t σ H Q ∨ t' σ H Q) := ⟨fun pins s σ H Q I q => q.elim (fun q => h.run pins s σ H Q I q) fun q => h'.run pins s σ H Q I q⟩
/-! ### dicts that stay as they are -/
structure DPs (X : Cx) (c : Cf) (pos : Pos) (keys : List (Option Expr)) (values : List Expr) (ks : List Key) (g : DA) : Prop where
  ex : ∃ trs, PPs X pos keys values trs ∧ ∀ σ H Q, (∃ G ρ ds, Sm c G H ∧ Slots X.K c G H ρ σ ∧ g ρ = some ds ∧ ∀ vs G' H', Gr c G H G' H' → RepL X.K c G' ds vs → vs.length = ks.length → Q ((ks.map kV).zip vs) H') → tPairs trs σ H Q
theorem dps_nil : DPs X c pos [] [] [] aNil := ⟨_, pps_nil, fun σ H Q ⟨G, ρ, ds, s, sl, e, k⟩ => by
  cases e
  exact k [] G H (.refl s) rfl rfl⟩
theorem dps_cons {x : Key} {f : DE} {g : DA} {kx v : Expr} {ks : List (Option Expr)} {vs : List Expr} {xs : List Key} (hk : PE X kx (tC (kV x))) (hv : PE X v (tD X.K c f)) (hr : DPs X c pos ks vs xs g) : DPs X c pos (some kx :: ks) (v :: vs) (x :: xs) (aCons f g) := by
  obtain ⟨trs, h1, h2⟩ := hr.ex
  refine ⟨_, pps_cons hk hv h1, fun σ H Q ⟨G, ρ, ds, s, sl, e, k⟩ => ?_⟩
  unfold aCons at e
  obtain ⟨y, ey, e⟩ := Option.bind_eq_some_iff.mp e
  obtain ⟨r, er, rfl⟩ := Option.map_eq_some_iff.mp e
  exact ⟨G, ρ, y, s, sl, ey, fun u G1 H1 g1 r1 => h2 σ H1 _ ⟨G1, ρ, r, g1.s, sl.step g1, er, fun us G2 H2 g2 r2 l2 => k (u :: us) G2 H2 (g1.trans g2) ⟨u, us, rfl, r1.mono g2.g, r2⟩ (by simp [l2])⟩⟩
def dDct (ks : List Key) (g : DA) : DE := fun ρ => (g ρ).bind fun ds => if ds.length = ks.length then some (.dct ks ds) else none
theorem putK_last {kvs : List (Key × V)} {k : Key} {v : V} (h : k ∉ kvs.map (·.1)) : putK kvs k v = kvs ++ [(k, v)] := by
  unfold putK
  rw [if_neg]
  intro z
  rw [List.any_eq_true] at z
  obtain ⟨q, hq, e⟩ := z
  exact h (List.mem_map.mpr ⟨q, hq, of_decide_eq_true e⟩)
theorem mergeK_nd : ∀ {more kvs : List (Key × V)}, ((kvs ++ more).map (·.1)).Nodup → mergeK kvs more = kvs ++ more
  | [], kvs, _ => by simp [mergeK]
  | (k, v) :: more, kvs, h => by
    have h1 : k ∉ kvs.map (·.1) := by
      rw [List.map_append, List.nodup_append] at h
      intro z
      exact h.2.2 k z k (by simp) rfl
    have ih := mergeK_nd (more := more) (kvs := kvs ++ [(k, v)]) (by simpa using h)
    unfold mergeK at ih ⊢
    rw [List.foldl_cons, putK_last h1, ih]
    simp
theorem d_dct {keys : List (Option Expr)} {values : List Expr} {ks : List Key} {g : DA} (h : DPs X c pos keys values ks g) (nd : ks.Nodup) (hl : ks.length ≤ 15) (hall : keys.all (·.isSome) = true := by rfl) (hkl : keys.length = values.length := by rfl) (h0 : keys ≠ [] := by exact fun z => nomatch z) (h15 : keys.length ≤ 15 := by decide) :
    PE X (.Dict keys values pos) (tD X.K c (dDct ks g)) := by
  obtain ⟨trs, h1, h2⟩ := h.ex
  refine (pe_disp h1 hall hkl h0 h15).imp fun σ H Q ⟨G, ρ, d, s, sl, e, k⟩ => ?_
  unfold dDct at e
  obtain ⟨ds, ed, e⟩ := Option.bind_eq_some_iff.mp e
  split at e
  case isFalse => cases e
  rename_i hds
  cases e
  intro p hp
  have g0 := Gr.add (c := c) (o := .dK []) s hp True.intro
  have gm : G.m p = none := s.nom0 hp
  refine h2 σ _ _ ⟨G, ρ, ds, g0.s, sl.step g0, ed, fun vs G1 H1 g1 r1 l1 => ⟨g1.h p _ upd_same gm, ks.zip vs, ?_, by simp [l1]; omega, ?_⟩⟩
  · rw [List.zip_map_left]
    rfl
  · have e1 : mergeK [] (ks.zip vs) = ks.zip vs := by
      rw [mergeK_nd (kvs := [])]
      · rfl
      · rw [List.nil_append, List.map_fst_zip (by omega)]
        exact nd
    rw [e1]
    have np : G1 p = none := g1.f p _ upd_same (s.none hp)
    have e2 : H1 p = some (.dK []) := g1.h p _ upd_same gm
    have gm1 : G1.m p = none := g1.m p _ upd_same gm
    exact k _ _ _ (((g0.trans g1).chgB (o' := .dK (ks.zip vs)) hp np e2 gm1).takeM hp np upd_same gm1) ⟨p, vs, rfl, put_same, l1, r1.mono (SameG.put np)⟩
/-- d[k] -/
def keyD : D → Option Key
  | .int i => some (.inl i)
  | .str x => some (.inr x)
  | _ => none
def findD (ks : List Key) (ds : List D) (k : Key) : Option D := ((ks.zip ds).find? fun q => decide (q.1 = k)).map (·.2)
def opDix (x y : D) : Option D := match x with
  | .dct ks ds => (keyD y).bind fun k => findD ks ds k
  | _ => none
theorem findD_rep {G : Gh} {k : Key} : ∀ {ks : List Key} {ds : List D} {vs : List V} {d : D}, RepL K c G ds vs → findD ks ds k = some d → ∃ v, valV (ks.zip vs) k = some v ∧ Rep K c G d v
  | [], _, _, _, _, e => by simp [findD] at e
  | _ :: _, [], _, _, _, e => by simp [findD] at e
  | x :: ks, y :: ds, _, d, h, e => by
    obtain ⟨v, r, rfl, h1, h2⟩ := h
    unfold findD at e
    rw [List.zip_cons_cons, List.find?_cons] at e
    by_cases hk : x = k
    · have hd : (decide ((x, y).1 = k)) = true := decide_eq_true hk
      rw [hd] at e
      cases e
      exact ⟨v, by rw [List.zip_cons_cons]; exact valV_pos hk, h1⟩
    · have hd : (decide (x = k)) = false := decide_eq_false hk
      rw [show decide ((x, y).1 = k) = false from hd] at e
      obtain ⟨u, e1, e2⟩ := findD_rep (ks := ks) (d := d) h2 e
      refine ⟨u, ?_, e2⟩
      unfold valV at e1 ⊢
      rw [List.zip_cons_cons, List.find?_cons, show decide ((x, v).1 = k) = false from hd]
      exact e1
theorem d_dix {f g : DE} {k : Nat} (hr : Room k X.A) (ha : PE X a (tD X.K c f)) (hb : PE X b (tD X.K c g)) (hs : NoSl b := by exact fun _ _ => rfl) : PE X (.Subscript a b pos) (tD X.K c (dOp opDix f g)) :=
  (pe_dget (hu_of hr) ha hb hs).imp fun σ H Q ⟨G, ρ, d, s, sl, e, kk⟩ => by
    unfold dOp at e
    obtain ⟨x, ex, e⟩ := Option.bind_eq_some_iff.mp e
    obtain ⟨y, ey, e⟩ := Option.bind_eq_some_iff.mp e
    unfold opDix at e
    split at e
    · rename_i ks ds _
      obtain ⟨ky, ek, e⟩ := Option.bind_eq_some_iff.mp e
      refine ⟨G, ρ, _, s, sl, ex, fun v G1 H1 g1 r1 => ⟨G1, ρ, _, g1.s, sl.step g1, ey, fun u G2 H2 g2 r2 => ?_⟩⟩
      obtain ⟨p, vs, rfl, hp, hl, r⟩ := r1.mono g2.g
      obtain ⟨v, e1, e2⟩ := findD_rep r e
      have hu : u = kV ky := by
        cases y <;> first | (cases ek; done) | (cases r2; cases ek; rfl)
      subst hu
      exact ⟨p, v, rfl, by rw [← e1]; exact DGet.k (g2.s _ _ hp), kk v G2 H2 (g1.trans g2) e2⟩
    · cases e
/-! ### x in a list of data -/
def opInDeep (x y : D) : Option D := match toP x, toP y with
  | some p, some (.list qs) => if SeqAt.shaped p && SeqAt.shaped (.list qs) then some (.bl (qs.any fun z => PyData.eqv z p)) else none
  | _, _ => none
theorem opD_inDeep {k : Nat} (hr : Room k X.A) : OpD X X.K c (compareOp .In) opInDeep := by
  refine ⟨_, op_inD (by have := hr.un; omega), fun x y z e G H u w Q s ru rw kk => ?_⟩
  unfold opInDeep at e
  split at e
  · rename_i p qs e1 e2
    split at e
    · rename_i hz
      cases e
      rw [Bool.and_eq_true] at hz
      exact ⟨p, qs, toP_Dp s.s ru e1, toP_Dp s.s rw e2, hz.1, hz.2, kk _ G H (.refl s) rfl⟩
    · cases e
  · cases e
/-! ### list(range(a, b, c)) -/
def oRange3 (f g h : DE) : DOw := fun ρ => match f ρ, g ρ, h ρ with
  | some (.int i), some (.int j), some (.int st) => if -1000000 ≤ i ∧ i ≤ 1000000 ∧ -1000000 ≤ j ∧ j ≤ 1000000 ∧ 1 ≤ st ∧ st ≤ 1000000 then some (rngC i st ((j - i + st - 1) / st).toNat) else none
  | _, _, _ => none
theorem range_up {i j st : Int} (h1 : 1 ≤ st) : Builtin.Range.rangeSize i j st = (((j - i + st - 1) / st).toNat : Int) := by
  have hp : (0 : Int) < st := by omega
  by_cases hlt : i < j
  · have e0 : (j - i - 1) / st + 1 = (j - i + st - 1) / st := by
      rw [show j - i + st - 1 = (j - i - 1) + 1 * st by omega, Int.add_mul_ediv_right _ _ (by omega)]
    have hn : 0 ≤ (j - i - 1) / st := Int.ediv_nonneg (by omega) (by omega)
    unfold Builtin.Range.rangeSize
    simp only [hp, hlt, if_true, gt_iff_lt, decide_true, Bool.and_true, Bool.true_and]
    first
      | (rw [Int.fdiv_eq_ediv_of_nonneg _ (by omega)]; omega)
      | omega
  · have hn : (j - i + st - 1) / st ≤ 0 := by
      have h3 : j - i + st - 1 < st := by omega
      by_cases h4 : 0 ≤ j - i + st - 1
      · rw [Int.ediv_eq_zero_of_lt h4 h3]; exact Int.le_refl 0
      · have := Int.ediv_neg_of_neg_of_pos (a := j - i + st - 1) (b := st) (by omega) hp; omega
    unfold Builtin.Range.rangeSize
    simp only [hp, hlt, if_true, if_false, gt_iff_lt, decide_true, Bool.and_true, Bool.true_and, decide_false, Bool.and_false]
    omega

theorem small_up {i j st : Int} (h1 : 1 ≤ st) (h2 : st ≤ 1000000) (ha : -1000000 ≤ i) (ha' : i ≤ 1000000) (hb : -1000000 ≤ j) (hb' : j ≤ 1000000) : Builtin.Range.small i j st = true := by
  have hq : ((j - i + st - 1) / st) * st ≤ j - i + st - 1 := Int.ediv_mul_le _ (by omega)
  have hb2 : (j - i + st - 1) / st ≤ 3000000 := by
    by_cases h : (j - i + st - 1) / st ≤ 0
    · omega
    · have : (j - i + st - 1) / st * 1 ≤ (j - i + st - 1) / st * st := Int.mul_le_mul_of_nonneg_left h1 (by omega)
      omega
  unfold Builtin.Range.small
  rw [range_up h1]
  simp only [Builtin.Range.rangeFitsLong, Bool.and_eq_true, Bool.or_eq_true, decide_eq_true_eq, beq_iff_eq, show st > 0 by omega, if_true]
  generalize ((j - i + st - 1) / st) = z at *
  by_cases hz : 0 ≤ z
  · have hm : z * st ≤ 3000000 := by omega
    rw [Int.toNat_of_nonneg hz]
    have h3 : (z - 1) * st = z * st - st := by rw [Int.sub_mul, Int.one_mul]
    have h0 : 0 ≤ z * st := Int.mul_nonneg hz (by omega)
    refine ⟨?_, ?_⟩ <;> omega
  · have hz0 : z.toNat = 0 := by omega
    rw [hz0]
    refine ⟨?_, ?_⟩ <;> omega
theorem o_listRange3 {c1 : Expr} {f g h : DE} {p p2 pos2 : Pos} (hc : X.calm = true) (hm : X.mg "list" = none) (hm2 : X.mg "range" = none) (ha : PE X a (tD X.K c f)) (hb : PE X b (tD X.K c g)) (hcc : PE X c1 (tD X.K c h)) (hg : Gl X "list" := by rfl) (hg2 : Gl X "range" := by rfl)
    (hs : starEach [a, b, c1] X.env = (false, eval a X.env) :: starEach [b, c1] X.env := by rfl) (hs2 : starEach [b, c1] X.env = (false, eval b X.env) :: starEach [c1] X.env := by rfl) (hs3 : starEach [c1] X.env = (false, eval c1 X.env) :: starEach [] X.env := by rfl) (hpl : (backTo pos2 (starEach [b, c1] X.env)).any (·.1) = false := by rfl)
    (nc : starEach [Expr.Call (.Name "range" p2) [a, b, c1] [] pos2] X.env = (false, eval (Expr.Call (.Name "range" p2) [a, b, c1] [] pos2) X.env) :: starEach [] X.env := by rfl) :
    PE X (.Call (.Name "list" p) [.Call (.Name "range" p2) [a, b, c1] [] pos2] [] pos) (tDo X.K c (oRange3 f g h)) := by
  refine ⟨fun pins s σ H Q I ⟨G, ρ, d, sm, sl, e, k⟩ => ?_⟩
  have hA := a_cons (c := c) ha (a_cons hb (a_cons hcc a_nil hs3) hs2) hs
  unfold oRange3 at e
  split at e
  case h_2 => cases e
  rename_i i j n q1 q2 q3
  split at e
  case isFalse => cases e
  rename_i hz
  cases e
  have eA : (aCons f (aCons g (aCons h aNil))) ρ = some [.int i, .int j, .int n] := by simp [aCons, aNil, q1, q2, q3]
  refine PyProof.Rows.Call_ (ld_blt I hg hm PyProof.Rows.boot_list (PyProof.Rows.callWith_type1 (PyProof.Rows.args_cons (thn (Q := fun x s1 => ∃ r t u v H1 G1, x = .ref r ∧ PySem.IsRange s1.heap r i j n t u v ∧ Inv X pins σ H1 s1 ∧ Gr c G H G1 H1)
    (PyProof.Rows.Call_ (ld_blt I hg2 hm2 PyProof.Rows.boot_range (PyProof.Rows.callWith_type1 (thn (hA.run pos2 pins s σ H (fun vs H1 => ∃ G1, vs = [.int i, .int j, .int n] ∧ Gr c G H G1 H1) I ⟨G, ρ, _, sm, sl, eA, fun vs G1 H1 g1 r1 => ?_⟩) fun us s1 ⟨vs, H1, I1, r1, G1, e1, g1⟩ => ?_) hs hpl)))
    fun x s1 ⟨r, t, u, v, H1, G1, ex, hr, I1, g1⟩ => PyProof.Rows.args_nil ?_) nc) nc))
  · obtain ⟨v1, w1, rfl, h1, v2, w2, rfl, h3, h4⟩ := r1
    obtain ⟨v5, rfl, h6⟩ := RepL0.of1 h4
    cases h1; cases h3; cases h6
    exact ⟨G1, rfl, g1⟩
  · subst e1
    cases r1 with
    | cons r rr =>
      cases rr with
      | cons r' rr =>
        cases rr with
        | cons r'' rr =>
          cases rr
          obtain ⟨t, rfl⟩ := r
          obtain ⟨t', rfl⟩ := r'
          obtain ⟨t'', rfl⟩ := r''
          refine call_range_3 (by omega) ?_ (.inl (PyProof.noPylong_small (by omega)))
          exact ⟨_, _, _, _, H1, G1, rfl, PySem.IsRange.new _ _ _ _ _ _ _, I1.kept fun b o e => Heap.get?_push_of_some _ e, g1⟩
  · subst ex
    have hn : ((j - i + n - 1) / n).toNat ≤ 2 ^ 24 := by
      have hq : ((j - i + n - 1) / n) * n ≤ j - i + n - 1 := Int.ediv_mul_le _ (by omega)
      by_cases h : (j - i + n - 1) / n ≤ 0
      · omega
      · have : (j - i + n - 1) / n * 1 ≤ (j - i + n - 1) / n * n := Int.mul_le_mul_of_nonneg_left (by omega) (by omega)
        omega
    refine call_list_range (n := ((j - i + n - 1) / n).toNat) (I1.ok.hd hc) hr (small_up (by omega) (by omega) (by omega) (by omega) (by omega) (by omega)) (range_up (by omega)) hn fun h' tk acc c' hk e' hi => ?_
    have hfr := I1.hok.fresh (Nat.le_refl s1.heap.objs.size)
    have rv : RepL X.K c G1 (rngC i n ((j - i + n - 1) / n).toNat) ((List.range ((j - i + n - 1) / n).toNat).map fun k : Nat => V.int (i + k * n)) := by
      have hh := RepL0.ints (K := X.K) (c := c) (G := G1) ((List.range ((j - i + n - 1) / n).toNat).map fun k : Nat => i + (k : Int) * n)
      rw [List.map_map, List.map_map] at hh
      exact hh
    have vv : Vals ((List.range ((j - i + n - 1) / n).toNat).map fun k : Nat => V.int (i + k * n)) acc.toList := by
      have el : acc.toList.length = ((j - i + n - 1) / n).toNat := by rw [Array.length_toList]; exact hi.1
      rw [← el]
      refine vals_of_get acc.toList _ fun m u hm' => ?_
      obtain ⟨t, rfl⟩ := hi.2 m u (by rw [← hm', Array.getElem?_toList])
      exact ⟨t, rfl⟩
    refine ⟨.ref s1.heap.objs.size, upd H1 s1.heap.objs.size (.lst ((List.range ((j - i + n - 1) / n).toNat).map fun k : Nat => V.int (i + k * n))), I1.laid hk (Nat.le_refl _) (show ObjOk X.prog X.w _ _ _ (.lst _) from ⟨?_, acc.toList, c', vv, ?_⟩), rfl, k _ _ G1 _ (g1.trans (.add g1.s hfr True.intro)) (g1.d _ hfr) (g1.s.none hfr) upd_same rv⟩
    · rw [List.length_map, List.length_range, sizeLine_eq]; omega
    · rw [Array.toArray_toList]; exact e'
end
end DL
set_option maxRecDepth 100000
namespace DL
open PySem L2
section
variable {prog : Program} {w : World} {A : Around} {E : Value → Shared → Prop} {s : Shared}
theorem bounds_tail {a n : Nat} (ha : a ≤ n) : sliceBounds (some (a : Int)) none none n = ((a : Int), (n : Int), 1) := by
  have h1 : ¬ ((a : Int) < 0) := by omega
  simp only [sliceBounds, Option.getD_none, h1, if_false, show (1 : Int) > 0 by decide, if_true]
  congr 1; omega
/-- xs[a:] = ys -/
theorem set_tail {l b sl : Addr} {items new : Array Value} {n n2 : Nat} {vl vu : Value} {a : Nat} {Q : Unit → Shared → Prop} (e : s.heap.get? l = some { cls := .type "list", data := .seq items n }) (e2 : s.heap.get? b = some { cls := .type "list", data := .seq new n2 }) (hne : l ≠ b) (hs : s.heap.IsSliceOf sl vl vu .none)
    (pl : IsPart vl (some (a : Int))) (pu : IsPart vu none) (hac : a ≤ items.size) (hsz : items.size + new.size ≤ sizeLine) (h : Q () { s with heap := s.heap.update l (Obj.mapSeq fun xs => xs.extract 0 a ++ new ++ xs.extract items.size xs.size) }) : wpAny (model prog w) A (setItem (.ref l) (.ref sl) (.ref b)) Q E s := by
  have hl := PySem.IsL.isList e; have hb := PySem.IsL.isList e2
  obtain ⟨os, hos, hcs, hds⟩ := id hs; have hTs : s.TypeIs (.ref sl) "slice" := ⟨os, hos, hcs⟩; have hstep : ¬ ((rawPart none == rawInt 0) = true) := Bool.false_ne_true
  have hsame : Builtin.List.listSameRef (.ref l) (.ref b) = false := by unfold Builtin.List.listSameRef; exact beq_eq_false_iff_ne.mpr hne
  have hmax : (max (a : Int) (items.size : Int)).toNat = items.size := by omega
  have hz' : ((fun xs : Array Value => xs.extract 0 a ++ new ++ xs.extract items.size xs.size) items).size ≤ sizeLine + 1 := by simp only [Array.size_append, Array.size_extract]; omega
  unfold setItem; try with_reducible refine wpAny_holding ?_
  first | refine wpAny_bind (wpAny_pure ?_) | skip
  refine wpAny_bind (wpAny_sequenceKey hl.typeIs (by decide) ?_); refine wpAny_bind (wpAny_callSpecial?_slot (name := Str.ofString "__setitem__") hl.typeIs slot_list_setitem (wpAny_call_entry slot_list_setitem hl.typeIs entry_list_setitem ?_ (args_list_setitem _ _ _)))
  show wpAny _ _ (Builtin.List.listSubscript? (.ref sl) >>= _) _ _ s; refine wpAny_bind ?_; unfold Builtin.List.listSubscript?
  refine wpAny_bind (wpAny_specialOf hTs slice_no_index ?_); simp only [Option.isNone_none, if_true]; refine wpAny_pure ?_
  show wpAny _ _ (typeOf (.ref sl) >>= _) _ _ s; refine wpAny_bind (wpAny_typeOf hTs ?_)
  first | rw [if_neg (by decide)] | refine PySem.W.KFB.if_not (by decide) ?_
  rw [listSliceParts_eq]; refine wpAny_bind (wpAny_bind (wpAny_field hos hds (x := .none) rfl (wpAny_bind (wpAny_listPart .none ?_))))
  rw [if_neg hstep]; refine wpAny_bind (wpAny_field hos hds (x := vl) rfl (wpAny_bind (wpAny_listPart pl ?_))); refine wpAny_bind (wpAny_field hos hds (x := vu) rfl (wpAny_bind (wpAny_listPart pu (wpAny_pure ?_))))
  first | simp only [hsame, Bool.false_eq_true, if_false] | refine PySem.W.KFB.if_not hsame ?_ | (dsimp only; rw [if_neg (by rw [hsame]; exact Bool.false_ne_true)])
  refine wpAny_bind (m := Builtin.List.listAllItems (.ref b) "must assign iterable to extended slice") ?_; unfold Builtin.List.listAllItems; refine wpAny_bind (wpAny_typeOf hb.typeIs ?_)
  first | refine PySem.W.KFB.if_so (by decide) ?_ | rw [if_pos (by decide)] | simp only [beq_self_eq_true, Bool.true_or, if_true]
  unfold Builtin.List.listItems; refine wpAny_bind (wpAny_seqItems e2 rfl (wpAny_pure ?_)); refine wpAny_bind (wpAny_bind (wpAny_seqItems e rfl (wpAny_pure ?_)))
  refine wpAny_bind (wpAny_of_eq ((sliceIndices_raw (some (a : Int)) none none items.size (by simp)).trans (congrArg (pure : Int × Int × Int → Sem (Int × Int × Int)) (bounds_tail hac))) ?_)
  show wpAny _ _ (if ((1 : Int) == 1) = true then _ else _) _ _ s; rw [if_pos (by decide)]; refine wpAny_bind (wpAny_rule ?_)
  first | simp only [notLongL hsz, Bool.false_eq_true, if_false] | refine PySem.W.KFB.if_not (notLongL hsz) ?_
  first | refine wpAny_bind (wpAny_pure ?_) | skip
  show wpAny _ _ (updateSeq l (fun xs => xs.extract 0 ((a : Int)).toNat ++ new ++ xs.extract (max (a : Int) (items.size : Int)).toNat xs.size) >>= _) _ _ s
  rw [hmax, Int.toNat_natCast]; refine wpAny_bind (wpAny_updateSeq (hz := Nat.le_trans (Nat.le_add_right _ _) hsz) (_hz' := hz') e rfl ?_); refine wpAny_bind (wpAny_letGo ?_)
  first | exact wpAny_bind (wpAny_pure (wpAny_pure ⟨.none, rfl, wpAny_pure h⟩)) | exact wpAny_pure ⟨.none, rfl, wpAny_pure h⟩
end
section
variable {X : Cx} {c : Cf} {e : Expr} {pos : Pos}
def gTail (i n : Nat) : TG := fun v σ H Q => ∃ p q xs ys, σ[i]? = some (some (.ref p)) ∧ v = .ref q ∧ H p = some (.lst xs) ∧ H q = some (.lst ys) ∧ p ≠ q ∧ n ≤ xs.length ∧ xs.length + ys.length ≤ sizeLine ∧ Q σ (upd H p (.lst (xs.take n ++ ys)))
theorem pg_tail (i n : Nat) {x : Str} {p1 p2 p3 p4 : Pos} {j : Nat} (hN : X.N[i]? = some x) (hv : Vis X.env.scope x) (hd : (x == ("__debug__" : Str)) = false) (hcd : (x == ("__classdict__" : Str)) = false) :
    PG X (.Subscript (.Name x p1) (.Slice (some (.Constant (.int n) j p4)) none none p3) p2) (gTail i n) := by
  refine ⟨fun pins s σ H v u Q I r ⟨p, q, xs, ys, a1, ev, hp, hq, hne, hn, hz, k⟩ => ?_⟩
  subst ev
  obtain rfl : u = Value.ref q := r
  rw [assign_Subscript]
  refine wpAny_bind (wpAny_holding (thn ((pe_var (pos := p1) hN hv hd hcd).run pins s σ H (fun v H2 => v = .ref p ∧ H2 = H) I ⟨_, a1, rfl, rfl⟩) fun u2 s2 ⟨v2, H2, I2, r2, e2, e3⟩ => ?_))
  subst e2; subst e3
  obtain rfl : u2 = Value.ref p := r2
  refine wpAny_bind (wpAny_holding (wpAny_Slice ?_))
  rw [evalPart_some]
  refine thn ((pe_int (X := X) (i := (n : Int)) (j := j) (pos := p4)).run pins s2 σ H2 (fun v H3 => v = .int n ∧ H3 = H2) I2 ⟨rfl, rfl⟩) fun vl s3 ⟨v3, H3, I3, r3, e4, e5⟩ => ?_
  subst e4; subst e5
  obtain ⟨t, rfl⟩ := r3
  rw [evalPart_none]
  refine wpAny_pure (wpAny_pure ?_)
  have I4 : L2.Inv X pins σ H3 { s3 with heap := s3.heap.push { cls := .type "slice", data := .fields #[.int n t, .none, .none] } } := I3.kept (t' := s3.toks) fun b ob q => Heap.get?_push_of_some _ q
  refine wpAny_bind (wpAny_standAt (wpAny_bind (wpAny_holding ?_)))
  obtain ⟨z1, its, n1, rv1, hl1, o1⟩ := I4.lstM hp
  obtain ⟨z2, its2, n2, rv2, hl2, o2⟩ := I4.lstM hq
  refine set_tail (a := n) o1 o2 hne (Heap.IsSliceOf.new ..) (.int _ _) .none (by rw [List.size_toArray, ← hl1]; exact hn) (by rw [List.size_toArray, List.size_toArray, ← hl1, ← hl2]; exact hz) ?_
  have hI := I4.lset (its' := its.take n ++ its2) (ys := xs.take n ++ ys) (t' := s3.toks) hp o1 (f := fun xs => xs.extract 0 n ++ its2.toArray ++ xs.extract its.toArray.size xs.size) (by simp) ((rv1.take n).append rv2) (by
    rw [List.length_append, List.length_take]
    omega)
  exact wpAny_release ⟨σ, _, hI, k⟩
/-- x[n:] = e -/
def sSetTail (i n : Nat) (f : DE) : DS := fun ρ => match ρ[i]?, f ρ with
  | some (.own ds), some (.lst es) => if n ≤ ds.length ∧ ds.length + es.length ≤ 100000 then some (.nx (ρ.set i (.own (ds.take n ++ es)))) else none
  | _, _ => none
theorem s_setTail (i n : Nat) {x : Str} {f : DE} {p1 p2 p3 p4 : Pos} {j : Nat} (he : PE X e (tD X.K c f)) (hN : X.N[i]? = some x := by rfl) (hv : Vis X.env.scope x := by first | exact Or.inl rfl | exact Or.inr (Or.inl rfl) | exact Or.inr (Or.inr rfl))
    (hd : (x == ("__debug__" : Str)) = false := by decide +kernel) (hcd : (x == ("__classdict__" : Str)) = false := by decide +kernel)
    (hs : swapsWithSole [.Subscript (.Name x p1) (.Slice (some (.Constant (.int n) j p4)) none none p3) p2] e pos.line X.env = pure false := by rfl) (hw : swappedStores [.Subscript (.Name x p1) (.Slice (some (.Constant (.int n) j p4)) none none p3) p2] e X.env = pure none := by rfl)
    (h1 : (assignEach [.Subscript (.Name x p1) (.Slice (some (.Constant (.int n) j p4)) none none p3) p2] X.env).map (·.2) = [assign (.Subscript (.Name x p1) (.Slice (some (.Constant (.int n) j p4)) none none p3) p2) X.env] := by rfl) :
    PS X (.Assign [.Subscript (.Name x p1) (.Slice (some (.Constant (.int n) j p4)) none none p3) p2] e pos) (tS X.K c (sSetTail i n f)) :=
  (ps_asg he (pg_tail i n hN hv hd hcd) hs hw h1).imp fun E σ H ⟨G0, H0, ρ, o, ⟨G, h⟩, ee, k⟩ => by
    unfold sSetTail at ee
    split at ee
    case h_2 => cases ee
    rename_i ds es q1 q2
    split at ee
    case isFalse => cases ee
    rename_i hz
    cases ee
    obtain ⟨p, vs, a1, a2, a3, a4⟩ := h.sl.own i ds q1
    refine ⟨G, ρ, _, h.gr.s, h.sl, q2, fun v G1 H1 g1 ⟨q, us, ev, hq, rq⟩ => ?_⟩
    have np1 : G1 p = none := g1.f p _ a3 a2
    have hne : p ≠ q := fun z => by subst z; rw [np1] at hq; cases hq
    exact ⟨p, q, vs, us, a1, ev, g1.hl a3, g1.s _ _ hq, hne, by rw [a4.length]; exact hz.1, by rw [a4.length, rq.length]; exact line100 hz.2, k _ _ ⟨G1, (h.step g1).upd q1 a1 (((a4.mono g1.g).take n).append rq)⟩⟩
/-- a class whose last attributes have defaults -/
structure MakD (P : Program) (w : World) (K : PySem.W.Frag) (mg : Str → Option Value) (base : Heap) (c : Cf) (x : Str) (n k m : Nat) (F : List D → Option (List D)) (dd : List D) : Prop where
  mak : Mak P w K mg base c x n k m F
  ex : ∃ f fd ps dvs ds, mg x = some (.ref (c.cl n)) ∧ Mk K (c.cl n) f ∧ Binds K fd ps ds ∧ Vals dvs ds ∧ (∀ G, RepL K c G dd dvs) ∧ FnOk P w K mg base CX0 k f fd ps (spI K c n m F)
theorem d_makeD {x : Str} {n k k' m : Nat} {F : List D → Option (List D)} {dd : List D} {p : Pos} (C : MakD X.prog X.w X.K X.mg X.base c x n k m F dd) (hr : Room k' X.A) (hk : k + 1 ≤ k') (hg : Gl X x := by rfl) (hdb : (x == ("__debug__" : Str)) = false := by decide +kernel) :
    PE X (.Call (.Name x p) [] [] pos) (tD X.K c (dMake n m F fun _ => some dd)) := by
  obtain ⟨f, fd, ps, dvs, ds, h1, h2, h3, h4, h5, h6⟩ := C.ex
  refine (pe_make0 h2 h6 (hr.mono hk) hg h1 h3 h4 pass0 hdb).imp fun σ H Q ⟨G, ρ, d, s, sl, e, k⟩ => ?_
  unfold dMake at e
  obtain ⟨ds', ed, e⟩ := Option.bind_eq_some_iff.mp e
  cases ed
  split at e
  · rename_i hl
    obtain ⟨fs, ef, rfl⟩ := Option.map_eq_some_iff.mp e
    intro y dx hx hdx ne
    exact ⟨y, dx, dvs, G, H, dd, fs, rfl, hx, hdx, ne, rfl, s, h5 G, hl, ef, fun G' H' fvs g2 e2 n2 l2 r2 => ⟨rfl, k _ _ H' (g2.take hx n2 e2) ⟨y, dx, fvs, rfl, put_same, l2, r2.mono (SameG.put n2)⟩⟩⟩
  · cases e
theorem fnOk_none {P : Program} {w : World} {K : PySem.W.Frag} {mg : Str → Option Value} {base : Heap} {k n : Nat} {f : Addr} {fd : FuncData} {ps : List Str} : FnOk P w K mg base CX0 k f fd ps (spD K c n fun _ => none) :=
  ⟨(fun vs H Q E ⟨_, _, _, _, _, _, e, _⟩ => nomatch e), (fun A outer s H args us vs Q E _ _ _ _ ⟨_, _, _, _, _, _, e, _⟩ => nomatch e)⟩
theorem fnOk_noneO {P : Program} {w : World} {K : PySem.W.Frag} {mg : Str → Option Value} {base : Heap} {k n : Nat} {f : Addr} {fd : FuncData} {ps : List Str} : FnOk P w K mg base CX0 k f fd ps (spO K c n fun _ => none) :=
  ⟨(fun vs H Q E ⟨_, _, _, _, _, _, e, _⟩ => nomatch e), (fun A outer s H args us vs Q E _ _ _ _ ⟨_, _, _, _, _, _, e, _⟩ => nomatch e)⟩
end
end DL
set_option maxRecDepth 100000
namespace DL
open PySem L2
section
variable {X : Cx} {K : PySem.W.Frag} {c : Cf} {e a b : Expr} {es : List Expr} {pos : Pos} {st : Stmt} {sts : List Stmt}
/-! ### own lists == [] -/
def dOwnEq (i : Nat) : DE := fun ρ => match ρ[i]? with
  | some (.own ds) => (toP (.lst ds)).bind fun p => if SeqAt.shaped p then some (.bl (ds.isEmpty)) else none
  | _ => none
theorem d_ownEq (i : Nat) {x : Str} {k : Nat} {p1 p2 : Pos} (hr : Room k X.A) (hN : X.N[i]? = some x := by rfl) (hv : Vis X.env.scope x := by first | exact Or.inl rfl | exact Or.inr (Or.inl rfl) | exact Or.inr (Or.inr rfl))
    (hd : (x == ("__debug__" : Str)) = false := by decide +kernel) (hcd : (x == ("__classdict__" : Str)) = false := by decide +kernel) : PE X (.Compare (.Name x p1) [.Eq] [.List [] p2] pos) (tD X.K c (dOwnEq i)) :=
  (pe_cmpR (op_eqD hr.units) (pe_var hN hv hd hcd) (pe_lst pa_nil) (nomark _)).imp fun σ H Q ⟨G, ρ, d, s, sl, e, k⟩ => by
    unfold dOwnEq at e
    split at e
    · rename_i ds q
      obtain ⟨p, ep, e⟩ := Option.bind_eq_some_iff.mp e
      split at e
      · rename_i hs
        cases e
        obtain ⟨pa, vs, a1, a2, a3, a4⟩ := sl.own i ds q
        unfold toP at ep
        obtain ⟨ps, e1, rfl⟩ := Option.map_eq_some_iff.mp ep
        refine ⟨_, a1, by show 0 ≤ sizeLine; decide, fun p hp => ⟨.list ps, .list [], ?_, .lst (SqL.of upd_same) .nil, hs, by decide, ?_⟩⟩
        · exact .lst (SqL.of (by rw [upd_ne (ne_of_none a3 hp)]; exact a3)) (toPL_Dp (s.s.trans (Same.new hp)) a4 e1)
        · rw [eqv_nil, toPL_len e1]
          exact k _ G _ (.add s hp True.intro) rfl
      · cases e
    · cases e
theorem d_townEq (i : Nat) {x : Str} {k : Nat} {p1 p2 : Pos} (hr : Room k X.A) (hN : X.N[i]? = some x := by rfl) (hv : Vis X.env.scope x := by first | exact Or.inl rfl | exact Or.inr (Or.inl rfl) | exact Or.inr (Or.inr rfl))
    (hd : (x == ("__debug__" : Str)) = false := by decide +kernel) (hcd : (x == ("__classdict__" : Str)) = false := by decide +kernel) : PT X (.Compare (.Name x p1) [.Eq] [.List [] p2] pos) (tDT X.K c (asB (dOwnEq i))) :=
  (pt_cmpR (op_eqD hr.units) (pe_var hN hv hd hcd) (pe_lst pa_nil) (nomark _)).imp fun σ H Q ⟨G, ρ, b, s, sl, e, k⟩ => by
    have e := asB_some e
    unfold dOwnEq at e
    split at e
    · rename_i ds q
      obtain ⟨p, ep, e⟩ := Option.bind_eq_some_iff.mp e
      split at e
      · rename_i hs
        cases e
        obtain ⟨pa, vs, a1, a2, a3, a4⟩ := sl.own i ds q
        unfold toP at ep
        obtain ⟨ps, e1, rfl⟩ := Option.map_eq_some_iff.mp ep
        refine ⟨_, a1, by show 0 ≤ sizeLine; decide, fun p hp => ⟨.list ps, .list [], ?_, .lst (SqL.of upd_same) .nil, hs, by decide, ?_⟩⟩
        · exact .lst (SqL.of (by rw [upd_ne (ne_of_none a3 hp)]; exact a3)) (toPL_Dp (s.s.trans (Same.new hp)) a4 e1)
        · rw [eqv_nil, toPL_len e1]
          exact ⟨_, rfl, k G _ (.add s hp True.intro)⟩
      · cases e
    · cases e

/-! ### an __init__ that asks and stores -/
inductive IStep where
  | chk (F : DS) | sto (f : Str) (g : DE)
def noOwn (ρ : Sl) : Bool := ρ.all fun | .own _ => false | _ => true
theorem noOwn_ok {ρ : Sl} (h : noOwn ρ = true) (i : Nat) (ds : List D) : ρ[i]? ≠ some (.own ds) := fun e => by
  have := List.all_eq_true.mp h _ (List.mem_of_getElem? e)
  cases this
def evalI (x : Addr) : List IStep → Sl → Option (List D)
  | [], _ => some []
  | .chk F :: r, ρ => match F ρ with
    | some (.nx ρ') => if noOwn ρ' then evalI x r ρ' else none
    | _ => none
  | .sto _ g :: r, ρ => match ρ[(0 : Nat)]? with
    | some (.val (.raw (.ref y))) => if y = x then (g ρ).bind fun d => (evalI x r ρ).map fun ds => d :: ds else none
    | _ => none
def stoN : List IStep → List Str
  | [] => []
  | .chk _ :: r => stoN r
  | .sto f _ :: r => f :: stoN r
theorem putF_new (f : Str) (v : V) : ∀ fs : List (Str × V), fs.lookup f = none → putF f v fs = fs ++ [(f, v)]
  | [], _ => rfl
  | (g, x) :: r, h => by
    rw [List.lookup_cons] at h
    cases q : f == g with
    | true => rw [q] at h; cases h
    | false =>
      rw [q] at h
      have hne : ¬ g = f := fun z => by subst z; rw [beq_self_eq_true] at q; cases q
      show (if g = f then _ else _) = _
      rw [if_neg hne, putF_new f v r h]
      rfl
theorem lookup_app {f : Str} : ∀ {fs gs : List (Str × V)}, fs.lookup f = none → (fs ++ gs).lookup f = gs.lookup f
  | [], _, _ => rfl
  | (g, x) :: r, gs, h => by
    rw [List.lookup_cons] at h
    rw [List.cons_append, List.lookup_cons]
    cases q : f == g with
    | true => rw [q] at h; cases h
    | false => rw [q] at h; exact lookup_app h
structure InI (K : PySem.W.Frag) (c : Cf) (C : Addr) (as : List IStep) (x dx : Addr) (G0 : Gh) (H0 : Hp) (G : Gh) (H : Hp) (ρ : Sl) (σ : St) (fs : List (Str × V)) (ds : List D) : Prop where
  n0 : H0 x = none
  gx : G x = none
  hx : H x = some (.ins C dx fs)
  gr : Gr c G0 H0 G H
  sl : Slots K c G H ρ σ
  no : noOwn ρ = true
  ln : fs.length + (stoN as).length < 1000
  nd : (stoN as).Nodup
  nw : ∀ f ∈ stoN as, fs.lookup f = none
  ev : evalI x as ρ = some ds
def tI (K : PySem.W.Frag) (c : Cf) (C : Addr) (as : List IStep) : TS := fun E σ H => ∃ x dx G0 H0 G ρ fs ds, InI K c C as x dx G0 H0 G H ρ σ fs ds ∧
  ∀ σ' G' H' vs, Gr c G0 H0 G' H' → G' x = none → H' x = some (.ins C dx (fs ++ (stoN as).zip vs)) → vs.length = (stoN as).length → RepL K c G' ds vs → SameG G G' → E.nx σ' H'
variable {C : Addr} {as : List IStep}
theorem ii_nil : PSs X [] (tI K c C []) := pss_nil.imp fun E σ H ⟨x, dx, G0, H0, G, ρ, fs, ds, I, k⟩ => by
  have := I.ev
  cases this
  exact k σ G H [] I.gr I.gx (by rw [I.hx]; simp [stoN]) rfl rfl (.refl _)
theorem ii_chk {F : DS} (h1 : PS X st (tS K c F)) (h2 : PSs X sts (tI K c C as)) : PSs X (st :: sts) (tI K c C (.chk F :: as)) := (pss_cons h1 h2).imp fun E σ H ⟨x, dx, G0, H0, G, ρ, fs, ds, I, k⟩ => by
  have ev := I.ev
  unfold evalI at ev
  split at ev
  case h_2 => cases ev
  rename_i ρ' q
  split at ev
  case isFalse => cases ev
  rename_i hn
  refine ⟨G, H, ρ, _, ⟨G, .refl I.gr.s, I.sl, fun i es p e _ => (noOwn_ok I.no i es e).elim⟩, q, fun σ' H' ⟨G', h'⟩ => ?_⟩
  exact ⟨x, dx, G0, H0, G', ρ', fs, ds, ⟨I.n0, h'.gr.f x _ I.hx I.gx, h'.gr.hi I.hx, I.gr.trans h'.gr, h'.sl, hn, I.ln, I.nd, I.nw, ev⟩, fun σ2 G2 H2 vs a1 a2 a3 a4 a5 a6 => k σ2 G2 H2 vs a1 a2 a3 a4 a5 (h'.gr.g.trans a6)⟩
theorem ii_sto {f x0 : Str} {g : DE} {p1 p2 : Pos} (he : PE X e (tD K c g)) (hC : Cls X.K C) (hA : NoAttr X.K C f) (h2 : PSs X sts (tI K c C as))
    (hN : X.N[0]? = some x0 := by rfl) (hv : Vis X.env.scope x0 := by first | exact Or.inl rfl | exact Or.inr (Or.inl rfl) | exact Or.inr (Or.inr rfl))
    (hd : (x0 == ("__debug__" : Str)) = false := by decide +kernel) (hcd : (x0 == ("__classdict__" : Str)) = false := by decide +kernel)
    (hs : swapsWith e (some (.Attribute (.Name x0 p1) f p2)) pos.line X.env = pure false := by rfl) :
    PSs X (.Assign [.Attribute (.Name x0 p1) f p2] e pos :: sts) (tI K c C (.sto f g :: as)) := (pss_cons (ps_fld (pe_var hN hv hd hcd) he hs) h2).imp fun E σ H ⟨x, dx, G0, H0, G, ρ, fs, ds, I, k⟩ => by
  have ev := I.ev
  unfold evalI at ev
  split at ev
  case h_2 => cases ev
  rename_i y qy
  split at ev
  case isFalse => cases ev
  rename_i hyx
  subst hyx
  obtain ⟨d, ed, ev⟩ := Option.bind_eq_some_iff.mp ev
  obtain ⟨ds', ev2, rfl⟩ := Option.map_eq_some_iff.mp ev
  have nw := I.nw f (List.mem_cons_self ..)
  have ln : fs.length + ((stoN as).length + 1) < 1000 := I.ln
  have nd := List.nodup_cons.mp (show (f :: stoN as).Nodup from I.nd)
  refine ⟨G, ρ, d, I.gr.s, I.sl, ed, fun v G1 H1 g1 r1 => ?_⟩
  obtain ⟨w, hw, rw'⟩ := I.sl.val 0 _ qy
  have rw' : w = .ref y := rw'
  subst rw'
  have hx1 := g1.hi I.hx
  have gx1 := g1.f y _ I.hx I.gx
  have gr1 := I.gr.trans g1
  refine ⟨.ref y, hw, y, C, dx, fs, rfl, hx1, hC, hA, by omega, ?_⟩
  rw [putF_new f v fs nw]
  have gr2 := gr1.chI (fs' := fs ++ [(f, v)]) I.n0 gx1 hx1
  refine ⟨y, dx, G0, H0, G1, ρ, _, ds', ⟨I.n0, gx1, upd_same, gr2, ?_, I.no, by rw [List.length_append]; simp only [List.length_cons, List.length_nil]; omega, nd.2, fun f' hf' => ?_, ev2⟩, fun σ' G' H' vs g2 gx2 hx2 l2 r2 sm2 => ?_⟩
  · exact ⟨I.sl.len, fun i d e => let ⟨v, a, b⟩ := I.sl.val i d e; ⟨v, a, b.mono g1.g⟩, fun i ds e => (noOwn_ok I.no i ds e).elim, fun i _ ds _ _ e _ _ _ => (noOwn_ok I.no i ds e).elim⟩
  · rw [lookup_app (I.nw f' (List.mem_cons_of_mem _ hf')), List.lookup_cons]
    have hb : (f' == f) = false := beq_eq_false_iff_ne.mpr fun z => nd.1 (z ▸ hf')
    rw [hb]
    rfl
  · refine k σ' G' H' (v :: vs) g2 gx2 (by rw [hx2]; simp [stoN]) (by simp [stoN, l2]) ⟨v, vs, rfl, r1.mono sm2, r2⟩ (g1.g.trans sm2)
variable {P : Program} {w : World} {mg : Str → Option Value} {base : Heap}
theorem okI {x qual : Str} {f : Addr} {fd : FuncData} {N ps : List Str} {k n m nn : Nat} {F : List D → Option (List D)} (Fn : DFun K x qual st f fd) (S : FnScope N ps (defScope st)) (hn : N.length = nn) (hm : ps.length = m + 1) (hs : stoN as = c.nm n) (hnd : (c.nm n).Nodup) (hln : (c.nm n).length < 1000)
    (hF : ∀ (y : Addr) (ds fs : List D), ds.length = m → F ds = some fs → noOwn (startD nn (.raw (.ref y) :: ds)) = true ∧ evalI y as (startD nn (.raw (.ref y) :: ds)) = some fs)
    (hbody : ∀ (cdv : Value) (A : Around) (outer : List Env) (s : Shared) (H : Hp) (E : XK), Room k (A.deeper (PyProof.Rows.envOfC qual (defScope st) s.heap.objs.size f cdv)) →
      PSs (cxOf CX0 P w K mg base N qual (defScope st) f cdv A outer s H E).nox (defBody st) (tI K c (c.cl n) as)) : FnOk P w K mg base CX0 (k + 1) f fd ps (spI K c n m F) := by
  subst hn
  refine Fn.ok S (fun vs H Q E h => ?_) (fun cdv A outer s H vs Q E hr h => ?_)
  · obtain ⟨y, dx, us, G, H0, ds, fs, rfl, _, _, _, _, _, r, hl, _⟩ := h
    rw [List.length_cons, r.length, hl, hm]
  · obtain ⟨y, dx, us, G, H0, ds, fs, rfl, hx, hdx, ne, rfl, sm, r, hl, e, kk⟩ := h
    obtain ⟨e1, e2⟩ := hF y ds fs hl e
    refine ⟨_, hbody cdv A outer s _ E hr, ?_⟩
    have g := Gr.addI (C := c.cl n) (fs := []) sm hx hdx ne
    refine ⟨y, dx, G, H0, G, _, [], fs, ⟨hx, sm.none hx, upd_same, g, slots_start (K := K) (c := c) (n := N.length) (ds := .raw (.ref y) :: ds) ⟨_, us, rfl, rfl, r⟩, e1, by rw [hs]; simpa using hln, by rw [hs]; exact hnd, fun _ _ => rfl, e2⟩, fun σ' G' H' vs g2 gx h2 l2 r2 _ => ?_⟩
    rw [hs] at h2 l2
    exact kk G' H' vs g2 h2 gx l2 r2
end
end DL
set_option maxRecDepth 100000
namespace DL
open PySem L2
/-! ### dicts that keep what was told -/
theorem valV_one {k : Key} : ∀ {k0 : List (Key × V)}, valV (k0.map fun q => ([q.1], q.2)) [k] = valV k0 k
  | [] => rfl
  | q :: k0 => by
    by_cases h : q.1 = k
    · rw [List.map_cons, valV_pos (p := ([q.1], q.2)) (by rw [h]), valV_pos h]
    · rw [List.map_cons, valV_neg (p := ([q.1], q.2)) (by intro z; exact h (List.cons.inj z).1), valV_neg h, valV_one]
theorem putK_one {k : Key} {w : V} {k0 : List (Key × V)} : putK (k0.map fun q => ([q.1], q.2)) [k] w = (putK k0 k w).map fun q => ([q.1], q.2) := by
  unfold putK
  have e : ((k0.map fun q => (([q.1], q.2) : List Key × V)).any fun kv => decide (kv.1 = [k])) = k0.any fun kv => decide (kv.1 = k) := by
    rw [List.any_map]
    congr 1
    funext q
    simp
  rw [e]
  split
  · rw [List.map_map, List.map_map]
    apply List.map_congr_left
    intro q _
    by_cases h : q.1 = k
    · simp [h]
    · simp [h]
  · rw [List.map_append]
    rfl
def keysD : List D → Option (List Key)
  | [] => some []
  | d :: ds => (keyD d).bind fun k => (keysD ds).map fun l => k :: l
theorem keyD_rep {K : PySem.W.Frag} {c : Cf} {G : Gh} {d : D} {v : V} {k : Key} (h : keyD d = some k) (r : Rep K c G d v) : v = kV k := by
  unfold keyD at h
  split at h
  · cases h; exact r
  · cases h; exact r
  · cases h
theorem keysD_rep {K : PySem.W.Frag} {c : Cf} {G : Gh} : ∀ {ds : List D} {vs : List V} {l : List Key}, keysD ds = some l → RepL K c G ds vs → vs = l.map kV
  | [], _, _, h, r => by cases h; cases r; rfl
  | d :: ds, _, l, h, r => by
    obtain ⟨k, e1, h⟩ := Option.bind_eq_some_iff.mp h
    obtain ⟨l', e2, rfl⟩ := Option.map_eq_some_iff.mp h
    obtain ⟨v, q, rfl, h1, h2⟩ := r
    rw [keyD_rep e1 h1, keysD_rep e2 h2]
    rfl
def memIx (ks : List (List Key)) (xs : List D) (k : List Key) : Option D := ((ks.zip xs).find? fun q => decide (q.1 = k)).map (·.2)
theorem memIx_at {k : List Key} {x : D} : ∀ {ks : List (List Key)} {xs : List D}, memIx ks xs k = some x → ∃ j : Nat, ks[j]? = some k ∧ xs[j]? = some x
  | [], _, h => by simp [memIx] at h
  | _ :: _, [], h => by simp [memIx] at h
  | l :: ks, y :: xs, h => by
    by_cases z : l = k
    · refine ⟨0, by simp [z], ?_⟩
      unfold memIx at h
      rw [List.zip_cons_cons, List.find?_cons] at h
      simp [z] at h
      simp [h]
    · have h' : memIx ks xs k = some x := by
        unfold memIx at h ⊢
        rw [List.zip_cons_cons, List.find?_cons] at h
        simpa [z] using h
      obtain ⟨j, h1, h2⟩ := memIx_at h'
      exact ⟨j + 1, by simpa using h1, by simpa using h2⟩
@[simp] theorem memIx_hd {k : List Key} {x : D} {ks : List (List Key)} {xs : List D} : memIx (k :: ks) (x :: xs) k = some x := by
  simp [memIx]
section
variable {X : Cx} {K : PySem.W.Frag} {c : Cf} {e a b : Expr} {es : List Expr} {pos : Pos} {st : Stmt} {sts : List Stmt}
/-- {}: a dict that keeps, of a sort, belonging to what a ghost tells -/
def dMem (i : Nat) (g : DE) : DE := fun ρ => (g ρ).map fun d => .mem i d [] []
theorem rep_mem0 {G : Gh} {p : Addr} {i : Nat} {d : D} : Rep K c (G.mem p i d) (.mem i d [] []) (.ref p) := ⟨p, [], rfl, if_pos rfl, rfl, rfl, by simp, by simp⟩
theorem d_memK {i : Nat} {g : DE} (hk : c.tk i = false) (hu : ∀ d, (c.um i d).length ≤ 100000) : PE X (.Dict [] [] pos) (tD K c (dMem i g)) := pe_dnewK.imp fun σ H Q ⟨G, ρ, d, s, sl, e, k⟩ p hp => by
  unfold dMem at e
  obtain ⟨d0, e0, rfl⟩ := Option.map_eq_some_iff.mp e
  exact k (.ref p) (G.mem p i d0) _ (Gr.newM s hp (by rw [hk]; exact .k []) (hu d0)) rep_mem0
theorem d_memT {i : Nat} {g : DE} (hk : c.tk i = true) (hu : ∀ d, (c.um i d).length ≤ 100000) : PE X (.Dict [] [] pos) (tD K c (dMem i g)) := pe_dnewT.imp fun σ H Q ⟨G, ρ, d, s, sl, e, k⟩ p hp => by
  unfold dMem at e
  obtain ⟨d0, e0, rfl⟩ := Option.map_eq_some_iff.mp e
  exact k (.ref p) (G.mem p i d0) _ (Gr.newM s hp (by rw [hk]; exact .t []) (hu d0)) rep_mem0
/-- what is known to be kept -/
theorem mem_get {G : Gh} {H : Hp} {i : Nat} {d : D} {ks : List (List Key)} {xs : List D} {u : V} {k : List Key} {x : D} (s : Sm c G H) (r : Rep K c G (.mem i d ks xs) u) (h : memIx ks xs k = some x) :
    ∃ p kvs o w, u = .ref p ∧ MemOk c G H p i d kvs o ∧ valV kvs k = some w ∧ Rep K c G x w := by
  obtain ⟨p, vs, rfl, hm, hl, rr, he, hf⟩ := r
  obtain ⟨kvs, o, q⟩ := s.k p i d hm
  obtain ⟨j, h1, h2⟩ := memIx_at h
  obtain ⟨w, h3, h4⟩ := rr.get h2
  exact ⟨p, kvs, o, w, rfl, q, q.kn k w (he j k w h1 h3), h4⟩
/-- d[k] -/
def opMixK (i0 : Nat) (x y : D) : Option D := match x with
  | .mem i _ ks xs => if i = i0 then (keyD y).bind fun k => memIx ks xs [k] else none
  | _ => none
theorem opMixK_some {i0 : Nat} {x y z : D} (h : opMixK i0 x y = some z) : ∃ d ks xs k, x = .mem i0 d ks xs ∧ keyD y = some k ∧ memIx ks xs [k] = some z := by
  cases x with
  | mem i d ks xs =>
    unfold opMixK at h
    dsimp only at h
    split at h
    · rename_i q
      subst q
      obtain ⟨k, h1, h2⟩ := Option.bind_eq_some_iff.mp h
      exact ⟨d, ks, xs, k, rfl, h1, h2⟩
    · cases h
  | _ => cases h
theorem d_mixK {k i0 : Nat} {f g : DE} (hr : Room k X.A) (hk : c.tk i0 = false) (ho : PE X a (tD K c f)) (hi : PE X b (tD K c g)) (hs : NoSl b := by exact fun _ _ => rfl) : PE X (.Subscript a b pos) (tD K c (dOp (opMixK i0) f g)) :=
  (pe_dget (by have := hr.units; omega) ho hi hs).imp fun σ H Q ⟨G, ρ, d, s, sl, e, k⟩ => by
    unfold dOp at e
    obtain ⟨x, ex, e⟩ := Option.bind_eq_some_iff.mp e
    obtain ⟨y, ey, e⟩ := Option.bind_eq_some_iff.mp e
    obtain ⟨d0, ks, xs, k0, rfl, ek, em⟩ := opMixK_some e
    refine ⟨G, ρ, _, s, sl, ex, fun u G1 H1 g1 r1 => ⟨G1, ρ, y, g1.s, sl.step g1, ey, fun w G2 H2 g2 r2 => ?_⟩⟩
    obtain ⟨p, kvs, o, v, rfl, q, hv, rv⟩ := mem_get g2.s (r1.mono g2.g) em
    have ew := keyD_rep ek r2
    subst ew
    have ho := q.ho
    have ob := q.ob
    rw [hk] at ob
    cases ob with
    | k kv0 =>
      rw [valV_one] at hv
      refine ⟨p, v, rfl, ?_, k v G2 H2 (g1.trans g2) rv⟩
      rw [← hv]
      exact DGet.k ho
/-- d[k1, k2] -/
def opMixT (i0 : Nat) (x : D) (ds : List D) : Option D := match x with
  | .mem i _ ks xs => if i = i0 ∧ ds.length ≤ 100000 then (keysD ds).bind fun k => memIx ks xs k else none
  | _ => none
theorem opMixT_some {i0 : Nat} {x z : D} {ds : List D} (h : opMixT i0 x ds = some z) : ∃ d ks xs k, x = .mem i0 d ks xs ∧ ds.length ≤ 100000 ∧ keysD ds = some k ∧ memIx ks xs k = some z := by
  cases x with
  | mem i d ks xs =>
    unfold opMixT at h
    dsimp only at h
    split at h
    · rename_i q
      obtain ⟨q, ql⟩ := q
      subst q
      obtain ⟨k, h1, h2⟩ := Option.bind_eq_some_iff.mp h
      exact ⟨d, ks, xs, k, rfl, ql, h1, h2⟩
    · cases h
  | _ => cases h
def dMixT (i0 : Nat) (f : DE) (g : DA) : DE := fun ρ => (f ρ).bind fun x => (g ρ).bind fun ds => opMixT i0 x ds
theorem d_mixT {k i0 : Nat} {f : DE} {g : DA} {x1} {p1 : Pos} (hr : Room k X.A) (hk : c.tk i0 = true) (ho : PE X a (tD K c f)) (hi : PA X es (tDA K c g)) (hs : NoSl (.Tuple es x1 p1) := by exact fun _ _ => rfl) : PE X (.Subscript a (.Tuple es x1 p1) pos) (tD K c (dMixT i0 f g)) :=
  (pe_dget (by have := hr.units; omega) ho (pe_tup hi) hs).imp fun σ H Q ⟨G, ρ, d, s, sl, e, k⟩ => by
    unfold dMixT at e
    obtain ⟨x, ex, e⟩ := Option.bind_eq_some_iff.mp e
    obtain ⟨ds, ey, e⟩ := Option.bind_eq_some_iff.mp e
    obtain ⟨d0, ks, xs, k0, rfl, hl, ek, em⟩ := opMixT_some e
    refine ⟨G, ρ, _, s, sl, ex, fun u G1 H1 g1 r1 => ⟨G1, ρ, ds, g1.s, sl.step g1, ey, fun vs G2 H2 g2 r2 => ⟨by rw [r2.length]; exact line100 hl, fun b hb => ?_⟩⟩⟩
    have g3 := Gr.add (c := c) (o := .tup vs) g2.s hb True.intro
    obtain ⟨p, kvs, o, v, rfl, q, hv, rv⟩ := mem_get g3.s (r1.mono g2.g) em
    have ew := keysD_rep ek r2
    subst ew
    have ho := q.ho
    have ob := q.ob
    rw [hk] at ob
    cases ob with
    | t kvs =>
      refine ⟨p, v, rfl, ?_, k v G2 _ ((g1.trans g2).trans g3) rv⟩
      rw [← hv]
      exact DGet.t ho upd_same
/-- the slot told anew, of the same value -/
theorem Slots.reval {G G' : Gh} {H H' : Hp} {ρ : Sl} {σ : St} {j : Nat} {d d' : D} {v : V} (h : Slots K c G H ρ σ) (hj : ρ[j]? = some (.val d)) (hv : σ[j]? = some (some v)) (r : Rep K c G d' v) : Slots K c G H (ρ.set j (.val d')) σ := by
  have e : σ.set j (some v) = σ := by
    apply List.ext_getElem?
    intro i
    by_cases z : j = i
    · subst z
      have hl : j < σ.length := (List.getElem?_eq_some_iff.mp hv).1
      rw [List.getElem?_set_self hl, hv]
    · rw [List.getElem?_set_ne z]
  have := h.set (i := j) (d := d') (v := v) r
  rwa [e] at this
open Classical in
/-- if k not in d: d[k] = v; of a name -/
noncomputable def sMemoK (i0 : Nat) (fk : D → List Key → Option D) (uk : D → List (List Key)) (j : Nat) (kf fv : DE) : DS := fun ρ => match ρ[j]?, (kf ρ).bind keyD with
  | some (.val (.mem i d ks xs)), some k => (fk d [k]).bind fun x => if i = i0 ∧ fv ρ = some x ∧ mfree x = true ∧ [k] ∈ uk d then some (.nx (ρ.set j (.val (.mem i d ([k] :: ks) (x :: xs))))) else none
  | _, _ => none
theorem rep_more {G G' : Gh} {p : Addr} {i : Nat} {d x : D} {ks : List (List Key)} {xs : List D} {k : List Key} {w : V} (s : SameG G G') (r : Rep K c G (.mem i d ks xs) (.ref p)) (he : G'.e p k = some w) (rx : Rep K c G' x w) (hx : c.fm i d k = some x) : Rep K c G' (.mem i d (k :: ks) (x :: xs)) (.ref p) := by
  obtain ⟨p', vs, e0, hm, hl, rr, h1, h2⟩ := r
  cases e0
  refine ⟨p, w :: vs, rfl, s.m _ _ hm, by simp [hl], ⟨w, vs, rfl, rx, rr.mono s⟩, fun j k' w' a1 a2 => ?_, fun j k' x' a1 a2 => ?_⟩
  · cases j with
    | zero => simp at a1 a2; subst a1; subst a2; exact he
    | succ j => exact s.e _ _ _ (h1 j k' w' (by simpa using a1) (by simpa using a2))
  · cases j with
    | zero => simp at a1 a2; subst a1; subst a2; exact hx
    | succ j => exact h2 j k' x' (by simpa using a1) (by simpa using a2)
theorem s_memoK {i0 j k : Nat} {fk : D → List Key → Option D} {uk : D → List (List Key)} {kf fv : DE} {xm : Str} {k1 k2 ev : Expr} {p1 p2 p3 p4 p5 p6 : Pos} (hr : Room k X.A) (hcK : c.K = X.K) (hk : c.tk i0 = false) (hf : c.fm i0 = fk) (hu : c.um i0 = uk)
    (hk1 : PE X k1 (tD X.K c kf)) (hk2 : PE X k2 (tD X.K c kf)) (hev : PE X ev (tD X.K c fv)) (nj : X.N[j]? = some xm := by rfl)
    (vj : Vis X.env.scope xm := by first | exact Or.inl rfl | exact Or.inr (Or.inl rfl) | exact Or.inr (Or.inr rfl)) (dj : (xm == ("__debug__" : Str)) = false := by decide +kernel) (cj : (xm == ("__classdict__" : Str)) = false := by decide +kernel)
    (hs1 : swapsWith ev (some (.Subscript (.Name xm p3) k2 p4)) p5.line X.env = pure false := by rfl) (hbh : behindInMarks .NotIn (.Name xm p1) = false := by rfl) :
    PS X (.If (.Compare k1 [.NotIn] [.Name xm p1] p2) [.Assign [.Subscript (.Name xm p3) k2 p4] ev p5] [] p6) (tS X.K c (sMemoK i0 fk uk j kf fv)) := by
  subst hf hu
  refine (ps_if (pt_cmp (pc_dnotin (by have := hr.units; omega) hk1 (pe_var (pos := p1) nj vj dj cj)) hbh) (pss_one (ps_dput (by have := hr.units; omega) (pe_var (pos := p3) nj vj dj cj) hk2 hev hs1)) pss_nil).imp fun E σ H ⟨G0, H0, ρ, o, ⟨G, h⟩, e, kk⟩ => ?_
  unfold sMemoK at e
  split at e
  case h_2 => cases e
  rename_i i d ks xs k0 q1 q2
  obtain ⟨x, hx, e2⟩ := Option.bind_eq_some_iff.mp e
  clear e
  split at e2
  case isFalse => cases e2
  rename_i hh
  obtain ⟨hi, hfv, fx, hU⟩ := hh
  subst hi
  obtain rfl := Option.some.inj e2
  obtain ⟨y, hy, hky⟩ := Option.bind_eq_some_iff.mp q2
  obtain ⟨u, hw, ru⟩ := h.sl.val j _ q1
  have ru0 := ru
  obtain ⟨p, vs, rfl, hm, hl, rr, he, hfm⟩ := ru
  refine ⟨G, ρ, y, h.gr.s, h.sl, hy, fun w G1 H1 g1 r1 => ⟨.ref p, hw, ?_⟩⟩
  have ew := keyD_rep hky r1
  subst ew
  have h1 := h.step g1
  have hm1 := g1.g.m _ _ hm
  obtain ⟨kvs, o1, q⟩ := g1.s.k p i d hm1
  have qob := q.ob
  have qho := q.ho
  rw [hk] at qob
  generalize hkvs : kvs = kvs' at qob
  cases qob with
  | k kv0 =>
    refine ⟨p, valV kv0 k0, rfl, DGet.k qho, _, rfl, ?_⟩
    cases hv : valV kv0 k0 with
    | some w =>
      refine iteF ?_
      have hv' : valV kvs [k0] = some w := by rw [hkvs, valV_one, hv]
      have g2 := Gr.learn g1.s hm1 q hv'
      obtain ⟨x', e1, f1, r1'⟩ := q.en _ _ hv'
      rw [hx] at e1
      cases e1
      rw [hcK] at r1'
      have h2 := h1.step g2
      have lw : (G1.learn p [k0] w).e p [k0] = some w := if_pos ⟨rfl, rfl⟩
      have rm := rep_more (K := X.K) (x := x) (g1.g.trans g2.g) ru0 lw (r1'.mono g2.g) hx
      exact kk σ H1 ⟨_, h2.gr, h2.sl.reval (G' := G) (H' := H) q1 hw rm, fun i' ds p' e1 e2 => by
        rcases set_eq e1 with ⟨rfl, _, z⟩ | ⟨hj, e1⟩
        · cases z
        · exact h2.nw i' ds p' e1 e2⟩
    | none =>
      refine iteT ?_
      have hn : G1.e p [k0] = none := by
        cases z : G1.e p [k0] with
        | none => rfl
        | some w =>
          have := q.kn _ _ z
          rw [hkvs, valV_one, hv] at this
          cases this
      refine ⟨G1, ρ, x, h1.gr.s, h1.sl, hfv, fun v G2 H2 g2 rv => ⟨.ref p, hw, G2, ρ, y, g2.s, h1.sl.step g2, hy, fun w2 G3 H3 g3 r3 => ?_⟩⟩
      have ew := keyD_rep hky r3
      subst ew
      have g23 := g2.trans g3
      have hm3 := g23.g.m _ _ hm1
      obtain ⟨kvs3, o3, q3⟩ := g23.s.k p i d hm3
      have qob3 := q3.ob
      have qho3 := q3.ho
      rw [hk] at qob3
      generalize hkvs3 : kvs3 = kvs3' at qob3
      cases qob3 with
      | k kv3 =>
        have lk : kv3.length < sizeLine := by
          have h1 := q3.ct
          have h2 := q3.ub
          rw [hkvs3] at h1
          have h3 : kv3.length ≤ 100000 := by
            simp only [List.length_map] at h1
            omega
          exact Nat.lt_of_le_of_lt h3 (by decide)
        refine ⟨p, _, rfl, DPut.k qho3 lk, ?_⟩
        have ob' : DObj (c.tk i) (putK kvs3 [k0] v) (.dK (putK kv3 k0 v)) := by
          rw [hk, hkvs3, putK_one]
          exact .k _
        have rx3 : Rep X.K c G3 x v := rv.mono g3.g
        have g4 := Gr.putM g23 hm1 hn q3 ob' hx fx (by rw [hcK]; exact rx3) hU
        have h4 := h1.step g4
        have lw : (G3.learn p [k0] v).e p [k0] = some v := if_pos ⟨rfl, rfl⟩
        have rm := rep_more (K := X.K) (x := x) (g1.g.trans g4.g) ru0 lw (rx3.free (G' := G3.learn p [k0] v) (show Same G3.h (G3.learn p [k0] v).h from Same.refl _) fx) hx
        exact kk σ _ ⟨_, h4.gr, h4.sl.reval (G' := G) (H' := H) q1 hw rm, fun i' ds p' e1 e2 => by
          rcases set_eq e1 with ⟨rfl, _, z⟩ | ⟨hj, e1⟩
          · cases z
          · exact h4.nw i' ds p' e1 e2⟩
end
end DL
set_option maxRecDepth 100000
namespace DL
open PySem L2
section
variable {X : Cx} {K : PySem.W.Frag} {c : Cf} {e a b : Expr} {es : List Expr} {pos : Pos} {st : Stmt} {sts : List Stmt}
open Classical in
/-- if (k1, k2) not in self.f: self.f[k1, k2] = v -/
noncomputable def sMemoFT (i0 : Nat) (fk : D → List Key → Option D) (uk : D → List (List Key)) (att : Nat → Option Nat) (j : Nat) (kg : DA) (fv : DE) : DS := fun ρ => match ρ[j]?, (kg ρ).bind fun ds => if ds.length ≤ 100000 then keysD ds else none with
  | some (.val (.ins n fs)), some k => (att n).bind fun m => match fs[m]? with
    | some (.mem i d ks xs) => (fk d k).bind fun x => if i = i0 ∧ fv ρ = some x ∧ mfree x = true ∧ k ∈ uk d then some (.nx (ρ.set j (.val (.ins n (fs.set m (.mem i d (k :: ks) (x :: xs))))))) else none
    | _ => none
  | _, _ => none
theorem sMemoFT_some {i0 j : Nat} {fk : D → List Key → Option D} {uk : D → List (List Key)} {att : Nat → Option Nat} {kg : DA} {fv : DE} {ρ : Sl} {o : Out} (h : sMemoFT i0 fk uk att j kg fv ρ = some o) :
    ∃ n fs ds k m d ks xs x, ρ[j]? = some (.val (.ins n fs)) ∧ kg ρ = some ds ∧ ds.length ≤ 100000 ∧ keysD ds = some k ∧ att n = some m ∧ fs[m]? = some (.mem i0 d ks xs) ∧ fk d k = some x ∧ fv ρ = some x ∧ mfree x = true ∧ k ∈ uk d ∧ o = .nx (ρ.set j (.val (.ins n (fs.set m (.mem i0 d (k :: ks) (x :: xs)))))) := by
  unfold sMemoFT at h
  split at h
  case h_2 => cases h
  rename_i n fs k q1 q2
  obtain ⟨ds, e1, q2'⟩ := Option.bind_eq_some_iff.mp q2
  split at q2'
  case isFalse => cases q2'
  rename_i hl
  obtain ⟨m, e2, h2⟩ := Option.bind_eq_some_iff.mp h
  clear h
  split at h2
  case h_2 => cases h2
  rename_i i d ks xs q3
  obtain ⟨x, e3, h3⟩ := Option.bind_eq_some_iff.mp h2
  clear h2
  split at h3
  case isFalse => cases h3
  rename_i hh
  obtain ⟨rfl, e4, e5, e6⟩ := hh
  exact ⟨n, fs, ds, k, m, d, ks, xs, x, q1, e1, hl, q2', e2, q3, e3, e4, e5, e6, (Option.some.inj h3).symm⟩
theorem s_memoFT {i0 j k : Nat} {fk : D → List Key → Option D} {uk : D → List (List Key)} {att : Nat → Option Nat} {kg : DA} {fv : DE} {xm f : Str} {es1 es2 : List Expr} {ev : Expr} {x1 x2} {p0 p1 p2 p3 p4 p5 p6 p7 p8 p9 : Pos} (hr : Room k X.A) (hcK : c.K = X.K) (hk : c.tk i0 = true) (hf : c.fm i0 = fk) (hu : c.um i0 = uk) (hF : FldOk X.K c f att)
    (hk1 : PA X es1 (tDA X.K c kg)) (hk2 : PA X es2 (tDA X.K c kg)) (hev : PE X ev (tD X.K c fv)) (nj : X.N[j]? = some xm := by rfl)
    (vj : Vis X.env.scope xm := by first | exact Or.inl rfl | exact Or.inr (Or.inl rfl) | exact Or.inr (Or.inr rfl)) (dj : (xm == ("__debug__" : Str)) = false := by decide +kernel) (cj : (xm == ("__classdict__" : Str)) = false := by decide +kernel)
    (hb1 : attributeBase (.Name xm p1) f X.env (eval (.Name xm p1) X.env) = eval (.Name xm p1) X.env := by rfl) (hb2 : attributeBase (.Name xm p4) f X.env (eval (.Name xm p4) X.env) = eval (.Name xm p4) X.env := by rfl)
    (hs1 : swapsWith ev (some (.Subscript (.Attribute (.Name xm p4) f p5) (.Tuple es2 x2 p6) p7)) p8.line X.env = pure false := by rfl) (hbh : behindInMarks .NotIn (.Attribute (.Name xm p1) f p2) = false := by rfl) :
    PS X (.If (.Compare (.Tuple es1 x1 p0) [.NotIn] [.Attribute (.Name xm p1) f p2] p3) [.Assign [.Subscript (.Attribute (.Name xm p4) f p5) (.Tuple es2 x2 p6) p7] ev p8] [] p9) (tS X.K c (sMemoFT i0 fk uk att j kg fv)) := by
  subst hf hu
  have fE1 := pe_fld (f := f) (pos := p2) (pe_var (X := X) (pos := p1) nj vj dj cj) hb1
  have fE2 := pe_fld (f := f) (pos := p5) (pe_var (X := X) (pos := p4) nj vj dj cj) hb2
  refine (ps_if (pt_cmp (pc_dnotin (by have := hr.units; omega) (pe_tup hk1) fE1) hbh) (pss_one (ps_dput (by have := hr.units; omega) fE2 (pe_tup hk2) hev hs1)) pss_nil).imp fun E σ H ⟨G0, H0, ρ, o, ⟨G, h⟩, e, kk⟩ => ?_
  obtain ⟨n, fs, ds, k0, m, d, ks, xs, x, q1, hy, hl, hky, ha, q3, hx, hfv, fx, hU, rfl⟩ := sMemoFT_some e
  clear e
  obtain ⟨hC, hA, hnd, hnm⟩ := hF n m ha
  obtain ⟨u, hw, ru⟩ := h.sl.val j _ q1
  obtain ⟨q, dx, vs, rfl, hq, hlen, rr⟩ := ru
  obtain ⟨u, hvm, ru⟩ := rr.get q3
  have lk := lookup_zip hnd hnm hvm
  have ru0 := ru
  obtain ⟨p, ws, rfl, hm, _, _, he, hfm⟩ := ru
  have fin : ∀ (G' : Gh), SameG G G' → Rep X.K c G' (.mem i0 d (k0 :: ks) (x :: xs)) (.ref p) → Rep X.K c G' (.ins n (fs.set m (.mem i0 d (k0 :: ks) (x :: xs)))) (.ref q) := fun G' s r => by
    refine ⟨q, dx, vs, rfl, s _ _ hq, hlen, ?_⟩
    have := (rr.mono s).set (i := m) r
    have e : vs.set m (.ref p) = vs := by
      apply List.ext_getElem?
      intro i
      by_cases z : m = i
      · subst z
        have hl : m < vs.length := (List.getElem?_eq_some_iff.mp hvm).1
        rw [List.getElem?_set_self hl, hvm]
      · rw [List.getElem?_set_ne z]
    rwa [e] at this
  refine ⟨G, ρ, ds, h.gr.s, h.sl, hy, fun us G1 H1 g1 r1 => ⟨by rw [r1.length]; exact line100 hl, fun b hb => ?_⟩⟩
  have ew := keysD_rep hky r1
  subst ew
  have ga := g1.trans (Gr.add (c := c) (o := .tup (k0.map kV)) g1.s hb True.intro)
  refine ⟨.ref q, hw, q, c.cl n, dx, _, _, rfl, ga.s _ _ (ga.g _ _ hq), hC, hA, lk, ?_⟩
  have h1 := h.step ga
  have hm1 := ga.g.m _ _ hm
  obtain ⟨kvs, o1, qm⟩ := ga.s.k p i0 d hm1
  have qob := qm.ob
  have qho := qm.ho
  rw [hk] at qob
  generalize hkvs : kvs = kvs' at qob
  cases qob with
  | t kv0 =>
    subst hkvs
    refine ⟨p, valV kvs k0, rfl, DGet.t qho upd_same, _, rfl, ?_⟩
    cases hv : valV kvs k0 with
    | some w =>
      refine iteF ?_
      have g2 := Gr.learn ga.s hm1 qm hv
      obtain ⟨x', e1, f1, r1'⟩ := qm.en _ _ hv
      rw [hx] at e1
      cases e1
      rw [hcK] at r1'
      have h2 := h1.step g2
      have lw : (G1.learn p k0 w).e p k0 = some w := if_pos ⟨rfl, rfl⟩
      have rm := rep_more (K := X.K) (x := x) (ga.g.trans g2.g) ru0 lw (r1'.mono g2.g) hx
      exact kk σ _ ⟨_, h2.gr, h2.sl.reval (G' := G) (H' := H) q1 hw (fin _ (ga.g.trans g2.g) rm), fun i' ds p' e1 e2 => by
        rcases set_eq e1 with ⟨rfl, _, z⟩ | ⟨hj, e1⟩
        · cases z
        · exact h2.nw i' ds p' e1 e2⟩
    | none =>
      refine iteT ?_
      have hn : G1.e p k0 = none := by
        cases z : G1.e p k0 with
        | none => rfl
        | some w =>
          have := qm.kn _ _ z
          rw [hv] at this
          cases this
      refine ⟨G1, ρ, x, h1.gr.s, h1.sl, hfv, fun v G2 H2 g2 rv => ?_⟩
      have h2 := h1.step g2
      refine ⟨.ref q, hw, q, c.cl n, dx, _, _, rfl, g2.s _ _ (g2.g _ _ (ga.g _ _ hq)), hC, hA, lk, G2, ρ, ds, g2.s, h1.sl.step g2, hy, fun us2 G3 H3 g3 r3 => ⟨by rw [r3.length]; exact line100 hl, fun b2 hb2 => ?_⟩⟩
      have ew := keysD_rep hky r3
      subst ew
      have g23 := (g2.trans g3).trans (Gr.add (c := c) (o := .tup (k0.map kV)) g3.s hb2 True.intro)
      have hm3 := g23.g.m _ _ hm1
      obtain ⟨kvs3, o3, q3'⟩ := g23.s.k p i0 d hm3
      have qob3 := q3'.ob
      have qho3 := q3'.ho
      rw [hk] at qob3
      generalize hkvs3 : kvs3 = kvs3' at qob3
      cases qob3 with
      | t kv3 =>
        subst hkvs3
        have lk3 : kvs3.length < sizeLine := by
          have h1 := q3'.ct
          have h2 := q3'.ub
          exact Nat.lt_of_le_of_lt (show kvs3.length ≤ 100000 by omega) (by decide)
        refine ⟨p, _, rfl, DPut.t qho3 upd_same lk3, ?_⟩
        have ob' : DObj (c.tk i0) (putK kvs3 k0 v) (.dT (putK kvs3 k0 v)) := by
          rw [hk]
          exact .t _
        have rx3 : Rep X.K c G3 x v := rv.mono g3.g
        have g4 := Gr.putM g23 hm1 hn q3' ob' hx fx (by rw [hcK]; exact rx3) hU
        have h4 := h1.step g4
        have lw : (G3.learn p k0 v).e p k0 = some v := if_pos ⟨rfl, rfl⟩
        have rm := rep_more (K := X.K) (x := x) (ga.g.trans g4.g) ru0 lw (rx3.free (G' := G3.learn p k0 v) (show Same G3.h (G3.learn p k0 v).h from Same.refl _) fx) hx
        exact kk σ _ ⟨_, h4.gr, h4.sl.reval (G' := G) (H' := H) q1 hw (fin _ (ga.g.trans g4.g) rm), fun i' ds p' e1 e2 => by
          rcases set_eq e1 with ⟨rfl, _, z⟩ | ⟨hj, e1⟩
          · cases z
          · exact h4.nw i' ds p' e1 e2⟩
end
section
variable {y : Addr} {f : Str} {g : DE} {F : DS} {r : List IStep} {ρ ρ' : Sl} {d : D} {ds : List D}
theorem ev_nil : evalI y [] ρ = some [] := rfl
theorem ev_sto (h0 : ρ[(0 : Nat)]? = some (.val (.raw (.ref y)))) (hg : g ρ = some d) (hr : evalI y r ρ = some ds) : evalI y (.sto f g :: r) ρ = some (d :: ds) := by
  unfold evalI
  rw [h0]
  simp [hg, hr]
theorem ev_chk (hF : F ρ = some (.nx ρ')) (hn : noOwn ρ' = true) (hr : evalI y r ρ' = some ds) : evalI y (.chk F :: r) ρ = some ds := by
  unfold evalI
  rw [hF]
  simp [hn, hr]
theorem drop_ok {h : DE} (e : h ρ = some d) : sDrop h ρ = some (.nx ρ) := by
  unfold sDrop
  rw [e]
  rfl
end
end DL
set_option maxRecDepth 100000
namespace DL
open PySem L2
section
variable {X : Cx} {K : PySem.W.Frag} {c : Cf} {e a b : Expr} {es : List Expr} {pos : Pos} {st : Stmt} {sts : List Stmt}
/-- a sort of dicts that keep -/
structure MemD (c : Cf) (i : Nat) (t : Bool) (fk : D → List Key → Option D) (uk : D → List (List Key)) : Prop where
  tk : c.tk i = t
  fm : c.fm i = fk
  um : c.um i = uk
  ub : ∀ d, (uk d).length ≤ 100000
theorem MemD.ub' {i : Nat} {t : Bool} {fk : D → List Key → Option D} {uk : D → List (List Key)} (h : MemD c i t fk uk) : ∀ d, (c.um i d).length ≤ 100000 := by rw [h.um]; exact h.ub
/-! ### an own list, walked with a test -/
def forT (T : TgD) (t : DB) (F : DS) : List D → DS
  | [], ρ => some (.nx ρ)
  | d :: ds, ρ => (T d).bind fun l => match t (apD ρ l) with
    | some false => forT T t F ds (apD ρ l)
    | some true => (match F (apD ρ l) with
      | some (.rt x) => some (.rt x)
      | some (.ro x) => some (.ro x)
      | _ => none)
    | none => none
/-- for t in x: if test: return .. -/
def sForT (i : Nat) (T : TgD) (t : DB) (F : DS) : DS := fun ρ => match ρ[i]? with
  | some (.own ds) => forT T t F ds ρ
  | _ => none
theorem apD_ne {i : Nat} : ∀ {l : List (Nat × D)} {ρ : Sl}, (∀ q ∈ l, q.1 ≠ i) → (apD ρ l)[i]? = ρ[i]?
  | [], _, _ => rfl
  | (j, d) :: l, ρ, h => by
    unfold apD
    rw [apD_ne fun q hq => h q (List.mem_cons_of_mem _ hq)]
    exact List.getElem?_set_ne (h (j, d) (List.mem_cons_self ..))
theorem s_forT {i : Nat} {x : Str} {tg c1 : Expr} {ret : List Stmt} {T : TgD} {t : DB} {F : DS} {p1 p2 : Pos} (hp : PassesOwn (model X.prog X.w) X.A X.env X.xe) (hc : X.calm = true) (hg : PG X tg (tG X.K c T)) (ht : PT X c1 (tDT X.K c t)) (hF : PSs X ret (tS X.K c F)) (hN : X.N[i]? = some x := by rfl) (hv : Vis X.env.scope x := by first | exact Or.inl rfl | exact Or.inr (Or.inl rfl) | exact Or.inr (Or.inr rfl))
    (hd : (x == ("__debug__" : Str)) = false := by decide +kernel) (hcd : (x == ("__classdict__" : Str)) = false := by decide +kernel) (hs : ∀ z, foldedSetIterable (.Name x p1) X.env z = pure z := by intro _; rfl) :
    PS X (.For tg (.Name x p1) [.If c1 ret [] p2] [] pos) (tS X.K c (sForT i T t F)) := by
  refine (ps_for hp hc (pi_list (pe_var (pos := p1) hN hv hd hcd)) hg (pss_one (ps_if (pos := p2) ht hF pss_nil)) hs).imp fun E σ H ⟨G0, H0, ρ, o, ⟨G, h⟩, e, k⟩ => ?_
  unfold sForT at e
  split at e
  case h_2 => cases e
  rename_i ds hds
  obtain ⟨p, vs, hw, hG, hH, hr⟩ := h.sl.own i ds hds
  refine ⟨.ref p, hw, p, rfl, ⟨vs, SqL.of hH⟩, fun j m σ' H' => m = ds.length - j ∧ j ≤ ds.length ∧ ∃ G' ρ', StG X.K c G0 H0 G' H' ρ' σ' ∧ SameG G G' ∧ H' p = some (.lst vs) ∧ forT T t F (ds.drop j) ρ' = some o, ⟨_, rfl, Nat.zero_le _, G, ρ, h, .refl _, hH, e⟩, ?_⟩
  rintro j m σ' H' ⟨rfl, hj, G', ρ', h', sg, hH', e'⟩
  by_cases hlt : j < ds.length
  · obtain ⟨v, hvj, rv⟩ := hr.get (i := j) (d := ds[j]) (by simp [hlt])
    refine .inr ⟨⟨vs, v, SqL.of hH', hvj⟩, fun σ2 H2 => ∃ G2 ρ2, StG X.K c G0 H0 G2 H2 ρ2 σ2 ∧ SameG G G2 ∧ H2 p = some (.lst vs) ∧ forT T t F (ds.drop (j + 1)) ρ2 = some o, fun σ2 H2 q => ⟨_, by omega, rfl, hlt, q⟩, fun x' H2 ⟨y1, y2⟩ => ?_⟩
    subst y1
    have ex := y2 vs (SqL.of hH')
    rw [hvj] at ex
    cases ex
    rw [List.drop_eq_getElem_cons hlt] at e'
    unfold forT at e'
    obtain ⟨l, hl, e'⟩ := Option.bind_eq_some_iff.mp e'
    refine ⟨G', ds[j], l, h'.gr.s, rv.mono sg, hl, fun us ru => ?_⟩
    have hB := h'.ap ru
    split at e'
    · rename_i q
      refine ⟨G', apD ρ' l, false, hB.gr.s, hB.sl, q, fun G3 H3 g3 => ?_⟩
      refine iteF ?_
      have h3 := hB.step g3
      exact ⟨G3, _, h3, sg.trans g3.g, g3.hl hH', e'⟩
    · rename_i q
      refine ⟨G', apD ρ' l, true, hB.gr.s, hB.sl, q, fun G3 H3 g3 => ?_⟩
      refine iteT ?_
      have h3 := hB.step g3
      split at e'
      · rename_i z q2
        cases e'
        exact ⟨G0, H0, _, _, ⟨G3, h3⟩, q2, k⟩
      · rename_i z q2
        cases e'
        exact ⟨G0, H0, _, _, ⟨G3, h3⟩, q2, k⟩
      · cases e'
    · cases e'
  · have hn : j = ds.length := by omega
    subst hn
    rw [List.drop_length] at e'
    cases e'
    exact .inl ⟨⟨vs, SqL.of hH', by rw [hr.length]; exact Nat.le_refl _⟩, k σ' H' ⟨G', h'⟩⟩
/-! ### own lists compared, asked for their class -/
def dOwnCmp (neg : Bool) (i : Nat) (g : DE) : DE := fun ρ => match ρ[i]? with
  | some (.own ds) => (g ρ).bind fun y => (toP (.lst ds)).bind fun p => (toP y).bind fun q => if SeqAt.shaped p && SeqAt.shaped q then some (.bl (PyData.eqv p q != neg)) else none
  | _ => none
theorem dOwnCmp_some {neg : Bool} {i : Nat} {g : DE} {ρ : Sl} {d : D} (h : dOwnCmp neg i g ρ = some d) : ∃ ds y ps q, ρ[i]? = some (.own ds) ∧ g ρ = some y ∧ toP.toPL ds = some ps ∧ toP y = some q ∧ SeqAt.shaped (.list ps) = true ∧ SeqAt.shaped q = true ∧ d = .bl (PyData.eqv (.list ps) q != neg) := by
  unfold dOwnCmp at h
  split at h
  case h_2 => cases h
  rename_i ds q1
  obtain ⟨y, ey, h1⟩ := Option.bind_eq_some_iff.mp h
  obtain ⟨p, ep, h2⟩ := Option.bind_eq_some_iff.mp h1
  obtain ⟨q, eq, h3⟩ := Option.bind_eq_some_iff.mp h2
  split at h3
  case isFalse => cases h3
  rename_i hz
  rw [Bool.and_eq_true] at hz
  unfold toP at ep
  obtain ⟨ps, e1, rfl⟩ := Option.map_eq_some_iff.mp ep
  exact ⟨ds, y, ps, q, q1, ey, e1, eq, hz.1, hz.2, (Option.some.inj h3).symm⟩
theorem d_ownEqD (i : Nat) {x : Str} {k : Nat} {g : DE} {p1 : Pos} (hr : Room k X.A) (hb : PE X b (tD X.K c g)) (hN : X.N[i]? = some x := by rfl) (hv : Vis X.env.scope x := by first | exact Or.inl rfl | exact Or.inr (Or.inl rfl) | exact Or.inr (Or.inr rfl))
    (hd : (x == ("__debug__" : Str)) = false := by decide +kernel) (hcd : (x == ("__classdict__" : Str)) = false := by decide +kernel) : PE X (.Compare (.Name x p1) [.Eq] [b] pos) (tD X.K c (dOwnCmp false i g)) :=
  (pe_cmpR (op_eqD hr.units) (pe_var hN hv hd hcd) hb (nomark _)).imp fun σ H Q ⟨G, ρ, d, s, sl, e, k⟩ => by
    obtain ⟨ds, y, ps, q, q1, ey, e1, eq, z1, z2, rfl⟩ := dOwnCmp_some e
    obtain ⟨pa, vs, a1, a2, a3, a4⟩ := sl.own i ds q1
    refine ⟨_, a1, G, ρ, y, s, sl, ey, fun u G1 H1 g1 r1 => ⟨.list ps, q, .lst (SqL.of (g1.hl a3)) (toPL_Dp (g1.s.s) (a4.mono g1.g) e1), toP_Dp g1.s.s r1 eq, z1, z2, ?_⟩⟩
    have := k (.bl (PyData.eqv (.list ps) q)) G1 H1 g1 (by simp; rfl)
    exact this
theorem d_ownNeD (i : Nat) {x : Str} {k : Nat} {g : DE} {p1 : Pos} (hr : Room k X.A) (hb : PE X b (tD X.K c g)) (hN : X.N[i]? = some x := by rfl) (hv : Vis X.env.scope x := by first | exact Or.inl rfl | exact Or.inr (Or.inl rfl) | exact Or.inr (Or.inr rfl))
    (hd : (x == ("__debug__" : Str)) = false := by decide +kernel) (hcd : (x == ("__classdict__" : Str)) = false := by decide +kernel) : PE X (.Compare (.Name x p1) [.NotEq] [b] pos) (tD X.K c (dOwnCmp true i g)) :=
  (pe_cmpR (op_neD hr.units) (pe_var hN hv hd hcd) hb (nomark _)).imp fun σ H Q ⟨G, ρ, d, s, sl, e, k⟩ => by
    obtain ⟨ds, y, ps, q, q1, ey, e1, eq, z1, z2, rfl⟩ := dOwnCmp_some e
    obtain ⟨pa, vs, a1, a2, a3, a4⟩ := sl.own i ds q1
    refine ⟨_, a1, G, ρ, y, s, sl, ey, fun u G1 H1 g1 r1 => ⟨.list ps, q, .lst (SqL.of (g1.hl a3)) (toPL_Dp (g1.s.s) (a4.mono g1.g) e1), toP_Dp g1.s.s r1 eq, z1, z2, ?_⟩⟩
    have := k (.bl (!PyData.eqv (.list ps) q)) G1 H1 g1 (by simp; rfl)
    exact this
theorem d_townNeD (i : Nat) {x : Str} {k : Nat} {g : DE} {p1 : Pos} (hr : Room k X.A) (hb : PE X b (tD X.K c g)) (hN : X.N[i]? = some x := by rfl) (hv : Vis X.env.scope x := by first | exact Or.inl rfl | exact Or.inr (Or.inl rfl) | exact Or.inr (Or.inr rfl))
    (hd : (x == ("__debug__" : Str)) = false := by decide +kernel) (hcd : (x == ("__classdict__" : Str)) = false := by decide +kernel) : PT X (.Compare (.Name x p1) [.NotEq] [b] pos) (tDT X.K c (asB (dOwnCmp true i g))) :=
  (pt_cmpR (op_neD hr.units) (pe_var hN hv hd hcd) hb (nomark _)).imp fun σ H Q ⟨G, ρ, d, s, sl, e, k⟩ => by
    have e := asB_some e
    obtain ⟨ds, y, ps, q, q1, ey, e1, eq, z1, z2, e3⟩ := dOwnCmp_some e
    cases e3
    obtain ⟨pa, vs, a1, a2, a3, a4⟩ := sl.own i ds q1
    refine ⟨_, a1, G, ρ, y, s, sl, ey, fun u G1 H1 g1 r1 => ⟨.list ps, q, .lst (SqL.of (g1.hl a3)) (toPL_Dp (g1.s.s) (a4.mono g1.g) e1), toP_Dp g1.s.s r1 eq, z1, z2, ?_⟩⟩
    refine ⟨_, rfl, ?_⟩
    have := k G1 H1 g1
    simpa using this
def dOwnIsi (F : Tag → Option Bool) (i : Nat) : DE := fun ρ => match ρ[i]? with
  | some (.own _) => (F (.b "list")).map .bl
  | _ => none
theorem d_ownIsiB (i : Nat) {x cl : Str} {n : String} {p p1 p2 : Pos} (hm : X.mg "isinstance" = none) (hmx : X.mg cl = none) (hb : bootBuiltins cl = some (.type n)) (hN : X.N[i]? = some x := by rfl) (hv : Vis X.env.scope x := by first | exact Or.inl rfl | exact Or.inr (Or.inl rfl) | exact Or.inr (Or.inr rfl))
    (hd : (x == ("__debug__" : Str)) = false := by decide +kernel) (hcd : (x == ("__classdict__" : Str)) = false := by decide +kernel) (hg : Gl X "isinstance" := by rfl) (hgx : Gl X cl := by rfl) (hn : cl ≠ "__name__" := by decide +kernel) (hd2 : (cl == ("__debug__" : Str)) = false := by decide +kernel)
    (h1 : starEach [Expr.Name x p1, .Name cl p2] X.env = (false, eval (.Name x p1) X.env) :: starEach [.Name cl p2] X.env := by rfl) (h2 : starEach [Expr.Name cl p2] X.env = (false, eval (.Name cl p2) X.env) :: starEach [] X.env := by rfl) (hpl : (backTo pos (starEach [Expr.Name cl p2] X.env)).any (·.1) = false := by rfl) :
    PE X (.Call (.Name "isinstance" p) [.Name x p1, .Name cl p2] [] pos) (tD X.K c (dOwnIsi (isiB n) i)) :=
  (pe_callB call_isi hg hm (by decide +kernel) (pa_cons (pe_var hN hv hd hcd) (pa_cons (pe_bltn (v := .ty n) hgx hmx hb rfl hn hd2) pa_nil h2) h1) (by decide +kernel) (by decide +kernel) h1 hpl).imp fun σ H Q ⟨G, ρ, d, s, sl, e, k⟩ => by
    unfold dOwnIsi at e
    split at e
    case h_2 => cases e
    rename_i ds q1
    obtain ⟨r, er, rfl⟩ := Option.map_eq_some_iff.mp e
    obtain ⟨pa, vs, a1, a2, a3, a4⟩ := sl.own i ds q1
    exact ⟨_, a1, _, _, .type "list", .type n, r, rfl, .ty n, .base (.lst a3), (isiB_ok (K := X.K) (c := c)).one (.b "list") r er, k _ G H (.refl s) rfl⟩
/-! ### methods that give a new list -/
structure MCalO (P : Program) (w : World) (K : PySem.W.Frag) (mg : Str → Option Value) (base : Heap) (c : Cf) (m : Str) (k n : Nat) (tbl : Nat → Option (List D → Option (List D))) : Prop where
  ex : ∀ i F, tbl i = some F → ∃ f fd ps, Cls K (c.cl i) ∧ Meth K (c.cl i) m f ∧ Binds K fd ps [] ∧ FnOk P w K mg base CX0 k f fd ps (spO K c (n + 1) F) ∧ m ∉ c.nm i
def oMeth (n : Nat) (tbl : Nat → Option (List D → Option (List D))) (f : DE) (g : DA) : DOw := fun ρ => (f ρ).bind fun x => (g ρ).bind fun ds => if ds.length = n then match x with
  | .ins i _ => (tbl i).bind fun F => F (x :: ds)
  | _ => none else none
theorem o_meth {o : Expr} {m : Str} {k k' n : Nat} {tbl : Nat → Option (List D → Option (List D))} {f : DE} {g : DA} {apos : Pos} {pl : Sem Bool} (C : MCalO X.prog X.w X.K X.mg X.base c m k n tbl) (hr : Room k' X.A) (hk : k ≤ k') (ho : PE X o (tD X.K c f)) (ha : PA X (e :: es) (tDA X.K c g))
    (hst : starEach (e :: es) X.env = (false, eval e X.env) :: starEach es X.env := by rfl) (hpl : (backTo pos (starEach es X.env)).any (·.1) = false := by rfl)
    (ht : eval (.Call (.Attribute o m apos) (e :: es) [] pos) X.env = (do
      let ov ← eval o X.env
      standAt apos.atName
      let (f, first) ← holding [ov] (getMethod ov m pl)
      callWith pos f first (backTo pos (starEach (e :: es) X.env)) (backToKw pos (keywordEach [] X.env))) := by rfl) :
    PE X (.Call (.Attribute o m apos) (e :: es) [] pos) (tDo X.K c (oMeth n tbl f g)) := by
  refine ⟨fun pins s σ H Q I h => ?_⟩
  obtain ⟨G, ρ, d, sm, sl, ed, kk⟩ := h
  unfold oMeth at ed
  obtain ⟨x, ex, ed⟩ := Option.bind_eq_some_iff.mp ed
  obtain ⟨ds, eds, ed⟩ := Option.bind_eq_some_iff.mp ed
  split at ed
  · rename_i hl
    split at ed
    · rename_i i fs _
      obtain ⟨F, eF, ed⟩ := Option.bind_eq_some_iff.mp ed
      obtain ⟨fa, fd, ps, h1, h2, h3, h4, h5⟩ := C.ex i F eF
      refine PySem.W.methodCall_KW (pl := pl) (thn (ho.run pins s σ H (fun v H1 => ∃ G1, Gr c G H G1 H1 ∧ Rep X.K c G1 (.ins i fs) v) I ⟨G, ρ, _, sm, sl, ex, fun v G1 H1 g1 r1 => ⟨G1, g1, r1⟩⟩) fun u s1 ⟨v, H1, I1, rx, G1, g1, r1⟩ => ?_) ht
      have r1' := r1
      obtain ⟨p, dx, vs, rfl, hp, hlen, r⟩ := r1
      obtain rfl : u = Value.ref p := rx
      refine getmeth_ok I1 (g1.s _ _ hp) h1 h2 (lookup_zip_none h5) ?_
      refine PySem.W.callWith_K (first := [.ref p]) (h₀ := X.base) I.ok.mod.kin h2.kp (thn (ha.run pos pins s1 σ H1 (fun us H2 => ∃ G2, Gr c G1 H1 G2 H2 ∧ RepL X.K c G2 ds us) I1 ⟨G1, ρ, ds, g1.s, sl.step g1, eds, fun us G2 H2 g2 r2 => ⟨G2, g2, r2⟩⟩) fun us s2 ⟨vs2, H2, I2, rr, G2, g2, r2⟩ => ⟨I2.kIn, ?_⟩) hst hpl
      refine run_fn (us := .ref p :: us) (vs := .ref p :: vs2) h4 (hr.mono hk) h3 .nil pass0 I2 (.cons rfl rr) ?_
      rw [List.append_nil]
      exact ⟨G2, .ins i fs :: ds, d, g2.s, ⟨_, _, rfl, r1'.mono g2.g, r2⟩, by simp [hl], ed, fun p us G' H' g3 n m q r3 => kk p us G' H' ((g1.trans g2).trans g3) ((g1.trans g2).d p n) m q r3⟩
    · cases ed
  · cases ed
theorem o_meth0 {o : Expr} {m : Str} {k k' : Nat} {tbl : Nat → Option (List D → Option (List D))} {f : DE} {apos : Pos} {pl : Sem Bool} (C : MCalO X.prog X.w X.K X.mg X.base c m k 0 tbl) (hr : Room k' X.A) (hk : k ≤ k') (ho : PE X o (tD X.K c f))
    (ht : eval (.Call (.Attribute o m apos) [] [] pos) X.env = (do
      let ov ← eval o X.env
      standAt apos.atName
      let (f, first) ← holding [ov] (getMethod ov m pl)
      callWith pos f first (backTo pos (starEach [] X.env)) (backToKw pos (keywordEach [] X.env))) := by rfl) :
    PE X (.Call (.Attribute o m apos) [] [] pos) (tDo X.K c (oMeth 0 tbl f aNil)) := by
  refine ⟨fun pins s σ H Q I h => ?_⟩
  obtain ⟨G, ρ, d, sm, sl, ed, kk⟩ := h
  unfold oMeth at ed
  obtain ⟨x, ex, ed⟩ := Option.bind_eq_some_iff.mp ed
  obtain ⟨ds, eds, ed⟩ := Option.bind_eq_some_iff.mp ed
  cases eds
  split at ed
  · split at ed
    · rename_i i fs _
      obtain ⟨F, eF, ed⟩ := Option.bind_eq_some_iff.mp ed
      obtain ⟨fa, fd, ps, h1, h2, h3, h4, h5⟩ := C.ex i F eF
      refine PySem.W.methodCall_KW (pl := pl) (thn (ho.run pins s σ H (fun v H1 => ∃ G1, Gr c G H G1 H1 ∧ Rep X.K c G1 (.ins i fs) v) I ⟨G, ρ, _, sm, sl, ex, fun v G1 H1 g1 r1 => ⟨G1, g1, r1⟩⟩) fun u s1 ⟨v, H1, I1, rx, G1, g1, r1⟩ => ?_) ht
      have r1' := r1
      obtain ⟨p, dx, vs, rfl, hp, hlen, r⟩ := r1
      obtain rfl : u = Value.ref p := rx
      refine getmeth_ok I1 (g1.s _ _ hp) h1 h2 (lookup_zip_none h5) ?_
      refine PySem.W.callWith_K0 (first := [.ref p]) I1.kIn h2.kp ?_
      refine run_fn (us := [.ref p]) (vs := [.ref p]) h4 (hr.mono hk) h3 .nil pass0 I1 (.cons rfl .nil) ?_
      rw [List.append_nil]
      exact ⟨G1, [.ins i fs], d, g1.s, ⟨_, _, rfl, r1', rfl⟩, rfl, ed, fun p us G' H' g3 n m q r3 => kk p us G' H' (g1.trans g3) (g1.d p n) m q r3⟩
    · cases ed
  · cases ed
end
end DL
set_option maxRecDepth 100000
namespace DL
open PySem L2
/-! ### the head's facts -/
def obK (fa : List He.Fa) (xs : List (PySem.W.Frag → Bool)) (fn : List He.DefD) (K : PySem.W.Frag) : Bool × List He.FnW :=
  ((fa.all (He.Fa.ok K)) && ((xs.all fun e => e K) && fn.all (He.DefD.ok K)), fn.map fun d => He.fnW K d.at_)
def hkK (n : Nat) (fa : List He.Fa) (xs : List (PySem.W.Frag → Bool)) (fn : List He.DefD) : PySem.W.Hook where
  α := Bool × List He.FnW
  obs s := obK fa xs fn (He.frG s.heap.get? (He.asD s.heap.get? n))
  val _ := (true, fn.map He.DefD.val)
  says _ h := ∃ K : PySem.W.Frag, K.In h ∧ obK fa xs fn K = (true, fn.map He.DefD.val)
  of _ _ e := ⟨_, He.frG_in, e⟩
  keeps _ _ _ z k := let ⟨K, a, b⟩ := z; ⟨K, PySem.W.Frag.In.keeps a k, b⟩
def obG (n : Nat) (fa : List He.Fa) (xs : List (PySem.W.Frag → Bool)) (fn : List He.DefD) (s : PySem.W.SharedT) : Bool × List He.FnW :=
  obK fa xs fn (He.frG (HandSHeadRun.getT s) (He.asD (HandSHeadRun.getT s) n))
theorem obG_ok {n : Nat} {fa : List He.Fa} {xs : List (PySem.W.Frag → Bool)} {fn : List He.DefD} (s : PySem.W.SharedT) : obG n fa xs fn s = (hkK n fa xs fn).obs s.abs := by
  have e : HandSHeadRun.getT s = s.abs.heap.get? := funext (HandSHeadRun.getT_eq s)
  show obK fa xs fn (He.frG (HandSHeadRun.getT s) (He.asD (HandSHeadRun.getT s) n)) = obK fa xs fn _
  rw [e]
structure Ev (fa : List He.Fa) (xs : List (PySem.W.Frag → Bool)) (fn : List He.DefD) (K : PySem.W.Frag) (mg : Str → Option Value) : Prop where
  fact : ∀ f ∈ fa, f.ok K = true
  ext : ∀ e ∈ xs, e K = true
  df : ∀ d ∈ fn, ∃ fd, FunD K d.name d.qual d.params d.body d.scope (d.dvs K) (d.kws K) (He.fAd K d.at_) fd
  hg : ∃ h : Heap, K.In h ∧ h.Ns mainGlobals mg
section
variable {fa : List He.Fa} {xs : List (PySem.W.Frag → Bool)} {fn : List He.DefD} {K : PySem.W.Frag} {mg : Str → Option Value}
theorem ev_of {h : Heap} (X : K.In h) (G : h.Ns mainGlobals mg) (e : obK fa xs fn K = (true, fn.map He.DefD.val)) : Ev fa xs fn K mg := by
  obtain ⟨e1, e2⟩ := Prod.mk.inj e
  obtain ⟨a1, a2⟩ := Bool.and_eq_true_iff.mp e1
  obtain ⟨a3, a4⟩ := Bool.and_eq_true_iff.mp a2
  refine ⟨fun f hf => List.all_eq_true.mp a1 f hf, fun x hx => List.all_eq_true.mp a3 x hx, fun d hd => ?_, h, X, G⟩
  obtain ⟨i, hi⟩ := List.getElem?_of_mem hd
  have e3 : (fn.map fun d => He.fnW K d.at_)[i]? = (fn.map He.DefD.val)[i]? := by rw [e2]
  rw [List.getElem?_map, List.getElem?_map, hi] at e3
  exact He.DefD.funD (Option.some.inj e3) (List.all_eq_true.mp a4 d hd)
theorem Ev.f (E : Ev fa xs fn K mg) (i : Nat) {f : He.Fa} (h : fa[i]? = some f := by rfl) : f.ok K = true := E.fact f (List.mem_of_getElem? h)
theorem Ev.x (E : Ev fa xs fn K mg) (i : Nat) {f : PySem.W.Frag → Bool} (h : xs[i]? = some f := by rfl) : f K = true := E.ext f (List.mem_of_getElem? h)
theorem Ev.d (E : Ev fa xs fn K mg) (i : Nat) {d : He.DefD} (h : fn[i]? = some d := by rfl) : ∃ fd, FunD K d.name d.qual d.params d.body d.scope (d.dvs K) (d.kws K) (He.fAd K d.at_) fd := E.df d (List.mem_of_getElem? h)
theorem Ev.glo (E : Ev fa xs fn K mg) {x : Str} (h : (He.Fa.glo x).ok K = true) : mg x = some (.ref (He.ga K x)) := let ⟨_, X, G⟩ := E.hg; He.glo_ok X G h
theorem Ev.free (E : Ev fa xs fn K mg) {x : Str} (h : (He.Fa.free x).ok K = true) : mg x = none := let ⟨_, X, G⟩ := E.hg; He.free_ok X G h
theorem Ev.gInt (E : Ev fa xs fn K mg) {c : Cf} {x : Str} {i : Int} (h : (He.Fa.int x i).ok K = true) : GlobD K c mg x (.int i) := by
  obtain ⟨_, X, G⟩ := E.hg
  obtain ⟨t, e⟩ := He.int_ok X G h
  exact ⟨_, .int i, e, ⟨t, rfl⟩, fun _ => rfl⟩
theorem Ev.gStr (E : Ev fa xs fn K mg) {c : Cf} {x z : Str} (h : (He.Fa.str x z).ok K = true) : GlobD K c mg x (.str z) := by
  obtain ⟨_, X, G⟩ := E.hg
  obtain ⟨t, e⟩ := He.str_ok X G h
  exact ⟨_, .str z, e, ⟨t, rfl⟩, fun _ => rfl⟩
theorem repL_ints {c : Cf} {G : Gh} : ∀ ns : List Int, RepL K c G (ns.map .int) (ns.map V.int)
  | [] => rfl
  | n :: ns => ⟨.int n, _, rfl, rfl, repL_ints ns⟩
theorem Ev.gTup (E : Ev fa xs fn K mg) {c : Cf} {x : Str} {ns : List Int} (h : (He.Fa.glo x).ok K = true) (h2 : He.tupB K x (ns.map .int) = true) : GlobD K c mg x (.tup (ns.map .int)) := by
  refine ⟨_, .ref (He.ga K x), E.glo h, rfl, fun G => ⟨_, ns.map V.int, rfl, ?_, repL_ints ns⟩⟩
  have := He.tupB_ok h2 G
  have e : (ns.map He.Dv.int).map (He.Dv.v K) = ns.map V.int := by rw [List.map_map]; rfl
  rwa [e] at this
end
theorem dfun {K : PySem.W.Frag} {x qual : Str} {st : Stmt} {dvs : List V} {f : Addr} {fd : FuncData} (F : FunD K x qual (defArgs st) (defBody st) (defScope st) dvs [] f fd) : DFun K x qual st f fd := ⟨dvs, F⟩
/-- where classes stand -/
def clOf (cs : List Str) (K : PySem.W.Frag) (i : Nat) : Addr := match cs[i]? with
  | some x => He.ga K x
  | none => 1000000000 + i
def clT (cs : List Str) (K : PySem.W.Frag) : Bool := decide ((cs.map (He.ga K)).Nodup) && (cs.map (He.ga K)).all fun a => decide (a < 1000000000)
theorem clOf_inj {cs : List Str} {K : PySem.W.Frag} (h : clT cs K = true) : ∀ i j, clOf cs K i = clOf cs K j → i = j := by
  obtain ⟨h1, h2⟩ := Bool.and_eq_true_iff.mp h
  have nd := of_decide_eq_true h1
  have lt : ∀ i x, cs[i]? = some x → He.ga K x < 1000000000 := fun i x e => of_decide_eq_true (List.all_eq_true.mp h2 _ (List.mem_map_of_mem (List.mem_of_getElem? e)))
  intro i j e
  unfold clOf at e
  split at e
  · rename_i x ex
    split at e
    · rename_i y ey
      have ix : (cs.map (He.ga K))[i]? = some (He.ga K x) := by rw [List.getElem?_map, ex]; rfl
      have iy : (cs.map (He.ga K))[j]? = some (He.ga K x) := by rw [List.getElem?_map, ey, e]; rfl
      obtain ⟨li, ei⟩ := List.getElem?_eq_some_iff.mp ix
      obtain ⟨lj, ej⟩ := List.getElem?_eq_some_iff.mp iy
      rcases Nat.lt_trichotomy i j with z | z | z
      · exact (List.pairwise_iff_getElem.mp nd i j li lj z (ei.trans ej.symm)).elim
      · exact z
      · exact (List.pairwise_iff_getElem.mp nd j i lj li z (ej.trans ei.symm)).elim
    · exact absurd e (Nat.ne_of_lt (Nat.lt_of_lt_of_le (lt i x ex) (Nat.le_add_right _ _)))
  · split at e
    · rename_i y ey
      exact absurd e.symm (Nat.ne_of_lt (Nat.lt_of_lt_of_le (lt j y ey) (Nat.le_add_right _ _)))
    · exact Nat.add_left_cancel e
end DL
set_option maxRecDepth 100000
namespace DL
open PySem L2
/-! ### the hook, over the objects at given places -/
def hkL (as : List Addr) (fa : List He.Fa) (xs : List (PySem.W.Frag → Bool)) (fn : List He.DefD) : PySem.W.Hook where
  α := Bool × List He.FnW
  obs s := obK fa xs fn (He.frG s.heap.get? as)
  val _ := (true, fn.map He.DefD.val)
  says _ h := ∃ K : PySem.W.Frag, K.In h ∧ obK fa xs fn K = (true, fn.map He.DefD.val)
  of _ _ e := ⟨_, He.frG_in, e⟩
  keeps _ _ _ z k := let ⟨K, a, b⟩ := z; ⟨K, PySem.W.Frag.In.keeps a k, b⟩
def obL (as : List Addr) (fa : List He.Fa) (xs : List (PySem.W.Frag → Bool)) (fn : List He.DefD) (s : PySem.W.SharedT) : Bool × List He.FnW := obK fa xs fn (He.frG (HandSHeadRun.getT s) as)
theorem obL_ok {as : List Addr} {fa : List He.Fa} {xs : List (PySem.W.Frag → Bool)} {fn : List He.DefD} (s : PySem.W.SharedT) : obL as fa xs fn s = (hkL as fa xs fn).obs s.abs := by
  have e : HandSHeadRun.getT s = s.abs.heap.get? := funext (HandSHeadRun.getT_eq s)
  show obK fa xs fn (He.frG (HandSHeadRun.getT s) as) = obK fa xs fn _
  rw [e]
theorem obK_join {K : PySem.W.Frag} {fa fa' : List He.Fa} {xs xs' : List (PySem.W.Frag → Bool)} {fn fn' : List He.DefD} (h : obK fa xs fn K = (true, fn.map He.DefD.val)) (h' : obK fa' xs' fn' K = (true, fn'.map He.DefD.val)) :
    obK (fa ++ fa') (xs ++ xs') (fn ++ fn') K = (true, (fn ++ fn').map He.DefD.val) := by
  obtain ⟨e1, e2⟩ := Prod.mk.inj h
  obtain ⟨e1', e2'⟩ := Prod.mk.inj h'
  obtain ⟨a1, a2⟩ := Bool.and_eq_true_iff.mp e1
  obtain ⟨a3, a4⟩ := Bool.and_eq_true_iff.mp a2
  obtain ⟨b1, b2⟩ := Bool.and_eq_true_iff.mp e1'
  obtain ⟨b3, b4⟩ := Bool.and_eq_true_iff.mp b2
  unfold obK
  rw [List.all_append, List.all_append, List.all_append, a1, b1, a3, b3, a4, b4, List.map_append, List.map_append, e2, e2']
  rfl
/-- two runs in one -/
theorem run_join {R : PySem.W.OpenRow} {q : Program} {as : List Addr} {M : Nat} {loose : List Str} {w : World} {fa fa' : List He.Fa} {xs xs' : List (PySem.W.Frag → Bool)} {fn fn' : List He.DefD}
    (h : HandSHeadRun.RunEq R q (hkL as fa xs fn) (obL as fa xs fn) M loose w) (h' : HandSHeadRun.RunEq R q (hkL as fa' xs' fn') (obL as fa' xs' fn') M loose w) :
    HandSHeadRun.RunEq R q (hkL as (fa ++ fa') (xs ++ xs') (fn ++ fn')) (obL as (fa ++ fa') (xs ++ xs') (fn ++ fn')) M loose w := by
  intro os
  obtain ⟨s, e1, e2⟩ := Option.map_eq_some_iff.mp (h os)
  obtain ⟨s', e1', e2'⟩ := Option.map_eq_some_iff.mp (h' os)
  rw [e1] at e1'
  cases e1'
  obtain ⟨a1, a2⟩ := Prod.mk.inj e2
  obtain ⟨a3, a4⟩ := Prod.mk.inj a2
  obtain ⟨b1, b2⟩ := Prod.mk.inj e2'
  obtain ⟨b3, b4⟩ := Prod.mk.inj b2
  rw [e1]
  show some _ = some _
  refine congrArg some (Prod.ext a1 (Prod.ext a3 ?_))
  exact obK_join a4 b4
end DL
set_option maxRecDepth 100000
set_option maxHeartbeats 4000000
namespace DL
open PySem L2
noncomputable section
def topS (i : Nat) : Stmt := PySem.Challenge.pw_fivefields_k63_on_days.main.body.getD i (.Pass ⟨0, 0, 0, 0⟩)
def fa1 : List He.Fa := [.glo "law", .glo "_law_cell_at", .free "len", .glo "_law_tree", .glo "_law_digits", .glo "_law_stir", .free "abs", .glo "_law_row", .glo "_law_field", .free "str", .glo "read_row", .glo "words_of", .int "MOST_SIGNS_rows" (1600), .free "isinstance", .glo "field_at", .glo "read_field", .glo "item_mask", .glo "span_in", .glo "number_in_fields", .glo "only_figures", .str "FIGURES_wholes" "0123456789", .free "int", .glo "mask_of", .int "MOST_STRIDE" (99), .free "list", .free "range", .int "MOST_SIGNS_fields" (300), .int "MOST_ITEMS_fields" (40), .free "enumerate", .glo "read_days", .glo "read_items", .glo "items_of", .int "MOST_SIGNS_marks" (300), .glo "plain_item", .glo "number_in_marks", .str "FIGURES_marks" "0123456789", .cls "Last", .noat "Last" "back", .glo "Last", .mkr "Last"] ++ [.keep "LastWork", .glo "LastWork", .cls "Near", .noat "Near" "day", .glo "Near", .mkr "Near", .cls "LastOne", .noat "LastOne" "weekday", .glo "LastOne", .mkr "LastOne", .cls "Nth", .noat "Nth" "weekday", .noat "Nth" "many", .glo "Nth", .mkr "Nth", .int "MOST_ITEMS_marks" (40), .int "MOST_MARKS" (20), .free "min", .cls "Numbers", .noat "Numbers" "mask", .glo "Numbers", .mkr "Numbers", .glo "day_mark", .glo "read_weekdays", .cls "Weekdays", .noat "Weekdays" "mask", .glo "Weekdays", .mkr "Weekdays", .glo "weekday_mark", .int "MINUTES_rows" (60), .int "HOURS" (24), .cls "Row", .noat "Row" "minute_mask", .noat "Row" "hour_mask", .noat "Row" "day_marks", .noat "Row" "month_mask", .noat "Row" "weekday_marks", .glo "Row", .mkr "Row", .glo "numbers_in"] ++ [.meth "Row" "times", .glo "_law_make", .keep "Book", .glo "Book", .cls "Of", .noat "Of" "row", .noat "Of" "told_times", .noat "Of" "told_days", .glo "Of", .mkr "Of", .cls "Joined", .noat "Joined" "books", .glo "books_of", .glo "need_book", .cls "Book", .cls "Met", .cls "Less", .cls "Turned", .glo "need_small", .meth "Book" "tally", .meth "Of" "tally", .free "sum", .noat "Met" "books", .meth "Joined" "tally", .meth "Met" "tally", .noat "Less" "one", .noat "Turned" "one", .noat "Less" "other", .meth "Less" "tally", .meth "Turned" "tally", .meth "Book" "depth", .meth "Of" "depth", .free "max", .meth "Joined" "depth", .meth "Met" "depth", .meth "Less" "depth", .meth "Turned" "depth", .int "MOST_COUNTED" (24), .int "DEEPEST" (5), .int "MOST_PARTS" (8)] ++ [.free "tuple", .glo "Joined", .mkr "Joined", .glo "Met", .mkr "Met", .glo "Less", .mkr "Less", .glo "Turned", .mkr "Turned", .glo "_law_told", .glo "_law_masks", .glo "month_at", .glo "last_of", .glo "is_long", .glo "LASTS", .int "LONG" (12), .int "SHORT_YEAR" (1), .free "divmod", .glo "_law_joined", .glo "any_days", .meth "Numbers" "days", .meth "Last" "days", .glo "weekday_in", .int "SATURDAY" (6), .int "SUNDAY" (0), .meth "Near" "days", .cls "LastWork", .meth "LastWork" "days", .meth "Weekdays" "days", .meth "Nth" "days", .meth "LastOne" "days", .meth "Row" "days_in", .glo "_law_whole", .free "bool", .glo "days_of", .meth "Book" "on_days", .meth "Row" "months", .meth "Of" "on_days", .free "zip", .meth "Joined" "on_days"] ++ [.glo "all_times", .int "MINUTES_books" (1440), .meth "Met" "on_days", .meth "Less" "on_days", .meth "Turned" "on_days", .glo "_law_bit", .glo "date_of", .glo "days_before", .int "ROUND_YEARS" (400), .int "ROUND_DAYS" (146097), .glo "kind_of", .glo "weekday", .glo "day_of", .glo "is_whole", .glo "parted", .int "DAY" (1440), .int "HOUR" (60), .meth "Row" "shut_by", .meth "Row" "holds", .meth "Book" "holds", .meth "Of" "holds", .meth "Joined" "holds", .meth "Met" "holds", .meth "Less" "holds", .meth "Turned" "holds", .glo "_law_near", .glo "_law_moment", .glo "_law_rows", .glo "next_from", .glo "never", .int "MANY_KINDS" (91), .glo "run_end", .glo "open_again", .glo "month_open", .glo "is_in", .glo "day_open", .glo "is_shut_day", .int "MOST_DAYS" (400), .glo "hour_open", .meth "Row" "hours"] ++ [.glo "minute_open", .meth "Row" "minutes", .glo "_law_eight"]
def xs1 : List (PySem.W.Frag → Bool) := [fun K => PySem.W.makesIn K (He.ga K "LastWork"), fun K => He.eqO (PySem.W.findIn K (.ref (He.ga K "LastWork")) "__init__") (some (some (.builtin "object.__init__"))), fun K => PySem.W.makesIn K (He.ga K "Book"), fun K => He.eqO (PySem.W.findIn K (.ref (He.ga K "Book")) "__init__") (some (some (.builtin "object.__init__"))), fun K => decide (PySem.W.kitOne K (.ref (He.ga K "Row")) (.ref (He.ga K "Row")) = some true), fun K => He.eqO (PySem.W.findIn K (.ref (He.ga K "Row")) "__class__") (some (some (.builtin "object.__class__"))), fun K => He.eqO (PySem.W.specialIn K (.builtin "object.__class__") "__get__") (some (some (.builtin "getset_descriptor.__get__"))), fun K => decide (PySem.W.takesIn K (.builtin "object.__class__") = some true), fun K => decide (PySem.W.mroIn K (He.ga K "Row") (.type "object") = some true), fun K => decide (PySem.W.kitOne K (.ref (He.ga K "Book")) (.ref (He.ga K "Book")) = some true), fun K => decide (PySem.W.kitOne K (.ref (He.ga K "Of")) (.ref (He.ga K "Book")) = some true), fun K => decide (PySem.W.kitOne K (.ref (He.ga K "Joined")) (.ref (He.ga K "Book")) = some true), fun K => decide (PySem.W.kitOne K (.ref (He.ga K "Met")) (.ref (He.ga K "Book")) = some true), fun K => decide (PySem.W.kitOne K (.ref (He.ga K "Less")) (.ref (He.ga K "Book")) = some true), fun K => decide (PySem.W.kitOne K (.ref (He.ga K "Turned")) (.ref (He.ga K "Book")) = some true), fun K => He.eqO (PySem.W.findIn K (.ref (He.ga K "Book")) "__class__") (some (some (.builtin "object.__class__"))), fun K => decide (PySem.W.mroIn K (He.ga K "Book") (.type "object") = some true), fun K => He.eqO (PySem.W.findIn K (.ref (He.ga K "Of")) "__class__") (some (some (.builtin "object.__class__"))), fun K => decide (PySem.W.mroIn K (He.ga K "Of") (.type "object") = some true), fun K => decide (PySem.W.kitOne K (.ref (He.ga K "Of")) (.ref (He.ga K "Of")) = some true), fun K => He.eqO (PySem.W.findIn K (.ref (He.ga K "Joined")) "__class__") (some (some (.builtin "object.__class__"))), fun K => decide (PySem.W.mroIn K (He.ga K "Joined") (.type "object") = some true), fun K => decide (PySem.W.kitOne K (.ref (He.ga K "Joined")) (.ref (He.ga K "Joined")) = some true), fun K => He.eqO (PySem.W.findIn K (.ref (He.ga K "Met")) "__class__") (some (some (.builtin "object.__class__"))), fun K => decide (PySem.W.mroIn K (He.ga K "Met") (.type "object") = some true), fun K => decide (PySem.W.kitOne K (.ref (He.ga K "Met")) (.ref (He.ga K "Met")) = some true), fun K => He.eqO (PySem.W.findIn K (.ref (He.ga K "Less")) "__class__") (some (some (.builtin "object.__class__"))), fun K => decide (PySem.W.mroIn K (He.ga K "Less") (.type "object") = some true), fun K => decide (PySem.W.kitOne K (.ref (He.ga K "Less")) (.ref (He.ga K "Less")) = some true), fun K => He.eqO (PySem.W.findIn K (.ref (He.ga K "Turned")) "__class__") (some (some (.builtin "object.__class__"))), fun K => decide (PySem.W.mroIn K (He.ga K "Turned") (.type "object") = some true), fun K => decide (PySem.W.kitOne K (.ref (He.ga K "Turned")) (.ref (He.ga K "Turned")) = some true), fun K => He.tupB K "LASTS" [.int 31, .int 28, .int 31, .int 30, .int 31, .int 30, .int 31, .int 31, .int 30, .int 31, .int 30, .int 31]]
def fn1 : List He.DefD := [(⟨("law", none), "law", "law", defArgs (topS 126), defBody (topS 126), defScope (topS 126), [], []⟩ : He.DefD), (⟨("_law_cell_at", none), "_law_cell_at", "_law_cell_at", defArgs (topS 110), defBody (topS 110), defScope (topS 110), [], []⟩ : He.DefD), (⟨("_law_tree", none), "_law_tree", "_law_tree", defArgs (topS 116), defBody (topS 116), defScope (topS 116), [], []⟩ : He.DefD), (⟨("_law_digits", none), "_law_digits", "_law_digits", defArgs (topS 112), defBody (topS 112), defScope (topS 112), [], []⟩ : He.DefD), (⟨("_law_stir", none), "_law_stir", "_law_stir", defArgs (topS 111), defBody (topS 111), defScope (topS 111), [], []⟩ : He.DefD), (⟨("_law_row", none), "_law_row", "_law_row", defArgs (topS 115), defBody (topS 115), defScope (topS 115), [], []⟩ : He.DefD), (⟨("_law_field", none), "_law_field", "_law_field", defArgs (topS 114), defBody (topS 114), defScope (topS 114), [], []⟩ : He.DefD), (⟨("read_row", none), "read_row", "read_row", defArgs (topS 78), defBody (topS 78), defScope (topS 78), [], []⟩ : He.DefD), (⟨("words_of", none), "words_of", "words_of", defArgs (topS 76), defBody (topS 76), defScope (topS 76), [], []⟩ : He.DefD), (⟨("field_at", none), "field_at", "field_at", defArgs (topS 77), defBody (topS 77), defScope (topS 77), [], []⟩ : He.DefD), (⟨("read_field", none), "read_field", "read_field", defArgs (topS 40), defBody (topS 40), defScope (topS 40), [], []⟩ : He.DefD), (⟨("item_mask", none), "item_mask", "item_mask", defArgs (topS 39), defBody (topS 39), defScope (topS 39), [], []⟩ : He.DefD), (⟨("span_in", none), "span_in", "span_in", defArgs (topS 38), defBody (topS 38), defScope (topS 38), [], []⟩ : He.DefD), (⟨("number_in_fields", none), "number_in", "number_in", defArgs (topS 36), defBody (topS 36), defScope (topS 36), [], []⟩ : He.DefD), (⟨("only_figures", none), "only_figures", "only_figures", defArgs (topS 10), defBody (topS 10), defScope (topS 10), [], []⟩ : He.DefD), (⟨("mask_of", none), "mask_of", "mask_of", defArgs (topS 34), defBody (topS 34), defScope (topS 34), [], []⟩ : He.DefD), (⟨("read_days", none), "read_days", "read_days", defArgs (topS 65), defBody (topS 65), defScope (topS 65), [], []⟩ : He.DefD), (⟨("read_items", none), "read_items", "read_items", defArgs (topS 64), defBody (topS 64), defScope (topS 64), [], []⟩ : He.DefD), (⟨("items_of", none), "items_of", "items_of", defArgs (topS 62), defBody (topS 62), defScope (topS 62), [], []⟩ : He.DefD), (⟨("plain_item", none), "plain_item", "plain_item", defArgs (topS 63), defBody (topS 63), defScope (topS 63), [], []⟩ : He.DefD), (⟨("day_mark", none), "day_mark", "day_mark", defArgs (topS 60), defBody (topS 60), defScope (topS 60), [], []⟩ : He.DefD), (⟨("number_in_marks", none), "number_in", "number_in", defArgs (topS 58), defBody (topS 58), defScope (topS 58), [], []⟩ : He.DefD), (⟨("Last", some "__init__"), "__init__", "Last.__init__", defArgs (inClass (topS 51) 0), defBody (inClass (topS 51) 0), defScope (inClass (topS 51) 0), [.int 0], []⟩ : He.DefD), (⟨("Near", some "__init__"), "__init__", "Near.__init__", defArgs (inClass (topS 52) 0), defBody (inClass (topS 52) 0), defScope (inClass (topS 52) 0), [], []⟩ : He.DefD), (⟨("weekday_mark", none), "weekday_mark", "weekday_mark", defArgs (topS 61), defBody (topS 61), defScope (topS 61), [], []⟩ : He.DefD), (⟨("LastOne", some "__init__"), "__init__", "LastOne.__init__", defArgs (inClass (topS 56) 0), defBody (inClass (topS 56) 0), defScope (inClass (topS 56) 0), [], []⟩ : He.DefD), (⟨("Nth", some "__init__"), "__init__", "Nth.__init__", defArgs (inClass (topS 55) 0), defBody (inClass (topS 55) 0), defScope (inClass (topS 55) 0), [], []⟩ : He.DefD), (⟨("Numbers", some "__init__"), "__init__", "Numbers.__init__", defArgs (inClass (topS 50) 0), defBody (inClass (topS 50) 0), defScope (inClass (topS 50) 0), [], []⟩ : He.DefD), (⟨("read_weekdays", none), "read_weekdays", "read_weekdays", defArgs (topS 66), defBody (topS 66), defScope (topS 66), [], []⟩ : He.DefD), (⟨("Weekdays", some "__init__"), "__init__", "Weekdays.__init__", defArgs (inClass (topS 54) 0), defBody (inClass (topS 54) 0), defScope (inClass (topS 54) 0), [], []⟩ : He.DefD), (⟨("Row", some "__init__"), "__init__", "Row.__init__", defArgs (inClass (topS 75) 0), defBody (inClass (topS 75) 0), defScope (inClass (topS 75) 0), [], []⟩ : He.DefD), (⟨("Row", some "times"), "times", "Row.times", defArgs (inClass (topS 75) 4), defBody (inClass (topS 75) 4), defScope (inClass (topS 75) 4), [], []⟩ : He.DefD), (⟨("numbers_in", none), "numbers_in", "numbers_in", defArgs (topS 35), defBody (topS 35), defScope (topS 35), [], []⟩ : He.DefD), (⟨("_law_make", none), "_law_make", "_law_make", defArgs (topS 117), defBody (topS 117), defScope (topS 117), [], []⟩ : He.DefD), (⟨("Of", some "__init__"), "__init__", "Of.__init__", defArgs (inClass (topS 90) 0), defBody (inClass (topS 90) 0), defScope (inClass (topS 90) 0), [], []⟩ : He.DefD), (⟨("books_of", none), "books_of", "books_of", defArgs (topS 88), defBody (topS 88), defScope (topS 88), [], []⟩ : He.DefD), (⟨("need_book", none), "need_book", "need_book", defArgs (topS 86), defBody (topS 86), defScope (topS 86), [], []⟩ : He.DefD), (⟨("need_small", none), "need_small", "need_small", defArgs (topS 87), defBody (topS 87), defScope (topS 87), [], []⟩ : He.DefD), (⟨("Book", some "tally"), "tally", "Book.tally", defArgs (inClass (topS 89) 2), defBody (inClass (topS 89) 2), defScope (inClass (topS 89) 2), [], []⟩ : He.DefD), (⟨("Of", some "tally"), "tally", "Book.tally", defArgs (inClass (topS 89) 2), defBody (inClass (topS 89) 2), defScope (inClass (topS 89) 2), [], []⟩ : He.DefD)] ++ [(⟨("Joined", some "tally"), "tally", "Joined.tally", defArgs (inClass (topS 91) 3), defBody (inClass (topS 91) 3), defScope (inClass (topS 91) 3), [], []⟩ : He.DefD), (⟨("Met", some "tally"), "tally", "Met.tally", defArgs (inClass (topS 92) 3), defBody (inClass (topS 92) 3), defScope (inClass (topS 92) 3), [], []⟩ : He.DefD), (⟨("Less", some "tally"), "tally", "Less.tally", defArgs (inClass (topS 93) 3), defBody (inClass (topS 93) 3), defScope (inClass (topS 93) 3), [], []⟩ : He.DefD), (⟨("Turned", some "tally"), "tally", "Turned.tally", defArgs (inClass (topS 94) 3), defBody (inClass (topS 94) 3), defScope (inClass (topS 94) 3), [], []⟩ : He.DefD), (⟨("Book", some "depth"), "depth", "Book.depth", defArgs (inClass (topS 89) 3), defBody (inClass (topS 89) 3), defScope (inClass (topS 89) 3), [], []⟩ : He.DefD), (⟨("Of", some "depth"), "depth", "Book.depth", defArgs (inClass (topS 89) 3), defBody (inClass (topS 89) 3), defScope (inClass (topS 89) 3), [], []⟩ : He.DefD), (⟨("Joined", some "depth"), "depth", "Joined.depth", defArgs (inClass (topS 91) 4), defBody (inClass (topS 91) 4), defScope (inClass (topS 91) 4), [], []⟩ : He.DefD), (⟨("Met", some "depth"), "depth", "Met.depth", defArgs (inClass (topS 92) 4), defBody (inClass (topS 92) 4), defScope (inClass (topS 92) 4), [], []⟩ : He.DefD), (⟨("Less", some "depth"), "depth", "Less.depth", defArgs (inClass (topS 93) 4), defBody (inClass (topS 93) 4), defScope (inClass (topS 93) 4), [], []⟩ : He.DefD), (⟨("Turned", some "depth"), "depth", "Turned.depth", defArgs (inClass (topS 94) 4), defBody (inClass (topS 94) 4), defScope (inClass (topS 94) 4), [], []⟩ : He.DefD), (⟨("Joined", some "__init__"), "__init__", "Joined.__init__", defArgs (inClass (topS 91) 0), defBody (inClass (topS 91) 0), defScope (inClass (topS 91) 0), [], []⟩ : He.DefD), (⟨("Met", some "__init__"), "__init__", "Met.__init__", defArgs (inClass (topS 92) 0), defBody (inClass (topS 92) 0), defScope (inClass (topS 92) 0), [], []⟩ : He.DefD), (⟨("Less", some "__init__"), "__init__", "Less.__init__", defArgs (inClass (topS 93) 0), defBody (inClass (topS 93) 0), defScope (inClass (topS 93) 0), [], []⟩ : He.DefD), (⟨("Turned", some "__init__"), "__init__", "Turned.__init__", defArgs (inClass (topS 94) 0), defBody (inClass (topS 94) 0), defScope (inClass (topS 94) 0), [], []⟩ : He.DefD), (⟨("_law_told", none), "_law_told", "_law_told", defArgs (topS 123), defBody (topS 123), defScope (topS 123), [], []⟩ : He.DefD), (⟨("_law_masks", none), "_law_masks", "_law_masks", defArgs (topS 119), defBody (topS 119), defScope (topS 119), [], []⟩ : He.DefD), (⟨("month_at", none), "month_at", "month_at", defArgs (topS 25), defBody (topS 25), defScope (topS 25), [], []⟩ : He.DefD), (⟨("last_of", none), "last_of", "last_of", defArgs (topS 17), defBody (topS 17), defScope (topS 17), [], []⟩ : He.DefD), (⟨("is_long", none), "is_long", "is_long", defArgs (topS 15), defBody (topS 15), defScope (topS 15), [], []⟩ : He.DefD), (⟨("_law_joined", none), "_law_joined", "_law_joined", defArgs (topS 118), defBody (topS 118), defScope (topS 118), [], []⟩ : He.DefD), (⟨("Row", some "days_in"), "days_in", "Row.days_in", defArgs (inClass (topS 75) 5), defBody (inClass (topS 75) 5), defScope (inClass (topS 75) 5), [], []⟩ : He.DefD), (⟨("any_days", none), "any_days", "any_days", defArgs (topS 57), defBody (topS 57), defScope (topS 57), [], []⟩ : He.DefD), (⟨("Numbers", some "days"), "days", "Numbers.days", defArgs (inClass (topS 50) 1), defBody (inClass (topS 50) 1), defScope (inClass (topS 50) 1), [], []⟩ : He.DefD), (⟨("Last", some "days"), "days", "Last.days", defArgs (inClass (topS 51) 1), defBody (inClass (topS 51) 1), defScope (inClass (topS 51) 1), [], []⟩ : He.DefD), (⟨("Near", some "days"), "days", "Near.days", defArgs (inClass (topS 52) 1), defBody (inClass (topS 52) 1), defScope (inClass (topS 52) 1), [], []⟩ : He.DefD), (⟨("weekday_in", none), "weekday_in", "weekday_in", defArgs (topS 48), defBody (topS 48), defScope (topS 48), [], []⟩ : He.DefD), (⟨("LastWork", some "days"), "days", "LastWork.days", defArgs (inClass (topS 53) 0), defBody (inClass (topS 53) 0), defScope (inClass (topS 53) 0), [], []⟩ : He.DefD), (⟨("Weekdays", some "days"), "days", "Weekdays.days", defArgs (inClass (topS 54) 1), defBody (inClass (topS 54) 1), defScope (inClass (topS 54) 1), [], []⟩ : He.DefD), (⟨("Nth", some "days"), "days", "Nth.days", defArgs (inClass (topS 55) 1), defBody (inClass (topS 55) 1), defScope (inClass (topS 55) 1), [], []⟩ : He.DefD), (⟨("LastOne", some "days"), "days", "LastOne.days", defArgs (inClass (topS 56) 1), defBody (inClass (topS 56) 1), defScope (inClass (topS 56) 1), [], []⟩ : He.DefD), (⟨("_law_whole", none), "_law_whole", "_law_whole", defArgs (topS 113), defBody (topS 113), defScope (topS 113), [], []⟩ : He.DefD), (⟨("Book", some "on_days"), "on_days", "Book.on_days", defArgs (inClass (topS 89) 1), defBody (inClass (topS 89) 1), defScope (inClass (topS 89) 1), [], []⟩ : He.DefD), (⟨("days_of", none), "days_of", "days_of", defArgs (topS 85), defBody (topS 85), defScope (topS 85), [], []⟩ : He.DefD), (⟨("Of", some "on_days"), "on_days", "Of.on_days", defArgs (inClass (topS 90) 2), defBody (inClass (topS 90) 2), defScope (inClass (topS 90) 2), [], []⟩ : He.DefD), (⟨("Row", some "months"), "months", "Row.months", defArgs (inClass (topS 75) 3), defBody (inClass (topS 75) 3), defScope (inClass (topS 75) 3), [], []⟩ : He.DefD), (⟨("Joined", some "on_days"), "on_days", "Joined.on_days", defArgs (inClass (topS 91) 2), defBody (inClass (topS 91) 2), defScope (inClass (topS 91) 2), [], []⟩ : He.DefD), (⟨("Met", some "on_days"), "on_days", "Met.on_days", defArgs (inClass (topS 92) 2), defBody (inClass (topS 92) 2), defScope (inClass (topS 92) 2), [], []⟩ : He.DefD), (⟨("all_times", none), "all_times", "all_times", defArgs (topS 84), defBody (topS 84), defScope (topS 84), [], []⟩ : He.DefD), (⟨("Less", some "on_days"), "on_days", "Less.on_days", defArgs (inClass (topS 93) 2), defBody (inClass (topS 93) 2), defScope (inClass (topS 93) 2), [], []⟩ : He.DefD), (⟨("Turned", some "on_days"), "on_days", "Turned.on_days", defArgs (inClass (topS 94) 2), defBody (inClass (topS 94) 2), defScope (inClass (topS 94) 2), [], []⟩ : He.DefD)] ++ [(⟨("_law_bit", none), "_law_bit", "_law_bit", defArgs (topS 124), defBody (topS 124), defScope (topS 124), [], []⟩ : He.DefD), (⟨("date_of", none), "date_of", "date_of", defArgs (topS 19), defBody (topS 19), defScope (topS 19), [], []⟩ : He.DefD), (⟨("days_before", none), "days_before", "days_before", defArgs (topS 16), defBody (topS 16), defScope (topS 16), [], []⟩ : He.DefD), (⟨("kind_of", none), "kind_of", "kind_of", defArgs (topS 24), defBody (topS 24), defScope (topS 24), [], []⟩ : He.DefD), (⟨("weekday", none), "weekday", "weekday", defArgs (topS 20), defBody (topS 20), defScope (topS 20), [], []⟩ : He.DefD), (⟨("day_of", none), "day_of", "day_of", defArgs (topS 18), defBody (topS 18), defScope (topS 18), [], []⟩ : He.DefD), (⟨("is_whole", none), "is_whole", "is_whole", defArgs (topS 9), defBody (topS 9), defScope (topS 9), [], []⟩ : He.DefD), (⟨("Row", some "holds"), "holds", "Row.holds", defArgs (inClass (topS 75) 7), defBody (inClass (topS 75) 7), defScope (inClass (topS 75) 7), [], []⟩ : He.DefD), (⟨("Row", some "shut_by"), "shut_by", "Row.shut_by", defArgs (inClass (topS 75) 6), defBody (inClass (topS 75) 6), defScope (inClass (topS 75) 6), [], []⟩ : He.DefD), (⟨("parted", none), "parted", "parted", defArgs (topS 70), defBody (topS 70), defScope (topS 70), [], []⟩ : He.DefD), (⟨("Book", some "holds"), "holds", "Book.holds", defArgs (inClass (topS 89) 0), defBody (inClass (topS 89) 0), defScope (inClass (topS 89) 0), [], []⟩ : He.DefD), (⟨("Of", some "holds"), "holds", "Of.holds", defArgs (inClass (topS 90) 1), defBody (inClass (topS 90) 1), defScope (inClass (topS 90) 1), [], []⟩ : He.DefD), (⟨("Joined", some "holds"), "holds", "Joined.holds", defArgs (inClass (topS 91) 1), defBody (inClass (topS 91) 1), defScope (inClass (topS 91) 1), [], []⟩ : He.DefD), (⟨("Met", some "holds"), "holds", "Met.holds", defArgs (inClass (topS 92) 1), defBody (inClass (topS 92) 1), defScope (inClass (topS 92) 1), [], []⟩ : He.DefD), (⟨("Less", some "holds"), "holds", "Less.holds", defArgs (inClass (topS 93) 1), defBody (inClass (topS 93) 1), defScope (inClass (topS 93) 1), [], []⟩ : He.DefD), (⟨("Turned", some "holds"), "holds", "Turned.holds", defArgs (inClass (topS 94) 1), defBody (inClass (topS 94) 1), defScope (inClass (topS 94) 1), [], []⟩ : He.DefD), (⟨("_law_near", none), "_law_near", "_law_near", defArgs (topS 122), defBody (topS 122), defScope (topS 122), [], []⟩ : He.DefD), (⟨("_law_moment", none), "_law_moment", "_law_moment", defArgs (topS 121), defBody (topS 121), defScope (topS 121), [], []⟩ : He.DefD), (⟨("_law_rows", none), "_law_rows", "_law_rows", defArgs (topS 120), defBody (topS 120), defScope (topS 120), [], []⟩ : He.DefD), (⟨("next_from", none), "next_from", "next_from", defArgs (topS 108), defBody (topS 108), defScope (topS 108), [], []⟩ : He.DefD), (⟨("never", none), "never", "never", defArgs (topS 106), defBody (topS 106), defScope (topS 106), [], []⟩ : He.DefD), (⟨("run_end", none), "run_end", "run_end", defArgs (topS 107), defBody (topS 107), defScope (topS 107), [], []⟩ : He.DefD), (⟨("open_again", none), "open_again", "open_again", defArgs (topS 103), defBody (topS 103), defScope (topS 103), [], []⟩ : He.DefD), (⟨("month_open", none), "month_open", "month_open", defArgs (topS 98), defBody (topS 98), defScope (topS 98), [], []⟩ : He.DefD), (⟨("is_in", none), "is_in", "is_in", defArgs (topS 97), defBody (topS 97), defScope (topS 97), [], []⟩ : He.DefD), (⟨("day_open", none), "day_open", "day_open", defArgs (topS 100), defBody (topS 100), defScope (topS 100), [], []⟩ : He.DefD), (⟨("is_shut_day", none), "is_shut_day", "is_shut_day", defArgs (topS 99), defBody (topS 99), defScope (topS 99), [], []⟩ : He.DefD), (⟨("hour_open", none), "hour_open", "hour_open", defArgs (topS 101), defBody (topS 101), defScope (topS 101), [], []⟩ : He.DefD), (⟨("Row", some "hours"), "hours", "Row.hours", defArgs (inClass (topS 75) 2), defBody (inClass (topS 75) 2), defScope (inClass (topS 75) 2), [], []⟩ : He.DefD), (⟨("minute_open", none), "minute_open", "minute_open", defArgs (topS 102), defBody (topS 102), defScope (topS 102), [], []⟩ : He.DefD), (⟨("Row", some "minutes"), "minutes", "Row.minutes", defArgs (inClass (topS 75) 1), defBody (inClass (topS 75) 1), defScope (inClass (topS 75) 1), [], []⟩ : He.DefD), (⟨("_law_eight", none), "_law_eight", "_law_eight", defArgs (topS 125), defBody (topS 125), defScope (topS 125), [], []⟩ : He.DefD)]
end
end DL
set_option maxRecDepth 100000
set_option maxHeartbeats 4000000
namespace DL
open PySem L2
def nm1_0 : List Str := ["_wall", "FieldError", "NoDay", "NoField", "NoRow", "NoBook", "FIGURES_wholes", "is_whole", "only_figures", "LASTS", "ROUND_YEARS", "ROUND_DAYS", "is_long", "days_before", "last_of", "day_of", "date_of", "weekday", "LONG", "SHORT_YEAR", "kind_of", "month_at", "ranges_of", "shown_range", "shown_ranges"]
def nm1_1 : List Str := ["MOST_SIGNS_fields", "MOST_ITEMS_fields", "MOST_STRIDE", "mask_of", "numbers_in", "number_in", "number_in_fields", "span_in", "item_mask", "read_field", "FIGURES_marks", "MOST_SIGNS_marks", "MOST_ITEMS_marks", "MOST_MARKS", "SUNDAY", "SATURDAY", "weekday_in", "Mark", "Numbers", "Last", "Near", "LastWork", "Weekdays", "Nth", "LastOne"]
def nm1_2 : List Str := ["any_days", "number_in_marks", "day_mark", "weekday_mark", "items_of", "plain_item", "read_items", "read_days", "read_weekdays", "DAY", "HOUR", "parted", "MOST_SIGNS_rows", "HOURS", "MINUTES_rows", "Row", "words_of", "field_at", "read_row", "MOST_PARTS", "MOST_COUNTED", "DEEPEST", "MINUTES_books", "all_times", "days_of"]
def nm1_3 : List Str := ["need_book", "need_small", "books_of", "Book", "Of", "Joined", "Met", "Less", "Turned", "MOST_DAYS", "is_in", "month_open", "is_shut_day", "day_open", "hour_open", "minute_open", "open_again", "MANY_KINDS", "never", "run_end", "next_from", "_law_cell_at", "_law_stir", "_law_digits", "_law_whole"]
def nm1_4 : List Str := ["_law_field", "_law_row", "_law_tree", "_law_make", "_law_joined", "_law_masks", "_law_rows", "_law_moment", "_law_near", "_law_told", "_law_bit", "_law_eight"]
def nm1 : List Str := nm1_0 ++ nm1_1 ++ nm1_2 ++ nm1_3 ++ nm1_4
abbrev R1 : PySem.W.OpenRow := PySem.W.OpenLaw.row PySem.Challenge.rw_fivefields_k63_on_days
def as1 : List Addr := [3, 60, 79, 243, 250, 271, 278, 285, 305, 312, 319, 338, 345, 352, 371, 378, 397, 404, 411, 430, 437, 444, 463, 470, 477, 566, 573, 580, 587, 594, 601, 608, 615, 622, 697, 702, 709, 716, 737, 744] ++ [749, 768, 775, 780, 785, 790, 809, 816, 821, 826, 831, 850, 857, 862, 869, 876, 895, 902, 907, 914, 921, 6, 4, 21, 31, 44, 63, 82, 94, 103, 110, 111, 118, 125, 132, 137, 144, 151, 158, 165] ++ [172, 179, 184, 191, 198, 496, 203, 208, 215, 222, 229, 253, 288, 322, 355, 381, 414, 447, 480, 489, 503, 510, 517, 524, 531, 538, 545, 552, 625, 636, 643, 650, 657, 664, 671, 676, 683, 719, 752, 793] ++ [834, 879, 924, 933, 940, 947, 954, 961, 968, 975, 982, 989, 996, 1003, 1010, 1017, 1024, 1031, 1038, 1043, 1048, 1055, 1060, 1067, 1074, 1081, 1088, 1095, 1100, 1107, 0, 20, 30, 43, 62, 81, 93, 102, 109, 117] ++ [124, 131, 136, 143, 150, 157, 164, 171, 178, 183, 190, 197, 495, 202, 207, 214, 221, 228, 252, 287, 321, 354, 380, 413, 446, 479, 488, 502, 509, 516, 523, 530, 537, 544, 551, 624, 635, 642, 649, 656] ++ [663, 670, 675, 682, 718, 751, 792, 833, 878, 923, 932, 939, 946, 953, 960, 967, 974, 981, 988, 995, 1002, 1009, 1016, 1023, 1030, 1037, 1042, 1047, 1054, 1059, 1066, 1073, 1080, 1087, 1094, 1099, 1106, 59, 78, 242] ++ [249, 270, 277, 284, 304, 298, 311, 318, 337, 344, 351, 370, 377, 396, 403, 410, 429, 436, 443, 462, 469, 476, 565, 572, 579, 586, 593, 600, 607, 614, 621, 696, 701, 708, 715, 736, 743, 748, 767, 774] ++ [779, 784, 789, 808, 815, 820, 825, 830, 849, 856, 861, 868, 875, 894, 901, 906, 913, 920]
end DL
set_option maxRecDepth 100000
set_option maxHeartbeats 4000000
namespace DL
open PySem L2
theorem runA (w : World) : HandSHeadRun.RunEq R1 (PySem.W.view R1.prog [126]) (hkL as1 fa1 [] []) (obL as1 fa1 [] []) 30000 nm1 w := by
  intro os
  kernel_rfl
end DL
set_option maxRecDepth 100000
set_option maxHeartbeats 4000000
namespace DL
open PySem L2
theorem runB (w : World) : HandSHeadRun.RunEq R1 (PySem.W.view R1.prog [126]) (hkL as1 [] xs1 []) (obL as1 [] xs1 []) 30000 nm1 w := by
  intro os
  kernel_rfl
end DL
set_option maxRecDepth 100000
set_option maxHeartbeats 4000000
namespace DL
open PySem L2
theorem runC (w : World) : HandSHeadRun.RunEq R1 (PySem.W.view R1.prog [126]) (hkL as1 [] [] fn1) (obL as1 [] [] fn1) 30000 nm1 w := by
  intro os
  kernel_rfl
end DL
set_option maxRecDepth 100000
set_option maxHeartbeats 4000000
namespace DL
open PySem L2
noncomputable section
def at_mask : Nat → Option Nat
  | 1 => some 0
  | 5 => some 0
  | _ => none
def at_back : Nat → Option Nat
  | 2 => some 0
  | _ => none
def at_day : Nat → Option Nat
  | 3 => some 0
  | _ => none
def at_weekday : Nat → Option Nat
  | 6 => some 0
  | 7 => some 0
  | _ => none
def at_many : Nat → Option Nat
  | 6 => some 1
  | _ => none
def at_minute_mask : Nat → Option Nat
  | 0 => some 0
  | _ => none
def at_hour_mask : Nat → Option Nat
  | 0 => some 1
  | _ => none
def at_day_marks : Nat → Option Nat
  | 0 => some 2
  | _ => none
def at_month_mask : Nat → Option Nat
  | 0 => some 3
  | _ => none
def at_weekday_marks : Nat → Option Nat
  | 0 => some 4
  | _ => none
def at_books : Nat → Option Nat
  | 10 => some 0
  | 11 => some 0
  | _ => none
def at_one : Nat → Option Nat
  | 12 => some 0
  | 13 => some 0
  | _ => none
def at_other : Nat → Option Nat
  | 12 => some 1
  | _ => none
def at_row : Nat → Option Nat
  | 9 => some 0
  | _ => none
def at_told_times : Nat → Option Nat
  | 9 => some 1
  | _ => none
def at_told_days : Nat → Option Nat
  | 9 => some 2
  | _ => none
def nmF : Nat → List Str
  | 0 => ["minute_mask", "hour_mask", "day_marks", "month_mask", "weekday_marks"]
  | 1 => ["mask"]
  | 2 => ["back"]
  | 3 => ["day"]
  | 5 => ["mask"]
  | 6 => ["weekday", "many"]
  | 7 => ["weekday"]
  | 9 => ["row", "told_times", "told_days"]
  | 10 => ["books"]
  | 11 => ["books"]
  | 12 => ["one", "other"]
  | 13 => ["one"]
  | _ => []
def isiBook : Tag → Option Bool
  | .c 8 => some true
  | .c 9 => some true
  | .c 10 => some true
  | .c 11 => some true
  | .c 12 => some true
  | .c 13 => some true
  | _ => none
def isiRow : Tag → Option Bool
  | .c 0 => some true
  | _ => none
def isiOf : Tag → Option Bool
  | .c 9 => some true
  | .c 8 => some false
  | .c 10 => some false
  | .c 11 => some false
  | .c 12 => some false
  | .c 13 => some false
  | _ => none
def isiJoined : Tag → Option Bool
  | .c 10 => some true
  | .c 8 => some false
  | .c 9 => some false
  | .c 11 => some false
  | .c 12 => some false
  | .c 13 => some false
  | _ => none
def isiMet : Tag → Option Bool
  | .c 11 => some true
  | .c 8 => some false
  | .c 9 => some false
  | .c 10 => some false
  | .c 12 => some false
  | .c 13 => some false
  | _ => none
def isiLess : Tag → Option Bool
  | .c 12 => some true
  | .c 8 => some false
  | .c 9 => some false
  | .c 10 => some false
  | .c 11 => some false
  | .c 13 => some false
  | _ => none
def isiTurned : Tag → Option Bool
  | .c 13 => some true
  | .c 8 => some false
  | .c 9 => some false
  | .c 10 => some false
  | .c 11 => some false
  | .c 12 => some false
  | _ => none
def dd_Last : List D := [.int 0]
abbrev k_FIGURES_wholes : D := (.str "0123456789")
abbrev k_LASTS : D := (.tup [(.int 31), (.int 28), (.int 31), (.int 30), (.int 31), (.int 30), (.int 31), (.int 31), (.int 30), (.int 31), (.int 30), (.int 31)])
abbrev k_ROUND_YEARS : D := (.int 400)
abbrev k_ROUND_DAYS : D := (.int 146097)
abbrev k_LONG : D := (.int 12)
abbrev k_SHORT_YEAR : D := (.int 1)
abbrev k_MOST_SIGNS_fields : D := (.int 300)
abbrev k_MOST_ITEMS_fields : D := (.int 40)
abbrev k_MOST_STRIDE : D := (.int 99)
abbrev k_FIGURES_marks : D := (.str "0123456789")
abbrev k_MOST_SIGNS_marks : D := (.int 300)
abbrev k_MOST_ITEMS_marks : D := (.int 40)
abbrev k_MOST_MARKS : D := (.int 20)
abbrev k_SUNDAY : D := (.int 0)
abbrev k_SATURDAY : D := (.int 6)
abbrev k_DAY : D := (.int 1440)
abbrev k_HOUR : D := (.int 60)
abbrev k_MOST_SIGNS_rows : D := (.int 1600)
abbrev k_HOURS : D := (.int 24)
abbrev k_MINUTES_rows : D := (.int 60)
abbrev k_MOST_PARTS : D := (.int 8)
abbrev k_MOST_COUNTED : D := (.int 24)
abbrev k_DEEPEST : D := (.int 5)
abbrev k_MINUTES_books : D := (.int 1440)
abbrev k_MOST_DAYS : D := (.int 400)
abbrev k_MANY_KINDS : D := (.int 91)
section
variable {P : Program} {w : World} {K : PySem.W.Frag} {mg : Str → Option Value} {base : Heap} {c : Cf}
abbrev sm_is_whole_N : List Str := ["thing"]
def m_is_whole_b : DS := (sRet (dAnd (dIsi (isiB "int") (dVar 0)) (dNot (dIsi (isiB "bool") (dVar 0)))))
def m_is_whole : List D → Option D := runD 1 (m_is_whole_b)
theorem sc_m_is_whole : FnScope sm_is_whole_N ["thing"] (defScope (topS 9)) := ⟨rfl, rfl, rfl, by decide +kernel, rfl, by decide +kernel, by decide +kernel⟩
theorem ok_m_is_whole {f : Addr} {fd : FuncData} (F : DFun K "is_whole" "is_whole" (topS 9) f fd) (n_isinstance : mg "isinstance" = none) (n_int : mg "int" = none) (n_bool : mg "bool" = none) :
    FnOk P w K mg base CX0 1 f fd ["thing"] (spD K c 1 (m_is_whole)) := by
  have S := sc_m_is_whole
  refine okD' (n := 1) (m := 1) (B := m_is_whole_b) F S rfl rfl rfl fun cdv A outer s H E hr => ?_
  exact (ss_one (s_ret (d_and (d_isiB (n := "int") n_isinstance n_int (by decide +kernel) (d_var 0)) (d_one (d_not (d_isiB (n := "bool") n_isinstance n_bool (by decide +kernel) (d_var 0)))))))
abbrev sm_only_figures_N : List Str := ["signs", "sign"]
def m_only_figures_b : DS := (sSeq (sFor (itE (dVar 0)) (tgN 1) (sIf (asB (dOp opNotIn (dVar 1) (dC k_FIGURES_wholes))) (sRet (dC (.bl false))) sNil)) (sRet (dOp opNe (dVar 0) (dC (.str "")))))
def m_only_figures : List D → Option D := runD 2 (m_only_figures_b)
theorem sc_m_only_figures : FnScope sm_only_figures_N ["signs"] (defScope (topS 10)) := ⟨rfl, rfl, rfl, by decide +kernel, rfl, by decide +kernel, by decide +kernel⟩
theorem ok_m_only_figures {f : Addr} {fd : FuncData} (F : DFun K "only_figures" "only_figures" (topS 10) f fd) (g_FIGURES_wholes : GlobD K c mg "FIGURES_wholes" k_FIGURES_wholes) :
    FnOk P w K mg base CX0 1 f fd ["signs"] (spD K c 1 (m_only_figures)) := by
  have S := sc_m_only_figures
  refine okD' (n := 2) (m := 1) (B := m_only_figures_b) F S rfl rfl rfl fun cdv A outer s H E hr => ?_
  exact (ss_cons (s_for PassesOwn.never rfl (it_e (d_var 0)) (g_name (i := 1) S.nd) (ss_one (s_if (d_tcmp opD_notIn (d_var 1) (d_glob g_FIGURES_wholes)) (ss_one (s_ret d_bl)) ss_nil))) (ss_one (s_ret (d_cmp (opD_ne hr) (d_var 0) d_str))))
abbrev sm_is_long_N : List Str := ["year"]
def m_is_long_b : DS := (sRet (dAnd (dOp opEq (dOp opMod (dVar 0) (dC (.int 4))) (dC (.int 0))) (dOr (dOp opNe (dOp opMod (dVar 0) (dC (.int 100))) (dC (.int 0))) (dOp opEq (dOp opMod (dVar 0) (dC (.int 400))) (dC (.int 0))))))
def m_is_long : List D → Option D := runD 1 (m_is_long_b)
theorem sc_m_is_long : FnScope sm_is_long_N ["year"] (defScope (topS 15)) := ⟨rfl, rfl, rfl, by decide +kernel, rfl, by decide +kernel, by decide +kernel⟩
theorem ok_m_is_long {f : Addr} {fd : FuncData} (F : DFun K "is_long" "is_long" (topS 15) f fd)  :
    FnOk P w K mg base CX0 1 f fd ["year"] (spD K c 1 (m_is_long)) := by
  have S := sc_m_is_long
  refine okD' (n := 1) (m := 1) (B := m_is_long_b) F S rfl rfl rfl fun cdv A outer s H E hr => ?_
  exact (ss_one (s_ret (d_and (d_cmp (opD_eq hr) (d_op opD_mod (d_var 0) d_int) d_int) (d_one (d_or (d_cmp (opD_ne hr) (d_op opD_mod (d_var 0) d_int) d_int) (d_one (d_cmp (opD_eq hr) (d_op opD_mod (d_var 0) d_int) d_int)))))))
abbrev sm_days_before_N : List Str := ["year"]
def m_days_before_b : DS := (sRet (dOp opAdd (dOp opSub (dOp opAdd (dOp opMul (dC (.int 365)) (dVar 0)) (dOp opFdiv (dOp opAdd (dVar 0) (dC (.int 3))) (dC (.int 4)))) (dOp opFdiv (dOp opAdd (dVar 0) (dC (.int 99))) (dC (.int 100)))) (dOp opFdiv (dOp opAdd (dVar 0) (dC (.int 399))) (dC (.int 400)))))
def m_days_before : List D → Option D := runD 1 (m_days_before_b)
theorem sc_m_days_before : FnScope sm_days_before_N ["year"] (defScope (topS 16)) := ⟨rfl, rfl, rfl, by decide +kernel, rfl, by decide +kernel, by decide +kernel⟩
theorem ok_m_days_before {f : Addr} {fd : FuncData} (F : DFun K "days_before" "days_before" (topS 16) f fd)  :
    FnOk P w K mg base CX0 1 f fd ["year"] (spD K c 1 (m_days_before)) := by
  have S := sc_m_days_before
  refine okD' (n := 1) (m := 1) (B := m_days_before_b) F S rfl rfl rfl fun cdv A outer s H E hr => ?_
  exact (ss_one (s_ret (d_op opD_add (d_op opD_sub (d_op opD_add (d_op opD_mul d_int (d_var 0)) (d_op opD_fdiv (d_op opD_add (d_var 0) d_int) d_int)) (d_op opD_fdiv (d_op opD_add (d_var 0) d_int) d_int)) (d_op opD_fdiv (d_op opD_add (d_var 0) d_int) d_int))))
abbrev sm_last_of_N : List Str := ["year", "month"]
def m_last_of_b : DS := (sSeq (sIf (dAndT (asB (dOp opEq (dVar 1) (dC (.int 2)))) (asB (dCall 1 m_is_long (aCons (dVar 0) aNil)))) (sRet (dC (.int 29))) sNil) (sRet (dOp opIx (dC k_LASTS) (dOp opSub (dVar 1) (dC (.int 1))))))
def m_last_of : List D → Option D := runD 2 (m_last_of_b)
theorem sc_m_last_of : FnScope sm_last_of_N ["year", "month"] (defScope (topS 17)) := ⟨rfl, rfl, rfl, by decide +kernel, rfl, by decide +kernel, by decide +kernel⟩
theorem ok_m_last_of {f : Addr} {fd : FuncData} (F : DFun K "last_of" "last_of" (topS 17) f fd) (C_is_long : Cal P w K mg base "is_long" 1 ["year"] (spD K c 1 m_is_long)) (g_LASTS : GlobD K c mg "LASTS" k_LASTS) :
    FnOk P w K mg base CX0 2 f fd ["year", "month"] (spD K c 2 (m_last_of)) := by
  have S := sc_m_last_of
  refine okD' (n := 2) (m := 2) (B := m_last_of_b) F S rfl rfl rfl fun cdv A outer s H E hr => ?_
  exact (ss_cons (s_if (PW.pt (d_wand (d_tcmp (opD_eq hr) (d_var 1) d_int) (d_wand1 (d_test (d_call C_is_long hr (by decide) (a_cons (d_var 0) a_nil)))))) (ss_one (s_ret d_int)) ss_nil) (ss_one (s_ret (d_ix (d_glob g_LASTS) (d_op opD_sub (d_var 1) d_int)))))
abbrev sm_day_of_N : List Str := ["year", "month", "day", "k"]
def m_day_of_b : DS := (sSeq (sIf (dOrT (dNotT (asB (dCall 1 m_is_whole (aCons (dVar 0) aNil)))) (dOrT (dNotT (asB (dCall 1 m_is_whole (aCons (dVar 1) aNil)))) (dNotT (asB (dCall 1 m_is_whole (aCons (dVar 2) aNil)))))) sNever sNil) (sSeq (sIf (dOrT (dNotT (asB (dChain opLe opLe (dC (.int 1)) (dVar 1) (dC (.int 12))))) (dNotT (asB (dChain opLe opLe (dC (.int 1)) (dVar 2) (dCall 2 m_last_of (aCons (dVar 0) (aCons (dVar 1) aNil))))))) sNever sNil) (sRet (dOp opSub (dOp opAdd (dOp opAdd (dCall 1 m_days_before (aCons (dVar 0) aNil)) (dBu bSum (aCons (dO (oLc (itR2 (aCons (dC (.int 1)) (aCons (dVar 1) aNil))) (tgN 3) tTrue (dCall 2 m_last_of (aCons (dVar 0) (aCons (dVar 3) aNil))) [3])) aNil))) (dVar 2)) (dC (.int 1))))))
def m_day_of : List D → Option D := runD 4 (m_day_of_b)
theorem sc_m_day_of : FnScope sm_day_of_N ["year", "month", "day"] (defScope (topS 18)) := ⟨rfl, rfl, rfl, by decide +kernel, rfl, by decide +kernel, by decide +kernel⟩
theorem ok_m_day_of {f : Addr} {fd : FuncData} (F : DFun K "day_of" "day_of" (topS 18) f fd) (C_is_whole : Cal P w K mg base "is_whole" 1 ["thing"] (spD K c 1 m_is_whole)) (C_last_of : Cal P w K mg base "last_of" 2 ["year", "month"] (spD K c 2 m_last_of)) (C_days_before : Cal P w K mg base "days_before" 1 ["year"] (spD K c 1 m_days_before)) (n_range : mg "range" = none) (n_sum : mg "sum" = none) :
    FnOk P w K mg base CX0 3 f fd ["year", "month", "day"] (spD K c 3 (m_day_of)) := by
  have S := sc_m_day_of
  refine okD' (n := 4) (m := 3) (B := m_day_of_b) F S rfl rfl rfl fun cdv A outer s H E hr => ?_
  exact (ss_cons (s_if (PW.pt (d_wor (d_tnot (d_test (d_call C_is_whole hr (by decide) (a_cons (d_var 0) a_nil)))) (d_wor (d_tnot (d_test (d_call C_is_whole hr (by decide) (a_cons (d_var 1) a_nil)))) (d_wor1 (d_tnot (d_test (d_call C_is_whole hr (by decide) (a_cons (d_var 2) a_nil)))))))) (ss_one s_never) ss_nil) (ss_cons (s_if (PW.pt (d_wor (d_tnot (d_tchain opD_le opD_le d_int (d_var 1) d_int)) (d_wor1 (d_tnot (d_tchain opD_le opD_le d_int (d_var 2) (d_call C_last_of hr (by decide) (a_cons (d_var 0) (a_cons (d_var 1) a_nil)))))))) (ss_one s_never) ss_nil) (ss_one (s_ret (d_op opD_sub (d_op opD_add (d_op opD_add (d_call C_days_before hr (by decide) (a_cons (d_var 0) a_nil)) (d_callB (bu_sum rfl) n_sum (a_cons (d_ofO (o_lc (own := [("k", 3)]) rfl S.nd (it_r2 n_range (a_cons d_int (a_cons (d_var 1) a_nil))) (blkOk_by (own := [("k", 3)]) (N := sm_day_of_N) (sc := defScope (topS 18)) (by decide +kernel)) (tgN_in (by decide)) (fun _ _ _ _ _ => (g_name (i := 3) S.nd)) (fun _ _ _ _ _ => ts_nil) (fun _ _ _ _ _ => (d_call C_last_of hr (by decide) (a_cons (d_var 0) (a_cons (d_var 3) a_nil)))))) a_nil))) (d_var 2)) d_int)))))
abbrev sm_date_of_N : List Str := ["day", "year", "left", "month"]
def m_date_of_b : DS := (sSeq (sAsg (dOp opFdiv (dOp opMul (dVar 0) (dC k_ROUND_YEARS)) (dC k_ROUND_DAYS)) (tgN 1)) (sSeq (sWhile 100000 (asB (dOp opGt (dCall 1 m_days_before (aCons (dVar 1) aNil)) (dVar 0))) (sAsg (dOp opSub (dVar 1) (dC (.int 1))) (tgN 1))) (sSeq (sWhile 100000 (asB (dOp opLe (dCall 1 m_days_before (aCons (dOp opAdd (dVar 1) (dC (.int 1))) aNil)) (dVar 0))) (sAsg (dOp opAdd (dVar 1) (dC (.int 1))) (tgN 1))) (sSeq (sAsg (dOp opSub (dVar 0) (dCall 1 m_days_before (aCons (dVar 1) aNil))) (tgN 2)) (sSeq (sAsg (dC (.int 1)) (tgN 3)) (sSeq (sWhile 100000 (asB (dOp opGe (dVar 2) (dCall 2 m_last_of (aCons (dVar 1) (aCons (dVar 3) aNil))))) (sSeq (sAsg (dOp opSub (dVar 2) (dCall 2 m_last_of (aCons (dVar 1) (aCons (dVar 3) aNil)))) (tgN 2)) (sAsg (dOp opAdd (dVar 3) (dC (.int 1))) (tgN 3)))) (sRet (dTup (aCons (dVar 1) (aCons (dVar 3) (aCons (dOp opAdd (dVar 2) (dC (.int 1))) aNil)))))))))))
def m_date_of : List D → Option D := runD 4 (m_date_of_b)
theorem sc_m_date_of : FnScope sm_date_of_N ["day"] (defScope (topS 19)) := ⟨rfl, rfl, rfl, by decide +kernel, rfl, by decide +kernel, by decide +kernel⟩
theorem ok_m_date_of {f : Addr} {fd : FuncData} (F : DFun K "date_of" "date_of" (topS 19) f fd) (C_days_before : Cal P w K mg base "days_before" 1 ["year"] (spD K c 1 m_days_before)) (C_last_of : Cal P w K mg base "last_of" 2 ["year", "month"] (spD K c 2 m_last_of)) (g_ROUND_YEARS : GlobD K c mg "ROUND_YEARS" k_ROUND_YEARS) (g_ROUND_DAYS : GlobD K c mg "ROUND_DAYS" k_ROUND_DAYS) :
    FnOk P w K mg base CX0 3 f fd ["day"] (spD K c 1 (m_date_of)) := by
  have S := sc_m_date_of
  refine okD' (n := 4) (m := 1) (B := m_date_of_b) F S rfl rfl rfl fun cdv A outer s H E hr => ?_
  exact (ss_cons (s_set (i := 1) S.nd (d_op opD_fdiv (d_op opD_mul (d_var 0) (d_glob g_ROUND_YEARS)) (d_glob g_ROUND_DAYS))) (ss_cons (s_while 100000 PassesOwn.never (d_tcmp opD_gt (d_call C_days_before hr (by decide) (a_cons (d_var 1) a_nil)) (d_var 0)) (ss_one (s_set (i := 1) S.nd (d_op opD_sub (d_var 1) d_int)))) (ss_cons (s_while 100000 PassesOwn.never (d_tcmp opD_le (d_call C_days_before hr (by decide) (a_cons (d_op opD_add (d_var 1) d_int) a_nil)) (d_var 0)) (ss_one (s_set (i := 1) S.nd (d_op opD_add (d_var 1) d_int)))) (ss_cons (s_set (i := 2) S.nd (d_op opD_sub (d_var 0) (d_call C_days_before hr (by decide) (a_cons (d_var 1) a_nil)))) (ss_cons (s_set (i := 3) S.nd d_int) (ss_cons (s_while 100000 PassesOwn.never (d_tcmp opD_ge (d_var 2) (d_call C_last_of hr (by decide) (a_cons (d_var 1) (a_cons (d_var 3) a_nil)))) (ss_cons (s_set (i := 2) S.nd (d_op opD_sub (d_var 2) (d_call C_last_of hr (by decide) (a_cons (d_var 1) (a_cons (d_var 3) a_nil))))) (ss_one (s_set (i := 3) S.nd (d_op opD_add (d_var 3) d_int))))) (ss_one (s_ret (d_tup (a_cons (d_var 1) (a_cons (d_var 3) (a_cons (d_op opD_add (d_var 2) d_int) a_nil))))))))))))
abbrev sm_weekday_N : List Str := ["day"]
def m_weekday_b : DS := (sRet (dOp opMod (dOp opAdd (dVar 0) (dC (.int 6))) (dC (.int 7))))
def m_weekday : List D → Option D := runD 1 (m_weekday_b)
theorem sc_m_weekday : FnScope sm_weekday_N ["day"] (defScope (topS 20)) := ⟨rfl, rfl, rfl, by decide +kernel, rfl, by decide +kernel, by decide +kernel⟩
theorem ok_m_weekday {f : Addr} {fd : FuncData} (F : DFun K "weekday" "weekday" (topS 20) f fd)  :
    FnOk P w K mg base CX0 1 f fd ["day"] (spD K c 1 (m_weekday)) := by
  have S := sc_m_weekday
  refine okD' (n := 1) (m := 1) (B := m_weekday_b) F S rfl rfl rfl fun cdv A outer s H E hr => ?_
  exact (ss_one (s_ret (d_op opD_mod (d_op opD_add (d_var 0) d_int) d_int)))
abbrev sm_kind_of_N : List Str := ["year", "month", "place"]
def m_kind_of_b : DS := (sSeq (sAsg (dOp opSub (dVar 1) (dC (.int 1))) (tgN 2)) (sSeq (sIf (dAndT (asB (dOp opEq (dVar 1) (dC (.int 2)))) (asB (dCall 1 m_is_long (aCons (dVar 0) aNil)))) (sAsg (dC k_LONG) (tgN 2)) sNil) (sRet (dOp opAdd (dOp opMul (dC (.int 7)) (dVar 2)) (dCall 1 m_weekday (aCons (dCall 3 m_day_of (aCons (dVar 0) (aCons (dVar 1) (aCons (dC (.int 1)) aNil)))) aNil))))))
def m_kind_of : List D → Option D := runD 3 (m_kind_of_b)
theorem sc_m_kind_of : FnScope sm_kind_of_N ["year", "month"] (defScope (topS 24)) := ⟨rfl, rfl, rfl, by decide +kernel, rfl, by decide +kernel, by decide +kernel⟩
theorem ok_m_kind_of {f : Addr} {fd : FuncData} (F : DFun K "kind_of" "kind_of" (topS 24) f fd) (C_is_long : Cal P w K mg base "is_long" 1 ["year"] (spD K c 1 m_is_long)) (C_weekday : Cal P w K mg base "weekday" 1 ["day"] (spD K c 1 m_weekday)) (C_day_of : Cal P w K mg base "day_of" 3 ["year", "month", "day"] (spD K c 3 m_day_of)) (g_LONG : GlobD K c mg "LONG" k_LONG) :
    FnOk P w K mg base CX0 4 f fd ["year", "month"] (spD K c 2 (m_kind_of)) := by
  have S := sc_m_kind_of
  refine okD' (n := 3) (m := 2) (B := m_kind_of_b) F S rfl rfl rfl fun cdv A outer s H E hr => ?_
  exact (ss_cons (s_set (i := 2) S.nd (d_op opD_sub (d_var 1) d_int)) (ss_cons (s_if (PW.pt (d_wand (d_tcmp (opD_eq hr) (d_var 1) d_int) (d_wand1 (d_test (d_call C_is_long hr (by decide) (a_cons (d_var 0) a_nil)))))) (ss_one (s_set (i := 2) S.nd (d_glob g_LONG))) ss_nil) (ss_one (s_ret (d_op opD_add (d_op opD_mul d_int (d_var 2)) (d_call C_weekday hr (by decide) (a_cons (d_call C_day_of hr (by decide) (a_cons (d_var 0) (a_cons (d_var 1) (a_cons d_int a_nil)))) a_nil)))))))
abbrev sm_month_at_N : List Str := ["kind", "place", "first"]
def m_month_at_b : DS := (sSeq (sAsg (dBu bDivmod (aCons (dVar 0) (aCons (dC (.int 7)) aNil))) (tgT [1, 2])) (sSeq (sIf (asB (dOp opEq (dVar 1) (dC k_LONG))) (sRet (dTup (aCons (dC (.int 2)) (aCons (dC (.int 29)) (aCons (dVar 2) aNil))))) sNil) (sRet (dTup (aCons (dOp opAdd (dVar 1) (dC (.int 1))) (aCons (dCall 2 m_last_of (aCons (dC k_SHORT_YEAR) (aCons (dOp opAdd (dVar 1) (dC (.int 1))) aNil))) (aCons (dVar 2) aNil)))))))
def m_month_at : List D → Option D := runD 3 (m_month_at_b)
theorem sc_m_month_at : FnScope sm_month_at_N ["kind"] (defScope (topS 25)) := ⟨rfl, rfl, rfl, by decide +kernel, rfl, by decide +kernel, by decide +kernel⟩
theorem ok_m_month_at {f : Addr} {fd : FuncData} (F : DFun K "month_at" "month_at" (topS 25) f fd) (C_last_of : Cal P w K mg base "last_of" 2 ["year", "month"] (spD K c 2 m_last_of)) (g_LONG : GlobD K c mg "LONG" k_LONG) (g_SHORT_YEAR : GlobD K c mg "SHORT_YEAR" k_SHORT_YEAR) (n_divmod : mg "divmod" = none) :
    FnOk P w K mg base CX0 3 f fd ["kind"] (spD K c 1 (m_month_at)) := by
  have S := sc_m_month_at
  refine okD' (n := 3) (m := 1) (B := m_month_at_b) F S rfl rfl rfl fun cdv A outer s H E hr => ?_
  exact (ss_cons (s_asg (d_callB bu_divmod n_divmod (a_cons (d_var 0) (a_cons d_int a_nil))) (g_tup (is := [1, 2]) rfl (gs_cons (i := 1) S.nd (gs_cons (i := 2) S.nd gs_nil)))) (ss_cons (s_if (d_tcmp (opD_eq hr) (d_var 1) (d_glob g_LONG)) (ss_one (s_ret (d_tup (a_cons d_int (a_cons d_int (a_cons (d_var 2) a_nil)))))) ss_nil) (ss_one (s_ret (d_tup (a_cons (d_op opD_add (d_var 1) d_int) (a_cons (d_call C_last_of hr (by decide) (a_cons (d_glob g_SHORT_YEAR) (a_cons (d_op opD_add (d_var 1) d_int) a_nil))) (a_cons (d_var 2) a_nil))))))))
abbrev sm_mask_of_N : List Str := ["numbers", "mask", "number"]
def m_mask_of_b : DS := (sSeq (sAsg (dC (.int 0)) (tgN 1)) (sSeq (sFor (itE (dVar 0)) (tgN 2) (sAsg (dOp opOr (dVar 1) (dOp opShl (dC (.int 1)) (dVar 2))) (tgN 1))) (sRet (dVar 1))))
def m_mask_of : List D → Option D := runD 3 (m_mask_of_b)
theorem sc_m_mask_of : FnScope sm_mask_of_N ["numbers"] (defScope (topS 34)) := ⟨rfl, rfl, rfl, by decide +kernel, rfl, by decide +kernel, by decide +kernel⟩
theorem ok_m_mask_of {f : Addr} {fd : FuncData} (F : DFun K "mask_of" "mask_of" (topS 34) f fd)  :
    FnOk P w K mg base CX0 1 f fd ["numbers"] (spD K c 1 (m_mask_of)) := by
  have S := sc_m_mask_of
  refine okD' (n := 3) (m := 1) (B := m_mask_of_b) F S rfl rfl rfl fun cdv A outer s H E hr => ?_
  exact (ss_cons (s_set (i := 1) S.nd d_int) (ss_cons (s_for PassesOwn.never rfl (it_e (d_var 0)) (g_name (i := 2) S.nd) (ss_one (s_set (i := 1) S.nd (d_op opD_or (d_var 1) (d_op opD_shl d_int (d_var 2)))))) (ss_one (s_ret (d_var 1)))))
abbrev sm_numbers_in_N : List Str := ["mask", "found", "number"]
def m_numbers_in_b : DS := (sSeq (sAsgO (oLst aNil) 1) (sSeq (sAsg (dC (.int 0)) (tgN 2)) (sSeq (sWhile 100000 (asB (dOp opGt (dOp opShr (dVar 0) (dVar 2)) (dC (.int 0)))) (sSeq (sIf (asB (dOp opEq (dOp opAnd (dOp opShr (dVar 0) (dVar 2)) (dC (.int 1))) (dC (.int 1)))) (sApp 1 (dVar 2)) sNil) (sAsg (dOp opAdd (dVar 2) (dC (.int 1))) (tgN 2)))) (sRetO 1))))
def m_numbers_in : List D → Option D := runD 3 (m_numbers_in_b)
theorem sc_m_numbers_in : FnScope sm_numbers_in_N ["mask"] (defScope (topS 35)) := ⟨rfl, rfl, rfl, by decide +kernel, rfl, by decide +kernel, by decide +kernel⟩
theorem ok_m_numbers_in {f : Addr} {fd : FuncData} (F : DFun K "numbers_in" "numbers_in" (topS 35) f fd)  :
    FnOk P w K mg base CX0 1 f fd ["mask"] (spD K c 1 (m_numbers_in)) := by
  have S := sc_m_numbers_in
  refine okD' (n := 3) (m := 1) (B := m_numbers_in_b) F S rfl rfl rfl fun cdv A outer s H E hr => ?_
  exact (ss_cons (s_setO (i := 1) S.nd (o_lst a_nil)) (ss_cons (s_set (i := 2) S.nd d_int) (ss_cons (s_while 100000 PassesOwn.never (d_tcmp opD_gt (d_op opD_shr (d_var 0) (d_var 2)) d_int) (ss_cons (s_if (d_tcmp (opD_eq hr) (d_op opD_and (d_op opD_shr (d_var 0) (d_var 2)) d_int) d_int) (ss_one (s_app 1 (d_var 2))) ss_nil) (ss_one (s_set (i := 2) S.nd (d_op opD_add (d_var 2) d_int))))) (ss_one (s_retO 1)))))
abbrev sm_number_in_N : List Str := ["text", "low", "high", "number"]
def m_number_in_b : DS := (sSeq (sIf (dOrT (dNotT (asB (dCall 1 m_only_figures (aCons (dVar 0) aNil)))) (dOrT (asB (dOp opGt (dBu bLen (aCons (dVar 0) aNil)) (dC (.int 2)))) (dAndT (asB (dOp opEq (dOp opIx (dVar 0) (dC (.int 0))) (dC (.str "0")))) (asB (dOp opNe (dVar 0) (dC (.str "0"))))))) (sRet (dO (oLst aNil))) sNil) (sRet (dO (oLc (itE (dO (oLst (aCons (dBu bInt (aCons (dVar 0) aNil)) aNil)))) (tgN 3) (asB (dChain opLe opLe (dVar 1) (dVar 3) (dVar 2))) (dVar 3) [3]))))
def m_number_in : List D → Option D := runD 4 (m_number_in_b)
theorem sc_m_number_in : FnScope sm_number_in_N ["text", "low", "high"] (defScope (topS 36)) := ⟨rfl, rfl, rfl, by decide +kernel, rfl, by decide +kernel, by decide +kernel⟩
theorem ok_m_number_in {f : Addr} {fd : FuncData} (F : DFun K "number_in" "number_in" (topS 36) f fd) (C_only_figures : Cal P w K mg base "only_figures" 1 ["signs"] (spD K c 1 m_only_figures)) (n_len : mg "len" = none) (n_int : mg "int" = none) :
    FnOk P w K mg base CX0 2 f fd ["text", "low", "high"] (spD K c 3 (m_number_in)) := by
  have S := sc_m_number_in
  refine okD' (n := 4) (m := 3) (B := m_number_in_b) F S rfl rfl rfl fun cdv A outer s H E hr => ?_
  exact (ss_cons (s_if (PW.pt (d_wor (d_tnot (d_test (d_call C_only_figures hr (by decide) (a_cons (d_var 0) a_nil)))) (d_wor (d_tcmp opD_gt (d_callB bu_len n_len (a_cons (d_var 0) a_nil)) d_int) (d_wor1 (PW.pt (d_wand (d_tcmp (opD_eq hr) (d_ix (d_var 0) d_int) d_str) (d_wand1 (d_tcmp (opD_ne hr) (d_var 0) d_str)))))))) (ss_one (s_ret (d_ofO (o_lst a_nil)))) ss_nil) (ss_one (s_ret (d_ofO (o_lc (own := [("number", 3)]) rfl S.nd (it_e (d_ofO (o_lst (a_cons (d_callTy bu_int n_int (a_cons (d_var 0) a_nil)) a_nil)))) (blkOk_by (own := [("number", 3)]) (N := sm_number_in_N) (sc := defScope (topS 36)) (by decide +kernel)) (tgN_in (by decide)) (fun _ _ _ _ _ => (g_name (i := 3) S.nd)) (fun _ _ _ _ _ => (ts_one (d_tchain opD_le opD_le (d_var 1) (d_var 3) (d_var 2)))) (fun _ _ _ _ _ => (d_var 3)))))))
abbrev sm_span_in_N : List Str := ["text", "low", "high", "ends", "part"]
def m_span_in_b : DS := (sSeq (sIf (asB (dOp opEq (dVar 0) (dC (.str "*")))) (sRetE (oLst (aCons (dVar 1) (aCons (dVar 2) aNil)))) sNil) (sSeq (sAsg (dO (oLc (itE (dO (oOp bSplit (dVar 0) (dC (.str "-"))))) (tgN 4) tTrue (dCall 3 m_number_in (aCons (dVar 4) (aCons (dVar 1) (aCons (dVar 2) aNil)))) [4])) (tgN 3)) (sSeq (sIf (dOrT (asB (dOp opGt (dBu bLen (aCons (dVar 3) aNil)) (dC (.int 2)))) (dOrT (asB (dOp opInDeep (dO (oLst aNil)) (dVar 3))) (asB (dOp opGt (dOp opIx (dOp opIx (dVar 3) (dC (.int 0))) (dC (.int 0))) (dOp opIx (dOp opIx (dVar 3) (dNeg (dC (.int 1)))) (dC (.int 0))))))) (sRetE (oLst aNil)) sNil) (sRetE (oLst (aCons (dOp opIx (dOp opIx (dVar 3) (dC (.int 0))) (dC (.int 0))) (aCons (dOp opIx (dOp opIx (dVar 3) (dNeg (dC (.int 1)))) (dC (.int 0))) aNil)))))))
def m_span_in : List D → Option (List D) := runO 5 (m_span_in_b)
theorem sc_m_span_in : FnScope sm_span_in_N ["text", "low", "high"] (defScope (topS 38)) := ⟨rfl, rfl, rfl, by decide +kernel, rfl, by decide +kernel, by decide +kernel⟩
theorem ok_m_span_in {f : Addr} {fd : FuncData} (F : DFun K "span_in" "span_in" (topS 38) f fd) (C_number_in_fields : Cal P w K mg base "number_in_fields" 2 ["text", "low", "high"] (spD K c 3 m_number_in)) (n_len : mg "len" = none) :
    FnOk P w K mg base CX0 3 f fd ["text", "low", "high"] (spO K c 3 (m_span_in)) := by
  have S := sc_m_span_in
  refine okO' (n := 5) (m := 3) (B := m_span_in_b) F S rfl rfl rfl fun cdv A outer s H E hr => ?_
  exact (ss_cons (s_if (d_tcmp (opD_eq hr) (d_var 0) d_str) (ss_one (s_retE (o_lst (a_cons (d_var 1) (a_cons (d_var 2) a_nil))))) ss_nil) (ss_cons (s_setLc (i := 3) (own := [("part", 4)]) rfl S.nd (it_e (d_ofO (o_split (d_var 0) d_str))) (blkOk_by (own := [("part", 4)]) (N := sm_span_in_N) (sc := defScope (topS 38)) (by decide +kernel)) (tgN_in (by decide)) (fun _ _ _ _ _ => (g_name (i := 4) S.nd)) (fun _ _ _ _ _ => ts_nil) (fun _ _ _ _ _ => (d_call C_number_in_fields hr (by decide) (a_cons (d_var 4) (a_cons (d_var 1) (a_cons (d_var 2) a_nil)))))) (ss_cons (s_if (PW.pt (d_wor (d_tcmp opD_gt (d_callB bu_len n_len (a_cons (d_var 3) a_nil)) d_int) (d_wor (d_tcmp (opD_inDeep hr) (d_ofO (o_lst a_nil)) (d_var 3)) (d_wor1 (d_tcmp opD_gt (d_ix (d_ix (d_var 3) d_int) d_int) (d_ix (d_ix (d_var 3) (d_neg d_int)) d_int)))))) (ss_one (s_retE (o_lst a_nil))) ss_nil) (ss_one (s_retE (o_lst (a_cons (d_ix (d_ix (d_var 3) d_int) d_int) (a_cons (d_ix (d_ix (d_var 3) (d_neg d_int)) d_int) a_nil))))))))
abbrev sm_item_mask_N : List Str := ["item", "low", "high", "halves", "span", "stride"]
def m_item_mask_b : DS := (sSeq (sAsg (dO (oOp bSplit (dVar 0) (dC (.str "/")))) (tgN 3)) (sSeq (sAsgO (oCall 3 m_span_in (aCons (dOp opIx (dVar 3) (dC (.int 0))) (aCons (dVar 1) (aCons (dVar 2) aNil)))) 4) (sSeq (sIf (dOrT (asB (dOwnEq 4)) (asB (dOp opGt (dBu bLen (aCons (dVar 3) aNil)) (dC (.int 2))))) (sRet (dC (.int 0))) sNil) (sSeq (sIf (asB (dOp opEq (dBu bLen (aCons (dVar 3) aNil)) (dC (.int 1)))) (sRet (dCall 1 m_mask_of (aCons (dO (oRange (dOwnIx 4 (dC (.int 0))) (dOp opAdd (dOwnIx 4 (dC (.int 1))) (dC (.int 1))))) aNil))) sNil) (sSeq (sAsg (dCall 3 m_number_in (aCons (dOp opIx (dVar 3) (dC (.int 1))) (aCons (dC (.int 1)) (aCons (dC k_MOST_STRIDE) aNil)))) (tgN 5)) (sSeq (sIf (asB (dOp opEq (dVar 5) (dO (oLst aNil)))) (sRet (dC (.int 0))) sNil) (sSeq (sIf (asB (dCall 1 m_only_figures (aCons (dOp opIx (dVar 3) (dC (.int 0))) aNil))) (sSetI 4 (dC (.int 1)) (dVar 2)) sNil) (sRet (dCall 1 m_mask_of (aCons (dO (oRange3 (dOwnIx 4 (dC (.int 0))) (dOp opAdd (dOwnIx 4 (dC (.int 1))) (dC (.int 1))) (dOp opIx (dVar 5) (dC (.int 0))))) aNil))))))))))
def m_item_mask : List D → Option D := runD 6 (m_item_mask_b)
theorem sc_m_item_mask : FnScope sm_item_mask_N ["item", "low", "high"] (defScope (topS 39)) := ⟨rfl, rfl, rfl, by decide +kernel, rfl, by decide +kernel, by decide +kernel⟩
theorem ok_m_item_mask {f : Addr} {fd : FuncData} (F : DFun K "item_mask" "item_mask" (topS 39) f fd) (C_span_in : Cal P w K mg base "span_in" 3 ["text", "low", "high"] (spO K c 3 m_span_in)) (C_mask_of : Cal P w K mg base "mask_of" 1 ["numbers"] (spD K c 1 m_mask_of)) (C_number_in_fields : Cal P w K mg base "number_in_fields" 2 ["text", "low", "high"] (spD K c 3 m_number_in)) (C_only_figures : Cal P w K mg base "only_figures" 1 ["signs"] (spD K c 1 m_only_figures)) (g_MOST_STRIDE : GlobD K c mg "MOST_STRIDE" k_MOST_STRIDE) (n_len : mg "len" = none) (n_list : mg "list" = none) (n_range : mg "range" = none) :
    FnOk P w K mg base CX0 4 f fd ["item", "low", "high"] (spD K c 3 (m_item_mask)) := by
  have S := sc_m_item_mask
  refine okD' (n := 6) (m := 3) (B := m_item_mask_b) F S rfl rfl rfl fun cdv A outer s H E hr => ?_
  exact (ss_cons (s_set (i := 3) S.nd (d_ofO (o_split (d_var 0) d_str))) (ss_cons (s_setO (i := 4) S.nd (o_call C_span_in hr (by decide) (a_cons (d_ix (d_var 3) d_int) (a_cons (d_var 1) (a_cons (d_var 2) a_nil))))) (ss_cons (s_if (PW.pt (d_wor (d_townEq 4 hr) (d_wor1 (d_tcmp opD_gt (d_callB bu_len n_len (a_cons (d_var 3) a_nil)) d_int)))) (ss_one (s_ret d_int)) ss_nil) (ss_cons (s_if (d_tcmp (opD_eq hr) (d_callB bu_len n_len (a_cons (d_var 3) a_nil)) d_int) (ss_one (s_ret (d_call C_mask_of hr (by decide) (a_cons (d_ofO (o_listRange2 rfl n_list n_range (d_ownIx 4 d_int) (d_op opD_add (d_ownIx 4 d_int) d_int))) a_nil)))) ss_nil) (ss_cons (s_set (i := 5) S.nd (d_call C_number_in_fields hr (by decide) (a_cons (d_ix (d_var 3) d_int) (a_cons d_int (a_cons (d_glob g_MOST_STRIDE) a_nil))))) (ss_cons (s_if (d_tcmp (opD_eq hr) (d_var 5) (d_ofO (o_lst a_nil))) (ss_one (s_ret d_int)) ss_nil) (ss_cons (s_if (d_test (d_call C_only_figures hr (by decide) (a_cons (d_ix (d_var 3) d_int) a_nil))) (ss_one (s_setI 4 (d_var 2) d_int)) ss_nil) (ss_one (s_ret (d_call C_mask_of hr (by decide) (a_cons (d_ofO (o_listRange3 rfl n_list n_range (d_ownIx 4 d_int) (d_op opD_add (d_ownIx 4 d_int) d_int) (d_ix (d_var 5) d_int))) a_nil)))))))))))
abbrev sm_read_field_N : List Str := ["text", "low", "high", "mask", "items", "at", "item", "here"]
def m_read_field_b : DS := (sSeq (sIf (dOrT (dNotT (asB (dIsi (isiB "str") (dVar 0)))) (asB (dOp opGt (dBu bLen (aCons (dVar 0) aNil)) (dC k_MOST_SIGNS_fields)))) sNever sNil) (sSeq (sAsg (dC (.int 0)) (tgN 3)) (sSeq (sAsg (dO (oOp bSplit (dVar 0) (dC (.str ",")))) (tgN 4)) (sSeq (sFor (itEn (aCons (dSl (dVar 4) oNone (oSome (dC k_MOST_ITEMS_fields))) aNil)) (tgT [5, 6]) (sSeq (sAsg (dCall 3 m_item_mask (aCons (dVar 6) (aCons (dVar 1) (aCons (dVar 2) aNil)))) (tgN 7)) (sSeq (sIf (asB (dOp opEq (dVar 7) (dC (.int 0)))) sNever sNil) (sAsg (dOp opOr (dVar 3) (dVar 7)) (tgN 3))))) (sSeq (sIf (asB (dOp opGt (dBu bLen (aCons (dVar 4) aNil)) (dC k_MOST_ITEMS_fields))) sNever sNil) (sRet (dVar 3)))))))
def m_read_field : List D → Option D := runD 8 (m_read_field_b)
theorem sc_m_read_field : FnScope sm_read_field_N ["text", "low", "high"] (defScope (topS 40)) := ⟨rfl, rfl, rfl, by decide +kernel, rfl, by decide +kernel, by decide +kernel⟩
theorem ok_m_read_field {f : Addr} {fd : FuncData} (F : DFun K "read_field" "read_field" (topS 40) f fd) (C_item_mask : Cal P w K mg base "item_mask" 4 ["item", "low", "high"] (spD K c 3 m_item_mask)) (g_MOST_SIGNS_fields : GlobD K c mg "MOST_SIGNS_fields" k_MOST_SIGNS_fields) (g_MOST_ITEMS_fields : GlobD K c mg "MOST_ITEMS_fields" k_MOST_ITEMS_fields) (n_isinstance : mg "isinstance" = none) (n_str : mg "str" = none) (n_len : mg "len" = none) (n_enumerate : mg "enumerate" = none) :
    FnOk P w K mg base CX0 5 f fd ["text", "low", "high"] (spD K c 3 (m_read_field)) := by
  have S := sc_m_read_field
  refine okD' (n := 8) (m := 3) (B := m_read_field_b) F S rfl rfl rfl fun cdv A outer s H E hr => ?_
  exact (ss_cons (s_if (PW.pt (d_wor (d_tnot (d_test (d_isiB (n := "str") n_isinstance n_str (by decide +kernel) (d_var 0)))) (d_wor1 (d_tcmp opD_gt (d_callB bu_len n_len (a_cons (d_var 0) a_nil)) (d_glob g_MOST_SIGNS_fields))))) (ss_one s_never) ss_nil) (ss_cons (s_set (i := 3) S.nd d_int) (ss_cons (s_set (i := 4) S.nd (d_ofO (o_split (d_var 0) d_str))) (ss_cons (s_for PassesOwn.never rfl (it_en n_enumerate (a_cons (d_slice (d_var 4) o_none (o_some (d_glob g_MOST_ITEMS_fields))) a_nil)) (g_tup (is := [5, 6]) rfl (gs_cons (i := 5) S.nd (gs_cons (i := 6) S.nd gs_nil))) (ss_cons (s_set (i := 7) S.nd (d_call C_item_mask hr (by decide) (a_cons (d_var 6) (a_cons (d_var 1) (a_cons (d_var 2) a_nil))))) (ss_cons (s_if (d_tcmp (opD_eq hr) (d_var 7) d_int) (ss_one s_never) ss_nil) (ss_one (s_set (i := 3) S.nd (d_op opD_or (d_var 3) (d_var 7))))))) (ss_cons (s_if (d_tcmp opD_gt (d_callB bu_len n_len (a_cons (d_var 4) a_nil)) (d_glob g_MOST_ITEMS_fields)) (ss_one s_never) ss_nil) (ss_one (s_ret (d_var 3))))))))
abbrev sm_weekday_in_N : List Str := ["day", "first"]
def m_weekday_in_b : DS := (sRet (dOp opMod (dOp opSub (dOp opAdd (dVar 1) (dVar 0)) (dC (.int 1))) (dC (.int 7))))
def m_weekday_in : List D → Option D := runD 2 (m_weekday_in_b)
theorem sc_m_weekday_in : FnScope sm_weekday_in_N ["day", "first"] (defScope (topS 48)) := ⟨rfl, rfl, rfl, by decide +kernel, rfl, by decide +kernel, by decide +kernel⟩
theorem ok_m_weekday_in {f : Addr} {fd : FuncData} (F : DFun K "weekday_in" "weekday_in" (topS 48) f fd)  :
    FnOk P w K mg base CX0 1 f fd ["day", "first"] (spD K c 2 (m_weekday_in)) := by
  have S := sc_m_weekday_in
  refine okD' (n := 2) (m := 2) (B := m_weekday_in_b) F S rfl rfl rfl fun cdv A outer s H E hr => ?_
  exact (ss_one (s_ret (d_op opD_mod (d_op opD_sub (d_op opD_add (d_var 1) (d_var 0)) d_int) d_int)))
abbrev sm_Mark_days_N : List Str := ["self", "last", "first"]
def m_Mark_days_b : DS := (sRet (dC (.int 0)))
def m_Mark_days : List D → Option D := runD 3 (m_Mark_days_b)
theorem sc_m_Mark_days : FnScope sm_Mark_days_N ["self", "last", "first"] (defScope (inClass (topS 49) 0)) := ⟨rfl, rfl, rfl, by decide +kernel, rfl, by decide +kernel, by decide +kernel⟩
theorem ok_m_Mark_days {f : Addr} {fd : FuncData} (F : DFun K "days" "Mark.days" (inClass (topS 49) 0) f fd)  :
    FnOk P w K mg base CX0 1 f fd ["self", "last", "first"] (spD K c 3 (m_Mark_days)) := by
  have S := sc_m_Mark_days
  refine okD' (n := 3) (m := 3) (B := m_Mark_days_b) F S rfl rfl rfl fun cdv A outer s H E hr => ?_
  exact (ss_one (s_ret d_int))
abbrev sm_Numbers___init___N : List Str := ["self", "mask"]
def as_Numbers : List IStep := [.sto "mask" (dVar 1)]
def i_Numbers : List D → Option (List D) := some
theorem hF_Numbers (y : Addr) (ds fs : List D) (hl : ds.length = 1) (e : i_Numbers ds = some fs) : noOwn (startD 2 (.raw (.ref y) :: ds)) = true ∧ evalI y as_Numbers (startD 2 (.raw (.ref y) :: ds)) = some fs := by
  match ds, hl with
  | [a], _ =>
    cases e
    exact ⟨rfl, (ev_sto (f := "mask") rfl rfl ev_nil)⟩
theorem sc_m_Numbers___init__ : FnScope sm_Numbers___init___N ["self", "mask"] (defScope (inClass (topS 50) 0)) := ⟨rfl, rfl, rfl, by decide +kernel, rfl, by decide +kernel, by decide +kernel⟩
theorem ok_m_Numbers___init__ (hnm : c.nm 1 = nmF 1) {f : Addr} {fd : FuncData} (F : DFun K "__init__" "Numbers.__init__" (inClass (topS 50) 0) f fd) (hC : Cls K (c.cl 1)) (A_mask : NoAttr K (c.cl 1) "mask") :
    FnOk P w K mg base CX0 1 f fd ["self", "mask"] (spI K c 1 1 i_Numbers) := by
  have S := sc_m_Numbers___init__
  refine okI (as := as_Numbers) (nn := 2) F S rfl rfl hnm.symm (by rw [hnm]; decide +kernel) (by rw [hnm]; decide) hF_Numbers fun cdv A outer s H E hr => ?_
  exact (ii_sto (d_var 1) hC A_mask ii_nil)
abbrev sm_Numbers_days_N : List Str := ["self", "last", "first"]
def m_Numbers_days_b : DS := (sRet (dOp opAnd (dFld at_mask (dVar 0)) (dOp opSub (dOp opShl (dC (.int 1)) (dOp opAdd (dVar 1) (dC (.int 1)))) (dC (.int 1)))))
def m_Numbers_days : List D → Option D := runD 3 (m_Numbers_days_b)
theorem sc_m_Numbers_days : FnScope sm_Numbers_days_N ["self", "last", "first"] (defScope (inClass (topS 50) 1)) := ⟨rfl, rfl, rfl, by decide +kernel, rfl, by decide +kernel, by decide +kernel⟩
theorem ok_m_Numbers_days {f : Addr} {fd : FuncData} (F : DFun K "days" "Numbers.days" (inClass (topS 50) 1) f fd) (f_mask : FldOk K c "mask" at_mask) :
    FnOk P w K mg base CX0 1 f fd ["self", "last", "first"] (spD K c 3 (m_Numbers_days)) := by
  have S := sc_m_Numbers_days
  refine okD' (n := 3) (m := 3) (B := m_Numbers_days_b) F S rfl rfl rfl fun cdv A outer s H E hr => ?_
  exact (ss_one (s_ret (d_op opD_and (d_fld f_mask (d_var 0)) (d_op opD_sub (d_op opD_shl d_int (d_op opD_add (d_var 1) d_int)) d_int))))
abbrev sm_Last___init___N : List Str := ["self", "back"]
def as_Last : List IStep := [.sto "back" (dVar 1)]
def i_Last : List D → Option (List D) := some
theorem hF_Last (y : Addr) (ds fs : List D) (hl : ds.length = 1) (e : i_Last ds = some fs) : noOwn (startD 2 (.raw (.ref y) :: ds)) = true ∧ evalI y as_Last (startD 2 (.raw (.ref y) :: ds)) = some fs := by
  match ds, hl with
  | [a], _ =>
    cases e
    exact ⟨rfl, (ev_sto (f := "back") rfl rfl ev_nil)⟩
theorem sc_m_Last___init__ : FnScope sm_Last___init___N ["self", "back"] (defScope (inClass (topS 51) 0)) := ⟨rfl, rfl, rfl, by decide +kernel, rfl, by decide +kernel, by decide +kernel⟩
theorem ok_m_Last___init__ (hnm : c.nm 2 = nmF 2) {f : Addr} {fd : FuncData} (F : DFun K "__init__" "Last.__init__" (inClass (topS 51) 0) f fd) (hC : Cls K (c.cl 2)) (A_back : NoAttr K (c.cl 2) "back") :
    FnOk P w K mg base CX0 1 f fd ["self", "back"] (spI K c 2 1 i_Last) := by
  have S := sc_m_Last___init__
  refine okI (as := as_Last) (nn := 2) F S rfl rfl hnm.symm (by rw [hnm]; decide +kernel) (by rw [hnm]; decide) hF_Last fun cdv A outer s H E hr => ?_
  exact (ii_sto (d_var 1) hC A_back ii_nil)
abbrev sm_Last_days_N : List Str := ["self", "last", "first"]
def m_Last_days_b : DS := (sSeq (sIf (asB (dOp opLt (dOp opSub (dVar 1) (dFld at_back (dVar 0))) (dC (.int 1)))) (sRet (dC (.int 0))) sNil) (sRet (dOp opShl (dC (.int 1)) (dOp opSub (dVar 1) (dFld at_back (dVar 0))))))
def m_Last_days : List D → Option D := runD 3 (m_Last_days_b)
theorem sc_m_Last_days : FnScope sm_Last_days_N ["self", "last", "first"] (defScope (inClass (topS 51) 1)) := ⟨rfl, rfl, rfl, by decide +kernel, rfl, by decide +kernel, by decide +kernel⟩
theorem ok_m_Last_days {f : Addr} {fd : FuncData} (F : DFun K "days" "Last.days" (inClass (topS 51) 1) f fd) (f_back : FldOk K c "back" at_back) :
    FnOk P w K mg base CX0 1 f fd ["self", "last", "first"] (spD K c 3 (m_Last_days)) := by
  have S := sc_m_Last_days
  refine okD' (n := 3) (m := 3) (B := m_Last_days_b) F S rfl rfl rfl fun cdv A outer s H E hr => ?_
  exact (ss_cons (s_if (d_tcmp opD_lt (d_op opD_sub (d_var 1) (d_fld f_back (d_var 0))) d_int) (ss_one (s_ret d_int)) ss_nil) (ss_one (s_ret (d_op opD_shl d_int (d_op opD_sub (d_var 1) (d_fld f_back (d_var 0)))))))
abbrev sm_Near___init___N : List Str := ["self", "day"]
def as_Near : List IStep := [.sto "day" (dVar 1)]
def i_Near : List D → Option (List D) := some
theorem hF_Near (y : Addr) (ds fs : List D) (hl : ds.length = 1) (e : i_Near ds = some fs) : noOwn (startD 2 (.raw (.ref y) :: ds)) = true ∧ evalI y as_Near (startD 2 (.raw (.ref y) :: ds)) = some fs := by
  match ds, hl with
  | [a], _ =>
    cases e
    exact ⟨rfl, (ev_sto (f := "day") rfl rfl ev_nil)⟩
theorem sc_m_Near___init__ : FnScope sm_Near___init___N ["self", "day"] (defScope (inClass (topS 52) 0)) := ⟨rfl, rfl, rfl, by decide +kernel, rfl, by decide +kernel, by decide +kernel⟩
theorem ok_m_Near___init__ (hnm : c.nm 3 = nmF 3) {f : Addr} {fd : FuncData} (F : DFun K "__init__" "Near.__init__" (inClass (topS 52) 0) f fd) (hC : Cls K (c.cl 3)) (A_day : NoAttr K (c.cl 3) "day") :
    FnOk P w K mg base CX0 1 f fd ["self", "day"] (spI K c 3 1 i_Near) := by
  have S := sc_m_Near___init__
  refine okI (as := as_Near) (nn := 2) F S rfl rfl hnm.symm (by rw [hnm]; decide +kernel) (by rw [hnm]; decide) hF_Near fun cdv A outer s H E hr => ?_
  exact (ii_sto (d_var 1) hC A_day ii_nil)
abbrev sm_Near_days_N : List Str := ["self", "last", "first", "on", "near"]
def m_Near_days_b : DS := (sSeq (sIf (asB (dOp opGt (dFld at_day (dVar 0)) (dVar 1))) (sRet (dC (.int 0))) sNil) (sSeq (sAsg (dCall 2 m_weekday_in (aCons (dFld at_day (dVar 0)) (aCons (dVar 2) aNil))) (tgN 3)) (sSeq (sAsg (dFld at_day (dVar 0)) (tgN 4)) (sSeq (sIf (asB (dOp opEq (dVar 3) (dC k_SATURDAY))) (sSeq (sAsg (dOp opSub (dFld at_day (dVar 0)) (dC (.int 1))) (tgN 4)) (sIf (asB (dOp opLt (dVar 4) (dC (.int 1)))) (sAsg (dC (.int 3)) (tgN 4)) sNil)) sNil) (sSeq (sIf (asB (dOp opEq (dVar 3) (dC k_SUNDAY))) (sSeq (sAsg (dOp opAdd (dFld at_day (dVar 0)) (dC (.int 1))) (tgN 4)) (sIf (asB (dOp opGt (dVar 4) (dVar 1))) (sAsg (dOp opSub (dVar 1) (dC (.int 2))) (tgN 4)) sNil)) sNil) (sRet (dOp opShl (dC (.int 1)) (dVar 4))))))))
def m_Near_days : List D → Option D := runD 5 (m_Near_days_b)
theorem sc_m_Near_days : FnScope sm_Near_days_N ["self", "last", "first"] (defScope (inClass (topS 52) 1)) := ⟨rfl, rfl, rfl, by decide +kernel, rfl, by decide +kernel, by decide +kernel⟩
theorem ok_m_Near_days {f : Addr} {fd : FuncData} (F : DFun K "days" "Near.days" (inClass (topS 52) 1) f fd) (C_weekday_in : Cal P w K mg base "weekday_in" 1 ["day", "first"] (spD K c 2 m_weekday_in)) (g_SATURDAY : GlobD K c mg "SATURDAY" k_SATURDAY) (g_SUNDAY : GlobD K c mg "SUNDAY" k_SUNDAY) (f_day : FldOk K c "day" at_day) :
    FnOk P w K mg base CX0 2 f fd ["self", "last", "first"] (spD K c 3 (m_Near_days)) := by
  have S := sc_m_Near_days
  refine okD' (n := 5) (m := 3) (B := m_Near_days_b) F S rfl rfl rfl fun cdv A outer s H E hr => ?_
  exact (ss_cons (s_if (d_tcmp opD_gt (d_fld f_day (d_var 0)) (d_var 1)) (ss_one (s_ret d_int)) ss_nil) (ss_cons (s_set (i := 3) S.nd (d_call C_weekday_in hr (by decide) (a_cons (d_fld f_day (d_var 0)) (a_cons (d_var 2) a_nil)))) (ss_cons (s_set (i := 4) S.nd (d_fld f_day (d_var 0))) (ss_cons (s_if (d_tcmp (opD_eq hr) (d_var 3) (d_glob g_SATURDAY)) (ss_cons (s_set (i := 4) S.nd (d_op opD_sub (d_fld f_day (d_var 0)) d_int)) (ss_one (s_if (d_tcmp opD_lt (d_var 4) d_int) (ss_one (s_set (i := 4) S.nd d_int)) ss_nil))) ss_nil) (ss_cons (s_if (d_tcmp (opD_eq hr) (d_var 3) (d_glob g_SUNDAY)) (ss_cons (s_set (i := 4) S.nd (d_op opD_add (d_fld f_day (d_var 0)) d_int)) (ss_one (s_if (d_tcmp opD_gt (d_var 4) (d_var 1)) (ss_one (s_set (i := 4) S.nd (d_op opD_sub (d_var 1) d_int))) ss_nil))) ss_nil) (ss_one (s_ret (d_op opD_shl d_int (d_var 4)))))))))
abbrev sm_LastWork_days_N : List Str := ["self", "last", "first", "on"]
def m_LastWork_days_b : DS := (sSeq (sAsg (dCall 2 m_weekday_in (aCons (dVar 1) (aCons (dVar 2) aNil))) (tgN 3)) (sSeq (sIf (asB (dOp opEq (dVar 3) (dC k_SATURDAY))) (sRet (dOp opShl (dC (.int 1)) (dOp opSub (dVar 1) (dC (.int 1))))) sNil) (sSeq (sIf (asB (dOp opEq (dVar 3) (dC k_SUNDAY))) (sRet (dOp opShl (dC (.int 1)) (dOp opSub (dVar 1) (dC (.int 2))))) sNil) (sRet (dOp opShl (dC (.int 1)) (dVar 1))))))
def m_LastWork_days : List D → Option D := runD 4 (m_LastWork_days_b)
theorem sc_m_LastWork_days : FnScope sm_LastWork_days_N ["self", "last", "first"] (defScope (inClass (topS 53) 0)) := ⟨rfl, rfl, rfl, by decide +kernel, rfl, by decide +kernel, by decide +kernel⟩
theorem ok_m_LastWork_days {f : Addr} {fd : FuncData} (F : DFun K "days" "LastWork.days" (inClass (topS 53) 0) f fd) (C_weekday_in : Cal P w K mg base "weekday_in" 1 ["day", "first"] (spD K c 2 m_weekday_in)) (g_SATURDAY : GlobD K c mg "SATURDAY" k_SATURDAY) (g_SUNDAY : GlobD K c mg "SUNDAY" k_SUNDAY) :
    FnOk P w K mg base CX0 2 f fd ["self", "last", "first"] (spD K c 3 (m_LastWork_days)) := by
  have S := sc_m_LastWork_days
  refine okD' (n := 4) (m := 3) (B := m_LastWork_days_b) F S rfl rfl rfl fun cdv A outer s H E hr => ?_
  exact (ss_cons (s_set (i := 3) S.nd (d_call C_weekday_in hr (by decide) (a_cons (d_var 1) (a_cons (d_var 2) a_nil)))) (ss_cons (s_if (d_tcmp (opD_eq hr) (d_var 3) (d_glob g_SATURDAY)) (ss_one (s_ret (d_op opD_shl d_int (d_op opD_sub (d_var 1) d_int)))) ss_nil) (ss_cons (s_if (d_tcmp (opD_eq hr) (d_var 3) (d_glob g_SUNDAY)) (ss_one (s_ret (d_op opD_shl d_int (d_op opD_sub (d_var 1) d_int)))) ss_nil) (ss_one (s_ret (d_op opD_shl d_int (d_var 1)))))))
abbrev sm_Weekdays___init___N : List Str := ["self", "mask"]
def as_Weekdays : List IStep := [.sto "mask" (dVar 1)]
def i_Weekdays : List D → Option (List D) := some
theorem hF_Weekdays (y : Addr) (ds fs : List D) (hl : ds.length = 1) (e : i_Weekdays ds = some fs) : noOwn (startD 2 (.raw (.ref y) :: ds)) = true ∧ evalI y as_Weekdays (startD 2 (.raw (.ref y) :: ds)) = some fs := by
  match ds, hl with
  | [a], _ =>
    cases e
    exact ⟨rfl, (ev_sto (f := "mask") rfl rfl ev_nil)⟩
theorem sc_m_Weekdays___init__ : FnScope sm_Weekdays___init___N ["self", "mask"] (defScope (inClass (topS 54) 0)) := ⟨rfl, rfl, rfl, by decide +kernel, rfl, by decide +kernel, by decide +kernel⟩
theorem ok_m_Weekdays___init__ (hnm : c.nm 5 = nmF 5) {f : Addr} {fd : FuncData} (F : DFun K "__init__" "Weekdays.__init__" (inClass (topS 54) 0) f fd) (hC : Cls K (c.cl 5)) (A_mask : NoAttr K (c.cl 5) "mask") :
    FnOk P w K mg base CX0 1 f fd ["self", "mask"] (spI K c 5 1 i_Weekdays) := by
  have S := sc_m_Weekdays___init__
  refine okI (as := as_Weekdays) (nn := 2) F S rfl rfl hnm.symm (by rw [hnm]; decide +kernel) (by rw [hnm]; decide) hF_Weekdays fun cdv A outer s H E hr => ?_
  exact (ii_sto (d_var 1) hC A_mask ii_nil)
abbrev sm_Weekdays_days_N : List Str := ["self", "last", "first", "found", "day"]
def m_Weekdays_days_b : DS := (sSeq (sAsg (dC (.int 0)) (tgN 3)) (sSeq (sFor (itR2 (aCons (dC (.int 1)) (aCons (dOp opAdd (dVar 1) (dC (.int 1))) aNil))) (tgN 4) (sIf (asB (dOp opEq (dOp opAnd (dOp opShr (dFld at_mask (dVar 0)) (dCall 2 m_weekday_in (aCons (dVar 4) (aCons (dVar 2) aNil)))) (dC (.int 1))) (dC (.int 1)))) (sAsg (dOp opOr (dVar 3) (dOp opShl (dC (.int 1)) (dVar 4))) (tgN 3)) sNil)) (sRet (dVar 3))))
def m_Weekdays_days : List D → Option D := runD 5 (m_Weekdays_days_b)
theorem sc_m_Weekdays_days : FnScope sm_Weekdays_days_N ["self", "last", "first"] (defScope (inClass (topS 54) 1)) := ⟨rfl, rfl, rfl, by decide +kernel, rfl, by decide +kernel, by decide +kernel⟩
theorem ok_m_Weekdays_days {f : Addr} {fd : FuncData} (F : DFun K "days" "Weekdays.days" (inClass (topS 54) 1) f fd) (C_weekday_in : Cal P w K mg base "weekday_in" 1 ["day", "first"] (spD K c 2 m_weekday_in)) (n_range : mg "range" = none) (f_mask : FldOk K c "mask" at_mask) :
    FnOk P w K mg base CX0 2 f fd ["self", "last", "first"] (spD K c 3 (m_Weekdays_days)) := by
  have S := sc_m_Weekdays_days
  refine okD' (n := 5) (m := 3) (B := m_Weekdays_days_b) F S rfl rfl rfl fun cdv A outer s H E hr => ?_
  exact (ss_cons (s_set (i := 3) S.nd d_int) (ss_cons (s_for PassesOwn.never rfl (it_r2 n_range (a_cons d_int (a_cons (d_op opD_add (d_var 1) d_int) a_nil))) (g_name (i := 4) S.nd) (ss_one (s_if (d_tcmp (opD_eq hr) (d_op opD_and (d_op opD_shr (d_fld f_mask (d_var 0)) (d_call C_weekday_in hr (by decide) (a_cons (d_var 4) (a_cons (d_var 2) a_nil)))) d_int) d_int) (ss_one (s_set (i := 3) S.nd (d_op opD_or (d_var 3) (d_op opD_shl d_int (d_var 4))))) ss_nil))) (ss_one (s_ret (d_var 3)))))
abbrev sm_Nth___init___N : List Str := ["self", "weekday", "many"]
def as_Nth : List IStep := [.sto "weekday" (dVar 1), .sto "many" (dVar 2)]
def i_Nth : List D → Option (List D) := some
theorem hF_Nth (y : Addr) (ds fs : List D) (hl : ds.length = 2) (e : i_Nth ds = some fs) : noOwn (startD 3 (.raw (.ref y) :: ds)) = true ∧ evalI y as_Nth (startD 3 (.raw (.ref y) :: ds)) = some fs := by
  match ds, hl with
  | [a, b], _ =>
    cases e
    exact ⟨rfl, (ev_sto (f := "weekday") rfl rfl (ev_sto (f := "many") rfl rfl ev_nil))⟩
theorem sc_m_Nth___init__ : FnScope sm_Nth___init___N ["self", "weekday", "many"] (defScope (inClass (topS 55) 0)) := ⟨rfl, rfl, rfl, by decide +kernel, rfl, by decide +kernel, by decide +kernel⟩
theorem ok_m_Nth___init__ (hnm : c.nm 6 = nmF 6) {f : Addr} {fd : FuncData} (F : DFun K "__init__" "Nth.__init__" (inClass (topS 55) 0) f fd) (hC : Cls K (c.cl 6)) (A_weekday : NoAttr K (c.cl 6) "weekday") (A_many : NoAttr K (c.cl 6) "many") :
    FnOk P w K mg base CX0 1 f fd ["self", "weekday", "many"] (spI K c 6 2 i_Nth) := by
  have S := sc_m_Nth___init__
  refine okI (as := as_Nth) (nn := 3) F S rfl rfl hnm.symm (by rw [hnm]; decide +kernel) (by rw [hnm]; decide) hF_Nth fun cdv A outer s H E hr => ?_
  exact (ii_sto (d_var 1) hC A_weekday (ii_sto (d_var 2) hC A_many ii_nil))
abbrev sm_Nth_days_N : List Str := ["self", "last", "first", "day"]
def m_Nth_days_b : DS := (sSeq (sAsg (dOp opAdd (dOp opAdd (dC (.int 1)) (dOp opMod (dOp opSub (dFld at_weekday (dVar 0)) (dVar 2)) (dC (.int 7)))) (dOp opMul (dC (.int 7)) (dOp opSub (dFld at_many (dVar 0)) (dC (.int 1))))) (tgN 3)) (sSeq (sIf (asB (dOp opGt (dVar 3) (dVar 1))) (sRet (dC (.int 0))) sNil) (sRet (dOp opShl (dC (.int 1)) (dVar 3)))))
def m_Nth_days : List D → Option D := runD 4 (m_Nth_days_b)
theorem sc_m_Nth_days : FnScope sm_Nth_days_N ["self", "last", "first"] (defScope (inClass (topS 55) 1)) := ⟨rfl, rfl, rfl, by decide +kernel, rfl, by decide +kernel, by decide +kernel⟩
theorem ok_m_Nth_days {f : Addr} {fd : FuncData} (F : DFun K "days" "Nth.days" (inClass (topS 55) 1) f fd) (f_weekday : FldOk K c "weekday" at_weekday) (f_many : FldOk K c "many" at_many) :
    FnOk P w K mg base CX0 1 f fd ["self", "last", "first"] (spD K c 3 (m_Nth_days)) := by
  have S := sc_m_Nth_days
  refine okD' (n := 4) (m := 3) (B := m_Nth_days_b) F S rfl rfl rfl fun cdv A outer s H E hr => ?_
  exact (ss_cons (s_set (i := 3) S.nd (d_op opD_add (d_op opD_add d_int (d_op opD_mod (d_op opD_sub (d_fld f_weekday (d_var 0)) (d_var 2)) d_int)) (d_op opD_mul d_int (d_op opD_sub (d_fld f_many (d_var 0)) d_int)))) (ss_cons (s_if (d_tcmp opD_gt (d_var 3) (d_var 1)) (ss_one (s_ret d_int)) ss_nil) (ss_one (s_ret (d_op opD_shl d_int (d_var 3))))))
abbrev sm_LastOne___init___N : List Str := ["self", "weekday"]
def as_LastOne : List IStep := [.sto "weekday" (dVar 1)]
def i_LastOne : List D → Option (List D) := some
theorem hF_LastOne (y : Addr) (ds fs : List D) (hl : ds.length = 1) (e : i_LastOne ds = some fs) : noOwn (startD 2 (.raw (.ref y) :: ds)) = true ∧ evalI y as_LastOne (startD 2 (.raw (.ref y) :: ds)) = some fs := by
  match ds, hl with
  | [a], _ =>
    cases e
    exact ⟨rfl, (ev_sto (f := "weekday") rfl rfl ev_nil)⟩
theorem sc_m_LastOne___init__ : FnScope sm_LastOne___init___N ["self", "weekday"] (defScope (inClass (topS 56) 0)) := ⟨rfl, rfl, rfl, by decide +kernel, rfl, by decide +kernel, by decide +kernel⟩
theorem ok_m_LastOne___init__ (hnm : c.nm 7 = nmF 7) {f : Addr} {fd : FuncData} (F : DFun K "__init__" "LastOne.__init__" (inClass (topS 56) 0) f fd) (hC : Cls K (c.cl 7)) (A_weekday : NoAttr K (c.cl 7) "weekday") :
    FnOk P w K mg base CX0 1 f fd ["self", "weekday"] (spI K c 7 1 i_LastOne) := by
  have S := sc_m_LastOne___init__
  refine okI (as := as_LastOne) (nn := 2) F S rfl rfl hnm.symm (by rw [hnm]; decide +kernel) (by rw [hnm]; decide) hF_LastOne fun cdv A outer s H E hr => ?_
  exact (ii_sto (d_var 1) hC A_weekday ii_nil)
abbrev sm_LastOne_days_N : List Str := ["self", "last", "first"]
def m_LastOne_days_b : DS := (sRet (dOp opShl (dC (.int 1)) (dOp opSub (dVar 1) (dOp opMod (dOp opSub (dCall 2 m_weekday_in (aCons (dVar 1) (aCons (dVar 2) aNil))) (dFld at_weekday (dVar 0))) (dC (.int 7))))))
def m_LastOne_days : List D → Option D := runD 3 (m_LastOne_days_b)
theorem sc_m_LastOne_days : FnScope sm_LastOne_days_N ["self", "last", "first"] (defScope (inClass (topS 56) 1)) := ⟨rfl, rfl, rfl, by decide +kernel, rfl, by decide +kernel, by decide +kernel⟩
theorem ok_m_LastOne_days {f : Addr} {fd : FuncData} (F : DFun K "days" "LastOne.days" (inClass (topS 56) 1) f fd) (C_weekday_in : Cal P w K mg base "weekday_in" 1 ["day", "first"] (spD K c 2 m_weekday_in)) (f_weekday : FldOk K c "weekday" at_weekday) :
    FnOk P w K mg base CX0 2 f fd ["self", "last", "first"] (spD K c 3 (m_LastOne_days)) := by
  have S := sc_m_LastOne_days
  refine okD' (n := 3) (m := 3) (B := m_LastOne_days_b) F S rfl rfl rfl fun cdv A outer s H E hr => ?_
  exact (ss_one (s_ret (d_op opD_shl d_int (d_op opD_sub (d_var 1) (d_op opD_mod (d_op opD_sub (d_call C_weekday_in hr (by decide) (a_cons (d_var 1) (a_cons (d_var 2) a_nil))) (d_fld f_weekday (d_var 0))) d_int)))))
def t_days : Nat → Option (List D → Option D)
  | 1 => some m_Numbers_days
  | 2 => some m_Last_days
  | 3 => some m_Near_days
  | 4 => some m_LastWork_days
  | 5 => some m_Weekdays_days
  | 6 => some m_Nth_days
  | 7 => some m_LastOne_days
  | _ => none
abbrev sm_any_days_N : List Str := ["marks", "last", "first", "found", "mark"]
def m_any_days_b : DS := (sSeq (sAsg (dC (.int 0)) (tgN 3)) (sSeq (sFor (itE (dVar 0)) (tgN 4) (sAsg (dOp opOr (dVar 3) (dMeth 2 t_days (dVar 4) (aCons (dVar 1) (aCons (dVar 2) aNil)))) (tgN 3))) (sRet (dVar 3))))
def m_any_days : List D → Option D := runD 5 (m_any_days_b)
theorem sc_m_any_days : FnScope sm_any_days_N ["marks", "last", "first"] (defScope (topS 57)) := ⟨rfl, rfl, rfl, by decide +kernel, rfl, by decide +kernel, by decide +kernel⟩
theorem ok_m_any_days {f : Addr} {fd : FuncData} (F : DFun K "any_days" "any_days" (topS 57) f fd) (M_days : MCal P w K mg base c "days" 2 2 t_days) :
    FnOk P w K mg base CX0 3 f fd ["marks", "last", "first"] (spD K c 3 (m_any_days)) := by
  have S := sc_m_any_days
  refine okD' (n := 5) (m := 3) (B := m_any_days_b) F S rfl rfl rfl fun cdv A outer s H E hr => ?_
  exact (ss_cons (s_set (i := 3) S.nd d_int) (ss_cons (s_for PassesOwn.never rfl (it_e (d_var 0)) (g_name (i := 4) S.nd) (ss_one (s_set (i := 3) S.nd (d_op opD_or (d_var 3) (d_meth M_days hr (by decide) (d_var 4) (a_cons (d_var 1) (a_cons (d_var 2) a_nil))))))) (ss_one (s_ret (d_var 3)))))
def dayM (m : D) (l f : Int) (x : D) : Option D := match m with
  | .non => some x
  | m => (m_any_days [m, .int l, .int f]).bind fun a => opOr x a
def dayB (d : D) (l f : Int) : Option Int := match d with
  | .ins 0 [_, _, dm, _, wm] => ((match dm, wm with
    | .non, .non => (opShl (.int 1) (.int (l + 1))).bind fun x => opSub x (.int 2)
    | _, _ => (dayM dm l f (.int 0)).bind fun x => dayM wm l f x).bind fun
      | .int n => some n
      | _ => none)
  | _ => none
def kU : List (List Key) := [28, 29, 30, 31].flatMap fun (l : Int) => [0, 1, 2, 3, 4, 5, 6].map fun (f : Int) => [Sum.inl l, Sum.inl f]
def fk_0 (d : D) (k : List Key) : Option D := match k with
  | [.inl l, .inl f] => (dayB d l f).map .int
  | _ => none
def uk_0 (_ : D) : List (List Key) := kU
abbrev sm_number_in_v2_N : List Str := ["text", "low", "high", "sign", "number"]
def m_number_in_v2_b : DS := (sSeq (sIf (dOrT (asB (dOp opEq (dVar 0) (dC (.str "")))) (asB (dOp opGt (dBu bLen (aCons (dVar 0) aNil)) (dC (.int 2))))) (sRet (dC .non)) sNil) (sSeq (sFor (itE (dVar 0)) (tgN 3) (sIf (asB (dOp opNotIn (dVar 3) (dC k_FIGURES_marks))) (sRet (dC .non)) sNil)) (sSeq (sIf (dAndT (asB (dOp opEq (dOp opIx (dVar 0) (dC (.int 0))) (dC (.str "0")))) (asB (dOp opNe (dVar 0) (dC (.str "0"))))) (sRet (dC .non)) sNil) (sSeq (sAsg (dBu bInt (aCons (dVar 0) aNil)) (tgN 4)) (sSeq (sIf (dOrT (asB (dOp opLt (dVar 4) (dVar 1))) (asB (dOp opGt (dVar 4) (dVar 2)))) (sRet (dC .non)) sNil) (sRet (dVar 4)))))))
def m_number_in_v2 : List D → Option D := runD 5 (m_number_in_v2_b)
theorem sc_m_number_in_v2 : FnScope sm_number_in_v2_N ["text", "low", "high"] (defScope (topS 58)) := ⟨rfl, rfl, rfl, by decide +kernel, rfl, by decide +kernel, by decide +kernel⟩
theorem ok_m_number_in_v2 {f : Addr} {fd : FuncData} (F : DFun K "number_in" "number_in" (topS 58) f fd) (g_FIGURES_marks : GlobD K c mg "FIGURES_marks" k_FIGURES_marks) (n_len : mg "len" = none) (n_int : mg "int" = none) :
    FnOk P w K mg base CX0 1 f fd ["text", "low", "high"] (spD K c 3 (m_number_in_v2)) := by
  have S := sc_m_number_in_v2
  refine okD' (n := 5) (m := 3) (B := m_number_in_v2_b) F S rfl rfl rfl fun cdv A outer s H E hr => ?_
  exact (ss_cons (s_if (PW.pt (d_wor (d_tcmp (opD_eq hr) (d_var 0) d_str) (d_wor1 (d_tcmp opD_gt (d_callB bu_len n_len (a_cons (d_var 0) a_nil)) d_int)))) (ss_one (s_ret d_non)) ss_nil) (ss_cons (s_for PassesOwn.never rfl (it_e (d_var 0)) (g_name (i := 3) S.nd) (ss_one (s_if (d_tcmp opD_notIn (d_var 3) (d_glob g_FIGURES_marks)) (ss_one (s_ret d_non)) ss_nil))) (ss_cons (s_if (PW.pt (d_wand (d_tcmp (opD_eq hr) (d_ix (d_var 0) d_int) d_str) (d_wand1 (d_tcmp (opD_ne hr) (d_var 0) d_str)))) (ss_one (s_ret d_non)) ss_nil) (ss_cons (s_set (i := 4) S.nd (d_callTy bu_int n_int (a_cons (d_var 0) a_nil))) (ss_cons (s_if (PW.pt (d_wor (d_tcmp opD_lt (d_var 4) (d_var 1)) (d_wor1 (d_tcmp opD_gt (d_var 4) (d_var 2))))) (ss_one (s_ret d_non)) ss_nil) (ss_one (s_ret (d_var 4))))))))
abbrev sm_day_mark_N : List Str := ["item", "number"]
def m_day_mark_b : DS := (sSeq (sIf (asB (dOp opEq (dVar 0) (dC (.str "L")))) (sRet (dMake 2 1 i_Last (fun _ => some dd_Last))) sNil) (sSeq (sIf (asB (dOp opEq (dVar 0) (dC (.str "LW")))) (sRet (dC (.ins 4 []))) sNil) (sSeq (sIf (asB (dOp opEq (dSl (dVar 0) oNone (oSome (dC (.int 2)))) (dC (.str "L-")))) (sSeq (sAsg (dCall 3 m_number_in_v2 (aCons (dSl (dVar 0) (oSome (dC (.int 2))) oNone) (aCons (dC (.int 1)) (aCons (dC (.int 30)) aNil)))) (tgN 1)) (sIf (asB (dOp opNotN (dVar 1) (dC .non))) (sRet (dMake 2 1 i_Last (aCons (dVar 1) aNil))) sNil)) sNil) (sSeq (sIf (asB (dOp opEq (dSl (dVar 0) (oSome (dNeg (dC (.int 1)))) oNone) (dC (.str "W")))) (sSeq (sAsg (dCall 3 m_number_in_v2 (aCons (dSl (dVar 0) oNone (oSome (dNeg (dC (.int 1))))) (aCons (dC (.int 1)) (aCons (dC (.int 31)) aNil)))) (tgN 1)) (sIf (asB (dOp opNotN (dVar 1) (dC .non))) (sRet (dMake 3 1 i_Near (aCons (dVar 1) aNil))) sNil)) sNil) (sRet (dC .non))))))
def m_day_mark : List D → Option D := runD 2 (m_day_mark_b)
theorem sc_m_day_mark : FnScope sm_day_mark_N ["item"] (defScope (topS 60)) := ⟨rfl, rfl, rfl, by decide +kernel, rfl, by decide +kernel, by decide +kernel⟩
theorem ok_m_day_mark {f : Addr} {fd : FuncData} (F : DFun K "day_mark" "day_mark" (topS 60) f fd) (C_number_in_marks : Cal P w K mg base "number_in_marks" 1 ["text", "low", "high"] (spD K c 3 m_number_in_v2)) (K_Last : MakD P w K mg base c "Last" 2 1 1 i_Last dd_Last) (K_LastWork : Mak0 K mg c "LastWork" 4) (K_Near : Mak P w K mg base c "Near" 3 1 1 i_Near) :
    FnOk P w K mg base CX0 3 f fd ["item"] (spD K c 1 (m_day_mark)) := by
  have S := sc_m_day_mark
  refine okD' (n := 2) (m := 1) (B := m_day_mark_b) F S rfl rfl rfl fun cdv A outer s H E hr => ?_
  exact (ss_cons (s_if (d_tcmp (opD_eq hr) (d_var 0) d_str) (ss_one (s_ret (d_makeD K_Last hr (by decide)))) ss_nil) (ss_cons (s_if (d_tcmp (opD_eq hr) (d_var 0) d_str) (ss_one (s_ret (d_make0 K_LastWork))) ss_nil) (ss_cons (s_if (d_tcmp (opD_eq hr) (d_slice (d_var 0) o_none (o_some d_int)) d_str) (ss_cons (s_set (i := 1) S.nd (d_call C_number_in_marks hr (by decide) (a_cons (d_slice (d_var 0) (o_some d_int) o_none) (a_cons d_int (a_cons d_int a_nil))))) (ss_one (s_if (d_tcmp opD_notN (d_var 1) d_non) (ss_one (s_ret (d_make (K_Last).mak hr (by decide) (a_cons (d_var 1) a_nil)))) ss_nil))) ss_nil) (ss_cons (s_if (d_tcmp (opD_eq hr) (d_slice (d_var 0) (o_some (d_neg d_int)) o_none) d_str) (ss_cons (s_set (i := 1) S.nd (d_call C_number_in_marks hr (by decide) (a_cons (d_slice (d_var 0) o_none (o_some (d_neg d_int))) (a_cons d_int (a_cons d_int a_nil))))) (ss_one (s_if (d_tcmp opD_notN (d_var 1) d_non) (ss_one (s_ret (d_make K_Near hr (by decide) (a_cons (d_var 1) a_nil)))) ss_nil))) ss_nil) (ss_one (s_ret d_non))))))
abbrev sm_weekday_mark_N : List Str := ["item", "number", "parts", "many"]
def m_weekday_mark_b : DS := (sSeq (sIf (asB (dOp opEq (dSl (dVar 0) (oSome (dNeg (dC (.int 1)))) oNone) (dC (.str "L")))) (sSeq (sAsg (dCall 3 m_number_in_v2 (aCons (dSl (dVar 0) oNone (oSome (dNeg (dC (.int 1))))) (aCons (dC (.int 0)) (aCons (dC (.int 7)) aNil)))) (tgN 1)) (sIf (asB (dOp opNotN (dVar 1) (dC .non))) (sRet (dMake 7 1 i_LastOne (aCons (dOp opMod (dVar 1) (dC (.int 7))) aNil))) sNil)) sNil) (sSeq (sAsg (dO (oOp bSplit (dVar 0) (dC (.str "#")))) (tgN 2)) (sSeq (sIf (asB (dOp opEq (dBu bLen (aCons (dVar 2) aNil)) (dC (.int 2)))) (sSeq (sAsg (dCall 3 m_number_in_v2 (aCons (dOp opIx (dVar 2) (dC (.int 0))) (aCons (dC (.int 0)) (aCons (dC (.int 7)) aNil)))) (tgN 1)) (sSeq (sAsg (dCall 3 m_number_in_v2 (aCons (dOp opIx (dVar 2) (dC (.int 1))) (aCons (dC (.int 1)) (aCons (dC (.int 5)) aNil)))) (tgN 3)) (sIf (dAndT (asB (dOp opNotN (dVar 1) (dC .non))) (asB (dOp opNotN (dVar 3) (dC .non)))) (sRet (dMake 6 2 i_Nth (aCons (dOp opMod (dVar 1) (dC (.int 7))) (aCons (dVar 3) aNil)))) sNil))) sNil) (sRet (dC .non)))))
def m_weekday_mark : List D → Option D := runD 4 (m_weekday_mark_b)
theorem sc_m_weekday_mark : FnScope sm_weekday_mark_N ["item"] (defScope (topS 61)) := ⟨rfl, rfl, rfl, by decide +kernel, rfl, by decide +kernel, by decide +kernel⟩
theorem ok_m_weekday_mark {f : Addr} {fd : FuncData} (F : DFun K "weekday_mark" "weekday_mark" (topS 61) f fd) (C_number_in_marks : Cal P w K mg base "number_in_marks" 1 ["text", "low", "high"] (spD K c 3 m_number_in_v2)) (K_LastOne : Mak P w K mg base c "LastOne" 7 1 1 i_LastOne) (K_Nth : Mak P w K mg base c "Nth" 6 1 2 i_Nth) (n_len : mg "len" = none) :
    FnOk P w K mg base CX0 3 f fd ["item"] (spD K c 1 (m_weekday_mark)) := by
  have S := sc_m_weekday_mark
  refine okD' (n := 4) (m := 1) (B := m_weekday_mark_b) F S rfl rfl rfl fun cdv A outer s H E hr => ?_
  exact (ss_cons (s_if (d_tcmp (opD_eq hr) (d_slice (d_var 0) (o_some (d_neg d_int)) o_none) d_str) (ss_cons (s_set (i := 1) S.nd (d_call C_number_in_marks hr (by decide) (a_cons (d_slice (d_var 0) o_none (o_some (d_neg d_int))) (a_cons d_int (a_cons d_int a_nil))))) (ss_one (s_if (d_tcmp opD_notN (d_var 1) d_non) (ss_one (s_ret (d_make K_LastOne hr (by decide) (a_cons (d_op opD_mod (d_var 1) d_int) a_nil)))) ss_nil))) ss_nil) (ss_cons (s_set (i := 2) S.nd (d_ofO (o_split (d_var 0) d_str))) (ss_cons (s_if (d_tcmp (opD_eq hr) (d_callB bu_len n_len (a_cons (d_var 2) a_nil)) d_int) (ss_cons (s_set (i := 1) S.nd (d_call C_number_in_marks hr (by decide) (a_cons (d_ix (d_var 2) d_int) (a_cons d_int (a_cons d_int a_nil))))) (ss_cons (s_set (i := 3) S.nd (d_call C_number_in_marks hr (by decide) (a_cons (d_ix (d_var 2) d_int) (a_cons d_int (a_cons d_int a_nil))))) (ss_one (s_if (PW.pt (d_wand (d_tcmp opD_notN (d_var 1) d_non) (d_wand1 (d_tcmp opD_notN (d_var 3) d_non)))) (ss_one (s_ret (d_make K_Nth hr (by decide) (a_cons (d_op opD_mod (d_var 1) d_int) (a_cons (d_var 3) a_nil))))) ss_nil)))) ss_nil) (ss_one (s_ret d_non)))))
def t_marked : Nat → Option (List D → Option D)
  | 0 => some m_day_mark
  | 1 => some m_weekday_mark
  | _ => none
abbrev sm_items_of_N : List Str := ["text"]
def m_items_of_b : DS := (sSeq (sIf (dOrT (dNotT (asB (dIsi (isiB "str") (dVar 0)))) (asB (dOp opGt (dBu bLen (aCons (dVar 0) aNil)) (dC k_MOST_SIGNS_marks)))) sNever sNil) (sRet (dO (oOp bSplit (dVar 0) (dC (.str ","))))))
def m_items_of : List D → Option D := runD 1 (m_items_of_b)
theorem sc_m_items_of : FnScope sm_items_of_N ["text"] (defScope (topS 62)) := ⟨rfl, rfl, rfl, by decide +kernel, rfl, by decide +kernel, by decide +kernel⟩
theorem ok_m_items_of {f : Addr} {fd : FuncData} (F : DFun K "items_of" "items_of" (topS 62) f fd) (g_MOST_SIGNS_marks : GlobD K c mg "MOST_SIGNS_marks" k_MOST_SIGNS_marks) (n_isinstance : mg "isinstance" = none) (n_str : mg "str" = none) (n_len : mg "len" = none) :
    FnOk P w K mg base CX0 1 f fd ["text"] (spD K c 1 (m_items_of)) := by
  have S := sc_m_items_of
  refine okD' (n := 1) (m := 1) (B := m_items_of_b) F S rfl rfl rfl fun cdv A outer s H E hr => ?_
  exact (ss_cons (s_if (PW.pt (d_wor (d_tnot (d_test (d_isiB (n := "str") n_isinstance n_str (by decide +kernel) (d_var 0)))) (d_wor1 (d_tcmp opD_gt (d_callB bu_len n_len (a_cons (d_var 0) a_nil)) (d_glob g_MOST_SIGNS_marks))))) (ss_one s_never) ss_nil) (ss_one (s_ret (d_ofO (o_split (d_var 0) d_str)))))
abbrev sm_plain_item_N : List Str := ["item", "at", "low", "high", "mask"]
def m_plain_item_b : DS := (sSeq (sAsg (dCall 3 m_read_field (aCons (dVar 0) (aCons (dVar 2) (aCons (dVar 3) aNil)))) (tgN 4)) (sRet (dVar 4)))
def m_plain_item : List D → Option D := runD 5 (m_plain_item_b)
theorem sc_m_plain_item : FnScope sm_plain_item_N ["item", "at", "low", "high"] (defScope (topS 63)) := ⟨rfl, rfl, rfl, by decide +kernel, rfl, by decide +kernel, by decide +kernel⟩
theorem ok_m_plain_item {f : Addr} {fd : FuncData} (F : DFun K "plain_item" "plain_item" (topS 63) f fd) (C_read_field : Cal P w K mg base "read_field" 5 ["text", "low", "high"] (spD K c 3 m_read_field)) :
    FnOk P w K mg base CX0 6 f fd ["item", "at", "low", "high"] (spD K c 4 (m_plain_item)) := by
  have S := sc_m_plain_item
  refine okD' (n := 5) (m := 4) (B := m_plain_item_b) F S rfl rfl rfl fun cdv A outer s H E hr => ?_
  exact (ss_cons (s_tryN (fun _ _ h => h) (ss_one (s_set (i := 4) S.nd (d_call C_read_field hr (by decide) (a_cons (d_var 0) (a_cons (d_var 2) (a_cons (d_var 3) a_nil))))))) (ss_one (s_ret (d_var 4))))
abbrev sm_read_items_N : List Str := ["text", "marked", "low", "high", "items", "mask", "marks", "at", "mark"]
def m_read_items_b : DS := (sSeq (sAsg (dCall 1 m_items_of (aCons (dVar 0) aNil)) (tgN 4)) (sSeq (sAsg (dC (.int 0)) (tgN 5)) (sSeq (sAsgO (oLst aNil) 6) (sSeq (sFor (itR1 (aCons (dBu bMin (aCons (dC k_MOST_ITEMS_marks) (aCons (dBu bLen (aCons (dVar 4) aNil)) aNil))) aNil)) (tgN 7) (sSeq (sAsg (dCallV 1 1 t_marked (aCons (dOp opIx (dVar 4) (dVar 7)) aNil)) (tgN 8)) (sIf (asB (dOp opIsN (dVar 8) (dC .non))) (sAsg (dOp opOr (dVar 5) (dCall 4 m_plain_item (aCons (dOp opIx (dVar 4) (dVar 7)) (aCons (dVar 7) (aCons (dVar 2) (aCons (dVar 3) aNil)))))) (tgN 5)) (sIf (asB (dOp opEq (dOwnLen 6) (dC k_MOST_MARKS))) sNever (sApp 6 (dVar 8)))))) (sSeq (sIf (asB (dOp opGt (dBu bLen (aCons (dVar 4) aNil)) (dC k_MOST_ITEMS_marks))) sNever sNil) (sFrz 6 (sRet (dTup (aCons (dVar 5) (aCons (dVar 6) aNil))))))))))
def m_read_items : List D → Option D := runD 9 (m_read_items_b)
theorem sc_m_read_items : FnScope sm_read_items_N ["text", "marked", "low", "high"] (defScope (topS 64)) := ⟨rfl, rfl, rfl, by decide +kernel, rfl, by decide +kernel, by decide +kernel⟩
theorem ok_m_read_items {f : Addr} {fd : FuncData} (F : DFun K "read_items" "read_items" (topS 64) f fd) (C_items_of : Cal P w K mg base "items_of" 1 ["text"] (spD K c 1 m_items_of)) (C_plain_item : Cal P w K mg base "plain_item" 6 ["item", "at", "low", "high"] (spD K c 4 m_plain_item)) (V_marked : CalV P w K mg base c 5 1 t_marked) (g_MOST_ITEMS_marks : GlobD K c mg "MOST_ITEMS_marks" k_MOST_ITEMS_marks) (g_MOST_MARKS : GlobD K c mg "MOST_MARKS" k_MOST_MARKS) (n_len : mg "len" = none) (n_min : mg "min" = none) (n_range : mg "range" = none) :
    FnOk P w K mg base CX0 7 f fd ["text", "marked", "low", "high"] (spD K c 4 (m_read_items)) := by
  have S := sc_m_read_items
  refine okD' (n := 9) (m := 4) (B := m_read_items_b) F S rfl rfl rfl fun cdv A outer s H E hr => ?_
  exact (ss_cons (s_set (i := 4) S.nd (d_call C_items_of hr (by decide) (a_cons (d_var 0) a_nil))) (ss_cons (s_set (i := 5) S.nd d_int) (ss_cons (s_setO (i := 6) S.nd (o_lst a_nil)) (ss_cons (s_for PassesOwn.never rfl (it_r1 n_range (a_cons (d_callB (bu_min rfl) n_min (a_cons (d_glob g_MOST_ITEMS_marks) (a_cons (d_callB bu_len n_len (a_cons (d_var 4) a_nil)) a_nil))) a_nil)) (g_name (i := 7) S.nd) (ss_cons (s_set (i := 8) S.nd (d_callV 1 V_marked hr (by decide) (a_cons (d_ix (d_var 4) (d_var 7)) a_nil))) (ss_one (s_if (d_tcmp opD_isN (d_var 8) d_non) (ss_one (s_set (i := 5) S.nd (d_op opD_or (d_var 5) (d_call C_plain_item hr (by decide) (a_cons (d_ix (d_var 4) (d_var 7)) (a_cons (d_var 7) (a_cons (d_var 2) (a_cons (d_var 3) a_nil)))))))) (ss_one (s_if (d_tcmp (opD_eq hr) (d_ownLen 6 n_len) (d_glob g_MOST_MARKS)) (ss_one s_never) (ss_one (s_app 6 (d_var 8))))))))) (ss_cons (s_if (d_tcmp opD_gt (d_callB bu_len n_len (a_cons (d_var 4) a_nil)) (d_glob g_MOST_ITEMS_marks)) (ss_one s_never) ss_nil) (ss_frz 6 (ss_one (s_ret (d_tup (a_cons (d_var 5) (a_cons (d_var 6) a_nil)))))))))))
abbrev sm_read_days_N : List Str := ["text", "mask", "marks"]
def m_read_days_b : DS := (sSeq (sIf (asB (dOp opEq (dVar 0) (dC (.str "*")))) (sRet (dC .non)) sNil) (sSeq (sAsg (dCall 4 m_read_items (aCons (dVar 0) (aCons (dC (.fn 0)) (aCons (dC (.int 1)) (aCons (dC (.int 31)) aNil))))) (tgT [1, 2])) (sSeq (sIf (asB (dOp opEq (dVar 1) (dC (.int 0)))) (sRet (dVar 2)) sNil) (sRet (dOp opAdd (dO (oLst (aCons (dMake 1 1 i_Numbers (aCons (dVar 1) aNil)) aNil))) (dVar 2))))))
def m_read_days : List D → Option D := runD 3 (m_read_days_b)
theorem sc_m_read_days : FnScope sm_read_days_N ["text"] (defScope (topS 65)) := ⟨rfl, rfl, rfl, by decide +kernel, rfl, by decide +kernel, by decide +kernel⟩
theorem ok_m_read_days {f : Addr} {fd : FuncData} (F : DFun K "read_days" "read_days" (topS 65) f fd) (C_read_items : Cal P w K mg base "read_items" 7 ["text", "marked", "low", "high"] (spD K c 4 m_read_items)) (K_Numbers : Mak P w K mg base c "Numbers" 1 1 1 i_Numbers) (v_day_mark : mg "day_mark" = some (.ref (c.fn 0))) :
    FnOk P w K mg base CX0 8 f fd ["text"] (spD K c 1 (m_read_days)) := by
  have S := sc_m_read_days
  refine okD' (n := 3) (m := 1) (B := m_read_days_b) F S rfl rfl rfl fun cdv A outer s H E hr => ?_
  exact (ss_cons (s_if (d_tcmp (opD_eq hr) (d_var 0) d_str) (ss_one (s_ret d_non)) ss_nil) (ss_cons (s_asg (d_call C_read_items hr (by decide) (a_cons (d_var 0) (a_cons (d_fnv (i := 0) v_day_mark) (a_cons d_int (a_cons d_int a_nil))))) (g_tup (is := [1, 2]) rfl (gs_cons (i := 1) S.nd (gs_cons (i := 2) S.nd gs_nil)))) (ss_cons (s_if (d_tcmp (opD_eq hr) (d_var 1) d_int) (ss_one (s_ret (d_var 2))) ss_nil) (ss_one (s_ret (d_op opD_add (d_ofO (o_lst (a_cons (d_make K_Numbers hr (by decide) (a_cons (d_var 1) a_nil)) a_nil))) (d_var 2)))))))
abbrev sm_read_weekdays_N : List Str := ["text", "mask", "marks"]
def m_read_weekdays_b : DS := (sSeq (sIf (asB (dOp opEq (dVar 0) (dC (.str "*")))) (sRet (dC .non)) sNil) (sSeq (sAsg (dCall 4 m_read_items (aCons (dVar 0) (aCons (dC (.fn 1)) (aCons (dC (.int 0)) (aCons (dC (.int 7)) aNil))))) (tgT [1, 2])) (sSeq (sAsg (dOp opOr (dOp opAnd (dVar 1) (dC (.int 127))) (dOp opShr (dVar 1) (dC (.int 7)))) (tgN 1)) (sSeq (sIf (asB (dOp opEq (dVar 1) (dC (.int 0)))) (sRet (dVar 2)) sNil) (sRet (dOp opAdd (dO (oLst (aCons (dMake 5 1 i_Weekdays (aCons (dVar 1) aNil)) aNil))) (dVar 2)))))))
def m_read_weekdays : List D → Option D := runD 3 (m_read_weekdays_b)
theorem sc_m_read_weekdays : FnScope sm_read_weekdays_N ["text"] (defScope (topS 66)) := ⟨rfl, rfl, rfl, by decide +kernel, rfl, by decide +kernel, by decide +kernel⟩
theorem ok_m_read_weekdays {f : Addr} {fd : FuncData} (F : DFun K "read_weekdays" "read_weekdays" (topS 66) f fd) (C_read_items : Cal P w K mg base "read_items" 7 ["text", "marked", "low", "high"] (spD K c 4 m_read_items)) (K_Weekdays : Mak P w K mg base c "Weekdays" 5 1 1 i_Weekdays) (v_weekday_mark : mg "weekday_mark" = some (.ref (c.fn 1))) :
    FnOk P w K mg base CX0 8 f fd ["text"] (spD K c 1 (m_read_weekdays)) := by
  have S := sc_m_read_weekdays
  refine okD' (n := 3) (m := 1) (B := m_read_weekdays_b) F S rfl rfl rfl fun cdv A outer s H E hr => ?_
  exact (ss_cons (s_if (d_tcmp (opD_eq hr) (d_var 0) d_str) (ss_one (s_ret d_non)) ss_nil) (ss_cons (s_asg (d_call C_read_items hr (by decide) (a_cons (d_var 0) (a_cons (d_fnv (i := 1) v_weekday_mark) (a_cons d_int (a_cons d_int a_nil))))) (g_tup (is := [1, 2]) rfl (gs_cons (i := 1) S.nd (gs_cons (i := 2) S.nd gs_nil)))) (ss_cons (s_set (i := 1) S.nd (d_op opD_or (d_op opD_and (d_var 1) d_int) (d_op opD_shr (d_var 1) d_int))) (ss_cons (s_if (d_tcmp (opD_eq hr) (d_var 1) d_int) (ss_one (s_ret (d_var 2))) ss_nil) (ss_one (s_ret (d_op opD_add (d_ofO (o_lst (a_cons (d_make K_Weekdays hr (by decide) (a_cons (d_var 1) a_nil)) a_nil))) (d_var 2))))))))
abbrev sm_parted_N : List Str := ["moment", "day", "rest", "hour", "minute"]
def m_parted_b : DS := (sSeq (sAsg (dBu bDivmod (aCons (dVar 0) (aCons (dC k_DAY) aNil))) (tgT [1, 2])) (sSeq (sAsg (dBu bDivmod (aCons (dVar 2) (aCons (dC k_HOUR) aNil))) (tgT [3, 4])) (sRet (dTup (aCons (dVar 1) (aCons (dVar 3) (aCons (dVar 4) aNil)))))))
def m_parted : List D → Option D := runD 5 (m_parted_b)
theorem sc_m_parted : FnScope sm_parted_N ["moment"] (defScope (topS 70)) := ⟨rfl, rfl, rfl, by decide +kernel, rfl, by decide +kernel, by decide +kernel⟩
theorem ok_m_parted {f : Addr} {fd : FuncData} (F : DFun K "parted" "parted" (topS 70) f fd) (g_DAY : GlobD K c mg "DAY" k_DAY) (g_HOUR : GlobD K c mg "HOUR" k_HOUR) (n_divmod : mg "divmod" = none) :
    FnOk P w K mg base CX0 1 f fd ["moment"] (spD K c 1 (m_parted)) := by
  have S := sc_m_parted
  refine okD' (n := 5) (m := 1) (B := m_parted_b) F S rfl rfl rfl fun cdv A outer s H E hr => ?_
  exact (ss_cons (s_asg (d_callB bu_divmod n_divmod (a_cons (d_var 0) (a_cons (d_glob g_DAY) a_nil))) (g_tup (is := [1, 2]) rfl (gs_cons (i := 1) S.nd (gs_cons (i := 2) S.nd gs_nil)))) (ss_cons (s_asg (d_callB bu_divmod n_divmod (a_cons (d_var 2) (a_cons (d_glob g_HOUR) a_nil))) (g_tup (is := [3, 4]) rfl (gs_cons (i := 3) S.nd (gs_cons (i := 4) S.nd gs_nil)))) (ss_one (s_ret (d_tup (a_cons (d_var 1) (a_cons (d_var 3) (a_cons (d_var 4) a_nil))))))))
abbrev sm_Row___init___N : List Str := ["self", "minutes", "hours", "days", "months", "weekdays"]
def as_Row : List IStep := [.sto "minute_mask" (dVar 1), .sto "hour_mask" (dVar 2), .sto "day_marks" (dVar 3), .sto "month_mask" (dVar 4), .sto "weekday_marks" (dVar 5)]
def i_Row : List D → Option (List D) := some
theorem hF_Row (y : Addr) (ds fs : List D) (hl : ds.length = 5) (e : i_Row ds = some fs) : noOwn (startD 6 (.raw (.ref y) :: ds)) = true ∧ evalI y as_Row (startD 6 (.raw (.ref y) :: ds)) = some fs := by
  match ds, hl with
  | [a, b, d, u, g], _ =>
    cases e
    exact ⟨rfl, (ev_sto (f := "minute_mask") rfl rfl (ev_sto (f := "hour_mask") rfl rfl (ev_sto (f := "day_marks") rfl rfl (ev_sto (f := "month_mask") rfl rfl (ev_sto (f := "weekday_marks") rfl rfl ev_nil)))))⟩
theorem sc_m_Row___init__ : FnScope sm_Row___init___N ["self", "minutes", "hours", "days", "months", "weekdays"] (defScope (inClass (topS 75) 0)) := ⟨rfl, rfl, rfl, by decide +kernel, rfl, by decide +kernel, by decide +kernel⟩
theorem ok_m_Row___init__ (hnm : c.nm 0 = nmF 0) {f : Addr} {fd : FuncData} (F : DFun K "__init__" "Row.__init__" (inClass (topS 75) 0) f fd) (hC : Cls K (c.cl 0)) (A_minute_mask : NoAttr K (c.cl 0) "minute_mask") (A_hour_mask : NoAttr K (c.cl 0) "hour_mask") (A_day_marks : NoAttr K (c.cl 0) "day_marks") (A_month_mask : NoAttr K (c.cl 0) "month_mask") (A_weekday_marks : NoAttr K (c.cl 0) "weekday_marks") :
    FnOk P w K mg base CX0 1 f fd ["self", "minutes", "hours", "days", "months", "weekdays"] (spI K c 0 5 i_Row) := by
  have S := sc_m_Row___init__
  refine okI (as := as_Row) (nn := 6) F S rfl rfl hnm.symm (by rw [hnm]; decide +kernel) (by rw [hnm]; decide) hF_Row fun cdv A outer s H E hr => ?_
  exact (ii_sto (d_var 1) hC A_minute_mask (ii_sto (d_var 2) hC A_hour_mask (ii_sto (d_var 3) hC A_day_marks (ii_sto (d_var 4) hC A_month_mask (ii_sto (d_var 5) hC A_weekday_marks ii_nil)))))
abbrev sm_Row_minutes_N : List Str := ["self"]
def m_Row_minutes_b : DS := (sRet (dFld at_minute_mask (dVar 0)))
def m_Row_minutes : List D → Option D := runD 1 (m_Row_minutes_b)
theorem sc_m_Row_minutes : FnScope sm_Row_minutes_N ["self"] (defScope (inClass (topS 75) 1)) := ⟨rfl, rfl, rfl, by decide +kernel, rfl, by decide +kernel, by decide +kernel⟩
theorem ok_m_Row_minutes {f : Addr} {fd : FuncData} (F : DFun K "minutes" "Row.minutes" (inClass (topS 75) 1) f fd) (f_minute_mask : FldOk K c "minute_mask" at_minute_mask) :
    FnOk P w K mg base CX0 1 f fd ["self"] (spD K c 1 (m_Row_minutes)) := by
  have S := sc_m_Row_minutes
  refine okD' (n := 1) (m := 1) (B := m_Row_minutes_b) F S rfl rfl rfl fun cdv A outer s H E hr => ?_
  exact (ss_one (s_ret (d_fld f_minute_mask (d_var 0))))
def t_minutes : Nat → Option (List D → Option D)
  | 0 => some m_Row_minutes
  | _ => none
abbrev sm_Row_hours_N : List Str := ["self"]
def m_Row_hours_b : DS := (sRet (dFld at_hour_mask (dVar 0)))
def m_Row_hours : List D → Option D := runD 1 (m_Row_hours_b)
theorem sc_m_Row_hours : FnScope sm_Row_hours_N ["self"] (defScope (inClass (topS 75) 2)) := ⟨rfl, rfl, rfl, by decide +kernel, rfl, by decide +kernel, by decide +kernel⟩
theorem ok_m_Row_hours {f : Addr} {fd : FuncData} (F : DFun K "hours" "Row.hours" (inClass (topS 75) 2) f fd) (f_hour_mask : FldOk K c "hour_mask" at_hour_mask) :
    FnOk P w K mg base CX0 1 f fd ["self"] (spD K c 1 (m_Row_hours)) := by
  have S := sc_m_Row_hours
  refine okD' (n := 1) (m := 1) (B := m_Row_hours_b) F S rfl rfl rfl fun cdv A outer s H E hr => ?_
  exact (ss_one (s_ret (d_fld f_hour_mask (d_var 0))))
def t_hours : Nat → Option (List D → Option D)
  | 0 => some m_Row_hours
  | _ => none
abbrev sm_Row_months_N : List Str := ["self"]
def m_Row_months_b : DS := (sRet (dFld at_month_mask (dVar 0)))
def m_Row_months : List D → Option D := runD 1 (m_Row_months_b)
theorem sc_m_Row_months : FnScope sm_Row_months_N ["self"] (defScope (inClass (topS 75) 3)) := ⟨rfl, rfl, rfl, by decide +kernel, rfl, by decide +kernel, by decide +kernel⟩
theorem ok_m_Row_months {f : Addr} {fd : FuncData} (F : DFun K "months" "Row.months" (inClass (topS 75) 3) f fd) (f_month_mask : FldOk K c "month_mask" at_month_mask) :
    FnOk P w K mg base CX0 1 f fd ["self"] (spD K c 1 (m_Row_months)) := by
  have S := sc_m_Row_months
  refine okD' (n := 1) (m := 1) (B := m_Row_months_b) F S rfl rfl rfl fun cdv A outer s H E hr => ?_
  exact (ss_one (s_ret (d_fld f_month_mask (d_var 0))))
def t_months : Nat → Option (List D → Option D)
  | 0 => some m_Row_months
  | _ => none
abbrev sm_Row_times_N : List Str := ["self", "found", "hour"]
def m_Row_times_b : DS := (sSeq (sAsg (dC (.int 0)) (tgN 1)) (sSeq (sFor (itE (dCall 1 m_numbers_in (aCons (dFld at_hour_mask (dVar 0)) aNil))) (tgN 2) (sAsg (dOp opOr (dVar 1) (dOp opShl (dFld at_minute_mask (dVar 0)) (dOp opMul (dC k_MINUTES_rows) (dVar 2)))) (tgN 1))) (sRet (dVar 1))))
def m_Row_times : List D → Option D := runD 3 (m_Row_times_b)
theorem sc_m_Row_times : FnScope sm_Row_times_N ["self"] (defScope (inClass (topS 75) 4)) := ⟨rfl, rfl, rfl, by decide +kernel, rfl, by decide +kernel, by decide +kernel⟩
theorem ok_m_Row_times {f : Addr} {fd : FuncData} (F : DFun K "times" "Row.times" (inClass (topS 75) 4) f fd) (C_numbers_in : Cal P w K mg base "numbers_in" 1 ["mask"] (spD K c 1 m_numbers_in)) (g_MINUTES_rows : GlobD K c mg "MINUTES_rows" k_MINUTES_rows) (f_hour_mask : FldOk K c "hour_mask" at_hour_mask) (f_minute_mask : FldOk K c "minute_mask" at_minute_mask) :
    FnOk P w K mg base CX0 2 f fd ["self"] (spD K c 1 (m_Row_times)) := by
  have S := sc_m_Row_times
  refine okD' (n := 3) (m := 1) (B := m_Row_times_b) F S rfl rfl rfl fun cdv A outer s H E hr => ?_
  exact (ss_cons (s_set (i := 1) S.nd d_int) (ss_cons (s_for PassesOwn.never rfl (it_e (d_call C_numbers_in hr (by decide) (a_cons (d_fld f_hour_mask (d_var 0)) a_nil))) (g_name (i := 2) S.nd) (ss_one (s_set (i := 1) S.nd (d_op opD_or (d_var 1) (d_op opD_shl (d_fld f_minute_mask (d_var 0)) (d_op opD_mul (d_glob g_MINUTES_rows) (d_var 2))))))) (ss_one (s_ret (d_var 1)))))
def t_times : Nat → Option (List D → Option D)
  | 0 => some m_Row_times
  | _ => none
abbrev sm_Row_days_in_N : List Str := ["self", "kind", "month", "last", "first", "found", "marks"]
def m_Row_days_in_b : DS := (sSeq (sAsg (dCall 1 m_month_at (aCons (dVar 1) aNil)) (tgT [2, 3, 4])) (sSeq (sIf (asB (dOp opEq (dOp opAnd (dOp opShr (dFld at_month_mask (dVar 0)) (dVar 2)) (dC (.int 1))) (dC (.int 0)))) (sRet (dC (.int 0))) sNil) (sSeq (sIf (dAndT (asB (dOp opIsN (dFld at_day_marks (dVar 0)) (dC .non))) (asB (dOp opIsN (dFld at_weekday_marks (dVar 0)) (dC .non)))) (sRet (dOp opSub (dOp opShl (dC (.int 1)) (dOp opAdd (dVar 3) (dC (.int 1)))) (dC (.int 2)))) sNil) (sSeq (sAsg (dC (.int 0)) (tgN 5)) (sSeq (sFor (itE (dTup (aCons (dFld at_day_marks (dVar 0)) (aCons (dFld at_weekday_marks (dVar 0)) aNil)))) (tgN 6) (sIf (asB (dOp opNotN (dVar 6) (dC .non))) (sAsg (dOp opOr (dVar 5) (dCall 3 m_any_days (aCons (dVar 6) (aCons (dVar 3) (aCons (dVar 4) aNil))))) (tgN 5)) sNil)) (sRet (dVar 5)))))))
def m_Row_days_in : List D → Option D := runD 7 (m_Row_days_in_b)
theorem sc_m_Row_days_in : FnScope sm_Row_days_in_N ["self", "kind"] (defScope (inClass (topS 75) 5)) := ⟨rfl, rfl, rfl, by decide +kernel, rfl, by decide +kernel, by decide +kernel⟩
theorem ok_m_Row_days_in {f : Addr} {fd : FuncData} (F : DFun K "days_in" "Row.days_in" (inClass (topS 75) 5) f fd) (C_month_at : Cal P w K mg base "month_at" 3 ["kind"] (spD K c 1 m_month_at)) (C_any_days : Cal P w K mg base "any_days" 3 ["marks", "last", "first"] (spD K c 3 m_any_days)) (f_month_mask : FldOk K c "month_mask" at_month_mask) (f_day_marks : FldOk K c "day_marks" at_day_marks) (f_weekday_marks : FldOk K c "weekday_marks" at_weekday_marks) :
    FnOk P w K mg base CX0 4 f fd ["self", "kind"] (spD K c 2 (m_Row_days_in)) := by
  have S := sc_m_Row_days_in
  refine okD' (n := 7) (m := 2) (B := m_Row_days_in_b) F S rfl rfl rfl fun cdv A outer s H E hr => ?_
  exact (ss_cons (s_asg (d_call C_month_at hr (by decide) (a_cons (d_var 1) a_nil)) (g_tup (is := [2, 3, 4]) rfl (gs_cons (i := 2) S.nd (gs_cons (i := 3) S.nd (gs_cons (i := 4) S.nd gs_nil))))) (ss_cons (s_if (d_tcmp (opD_eq hr) (d_op opD_and (d_op opD_shr (d_fld f_month_mask (d_var 0)) (d_var 2)) d_int) d_int) (ss_one (s_ret d_int)) ss_nil) (ss_cons (s_if (PW.pt (d_wand (d_tcmp opD_isN (d_fld f_day_marks (d_var 0)) d_non) (d_wand1 (d_tcmp opD_isN (d_fld f_weekday_marks (d_var 0)) d_non)))) (ss_one (s_ret (d_op opD_sub (d_op opD_shl d_int (d_op opD_add (d_var 3) d_int)) d_int))) ss_nil) (ss_cons (s_set (i := 5) S.nd d_int) (ss_cons (s_for PassesOwn.never rfl (it_e (d_tup (a_cons (d_fld f_day_marks (d_var 0)) (a_cons (d_fld f_weekday_marks (d_var 0)) a_nil)))) (g_name (i := 6) S.nd) (ss_one (s_if (d_tcmp opD_notN (d_var 6) d_non) (ss_one (s_set (i := 5) S.nd (d_op opD_or (d_var 5) (d_call C_any_days hr (by decide) (a_cons (d_var 6) (a_cons (d_var 3) (a_cons (d_var 4) a_nil))))))) ss_nil))) (ss_one (s_ret (d_var 5))))))))
def t_days_in : Nat → Option (List D → Option D)
  | 0 => some m_Row_days_in
  | _ => none
abbrev sm_Row_shut_by_N : List Str := ["self", "moment", "day", "hour", "minute", "year", "month", "date"]
def m_Row_shut_by_b : DS := (sSeq (sAsg (dCall 1 m_parted (aCons (dVar 1) aNil)) (tgT [2, 3, 4])) (sSeq (sAsg (dCall 1 m_date_of (aCons (dVar 2) aNil)) (tgT [5, 6, 7])) (sSeq (sIf (asB (dOp opEq (dOp opAnd (dOp opShr (dFld at_month_mask (dVar 0)) (dVar 6)) (dC (.int 1))) (dC (.int 0)))) (sRet (dC (.str "month"))) sNil) (sSeq (sIf (asB (dOp opEq (dOp opAnd (dOp opShr (dMeth 1 t_days_in (dVar 0) (aCons (dCall 2 m_kind_of (aCons (dVar 5) (aCons (dVar 6) aNil))) aNil)) (dVar 7)) (dC (.int 1))) (dC (.int 0)))) (sRet (dC (.str "day"))) sNil) (sSeq (sIf (asB (dOp opEq (dOp opAnd (dOp opShr (dFld at_hour_mask (dVar 0)) (dVar 3)) (dC (.int 1))) (dC (.int 0)))) (sRet (dC (.str "hour"))) sNil) (sSeq (sIf (asB (dOp opEq (dOp opAnd (dOp opShr (dFld at_minute_mask (dVar 0)) (dVar 4)) (dC (.int 1))) (dC (.int 0)))) (sRet (dC (.str "minute"))) sNil) (sRet (dC .non))))))))
def m_Row_shut_by : List D → Option D := runD 8 (m_Row_shut_by_b)
theorem sc_m_Row_shut_by : FnScope sm_Row_shut_by_N ["self", "moment"] (defScope (inClass (topS 75) 6)) := ⟨rfl, rfl, rfl, by decide +kernel, rfl, by decide +kernel, by decide +kernel⟩
theorem ok_m_Row_shut_by {f : Addr} {fd : FuncData} (F : DFun K "shut_by" "Row.shut_by" (inClass (topS 75) 6) f fd) (C_parted : Cal P w K mg base "parted" 1 ["moment"] (spD K c 1 m_parted)) (C_date_of : Cal P w K mg base "date_of" 3 ["day"] (spD K c 1 m_date_of)) (C_kind_of : Cal P w K mg base "kind_of" 4 ["year", "month"] (spD K c 2 m_kind_of)) (M_days_in : MCal P w K mg base c "days_in" 5 1 t_days_in) (f_month_mask : FldOk K c "month_mask" at_month_mask) (f_hour_mask : FldOk K c "hour_mask" at_hour_mask) (f_minute_mask : FldOk K c "minute_mask" at_minute_mask) :
    FnOk P w K mg base CX0 6 f fd ["self", "moment"] (spD K c 2 (m_Row_shut_by)) := by
  have S := sc_m_Row_shut_by
  refine okD' (n := 8) (m := 2) (B := m_Row_shut_by_b) F S rfl rfl rfl fun cdv A outer s H E hr => ?_
  exact (ss_cons (s_asg (d_call C_parted hr (by decide) (a_cons (d_var 1) a_nil)) (g_tup (is := [2, 3, 4]) rfl (gs_cons (i := 2) S.nd (gs_cons (i := 3) S.nd (gs_cons (i := 4) S.nd gs_nil))))) (ss_cons (s_asg (d_call C_date_of hr (by decide) (a_cons (d_var 2) a_nil)) (g_tup (is := [5, 6, 7]) rfl (gs_cons (i := 5) S.nd (gs_cons (i := 6) S.nd (gs_cons (i := 7) S.nd gs_nil))))) (ss_cons (s_if (d_tcmp (opD_eq hr) (d_op opD_and (d_op opD_shr (d_fld f_month_mask (d_var 0)) (d_var 6)) d_int) d_int) (ss_one (s_ret d_str)) ss_nil) (ss_cons (s_if (d_tcmp (opD_eq hr) (d_op opD_and (d_op opD_shr (d_meth M_days_in hr (by decide) (d_var 0) (a_cons (d_call C_kind_of hr (by decide) (a_cons (d_var 5) (a_cons (d_var 6) a_nil))) a_nil)) (d_var 7)) d_int) d_int) (ss_one (s_ret d_str)) ss_nil) (ss_cons (s_if (d_tcmp (opD_eq hr) (d_op opD_and (d_op opD_shr (d_fld f_hour_mask (d_var 0)) (d_var 3)) d_int) d_int) (ss_one (s_ret d_str)) ss_nil) (ss_cons (s_if (d_tcmp (opD_eq hr) (d_op opD_and (d_op opD_shr (d_fld f_minute_mask (d_var 0)) (d_var 4)) d_int) d_int) (ss_one (s_ret d_str)) ss_nil) (ss_one (s_ret d_non))))))))
def t_shut_by : Nat → Option (List D → Option D)
  | 0 => some m_Row_shut_by
  | _ => none
abbrev sm_Row_holds_N : List Str := ["self", "moment"]
def m_Row_holds_b : DS := (sRet (dOp opIsN (dMeth 1 t_shut_by (dVar 0) (aCons (dVar 1) aNil)) (dC .non)))
def m_Row_holds : List D → Option D := runD 2 (m_Row_holds_b)
theorem sc_m_Row_holds : FnScope sm_Row_holds_N ["self", "moment"] (defScope (inClass (topS 75) 7)) := ⟨rfl, rfl, rfl, by decide +kernel, rfl, by decide +kernel, by decide +kernel⟩
theorem ok_m_Row_holds {f : Addr} {fd : FuncData} (F : DFun K "holds" "Row.holds" (inClass (topS 75) 7) f fd) (M_shut_by : MCal P w K mg base c "shut_by" 6 1 t_shut_by) :
    FnOk P w K mg base CX0 7 f fd ["self", "moment"] (spD K c 2 (m_Row_holds)) := by
  have S := sc_m_Row_holds
  refine okD' (n := 2) (m := 2) (B := m_Row_holds_b) F S rfl rfl rfl fun cdv A outer s H E hr => ?_
  exact (ss_one (s_ret (d_cmp opD_isN (d_meth M_shut_by hr (by decide) (d_var 0) (a_cons (d_var 1) a_nil)) d_non)))
abbrev sm_words_of_N : List Str := ["text", "words"]
def m_words_of_b : DS := (sSeq (sIf (dOrT (dNotT (asB (dIsi (isiB "str") (dVar 0)))) (asB (dOp opGt (dBu bLen (aCons (dVar 0) aNil)) (dC k_MOST_SIGNS_rows)))) sNever sNil) (sSeq (sAsg (dO (oOp bSplit (dVar 0) (dC (.str " ")))) (tgN 1)) (sSeq (sIf (dOrT (asB (dOp opNe (dBu bLen (aCons (dVar 1) aNil)) (dC (.int 5)))) (asB (dOp opIn (dC (.str "")) (dVar 1)))) sNever sNil) (sRet (dVar 1)))))
def m_words_of : List D → Option D := runD 2 (m_words_of_b)
theorem sc_m_words_of : FnScope sm_words_of_N ["text"] (defScope (topS 76)) := ⟨rfl, rfl, rfl, by decide +kernel, rfl, by decide +kernel, by decide +kernel⟩
theorem ok_m_words_of {f : Addr} {fd : FuncData} (F : DFun K "words_of" "words_of" (topS 76) f fd) (g_MOST_SIGNS_rows : GlobD K c mg "MOST_SIGNS_rows" k_MOST_SIGNS_rows) (n_isinstance : mg "isinstance" = none) (n_str : mg "str" = none) (n_len : mg "len" = none) :
    FnOk P w K mg base CX0 1 f fd ["text"] (spD K c 1 (m_words_of)) := by
  have S := sc_m_words_of
  refine okD' (n := 2) (m := 1) (B := m_words_of_b) F S rfl rfl rfl fun cdv A outer s H E hr => ?_
  exact (ss_cons (s_if (PW.pt (d_wor (d_tnot (d_test (d_isiB (n := "str") n_isinstance n_str (by decide +kernel) (d_var 0)))) (d_wor1 (d_tcmp opD_gt (d_callB bu_len n_len (a_cons (d_var 0) a_nil)) (d_glob g_MOST_SIGNS_rows))))) (ss_one s_never) ss_nil) (ss_cons (s_set (i := 1) S.nd (d_ofO (o_split (d_var 0) d_str))) (ss_cons (s_if (PW.pt (d_wor (d_tcmp (opD_ne hr) (d_callB bu_len n_len (a_cons (d_var 1) a_nil)) d_int) (d_wor1 (d_tcmp opD_in d_str (d_var 1))))) (ss_one s_never) ss_nil) (ss_one (s_ret (d_var 1))))))
abbrev sm_field_at_N : List Str := ["words", "place", "word"]
def m_field_at_b : DS := (sSeq (sAsg (dOp opIx (dVar 0) (dVar 1)) (tgN 2)) (sSeq (sIf (asB (dOp opEq (dVar 1) (dC (.int 0)))) (sRet (dCall 3 m_read_field (aCons (dVar 2) (aCons (dC (.int 0)) (aCons (dOp opSub (dC k_MINUTES_rows) (dC (.int 1))) aNil))))) sNil) (sSeq (sIf (asB (dOp opEq (dVar 1) (dC (.int 1)))) (sRet (dCall 3 m_read_field (aCons (dVar 2) (aCons (dC (.int 0)) (aCons (dOp opSub (dC k_HOURS) (dC (.int 1))) aNil))))) sNil) (sSeq (sIf (asB (dOp opEq (dVar 1) (dC (.int 2)))) (sRet (dCall 1 m_read_days (aCons (dVar 2) aNil))) sNil) (sSeq (sIf (asB (dOp opEq (dVar 1) (dC (.int 3)))) (sRet (dCall 3 m_read_field (aCons (dVar 2) (aCons (dC (.int 1)) (aCons (dC (.int 12)) aNil))))) sNil) (sRet (dCall 1 m_read_weekdays (aCons (dVar 2) aNil))))))))
def m_field_at : List D → Option D := runD 3 (m_field_at_b)
theorem sc_m_field_at : FnScope sm_field_at_N ["words", "place"] (defScope (topS 77)) := ⟨rfl, rfl, rfl, by decide +kernel, rfl, by decide +kernel, by decide +kernel⟩
theorem ok_m_field_at {f : Addr} {fd : FuncData} (F : DFun K "field_at" "field_at" (topS 77) f fd) (C_read_field : Cal P w K mg base "read_field" 5 ["text", "low", "high"] (spD K c 3 m_read_field)) (C_read_days : Cal P w K mg base "read_days" 8 ["text"] (spD K c 1 m_read_days)) (C_read_weekdays : Cal P w K mg base "read_weekdays" 8 ["text"] (spD K c 1 m_read_weekdays)) (g_MINUTES_rows : GlobD K c mg "MINUTES_rows" k_MINUTES_rows) (g_HOURS : GlobD K c mg "HOURS" k_HOURS) :
    FnOk P w K mg base CX0 9 f fd ["words", "place"] (spD K c 2 (m_field_at)) := by
  have S := sc_m_field_at
  refine okD' (n := 3) (m := 2) (B := m_field_at_b) F S rfl rfl rfl fun cdv A outer s H E hr => ?_
  exact (ss_cons (s_set (i := 2) S.nd (d_ix (d_var 0) (d_var 1))) (ss_cons (s_if (d_tcmp (opD_eq hr) (d_var 1) d_int) (ss_one (s_ret (d_call C_read_field hr (by decide) (a_cons (d_var 2) (a_cons d_int (a_cons (d_op opD_sub (d_glob g_MINUTES_rows) d_int) a_nil)))))) ss_nil) (ss_cons (s_if (d_tcmp (opD_eq hr) (d_var 1) d_int) (ss_one (s_ret (d_call C_read_field hr (by decide) (a_cons (d_var 2) (a_cons d_int (a_cons (d_op opD_sub (d_glob g_HOURS) d_int) a_nil)))))) ss_nil) (ss_cons (s_if (d_tcmp (opD_eq hr) (d_var 1) d_int) (ss_one (s_ret (d_call C_read_days hr (by decide) (a_cons (d_var 2) a_nil)))) ss_nil) (ss_cons (s_if (d_tcmp (opD_eq hr) (d_var 1) d_int) (ss_one (s_ret (d_call C_read_field hr (by decide) (a_cons (d_var 2) (a_cons d_int (a_cons d_int a_nil)))))) ss_nil) (ss_one (s_ret (d_call C_read_weekdays hr (by decide) (a_cons (d_var 2) a_nil)))))))))
abbrev sm_read_row_N : List Str := ["text", "words", "fields", "place"]
def m_read_row_b : DS := (sSeq (sAsg (dCall 1 m_words_of (aCons (dVar 0) aNil)) (tgN 1)) (sSeq (sAsgO (oLst aNil) 2) (sSeq (sFor (itR1 (aCons (dC (.int 5)) aNil)) (tgN 3) (sApp 2 (dCall 2 m_field_at (aCons (dVar 1) (aCons (dVar 3) aNil))))) (sRet (dMake 0 5 i_Row (aCons (dOwnIx 2 (dC (.int 0))) (aCons (dOwnIx 2 (dC (.int 1))) (aCons (dOwnIx 2 (dC (.int 2))) (aCons (dOwnIx 2 (dC (.int 3))) (aCons (dOwnIx 2 (dC (.int 4))) aNil))))))))))
def m_read_row : List D → Option D := runD 4 (m_read_row_b)
theorem sc_m_read_row : FnScope sm_read_row_N ["text"] (defScope (topS 78)) := ⟨rfl, rfl, rfl, by decide +kernel, rfl, by decide +kernel, by decide +kernel⟩
theorem ok_m_read_row {f : Addr} {fd : FuncData} (F : DFun K "read_row" "read_row" (topS 78) f fd) (C_words_of : Cal P w K mg base "words_of" 1 ["text"] (spD K c 1 m_words_of)) (C_field_at : Cal P w K mg base "field_at" 9 ["words", "place"] (spD K c 2 m_field_at)) (K_Row : Mak P w K mg base c "Row" 0 1 5 i_Row) (n_range : mg "range" = none) :
    FnOk P w K mg base CX0 10 f fd ["text"] (spD K c 1 (m_read_row)) := by
  have S := sc_m_read_row
  refine okD' (n := 4) (m := 1) (B := m_read_row_b) F S rfl rfl rfl fun cdv A outer s H E hr => ?_
  exact (ss_cons (s_set (i := 1) S.nd (d_call C_words_of hr (by decide) (a_cons (d_var 0) a_nil))) (ss_cons (s_setO (i := 2) S.nd (o_lst a_nil)) (ss_cons (s_for PassesOwn.never rfl (it_r1 n_range (a_cons d_int a_nil)) (g_name (i := 3) S.nd) (ss_one (s_tryN (fun _ _ h => h) (ss_one (s_app 2 (d_call C_field_at hr (by decide) (a_cons (d_var 1) (a_cons (d_var 3) a_nil)))))))) (ss_one (s_ret (d_make K_Row hr (by decide) (a_cons (d_ownIx 2 d_int) (a_cons (d_ownIx 2 d_int) (a_cons (d_ownIx 2 d_int) (a_cons (d_ownIx 2 d_int) (a_cons (d_ownIx 2 d_int) a_nil)))))))))))
abbrev sm_all_times_N : List Str := []
def m_all_times_b : DS := (sRet (dOp opSub (dOp opShl (dC (.int 1)) (dC k_MINUTES_books)) (dC (.int 1))))
def m_all_times : List D → Option D := runD 0 (m_all_times_b)
theorem sc_m_all_times : FnScope sm_all_times_N [] (defScope (topS 84)) := ⟨rfl, rfl, rfl, by decide +kernel, rfl, by decide +kernel, by decide +kernel⟩
theorem ok_m_all_times {f : Addr} {fd : FuncData} (F : DFun K "all_times" "all_times" (topS 84) f fd) (g_MINUTES_books : GlobD K c mg "MINUTES_books" k_MINUTES_books) :
    FnOk P w K mg base CX0 1 f fd [] (spD K c 0 (m_all_times)) := by
  have S := sc_m_all_times
  refine okD' (n := 0) (m := 0) (B := m_all_times_b) F S rfl rfl rfl fun cdv A outer s H E hr => ?_
  exact (ss_one (s_ret (d_op opD_sub (d_op opD_shl d_int (d_glob g_MINUTES_books)) d_int)))
abbrev sm_days_of_N : List Str := ["kind"]
def m_days_of_b : DS := (sRet (dOp opIx (dCall 1 m_month_at (aCons (dVar 0) aNil)) (dC (.int 1))))
def m_days_of : List D → Option D := runD 1 (m_days_of_b)
theorem sc_m_days_of : FnScope sm_days_of_N ["kind"] (defScope (topS 85)) := ⟨rfl, rfl, rfl, by decide +kernel, rfl, by decide +kernel, by decide +kernel⟩
theorem ok_m_days_of {f : Addr} {fd : FuncData} (F : DFun K "days_of" "days_of" (topS 85) f fd) (C_month_at : Cal P w K mg base "month_at" 3 ["kind"] (spD K c 1 m_month_at)) :
    FnOk P w K mg base CX0 4 f fd ["kind"] (spD K c 1 (m_days_of)) := by
  have S := sc_m_days_of
  refine okD' (n := 1) (m := 1) (B := m_days_of_b) F S rfl rfl rfl fun cdv A outer s H E hr => ?_
  exact (ss_one (s_ret (d_ix (d_call C_month_at hr (by decide) (a_cons (d_var 0) a_nil)) d_int)))
abbrev sm_need_book_N : List Str := ["book"]
def m_need_book_b : DS := (sIf (dNotT (asB (dIsi isiBook (dVar 0)))) sNever sNil)
def m_need_book : List D → Option D := runD 1 (m_need_book_b)
theorem sc_m_need_book : FnScope sm_need_book_N ["book"] (defScope (topS 86)) := ⟨rfl, rfl, rfl, by decide +kernel, rfl, by decide +kernel, by decide +kernel⟩
theorem ok_m_need_book {f : Addr} {fd : FuncData} (F : DFun K "need_book" "need_book" (topS 86) f fd) (x_Book : mg "Book" = some (.ref (c.cl 8))) (q_Book : IsiOk K c (.ref (c.cl 8)) isiBook) (n_isinstance : mg "isinstance" = none) :
    FnOk P w K mg base CX0 1 f fd ["book"] (spD K c 1 (m_need_book)) := by
  have S := sc_m_need_book
  refine okD' (n := 1) (m := 1) (B := m_need_book_b) F S rfl rfl rfl fun cdv A outer s H E hr => ?_
  exact (ss_one (s_if (d_tnot (d_test (d_isiC (n := 8) n_isinstance x_Book q_Book (d_var 0)))) (ss_one s_never) ss_nil))
abbrev sm_Book_holds_N : List Str := ["self", "moment"]
def m_Book_holds_b : DS := (sRet (dC (.bl false)))
def m_Book_holds : List D → Option D := runD 2 (m_Book_holds_b)
theorem sc_m_Book_holds : FnScope sm_Book_holds_N ["self", "moment"] (defScope (inClass (topS 89) 0)) := ⟨rfl, rfl, rfl, by decide +kernel, rfl, by decide +kernel, by decide +kernel⟩
theorem ok_m_Book_holds {f : Addr} {fd : FuncData} (F : DFun K "holds" "Book.holds" (inClass (topS 89) 0) f fd)  :
    FnOk P w K mg base CX0 1 f fd ["self", "moment"] (spD K c 2 (m_Book_holds)) := by
  have S := sc_m_Book_holds
  refine okD' (n := 2) (m := 2) (B := m_Book_holds_b) F S rfl rfl rfl fun cdv A outer s H E hr => ?_
  exact (ss_one (s_ret d_bl))
abbrev sm_Book_on_days_N : List Str := ["self", "kind", "day"]
def m_Book_on_days_b : DS := (sRetE (oLc (itR1 (aCons (dCall 1 m_days_of (aCons (dVar 1) aNil)) aNil)) (tgN 2) tTrue (dC (.int 0)) [2]))
def m_Book_on_days : List D → Option (List D) := runO 3 (m_Book_on_days_b)
theorem sc_m_Book_on_days : FnScope sm_Book_on_days_N ["self", "kind"] (defScope (inClass (topS 89) 1)) := ⟨rfl, rfl, rfl, by decide +kernel, rfl, by decide +kernel, by decide +kernel⟩
theorem ok_m_Book_on_days {f : Addr} {fd : FuncData} (F : DFun K "on_days" "Book.on_days" (inClass (topS 89) 1) f fd) (C_days_of : Cal P w K mg base "days_of" 4 ["kind"] (spD K c 1 m_days_of)) (n_range : mg "range" = none) :
    FnOk P w K mg base CX0 5 f fd ["self", "kind"] (spO K c 2 (m_Book_on_days)) := by
  have S := sc_m_Book_on_days
  refine okO' (n := 3) (m := 2) (B := m_Book_on_days_b) F S rfl rfl rfl fun cdv A outer s H E hr => ?_
  exact (ss_one (s_retE (o_lc (own := [("day", 2)]) rfl S.nd (it_r1 n_range (a_cons (d_call C_days_of hr (by decide) (a_cons (d_var 1) a_nil)) a_nil)) (blkOk_by (own := [("day", 2)]) (N := sm_Book_on_days_N) (sc := defScope (inClass (topS 89) 1)) (by decide +kernel)) (tgN_in (by decide)) (fun _ _ _ _ _ => (g_name (i := 2) S.nd)) (fun _ _ _ _ _ => ts_nil) (fun _ _ _ _ _ => d_int))))
abbrev sm_Book_tally_N : List Str := ["self"]
def m_Book_tally_b : DS := (sRet (dC (.int 1)))
def m_Book_tally : List D → Option D := runD 1 (m_Book_tally_b)
theorem sc_m_Book_tally : FnScope sm_Book_tally_N ["self"] (defScope (inClass (topS 89) 2)) := ⟨rfl, rfl, rfl, by decide +kernel, rfl, by decide +kernel, by decide +kernel⟩
theorem ok_m_Book_tally {f : Addr} {fd : FuncData} (F : DFun K "tally" "Book.tally" (inClass (topS 89) 2) f fd)  :
    FnOk P w K mg base CX0 1 f fd ["self"] (spD K c 1 (m_Book_tally)) := by
  have S := sc_m_Book_tally
  refine okD' (n := 1) (m := 1) (B := m_Book_tally_b) F S rfl rfl rfl fun cdv A outer s H E hr => ?_
  exact (ss_one (s_ret d_int))
abbrev sm_Book_depth_N : List Str := ["self"]
def m_Book_depth_b : DS := (sRet (dC (.int 1)))
def m_Book_depth : List D → Option D := runD 1 (m_Book_depth_b)
theorem sc_m_Book_depth : FnScope sm_Book_depth_N ["self"] (defScope (inClass (topS 89) 3)) := ⟨rfl, rfl, rfl, by decide +kernel, rfl, by decide +kernel, by decide +kernel⟩
theorem ok_m_Book_depth {f : Addr} {fd : FuncData} (F : DFun K "depth" "Book.depth" (inClass (topS 89) 3) f fd)  :
    FnOk P w K mg base CX0 1 f fd ["self"] (spD K c 1 (m_Book_depth)) := by
  have S := sc_m_Book_depth
  refine okD' (n := 1) (m := 1) (B := m_Book_depth_b) F S rfl rfl rfl fun cdv A outer s H E hr => ?_
  exact (ss_one (s_ret d_int))
abbrev sm_Of___init___N : List Str := ["self", "row"]
def as_Of : List IStep := [.chk (sIf (dNotT (asB (dIsi isiRow (dVar 1)))) sNever sNil), .sto "row" (dVar 1), .sto "told_times" (dMeth 0 t_times (dVar 1) aNil), .sto "told_days" (dMem 0 (dVar 1))]
def i_Of : List D → Option (List D)
  | [.ins 0 fs] => (m_Row_times [.ins 0 fs]).map fun t => [.ins 0 fs, t, .mem 0 (.ins 0 fs) [] []]
  | _ => none
theorem hF_Of (y : Addr) (ds fs : List D) (hl : ds.length = 1) (e : i_Of ds = some fs) : noOwn (startD 2 (.raw (.ref y) :: ds)) = true ∧ evalI y as_Of (startD 2 (.raw (.ref y) :: ds)) = some fs := by
  match ds, hl with
  | [a], _ =>
    unfold i_Of at e
    split at e
    case h_2 => cases e
    rename_i fs0 _ he
    cases he
    obtain ⟨t, e1, rfl⟩ := Option.map_eq_some_iff.mp e
    exact ⟨rfl, ev_chk rfl rfl (ev_sto rfl rfl (ev_sto rfl e1 (ev_sto rfl rfl ev_nil)))⟩
theorem sc_m_Of___init__ : FnScope sm_Of___init___N ["self", "row"] (defScope (inClass (topS 90) 0)) := ⟨rfl, rfl, rfl, by decide +kernel, rfl, by decide +kernel, by decide +kernel⟩
theorem ok_m_Of___init__ (hnm : c.nm 9 = nmF 9) {f : Addr} {fd : FuncData} (F : DFun K "__init__" "Of.__init__" (inClass (topS 90) 0) f fd) (hC : Cls K (c.cl 9)) (A_row : NoAttr K (c.cl 9) "row") (A_told_times : NoAttr K (c.cl 9) "told_times") (A_told_days : NoAttr K (c.cl 9) "told_days") (M_times : MCal P w K mg base c "times" 2 0 t_times) (x_Row : mg "Row" = some (.ref (c.cl 0))) (q_Row : IsiOk K c (.ref (c.cl 0)) isiRow) (n_isinstance : mg "isinstance" = none) (h_M0 : MemD c 0 true fk_0 uk_0) :
    FnOk P w K mg base CX0 3 f fd ["self", "row"] (spI K c 9 1 i_Of) := by
  have S := sc_m_Of___init__
  refine okI (as := as_Of) (nn := 2) F S rfl rfl hnm.symm (by rw [hnm]; decide +kernel) (by rw [hnm]; decide) hF_Of fun cdv A outer s H E hr => ?_
  exact (ii_chk (s_if (d_tnot (d_test (d_isiC (n := 0) n_isinstance x_Row q_Row (d_var 1)))) (ss_one s_never) ss_nil) (ii_sto (d_var 1) hC A_row (ii_sto (d_meth0 M_times hr (by decide) (d_var 1)) hC A_told_times (ii_sto (d_memT (i := 0) (g := (dVar 1)) (h_M0).tk (h_M0).ub') hC A_told_days ii_nil))))
abbrev sm_Of_holds_N : List Str := ["self", "moment"]
def m_Of_holds_b (t_holds : Nat → Option (List D → Option D)) : DS := (sRet (dMeth 1 t_holds (dFld at_row (dVar 0)) (aCons (dVar 1) aNil)))
def m_Of_holds (t_holds : Nat → Option (List D → Option D)) : List D → Option D := runD 2 (m_Of_holds_b t_holds)
theorem sc_m_Of_holds : FnScope sm_Of_holds_N ["self", "moment"] (defScope (inClass (topS 90) 1)) := ⟨rfl, rfl, rfl, by decide +kernel, rfl, by decide +kernel, by decide +kernel⟩
theorem ok_m_Of_holds {f : Addr} {fd : FuncData} (F : DFun K "holds" "Of.holds" (inClass (topS 90) 1) f fd) {lv : Nat} {t_holds : Nat → Option (List D → Option D)} (hlv : 0 ≤ lv) (M_holds : MCal P w K mg base c "holds" lv 1 t_holds) (f_row : FldOk K c "row" at_row) :
    FnOk P w K mg base CX0 (lv + 1) f fd ["self", "moment"] (spD K c 2 (m_Of_holds t_holds)) := by
  have S := sc_m_Of_holds
  refine okD' (n := 2) (m := 2) (B := m_Of_holds_b t_holds) F S rfl rfl rfl fun cdv A outer s H E hr => ?_
  exact (ss_one (s_ret (d_meth M_holds hr (by omega) (d_fld f_row (d_var 0)) (a_cons (d_var 1) a_nil))))
abbrev sm_Of_on_days_N : List Str := ["self", "kind", "month", "last", "first", "days", "day"]
def m_Of_on_days_b : DS := (sSeq (sAsg (dCall 1 m_month_at (aCons (dVar 1) aNil)) (tgT [2, 3, 4])) (sSeq (sIf (asB (dOp opEq (dOp opAnd (dOp opShr (dMeth 0 t_months (dFld at_row (dVar 0)) aNil) (dVar 2)) (dC (.int 1))) (dC (.int 0)))) (sRetE (oLc (itR1 (aCons (dVar 3) aNil)) (tgN 6) tTrue (dC (.int 0)) [6])) sNil) (sSeq (sMemoFT 0 fk_0 uk_0 at_told_days 0 (aCons (dVar 3) (aCons (dVar 4) aNil)) (dMeth 1 t_days_in (dFld at_row (dVar 0)) (aCons (dVar 1) aNil))) (sSeq (sAsg (dMixT 0 (dFld at_told_days (dVar 0)) (aCons (dVar 3) (aCons (dVar 4) aNil))) (tgN 5)) (sRetE (oLc (itR2 (aCons (dC (.int 1)) (aCons (dOp opAdd (dVar 3) (dC (.int 1))) aNil))) (tgN 6) tTrue (dOp opMul (dFld at_told_times (dVar 0)) (dOp opAnd (dOp opShr (dVar 5) (dVar 6)) (dC (.int 1)))) [6]))))))
def m_Of_on_days : List D → Option (List D) := runO 7 (m_Of_on_days_b)
theorem sc_m_Of_on_days : FnScope sm_Of_on_days_N ["self", "kind"] (defScope (inClass (topS 90) 2)) := ⟨rfl, rfl, rfl, by decide +kernel, rfl, by decide +kernel, by decide +kernel⟩
theorem ok_m_Of_on_days {f : Addr} {fd : FuncData} (F : DFun K "on_days" "Of.on_days" (inClass (topS 90) 2) f fd) (C_month_at : Cal P w K mg base "month_at" 3 ["kind"] (spD K c 1 m_month_at)) (M_months : MCal P w K mg base c "months" 1 0 t_months) (M_days_in : MCal P w K mg base c "days_in" 5 1 t_days_in) (n_range : mg "range" = none) (hcK : c.K = K) (h_M0 : MemD c 0 true fk_0 uk_0) (f_row : FldOk K c "row" at_row) (f_told_days : FldOk K c "told_days" at_told_days) (f_told_times : FldOk K c "told_times" at_told_times) :
    FnOk P w K mg base CX0 6 f fd ["self", "kind"] (spO K c 2 (m_Of_on_days)) := by
  have S := sc_m_Of_on_days
  refine okO' (n := 7) (m := 2) (B := m_Of_on_days_b) F S rfl rfl rfl fun cdv A outer s H E hr => ?_
  exact (ss_cons (s_asg (d_call C_month_at hr (by decide) (a_cons (d_var 1) a_nil)) (g_tup (is := [2, 3, 4]) rfl (gs_cons (i := 2) S.nd (gs_cons (i := 3) S.nd (gs_cons (i := 4) S.nd gs_nil))))) (ss_cons (s_if (d_tcmp (opD_eq hr) (d_op opD_and (d_op opD_shr (d_meth0 M_months hr (by decide) (d_fld f_row (d_var 0))) (d_var 2)) d_int) d_int) (ss_one (s_retE (o_lc (own := [("day", 6)]) rfl S.nd (it_r1 n_range (a_cons (d_var 3) a_nil)) (blkOk_by (own := [("day", 6)]) (N := sm_Of_on_days_N) (sc := defScope (inClass (topS 90) 2)) (by decide +kernel)) (tgN_in (by decide)) (fun _ _ _ _ _ => (g_name (i := 6) S.nd)) (fun _ _ _ _ _ => ts_nil) (fun _ _ _ _ _ => d_int)))) ss_nil) (ss_cons (s_memoFT (j := 0) hr hcK (h_M0).tk (h_M0).fm (h_M0).um f_told_days (a_cons (d_var 3) (a_cons (d_var 4) a_nil)) (a_cons (d_var 3) (a_cons (d_var 4) a_nil)) (d_meth M_days_in hr (by decide) (d_fld f_row (d_var 0)) (a_cons (d_var 1) a_nil))) (ss_cons (s_set (i := 5) S.nd (d_mixT hr (h_M0).tk (d_fld f_told_days (d_var 0)) (a_cons (d_var 3) (a_cons (d_var 4) a_nil)))) (ss_one (s_retE (o_lc (own := [("day", 6)]) rfl S.nd (it_r2 n_range (a_cons d_int (a_cons (d_op opD_add (d_var 3) d_int) a_nil))) (blkOk_by (own := [("day", 6)]) (N := sm_Of_on_days_N) (sc := defScope (inClass (topS 90) 2)) (by decide +kernel)) (tgN_in (by decide)) (fun _ _ _ _ _ => (g_name (i := 6) S.nd)) (fun _ _ _ _ _ => ts_nil) (fun _ _ _ _ _ => (d_op opD_mul (d_fld f_told_times (d_var 0)) (d_op opD_and (d_op opD_shr (d_var 5) (d_var 6)) d_int))))))))))
abbrev sm_Joined_holds_N : List Str := ["self", "moment", "book"]
def m_Joined_holds_b (t_holds : Nat → Option (List D → Option D)) : DS := (sSeq (sFor (itE (dFld at_books (dVar 0))) (tgN 2) (sIf (asB (dMeth 1 t_holds (dVar 2) (aCons (dVar 1) aNil))) (sRet (dC (.bl true))) sNil)) (sRet (dC (.bl false))))
def m_Joined_holds (t_holds : Nat → Option (List D → Option D)) : List D → Option D := runD 3 (m_Joined_holds_b t_holds)
theorem sc_m_Joined_holds : FnScope sm_Joined_holds_N ["self", "moment"] (defScope (inClass (topS 91) 1)) := ⟨rfl, rfl, rfl, by decide +kernel, rfl, by decide +kernel, by decide +kernel⟩
theorem ok_m_Joined_holds {f : Addr} {fd : FuncData} (F : DFun K "holds" "Joined.holds" (inClass (topS 91) 1) f fd) {lv : Nat} {t_holds : Nat → Option (List D → Option D)} (hlv : 0 ≤ lv) (M_holds : MCal P w K mg base c "holds" lv 1 t_holds) (f_books : FldOk K c "books" at_books) :
    FnOk P w K mg base CX0 (lv + 1) f fd ["self", "moment"] (spD K c 2 (m_Joined_holds t_holds)) := by
  have S := sc_m_Joined_holds
  refine okD' (n := 3) (m := 2) (B := m_Joined_holds_b t_holds) F S rfl rfl rfl fun cdv A outer s H E hr => ?_
  exact (ss_cons (s_for PassesOwn.never rfl (it_e (d_fld f_books (d_var 0))) (g_name (i := 2) S.nd) (ss_one (s_if (d_test (d_meth M_holds hr (by omega) (d_var 2) (a_cons (d_var 1) a_nil))) (ss_one (s_ret d_bl)) ss_nil))) (ss_one (s_ret d_bl)))
abbrev sm_Joined_on_days_N : List Str := ["self", "kind", "found", "book", "day", "one", "other"]
def m_Joined_on_days_b (t_on_days : Nat → Option (List D → Option (List D))) : DS := (sSeq (sAsgO (oLc (itR1 (aCons (dCall 1 m_days_of (aCons (dVar 1) aNil)) aNil)) (tgN 4) tTrue (dC (.int 0)) [4]) 2) (sSeq (sFor (itE (dFld at_books (dVar 0))) (tgN 3) (sFrz 2 (sAsgO (oLc (itZip (aCons (dVar 2) (aCons (dO (oMeth 1 t_on_days (dVar 3) (aCons (dVar 1) aNil))) aNil))) (tgT [5, 6]) tTrue (dOp opOr (dVar 5) (dVar 6)) [5, 6]) 2))) (sRetO 2)))
def m_Joined_on_days (t_on_days : Nat → Option (List D → Option (List D))) : List D → Option (List D) := runO 7 (m_Joined_on_days_b t_on_days)
theorem sc_m_Joined_on_days : FnScope sm_Joined_on_days_N ["self", "kind"] (defScope (inClass (topS 91) 2)) := ⟨rfl, rfl, rfl, by decide +kernel, rfl, by decide +kernel, by decide +kernel⟩
theorem ok_m_Joined_on_days {f : Addr} {fd : FuncData} (F : DFun K "on_days" "Joined.on_days" (inClass (topS 91) 2) f fd) {lv : Nat} {t_on_days : Nat → Option (List D → Option (List D))} (hlv : 4 ≤ lv) (C_days_of : Cal P w K mg base "days_of" 4 ["kind"] (spD K c 1 m_days_of)) (M_on_days : MCalO P w K mg base c "on_days" lv 1 t_on_days) (n_range : mg "range" = none) (n_zip : mg "zip" = none) (f_books : FldOk K c "books" at_books) :
    FnOk P w K mg base CX0 (lv + 1) f fd ["self", "kind"] (spO K c 2 (m_Joined_on_days t_on_days)) := by
  have S := sc_m_Joined_on_days
  refine okO' (n := 7) (m := 2) (B := m_Joined_on_days_b t_on_days) F S rfl rfl rfl fun cdv A outer s H E hr => ?_
  exact (ss_cons (s_setLcO (i := 2) (own := [("day", 4)]) rfl S.nd (it_r1 n_range (a_cons (d_call C_days_of hr (by omega) (a_cons (d_var 1) a_nil)) a_nil)) (blkOk_by (own := [("day", 4)]) (N := sm_Joined_on_days_N) (sc := defScope (inClass (topS 91) 2)) (by decide +kernel)) (tgN_in (by decide)) (fun _ _ _ _ _ => (g_name (i := 4) S.nd)) (fun _ _ _ _ _ => ts_nil) (fun _ _ _ _ _ => d_int)) (ss_cons (s_for PassesOwn.never rfl (it_e (d_fld f_books (d_var 0))) (g_name (i := 3) S.nd) (ss_frz 2 (ss_one (s_setLcO (i := 2) (own := [("one", 5), ("other", 6)]) rfl S.nd (it_zip n_zip (a_cons (d_var 2) (a_cons (d_ofO (o_meth M_on_days hr (by omega) (d_var 3) (a_cons (d_var 1) a_nil))) a_nil))) (blkOk_by (own := [("one", 5), ("other", 6)]) (N := sm_Joined_on_days_N) (sc := defScope (inClass (topS 91) 2)) (by decide +kernel)) (tgT_in (by decide)) (fun _ _ _ _ _ => (g_tup (is := [5, 6]) rfl (gs_cons (i := 5) S.nd (gs_cons (i := 6) S.nd gs_nil)))) (fun _ _ _ _ _ => ts_nil) (fun _ _ _ _ _ => (d_op opD_or (d_var 5) (d_var 6))))))) (ss_one (s_retO 2))))
abbrev sm_Joined_tally_N : List Str := ["self", "book"]
def m_Joined_tally_b (t_tally : Nat → Option (List D → Option D)) : DS := (sRet (dOp opAdd (dC (.int 1)) (dBu bSum (aCons (dO (oLc (itE (dFld at_books (dVar 0))) (tgN 1) tTrue (dMeth 0 t_tally (dVar 1) aNil) [1])) aNil))))
def m_Joined_tally (t_tally : Nat → Option (List D → Option D)) : List D → Option D := runD 2 (m_Joined_tally_b t_tally)
theorem sc_m_Joined_tally : FnScope sm_Joined_tally_N ["self"] (defScope (inClass (topS 91) 3)) := ⟨rfl, rfl, rfl, by decide +kernel, rfl, by decide +kernel, by decide +kernel⟩
theorem ok_m_Joined_tally {f : Addr} {fd : FuncData} (F : DFun K "tally" "Joined.tally" (inClass (topS 91) 3) f fd) {lv : Nat} {t_tally : Nat → Option (List D → Option D)} (hlv : 0 ≤ lv) (M_tally : MCal P w K mg base c "tally" lv 0 t_tally) (n_sum : mg "sum" = none) (f_books : FldOk K c "books" at_books) :
    FnOk P w K mg base CX0 (lv + 1) f fd ["self"] (spD K c 1 (m_Joined_tally t_tally)) := by
  have S := sc_m_Joined_tally
  refine okD' (n := 2) (m := 1) (B := m_Joined_tally_b t_tally) F S rfl rfl rfl fun cdv A outer s H E hr => ?_
  exact (ss_one (s_ret (d_op opD_add d_int (d_callB (bu_sum rfl) n_sum (a_cons (d_ofO (o_lc (own := [("book", 1)]) rfl S.nd (it_e (d_fld f_books (d_var 0))) (blkOk_by (own := [("book", 1)]) (N := sm_Joined_tally_N) (sc := defScope (inClass (topS 91) 3)) (by decide +kernel)) (tgN_in (by decide)) (fun _ _ _ _ _ => (g_name (i := 1) S.nd)) (fun _ _ _ _ _ => ts_nil) (fun _ _ _ _ _ => (d_meth0 M_tally hr (by omega) (d_var 1))))) a_nil)))))
abbrev sm_Joined_depth_N : List Str := ["self", "book"]
def m_Joined_depth_b (t_depth : Nat → Option (List D → Option D)) : DS := (sRet (dOp opAdd (dC (.int 1)) (dBu bMax (aCons (dO (oLc (itE (dFld at_books (dVar 0))) (tgN 1) tTrue (dMeth 0 t_depth (dVar 1) aNil) [1])) aNil))))
def m_Joined_depth (t_depth : Nat → Option (List D → Option D)) : List D → Option D := runD 2 (m_Joined_depth_b t_depth)
theorem sc_m_Joined_depth : FnScope sm_Joined_depth_N ["self"] (defScope (inClass (topS 91) 4)) := ⟨rfl, rfl, rfl, by decide +kernel, rfl, by decide +kernel, by decide +kernel⟩
theorem ok_m_Joined_depth {f : Addr} {fd : FuncData} (F : DFun K "depth" "Joined.depth" (inClass (topS 91) 4) f fd) {lv : Nat} {t_depth : Nat → Option (List D → Option D)} (hlv : 0 ≤ lv) (M_depth : MCal P w K mg base c "depth" lv 0 t_depth) (n_max : mg "max" = none) (f_books : FldOk K c "books" at_books) :
    FnOk P w K mg base CX0 (lv + 1) f fd ["self"] (spD K c 1 (m_Joined_depth t_depth)) := by
  have S := sc_m_Joined_depth
  refine okD' (n := 2) (m := 1) (B := m_Joined_depth_b t_depth) F S rfl rfl rfl fun cdv A outer s H E hr => ?_
  exact (ss_one (s_ret (d_op opD_add d_int (d_callB (bu_max rfl) n_max (a_cons (d_ofO (o_lc (own := [("book", 1)]) rfl S.nd (it_e (d_fld f_books (d_var 0))) (blkOk_by (own := [("book", 1)]) (N := sm_Joined_depth_N) (sc := defScope (inClass (topS 91) 4)) (by decide +kernel)) (tgN_in (by decide)) (fun _ _ _ _ _ => (g_name (i := 1) S.nd)) (fun _ _ _ _ _ => ts_nil) (fun _ _ _ _ _ => (d_meth0 M_depth hr (by omega) (d_var 1))))) a_nil)))))
abbrev sm_Met_holds_N : List Str := ["self", "moment", "book"]
def m_Met_holds_b (t_holds : Nat → Option (List D → Option D)) : DS := (sSeq (sFor (itE (dFld at_books (dVar 0))) (tgN 2) (sIf (dNotT (asB (dMeth 1 t_holds (dVar 2) (aCons (dVar 1) aNil)))) (sRet (dC (.bl false))) sNil)) (sRet (dC (.bl true))))
def m_Met_holds (t_holds : Nat → Option (List D → Option D)) : List D → Option D := runD 3 (m_Met_holds_b t_holds)
theorem sc_m_Met_holds : FnScope sm_Met_holds_N ["self", "moment"] (defScope (inClass (topS 92) 1)) := ⟨rfl, rfl, rfl, by decide +kernel, rfl, by decide +kernel, by decide +kernel⟩
theorem ok_m_Met_holds {f : Addr} {fd : FuncData} (F : DFun K "holds" "Met.holds" (inClass (topS 92) 1) f fd) {lv : Nat} {t_holds : Nat → Option (List D → Option D)} (hlv : 0 ≤ lv) (M_holds : MCal P w K mg base c "holds" lv 1 t_holds) (f_books : FldOk K c "books" at_books) :
    FnOk P w K mg base CX0 (lv + 1) f fd ["self", "moment"] (spD K c 2 (m_Met_holds t_holds)) := by
  have S := sc_m_Met_holds
  refine okD' (n := 3) (m := 2) (B := m_Met_holds_b t_holds) F S rfl rfl rfl fun cdv A outer s H E hr => ?_
  exact (ss_cons (s_for PassesOwn.never rfl (it_e (d_fld f_books (d_var 0))) (g_name (i := 2) S.nd) (ss_one (s_if (d_tnot (d_test (d_meth M_holds hr (by omega) (d_var 2) (a_cons (d_var 1) a_nil)))) (ss_one (s_ret d_bl)) ss_nil))) (ss_one (s_ret d_bl)))
abbrev sm_Met_on_days_N : List Str := ["self", "kind", "found", "book", "day", "one", "other"]
def m_Met_on_days_b (t_on_days : Nat → Option (List D → Option (List D))) : DS := (sSeq (sAsgO (oLc (itR1 (aCons (dCall 1 m_days_of (aCons (dVar 1) aNil)) aNil)) (tgN 4) tTrue (dCall 0 m_all_times aNil) [4]) 2) (sSeq (sFor (itE (dFld at_books (dVar 0))) (tgN 3) (sFrz 2 (sAsgO (oLc (itZip (aCons (dVar 2) (aCons (dO (oMeth 1 t_on_days (dVar 3) (aCons (dVar 1) aNil))) aNil))) (tgT [5, 6]) tTrue (dOp opAnd (dVar 5) (dVar 6)) [5, 6]) 2))) (sRetO 2)))
def m_Met_on_days (t_on_days : Nat → Option (List D → Option (List D))) : List D → Option (List D) := runO 7 (m_Met_on_days_b t_on_days)
theorem sc_m_Met_on_days : FnScope sm_Met_on_days_N ["self", "kind"] (defScope (inClass (topS 92) 2)) := ⟨rfl, rfl, rfl, by decide +kernel, rfl, by decide +kernel, by decide +kernel⟩
theorem ok_m_Met_on_days {f : Addr} {fd : FuncData} (F : DFun K "on_days" "Met.on_days" (inClass (topS 92) 2) f fd) {lv : Nat} {t_on_days : Nat → Option (List D → Option (List D))} (hlv : 4 ≤ lv) (C_days_of : Cal P w K mg base "days_of" 4 ["kind"] (spD K c 1 m_days_of)) (C_all_times : Cal P w K mg base "all_times" 1 [] (spD K c 0 m_all_times)) (M_on_days : MCalO P w K mg base c "on_days" lv 1 t_on_days) (n_range : mg "range" = none) (n_zip : mg "zip" = none) (f_books : FldOk K c "books" at_books) :
    FnOk P w K mg base CX0 (lv + 1) f fd ["self", "kind"] (spO K c 2 (m_Met_on_days t_on_days)) := by
  have S := sc_m_Met_on_days
  refine okO' (n := 7) (m := 2) (B := m_Met_on_days_b t_on_days) F S rfl rfl rfl fun cdv A outer s H E hr => ?_
  exact (ss_cons (s_setLcO (i := 2) (own := [("day", 4)]) rfl S.nd (it_r1 n_range (a_cons (d_call C_days_of hr (by omega) (a_cons (d_var 1) a_nil)) a_nil)) (blkOk_by (own := [("day", 4)]) (N := sm_Met_on_days_N) (sc := defScope (inClass (topS 92) 2)) (by decide +kernel)) (tgN_in (by decide)) (fun _ _ _ _ _ => (g_name (i := 4) S.nd)) (fun _ _ _ _ _ => ts_nil) (fun _ _ _ _ _ => (d_call0 C_all_times hr (by omega)))) (ss_cons (s_for PassesOwn.never rfl (it_e (d_fld f_books (d_var 0))) (g_name (i := 3) S.nd) (ss_frz 2 (ss_one (s_setLcO (i := 2) (own := [("one", 5), ("other", 6)]) rfl S.nd (it_zip n_zip (a_cons (d_var 2) (a_cons (d_ofO (o_meth M_on_days hr (by omega) (d_var 3) (a_cons (d_var 1) a_nil))) a_nil))) (blkOk_by (own := [("one", 5), ("other", 6)]) (N := sm_Met_on_days_N) (sc := defScope (inClass (topS 92) 2)) (by decide +kernel)) (tgT_in (by decide)) (fun _ _ _ _ _ => (g_tup (is := [5, 6]) rfl (gs_cons (i := 5) S.nd (gs_cons (i := 6) S.nd gs_nil)))) (fun _ _ _ _ _ => ts_nil) (fun _ _ _ _ _ => (d_op opD_and (d_var 5) (d_var 6))))))) (ss_one (s_retO 2))))
abbrev sm_Met_tally_N : List Str := ["self", "book"]
def m_Met_tally_b (t_tally : Nat → Option (List D → Option D)) : DS := (sRet (dOp opAdd (dC (.int 1)) (dBu bSum (aCons (dO (oLc (itE (dFld at_books (dVar 0))) (tgN 1) tTrue (dMeth 0 t_tally (dVar 1) aNil) [1])) aNil))))
def m_Met_tally (t_tally : Nat → Option (List D → Option D)) : List D → Option D := runD 2 (m_Met_tally_b t_tally)
theorem sc_m_Met_tally : FnScope sm_Met_tally_N ["self"] (defScope (inClass (topS 92) 3)) := ⟨rfl, rfl, rfl, by decide +kernel, rfl, by decide +kernel, by decide +kernel⟩
theorem ok_m_Met_tally {f : Addr} {fd : FuncData} (F : DFun K "tally" "Met.tally" (inClass (topS 92) 3) f fd) {lv : Nat} {t_tally : Nat → Option (List D → Option D)} (hlv : 0 ≤ lv) (M_tally : MCal P w K mg base c "tally" lv 0 t_tally) (n_sum : mg "sum" = none) (f_books : FldOk K c "books" at_books) :
    FnOk P w K mg base CX0 (lv + 1) f fd ["self"] (spD K c 1 (m_Met_tally t_tally)) := by
  have S := sc_m_Met_tally
  refine okD' (n := 2) (m := 1) (B := m_Met_tally_b t_tally) F S rfl rfl rfl fun cdv A outer s H E hr => ?_
  exact (ss_one (s_ret (d_op opD_add d_int (d_callB (bu_sum rfl) n_sum (a_cons (d_ofO (o_lc (own := [("book", 1)]) rfl S.nd (it_e (d_fld f_books (d_var 0))) (blkOk_by (own := [("book", 1)]) (N := sm_Met_tally_N) (sc := defScope (inClass (topS 92) 3)) (by decide +kernel)) (tgN_in (by decide)) (fun _ _ _ _ _ => (g_name (i := 1) S.nd)) (fun _ _ _ _ _ => ts_nil) (fun _ _ _ _ _ => (d_meth0 M_tally hr (by omega) (d_var 1))))) a_nil)))))
abbrev sm_Met_depth_N : List Str := ["self", "book"]
def m_Met_depth_b (t_depth : Nat → Option (List D → Option D)) : DS := (sRet (dOp opAdd (dC (.int 1)) (dBu bMax (aCons (dO (oLc (itE (dFld at_books (dVar 0))) (tgN 1) tTrue (dMeth 0 t_depth (dVar 1) aNil) [1])) aNil))))
def m_Met_depth (t_depth : Nat → Option (List D → Option D)) : List D → Option D := runD 2 (m_Met_depth_b t_depth)
theorem sc_m_Met_depth : FnScope sm_Met_depth_N ["self"] (defScope (inClass (topS 92) 4)) := ⟨rfl, rfl, rfl, by decide +kernel, rfl, by decide +kernel, by decide +kernel⟩
theorem ok_m_Met_depth {f : Addr} {fd : FuncData} (F : DFun K "depth" "Met.depth" (inClass (topS 92) 4) f fd) {lv : Nat} {t_depth : Nat → Option (List D → Option D)} (hlv : 0 ≤ lv) (M_depth : MCal P w K mg base c "depth" lv 0 t_depth) (n_max : mg "max" = none) (f_books : FldOk K c "books" at_books) :
    FnOk P w K mg base CX0 (lv + 1) f fd ["self"] (spD K c 1 (m_Met_depth t_depth)) := by
  have S := sc_m_Met_depth
  refine okD' (n := 2) (m := 1) (B := m_Met_depth_b t_depth) F S rfl rfl rfl fun cdv A outer s H E hr => ?_
  exact (ss_one (s_ret (d_op opD_add d_int (d_callB (bu_max rfl) n_max (a_cons (d_ofO (o_lc (own := [("book", 1)]) rfl S.nd (it_e (d_fld f_books (d_var 0))) (blkOk_by (own := [("book", 1)]) (N := sm_Met_depth_N) (sc := defScope (inClass (topS 92) 4)) (by decide +kernel)) (tgN_in (by decide)) (fun _ _ _ _ _ => (g_name (i := 1) S.nd)) (fun _ _ _ _ _ => ts_nil) (fun _ _ _ _ _ => (d_meth0 M_depth hr (by omega) (d_var 1))))) a_nil)))))
abbrev sm_Less_holds_N : List Str := ["self", "moment"]
def m_Less_holds_b (t_holds : Nat → Option (List D → Option D)) : DS := (sRet (dAnd (dMeth 1 t_holds (dFld at_one (dVar 0)) (aCons (dVar 1) aNil)) (dNot (dMeth 1 t_holds (dFld at_other (dVar 0)) (aCons (dVar 1) aNil)))))
def m_Less_holds (t_holds : Nat → Option (List D → Option D)) : List D → Option D := runD 2 (m_Less_holds_b t_holds)
theorem sc_m_Less_holds : FnScope sm_Less_holds_N ["self", "moment"] (defScope (inClass (topS 93) 1)) := ⟨rfl, rfl, rfl, by decide +kernel, rfl, by decide +kernel, by decide +kernel⟩
theorem ok_m_Less_holds {f : Addr} {fd : FuncData} (F : DFun K "holds" "Less.holds" (inClass (topS 93) 1) f fd) {lv : Nat} {t_holds : Nat → Option (List D → Option D)} (hlv : 0 ≤ lv) (M_holds : MCal P w K mg base c "holds" lv 1 t_holds) (f_one : FldOk K c "one" at_one) (f_other : FldOk K c "other" at_other) :
    FnOk P w K mg base CX0 (lv + 1) f fd ["self", "moment"] (spD K c 2 (m_Less_holds t_holds)) := by
  have S := sc_m_Less_holds
  refine okD' (n := 2) (m := 2) (B := m_Less_holds_b t_holds) F S rfl rfl rfl fun cdv A outer s H E hr => ?_
  exact (ss_one (s_ret (d_and (d_meth M_holds hr (by omega) (d_fld f_one (d_var 0)) (a_cons (d_var 1) a_nil)) (d_one (d_not (d_meth M_holds hr (by omega) (d_fld f_other (d_var 0)) (a_cons (d_var 1) a_nil)))))))
abbrev sm_Less_on_days_N : List Str := ["self", "kind", "one", "other"]
def m_Less_on_days_b (t_on_days : Nat → Option (List D → Option (List D))) : DS := (sRetE (oLc (itZip (aCons (dO (oMeth 1 t_on_days (dFld at_one (dVar 0)) (aCons (dVar 1) aNil))) (aCons (dO (oMeth 1 t_on_days (dFld at_other (dVar 0)) (aCons (dVar 1) aNil))) aNil))) (tgT [2, 3]) tTrue (dOp opXor (dVar 2) (dOp opAnd (dVar 2) (dVar 3))) [2, 3]))
def m_Less_on_days (t_on_days : Nat → Option (List D → Option (List D))) : List D → Option (List D) := runO 4 (m_Less_on_days_b t_on_days)
theorem sc_m_Less_on_days : FnScope sm_Less_on_days_N ["self", "kind"] (defScope (inClass (topS 93) 2)) := ⟨rfl, rfl, rfl, by decide +kernel, rfl, by decide +kernel, by decide +kernel⟩
theorem ok_m_Less_on_days {f : Addr} {fd : FuncData} (F : DFun K "on_days" "Less.on_days" (inClass (topS 93) 2) f fd) {lv : Nat} {t_on_days : Nat → Option (List D → Option (List D))} (hlv : 0 ≤ lv) (M_on_days : MCalO P w K mg base c "on_days" lv 1 t_on_days) (n_zip : mg "zip" = none) (f_other : FldOk K c "other" at_other) (f_one : FldOk K c "one" at_one) :
    FnOk P w K mg base CX0 (lv + 1) f fd ["self", "kind"] (spO K c 2 (m_Less_on_days t_on_days)) := by
  have S := sc_m_Less_on_days
  refine okO' (n := 4) (m := 2) (B := m_Less_on_days_b t_on_days) F S rfl rfl rfl fun cdv A outer s H E hr => ?_
  exact (ss_one (s_retE (o_lc (own := [("one", 2), ("other", 3)]) rfl S.nd (it_zip n_zip (a_cons (d_ofO (o_meth M_on_days hr (by omega) (d_fld f_one (d_var 0)) (a_cons (d_var 1) a_nil))) (a_cons (d_ofO (o_meth M_on_days hr (by omega) (d_fld f_other (d_var 0)) (a_cons (d_var 1) a_nil))) a_nil))) (blkOk_by (own := [("one", 2), ("other", 3)]) (N := sm_Less_on_days_N) (sc := defScope (inClass (topS 93) 2)) (by decide +kernel)) (tgT_in (by decide)) (fun _ _ _ _ _ => (g_tup (is := [2, 3]) rfl (gs_cons (i := 2) S.nd (gs_cons (i := 3) S.nd gs_nil)))) (fun _ _ _ _ _ => ts_nil) (fun _ _ _ _ _ => (d_op opD_xor (d_var 2) (d_op opD_and (d_var 2) (d_var 3)))))))
abbrev sm_Less_tally_N : List Str := ["self"]
def m_Less_tally_b (t_tally : Nat → Option (List D → Option D)) : DS := (sRet (dOp opAdd (dOp opAdd (dC (.int 1)) (dMeth 0 t_tally (dFld at_one (dVar 0)) aNil)) (dMeth 0 t_tally (dFld at_other (dVar 0)) aNil)))
def m_Less_tally (t_tally : Nat → Option (List D → Option D)) : List D → Option D := runD 1 (m_Less_tally_b t_tally)
theorem sc_m_Less_tally : FnScope sm_Less_tally_N ["self"] (defScope (inClass (topS 93) 3)) := ⟨rfl, rfl, rfl, by decide +kernel, rfl, by decide +kernel, by decide +kernel⟩
theorem ok_m_Less_tally {f : Addr} {fd : FuncData} (F : DFun K "tally" "Less.tally" (inClass (topS 93) 3) f fd) {lv : Nat} {t_tally : Nat → Option (List D → Option D)} (hlv : 0 ≤ lv) (M_tally : MCal P w K mg base c "tally" lv 0 t_tally) (f_one : FldOk K c "one" at_one) (f_other : FldOk K c "other" at_other) :
    FnOk P w K mg base CX0 (lv + 1) f fd ["self"] (spD K c 1 (m_Less_tally t_tally)) := by
  have S := sc_m_Less_tally
  refine okD' (n := 1) (m := 1) (B := m_Less_tally_b t_tally) F S rfl rfl rfl fun cdv A outer s H E hr => ?_
  exact (ss_one (s_ret (d_op opD_add (d_op opD_add d_int (d_meth0 M_tally hr (by omega) (d_fld f_one (d_var 0)))) (d_meth0 M_tally hr (by omega) (d_fld f_other (d_var 0))))))
abbrev sm_Less_depth_N : List Str := ["self"]
def m_Less_depth_b (t_depth : Nat → Option (List D → Option D)) : DS := (sRet (dOp opAdd (dC (.int 1)) (dBu bMax (aCons (dMeth 0 t_depth (dFld at_one (dVar 0)) aNil) (aCons (dMeth 0 t_depth (dFld at_other (dVar 0)) aNil) aNil)))))
def m_Less_depth (t_depth : Nat → Option (List D → Option D)) : List D → Option D := runD 1 (m_Less_depth_b t_depth)
theorem sc_m_Less_depth : FnScope sm_Less_depth_N ["self"] (defScope (inClass (topS 93) 4)) := ⟨rfl, rfl, rfl, by decide +kernel, rfl, by decide +kernel, by decide +kernel⟩
theorem ok_m_Less_depth {f : Addr} {fd : FuncData} (F : DFun K "depth" "Less.depth" (inClass (topS 93) 4) f fd) {lv : Nat} {t_depth : Nat → Option (List D → Option D)} (hlv : 0 ≤ lv) (M_depth : MCal P w K mg base c "depth" lv 0 t_depth) (n_max : mg "max" = none) (f_other : FldOk K c "other" at_other) (f_one : FldOk K c "one" at_one) :
    FnOk P w K mg base CX0 (lv + 1) f fd ["self"] (spD K c 1 (m_Less_depth t_depth)) := by
  have S := sc_m_Less_depth
  refine okD' (n := 1) (m := 1) (B := m_Less_depth_b t_depth) F S rfl rfl rfl fun cdv A outer s H E hr => ?_
  exact (ss_one (s_ret (d_op opD_add d_int (d_callB (bu_max rfl) n_max (a_cons (d_meth0 M_depth hr (by omega) (d_fld f_one (d_var 0))) (a_cons (d_meth0 M_depth hr (by omega) (d_fld f_other (d_var 0))) a_nil))))))
abbrev sm_Turned_holds_N : List Str := ["self", "moment"]
def m_Turned_holds_b (t_holds : Nat → Option (List D → Option D)) : DS := (sRet (dNot (dMeth 1 t_holds (dFld at_one (dVar 0)) (aCons (dVar 1) aNil))))
def m_Turned_holds (t_holds : Nat → Option (List D → Option D)) : List D → Option D := runD 2 (m_Turned_holds_b t_holds)
theorem sc_m_Turned_holds : FnScope sm_Turned_holds_N ["self", "moment"] (defScope (inClass (topS 94) 1)) := ⟨rfl, rfl, rfl, by decide +kernel, rfl, by decide +kernel, by decide +kernel⟩
theorem ok_m_Turned_holds {f : Addr} {fd : FuncData} (F : DFun K "holds" "Turned.holds" (inClass (topS 94) 1) f fd) {lv : Nat} {t_holds : Nat → Option (List D → Option D)} (hlv : 0 ≤ lv) (M_holds : MCal P w K mg base c "holds" lv 1 t_holds) (f_one : FldOk K c "one" at_one) :
    FnOk P w K mg base CX0 (lv + 1) f fd ["self", "moment"] (spD K c 2 (m_Turned_holds t_holds)) := by
  have S := sc_m_Turned_holds
  refine okD' (n := 2) (m := 2) (B := m_Turned_holds_b t_holds) F S rfl rfl rfl fun cdv A outer s H E hr => ?_
  exact (ss_one (s_ret (d_not (d_meth M_holds hr (by omega) (d_fld f_one (d_var 0)) (a_cons (d_var 1) a_nil)))))
abbrev sm_Turned_on_days_N : List Str := ["self", "kind", "times"]
def m_Turned_on_days_b (t_on_days : Nat → Option (List D → Option (List D))) : DS := (sRetE (oLc (itE (dO (oMeth 1 t_on_days (dFld at_one (dVar 0)) (aCons (dVar 1) aNil)))) (tgN 2) tTrue (dOp opXor (dCall 0 m_all_times aNil) (dVar 2)) [2]))
def m_Turned_on_days (t_on_days : Nat → Option (List D → Option (List D))) : List D → Option (List D) := runO 3 (m_Turned_on_days_b t_on_days)
theorem sc_m_Turned_on_days : FnScope sm_Turned_on_days_N ["self", "kind"] (defScope (inClass (topS 94) 2)) := ⟨rfl, rfl, rfl, by decide +kernel, rfl, by decide +kernel, by decide +kernel⟩
theorem ok_m_Turned_on_days {f : Addr} {fd : FuncData} (F : DFun K "on_days" "Turned.on_days" (inClass (topS 94) 2) f fd) {lv : Nat} {t_on_days : Nat → Option (List D → Option (List D))} (hlv : 1 ≤ lv) (C_all_times : Cal P w K mg base "all_times" 1 [] (spD K c 0 m_all_times)) (M_on_days : MCalO P w K mg base c "on_days" lv 1 t_on_days) (f_one : FldOk K c "one" at_one) :
    FnOk P w K mg base CX0 (lv + 1) f fd ["self", "kind"] (spO K c 2 (m_Turned_on_days t_on_days)) := by
  have S := sc_m_Turned_on_days
  refine okO' (n := 3) (m := 2) (B := m_Turned_on_days_b t_on_days) F S rfl rfl rfl fun cdv A outer s H E hr => ?_
  exact (ss_one (s_retE (o_lc (own := [("times", 2)]) rfl S.nd (it_e (d_ofO (o_meth M_on_days hr (by omega) (d_fld f_one (d_var 0)) (a_cons (d_var 1) a_nil)))) (blkOk_by (own := [("times", 2)]) (N := sm_Turned_on_days_N) (sc := defScope (inClass (topS 94) 2)) (by decide +kernel)) (tgN_in (by decide)) (fun _ _ _ _ _ => (g_name (i := 2) S.nd)) (fun _ _ _ _ _ => ts_nil) (fun _ _ _ _ _ => (d_op opD_xor (d_call0 C_all_times hr (by omega)) (d_var 2))))))
abbrev sm_Turned_tally_N : List Str := ["self"]
def m_Turned_tally_b (t_tally : Nat → Option (List D → Option D)) : DS := (sRet (dOp opAdd (dC (.int 1)) (dMeth 0 t_tally (dFld at_one (dVar 0)) aNil)))
def m_Turned_tally (t_tally : Nat → Option (List D → Option D)) : List D → Option D := runD 1 (m_Turned_tally_b t_tally)
theorem sc_m_Turned_tally : FnScope sm_Turned_tally_N ["self"] (defScope (inClass (topS 94) 3)) := ⟨rfl, rfl, rfl, by decide +kernel, rfl, by decide +kernel, by decide +kernel⟩
theorem ok_m_Turned_tally {f : Addr} {fd : FuncData} (F : DFun K "tally" "Turned.tally" (inClass (topS 94) 3) f fd) {lv : Nat} {t_tally : Nat → Option (List D → Option D)} (hlv : 0 ≤ lv) (M_tally : MCal P w K mg base c "tally" lv 0 t_tally) (f_one : FldOk K c "one" at_one) :
    FnOk P w K mg base CX0 (lv + 1) f fd ["self"] (spD K c 1 (m_Turned_tally t_tally)) := by
  have S := sc_m_Turned_tally
  refine okD' (n := 1) (m := 1) (B := m_Turned_tally_b t_tally) F S rfl rfl rfl fun cdv A outer s H E hr => ?_
  exact (ss_one (s_ret (d_op opD_add d_int (d_meth0 M_tally hr (by omega) (d_fld f_one (d_var 0))))))
abbrev sm_Turned_depth_N : List Str := ["self"]
def m_Turned_depth_b (t_depth : Nat → Option (List D → Option D)) : DS := (sRet (dOp opAdd (dC (.int 1)) (dMeth 0 t_depth (dFld at_one (dVar 0)) aNil)))
def m_Turned_depth (t_depth : Nat → Option (List D → Option D)) : List D → Option D := runD 1 (m_Turned_depth_b t_depth)
theorem sc_m_Turned_depth : FnScope sm_Turned_depth_N ["self"] (defScope (inClass (topS 94) 4)) := ⟨rfl, rfl, rfl, by decide +kernel, rfl, by decide +kernel, by decide +kernel⟩
theorem ok_m_Turned_depth {f : Addr} {fd : FuncData} (F : DFun K "depth" "Turned.depth" (inClass (topS 94) 4) f fd) {lv : Nat} {t_depth : Nat → Option (List D → Option D)} (hlv : 0 ≤ lv) (M_depth : MCal P w K mg base c "depth" lv 0 t_depth) (f_one : FldOk K c "one" at_one) :
    FnOk P w K mg base CX0 (lv + 1) f fd ["self"] (spD K c 1 (m_Turned_depth t_depth)) := by
  have S := sc_m_Turned_depth
  refine okD' (n := 1) (m := 1) (B := m_Turned_depth_b t_depth) F S rfl rfl rfl fun cdv A outer s H E hr => ?_
  exact (ss_one (s_ret (d_op opD_add d_int (d_meth0 M_depth hr (by omega) (d_fld f_one (d_var 0))))))
abbrev sm_is_in_N : List Str := ["mask", "number"]
def m_is_in_b : DS := (sRet (dOp opEq (dOp opAnd (dOp opShr (dVar 0) (dVar 1)) (dC (.int 1))) (dC (.int 1))))
def m_is_in : List D → Option D := runD 2 (m_is_in_b)
theorem sc_m_is_in : FnScope sm_is_in_N ["mask", "number"] (defScope (topS 97)) := ⟨rfl, rfl, rfl, by decide +kernel, rfl, by decide +kernel, by decide +kernel⟩
theorem ok_m_is_in {f : Addr} {fd : FuncData} (F : DFun K "is_in" "is_in" (topS 97) f fd)  :
    FnOk P w K mg base CX0 1 f fd ["mask", "number"] (spD K c 2 (m_is_in)) := by
  have S := sc_m_is_in
  refine okD' (n := 2) (m := 2) (B := m_is_in_b) F S rfl rfl rfl fun cdv A outer s H E hr => ?_
  exact (ss_one (s_ret (d_cmp (opD_eq hr) (d_op opD_and (d_op opD_shr (d_var 0) (d_var 1)) d_int) d_int)))
abbrev sm_month_open_N : List Str := ["row", "moment", "year", "month", "day"]
def m_month_open_b : DS := (sSeq (sAsg (dCall 1 m_date_of (aCons (dOp opIx (dCall 1 m_parted (aCons (dVar 1) aNil)) (dC (.int 0))) aNil)) (tgT [2, 3, 4])) (sSeq (sIf (asB (dCall 2 m_is_in (aCons (dMeth 0 t_months (dVar 0) aNil) (aCons (dVar 3) aNil)))) (sRet (dVar 1)) sNil) (sSeq (sWhile 100000 (dNotT (asB (dCall 2 m_is_in (aCons (dMeth 0 t_months (dVar 0) aNil) (aCons (dVar 3) aNil))))) (sSeq (sAsg (dOp opAdd (dVar 3) (dC (.int 1))) (tgN 3)) (sIf (asB (dOp opGt (dVar 3) (dC (.int 12)))) (sSeq (sAsg (dOp opAdd (dVar 2) (dC (.int 1))) (tgN 2)) (sAsg (dC (.int 1)) (tgN 3))) sNil))) (sRet (dOp opMul (dC (.int 1440)) (dCall 3 m_day_of (aCons (dVar 2) (aCons (dVar 3) (aCons (dC (.int 1)) aNil)))))))))
def m_month_open : List D → Option D := runD 5 (m_month_open_b)
theorem sc_m_month_open : FnScope sm_month_open_N ["row", "moment"] (defScope (topS 98)) := ⟨rfl, rfl, rfl, by decide +kernel, rfl, by decide +kernel, by decide +kernel⟩
theorem ok_m_month_open {f : Addr} {fd : FuncData} (F : DFun K "month_open" "month_open" (topS 98) f fd) (C_date_of : Cal P w K mg base "date_of" 3 ["day"] (spD K c 1 m_date_of)) (C_parted : Cal P w K mg base "parted" 1 ["moment"] (spD K c 1 m_parted)) (C_is_in : Cal P w K mg base "is_in" 1 ["mask", "number"] (spD K c 2 m_is_in)) (C_day_of : Cal P w K mg base "day_of" 3 ["year", "month", "day"] (spD K c 3 m_day_of)) (M_months : MCal P w K mg base c "months" 1 0 t_months) :
    FnOk P w K mg base CX0 4 f fd ["row", "moment"] (spD K c 2 (m_month_open)) := by
  have S := sc_m_month_open
  refine okD' (n := 5) (m := 2) (B := m_month_open_b) F S rfl rfl rfl fun cdv A outer s H E hr => ?_
  exact (ss_cons (s_asg (d_call C_date_of hr (by decide) (a_cons (d_ix (d_call C_parted hr (by decide) (a_cons (d_var 1) a_nil)) d_int) a_nil)) (g_tup (is := [2, 3, 4]) rfl (gs_cons (i := 2) S.nd (gs_cons (i := 3) S.nd (gs_cons (i := 4) S.nd gs_nil))))) (ss_cons (s_if (d_test (d_call C_is_in hr (by decide) (a_cons (d_meth0 M_months hr (by decide) (d_var 0)) (a_cons (d_var 3) a_nil)))) (ss_one (s_ret (d_var 1))) ss_nil) (ss_cons (s_while 100000 PassesOwn.never (d_tnot (d_test (d_call C_is_in hr (by decide) (a_cons (d_meth0 M_months hr (by decide) (d_var 0)) (a_cons (d_var 3) a_nil))))) (ss_cons (s_set (i := 3) S.nd (d_op opD_add (d_var 3) d_int)) (ss_one (s_if (d_tcmp opD_gt (d_var 3) d_int) (ss_cons (s_set (i := 2) S.nd (d_op opD_add (d_var 2) d_int)) (ss_one (s_set (i := 3) S.nd d_int))) ss_nil)))) (ss_one (s_ret (d_op opD_mul d_int (d_call C_day_of hr (by decide) (a_cons (d_var 2) (a_cons (d_var 3) (a_cons d_int a_nil))))))))))
abbrev sm_is_shut_day_N : List Str := ["row", "number", "year", "month", "day"]
def m_is_shut_day_b : DS := (sSeq (sAsg (dCall 1 m_date_of (aCons (dVar 1) aNil)) (tgT [2, 3, 4])) (sRet (dAnd (dCall 2 m_is_in (aCons (dMeth 0 t_months (dVar 0) aNil) (aCons (dVar 3) aNil))) (dNot (dCall 2 m_is_in (aCons (dMeth 1 t_days_in (dVar 0) (aCons (dCall 2 m_kind_of (aCons (dVar 2) (aCons (dVar 3) aNil))) aNil)) (aCons (dVar 4) aNil)))))))
def m_is_shut_day : List D → Option D := runD 5 (m_is_shut_day_b)
theorem sc_m_is_shut_day : FnScope sm_is_shut_day_N ["row", "number"] (defScope (topS 99)) := ⟨rfl, rfl, rfl, by decide +kernel, rfl, by decide +kernel, by decide +kernel⟩
theorem ok_m_is_shut_day {f : Addr} {fd : FuncData} (F : DFun K "is_shut_day" "is_shut_day" (topS 99) f fd) (C_date_of : Cal P w K mg base "date_of" 3 ["day"] (spD K c 1 m_date_of)) (C_is_in : Cal P w K mg base "is_in" 1 ["mask", "number"] (spD K c 2 m_is_in)) (C_kind_of : Cal P w K mg base "kind_of" 4 ["year", "month"] (spD K c 2 m_kind_of)) (M_months : MCal P w K mg base c "months" 1 0 t_months) (M_days_in : MCal P w K mg base c "days_in" 5 1 t_days_in) :
    FnOk P w K mg base CX0 6 f fd ["row", "number"] (spD K c 2 (m_is_shut_day)) := by
  have S := sc_m_is_shut_day
  refine okD' (n := 5) (m := 2) (B := m_is_shut_day_b) F S rfl rfl rfl fun cdv A outer s H E hr => ?_
  exact (ss_cons (s_asg (d_call C_date_of hr (by decide) (a_cons (d_var 1) a_nil)) (g_tup (is := [2, 3, 4]) rfl (gs_cons (i := 2) S.nd (gs_cons (i := 3) S.nd (gs_cons (i := 4) S.nd gs_nil))))) (ss_one (s_ret (d_and (d_call C_is_in hr (by decide) (a_cons (d_meth0 M_months hr (by decide) (d_var 0)) (a_cons (d_var 3) a_nil))) (d_one (d_not (d_call C_is_in hr (by decide) (a_cons (d_meth M_days_in hr (by decide) (d_var 0) (a_cons (d_call C_kind_of hr (by decide) (a_cons (d_var 2) (a_cons (d_var 3) a_nil))) a_nil)) (a_cons (d_var 4) a_nil)))))))))
abbrev sm_day_open_N : List Str := ["row", "moment", "number", "last"]
def m_day_open_b : DS := (sSeq (sAsg (dOp opIx (dCall 1 m_parted (aCons (dVar 1) aNil)) (dC (.int 0))) (tgN 2)) (sSeq (sIf (dNotT (asB (dCall 2 m_is_shut_day (aCons (dVar 0) (aCons (dVar 2) aNil))))) (sRet (dVar 1)) sNil) (sSeq (sAsg (dOp opAdd (dVar 2) (dC k_MOST_DAYS)) (tgN 3)) (sSeq (sWhile 100000 (dAndT (asB (dOp opLt (dVar 2) (dVar 3))) (asB (dCall 2 m_is_shut_day (aCons (dVar 0) (aCons (dVar 2) aNil))))) (sAsg (dOp opAdd (dVar 2) (dC (.int 1))) (tgN 2))) (sRet (dOp opMul (dC (.int 1440)) (dVar 2)))))))
def m_day_open : List D → Option D := runD 4 (m_day_open_b)
theorem sc_m_day_open : FnScope sm_day_open_N ["row", "moment"] (defScope (topS 100)) := ⟨rfl, rfl, rfl, by decide +kernel, rfl, by decide +kernel, by decide +kernel⟩
theorem ok_m_day_open {f : Addr} {fd : FuncData} (F : DFun K "day_open" "day_open" (topS 100) f fd) (C_parted : Cal P w K mg base "parted" 1 ["moment"] (spD K c 1 m_parted)) (C_is_shut_day : Cal P w K mg base "is_shut_day" 6 ["row", "number"] (spD K c 2 m_is_shut_day)) (g_MOST_DAYS : GlobD K c mg "MOST_DAYS" k_MOST_DAYS) :
    FnOk P w K mg base CX0 7 f fd ["row", "moment"] (spD K c 2 (m_day_open)) := by
  have S := sc_m_day_open
  refine okD' (n := 4) (m := 2) (B := m_day_open_b) F S rfl rfl rfl fun cdv A outer s H E hr => ?_
  exact (ss_cons (s_set (i := 2) S.nd (d_ix (d_call C_parted hr (by decide) (a_cons (d_var 1) a_nil)) d_int)) (ss_cons (s_if (d_tnot (d_test (d_call C_is_shut_day hr (by decide) (a_cons (d_var 0) (a_cons (d_var 2) a_nil))))) (ss_one (s_ret (d_var 1))) ss_nil) (ss_cons (s_set (i := 3) S.nd (d_op opD_add (d_var 2) (d_glob g_MOST_DAYS))) (ss_cons (s_while 100000 PassesOwn.never (PW.pt (d_wand (d_tcmp opD_lt (d_var 2) (d_var 3)) (d_wand1 (d_test (d_call C_is_shut_day hr (by decide) (a_cons (d_var 0) (a_cons (d_var 2) a_nil))))))) (ss_one (s_set (i := 2) S.nd (d_op opD_add (d_var 2) d_int)))) (ss_one (s_ret (d_op opD_mul d_int (d_var 2))))))))
abbrev sm_hour_open_N : List Str := ["row", "moment", "day", "hour", "minute", "on"]
def m_hour_open_b : DS := (sSeq (sAsg (dCall 1 m_parted (aCons (dVar 1) aNil)) (tgT [2, 3, 4])) (sSeq (sIf (asB (dCall 2 m_is_in (aCons (dMeth 0 t_hours (dVar 0) aNil) (aCons (dVar 3) aNil)))) (sRet (dVar 1)) sNil) (sSeq (sAsg (dC (.int 1)) (tgN 5)) (sSeq (sWhile 100000 (dNotT (asB (dCall 2 m_is_in (aCons (dMeth 0 t_hours (dVar 0) aNil) (aCons (dOp opMod (dOp opAdd (dVar 3) (dVar 5)) (dC (.int 24))) aNil))))) (sAsg (dOp opAdd (dVar 5) (dC (.int 1))) (tgN 5))) (sRet (dOp opAdd (dOp opSub (dVar 1) (dVar 4)) (dOp opMul (dC (.int 60)) (dVar 5))))))))
def m_hour_open : List D → Option D := runD 6 (m_hour_open_b)
theorem sc_m_hour_open : FnScope sm_hour_open_N ["row", "moment"] (defScope (topS 101)) := ⟨rfl, rfl, rfl, by decide +kernel, rfl, by decide +kernel, by decide +kernel⟩
theorem ok_m_hour_open {f : Addr} {fd : FuncData} (F : DFun K "hour_open" "hour_open" (topS 101) f fd) (C_parted : Cal P w K mg base "parted" 1 ["moment"] (spD K c 1 m_parted)) (C_is_in : Cal P w K mg base "is_in" 1 ["mask", "number"] (spD K c 2 m_is_in)) (M_hours : MCal P w K mg base c "hours" 1 0 t_hours) :
    FnOk P w K mg base CX0 2 f fd ["row", "moment"] (spD K c 2 (m_hour_open)) := by
  have S := sc_m_hour_open
  refine okD' (n := 6) (m := 2) (B := m_hour_open_b) F S rfl rfl rfl fun cdv A outer s H E hr => ?_
  exact (ss_cons (s_asg (d_call C_parted hr (by decide) (a_cons (d_var 1) a_nil)) (g_tup (is := [2, 3, 4]) rfl (gs_cons (i := 2) S.nd (gs_cons (i := 3) S.nd (gs_cons (i := 4) S.nd gs_nil))))) (ss_cons (s_if (d_test (d_call C_is_in hr (by decide) (a_cons (d_meth0 M_hours hr (by decide) (d_var 0)) (a_cons (d_var 3) a_nil)))) (ss_one (s_ret (d_var 1))) ss_nil) (ss_cons (s_set (i := 5) S.nd d_int) (ss_cons (s_while 100000 PassesOwn.never (d_tnot (d_test (d_call C_is_in hr (by decide) (a_cons (d_meth0 M_hours hr (by decide) (d_var 0)) (a_cons (d_op opD_mod (d_op opD_add (d_var 3) (d_var 5)) d_int) a_nil))))) (ss_one (s_set (i := 5) S.nd (d_op opD_add (d_var 5) d_int)))) (ss_one (s_ret (d_op opD_add (d_op opD_sub (d_var 1) (d_var 4)) (d_op opD_mul d_int (d_var 5)))))))))
abbrev sm_minute_open_N : List Str := ["row", "moment", "minute", "on"]
def m_minute_open_b : DS := (sSeq (sAsg (dOp opIx (dCall 1 m_parted (aCons (dVar 1) aNil)) (dC (.int 2))) (tgN 2)) (sSeq (sAsg (dC (.int 0)) (tgN 3)) (sSeq (sWhile 100000 (dNotT (asB (dCall 2 m_is_in (aCons (dMeth 0 t_minutes (dVar 0) aNil) (aCons (dOp opMod (dOp opAdd (dVar 2) (dVar 3)) (dC (.int 60))) aNil))))) (sAsg (dOp opAdd (dVar 3) (dC (.int 1))) (tgN 3))) (sRet (dOp opAdd (dVar 1) (dVar 3))))))
def m_minute_open : List D → Option D := runD 4 (m_minute_open_b)
theorem sc_m_minute_open : FnScope sm_minute_open_N ["row", "moment"] (defScope (topS 102)) := ⟨rfl, rfl, rfl, by decide +kernel, rfl, by decide +kernel, by decide +kernel⟩
theorem ok_m_minute_open {f : Addr} {fd : FuncData} (F : DFun K "minute_open" "minute_open" (topS 102) f fd) (C_parted : Cal P w K mg base "parted" 1 ["moment"] (spD K c 1 m_parted)) (C_is_in : Cal P w K mg base "is_in" 1 ["mask", "number"] (spD K c 2 m_is_in)) (M_minutes : MCal P w K mg base c "minutes" 1 0 t_minutes) :
    FnOk P w K mg base CX0 2 f fd ["row", "moment"] (spD K c 2 (m_minute_open)) := by
  have S := sc_m_minute_open
  refine okD' (n := 4) (m := 2) (B := m_minute_open_b) F S rfl rfl rfl fun cdv A outer s H E hr => ?_
  exact (ss_cons (s_set (i := 2) S.nd (d_ix (d_call C_parted hr (by decide) (a_cons (d_var 1) a_nil)) d_int)) (ss_cons (s_set (i := 3) S.nd d_int) (ss_cons (s_while 100000 PassesOwn.never (d_tnot (d_test (d_call C_is_in hr (by decide) (a_cons (d_meth0 M_minutes hr (by decide) (d_var 0)) (a_cons (d_op opD_mod (d_op opD_add (d_var 2) (d_var 3)) d_int) a_nil))))) (ss_one (s_set (i := 3) S.nd (d_op opD_add (d_var 3) d_int)))) (ss_one (s_ret (d_op opD_add (d_var 1) (d_var 3)))))))
abbrev sm_open_again_N : List Str := ["row", "moment", "field"]
def m_open_again_b : DS := (sSeq (sIf (asB (dOp opEq (dVar 2) (dC (.str "month")))) (sRet (dCall 2 m_month_open (aCons (dVar 0) (aCons (dVar 1) aNil)))) sNil) (sSeq (sIf (asB (dOp opEq (dVar 2) (dC (.str "day")))) (sRet (dCall 2 m_day_open (aCons (dVar 0) (aCons (dVar 1) aNil)))) sNil) (sSeq (sIf (asB (dOp opEq (dVar 2) (dC (.str "hour")))) (sRet (dCall 2 m_hour_open (aCons (dVar 0) (aCons (dVar 1) aNil)))) sNil) (sRet (dCall 2 m_minute_open (aCons (dVar 0) (aCons (dVar 1) aNil)))))))
def m_open_again : List D → Option D := runD 3 (m_open_again_b)
theorem sc_m_open_again : FnScope sm_open_again_N ["row", "moment", "field"] (defScope (topS 103)) := ⟨rfl, rfl, rfl, by decide +kernel, rfl, by decide +kernel, by decide +kernel⟩
theorem ok_m_open_again {f : Addr} {fd : FuncData} (F : DFun K "open_again" "open_again" (topS 103) f fd) (C_month_open : Cal P w K mg base "month_open" 4 ["row", "moment"] (spD K c 2 m_month_open)) (C_day_open : Cal P w K mg base "day_open" 7 ["row", "moment"] (spD K c 2 m_day_open)) (C_hour_open : Cal P w K mg base "hour_open" 2 ["row", "moment"] (spD K c 2 m_hour_open)) (C_minute_open : Cal P w K mg base "minute_open" 2 ["row", "moment"] (spD K c 2 m_minute_open)) :
    FnOk P w K mg base CX0 8 f fd ["row", "moment", "field"] (spD K c 3 (m_open_again)) := by
  have S := sc_m_open_again
  refine okD' (n := 3) (m := 3) (B := m_open_again_b) F S rfl rfl rfl fun cdv A outer s H E hr => ?_
  exact (ss_cons (s_if (d_tcmp (opD_eq hr) (d_var 2) d_str) (ss_one (s_ret (d_call C_month_open hr (by decide) (a_cons (d_var 0) (a_cons (d_var 1) a_nil))))) ss_nil) (ss_cons (s_if (d_tcmp (opD_eq hr) (d_var 2) d_str) (ss_one (s_ret (d_call C_day_open hr (by decide) (a_cons (d_var 0) (a_cons (d_var 1) a_nil))))) ss_nil) (ss_cons (s_if (d_tcmp (opD_eq hr) (d_var 2) d_str) (ss_one (s_ret (d_call C_hour_open hr (by decide) (a_cons (d_var 0) (a_cons (d_var 1) a_nil))))) ss_nil) (ss_one (s_ret (d_call C_minute_open hr (by decide) (a_cons (d_var 0) (a_cons (d_var 1) a_nil))))))))
abbrev sm_never_N : List Str := ["row", "kind"]
def m_never_b : DS := (sSeq (sFor (itR1 (aCons (dC k_MANY_KINDS) aNil)) (tgN 1) (sIf (asB (dOp opNe (dMeth 1 t_days_in (dVar 0) (aCons (dVar 1) aNil)) (dC (.int 0)))) (sRet (dC (.bl false))) sNil)) (sRet (dC (.bl true))))
def m_never : List D → Option D := runD 2 (m_never_b)
theorem sc_m_never : FnScope sm_never_N ["row"] (defScope (topS 106)) := ⟨rfl, rfl, rfl, by decide +kernel, rfl, by decide +kernel, by decide +kernel⟩
theorem ok_m_never {f : Addr} {fd : FuncData} (F : DFun K "never" "never" (topS 106) f fd) (M_days_in : MCal P w K mg base c "days_in" 5 1 t_days_in) (g_MANY_KINDS : GlobD K c mg "MANY_KINDS" k_MANY_KINDS) (n_range : mg "range" = none) :
    FnOk P w K mg base CX0 6 f fd ["row"] (spD K c 1 (m_never)) := by
  have S := sc_m_never
  refine okD' (n := 2) (m := 1) (B := m_never_b) F S rfl rfl rfl fun cdv A outer s H E hr => ?_
  exact (ss_cons (s_for PassesOwn.never rfl (it_r1 n_range (a_cons (d_glob g_MANY_KINDS) a_nil)) (g_name (i := 1) S.nd) (ss_one (s_if (d_tcmp (opD_ne hr) (d_meth M_days_in hr (by decide) (d_var 0) (a_cons (d_var 1) a_nil)) d_int) (ss_one (s_ret d_bl)) ss_nil))) (ss_one (s_ret d_bl)))
abbrev sm_run_end_N : List Str := ["row", "at", "field", "end", "turn"]
def m_run_end_b : DS := (sSeq (sAsg (dCall 3 m_open_again (aCons (dVar 0) (aCons (dVar 1) (aCons (dVar 2) aNil)))) (tgN 3)) (sSeq (sIf (asB (dOp opEq (dVar 2) (dC (.str "hour")))) (sAsg (dOp opMul (dC (.int 1440)) (dOp opAdd (dOp opIx (dCall 1 m_parted (aCons (dVar 1) aNil)) (dC (.int 0))) (dC (.int 1)))) (tgN 4)) (sIf (asB (dOp opEq (dVar 2) (dC (.str "minute")))) (sAsg (dOp opSub (dOp opAdd (dVar 1) (dC (.int 60))) (dOp opIx (dCall 1 m_parted (aCons (dVar 1) aNil)) (dC (.int 2)))) (tgN 4)) (sRet (dVar 3)))) (sSeq (sIf (dAndT (asB (dOp opLt (dVar 4) (dVar 3))) (asB (dOp opNe (dMeth 1 t_shut_by (dVar 0) (aCons (dVar 4) aNil)) (dVar 2)))) (sRet (dVar 4)) sNil) (sRet (dVar 3)))))
def m_run_end : List D → Option D := runD 5 (m_run_end_b)
theorem sc_m_run_end : FnScope sm_run_end_N ["row", "at", "field"] (defScope (topS 107)) := ⟨rfl, rfl, rfl, by decide +kernel, rfl, by decide +kernel, by decide +kernel⟩
theorem ok_m_run_end {f : Addr} {fd : FuncData} (F : DFun K "run_end" "run_end" (topS 107) f fd) (C_open_again : Cal P w K mg base "open_again" 8 ["row", "moment", "field"] (spD K c 3 m_open_again)) (C_parted : Cal P w K mg base "parted" 1 ["moment"] (spD K c 1 m_parted)) (M_shut_by : MCal P w K mg base c "shut_by" 6 1 t_shut_by) :
    FnOk P w K mg base CX0 9 f fd ["row", "at", "field"] (spD K c 3 (m_run_end)) := by
  have S := sc_m_run_end
  refine okD' (n := 5) (m := 3) (B := m_run_end_b) F S rfl rfl rfl fun cdv A outer s H E hr => ?_
  exact (ss_cons (s_set (i := 3) S.nd (d_call C_open_again hr (by decide) (a_cons (d_var 0) (a_cons (d_var 1) (a_cons (d_var 2) a_nil))))) (ss_cons (s_if (d_tcmp (opD_eq hr) (d_var 2) d_str) (ss_one (s_set (i := 4) S.nd (d_op opD_mul d_int (d_op opD_add (d_ix (d_call C_parted hr (by decide) (a_cons (d_var 1) a_nil)) d_int) d_int)))) (ss_one (s_if (d_tcmp (opD_eq hr) (d_var 2) d_str) (ss_one (s_set (i := 4) S.nd (d_op opD_sub (d_op opD_add (d_var 1) d_int) (d_ix (d_call C_parted hr (by decide) (a_cons (d_var 1) a_nil)) d_int)))) (ss_one (s_ret (d_var 3)))))) (ss_cons (s_if (PW.pt (d_wand (d_tcmp opD_lt (d_var 4) (d_var 3)) (d_wand1 (d_tcmp (opD_ne hr) (d_meth M_shut_by hr (by decide) (d_var 0) (a_cons (d_var 4) a_nil)) (d_var 2))))) (ss_one (s_ret (d_var 4))) ss_nil) (ss_one (s_ret (d_var 3))))))
abbrev sm_next_from_N : List Str := ["row", "moment", "paper", "at", "field", "then"]
def m_next_from_b : DS := (sSeq (sIf (asB (dCall 1 m_never (aCons (dVar 0) aNil))) (sRet (dTup (aCons (dC .non) (aCons (dO (oLst aNil)) aNil)))) sNil) (sSeq (sAsgO (oLst aNil) 2) (sSeq (sAsg (dVar 1) (tgN 3)) (sSeq (sAsg (dMeth 1 t_shut_by (dVar 0) (aCons (dVar 3) aNil)) (tgN 4)) (sSeq (sWhile 100000 (asB (dOp opNotN (dVar 4) (dC .non))) (sSeq (sAsg (dCall 3 m_run_end (aCons (dVar 0) (aCons (dVar 3) (aCons (dVar 4) aNil)))) (tgN 5)) (sSeq (sApp 2 (dTup (aCons (dVar 3) (aCons (dOp opSub (dVar 5) (dC (.int 1))) (aCons (dVar 4) aNil))))) (sSeq (sAsg (dVar 5) (tgN 3)) (sAsg (dMeth 1 t_shut_by (dVar 0) (aCons (dVar 3) aNil)) (tgN 4)))))) (sFrz 2 (sRet (dTup (aCons (dVar 3) (aCons (dVar 2) aNil))))))))))
def m_next_from : List D → Option D := runD 6 (m_next_from_b)
theorem sc_m_next_from : FnScope sm_next_from_N ["row", "moment"] (defScope (topS 108)) := ⟨rfl, rfl, rfl, by decide +kernel, rfl, by decide +kernel, by decide +kernel⟩
theorem ok_m_next_from {f : Addr} {fd : FuncData} (F : DFun K "next_from" "next_from" (topS 108) f fd) (C_never : Cal P w K mg base "never" 6 ["row"] (spD K c 1 m_never)) (C_run_end : Cal P w K mg base "run_end" 9 ["row", "at", "field"] (spD K c 3 m_run_end)) (M_shut_by : MCal P w K mg base c "shut_by" 6 1 t_shut_by) :
    FnOk P w K mg base CX0 10 f fd ["row", "moment"] (spD K c 2 (m_next_from)) := by
  have S := sc_m_next_from
  refine okD' (n := 6) (m := 2) (B := m_next_from_b) F S rfl rfl rfl fun cdv A outer s H E hr => ?_
  exact (ss_cons (s_if (d_test (d_call C_never hr (by decide) (a_cons (d_var 0) a_nil))) (ss_one (s_ret (d_tup (a_cons d_non (a_cons (d_ofO (o_lst a_nil)) a_nil))))) ss_nil) (ss_cons (s_setO (i := 2) S.nd (o_lst a_nil)) (ss_cons (s_set (i := 3) S.nd (d_var 1)) (ss_cons (s_set (i := 4) S.nd (d_meth M_shut_by hr (by decide) (d_var 0) (a_cons (d_var 3) a_nil))) (ss_cons (s_while 100000 PassesOwn.never (d_tcmp opD_notN (d_var 4) d_non) (ss_cons (s_set (i := 5) S.nd (d_call C_run_end hr (by decide) (a_cons (d_var 0) (a_cons (d_var 3) (a_cons (d_var 4) a_nil))))) (ss_cons (s_app 2 (d_tup (a_cons (d_var 3) (a_cons (d_op opD_sub (d_var 5) d_int) (a_cons (d_var 4) a_nil))))) (ss_cons (s_set (i := 3) S.nd (d_var 5)) (ss_one (s_set (i := 4) S.nd (d_meth M_shut_by hr (by decide) (d_var 0) (a_cons (d_var 3) a_nil)))))))) (ss_frz 2 (ss_one (s_ret (d_tup (a_cons (d_var 3) (a_cons (d_var 2) a_nil)))))))))))
abbrev sm__law_cell_at_N : List Str := ["_law_script", "_law_k"]
def m__law_cell_at_b : DS := (sSeq (sIf (asB (dOp opLt (dVar 1) (dBu bLen (aCons (dVar 0) aNil)))) (sRet (dOp opIx (dVar 0) (dVar 1))) sNil) (sRet (dOp opMod (dOp opMul (dOp opPow (dOp opAdd (dVar 1) (dC (.int 2))) (dC (.int 5))) (dC (.int 1299709))) (dC (.int 15485863)))))
def m__law_cell_at : List D → Option D := runD 2 (m__law_cell_at_b)
theorem sc_m__law_cell_at : FnScope sm__law_cell_at_N ["_law_script", "_law_k"] (defScope (topS 110)) := ⟨rfl, rfl, rfl, by decide +kernel, rfl, by decide +kernel, by decide +kernel⟩
theorem ok_m__law_cell_at {f : Addr} {fd : FuncData} (F : DFun K "_law_cell_at" "_law_cell_at" (topS 110) f fd) (n_len : mg "len" = none) :
    FnOk P w K mg base CX0 1 f fd ["_law_script", "_law_k"] (spD K c 2 (m__law_cell_at)) := by
  have S := sc_m__law_cell_at
  refine okD' (n := 2) (m := 2) (B := m__law_cell_at_b) F S rfl rfl rfl fun cdv A outer s H E hr => ?_
  exact (ss_cons (s_if (d_tcmp opD_lt (d_var 1) (d_callB bu_len n_len (a_cons (d_var 0) a_nil))) (ss_one (s_ret (d_ix (d_var 0) (d_var 1)))) ss_nil) (ss_one (s_ret (d_op opD_mod (d_op opD_mul (d_op opD_pow (d_op opD_add (d_var 1) d_int) d_int) d_int) d_int))))
abbrev sm__law_stir_N : List Str := ["_law_number", "_law_first", "_law_second"]
def m__law_stir_b : DS := (sSeq (sAsg (dOp opMod (dOp opMul (dOp opAdd (dOp opMod (dVar 0) (dOp opPow (dC (.int 10)) (dC (.int 18)))) (dC (.int 1))) (dC (.int 452930459))) (dC (.int 4294967291))) (tgN 1)) (sSeq (sAsg (dOp opMod (dOp opMul (dVar 1) (dOp opAdd (dOp opMod (dVar 1) (dC (.int 65521))) (dC (.int 15485863)))) (dC (.int 999999937))) (tgN 2)) (sRet (dOp opMod (dOp opMul (dVar 2) (dOp opAdd (dOp opMod (dVar 2) (dC (.int 32749))) (dC (.int 3)))) (dC (.int 2147483629))))))
def m__law_stir : List D → Option D := runD 3 (m__law_stir_b)
theorem sc_m__law_stir : FnScope sm__law_stir_N ["_law_number"] (defScope (topS 111)) := ⟨rfl, rfl, rfl, by decide +kernel, rfl, by decide +kernel, by decide +kernel⟩
theorem ok_m__law_stir {f : Addr} {fd : FuncData} (F : DFun K "_law_stir" "_law_stir" (topS 111) f fd)  :
    FnOk P w K mg base CX0 1 f fd ["_law_number"] (spD K c 1 (m__law_stir)) := by
  have S := sc_m__law_stir
  refine okD' (n := 3) (m := 1) (B := m__law_stir_b) F S rfl rfl rfl fun cdv A outer s H E hr => ?_
  exact (ss_cons (s_set (i := 1) S.nd (d_op opD_mod (d_op opD_mul (d_op opD_add (d_op opD_mod (d_var 0) (d_op opD_pow d_int d_int)) d_int) d_int) d_int)) (ss_cons (s_set (i := 2) S.nd (d_op opD_mod (d_op opD_mul (d_var 1) (d_op opD_add (d_op opD_mod (d_var 1) d_int) d_int)) d_int)) (ss_one (s_ret (d_op opD_mod (d_op opD_mul (d_var 2) (d_op opD_add (d_op opD_mod (d_var 2) d_int) d_int)) d_int)))))
abbrev sm__law_digits_N : List Str := ["_law_cell", "_law_sizes", "_law_mixed", "_law_found", "_law_size"]
def m__law_digits_b : DS := (sSeq (sAsgO (oLst aNil) 3) (sSeq (sAsg (dOr (dVar 2) (dOp opLt (dBu bAbs (aCons (dVar 0) aNil)) (dOp opPow (dC (.int 10)) (dC (.int 18))))) (tgN 2)) (sSeq (sFor (itE (dVar 1)) (tgN 4) (sIf (asB (dVar 2)) (sSeq (sAsg (dCall 1 m__law_stir (aCons (dVar 0) aNil)) (tgN 0)) (sApp 3 (dOp opMod (dOp opFdiv (dVar 0) (dC (.int 8))) (dVar 4)))) (sSeq (sApp 3 (dOp opMod (dVar 0) (dVar 4))) (sAsg (dOp opFdiv (dVar 0) (dVar 4)) (tgN 0))))) (sRetO 3))))
def m__law_digits : List D → Option D := runD 5 (m__law_digits_b)
theorem sc_m__law_digits : FnScope sm__law_digits_N ["_law_cell", "_law_sizes", "_law_mixed"] (defScope (topS 112)) := ⟨rfl, rfl, rfl, by decide +kernel, rfl, by decide +kernel, by decide +kernel⟩
theorem ok_m__law_digits {f : Addr} {fd : FuncData} (F : DFun K "_law_digits" "_law_digits" (topS 112) f fd) (C__law_stir : Cal P w K mg base "_law_stir" 1 ["_law_number"] (spD K c 1 m__law_stir)) (n_abs : mg "abs" = none) :
    FnOk P w K mg base CX0 2 f fd ["_law_cell", "_law_sizes", "_law_mixed"] (spD K c 3 (m__law_digits)) := by
  have S := sc_m__law_digits
  refine okD' (n := 5) (m := 3) (B := m__law_digits_b) F S rfl rfl rfl fun cdv A outer s H E hr => ?_
  exact (ss_cons (s_setO (i := 3) S.nd (o_lst a_nil)) (ss_cons (s_set (i := 2) S.nd (d_or (d_var 2) (d_one (d_cmp opD_lt (d_callB bu_abs n_abs (a_cons (d_var 0) a_nil)) (d_op opD_pow d_int d_int))))) (ss_cons (s_for PassesOwn.never rfl (it_e (d_var 1)) (g_name (i := 4) S.nd) (ss_one (s_if (d_test (d_var 2)) (ss_cons (s_set (i := 0) S.nd (d_call C__law_stir hr (by decide) (a_cons (d_var 0) a_nil))) (ss_one (s_app 3 (d_op opD_mod (d_op opD_fdiv (d_var 0) d_int) (d_var 4))))) (ss_cons (s_app 3 (d_op opD_mod (d_var 0) (d_var 4))) (ss_one (s_set (i := 0) S.nd (d_op opD_fdiv (d_var 0) (d_var 4)))))))) (ss_one (s_retO 3)))))
abbrev sm__law_whole_N : List Str := ["_law_found"]
def m__law_whole_b : DS := (sRet (dAnd (dIsi (isiB "int") (dVar 0)) (dNot (dIsi (isiB "bool") (dVar 0)))))
def m__law_whole : List D → Option D := runD 1 (m__law_whole_b)
theorem sc_m__law_whole : FnScope sm__law_whole_N ["_law_found"] (defScope (topS 113)) := ⟨rfl, rfl, rfl, by decide +kernel, rfl, by decide +kernel, by decide +kernel⟩
theorem ok_m__law_whole {f : Addr} {fd : FuncData} (F : DFun K "_law_whole" "_law_whole" (topS 113) f fd) (n_isinstance : mg "isinstance" = none) (n_int : mg "int" = none) (n_bool : mg "bool" = none) :
    FnOk P w K mg base CX0 1 f fd ["_law_found"] (spD K c 1 (m__law_whole)) := by
  have S := sc_m__law_whole
  refine okD' (n := 1) (m := 1) (B := m__law_whole_b) F S rfl rfl rfl fun cdv A outer s H E hr => ?_
  exact (ss_one (s_ret (d_and (d_isiB (n := "int") n_isinstance n_int (by decide +kernel) (d_var 0)) (d_one (d_not (d_isiB (n := "bool") n_isinstance n_bool (by decide +kernel) (d_var 0)))))))
abbrev sm__law_field_N : List Str := ["_law_parts", "_law_low", "_law_high", "_law_one", "_law_later", "_law_by", "_law_some"]
def m__law_field_b : DS := (sSeq (sAsg (dOp opAdd (dVar 1) (dOp opMod (dOp opIx (dVar 0) (dC (.int 1))) (dOp opAdd (dOp opSub (dVar 2) (dVar 1)) (dC (.int 1))))) (tgN 3)) (sSeq (sAsg (dOp opAdd (dVar 3) (dOp opMod (dOp opIx (dVar 0) (dC (.int 2))) (dOp opAdd (dOp opSub (dVar 2) (dVar 3)) (dC (.int 1))))) (tgN 4)) (sSeq (sAsg (dBu bStr (aCons (dOp opAdd (dC (.int 1)) (dOp opIx (dVar 0) (dC (.int 3)))) aNil)) (tgN 5)) (sSeq (sAsgO (oLst (aCons (dC (.str "*")) (aCons (dBu bStr (aCons (dVar 3) aNil)) (aCons (dOp opAdd (dOp opAdd (dBu bStr (aCons (dVar 3) aNil)) (dC (.str "-"))) (dBu bStr (aCons (dVar 4) aNil))) (aCons (dOp opAdd (dC (.str "*/")) (dVar 5)) (aCons (dOp opAdd (dOp opAdd (dBu bStr (aCons (dVar 3) aNil)) (dC (.str ","))) (dBu bStr (aCons (dVar 4) aNil))) (aCons (dBu bStr (aCons (dVar 4) aNil)) aNil))))))) 6) (sSeq (sApp 6 (dOp opAdd (dOp opAdd (dOp opAdd (dOp opAdd (dBu bStr (aCons (dVar 3) aNil)) (dC (.str "-"))) (dBu bStr (aCons (dVar 4) aNil))) (dC (.str "/"))) (dVar 5))) (sRet (dOwnIx 6 (dOp opIx (dVar 0) (dC (.int 0))))))))))
def m__law_field : List D → Option D := runD 7 (m__law_field_b)
theorem sc_m__law_field : FnScope sm__law_field_N ["_law_parts", "_law_low", "_law_high"] (defScope (topS 114)) := ⟨rfl, rfl, rfl, by decide +kernel, rfl, by decide +kernel, by decide +kernel⟩
theorem ok_m__law_field {f : Addr} {fd : FuncData} (F : DFun K "_law_field" "_law_field" (topS 114) f fd) (n_str : mg "str" = none) :
    FnOk P w K mg base CX0 1 f fd ["_law_parts", "_law_low", "_law_high"] (spD K c 3 (m__law_field)) := by
  have S := sc_m__law_field
  refine okD' (n := 7) (m := 3) (B := m__law_field_b) F S rfl rfl rfl fun cdv A outer s H E hr => ?_
  exact (ss_cons (s_set (i := 3) S.nd (d_op opD_add (d_var 1) (d_op opD_mod (d_ix (d_var 0) d_int) (d_op opD_add (d_op opD_sub (d_var 2) (d_var 1)) d_int)))) (ss_cons (s_set (i := 4) S.nd (d_op opD_add (d_var 3) (d_op opD_mod (d_ix (d_var 0) d_int) (d_op opD_add (d_op opD_sub (d_var 2) (d_var 3)) d_int)))) (ss_cons (s_set (i := 5) S.nd (d_callTy bu_str n_str (a_cons (d_op opD_add d_int (d_ix (d_var 0) d_int)) a_nil))) (ss_cons (s_setO (i := 6) S.nd (o_lst (a_cons d_str (a_cons (d_callTy bu_str n_str (a_cons (d_var 3) a_nil)) (a_cons (d_op opD_add (d_op opD_add (d_callTy bu_str n_str (a_cons (d_var 3) a_nil)) d_str) (d_callTy bu_str n_str (a_cons (d_var 4) a_nil))) (a_cons (d_op opD_add d_str (d_var 5)) (a_cons (d_op opD_add (d_op opD_add (d_callTy bu_str n_str (a_cons (d_var 3) a_nil)) d_str) (d_callTy bu_str n_str (a_cons (d_var 4) a_nil))) (a_cons (d_callTy bu_str n_str (a_cons (d_var 4) a_nil)) a_nil)))))))) (ss_cons (s_app 6 (d_op opD_add (d_op opD_add (d_op opD_add (d_op opD_add (d_callTy bu_str n_str (a_cons (d_var 3) a_nil)) d_str) (d_callTy bu_str n_str (a_cons (d_var 4) a_nil))) d_str) (d_var 5))) (ss_one (s_ret (d_ownIx 6 (d_ix (d_var 0) d_int)))))))))
abbrev sm__law_row_N : List Str := ["_law_cell", "_law_mixed", "_law_parts", "_law_one", "_law_day", "_law_days", "_law_weekdays", "_law_words"]
def m__law_row_b : DS := (sSeq (sAsg (dCall 3 m__law_digits (aCons (dVar 0) (aCons (dO (oLst (aCons (dC (.int 8)) (aCons (dC (.int 2)) (aCons (dC (.int 12)) (aCons (dC (.int 31)) (aCons (dC (.int 10)) (aCons (dC (.int 8)) (aCons (dC (.int 5)) (aCons (dC (.int 7)) (aCons (dC (.int 12)) (aCons (dC (.int 12)) (aCons (dC (.int 9)) (aCons (dC (.int 7)) (aCons (dC (.int 24)) (aCons (dC (.int 24)) (aCons (dC (.int 9)) (aCons (dC (.int 7)) (aCons (dC (.int 60)) (aCons (dC (.int 60)) (aCons (dC (.int 9)) aNil))))))))))))))))))))) (aCons (dVar 1) aNil)))) (tgN 2)) (sSeq (sAsg (dBu bStr (aCons (dOp opAdd (dC (.int 1)) (dOp opIx (dVar 2) (dC (.int 3)))) aNil)) (tgN 3)) (sSeq (sAsg (dBu bStr (aCons (dOp opIx (dVar 2) (dC (.int 5))) aNil)) (tgN 4)) (sSeq (sAsgO (oLst (aCons (dC (.str "*")) (aCons (dVar 3) (aCons (dC (.str "*")) (aCons (dC (.str "L")) (aCons (dOp opAdd (dC (.str "L-")) (dVar 3)) (aCons (dOp opAdd (dVar 3) (dC (.str "W"))) (aCons (dC (.str "LW")) (aCons (dC (.str "29")) (aCons (dC (.str "*")) (aCons (dC (.str "31")) (aCons (dOp opAdd (dC (.str "1-7,")) (dVar 3)) (aCons (dC (.str "*/2")) aNil))))))))))))) 5) (sSeq (sIf (asB (dOp opEq (dOp opIx (dVar 2) (dC (.int 3))) (dC (.int 30)))) (sSetI 5 (dC (.int 4)) (dC (.str "L-30"))) sNil) (sSeq (sAsg (dO (oLst (aCons (dC (.str "*")) (aCons (dC (.str "*")) (aCons (dC (.str "1-5")) (aCons (dVar 4) (aCons (dOp opAdd (dOp opAdd (dVar 4) (dC (.str "#"))) (dBu bStr (aCons (dOp opAdd (dC (.int 1)) (dOp opIx (dVar 2) (dC (.int 6)))) aNil))) (aCons (dOp opAdd (dVar 4) (dC (.str "L"))) (aCons (dOp opAdd (dVar 4) (dC (.str "#5"))) (aCons (dC (.str "5-7")) (aCons (dC (.str "*")) (aCons (dC (.str "*")) aNil)))))))))))) (tgN 6)) (sSeq (sAsgO (oLst (aCons (dCall 3 m__law_field (aCons (dSl (dVar 2) (oSome (dC (.int 15))) oNone) (aCons (dC (.int 0)) (aCons (dC (.int 59)) aNil)))) (aCons (dCall 3 m__law_field (aCons (dSl (dVar 2) (oSome (dC (.int 11))) (oSome (dC (.int 15)))) (aCons (dC (.int 0)) (aCons (dC (.int 23)) aNil)))) (aCons (dOwnIx 5 (dOp opIx (dVar 2) (dC (.int 2)))) aNil)))) 7) (sFrz 7 (sSeq (sAsgO (oOp bCat (dVar 7) (dO (oLst (aCons (dCall 3 m__law_field (aCons (dSl (dVar 2) (oSome (dC (.int 7))) (oSome (dC (.int 11)))) (aCons (dC (.int 1)) (aCons (dC (.int 12)) aNil)))) (aCons (dOp opIx (dVar 6) (dOp opIx (dVar 2) (dC (.int 4)))) aNil))))) 7) (sSeq (sIf (asB (dOp opEq (dOp opIx (dVar 2) (dC (.int 0))) (dC (.int 3)))) (sSetTail 7 2 (dO (oLst (aCons (dOp opIx (dO (oLst (aCons (dC (.str "29")) (aCons (dC (.str "*")) aNil)))) (dOp opIx (dVar 2) (dC (.int 1)))) (aCons (dC (.str "2")) (aCons (dOp opIx (dO (oLst (aCons (dC (.str "*")) (aCons (dOp opAdd (dVar 4) (dC (.str "#5"))) aNil)))) (dOp opIx (dVar 2) (dC (.int 1)))) aNil)))))) sNil) (sFrz 7 (sRet (dCall 1 m_read_row (aCons (dOp bJoin (dC (.str " ")) (dVar 7)) aNil))))))))))))))
def m__law_row : List D → Option D := runD 8 (m__law_row_b)
theorem sc_m__law_row : FnScope sm__law_row_N ["_law_cell", "_law_mixed"] (defScope (topS 115)) := ⟨rfl, rfl, rfl, by decide +kernel, rfl, by decide +kernel, by decide +kernel⟩
theorem ok_m__law_row {f : Addr} {fd : FuncData} (F : DFun K "_law_row" "_law_row" (topS 115) f fd) (C__law_digits : Cal P w K mg base "_law_digits" 2 ["_law_cell", "_law_sizes", "_law_mixed"] (spD K c 3 m__law_digits)) (C__law_field : Cal P w K mg base "_law_field" 1 ["_law_parts", "_law_low", "_law_high"] (spD K c 3 m__law_field)) (C_read_row : Cal P w K mg base "read_row" 10 ["text"] (spD K c 1 m_read_row)) (n_str : mg "str" = none) :
    FnOk P w K mg base CX0 11 f fd ["_law_cell", "_law_mixed"] (spD K c 2 (m__law_row)) := by
  have S := sc_m__law_row
  refine okD' (n := 8) (m := 2) (B := m__law_row_b) F S rfl rfl rfl fun cdv A outer s H E hr => ?_
  exact (ss_cons (s_set (i := 2) S.nd (d_call C__law_digits hr (by decide) (a_cons (d_var 0) (a_cons (d_ofO (o_lst (a_cons d_int (a_cons d_int (a_cons d_int (a_cons d_int (a_cons d_int (a_cons d_int (a_cons d_int (a_cons d_int (a_cons d_int (a_cons d_int (a_cons d_int (a_cons d_int (a_cons d_int (a_cons d_int (a_cons d_int (a_cons d_int (a_cons d_int (a_cons d_int (a_cons d_int a_nil))))))))))))))))))))) (a_cons (d_var 1) a_nil))))) (ss_cons (s_set (i := 3) S.nd (d_callTy bu_str n_str (a_cons (d_op opD_add d_int (d_ix (d_var 2) d_int)) a_nil))) (ss_cons (s_set (i := 4) S.nd (d_callTy bu_str n_str (a_cons (d_ix (d_var 2) d_int) a_nil))) (ss_cons (s_setO (i := 5) S.nd (o_lst (a_cons d_str (a_cons (d_var 3) (a_cons d_str (a_cons d_str (a_cons (d_op opD_add d_str (d_var 3)) (a_cons (d_op opD_add (d_var 3) d_str) (a_cons d_str (a_cons d_str (a_cons d_str (a_cons d_str (a_cons (d_op opD_add d_str (d_var 3)) (a_cons d_str a_nil)))))))))))))) (ss_cons (s_if (d_tcmp (opD_eq hr) (d_ix (d_var 2) d_int) d_int) (ss_one (s_setI 5 d_str d_int)) ss_nil) (ss_cons (s_set (i := 6) S.nd (d_ofO (o_lst (a_cons d_str (a_cons d_str (a_cons d_str (a_cons (d_var 4) (a_cons (d_op opD_add (d_op opD_add (d_var 4) d_str) (d_callTy bu_str n_str (a_cons (d_op opD_add d_int (d_ix (d_var 2) d_int)) a_nil))) (a_cons (d_op opD_add (d_var 4) d_str) (a_cons (d_op opD_add (d_var 4) d_str) (a_cons d_str (a_cons d_str (a_cons d_str a_nil))))))))))))) (ss_cons (s_setO (i := 7) S.nd (o_lst (a_cons (d_call C__law_field hr (by decide) (a_cons (d_slice (d_var 2) (o_some d_int) o_none) (a_cons d_int (a_cons d_int a_nil)))) (a_cons (d_call C__law_field hr (by decide) (a_cons (d_slice (d_var 2) (o_some d_int) (o_some d_int)) (a_cons d_int (a_cons d_int a_nil)))) (a_cons (d_ownIx 5 (d_ix (d_var 2) d_int)) a_nil))))) (ss_frz 7 (ss_cons (s_setO (i := 7) S.nd (o_cat (d_var 7) (d_ofO (o_lst (a_cons (d_call C__law_field hr (by decide) (a_cons (d_slice (d_var 2) (o_some d_int) (o_some d_int)) (a_cons d_int (a_cons d_int a_nil)))) (a_cons (d_ix (d_var 6) (d_ix (d_var 2) d_int)) a_nil)))))) (ss_cons (s_if (d_tcmp (opD_eq hr) (d_ix (d_var 2) d_int) d_int) (ss_one (s_setTail 7 2 (d_ofO (o_lst (a_cons (d_ix (d_ofO (o_lst (a_cons d_str (a_cons d_str a_nil)))) (d_ix (d_var 2) d_int)) (a_cons d_str (a_cons (d_ix (d_ofO (o_lst (a_cons d_str (a_cons (d_op opD_add (d_var 4) d_str) a_nil)))) (d_ix (d_var 2) d_int)) a_nil))))))) ss_nil) (ss_frz 7 (ss_one (s_ret (d_call C_read_row hr (by decide) (a_cons (d_join d_str (d_var 7)) a_nil)))))))))))))))
abbrev sm__law_tree_N : List Str := ["_law_script", "_law_n", "_law_deep", "_law_mixed", "_law_parts", "_law_row_here", "_law_word", "_law_many", "_law_k"]
def m__law_tree_b (self : List D → Option D) : DS := (sSeq (sAsg (dCall 3 m__law_digits (aCons (dCall 2 m__law_cell_at (aCons (dVar 0) (aCons (dOp opAdd (dC (.int 1)) (dOp opMul (dC (.int 2)) (dVar 1))) aNil))) (aCons (dO (oLst (aCons (dC (.int 9)) (aCons (dC (.int 3)) (aCons (dC (.int 16)) aNil))))) (aCons (dVar 3) aNil)))) (tgN 4)) (sSeq (sIf (dOrT (asB (dOp opEq (dVar 2) (dC (.int 0)))) (asB (dOp opLt (dOp opIx (dVar 4) (dC (.int 0))) (dC (.int 2))))) (sSeq (sIf (asB (dOp opEq (dOp opIx (dVar 4) (dC (.int 2))) (dC (.int 3)))) (sRet (dTup (aCons (dC (.str "none")) (aCons (dO (oLst aNil)) aNil)))) sNil) (sSeq (sAsg (dCall 2 m__law_row (aCons (dCall 2 m__law_cell_at (aCons (dVar 0) (aCons (dOp opAdd (dC (.int 2)) (dOp opMul (dC (.int 2)) (dVar 1))) aNil))) (aCons (dVar 3) aNil))) (tgN 5)) (sRet (dTup (aCons (dC (.str "row")) (aCons (dO (oLst (aCons (dVar 5) (aCons (dMeth 0 t_times (dVar 5) aNil) aNil)))) aNil)))))) sNil) (sSeq (sAsg (dOp opIx (dO (oLst (aCons (dC (.str "join")) (aCons (dC (.str "meet")) (aCons (dC (.str "less")) (aCons (dC (.str "turn")) (aCons (dC (.str "join")) (aCons (dC (.str "less")) (aCons (dC (.str "turn")) aNil))))))))) (dOp opSub (dOp opIx (dVar 4) (dC (.int 0))) (dC (.int 2)))) (tgN 6)) (sSeq (sAsg (dOp opDix (dDct [(Sum.inr "join"), (Sum.inr "meet"), (Sum.inr "less"), (Sum.inr "turn")] (aCons (dOp opAdd (dC (.int 1)) (dOp opIx (dVar 4) (dC (.int 1)))) (aCons (dOp opAdd (dC (.int 1)) (dOp opIx (dVar 4) (dC (.int 1)))) (aCons (dC (.int 2)) (aCons (dC (.int 1)) aNil))))) (dVar 6)) (tgN 7)) (sRet (dTup (aCons (dVar 6) (aCons (dO (oLc (itR1 (aCons (dVar 7) aNil)) (tgN 8) tTrue (dCall 4 self (aCons (dVar 0) (aCons (dOp opAdd (dOp opAdd (dOp opMul (dC (.int 3)) (dVar 1)) (dC (.int 1))) (dVar 8)) (aCons (dOp opSub (dVar 2) (dC (.int 1))) (aCons (dVar 3) aNil))))) [8])) aNil))))))))
def m__law_tree_f (self : List D → Option D) : List D → Option D := runD 9 (m__law_tree_b self)
theorem sc_m__law_tree : FnScope sm__law_tree_N ["_law_script", "_law_n", "_law_deep", "_law_mixed"] (defScope (topS 116)) := ⟨rfl, rfl, rfl, by decide +kernel, rfl, by decide +kernel, by decide +kernel⟩
theorem ok_m__law_tree {f : Addr} {fd : FuncData} (F : DFun K "_law_tree" "_law_tree" (topS 116) f fd) {lv : Nat} {self : List D → Option D} (hlv : 11 ≤ lv) (C_self : Cal P w K mg base "_law_tree" lv ["_law_script", "_law_n", "_law_deep", "_law_mixed"] (spD K c 4 self)) (C__law_digits : Cal P w K mg base "_law_digits" 2 ["_law_cell", "_law_sizes", "_law_mixed"] (spD K c 3 m__law_digits)) (C__law_cell_at : Cal P w K mg base "_law_cell_at" 1 ["_law_script", "_law_k"] (spD K c 2 m__law_cell_at)) (C__law_row : Cal P w K mg base "_law_row" 11 ["_law_cell", "_law_mixed"] (spD K c 2 m__law_row)) (M_times : MCal P w K mg base c "times" 2 0 t_times) (n_range : mg "range" = none) :
    FnOk P w K mg base CX0 (lv + 1) f fd ["_law_script", "_law_n", "_law_deep", "_law_mixed"] (spD K c 4 (m__law_tree_f self)) := by
  have S := sc_m__law_tree
  refine okD' (n := 9) (m := 4) (B := m__law_tree_b self) F S rfl rfl rfl fun cdv A outer s H E hr => ?_
  exact (ss_cons (s_set (i := 4) S.nd (d_call C__law_digits hr (by omega) (a_cons (d_call C__law_cell_at hr (by omega) (a_cons (d_var 0) (a_cons (d_op opD_add d_int (d_op opD_mul d_int (d_var 1))) a_nil))) (a_cons (d_ofO (o_lst (a_cons d_int (a_cons d_int (a_cons d_int a_nil))))) (a_cons (d_var 3) a_nil))))) (ss_cons (s_if (PW.pt (d_wor (d_tcmp (opD_eq hr) (d_var 2) d_int) (d_wor1 (d_tcmp opD_lt (d_ix (d_var 4) d_int) d_int)))) (ss_cons (s_if (d_tcmp (opD_eq hr) (d_ix (d_var 4) d_int) d_int) (ss_one (s_ret (d_tup (a_cons d_str (a_cons (d_ofO (o_lst a_nil)) a_nil))))) ss_nil) (ss_cons (s_set (i := 5) S.nd (d_call C__law_row hr (by omega) (a_cons (d_call C__law_cell_at hr (by omega) (a_cons (d_var 0) (a_cons (d_op opD_add d_int (d_op opD_mul d_int (d_var 1))) a_nil))) (a_cons (d_var 3) a_nil)))) (ss_one (s_ret (d_tup (a_cons d_str (a_cons (d_ofO (o_lst (a_cons (d_var 5) (a_cons (d_meth0 M_times hr (by omega) (d_var 5)) a_nil)))) a_nil))))))) ss_nil) (ss_cons (s_set (i := 6) S.nd (d_ix (d_ofO (o_lst (a_cons d_str (a_cons d_str (a_cons d_str (a_cons d_str (a_cons d_str (a_cons d_str (a_cons d_str a_nil))))))))) (d_op opD_sub (d_ix (d_var 4) d_int) d_int))) (ss_cons (s_set (i := 7) S.nd (d_dix hr (d_dct (dps_cons (x := (Sum.inr "join")) pe_str (d_op opD_add d_int (d_ix (d_var 4) d_int)) (dps_cons (x := (Sum.inr "meet")) pe_str (d_op opD_add d_int (d_ix (d_var 4) d_int)) (dps_cons (x := (Sum.inr "less")) pe_str d_int (dps_cons (x := (Sum.inr "turn")) pe_str d_int dps_nil)))) (by decide +kernel) (by decide)) (d_var 6))) (ss_one (s_ret (d_tup (a_cons (d_var 6) (a_cons (d_ofO (o_lc (own := [("_law_k", 8)]) rfl S.nd (it_r1 n_range (a_cons (d_var 7) a_nil)) (blkOk_by (own := [("_law_k", 8)]) (N := sm__law_tree_N) (sc := defScope (topS 116)) (by decide +kernel)) (tgN_in (by decide)) (fun _ _ _ _ _ => (g_name (i := 8) S.nd)) (fun _ _ _ _ _ => ts_nil) (fun _ _ _ _ _ => (d_call C_self hr (Nat.le_refl _) (a_cons (d_var 0) (a_cons (d_op opD_add (d_op opD_add (d_op opD_mul d_int (d_var 1)) d_int) (d_var 8)) (a_cons (d_op opD_sub (d_var 2) d_int) (a_cons (d_var 3) a_nil)))))))) a_nil)))))))))
def m__law_tree : Nat → List D → Option D
  | 0 => fun _ => none
  | n + 1 => m__law_tree_f (m__law_tree n)
theorem rec_m__law_tree {f : Addr} {fd : FuncData} (F : DFun K "_law_tree" "_law_tree" (topS 116) f fd) (hm : mg "_law_tree" = some (.ref f)) (hb : Binds K fd ["_law_script", "_law_n", "_law_deep", "_law_mixed"] []) (C__law_digits : Cal P w K mg base "_law_digits" 2 ["_law_cell", "_law_sizes", "_law_mixed"] (spD K c 3 m__law_digits)) (C__law_cell_at : Cal P w K mg base "_law_cell_at" 1 ["_law_script", "_law_k"] (spD K c 2 m__law_cell_at)) (C__law_row : Cal P w K mg base "_law_row" 11 ["_law_cell", "_law_mixed"] (spD K c 2 m__law_row)) (M_times : MCal P w K mg base c "times" 2 0 t_times) (n_range : mg "range" = none) :
    ∀ n, FnOk P w K mg base CX0 (11 + n) f fd ["_law_script", "_law_n", "_law_deep", "_law_mixed"] (spD K c 4 (m__law_tree n))
  | 0 => fnOk_none
  | n + 1 => ok_m__law_tree F (lv := 11 + n) (hlv := Nat.le_add_right _ _) (C_self := cal_mk hm F.kp hb (rec_m__law_tree F hm hb C__law_digits C__law_cell_at C__law_row M_times n_range n)) (C__law_digits := C__law_digits) (C__law_cell_at := C__law_cell_at) (C__law_row := C__law_row) (M_times := M_times) (n_range := n_range)
abbrev sm__law_joined_N : List Str := ["_law_word", "_law_one", "_law_other"]
def m__law_joined_b : DS := (sSeq (sIf (asB (dOp opEq (dVar 0) (dC (.str "join")))) (sRet (dOp opOr (dVar 1) (dVar 2))) sNil) (sSeq (sIf (asB (dOp opEq (dVar 0) (dC (.str "meet")))) (sRet (dOp opAnd (dVar 1) (dVar 2))) sNil) (sRet (dOp opAnd (dVar 1) (dOp opSub (dOp opSub (dOp opShl (dC (.int 1)) (dC (.int 1440))) (dC (.int 1))) (dVar 2))))))
def m__law_joined : List D → Option D := runD 3 (m__law_joined_b)
theorem sc_m__law_joined : FnScope sm__law_joined_N ["_law_word", "_law_one", "_law_other"] (defScope (topS 118)) := ⟨rfl, rfl, rfl, by decide +kernel, rfl, by decide +kernel, by decide +kernel⟩
theorem ok_m__law_joined {f : Addr} {fd : FuncData} (F : DFun K "_law_joined" "_law_joined" (topS 118) f fd)  :
    FnOk P w K mg base CX0 1 f fd ["_law_word", "_law_one", "_law_other"] (spD K c 3 (m__law_joined)) := by
  have S := sc_m__law_joined
  refine okD' (n := 3) (m := 3) (B := m__law_joined_b) F S rfl rfl rfl fun cdv A outer s H E hr => ?_
  exact (ss_cons (s_if (d_tcmp (opD_eq hr) (d_var 0) d_str) (ss_one (s_ret (d_op opD_or (d_var 1) (d_var 2)))) ss_nil) (ss_cons (s_if (d_tcmp (opD_eq hr) (d_var 0) d_str) (ss_one (s_ret (d_op opD_and (d_var 1) (d_var 2)))) ss_nil) (ss_one (s_ret (d_op opD_and (d_var 1) (d_op opD_sub (d_op opD_sub (d_op opD_shl d_int d_int) d_int) (d_var 2)))))))
abbrev sm__law_masks_N : List Str := ["_law_tree_here", "_law_kind", "_law_word", "_law_parts", "_law_last", "_law_days", "_law_found", "_law_part", "_law_more", "_law_k", "_law_one"]
def m__law_masks_b (self : List D → Option D) : DS := (sSeq (sAsg (dVar 0) (tgT [2, 3])) (sSeq (sAsg (dOp opIx (dCall 1 m_month_at (aCons (dVar 1) aNil)) (dC (.int 1))) (tgN 4)) (sSeq (sIf (asB (dOp opEq (dVar 2) (dC (.str "none")))) (sRet (dOp opMul (dO (oLst (aCons (dC (.int 0)) aNil))) (dVar 4))) sNil) (sSeq (sIf (asB (dOp opEq (dVar 2) (dC (.str "row")))) (sSeq (sAsg (dMeth 1 t_days_in (dOp opIx (dVar 3) (dC (.int 0))) (aCons (dVar 1) aNil)) (tgN 5)) (sRet (dO (oLc (itR2 (aCons (dC (.int 1)) (aCons (dOp opAdd (dVar 4) (dC (.int 1))) aNil))) (tgN 9) tTrue (dOp opMul (dOp opIx (dVar 3) (dC (.int 1))) (dOp opAnd (dOp opShr (dVar 5) (dVar 9)) (dC (.int 1)))) [9])))) sNil) (sSeq (sAsg (dCall 2 self (aCons (dOp opIx (dVar 3) (dC (.int 0))) (aCons (dVar 1) aNil))) (tgN 6)) (sSeq (sIf (asB (dOp opEq (dVar 2) (dC (.str "turn")))) (sRet (dO (oLc (itE (dVar 6)) (tgN 10) tTrue (dOp opSub (dOp opSub (dOp opShl (dC (.int 1)) (dC (.int 1440))) (dC (.int 1))) (dVar 10)) [10]))) sNil) (sSeq (sFor (itE (dSl (dVar 3) (oSome (dC (.int 1))) oNone)) (tgN 7) (sSeq (sAsg (dCall 2 self (aCons (dVar 7) (aCons (dVar 1) aNil))) (tgN 8)) (sAsg (dO (oLc (itR1 (aCons (dVar 4) aNil)) (tgN 9) tTrue (dCall 3 m__law_joined (aCons (dVar 2) (aCons (dOp opIx (dVar 6) (dVar 9)) (aCons (dOp opIx (dVar 8) (dVar 9)) aNil)))) [9])) (tgN 6)))) (sRet (dVar 6)))))))))
def m__law_masks_f (self : List D → Option D) : List D → Option D := runD 11 (m__law_masks_b self)
theorem sc_m__law_masks : FnScope sm__law_masks_N ["_law_tree_here", "_law_kind"] (defScope (topS 119)) := ⟨rfl, rfl, rfl, by decide +kernel, rfl, by decide +kernel, by decide +kernel⟩
theorem ok_m__law_masks {f : Addr} {fd : FuncData} (F : DFun K "_law_masks" "_law_masks" (topS 119) f fd) {lv : Nat} {self : List D → Option D} (hlv : 5 ≤ lv) (C_self : Cal P w K mg base "_law_masks" lv ["_law_tree_here", "_law_kind"] (spD K c 2 self)) (C_month_at : Cal P w K mg base "month_at" 3 ["kind"] (spD K c 1 m_month_at)) (C__law_joined : Cal P w K mg base "_law_joined" 1 ["_law_word", "_law_one", "_law_other"] (spD K c 3 m__law_joined)) (M_days_in : MCal P w K mg base c "days_in" 5 1 t_days_in) (n_range : mg "range" = none) :
    FnOk P w K mg base CX0 (lv + 1) f fd ["_law_tree_here", "_law_kind"] (spD K c 2 (m__law_masks_f self)) := by
  have S := sc_m__law_masks
  refine okD' (n := 11) (m := 2) (B := m__law_masks_b self) F S rfl rfl rfl fun cdv A outer s H E hr => ?_
  exact (ss_cons (s_asg (d_var 0) (g_tup (is := [2, 3]) rfl (gs_cons (i := 2) S.nd (gs_cons (i := 3) S.nd gs_nil)))) (ss_cons (s_set (i := 4) S.nd (d_ix (d_call C_month_at hr (by omega) (a_cons (d_var 1) a_nil)) d_int)) (ss_cons (s_if (d_tcmp (opD_eq hr) (d_var 2) d_str) (ss_one (s_ret (d_op opD_mul (d_ofO (o_lst (a_cons d_int a_nil))) (d_var 4)))) ss_nil) (ss_cons (s_if (d_tcmp (opD_eq hr) (d_var 2) d_str) (ss_cons (s_set (i := 5) S.nd (d_meth M_days_in hr (by omega) (d_ix (d_var 3) d_int) (a_cons (d_var 1) a_nil))) (ss_one (s_ret (d_ofO (o_lc (own := [("_law_k", 9)]) rfl S.nd (it_r2 n_range (a_cons d_int (a_cons (d_op opD_add (d_var 4) d_int) a_nil))) (blkOk_by (own := [("_law_k", 9)]) (N := sm__law_masks_N) (sc := defScope (topS 119)) (by decide +kernel)) (tgN_in (by decide)) (fun _ _ _ _ _ => (g_name (i := 9) S.nd)) (fun _ _ _ _ _ => ts_nil) (fun _ _ _ _ _ => (d_op opD_mul (d_ix (d_var 3) d_int) (d_op opD_and (d_op opD_shr (d_var 5) (d_var 9)) d_int)))))))) ss_nil) (ss_cons (s_set (i := 6) S.nd (d_call C_self hr (Nat.le_refl _) (a_cons (d_ix (d_var 3) d_int) (a_cons (d_var 1) a_nil)))) (ss_cons (s_if (d_tcmp (opD_eq hr) (d_var 2) d_str) (ss_one (s_ret (d_ofO (o_lc (own := [("_law_one", 10)]) rfl S.nd (it_e (d_var 6)) (blkOk_by (own := [("_law_one", 10)]) (N := sm__law_masks_N) (sc := defScope (topS 119)) (by decide +kernel)) (tgN_in (by decide)) (fun _ _ _ _ _ => (g_name (i := 10) S.nd)) (fun _ _ _ _ _ => ts_nil) (fun _ _ _ _ _ => (d_op opD_sub (d_op opD_sub (d_op opD_shl d_int d_int) d_int) (d_var 10))))))) ss_nil) (ss_cons (s_for PassesOwn.never rfl (it_e (d_slice (d_var 3) (o_some d_int) o_none)) (g_name (i := 7) S.nd) (ss_cons (s_set (i := 8) S.nd (d_call C_self hr (Nat.le_refl _) (a_cons (d_var 7) (a_cons (d_var 1) a_nil)))) (ss_one (s_set (i := 6) S.nd (d_ofO (o_lc (own := [("_law_k", 9)]) rfl S.nd (it_r1 n_range (a_cons (d_var 4) a_nil)) (blkOk_by (own := [("_law_k", 9)]) (N := sm__law_masks_N) (sc := defScope (topS 119)) (by decide +kernel)) (tgN_in (by decide)) (fun _ _ _ _ _ => (g_name (i := 9) S.nd)) (fun _ _ _ _ _ => ts_nil) (fun _ _ _ _ _ => (d_call C__law_joined hr (by omega) (a_cons (d_var 2) (a_cons (d_ix (d_var 6) (d_var 9)) (a_cons (d_ix (d_var 8) (d_var 9)) a_nil))))))))))) (ss_one (s_ret (d_var 6))))))))))
def m__law_masks : Nat → List D → Option D
  | 0 => fun _ => none
  | n + 1 => m__law_masks_f (m__law_masks n)
theorem rec_m__law_masks {f : Addr} {fd : FuncData} (F : DFun K "_law_masks" "_law_masks" (topS 119) f fd) (hm : mg "_law_masks" = some (.ref f)) (hb : Binds K fd ["_law_tree_here", "_law_kind"] []) (C_month_at : Cal P w K mg base "month_at" 3 ["kind"] (spD K c 1 m_month_at)) (C__law_joined : Cal P w K mg base "_law_joined" 1 ["_law_word", "_law_one", "_law_other"] (spD K c 3 m__law_joined)) (M_days_in : MCal P w K mg base c "days_in" 5 1 t_days_in) (n_range : mg "range" = none) :
    ∀ n, FnOk P w K mg base CX0 (5 + n) f fd ["_law_tree_here", "_law_kind"] (spD K c 2 (m__law_masks n))
  | 0 => fnOk_none
  | n + 1 => ok_m__law_masks F (lv := 5 + n) (hlv := Nat.le_add_right _ _) (C_self := cal_mk hm F.kp hb (rec_m__law_masks F hm hb C_month_at C__law_joined M_days_in n_range n)) (C_month_at := C_month_at) (C__law_joined := C__law_joined) (M_days_in := M_days_in) (n_range := n_range)
abbrev sm__law_rows_N : List Str := ["_law_tree_here", "_law_rows_here", "_law_part"]
def m__law_rows_b (self : List D → Option D) : DS := (sSeq (sIf (asB (dOp opEq (dOp opIx (dVar 0) (dC (.int 0))) (dC (.str "row")))) (sRet (dSl (dOp opIx (dVar 0) (dC (.int 1))) oNone (oSome (dC (.int 1))))) sNil) (sSeq (sAsg (dO (oLst aNil)) (tgN 1)) (sSeq (sFor (itE (dOp opIx (dVar 0) (dC (.int 1)))) (tgN 2) (sAsg (dOp opAdd (dVar 1) (dCall 1 self (aCons (dVar 2) aNil))) (tgN 1))) (sRet (dVar 1)))))
def m__law_rows_f (self : List D → Option D) : List D → Option D := runD 3 (m__law_rows_b self)
theorem sc_m__law_rows : FnScope sm__law_rows_N ["_law_tree_here"] (defScope (topS 120)) := ⟨rfl, rfl, rfl, by decide +kernel, rfl, by decide +kernel, by decide +kernel⟩
theorem ok_m__law_rows {f : Addr} {fd : FuncData} (F : DFun K "_law_rows" "_law_rows" (topS 120) f fd) {lv : Nat} {self : List D → Option D} (hlv : 0 ≤ lv) (C_self : Cal P w K mg base "_law_rows" lv ["_law_tree_here"] (spD K c 1 self)) :
    FnOk P w K mg base CX0 (lv + 1) f fd ["_law_tree_here"] (spD K c 1 (m__law_rows_f self)) := by
  have S := sc_m__law_rows
  refine okD' (n := 3) (m := 1) (B := m__law_rows_b self) F S rfl rfl rfl fun cdv A outer s H E hr => ?_
  exact (ss_cons (s_if (d_tcmp (opD_eq hr) (d_ix (d_var 0) d_int) d_str) (ss_one (s_ret (d_slice (d_ix (d_var 0) d_int) o_none (o_some d_int)))) ss_nil) (ss_cons (s_set (i := 1) S.nd (d_ofO (o_lst a_nil))) (ss_cons (s_for PassesOwn.never rfl (it_e (d_ix (d_var 0) d_int)) (g_name (i := 2) S.nd) (ss_one (s_set (i := 1) S.nd (d_op opD_add (d_var 1) (d_call C_self hr (Nat.le_refl _) (a_cons (d_var 2) a_nil)))))) (ss_one (s_ret (d_var 1))))))
def m__law_rows : Nat → List D → Option D
  | 0 => fun _ => none
  | n + 1 => m__law_rows_f (m__law_rows n)
theorem rec_m__law_rows {f : Addr} {fd : FuncData} (F : DFun K "_law_rows" "_law_rows" (topS 120) f fd) (hm : mg "_law_rows" = some (.ref f)) (hb : Binds K fd ["_law_tree_here"] [])  :
    ∀ n, FnOk P w K mg base CX0 (0 + n) f fd ["_law_tree_here"] (spD K c 1 (m__law_rows n))
  | 0 => fnOk_none
  | n + 1 => ok_m__law_rows F (lv := 0 + n) (hlv := Nat.le_add_right _ _) (C_self := cal_mk hm F.kp hb (rec_m__law_rows F hm hb  n)) 
abbrev sm__law_moment_N : List Str := ["_law_cell", "_law_mixed", "_law_parts", "_law_year", "_law_on", "_law_number"]
def m__law_moment_b : DS := (sSeq (sIf (dAndT (dNotT (asB (dVar 1))) (asB (dOp opGe (dBu bAbs (aCons (dVar 0) aNil)) (dOp opPow (dC (.int 10)) (dC (.int 18)))))) (sRet (dOp opSub (dOp opMod (dVar 0) (dOp opAdd (dOp opMul (dC (.int 2)) (dOp opPow (dC (.int 10)) (dC (.int 58)))) (dC (.int 1)))) (dOp opPow (dC (.int 10)) (dC (.int 58))))) sNil) (sSeq (sAsg (dCall 3 m__law_digits (aCons (dVar 0) (aCons (dO (oLst (aCons (dC (.int 2401)) (aCons (dC (.int 4)) (aCons (dC (.int 366)) (aCons (dC (.int 3)) (aCons (dC (.int 3)) (aCons (dC (.int 1440)) aNil)))))))) (aCons (dC (.bl true)) aNil)))) (tgN 2)) (sSeq (sAsg (dOp opSub (dOp opIx (dVar 2) (dC (.int 0))) (dC (.int 400))) (tgN 3)) (sSeq (sAsg (dOp opSub (dOp opIx (dO (oLst (aCons (dC (.int 0)) (aCons (dC (.int 59)) (aCons (dC (.int 365)) (aCons (dOp opIx (dVar 2) (dC (.int 2))) aNil)))))) (dOp opIx (dVar 2) (dC (.int 1)))) (dOp opIx (dVar 2) (dC (.int 3)))) (tgN 4)) (sSeq (sAsg (dOp opAdd (dOp opAdd (dOp opSub (dOp opAdd (dOp opMul (dC (.int 365)) (dVar 3)) (dOp opFdiv (dOp opAdd (dVar 3) (dC (.int 3))) (dC (.int 4)))) (dOp opFdiv (dOp opAdd (dVar 3) (dC (.int 99))) (dC (.int 100)))) (dOp opFdiv (dOp opAdd (dVar 3) (dC (.int 399))) (dC (.int 400)))) (dVar 4)) (tgN 5)) (sRet (dOp opAdd (dOp opMul (dC (.int 1440)) (dVar 5)) (dOp opIx (dO (oLst (aCons (dC (.int 0)) (aCons (dC (.int 1439)) (aCons (dOp opIx (dVar 2) (dC (.int 5))) aNil))))) (dOp opIx (dVar 2) (dC (.int 4)))))))))))
def m__law_moment : List D → Option D := runD 6 (m__law_moment_b)
theorem sc_m__law_moment : FnScope sm__law_moment_N ["_law_cell", "_law_mixed"] (defScope (topS 121)) := ⟨rfl, rfl, rfl, by decide +kernel, rfl, by decide +kernel, by decide +kernel⟩
theorem ok_m__law_moment {f : Addr} {fd : FuncData} (F : DFun K "_law_moment" "_law_moment" (topS 121) f fd) (C__law_digits : Cal P w K mg base "_law_digits" 2 ["_law_cell", "_law_sizes", "_law_mixed"] (spD K c 3 m__law_digits)) (n_abs : mg "abs" = none) :
    FnOk P w K mg base CX0 3 f fd ["_law_cell", "_law_mixed"] (spD K c 2 (m__law_moment)) := by
  have S := sc_m__law_moment
  refine okD' (n := 6) (m := 2) (B := m__law_moment_b) F S rfl rfl rfl fun cdv A outer s H E hr => ?_
  exact (ss_cons (s_if (PW.pt (d_wand (d_tnot (d_test (d_var 1))) (d_wand1 (d_tcmp opD_ge (d_callB bu_abs n_abs (a_cons (d_var 0) a_nil)) (d_op opD_pow d_int d_int))))) (ss_one (s_ret (d_op opD_sub (d_op opD_mod (d_var 0) (d_op opD_add (d_op opD_mul d_int (d_op opD_pow d_int d_int)) d_int)) (d_op opD_pow d_int d_int)))) ss_nil) (ss_cons (s_set (i := 2) S.nd (d_call C__law_digits hr (by decide) (a_cons (d_var 0) (a_cons (d_ofO (o_lst (a_cons d_int (a_cons d_int (a_cons d_int (a_cons d_int (a_cons d_int (a_cons d_int a_nil)))))))) (a_cons d_bl a_nil))))) (ss_cons (s_set (i := 3) S.nd (d_op opD_sub (d_ix (d_var 2) d_int) d_int)) (ss_cons (s_set (i := 4) S.nd (d_op opD_sub (d_ix (d_ofO (o_lst (a_cons d_int (a_cons d_int (a_cons d_int (a_cons (d_ix (d_var 2) d_int) a_nil)))))) (d_ix (d_var 2) d_int)) (d_ix (d_var 2) d_int))) (ss_cons (s_set (i := 5) S.nd (d_op opD_add (d_op opD_add (d_op opD_sub (d_op opD_add (d_op opD_mul d_int (d_var 3)) (d_op opD_fdiv (d_op opD_add (d_var 3) d_int) d_int)) (d_op opD_fdiv (d_op opD_add (d_var 3) d_int) d_int)) (d_op opD_fdiv (d_op opD_add (d_var 3) d_int) d_int)) (d_var 4))) (ss_one (s_ret (d_op opD_add (d_op opD_mul d_int (d_var 5)) (d_ix (d_ofO (o_lst (a_cons d_int (a_cons d_int (a_cons (d_ix (d_var 2) d_int) a_nil))))) (d_ix (d_var 2) d_int))))))))))
abbrev sm__law_near_N : List Str := ["_law_tree_here", "_law_cell", "_law_mixed", "_law_parts", "_law_moment_here", "_law_rows_here", "_law_found"]
def m__law_near_b : DS := (sSeq (sAsg (dCall 3 m__law_digits (aCons (dVar 1) (aCons (dO (oLst (aCons (dC (.int 3)) (aCons (dC (.int 13)) (aCons (dC (.int 7)) aNil))))) (aCons (dVar 2) aNil)))) (tgN 3)) (sSeq (sAsg (dCall 2 m__law_moment (aCons (dOp opFdiv (dVar 1) (dC (.int 273))) (aCons (dVar 2) aNil))) (tgN 4)) (sSeq (sAsg (dCall 1 (m__law_rows 8) (aCons (dVar 0) aNil)) (tgN 5)) (sSeq (sIf (dOrT (asB (dOp opEq (dVar 5) (dO (oLst aNil)))) (asB (dOp opEq (dOp opIx (dVar 3) (dC (.int 0))) (dC (.int 1))))) (sRet (dVar 4)) sNil) (sSeq (sAsg (dOp opIx (dCall 2 m_next_from (aCons (dOp opIx (dVar 5) (dOp opMod (dOp opIx (dVar 3) (dC (.int 1))) (dBu bLen (aCons (dVar 5) aNil)))) (aCons (dVar 4) aNil))) (dC (.int 0))) (tgN 6)) (sSeq (sIf (asB (dOp opIsN (dVar 6) (dC .non))) (sRet (dVar 4)) sNil) (sRet (dOp opAdd (dVar 6) (dOp opIx (dO (oLst (aCons (dC (.int 0)) (aCons (dC (.int 0)) (aCons (dC (.int 0)) (aCons (dC (.int 1)) (aCons (dNeg (dC (.int 1))) (aCons (dC (.int 60)) (aCons (dC (.int 1440)) aNil))))))))) (dOp opIx (dVar 3) (dC (.int 2))))))))))))
def m__law_near : List D → Option D := runD 7 (m__law_near_b)
theorem sc_m__law_near : FnScope sm__law_near_N ["_law_tree_here", "_law_cell", "_law_mixed"] (defScope (topS 122)) := ⟨rfl, rfl, rfl, by decide +kernel, rfl, by decide +kernel, by decide +kernel⟩
theorem ok_m__law_near {f : Addr} {fd : FuncData} (F : DFun K "_law_near" "_law_near" (topS 122) f fd) (C__law_digits : Cal P w K mg base "_law_digits" 2 ["_law_cell", "_law_sizes", "_law_mixed"] (spD K c 3 m__law_digits)) (C__law_moment : Cal P w K mg base "_law_moment" 3 ["_law_cell", "_law_mixed"] (spD K c 2 m__law_moment)) (C__law_rows : Cal P w K mg base "_law_rows" 8 ["_law_tree_here"] (spD K c 1 (m__law_rows 8))) (C_next_from : Cal P w K mg base "next_from" 10 ["row", "moment"] (spD K c 2 m_next_from)) (n_len : mg "len" = none) :
    FnOk P w K mg base CX0 11 f fd ["_law_tree_here", "_law_cell", "_law_mixed"] (spD K c 3 (m__law_near)) := by
  have S := sc_m__law_near
  refine okD' (n := 7) (m := 3) (B := m__law_near_b) F S rfl rfl rfl fun cdv A outer s H E hr => ?_
  exact (ss_cons (s_set (i := 3) S.nd (d_call C__law_digits hr (by decide) (a_cons (d_var 1) (a_cons (d_ofO (o_lst (a_cons d_int (a_cons d_int (a_cons d_int a_nil))))) (a_cons (d_var 2) a_nil))))) (ss_cons (s_set (i := 4) S.nd (d_call C__law_moment hr (by decide) (a_cons (d_op opD_fdiv (d_var 1) d_int) (a_cons (d_var 2) a_nil)))) (ss_cons (s_set (i := 5) S.nd (d_call C__law_rows hr (by decide) (a_cons (d_var 0) a_nil))) (ss_cons (s_if (PW.pt (d_wor (d_tcmp (opD_eq hr) (d_var 5) (d_ofO (o_lst a_nil))) (d_wor1 (d_tcmp (opD_eq hr) (d_ix (d_var 3) d_int) d_int)))) (ss_one (s_ret (d_var 4))) ss_nil) (ss_cons (s_set (i := 6) S.nd (d_ix (d_call C_next_from hr (by decide) (a_cons (d_ix (d_var 5) (d_op opD_mod (d_ix (d_var 3) d_int) (d_callB bu_len n_len (a_cons (d_var 5) a_nil)))) (a_cons (d_var 4) a_nil))) d_int)) (ss_cons (s_if (d_tcmp opD_isN (d_var 6) d_non) (ss_one (s_ret (d_var 4))) ss_nil) (ss_one (s_ret (d_op opD_add (d_var 6) (d_ix (d_ofO (o_lst (a_cons d_int (a_cons d_int (a_cons d_int (a_cons d_int (a_cons (d_neg d_int) (a_cons d_int (a_cons d_int a_nil))))))))) (d_ix (d_var 3) d_int)))))))))))
def T_tally : Nat → Nat → Option (List D → Option D)
  | 0 => fun _ => none
  | n + 1 => fun i => match i with
    | 8 => some m_Book_tally
    | 9 => some m_Book_tally
    | 10 => some (m_Joined_tally (T_tally n))
    | 11 => some (m_Met_tally (T_tally n))
    | 12 => some (m_Less_tally (T_tally n))
    | 13 => some (m_Turned_tally (T_tally n))
    | _ => none
def T_depth : Nat → Nat → Option (List D → Option D)
  | 0 => fun _ => none
  | n + 1 => fun i => match i with
    | 8 => some m_Book_depth
    | 9 => some m_Book_depth
    | 10 => some (m_Joined_depth (T_depth n))
    | 11 => some (m_Met_depth (T_depth n))
    | 12 => some (m_Less_depth (T_depth n))
    | 13 => some (m_Turned_depth (T_depth n))
    | _ => none
abbrev sm_need_small_N : List Str := ["books", "book"]
def m_need_small_b : DS := (sSeq (sIf (asB (dOp opGt (dOp opAdd (dC (.int 1)) (dBu bSum (aCons (dO (oLc (itE (dVar 0)) (tgN 1) tTrue (dMeth 0 (T_tally 8) (dVar 1) aNil) [1])) aNil))) (dC k_MOST_COUNTED))) sNever sNil) (sIf (asB (dOp opGt (dOp opAdd (dC (.int 1)) (dBu bMax (aCons (dO (oLc (itE (dVar 0)) (tgN 1) tTrue (dMeth 0 (T_depth 8) (dVar 1) aNil) [1])) aNil))) (dC k_DEEPEST))) sNever sNil))
def m_need_small : List D → Option D := runD 2 (m_need_small_b)
theorem sc_m_need_small : FnScope sm_need_small_N ["books"] (defScope (topS 87)) := ⟨rfl, rfl, rfl, by decide +kernel, rfl, by decide +kernel, by decide +kernel⟩
theorem ok_m_need_small {f : Addr} {fd : FuncData} (F : DFun K "need_small" "need_small" (topS 87) f fd) (M_tally : MCal P w K mg base c "tally" 11 0 (T_tally 8)) (M_depth : MCal P w K mg base c "depth" 11 0 (T_depth 8)) (g_MOST_COUNTED : GlobD K c mg "MOST_COUNTED" k_MOST_COUNTED) (g_DEEPEST : GlobD K c mg "DEEPEST" k_DEEPEST) (n_sum : mg "sum" = none) (n_max : mg "max" = none) :
    FnOk P w K mg base CX0 12 f fd ["books"] (spD K c 1 (m_need_small)) := by
  have S := sc_m_need_small
  refine okD' (n := 2) (m := 1) (B := m_need_small_b) F S rfl rfl rfl fun cdv A outer s H E hr => ?_
  exact (ss_cons (s_if (d_tcmp opD_gt (d_op opD_add d_int (d_callB (bu_sum rfl) n_sum (a_cons (d_ofO (o_lc (own := [("book", 1)]) rfl S.nd (it_e (d_var 0)) (blkOk_by (own := [("book", 1)]) (N := sm_need_small_N) (sc := defScope (topS 87)) (by decide +kernel)) (tgN_in (by decide)) (fun _ _ _ _ _ => (g_name (i := 1) S.nd)) (fun _ _ _ _ _ => ts_nil) (fun _ _ _ _ _ => (d_meth0 M_tally hr (by decide) (d_var 1))))) a_nil))) (d_glob g_MOST_COUNTED)) (ss_one s_never) ss_nil) (ss_one (s_if (d_tcmp opD_gt (d_op opD_add d_int (d_callB (bu_max rfl) n_max (a_cons (d_ofO (o_lc (own := [("book", 1)]) rfl S.nd (it_e (d_var 0)) (blkOk_by (own := [("book", 1)]) (N := sm_need_small_N) (sc := defScope (topS 87)) (by decide +kernel)) (tgN_in (by decide)) (fun _ _ _ _ _ => (g_name (i := 1) S.nd)) (fun _ _ _ _ _ => ts_nil) (fun _ _ _ _ _ => (d_meth0 M_depth hr (by decide) (d_var 1))))) a_nil))) (d_glob g_DEEPEST)) (ss_one s_never) ss_nil)))
abbrev sm_books_of_N : List Str := ["books", "book"]
def m_books_of_b : DS := (sSeq (sIf (dOrT (dNotT (asB (dIsi (isiB "list") (dVar 0)))) (dNotT (asB (dChain opLe opLe (dC (.int 1)) (dBu bLen (aCons (dVar 0) aNil)) (dC k_MOST_PARTS))))) sNever sNil) (sSeq (sFor (itE (dVar 0)) (tgN 1) (sDrop (dCall 1 m_need_book (aCons (dVar 1) aNil)))) (sSeq (sDrop (dCall 1 m_need_small (aCons (dVar 0) aNil))) (sRet (dBu bTuple (aCons (dVar 0) aNil))))))
def m_books_of : List D → Option D := runD 2 (m_books_of_b)
theorem sc_m_books_of : FnScope sm_books_of_N ["books"] (defScope (topS 88)) := ⟨rfl, rfl, rfl, by decide +kernel, rfl, by decide +kernel, by decide +kernel⟩
theorem ok_m_books_of {f : Addr} {fd : FuncData} (F : DFun K "books_of" "books_of" (topS 88) f fd) (C_need_book : Cal P w K mg base "need_book" 1 ["book"] (spD K c 1 m_need_book)) (C_need_small : Cal P w K mg base "need_small" 12 ["books"] (spD K c 1 m_need_small)) (g_MOST_PARTS : GlobD K c mg "MOST_PARTS" k_MOST_PARTS) (n_isinstance : mg "isinstance" = none) (n_list : mg "list" = none) (n_len : mg "len" = none) (n_tuple : mg "tuple" = none) :
    FnOk P w K mg base CX0 13 f fd ["books"] (spD K c 1 (m_books_of)) := by
  have S := sc_m_books_of
  refine okD' (n := 2) (m := 1) (B := m_books_of_b) F S rfl rfl rfl fun cdv A outer s H E hr => ?_
  exact (ss_cons (s_if (PW.pt (d_wor (d_tnot (d_test (d_isiB (n := "list") n_isinstance n_list (by decide +kernel) (d_var 0)))) (d_wor1 (d_tnot (d_tchain opD_le opD_le d_int (d_callB bu_len n_len (a_cons (d_var 0) a_nil)) (d_glob g_MOST_PARTS)))))) (ss_one s_never) ss_nil) (ss_cons (s_for PassesOwn.never rfl (it_e (d_var 0)) (g_name (i := 1) S.nd) (ss_one (s_expr (d_call C_need_book hr (by decide) (a_cons (d_var 1) a_nil))))) (ss_cons (s_expr (d_call C_need_small hr (by decide) (a_cons (d_var 0) a_nil))) (ss_one (s_ret (d_callTy bu_tuple n_tuple (a_cons (d_var 0) a_nil)))))))
abbrev sm_Joined___init___N : List Str := ["self", "books"]
def as_Joined : List IStep := [.sto "books" (dCall 1 m_books_of (aCons (dVar 1) aNil))]
def i_Joined : List D → Option (List D)
  | [a] => (m_books_of [a]).map fun t => [t]
  | _ => none
theorem hF_Joined (y : Addr) (ds fs : List D) (hl : ds.length = 1) (e : i_Joined ds = some fs) : noOwn (startD 2 (.raw (.ref y) :: ds)) = true ∧ evalI y as_Joined (startD 2 (.raw (.ref y) :: ds)) = some fs := by
  match ds, hl with
  | [a], _ =>
    obtain ⟨t, e1, rfl⟩ := Option.map_eq_some_iff.mp e
    exact ⟨rfl, ev_sto rfl e1 ev_nil⟩
theorem sc_m_Joined___init__ : FnScope sm_Joined___init___N ["self", "books"] (defScope (inClass (topS 91) 0)) := ⟨rfl, rfl, rfl, by decide +kernel, rfl, by decide +kernel, by decide +kernel⟩
theorem ok_m_Joined___init__ (hnm : c.nm 10 = nmF 10) {f : Addr} {fd : FuncData} (F : DFun K "__init__" "Joined.__init__" (inClass (topS 91) 0) f fd) (hC : Cls K (c.cl 10)) (A_books : NoAttr K (c.cl 10) "books") (C_books_of : Cal P w K mg base "books_of" 13 ["books"] (spD K c 1 m_books_of)) :
    FnOk P w K mg base CX0 14 f fd ["self", "books"] (spI K c 10 1 i_Joined) := by
  have S := sc_m_Joined___init__
  refine okI (as := as_Joined) (nn := 2) F S rfl rfl hnm.symm (by rw [hnm]; decide +kernel) (by rw [hnm]; decide) hF_Joined fun cdv A outer s H E hr => ?_
  exact (ii_sto (d_call C_books_of hr (by decide) (a_cons (d_var 1) a_nil)) hC A_books ii_nil)
abbrev sm_Met___init___N : List Str := ["self", "books"]
def as_Met : List IStep := [.sto "books" (dCall 1 m_books_of (aCons (dVar 1) aNil))]
def i_Met : List D → Option (List D)
  | [a] => (m_books_of [a]).map fun t => [t]
  | _ => none
theorem hF_Met (y : Addr) (ds fs : List D) (hl : ds.length = 1) (e : i_Met ds = some fs) : noOwn (startD 2 (.raw (.ref y) :: ds)) = true ∧ evalI y as_Met (startD 2 (.raw (.ref y) :: ds)) = some fs := by
  match ds, hl with
  | [a], _ =>
    obtain ⟨t, e1, rfl⟩ := Option.map_eq_some_iff.mp e
    exact ⟨rfl, ev_sto rfl e1 ev_nil⟩
theorem sc_m_Met___init__ : FnScope sm_Met___init___N ["self", "books"] (defScope (inClass (topS 92) 0)) := ⟨rfl, rfl, rfl, by decide +kernel, rfl, by decide +kernel, by decide +kernel⟩
theorem ok_m_Met___init__ (hnm : c.nm 11 = nmF 11) {f : Addr} {fd : FuncData} (F : DFun K "__init__" "Met.__init__" (inClass (topS 92) 0) f fd) (hC : Cls K (c.cl 11)) (A_books : NoAttr K (c.cl 11) "books") (C_books_of : Cal P w K mg base "books_of" 13 ["books"] (spD K c 1 m_books_of)) :
    FnOk P w K mg base CX0 14 f fd ["self", "books"] (spI K c 11 1 i_Met) := by
  have S := sc_m_Met___init__
  refine okI (as := as_Met) (nn := 2) F S rfl rfl hnm.symm (by rw [hnm]; decide +kernel) (by rw [hnm]; decide) hF_Met fun cdv A outer s H E hr => ?_
  exact (ii_sto (d_call C_books_of hr (by decide) (a_cons (d_var 1) a_nil)) hC A_books ii_nil)
abbrev sm_Less___init___N : List Str := ["self", "one", "other"]
def as_Less : List IStep := [.chk (sDrop (dCall 1 m_need_book (aCons (dVar 1) aNil))), .chk (sDrop (dCall 1 m_need_book (aCons (dVar 2) aNil))), .chk (sDrop (dCall 1 m_need_small (aCons (dO (oLst (aCons (dVar 1) (aCons (dVar 2) aNil)))) aNil))), .sto "one" (dVar 1), .sto "other" (dVar 2)]
def i_Less : List D → Option (List D)
  | [a, b] => (m_need_book [a]).bind fun _ => (m_need_book [b]).bind fun _ => (m_need_small [.lst [a, b]]).map fun _ => [a, b]
  | _ => none
theorem hF_Less (y : Addr) (ds fs : List D) (hl : ds.length = 2) (e : i_Less ds = some fs) : noOwn (startD 3 (.raw (.ref y) :: ds)) = true ∧ evalI y as_Less (startD 3 (.raw (.ref y) :: ds)) = some fs := by
  match ds, hl with
  | [a, b], _ =>
    obtain ⟨t1, e1, e⟩ := Option.bind_eq_some_iff.mp e
    obtain ⟨t2, e2, e⟩ := Option.bind_eq_some_iff.mp e
    obtain ⟨t3, e3, rfl⟩ := Option.map_eq_some_iff.mp e
    exact ⟨rfl, ev_chk (drop_ok (show dCall 1 m_need_book _ _ = _ from e1)) rfl (ev_chk (drop_ok (show dCall 1 m_need_book _ _ = _ from e2)) rfl (ev_chk (drop_ok (show dCall 1 m_need_small _ _ = _ from e3)) rfl (ev_sto rfl rfl (ev_sto rfl rfl ev_nil))))⟩
theorem sc_m_Less___init__ : FnScope sm_Less___init___N ["self", "one", "other"] (defScope (inClass (topS 93) 0)) := ⟨rfl, rfl, rfl, by decide +kernel, rfl, by decide +kernel, by decide +kernel⟩
theorem ok_m_Less___init__ (hnm : c.nm 12 = nmF 12) {f : Addr} {fd : FuncData} (F : DFun K "__init__" "Less.__init__" (inClass (topS 93) 0) f fd) (hC : Cls K (c.cl 12)) (A_one : NoAttr K (c.cl 12) "one") (A_other : NoAttr K (c.cl 12) "other") (C_need_book : Cal P w K mg base "need_book" 1 ["book"] (spD K c 1 m_need_book)) (C_need_small : Cal P w K mg base "need_small" 12 ["books"] (spD K c 1 m_need_small)) :
    FnOk P w K mg base CX0 13 f fd ["self", "one", "other"] (spI K c 12 2 i_Less) := by
  have S := sc_m_Less___init__
  refine okI (as := as_Less) (nn := 3) F S rfl rfl hnm.symm (by rw [hnm]; decide +kernel) (by rw [hnm]; decide) hF_Less fun cdv A outer s H E hr => ?_
  exact (ii_chk (s_expr (d_call C_need_book hr (by decide) (a_cons (d_var 1) a_nil))) (ii_chk (s_expr (d_call C_need_book hr (by decide) (a_cons (d_var 2) a_nil))) (ii_chk (s_expr (d_call C_need_small hr (by decide) (a_cons (d_ofO (o_lst (a_cons (d_var 1) (a_cons (d_var 2) a_nil)))) a_nil))) (ii_sto (d_var 1) hC A_one (ii_sto (d_var 2) hC A_other ii_nil)))))
abbrev sm_Turned___init___N : List Str := ["self", "one"]
def as_Turned : List IStep := [.chk (sDrop (dCall 1 m_need_book (aCons (dVar 1) aNil))), .chk (sDrop (dCall 1 m_need_small (aCons (dO (oLst (aCons (dVar 1) aNil))) aNil))), .sto "one" (dVar 1)]
def i_Turned : List D → Option (List D)
  | [a] => (m_need_book [a]).bind fun _ => (m_need_small [.lst [a]]).map fun _ => [a]
  | _ => none
theorem hF_Turned (y : Addr) (ds fs : List D) (hl : ds.length = 1) (e : i_Turned ds = some fs) : noOwn (startD 2 (.raw (.ref y) :: ds)) = true ∧ evalI y as_Turned (startD 2 (.raw (.ref y) :: ds)) = some fs := by
  match ds, hl with
  | [a], _ =>
    obtain ⟨t1, e1, e⟩ := Option.bind_eq_some_iff.mp e
    obtain ⟨t3, e3, rfl⟩ := Option.map_eq_some_iff.mp e
    exact ⟨rfl, ev_chk (drop_ok (show dCall 1 m_need_book _ _ = _ from e1)) rfl (ev_chk (drop_ok (show dCall 1 m_need_small _ _ = _ from e3)) rfl (ev_sto rfl rfl ev_nil))⟩
theorem sc_m_Turned___init__ : FnScope sm_Turned___init___N ["self", "one"] (defScope (inClass (topS 94) 0)) := ⟨rfl, rfl, rfl, by decide +kernel, rfl, by decide +kernel, by decide +kernel⟩
theorem ok_m_Turned___init__ (hnm : c.nm 13 = nmF 13) {f : Addr} {fd : FuncData} (F : DFun K "__init__" "Turned.__init__" (inClass (topS 94) 0) f fd) (hC : Cls K (c.cl 13)) (A_one : NoAttr K (c.cl 13) "one") (C_need_book : Cal P w K mg base "need_book" 1 ["book"] (spD K c 1 m_need_book)) (C_need_small : Cal P w K mg base "need_small" 12 ["books"] (spD K c 1 m_need_small)) :
    FnOk P w K mg base CX0 13 f fd ["self", "one"] (spI K c 13 1 i_Turned) := by
  have S := sc_m_Turned___init__
  refine okI (as := as_Turned) (nn := 2) F S rfl rfl hnm.symm (by rw [hnm]; decide +kernel) (by rw [hnm]; decide) hF_Turned fun cdv A outer s H E hr => ?_
  exact (ii_chk (s_expr (d_call C_need_book hr (by decide) (a_cons (d_var 1) a_nil))) (ii_chk (s_expr (d_call C_need_small hr (by decide) (a_cons (d_ofO (o_lst (a_cons (d_var 1) a_nil))) a_nil))) (ii_sto (d_var 1) hC A_one ii_nil)))
abbrev sm__law_make_N : List Str := ["_law_tree_here", "_law_word", "_law_parts", "_law_made", "_law_part"]
def m__law_make_b (self : List D → Option D) : DS := (sSeq (sAsg (dVar 0) (tgT [1, 2])) (sSeq (sIf (asB (dOp opEq (dVar 1) (dC (.str "none")))) (sRet (dC (.ins 8 []))) sNil) (sSeq (sIf (asB (dOp opEq (dVar 1) (dC (.str "row")))) (sRet (dMake 9 1 i_Of (aCons (dOp opIx (dVar 2) (dC (.int 0))) aNil))) sNil) (sSeq (sAsg (dO (oLc (itE (dVar 2)) (tgN 4) tTrue (dCall 1 self (aCons (dVar 4) aNil)) [4])) (tgN 3)) (sSeq (sIf (asB (dOp opEq (dVar 1) (dC (.str "join")))) (sRet (dMake 10 1 i_Joined (aCons (dVar 3) aNil))) sNil) (sSeq (sIf (asB (dOp opEq (dVar 1) (dC (.str "meet")))) (sRet (dMake 11 1 i_Met (aCons (dVar 3) aNil))) sNil) (sSeq (sIf (asB (dOp opEq (dVar 1) (dC (.str "less")))) (sRet (dMake 12 2 i_Less (aCons (dOp opIx (dVar 3) (dC (.int 0))) (aCons (dOp opIx (dVar 3) (dC (.int 1))) aNil)))) sNil) (sRet (dMake 13 1 i_Turned (aCons (dOp opIx (dVar 3) (dC (.int 0))) aNil))))))))))
def m__law_make_f (self : List D → Option D) : List D → Option D := runD 5 (m__law_make_b self)
theorem sc_m__law_make : FnScope sm__law_make_N ["_law_tree_here"] (defScope (topS 117)) := ⟨rfl, rfl, rfl, by decide +kernel, rfl, by decide +kernel, by decide +kernel⟩
theorem ok_m__law_make {f : Addr} {fd : FuncData} (F : DFun K "_law_make" "_law_make" (topS 117) f fd) {lv : Nat} {self : List D → Option D} (hlv : 15 ≤ lv) (C_self : Cal P w K mg base "_law_make" lv ["_law_tree_here"] (spD K c 1 self)) (K_Book : Mak0 K mg c "Book" 8) (K_Of : Mak P w K mg base c "Of" 9 3 1 i_Of) (K_Joined : Mak P w K mg base c "Joined" 10 14 1 i_Joined) (K_Met : Mak P w K mg base c "Met" 11 14 1 i_Met) (K_Less : Mak P w K mg base c "Less" 12 13 2 i_Less) (K_Turned : Mak P w K mg base c "Turned" 13 13 1 i_Turned) :
    FnOk P w K mg base CX0 (lv + 1) f fd ["_law_tree_here"] (spD K c 1 (m__law_make_f self)) := by
  have S := sc_m__law_make
  refine okD' (n := 5) (m := 1) (B := m__law_make_b self) F S rfl rfl rfl fun cdv A outer s H E hr => ?_
  exact (ss_cons (s_asg (d_var 0) (g_tup (is := [1, 2]) rfl (gs_cons (i := 1) S.nd (gs_cons (i := 2) S.nd gs_nil)))) (ss_cons (s_if (d_tcmp (opD_eq hr) (d_var 1) d_str) (ss_one (s_ret (d_make0 K_Book))) ss_nil) (ss_cons (s_if (d_tcmp (opD_eq hr) (d_var 1) d_str) (ss_one (s_ret (d_make K_Of hr (by omega) (a_cons (d_ix (d_var 2) d_int) a_nil)))) ss_nil) (ss_cons (s_setLc (i := 3) (own := [("_law_part", 4)]) rfl S.nd (it_e (d_var 2)) (blkOk_by (own := [("_law_part", 4)]) (N := sm__law_make_N) (sc := defScope (topS 117)) (by decide +kernel)) (tgN_in (by decide)) (fun _ _ _ _ _ => (g_name (i := 4) S.nd)) (fun _ _ _ _ _ => ts_nil) (fun _ _ _ _ _ => (d_call C_self hr (Nat.le_refl _) (a_cons (d_var 4) a_nil)))) (ss_cons (s_if (d_tcmp (opD_eq hr) (d_var 1) d_str) (ss_one (s_ret (d_make K_Joined hr (by omega) (a_cons (d_var 3) a_nil)))) ss_nil) (ss_cons (s_if (d_tcmp (opD_eq hr) (d_var 1) d_str) (ss_one (s_ret (d_make K_Met hr (by omega) (a_cons (d_var 3) a_nil)))) ss_nil) (ss_cons (s_if (d_tcmp (opD_eq hr) (d_var 1) d_str) (ss_one (s_ret (d_make K_Less hr (by omega) (a_cons (d_ix (d_var 3) d_int) (a_cons (d_ix (d_var 3) d_int) a_nil))))) ss_nil) (ss_one (s_ret (d_make K_Turned hr (by omega) (a_cons (d_ix (d_var 3) d_int) a_nil)))))))))))
def m__law_make : Nat → List D → Option D
  | 0 => fun _ => none
  | n + 1 => m__law_make_f (m__law_make n)
theorem rec_m__law_make {f : Addr} {fd : FuncData} (F : DFun K "_law_make" "_law_make" (topS 117) f fd) (hm : mg "_law_make" = some (.ref f)) (hb : Binds K fd ["_law_tree_here"] []) (K_Book : Mak0 K mg c "Book" 8) (K_Of : Mak P w K mg base c "Of" 9 3 1 i_Of) (K_Joined : Mak P w K mg base c "Joined" 10 14 1 i_Joined) (K_Met : Mak P w K mg base c "Met" 11 14 1 i_Met) (K_Less : Mak P w K mg base c "Less" 12 13 2 i_Less) (K_Turned : Mak P w K mg base c "Turned" 13 13 1 i_Turned) :
    ∀ n, FnOk P w K mg base CX0 (15 + n) f fd ["_law_tree_here"] (spD K c 1 (m__law_make n))
  | 0 => fnOk_none
  | n + 1 => ok_m__law_make F (lv := 15 + n) (hlv := Nat.le_add_right _ _) (C_self := cal_mk hm F.kp hb (rec_m__law_make F hm hb K_Book K_Of K_Joined K_Met K_Less K_Turned n)) (K_Book := K_Book) (K_Of := K_Of) (K_Joined := K_Joined) (K_Met := K_Met) (K_Less := K_Less) (K_Turned := K_Turned)
def T_holds : Nat → Nat → Option (List D → Option D)
  | 0 => fun _ => none
  | n + 1 => fun i => match i with
    | 0 => some m_Row_holds
    | 8 => some m_Book_holds
    | 9 => some (m_Of_holds (T_holds n))
    | 10 => some (m_Joined_holds (T_holds n))
    | 11 => some (m_Met_holds (T_holds n))
    | 12 => some (m_Less_holds (T_holds n))
    | 13 => some (m_Turned_holds (T_holds n))
    | _ => none
def T_on_days : Nat → Nat → Option (List D → Option (List D))
  | 0 => fun _ => none
  | n + 1 => fun i => match i with
    | 8 => some m_Book_on_days
    | 9 => some m_Of_on_days
    | 10 => some (m_Joined_on_days (T_on_days n))
    | 11 => some (m_Met_on_days (T_on_days n))
    | 12 => some (m_Less_on_days (T_on_days n))
    | 13 => some (m_Turned_on_days (T_on_days n))
    | _ => none
abbrev sm__law_told_N : List Str := ["_law_book", "_law_tree_here", "_law_kind", "_law_due", "_law_found", "_law_times"]
def m__law_told_b : DS := (sSeq (sAsg (dCall 2 (m__law_masks 8) (aCons (dVar 1) (aCons (dVar 2) aNil))) (tgN 3)) (sSeq (sAsgO (oMeth 1 (T_on_days 8) (dVar 0) (aCons (dVar 2) aNil)) 4) (sSeq (sIf (dOrT (dNotT (asB (dOwnIsi (isiB "list") 4))) (asB (dOwnCmp true 4 (dVar 3)))) (sRet (dC (.bl false))) sNil) (sSeq (sForT 4 (tgN 5) (dNotT (asB (dCall 1 m__law_whole (aCons (dVar 5) aNil)))) (sRet (dC (.bl false)))) (sSeq (sApp 4 (dC (.int 0))) (sSeq (sSetI 4 (dC (.int 0)) (dOp opSub (dC (.int 5)) (dOwnIx 4 (dC (.int 0))))) (sRet (dC (.bl true)))))))))
def m__law_told : List D → Option D := runD 6 (m__law_told_b)
theorem sc_m__law_told : FnScope sm__law_told_N ["_law_book", "_law_tree_here", "_law_kind"] (defScope (topS 123)) := ⟨rfl, rfl, rfl, by decide +kernel, rfl, by decide +kernel, by decide +kernel⟩
theorem ok_m__law_told {f : Addr} {fd : FuncData} (F : DFun K "_law_told" "_law_told" (topS 123) f fd) (C__law_masks : Cal P w K mg base "_law_masks" 13 ["_law_tree_here", "_law_kind"] (spD K c 2 (m__law_masks 8))) (C__law_whole : Cal P w K mg base "_law_whole" 1 ["_law_found"] (spD K c 1 m__law_whole)) (M_on_days : MCalO P w K mg base c "on_days" 20 1 (T_on_days 8)) (n_isinstance : mg "isinstance" = none) (n_list : mg "list" = none) :
    FnOk P w K mg base CX0 21 f fd ["_law_book", "_law_tree_here", "_law_kind"] (spD K c 3 (m__law_told)) := by
  have S := sc_m__law_told
  refine okD' (n := 6) (m := 3) (B := m__law_told_b) F S rfl rfl rfl fun cdv A outer s H E hr => ?_
  exact (ss_cons (s_set (i := 3) S.nd (d_call C__law_masks hr (by decide) (a_cons (d_var 1) (a_cons (d_var 2) a_nil)))) (ss_cons (s_setO (i := 4) S.nd (o_meth M_on_days hr (by decide) (d_var 0) (a_cons (d_var 2) a_nil))) (ss_cons (s_if (PW.pt (d_wor (d_tnot (d_test (d_ownIsiB 4 n_isinstance n_list (by decide +kernel)))) (d_wor1 (d_townNeD 4 hr (d_var 3))))) (ss_one (s_ret d_bl)) ss_nil) (ss_cons (s_forT (i := 4) PassesOwn.never rfl (g_name (i := 5) S.nd) (d_tnot (d_test (d_call C__law_whole hr (by decide) (a_cons (d_var 5) a_nil)))) (ss_one (s_ret d_bl))) (ss_cons (s_app 4 d_int) (ss_cons (s_setI 4 (d_op opD_sub d_int (d_ownIx 4 d_int)) d_int) (ss_one (s_ret d_bl))))))))
abbrev sm__law_bit_N : List Str := ["_law_book", "_law_moment_here", "_law_day", "_law_year", "_law_month", "_law_date", "_law_times"]
def m__law_bit_b : DS := (sSeq (sAsg (dOp opFdiv (dVar 1) (dC (.int 1440))) (tgN 2)) (sSeq (sAsg (dCall 1 m_date_of (aCons (dVar 2) aNil)) (tgT [3, 4, 5])) (sSeq (sAsg (dOp opIx (dO (oMeth 1 (T_on_days 8) (dVar 0) (aCons (dCall 2 m_kind_of (aCons (dVar 3) (aCons (dVar 4) aNil))) aNil))) (dOp opSub (dVar 5) (dC (.int 1)))) (tgN 6)) (sRet (dOp opEq (dOp opEq (dOp opAnd (dOp opShr (dVar 6) (dOp opMod (dVar 1) (dC (.int 1440)))) (dC (.int 1))) (dC (.int 1))) (dMeth 1 (T_holds 8) (dVar 0) (aCons (dVar 1) aNil)))))))
def m__law_bit : List D → Option D := runD 7 (m__law_bit_b)
theorem sc_m__law_bit : FnScope sm__law_bit_N ["_law_book", "_law_moment_here"] (defScope (topS 124)) := ⟨rfl, rfl, rfl, by decide +kernel, rfl, by decide +kernel, by decide +kernel⟩
theorem ok_m__law_bit {f : Addr} {fd : FuncData} (F : DFun K "_law_bit" "_law_bit" (topS 124) f fd) (C_date_of : Cal P w K mg base "date_of" 3 ["day"] (spD K c 1 m_date_of)) (C_kind_of : Cal P w K mg base "kind_of" 4 ["year", "month"] (spD K c 2 m_kind_of)) (M_on_days : MCalO P w K mg base c "on_days" 20 1 (T_on_days 8)) (M_holds : MCal P w K mg base c "holds" 20 1 (T_holds 8)) :
    FnOk P w K mg base CX0 21 f fd ["_law_book", "_law_moment_here"] (spD K c 2 (m__law_bit)) := by
  have S := sc_m__law_bit
  refine okD' (n := 7) (m := 2) (B := m__law_bit_b) F S rfl rfl rfl fun cdv A outer s H E hr => ?_
  exact (ss_cons (s_set (i := 2) S.nd (d_op opD_fdiv (d_var 1) d_int)) (ss_cons (s_asg (d_call C_date_of hr (by decide) (a_cons (d_var 2) a_nil)) (g_tup (is := [3, 4, 5]) rfl (gs_cons (i := 3) S.nd (gs_cons (i := 4) S.nd (gs_cons (i := 5) S.nd gs_nil))))) (ss_cons (s_set (i := 6) S.nd (d_ix (d_ofO (o_meth M_on_days hr (by decide) (d_var 0) (a_cons (d_call C_kind_of hr (by decide) (a_cons (d_var 3) (a_cons (d_var 4) a_nil))) a_nil))) (d_op opD_sub (d_var 5) d_int))) (ss_one (s_ret (d_cmp (opD_eq hr) (d_cmp (opD_eq hr) (d_op opD_and (d_op opD_shr (d_var 6) (d_op opD_mod (d_var 1) d_int)) d_int) d_int) (d_meth M_holds hr (by decide) (d_var 0) (a_cons (d_var 1) a_nil))))))))
abbrev sm__law_eight_N : List Str := ["_law_script", "_law_kind", "_law_mixed", "_law_rows_here", "_law_books", "_law_k", "_law_row_here"]
def m__law_eight_b : DS := (sSeq (sAsg (dO (oLc (itR1 (aCons (dC (.int 8)) aNil)) (tgN 5) tTrue (dCall 2 m__law_row (aCons (dCall 2 m__law_cell_at (aCons (dVar 0) (aCons (dOp opAdd (dC (.int 40)) (dVar 5)) aNil))) (aCons (dVar 2) aNil))) [5])) (tgN 3)) (sSeq (sAsg (dO (oLc (itE (dVar 3)) (tgN 6) tTrue (dTup (aCons (dC (.str "row")) (aCons (dO (oLst (aCons (dVar 6) (aCons (dMeth 0 t_times (dVar 6) aNil) aNil)))) aNil))) [6])) (tgN 3)) (sSeq (sAsg (dO (oLc (itE (dVar 3)) (tgN 6) tTrue (dCall 1 (m__law_make 8) (aCons (dVar 6) aNil)) [6])) (tgN 4)) (sSeq (sIf (asB (dOp opNe (dO (oMeth 1 (T_on_days 8) (dMake 10 1 i_Joined (aCons (dVar 4) aNil)) (aCons (dVar 1) aNil))) (dCall 2 (m__law_masks 8) (aCons (dTup (aCons (dC (.str "join")) (aCons (dVar 3) aNil))) (aCons (dVar 1) aNil))))) (sRet (dC (.bl false))) sNil) (sRet (dOp opEq (dO (oMeth 1 (T_on_days 8) (dMake 11 1 i_Met (aCons (dOp opAdd (dSl (dVar 4) oNone (oSome (dC (.int 5)))) (dSl (dVar 4) (oSome (dC (.int 6))) oNone)) aNil)) (aCons (dVar 1) aNil))) (dCall 2 (m__law_masks 8) (aCons (dTup (aCons (dC (.str "meet")) (aCons (dOp opAdd (dSl (dVar 3) oNone (oSome (dC (.int 5)))) (dSl (dVar 3) (oSome (dC (.int 6))) oNone)) aNil))) (aCons (dVar 1) aNil)))))))))
def m__law_eight : List D → Option D := runD 7 (m__law_eight_b)
theorem sc_m__law_eight : FnScope sm__law_eight_N ["_law_script", "_law_kind", "_law_mixed"] (defScope (topS 125)) := ⟨rfl, rfl, rfl, by decide +kernel, rfl, by decide +kernel, by decide +kernel⟩
theorem ok_m__law_eight {f : Addr} {fd : FuncData} (F : DFun K "_law_eight" "_law_eight" (topS 125) f fd) (C__law_row : Cal P w K mg base "_law_row" 11 ["_law_cell", "_law_mixed"] (spD K c 2 m__law_row)) (C__law_cell_at : Cal P w K mg base "_law_cell_at" 1 ["_law_script", "_law_k"] (spD K c 2 m__law_cell_at)) (C__law_make : Cal P w K mg base "_law_make" 23 ["_law_tree_here"] (spD K c 1 (m__law_make 8))) (C__law_masks : Cal P w K mg base "_law_masks" 13 ["_law_tree_here", "_law_kind"] (spD K c 2 (m__law_masks 8))) (M_times : MCal P w K mg base c "times" 2 0 t_times) (M_on_days : MCalO P w K mg base c "on_days" 20 1 (T_on_days 8)) (K_Joined : Mak P w K mg base c "Joined" 10 14 1 i_Joined) (K_Met : Mak P w K mg base c "Met" 11 14 1 i_Met) (n_range : mg "range" = none) :
    FnOk P w K mg base CX0 24 f fd ["_law_script", "_law_kind", "_law_mixed"] (spD K c 3 (m__law_eight)) := by
  have S := sc_m__law_eight
  refine okD' (n := 7) (m := 3) (B := m__law_eight_b) F S rfl rfl rfl fun cdv A outer s H E hr => ?_
  exact (ss_cons (s_setLc (i := 3) (own := [("_law_k", 5)]) rfl S.nd (it_r1 n_range (a_cons d_int a_nil)) (blkOk_by (own := [("_law_k", 5)]) (N := sm__law_eight_N) (sc := defScope (topS 125)) (by decide +kernel)) (tgN_in (by decide)) (fun _ _ _ _ _ => (g_name (i := 5) S.nd)) (fun _ _ _ _ _ => ts_nil) (fun _ _ _ _ _ => (d_call C__law_row hr (by decide) (a_cons (d_call C__law_cell_at hr (by decide) (a_cons (d_var 0) (a_cons (d_op opD_add d_int (d_var 5)) a_nil))) (a_cons (d_var 2) a_nil))))) (ss_cons (s_setLc (i := 3) (own := [("_law_row_here", 6)]) rfl S.nd (it_e (d_var 3)) (blkOk_by (own := [("_law_row_here", 6)]) (N := sm__law_eight_N) (sc := defScope (topS 125)) (by decide +kernel)) (tgN_in (by decide)) (fun _ _ _ _ _ => (g_name (i := 6) S.nd)) (fun _ _ _ _ _ => ts_nil) (fun _ _ _ _ _ => (d_tup (a_cons d_str (a_cons (d_ofO (o_lst (a_cons (d_var 6) (a_cons (d_meth0 M_times hr (by decide) (d_var 6)) a_nil)))) a_nil))))) (ss_cons (s_setLc (i := 4) (own := [("_law_row_here", 6)]) rfl S.nd (it_e (d_var 3)) (blkOk_by (own := [("_law_row_here", 6)]) (N := sm__law_eight_N) (sc := defScope (topS 125)) (by decide +kernel)) (tgN_in (by decide)) (fun _ _ _ _ _ => (g_name (i := 6) S.nd)) (fun _ _ _ _ _ => ts_nil) (fun _ _ _ _ _ => (d_call C__law_make hr (by decide) (a_cons (d_var 6) a_nil)))) (ss_cons (s_if (d_tcmp (opD_ne hr) (d_ofO (o_meth M_on_days hr (by decide) (d_make K_Joined hr (by decide) (a_cons (d_var 4) a_nil)) (a_cons (d_var 1) a_nil))) (d_call C__law_masks hr (by decide) (a_cons (d_tup (a_cons d_str (a_cons (d_var 3) a_nil))) (a_cons (d_var 1) a_nil)))) (ss_one (s_ret d_bl)) ss_nil) (ss_one (s_ret (d_cmp (opD_eq hr) (d_ofO (o_meth M_on_days hr (by decide) (d_make K_Met hr (by decide) (a_cons (d_op opD_add (d_slice (d_var 4) o_none (o_some d_int)) (d_slice (d_var 4) (o_some d_int) o_none)) a_nil)) (a_cons (d_var 1) a_nil))) (d_call C__law_masks hr (by decide) (a_cons (d_tup (a_cons d_str (a_cons (d_op opD_add (d_slice (d_var 3) o_none (o_some d_int)) (d_slice (d_var 3) (o_some d_int) o_none)) a_nil))) (a_cons (d_var 1) a_nil))))))))))
abbrev sm_law_N : List Str := ["_law_script", "_law_mixed", "_law_tree_here", "_law_book", "_law_parts", "_law_kinds", "_law_kind", "_law_k"]
def m_law_b : DS := (sSeq (sAsg (dOp opEq (dOp opMod (dCall 2 m__law_cell_at (aCons (dVar 0) (aCons (dC (.int 0)) aNil))) (dC (.int 2))) (dC (.int 1))) (tgN 1)) (sSeq (sAsg (dCall 4 (m__law_tree 8) (aCons (dVar 0) (aCons (dC (.int 0)) (aCons (dC (.int 2)) (aCons (dVar 1) aNil))))) (tgN 2)) (sSeq (sAsg (dCall 1 (m__law_make 8) (aCons (dVar 2) aNil)) (tgN 3)) (sSeq (sAsg (dCall 3 m__law_digits (aCons (dOp opFdiv (dCall 2 m__law_cell_at (aCons (dVar 0) (aCons (dC (.int 0)) aNil))) (dC (.int 2))) (aCons (dO (oLst (aCons (dC (.int 7)) (aCons (dC (.int 7)) (aCons (dC (.int 91)) (aCons (dC (.int 91)) (aCons (dC (.int 91)) (aCons (dC (.int 91)) (aCons (dC (.int 91)) (aCons (dC (.int 91)) aNil)))))))))) (aCons (dVar 1) aNil)))) (tgN 4)) (sSeq (sAsg (dOp opAdd (dO (oLst (aCons (dOp opAdd (dC (.int 7)) (dOp opIx (dVar 4) (dC (.int 0)))) (aCons (dOp opAdd (dC (.int 84)) (dOp opIx (dVar 4) (dC (.int 1)))) aNil)))) (dSl (dVar 4) (oSome (dC (.int 2))) oNone)) (tgN 5)) (sSeq (sFor (itE (dOp opAdd (dVar 5) (dSl (dVar 5) oNone (oSome (dC (.int 2)))))) (tgN 6) (sIf (dNotT (asB (dCall 3 m__law_told (aCons (dVar 3) (aCons (dVar 2) (aCons (dVar 6) aNil)))))) (sRet (dC (.bl false))) sNil)) (sSeq (sFor (itR1 (aCons (dC (.int 10)) aNil)) (tgN 7) (sIf (dNotT (asB (dCall 2 m__law_bit (aCons (dVar 3) (aCons (dCall 3 m__law_near (aCons (dVar 2) (aCons (dCall 2 m__law_cell_at (aCons (dVar 0) (aCons (dOp opAdd (dC (.int 28)) (dVar 7)) aNil))) (aCons (dVar 1) aNil)))) aNil))))) (sRet (dC (.bl false))) sNil)) (sSeq (sIf (dNotT (asB (dCall 3 m__law_eight (aCons (dVar 0) (aCons (dOp opIx (dVar 5) (dC (.int 4))) (aCons (dVar 1) aNil)))))) (sRet (dC (.bl false))) sNil) (sRet (dAnd (dCall 3 m__law_told (aCons (dVar 3) (aCons (dVar 2) (aCons (dOp opIx (dVar 5) (dC (.int 2))) aNil)))) (dOp opEq (dO (oMeth 1 (T_on_days 8) (dC (.ins 8 [])) (aCons (dOp opIx (dVar 5) (dC (.int 3))) aNil))) (dOp opMul (dO (oLst (aCons (dC (.int 0)) aNil))) (dOp opIx (dCall 1 m_month_at (aCons (dOp opIx (dVar 5) (dC (.int 3))) aNil)) (dC (.int 1)))))))))))))))
def m_law : List D → Option D := runD 8 (m_law_b)
theorem sc_m_law : FnScope sm_law_N ["_law_script"] (defScope (topS 126)) := ⟨rfl, rfl, rfl, by decide +kernel, rfl, by decide +kernel, by decide +kernel⟩
theorem ok_m_law {f : Addr} {fd : FuncData} (F : DFun K "law" "law" (topS 126) f fd) (C__law_cell_at : Cal P w K mg base "_law_cell_at" 1 ["_law_script", "_law_k"] (spD K c 2 m__law_cell_at)) (C__law_tree : Cal P w K mg base "_law_tree" 19 ["_law_script", "_law_n", "_law_deep", "_law_mixed"] (spD K c 4 (m__law_tree 8))) (C__law_make : Cal P w K mg base "_law_make" 23 ["_law_tree_here"] (spD K c 1 (m__law_make 8))) (C__law_digits : Cal P w K mg base "_law_digits" 2 ["_law_cell", "_law_sizes", "_law_mixed"] (spD K c 3 m__law_digits)) (C__law_told : Cal P w K mg base "_law_told" 21 ["_law_book", "_law_tree_here", "_law_kind"] (spD K c 3 m__law_told)) (C__law_bit : Cal P w K mg base "_law_bit" 21 ["_law_book", "_law_moment_here"] (spD K c 2 m__law_bit)) (C__law_near : Cal P w K mg base "_law_near" 11 ["_law_tree_here", "_law_cell", "_law_mixed"] (spD K c 3 m__law_near)) (C__law_eight : Cal P w K mg base "_law_eight" 24 ["_law_script", "_law_kind", "_law_mixed"] (spD K c 3 m__law_eight)) (C_month_at : Cal P w K mg base "month_at" 3 ["kind"] (spD K c 1 m_month_at)) (M_on_days : MCalO P w K mg base c "on_days" 20 1 (T_on_days 8)) (K_Book : Mak0 K mg c "Book" 8) (n_range : mg "range" = none) :
    FnOk P w K mg base CX0 25 f fd ["_law_script"] (spD K c 1 (m_law)) := by
  have S := sc_m_law
  refine okD' (n := 8) (m := 1) (B := m_law_b) F S rfl rfl rfl fun cdv A outer s H E hr => ?_
  exact (ss_cons (s_set (i := 1) S.nd (d_cmp (opD_eq hr) (d_op opD_mod (d_call C__law_cell_at hr (by decide) (a_cons (d_var 0) (a_cons d_int a_nil))) d_int) d_int)) (ss_cons (s_set (i := 2) S.nd (d_call C__law_tree hr (by decide) (a_cons (d_var 0) (a_cons d_int (a_cons d_int (a_cons (d_var 1) a_nil)))))) (ss_cons (s_set (i := 3) S.nd (d_call C__law_make hr (by decide) (a_cons (d_var 2) a_nil))) (ss_cons (s_set (i := 4) S.nd (d_call C__law_digits hr (by decide) (a_cons (d_op opD_fdiv (d_call C__law_cell_at hr (by decide) (a_cons (d_var 0) (a_cons d_int a_nil))) d_int) (a_cons (d_ofO (o_lst (a_cons d_int (a_cons d_int (a_cons d_int (a_cons d_int (a_cons d_int (a_cons d_int (a_cons d_int (a_cons d_int a_nil)))))))))) (a_cons (d_var 1) a_nil))))) (ss_cons (s_set (i := 5) S.nd (d_op opD_add (d_ofO (o_lst (a_cons (d_op opD_add d_int (d_ix (d_var 4) d_int)) (a_cons (d_op opD_add d_int (d_ix (d_var 4) d_int)) a_nil)))) (d_slice (d_var 4) (o_some d_int) o_none))) (ss_cons (s_for PassesOwn.never rfl (it_e (d_op opD_add (d_var 5) (d_slice (d_var 5) o_none (o_some d_int)))) (g_name (i := 6) S.nd) (ss_one (s_if (d_tnot (d_test (d_call C__law_told hr (by decide) (a_cons (d_var 3) (a_cons (d_var 2) (a_cons (d_var 6) a_nil)))))) (ss_one (s_ret d_bl)) ss_nil))) (ss_cons (s_for PassesOwn.never rfl (it_r1 n_range (a_cons d_int a_nil)) (g_name (i := 7) S.nd) (ss_one (s_if (d_tnot (d_test (d_call C__law_bit hr (by decide) (a_cons (d_var 3) (a_cons (d_call C__law_near hr (by decide) (a_cons (d_var 2) (a_cons (d_call C__law_cell_at hr (by decide) (a_cons (d_var 0) (a_cons (d_op opD_add d_int (d_var 7)) a_nil))) (a_cons (d_var 1) a_nil)))) a_nil))))) (ss_one (s_ret d_bl)) ss_nil))) (ss_cons (s_if (d_tnot (d_test (d_call C__law_eight hr (by decide) (a_cons (d_var 0) (a_cons (d_ix (d_var 5) d_int) (a_cons (d_var 1) a_nil)))))) (ss_one (s_ret d_bl)) ss_nil) (ss_one (s_ret (d_and (d_call C__law_told hr (by decide) (a_cons (d_var 3) (a_cons (d_var 2) (a_cons (d_ix (d_var 5) d_int) a_nil)))) (d_one (d_cmp (opD_eq hr) (d_ofO (o_meth M_on_days hr (by decide) (d_make0 K_Book) (a_cons (d_ix (d_var 5) d_int) a_nil))) (d_op opD_mul (d_ofO (o_lst (a_cons d_int a_nil))) (d_ix (d_call C_month_at hr (by decide) (a_cons (d_ix (d_var 5) d_int) a_nil)) d_int)))))))))))))))
end
end
end DL
set_option maxRecDepth 100000
set_option maxHeartbeats 4000000
namespace DL
open PySem L2
noncomputable section
def cNames : List Str := ["Row", "Numbers", "Last", "Near", "LastWork", "Weekdays", "Nth", "LastOne", "Book", "Of", "Joined", "Met", "Less", "Turned"]
def clA (K : PySem.W.Frag) : Nat → Addr := clOf cNames K
def fnA (K : PySem.W.Frag) : Nat → Addr
  | 0 => He.ga K "day_mark"
  | 1 => He.ga K "weekday_mark"
  | _ => 0
def fmF : Nat → D → List Key → Option D
  | 0 => fk_0
  | _ => fun _ _ => none
def umF : Nat → D → List (List Key)
  | 0 => uk_0
  | _ => fun _ => []
def tkF : Nat → Bool
  | 0 => true
  | _ => false
def cB (K : PySem.W.Frag) : Cf := ⟨K, clA K, nmF, fnA K, fmF, umF, tkF⟩
abbrev EV (K : PySem.W.Frag) (mg : Str → Option Value) : Prop := Ev fa1 xs1 fn1 K mg
theorem ub_0 : ∀ d, (uk_0 d).length ≤ 100000 := fun d => by show kU.length ≤ 100000; decide +kernel
section
variable {P : Program} {w : World} {K : PySem.W.Frag} {mg : Str → Option Value} {base : Heap}
theorem C__law_cell_at (E : EV K mg) : Cal P w K mg base "_law_cell_at" 1 ["_law_script", "_law_k"] (spD K (cB K) 2 m__law_cell_at) := by
  obtain ⟨fd, F⟩ := E.d 1
  exact cal_mk (E.glo (E.f 1)) F.kp (F.bindsN (ps := ["_law_script", "_law_k"]) (fun _ _ _ _ _ _ us hl => match us, hl with | [_, _], _ => rfl)) (ok_m__law_cell_at (dfun F) (n_len := (E.free (E.f 2))))
theorem C__law_stir (E : EV K mg) : Cal P w K mg base "_law_stir" 1 ["_law_number"] (spD K (cB K) 1 m__law_stir) := by
  obtain ⟨fd, F⟩ := E.d 4
  exact cal_mk (E.glo (E.f 5)) F.kp (F.bindsN (ps := ["_law_number"]) (fun _ _ _ _ _ _ us hl => match us, hl with | [_], _ => rfl)) (ok_m__law_stir (dfun F) )
theorem C__law_digits (E : EV K mg) : Cal P w K mg base "_law_digits" 2 ["_law_cell", "_law_sizes", "_law_mixed"] (spD K (cB K) 3 m__law_digits) := by
  obtain ⟨fd, F⟩ := E.d 3
  exact cal_mk (E.glo (E.f 4)) F.kp (F.bindsN (ps := ["_law_cell", "_law_sizes", "_law_mixed"]) (fun _ _ _ _ _ _ us hl => match us, hl with | [_, _, _], _ => rfl)) (ok_m__law_digits (dfun F) (C__law_stir := (C__law_stir E)) (n_abs := (E.free (E.f 6))))
theorem C__law_field (E : EV K mg) : Cal P w K mg base "_law_field" 1 ["_law_parts", "_law_low", "_law_high"] (spD K (cB K) 3 m__law_field) := by
  obtain ⟨fd, F⟩ := E.d 6
  exact cal_mk (E.glo (E.f 8)) F.kp (F.bindsN (ps := ["_law_parts", "_law_low", "_law_high"]) (fun _ _ _ _ _ _ us hl => match us, hl with | [_, _, _], _ => rfl)) (ok_m__law_field (dfun F) (n_str := (E.free (E.f 9))))
theorem G_MOST_SIGNS_rows (E : EV K mg) : GlobD K (cB K) mg "MOST_SIGNS_rows" k_MOST_SIGNS_rows := E.gInt (E.f 12)
theorem C_words_of (E : EV K mg) : Cal P w K mg base "words_of" 1 ["text"] (spD K (cB K) 1 m_words_of) := by
  obtain ⟨fd, F⟩ := E.d 8
  exact cal_mk (E.glo (E.f 11)) F.kp (F.bindsN (ps := ["text"]) (fun _ _ _ _ _ _ us hl => match us, hl with | [_], _ => rfl)) (ok_m_words_of (dfun F) (g_MOST_SIGNS_rows := (G_MOST_SIGNS_rows E)) (n_isinstance := (E.free (E.f 13))) (n_str := (E.free (E.f 9))) (n_len := (E.free (E.f 2))))
theorem G_FIGURES_wholes (E : EV K mg) : GlobD K (cB K) mg "FIGURES_wholes" k_FIGURES_wholes := E.gStr (E.f 20)
theorem C_only_figures (E : EV K mg) : Cal P w K mg base "only_figures" 1 ["signs"] (spD K (cB K) 1 m_only_figures) := by
  obtain ⟨fd, F⟩ := E.d 14
  exact cal_mk (E.glo (E.f 19)) F.kp (F.bindsN (ps := ["signs"]) (fun _ _ _ _ _ _ us hl => match us, hl with | [_], _ => rfl)) (ok_m_only_figures (dfun F) (g_FIGURES_wholes := (G_FIGURES_wholes E)))
theorem C_number_in_fields (E : EV K mg) : Cal P w K mg base "number_in_fields" 2 ["text", "low", "high"] (spD K (cB K) 3 m_number_in) := by
  obtain ⟨fd, F⟩ := E.d 13
  exact cal_mk (E.glo (E.f 18)) F.kp (F.bindsN (ps := ["text", "low", "high"]) (fun _ _ _ _ _ _ us hl => match us, hl with | [_, _, _], _ => rfl)) (ok_m_number_in (dfun F) (C_only_figures := (C_only_figures E)) (n_len := (E.free (E.f 2))) (n_int := (E.free (E.f 21))))
theorem C_span_in (E : EV K mg) : Cal P w K mg base "span_in" 3 ["text", "low", "high"] (spO K (cB K) 3 m_span_in) := by
  obtain ⟨fd, F⟩ := E.d 12
  exact cal_mk (E.glo (E.f 17)) F.kp (F.bindsN (ps := ["text", "low", "high"]) (fun _ _ _ _ _ _ us hl => match us, hl with | [_, _, _], _ => rfl)) (ok_m_span_in (dfun F) (C_number_in_fields := (C_number_in_fields E)) (n_len := (E.free (E.f 2))))
theorem C_mask_of (E : EV K mg) : Cal P w K mg base "mask_of" 1 ["numbers"] (spD K (cB K) 1 m_mask_of) := by
  obtain ⟨fd, F⟩ := E.d 15
  exact cal_mk (E.glo (E.f 22)) F.kp (F.bindsN (ps := ["numbers"]) (fun _ _ _ _ _ _ us hl => match us, hl with | [_], _ => rfl)) (ok_m_mask_of (dfun F) )
theorem G_MOST_STRIDE (E : EV K mg) : GlobD K (cB K) mg "MOST_STRIDE" k_MOST_STRIDE := E.gInt (E.f 23)
theorem C_item_mask (E : EV K mg) : Cal P w K mg base "item_mask" 4 ["item", "low", "high"] (spD K (cB K) 3 m_item_mask) := by
  obtain ⟨fd, F⟩ := E.d 11
  exact cal_mk (E.glo (E.f 16)) F.kp (F.bindsN (ps := ["item", "low", "high"]) (fun _ _ _ _ _ _ us hl => match us, hl with | [_, _, _], _ => rfl)) (ok_m_item_mask (dfun F) (C_span_in := (C_span_in E)) (C_mask_of := (C_mask_of E)) (C_number_in_fields := (C_number_in_fields E)) (C_only_figures := (C_only_figures E)) (g_MOST_STRIDE := (G_MOST_STRIDE E)) (n_len := (E.free (E.f 2))) (n_list := (E.free (E.f 24))) (n_range := (E.free (E.f 25))))
theorem G_MOST_SIGNS_fields (E : EV K mg) : GlobD K (cB K) mg "MOST_SIGNS_fields" k_MOST_SIGNS_fields := E.gInt (E.f 26)
theorem G_MOST_ITEMS_fields (E : EV K mg) : GlobD K (cB K) mg "MOST_ITEMS_fields" k_MOST_ITEMS_fields := E.gInt (E.f 27)
theorem C_read_field (E : EV K mg) : Cal P w K mg base "read_field" 5 ["text", "low", "high"] (spD K (cB K) 3 m_read_field) := by
  obtain ⟨fd, F⟩ := E.d 10
  exact cal_mk (E.glo (E.f 15)) F.kp (F.bindsN (ps := ["text", "low", "high"]) (fun _ _ _ _ _ _ us hl => match us, hl with | [_, _, _], _ => rfl)) (ok_m_read_field (dfun F) (C_item_mask := (C_item_mask E)) (g_MOST_SIGNS_fields := (G_MOST_SIGNS_fields E)) (g_MOST_ITEMS_fields := (G_MOST_ITEMS_fields E)) (n_isinstance := (E.free (E.f 13))) (n_str := (E.free (E.f 9))) (n_len := (E.free (E.f 2))) (n_enumerate := (E.free (E.f 28))))
theorem G_MOST_SIGNS_marks (E : EV K mg) : GlobD K (cB K) mg "MOST_SIGNS_marks" k_MOST_SIGNS_marks := E.gInt (E.f 32)
theorem C_items_of (E : EV K mg) : Cal P w K mg base "items_of" 1 ["text"] (spD K (cB K) 1 m_items_of) := by
  obtain ⟨fd, F⟩ := E.d 18
  exact cal_mk (E.glo (E.f 31)) F.kp (F.bindsN (ps := ["text"]) (fun _ _ _ _ _ _ us hl => match us, hl with | [_], _ => rfl)) (ok_m_items_of (dfun F) (g_MOST_SIGNS_marks := (G_MOST_SIGNS_marks E)) (n_isinstance := (E.free (E.f 13))) (n_str := (E.free (E.f 9))) (n_len := (E.free (E.f 2))))
theorem C_plain_item (E : EV K mg) : Cal P w K mg base "plain_item" 6 ["item", "at", "low", "high"] (spD K (cB K) 4 m_plain_item) := by
  obtain ⟨fd, F⟩ := E.d 19
  exact cal_mk (E.glo (E.f 33)) F.kp (F.bindsN (ps := ["item", "at", "low", "high"]) (fun _ _ _ _ _ _ us hl => match us, hl with | [_, _, _, _], _ => rfl)) (ok_m_plain_item (dfun F) (C_read_field := (C_read_field E)))
theorem G_FIGURES_marks (E : EV K mg) : GlobD K (cB K) mg "FIGURES_marks" k_FIGURES_marks := E.gStr (E.f 35)
theorem C_number_in_marks (E : EV K mg) : Cal P w K mg base "number_in_marks" 1 ["text", "low", "high"] (spD K (cB K) 3 m_number_in_v2) := by
  obtain ⟨fd, F⟩ := E.d 21
  exact cal_mk (E.glo (E.f 34)) F.kp (F.bindsN (ps := ["text", "low", "high"]) (fun _ _ _ _ _ _ us hl => match us, hl with | [_, _, _], _ => rfl)) (ok_m_number_in_v2 (dfun F) (g_FIGURES_marks := (G_FIGURES_marks E)) (n_len := (E.free (E.f 2))) (n_int := (E.free (E.f 21))))
theorem Cl_Last (E : EV K mg) : Cls K (He.ga K "Last") := He.cls_ok (E.f 36)
theorem Na_Last_back (E : EV K mg) : NoAttr K (He.ga K "Last") "back" := He.noat_ok (E.f 37)
theorem K_Last (E : EV K mg) : MakD P w K mg base (cB K) "Last" 2 1 1 i_Last dd_Last := by
  obtain ⟨fd, F⟩ := E.d 22
  obtain ⟨ds, hv, hb⟩ := F.binds1 (ps := ["self", "back"]) 1 0 (by simp [He.DefD.dvs, He.Dv.v]) rfl (fun _ _ _ _ _ _ _ us its h1 h2 => match us, its, h1, h2 with | [_], [_], _, _ => ⟨_, rfl, rfl⟩)
  have b2 : Binds K fd ["self", "back"] [] := by
    obtain ⟨ds2, hv2, hb2⟩ := F.binds1 (ps := ["self", "back"]) 2 1 (by simp [He.DefD.dvs, He.Dv.v]) rfl (fun _ _ _ _ _ _ _ us its h1 h2 => match us, its, h1, h2 with | [_, _], [_], _, _ => ⟨_, rfl, rfl⟩)
    cases hv2
    exact hb2
  have o := ok_m_Last___init__ (P := P) (w := w) (mg := mg) (base := base) (c := cB K) (F := dfun F) (hnm := rfl) (hC := (Cl_Last E)) (A_back := (Na_Last_back E))
  exact ⟨⟨_, fd, ["self", "back"], (E.glo (E.f 38)), He.mkr_ok (E.f 39), b2, o⟩, ⟨_, fd, ["self", "back"], _, ds, (E.glo (E.f 38)), He.mkr_ok (E.f 39), hb, hv, fun G => ⟨_, _, rfl, rfl, rfl⟩, o⟩⟩
theorem K_LastWork (E : EV K mg) : Mak0 K mg (cB K) "LastWork" 4 := ⟨(E.glo (E.f 41)), (E.x 0), He.eqO_ok (E.x 1), He.keep_ok (E.f 40), rfl⟩
theorem Cl_Near (E : EV K mg) : Cls K (He.ga K "Near") := He.cls_ok (E.f 42)
theorem Na_Near_day (E : EV K mg) : NoAttr K (He.ga K "Near") "day" := He.noat_ok (E.f 43)
theorem K_Near (E : EV K mg) : Mak P w K mg base (cB K) "Near" 3 1 1 i_Near := by
  obtain ⟨fd, F⟩ := E.d 23
  exact ⟨_, fd, ["self", "day"], (E.glo (E.f 44)), He.mkr_ok (E.f 45), F.bindsN (fun _ _ _ _ _ _ us hl => match us, hl with | [_, _], _ => rfl), ok_m_Near___init__ (dfun F) (hnm := rfl) (hC := (Cl_Near E)) (A_day := (Na_Near_day E))⟩
theorem Cl_LastOne (E : EV K mg) : Cls K (He.ga K "LastOne") := He.cls_ok (E.f 46)
theorem Na_LastOne_weekday (E : EV K mg) : NoAttr K (He.ga K "LastOne") "weekday" := He.noat_ok (E.f 47)
theorem K_LastOne (E : EV K mg) : Mak P w K mg base (cB K) "LastOne" 7 1 1 i_LastOne := by
  obtain ⟨fd, F⟩ := E.d 25
  exact ⟨_, fd, ["self", "weekday"], (E.glo (E.f 48)), He.mkr_ok (E.f 49), F.bindsN (fun _ _ _ _ _ _ us hl => match us, hl with | [_, _], _ => rfl), ok_m_LastOne___init__ (dfun F) (hnm := rfl) (hC := (Cl_LastOne E)) (A_weekday := (Na_LastOne_weekday E))⟩
theorem Cl_Nth (E : EV K mg) : Cls K (He.ga K "Nth") := He.cls_ok (E.f 50)
theorem Na_Nth_weekday (E : EV K mg) : NoAttr K (He.ga K "Nth") "weekday" := He.noat_ok (E.f 51)
theorem Na_Nth_many (E : EV K mg) : NoAttr K (He.ga K "Nth") "many" := He.noat_ok (E.f 52)
theorem K_Nth (E : EV K mg) : Mak P w K mg base (cB K) "Nth" 6 1 2 i_Nth := by
  obtain ⟨fd, F⟩ := E.d 26
  exact ⟨_, fd, ["self", "weekday", "many"], (E.glo (E.f 53)), He.mkr_ok (E.f 54), F.bindsN (fun _ _ _ _ _ _ us hl => match us, hl with | [_, _, _], _ => rfl), ok_m_Nth___init__ (dfun F) (hnm := rfl) (hC := (Cl_Nth E)) (A_weekday := (Na_Nth_weekday E)) (A_many := (Na_Nth_many E))⟩
theorem V_marked (E : EV K mg) : CalV P w K mg base (cB K) 5 1 t_marked := by
  refine ⟨fun i F h => ?_⟩
  unfold t_marked at h
  split at h
  · cases h
    obtain ⟨fd, F⟩ := E.d 20
    exact ⟨fd, ["item"], F.kp, F.bindsN (fun _ _ _ _ _ _ us hl => match us, hl with | [_], _ => rfl), (ok_m_day_mark (dfun F) (C_number_in_marks := (C_number_in_marks E)) (K_Last := (K_Last E)) (K_LastWork := (K_LastWork E)) (K_Near := (K_Near E))).mono (by decide)⟩
  · cases h
    obtain ⟨fd, F⟩ := E.d 24
    exact ⟨fd, ["item"], F.kp, F.bindsN (fun _ _ _ _ _ _ us hl => match us, hl with | [_], _ => rfl), (ok_m_weekday_mark (dfun F) (C_number_in_marks := (C_number_in_marks E)) (K_LastOne := (K_LastOne E)) (K_Nth := (K_Nth E)) (n_len := (E.free (E.f 2)))).mono (by decide)⟩
  · cases h
theorem G_MOST_ITEMS_marks (E : EV K mg) : GlobD K (cB K) mg "MOST_ITEMS_marks" k_MOST_ITEMS_marks := E.gInt (E.f 55)
theorem G_MOST_MARKS (E : EV K mg) : GlobD K (cB K) mg "MOST_MARKS" k_MOST_MARKS := E.gInt (E.f 56)
theorem C_read_items (E : EV K mg) : Cal P w K mg base "read_items" 7 ["text", "marked", "low", "high"] (spD K (cB K) 4 m_read_items) := by
  obtain ⟨fd, F⟩ := E.d 17
  exact cal_mk (E.glo (E.f 30)) F.kp (F.bindsN (ps := ["text", "marked", "low", "high"]) (fun _ _ _ _ _ _ us hl => match us, hl with | [_, _, _, _], _ => rfl)) (ok_m_read_items (dfun F) (C_items_of := (C_items_of E)) (C_plain_item := (C_plain_item E)) (V_marked := (V_marked E)) (g_MOST_ITEMS_marks := (G_MOST_ITEMS_marks E)) (g_MOST_MARKS := (G_MOST_MARKS E)) (n_len := (E.free (E.f 2))) (n_min := (E.free (E.f 57))) (n_range := (E.free (E.f 25))))
theorem Cl_Numbers (E : EV K mg) : Cls K (He.ga K "Numbers") := He.cls_ok (E.f 58)
theorem Na_Numbers_mask (E : EV K mg) : NoAttr K (He.ga K "Numbers") "mask" := He.noat_ok (E.f 59)
theorem K_Numbers (E : EV K mg) : Mak P w K mg base (cB K) "Numbers" 1 1 1 i_Numbers := by
  obtain ⟨fd, F⟩ := E.d 27
  exact ⟨_, fd, ["self", "mask"], (E.glo (E.f 60)), He.mkr_ok (E.f 61), F.bindsN (fun _ _ _ _ _ _ us hl => match us, hl with | [_, _], _ => rfl), ok_m_Numbers___init__ (dfun F) (hnm := rfl) (hC := (Cl_Numbers E)) (A_mask := (Na_Numbers_mask E))⟩
theorem C_read_days (E : EV K mg) : Cal P w K mg base "read_days" 8 ["text"] (spD K (cB K) 1 m_read_days) := by
  obtain ⟨fd, F⟩ := E.d 16
  exact cal_mk (E.glo (E.f 29)) F.kp (F.bindsN (ps := ["text"]) (fun _ _ _ _ _ _ us hl => match us, hl with | [_], _ => rfl)) (ok_m_read_days (dfun F) (C_read_items := (C_read_items E)) (K_Numbers := (K_Numbers E)) (v_day_mark := (E.glo (E.f 62))))
theorem Cl_Weekdays (E : EV K mg) : Cls K (He.ga K "Weekdays") := He.cls_ok (E.f 64)
theorem Na_Weekdays_mask (E : EV K mg) : NoAttr K (He.ga K "Weekdays") "mask" := He.noat_ok (E.f 65)
theorem K_Weekdays (E : EV K mg) : Mak P w K mg base (cB K) "Weekdays" 5 1 1 i_Weekdays := by
  obtain ⟨fd, F⟩ := E.d 29
  exact ⟨_, fd, ["self", "mask"], (E.glo (E.f 66)), He.mkr_ok (E.f 67), F.bindsN (fun _ _ _ _ _ _ us hl => match us, hl with | [_, _], _ => rfl), ok_m_Weekdays___init__ (dfun F) (hnm := rfl) (hC := (Cl_Weekdays E)) (A_mask := (Na_Weekdays_mask E))⟩
theorem C_read_weekdays (E : EV K mg) : Cal P w K mg base "read_weekdays" 8 ["text"] (spD K (cB K) 1 m_read_weekdays) := by
  obtain ⟨fd, F⟩ := E.d 28
  exact cal_mk (E.glo (E.f 63)) F.kp (F.bindsN (ps := ["text"]) (fun _ _ _ _ _ _ us hl => match us, hl with | [_], _ => rfl)) (ok_m_read_weekdays (dfun F) (C_read_items := (C_read_items E)) (K_Weekdays := (K_Weekdays E)) (v_weekday_mark := (E.glo (E.f 68))))
theorem G_MINUTES_rows (E : EV K mg) : GlobD K (cB K) mg "MINUTES_rows" k_MINUTES_rows := E.gInt (E.f 69)
theorem G_HOURS (E : EV K mg) : GlobD K (cB K) mg "HOURS" k_HOURS := E.gInt (E.f 70)
theorem C_field_at (E : EV K mg) : Cal P w K mg base "field_at" 9 ["words", "place"] (spD K (cB K) 2 m_field_at) := by
  obtain ⟨fd, F⟩ := E.d 9
  exact cal_mk (E.glo (E.f 14)) F.kp (F.bindsN (ps := ["words", "place"]) (fun _ _ _ _ _ _ us hl => match us, hl with | [_, _], _ => rfl)) (ok_m_field_at (dfun F) (C_read_field := (C_read_field E)) (C_read_days := (C_read_days E)) (C_read_weekdays := (C_read_weekdays E)) (g_MINUTES_rows := (G_MINUTES_rows E)) (g_HOURS := (G_HOURS E)))
theorem Cl_Row (E : EV K mg) : Cls K (He.ga K "Row") := He.cls_ok (E.f 71)
theorem Na_Row_minute_mask (E : EV K mg) : NoAttr K (He.ga K "Row") "minute_mask" := He.noat_ok (E.f 72)
theorem Na_Row_hour_mask (E : EV K mg) : NoAttr K (He.ga K "Row") "hour_mask" := He.noat_ok (E.f 73)
theorem Na_Row_day_marks (E : EV K mg) : NoAttr K (He.ga K "Row") "day_marks" := He.noat_ok (E.f 74)
theorem Na_Row_month_mask (E : EV K mg) : NoAttr K (He.ga K "Row") "month_mask" := He.noat_ok (E.f 75)
theorem Na_Row_weekday_marks (E : EV K mg) : NoAttr K (He.ga K "Row") "weekday_marks" := He.noat_ok (E.f 76)
theorem K_Row (E : EV K mg) : Mak P w K mg base (cB K) "Row" 0 1 5 i_Row := by
  obtain ⟨fd, F⟩ := E.d 30
  exact ⟨_, fd, ["self", "minutes", "hours", "days", "months", "weekdays"], (E.glo (E.f 77)), He.mkr_ok (E.f 78), F.bindsN (fun _ _ _ _ _ _ us hl => match us, hl with | [_, _, _, _, _, _], _ => rfl), ok_m_Row___init__ (dfun F) (hnm := rfl) (hC := (Cl_Row E)) (A_minute_mask := (Na_Row_minute_mask E)) (A_hour_mask := (Na_Row_hour_mask E)) (A_day_marks := (Na_Row_day_marks E)) (A_month_mask := (Na_Row_month_mask E)) (A_weekday_marks := (Na_Row_weekday_marks E))⟩
theorem C_read_row (E : EV K mg) : Cal P w K mg base "read_row" 10 ["text"] (spD K (cB K) 1 m_read_row) := by
  obtain ⟨fd, F⟩ := E.d 7
  exact cal_mk (E.glo (E.f 10)) F.kp (F.bindsN (ps := ["text"]) (fun _ _ _ _ _ _ us hl => match us, hl with | [_], _ => rfl)) (ok_m_read_row (dfun F) (C_words_of := (C_words_of E)) (C_field_at := (C_field_at E)) (K_Row := (K_Row E)) (n_range := (E.free (E.f 25))))
theorem C__law_row (E : EV K mg) : Cal P w K mg base "_law_row" 11 ["_law_cell", "_law_mixed"] (spD K (cB K) 2 m__law_row) := by
  obtain ⟨fd, F⟩ := E.d 5
  exact cal_mk (E.glo (E.f 7)) F.kp (F.bindsN (ps := ["_law_cell", "_law_mixed"]) (fun _ _ _ _ _ _ us hl => match us, hl with | [_, _], _ => rfl)) (ok_m__law_row (dfun F) (C__law_digits := (C__law_digits E)) (C__law_field := (C__law_field E)) (C_read_row := (C_read_row E)) (n_str := (E.free (E.f 9))))
theorem C_numbers_in (E : EV K mg) : Cal P w K mg base "numbers_in" 1 ["mask"] (spD K (cB K) 1 m_numbers_in) := by
  obtain ⟨fd, F⟩ := E.d 32
  exact cal_mk (E.glo (E.f 79)) F.kp (F.bindsN (ps := ["mask"]) (fun _ _ _ _ _ _ us hl => match us, hl with | [_], _ => rfl)) (ok_m_numbers_in (dfun F) )
theorem Fl_hour_mask (E : EV K mg) : FldOk K (cB K) "hour_mask" at_hour_mask := by
  intro n i h
  unfold at_hour_mask at h
  split at h
  · cases h
    exact ⟨(Cl_Row E), (Na_Row_hour_mask E), (show (nmF 0).Nodup by decide +kernel), rfl⟩
  · cases h
theorem Fl_minute_mask (E : EV K mg) : FldOk K (cB K) "minute_mask" at_minute_mask := by
  intro n i h
  unfold at_minute_mask at h
  split at h
  · cases h
    exact ⟨(Cl_Row E), (Na_Row_minute_mask E), (show (nmF 0).Nodup by decide +kernel), rfl⟩
  · cases h
theorem M_times (E : EV K mg) : MCal P w K mg base (cB K) "times" 2 0 t_times := by
  refine ⟨fun i F h => ?_⟩
  unfold t_times at h
  split at h
  · cases h
    obtain ⟨fd, F⟩ := E.d 31
    exact ⟨_, fd, ["self"], (Cl_Row E), He.meth_ok (E.f 80), F.bindsN (fun _ _ _ _ _ _ us hl => match us, hl with | [_], _ => rfl), (ok_m_Row_times (dfun F) (C_numbers_in := (C_numbers_in E)) (g_MINUTES_rows := (G_MINUTES_rows E)) (f_hour_mask := (Fl_hour_mask E)) (f_minute_mask := (Fl_minute_mask E))).mono (by decide), (show _ ∉ nmF 0 by decide +kernel)⟩
  · cases h
theorem C__law_tree (E : EV K mg) : Cal P w K mg base "_law_tree" 19 ["_law_script", "_law_n", "_law_deep", "_law_mixed"] (spD K (cB K) 4 (m__law_tree 8)) := by
  obtain ⟨fd, F⟩ := E.d 2
  have b := F.bindsN (ps := ["_law_script", "_law_n", "_law_deep", "_law_mixed"]) (fun _ _ _ _ _ _ us hl => match us, hl with | [_, _, _, _], _ => rfl)
  exact cal_mk (E.glo (E.f 3)) F.kp b (rec_m__law_tree (dfun F) (E.glo (E.f 3)) b (C__law_digits := (C__law_digits E)) (C__law_cell_at := (C__law_cell_at E)) (C__law_row := (C__law_row E)) (M_times := (M_times E)) (n_range := (E.free (E.f 25))) 8)
theorem K_Book (E : EV K mg) : Mak0 K mg (cB K) "Book" 8 := ⟨(E.glo (E.f 83)), (E.x 2), He.eqO_ok (E.x 3), He.keep_ok (E.f 82), rfl⟩
theorem Cl_Of (E : EV K mg) : Cls K (He.ga K "Of") := He.cls_ok (E.f 84)
theorem Na_Of_row (E : EV K mg) : NoAttr K (He.ga K "Of") "row" := He.noat_ok (E.f 85)
theorem Na_Of_told_times (E : EV K mg) : NoAttr K (He.ga K "Of") "told_times" := He.noat_ok (E.f 86)
theorem Na_Of_told_days (E : EV K mg) : NoAttr K (He.ga K "Of") "told_days" := He.noat_ok (E.f 87)
theorem Ic_Row (E : EV K mg) : C8.InsC K (He.ga K "Row") := ⟨(Cl_Row E), He.eqO_ok (E.x 5), He.eqO_ok (E.x 6), of_decide_eq_true (E.x 7), of_decide_eq_true (E.x 8), of_decide_eq_true (E.x 4)⟩
theorem Is_Row (E : EV K mg) : IsiOk K (cB K) (.ref (He.ga K "Row")) isiRow := by
  refine ⟨fun t r h => ?_, fun i r h => ?_⟩
  · unfold isiRow at h
    split at h
    · cases h
      exact of_decide_eq_true (E.x 4)
    · cases h
  · unfold isiRow at h
    split at h
    · rename_i z
      cases z
      exact (Ic_Row E)
    · cases h
theorem K_Of (E : EV K mg) : Mak P w K mg base (cB K) "Of" 9 3 1 i_Of := by
  obtain ⟨fd, F⟩ := E.d 34
  exact ⟨_, fd, ["self", "row"], (E.glo (E.f 88)), He.mkr_ok (E.f 89), F.bindsN (fun _ _ _ _ _ _ us hl => match us, hl with | [_, _], _ => rfl), ok_m_Of___init__ (dfun F) (hnm := rfl) (hC := (Cl_Of E)) (A_row := (Na_Of_row E)) (A_told_times := (Na_Of_told_times E)) (A_told_days := (Na_Of_told_days E)) (M_times := (M_times E)) (x_Row := (E.glo (E.f 77))) (q_Row := (Is_Row E)) (n_isinstance := (E.free (E.f 13))) (h_M0 := ⟨rfl, rfl, rfl, ub_0⟩)⟩
theorem Cl_Joined (E : EV K mg) : Cls K (He.ga K "Joined") := He.cls_ok (E.f 90)
theorem Na_Joined_books (E : EV K mg) : NoAttr K (He.ga K "Joined") "books" := He.noat_ok (E.f 91)
theorem Cl_Book (E : EV K mg) : Cls K (He.ga K "Book") := He.cls_ok (E.f 94)
theorem Ic_Book (E : EV K mg) : C8.InsC K (He.ga K "Book") := ⟨(Cl_Book E), He.eqO_ok (E.x 15), He.eqO_ok (E.x 6), of_decide_eq_true (E.x 7), of_decide_eq_true (E.x 16), of_decide_eq_true (E.x 9)⟩
theorem Ic_Of (E : EV K mg) : C8.InsC K (He.ga K "Of") := ⟨(Cl_Of E), He.eqO_ok (E.x 17), He.eqO_ok (E.x 6), of_decide_eq_true (E.x 7), of_decide_eq_true (E.x 18), of_decide_eq_true (E.x 19)⟩
theorem Ic_Joined (E : EV K mg) : C8.InsC K (He.ga K "Joined") := ⟨(Cl_Joined E), He.eqO_ok (E.x 20), He.eqO_ok (E.x 6), of_decide_eq_true (E.x 7), of_decide_eq_true (E.x 21), of_decide_eq_true (E.x 22)⟩
theorem Cl_Met (E : EV K mg) : Cls K (He.ga K "Met") := He.cls_ok (E.f 95)
theorem Ic_Met (E : EV K mg) : C8.InsC K (He.ga K "Met") := ⟨(Cl_Met E), He.eqO_ok (E.x 23), He.eqO_ok (E.x 6), of_decide_eq_true (E.x 7), of_decide_eq_true (E.x 24), of_decide_eq_true (E.x 25)⟩
theorem Cl_Less (E : EV K mg) : Cls K (He.ga K "Less") := He.cls_ok (E.f 96)
theorem Ic_Less (E : EV K mg) : C8.InsC K (He.ga K "Less") := ⟨(Cl_Less E), He.eqO_ok (E.x 26), He.eqO_ok (E.x 6), of_decide_eq_true (E.x 7), of_decide_eq_true (E.x 27), of_decide_eq_true (E.x 28)⟩
theorem Cl_Turned (E : EV K mg) : Cls K (He.ga K "Turned") := He.cls_ok (E.f 97)
theorem Ic_Turned (E : EV K mg) : C8.InsC K (He.ga K "Turned") := ⟨(Cl_Turned E), He.eqO_ok (E.x 29), He.eqO_ok (E.x 6), of_decide_eq_true (E.x 7), of_decide_eq_true (E.x 30), of_decide_eq_true (E.x 31)⟩
theorem Is_Book (E : EV K mg) : IsiOk K (cB K) (.ref (He.ga K "Book")) isiBook := by
  refine ⟨fun t r h => ?_, fun i r h => ?_⟩
  · unfold isiBook at h
    split at h
    · cases h
      exact of_decide_eq_true (E.x 9)
    · cases h
      exact of_decide_eq_true (E.x 10)
    · cases h
      exact of_decide_eq_true (E.x 11)
    · cases h
      exact of_decide_eq_true (E.x 12)
    · cases h
      exact of_decide_eq_true (E.x 13)
    · cases h
      exact of_decide_eq_true (E.x 14)
    · cases h
  · unfold isiBook at h
    split at h
    · rename_i z
      cases z
      exact (Ic_Book E)
    · rename_i z
      cases z
      exact (Ic_Of E)
    · rename_i z
      cases z
      exact (Ic_Joined E)
    · rename_i z
      cases z
      exact (Ic_Met E)
    · rename_i z
      cases z
      exact (Ic_Less E)
    · rename_i z
      cases z
      exact (Ic_Turned E)
    · cases h
theorem C_need_book (E : EV K mg) : Cal P w K mg base "need_book" 1 ["book"] (spD K (cB K) 1 m_need_book) := by
  obtain ⟨fd, F⟩ := E.d 36
  exact cal_mk (E.glo (E.f 93)) F.kp (F.bindsN (ps := ["book"]) (fun _ _ _ _ _ _ us hl => match us, hl with | [_], _ => rfl)) (ok_m_need_book (dfun F) (x_Book := (E.glo (E.f 83))) (q_Book := (Is_Book E)) (n_isinstance := (E.free (E.f 13))))
theorem Na_Met_books (E : EV K mg) : NoAttr K (He.ga K "Met") "books" := He.noat_ok (E.f 102)
theorem Fl_books (E : EV K mg) : FldOk K (cB K) "books" at_books := by
  intro n i h
  unfold at_books at h
  split at h
  · cases h
    exact ⟨(Cl_Joined E), (Na_Joined_books E), (show (nmF 10).Nodup by decide +kernel), rfl⟩
  · cases h
    exact ⟨(Cl_Met E), (Na_Met_books E), (show (nmF 11).Nodup by decide +kernel), rfl⟩
  · cases h
theorem Na_Less_one (E : EV K mg) : NoAttr K (He.ga K "Less") "one" := He.noat_ok (E.f 105)
theorem Na_Turned_one (E : EV K mg) : NoAttr K (He.ga K "Turned") "one" := He.noat_ok (E.f 106)
theorem Fl_one (E : EV K mg) : FldOk K (cB K) "one" at_one := by
  intro n i h
  unfold at_one at h
  split at h
  · cases h
    exact ⟨(Cl_Less E), (Na_Less_one E), (show (nmF 12).Nodup by decide +kernel), rfl⟩
  · cases h
    exact ⟨(Cl_Turned E), (Na_Turned_one E), (show (nmF 13).Nodup by decide +kernel), rfl⟩
  · cases h
theorem Na_Less_other (E : EV K mg) : NoAttr K (He.ga K "Less") "other" := He.noat_ok (E.f 107)
theorem Fl_other (E : EV K mg) : FldOk K (cB K) "other" at_other := by
  intro n i h
  unfold at_other at h
  split at h
  · cases h
    exact ⟨(Cl_Less E), (Na_Less_other E), (show (nmF 12).Nodup by decide +kernel), rfl⟩
  · cases h
theorem MT_tally (E : EV K mg) : ∀ n, MCal P w K mg base (cB K) "tally" (3 + n) 0 (T_tally n) := by
  intro n
  induction n with
  | zero => exact ⟨fun i F h => nomatch h⟩
  | succ n ih =>
    refine ⟨fun i F h => ?_⟩
    unfold T_tally at h
    split at h
    · cases h
      obtain ⟨fd, F⟩ := E.d 38
      exact ⟨_, fd, ["self"], (Cl_Book E), He.meth_ok (E.f 99), F.bindsN (fun _ _ _ _ _ _ us hl => match us, hl with | [_], _ => rfl), (ok_m_Book_tally (dfun F) ).mono (by omega), (show _ ∉ nmF 8 by decide +kernel)⟩
    · cases h
      obtain ⟨fd, F⟩ := E.d 39
      exact ⟨_, fd, ["self"], (Cl_Of E), He.meth_ok (E.f 100), F.bindsN (fun _ _ _ _ _ _ us hl => match us, hl with | [_], _ => rfl), (ok_m_Book_tally (dfun F) ).mono (by omega), (show _ ∉ nmF 9 by decide +kernel)⟩
    · cases h
      obtain ⟨fd, F⟩ := E.d 40
      exact ⟨_, fd, ["self"], (Cl_Joined E), He.meth_ok (E.f 103), F.bindsN (fun _ _ _ _ _ _ us hl => match us, hl with | [_], _ => rfl), (ok_m_Joined_tally (dfun F) (lv := _) (hlv := by omega) (M_tally := ih) (n_sum := (E.free (E.f 101))) (f_books := (Fl_books E))).mono (by omega), (show _ ∉ nmF 10 by decide +kernel)⟩
    · cases h
      obtain ⟨fd, F⟩ := E.d 41
      exact ⟨_, fd, ["self"], (Cl_Met E), He.meth_ok (E.f 104), F.bindsN (fun _ _ _ _ _ _ us hl => match us, hl with | [_], _ => rfl), (ok_m_Met_tally (dfun F) (lv := _) (hlv := by omega) (M_tally := ih) (n_sum := (E.free (E.f 101))) (f_books := (Fl_books E))).mono (by omega), (show _ ∉ nmF 11 by decide +kernel)⟩
    · cases h
      obtain ⟨fd, F⟩ := E.d 42
      exact ⟨_, fd, ["self"], (Cl_Less E), He.meth_ok (E.f 108), F.bindsN (fun _ _ _ _ _ _ us hl => match us, hl with | [_], _ => rfl), (ok_m_Less_tally (dfun F) (lv := _) (hlv := by omega) (M_tally := ih) (f_one := (Fl_one E)) (f_other := (Fl_other E))).mono (by omega), (show _ ∉ nmF 12 by decide +kernel)⟩
    · cases h
      obtain ⟨fd, F⟩ := E.d 43
      exact ⟨_, fd, ["self"], (Cl_Turned E), He.meth_ok (E.f 109), F.bindsN (fun _ _ _ _ _ _ us hl => match us, hl with | [_], _ => rfl), (ok_m_Turned_tally (dfun F) (lv := _) (hlv := by omega) (M_tally := ih) (f_one := (Fl_one E))).mono (by omega), (show _ ∉ nmF 13 by decide +kernel)⟩
    · cases h
theorem MT_depth (E : EV K mg) : ∀ n, MCal P w K mg base (cB K) "depth" (3 + n) 0 (T_depth n) := by
  intro n
  induction n with
  | zero => exact ⟨fun i F h => nomatch h⟩
  | succ n ih =>
    refine ⟨fun i F h => ?_⟩
    unfold T_depth at h
    split at h
    · cases h
      obtain ⟨fd, F⟩ := E.d 44
      exact ⟨_, fd, ["self"], (Cl_Book E), He.meth_ok (E.f 110), F.bindsN (fun _ _ _ _ _ _ us hl => match us, hl with | [_], _ => rfl), (ok_m_Book_depth (dfun F) ).mono (by omega), (show _ ∉ nmF 8 by decide +kernel)⟩
    · cases h
      obtain ⟨fd, F⟩ := E.d 45
      exact ⟨_, fd, ["self"], (Cl_Of E), He.meth_ok (E.f 111), F.bindsN (fun _ _ _ _ _ _ us hl => match us, hl with | [_], _ => rfl), (ok_m_Book_depth (dfun F) ).mono (by omega), (show _ ∉ nmF 9 by decide +kernel)⟩
    · cases h
      obtain ⟨fd, F⟩ := E.d 46
      exact ⟨_, fd, ["self"], (Cl_Joined E), He.meth_ok (E.f 113), F.bindsN (fun _ _ _ _ _ _ us hl => match us, hl with | [_], _ => rfl), (ok_m_Joined_depth (dfun F) (lv := _) (hlv := by omega) (M_depth := ih) (n_max := (E.free (E.f 112))) (f_books := (Fl_books E))).mono (by omega), (show _ ∉ nmF 10 by decide +kernel)⟩
    · cases h
      obtain ⟨fd, F⟩ := E.d 47
      exact ⟨_, fd, ["self"], (Cl_Met E), He.meth_ok (E.f 114), F.bindsN (fun _ _ _ _ _ _ us hl => match us, hl with | [_], _ => rfl), (ok_m_Met_depth (dfun F) (lv := _) (hlv := by omega) (M_depth := ih) (n_max := (E.free (E.f 112))) (f_books := (Fl_books E))).mono (by omega), (show _ ∉ nmF 11 by decide +kernel)⟩
    · cases h
      obtain ⟨fd, F⟩ := E.d 48
      exact ⟨_, fd, ["self"], (Cl_Less E), He.meth_ok (E.f 115), F.bindsN (fun _ _ _ _ _ _ us hl => match us, hl with | [_], _ => rfl), (ok_m_Less_depth (dfun F) (lv := _) (hlv := by omega) (M_depth := ih) (n_max := (E.free (E.f 112))) (f_other := (Fl_other E)) (f_one := (Fl_one E))).mono (by omega), (show _ ∉ nmF 12 by decide +kernel)⟩
    · cases h
      obtain ⟨fd, F⟩ := E.d 49
      exact ⟨_, fd, ["self"], (Cl_Turned E), He.meth_ok (E.f 116), F.bindsN (fun _ _ _ _ _ _ us hl => match us, hl with | [_], _ => rfl), (ok_m_Turned_depth (dfun F) (lv := _) (hlv := by omega) (M_depth := ih) (f_one := (Fl_one E))).mono (by omega), (show _ ∉ nmF 13 by decide +kernel)⟩
    · cases h
theorem G_MOST_COUNTED (E : EV K mg) : GlobD K (cB K) mg "MOST_COUNTED" k_MOST_COUNTED := E.gInt (E.f 117)
theorem G_DEEPEST (E : EV K mg) : GlobD K (cB K) mg "DEEPEST" k_DEEPEST := E.gInt (E.f 118)
theorem C_need_small (E : EV K mg) : Cal P w K mg base "need_small" 12 ["books"] (spD K (cB K) 1 m_need_small) := by
  obtain ⟨fd, F⟩ := E.d 37
  exact cal_mk (E.glo (E.f 98)) F.kp (F.bindsN (ps := ["books"]) (fun _ _ _ _ _ _ us hl => match us, hl with | [_], _ => rfl)) (ok_m_need_small (dfun F) (M_tally := (MT_tally E 8)) (M_depth := (MT_depth E 8)) (g_MOST_COUNTED := (G_MOST_COUNTED E)) (g_DEEPEST := (G_DEEPEST E)) (n_sum := (E.free (E.f 101))) (n_max := (E.free (E.f 112))))
theorem G_MOST_PARTS (E : EV K mg) : GlobD K (cB K) mg "MOST_PARTS" k_MOST_PARTS := E.gInt (E.f 119)
theorem C_books_of (E : EV K mg) : Cal P w K mg base "books_of" 13 ["books"] (spD K (cB K) 1 m_books_of) := by
  obtain ⟨fd, F⟩ := E.d 35
  exact cal_mk (E.glo (E.f 92)) F.kp (F.bindsN (ps := ["books"]) (fun _ _ _ _ _ _ us hl => match us, hl with | [_], _ => rfl)) (ok_m_books_of (dfun F) (C_need_book := (C_need_book E)) (C_need_small := (C_need_small E)) (g_MOST_PARTS := (G_MOST_PARTS E)) (n_isinstance := (E.free (E.f 13))) (n_list := (E.free (E.f 24))) (n_len := (E.free (E.f 2))) (n_tuple := (E.free (E.f 120))))
theorem K_Joined (E : EV K mg) : Mak P w K mg base (cB K) "Joined" 10 14 1 i_Joined := by
  obtain ⟨fd, F⟩ := E.d 50
  exact ⟨_, fd, ["self", "books"], (E.glo (E.f 121)), He.mkr_ok (E.f 122), F.bindsN (fun _ _ _ _ _ _ us hl => match us, hl with | [_, _], _ => rfl), ok_m_Joined___init__ (dfun F) (hnm := rfl) (hC := (Cl_Joined E)) (A_books := (Na_Joined_books E)) (C_books_of := (C_books_of E))⟩
theorem K_Met (E : EV K mg) : Mak P w K mg base (cB K) "Met" 11 14 1 i_Met := by
  obtain ⟨fd, F⟩ := E.d 51
  exact ⟨_, fd, ["self", "books"], (E.glo (E.f 123)), He.mkr_ok (E.f 124), F.bindsN (fun _ _ _ _ _ _ us hl => match us, hl with | [_, _], _ => rfl), ok_m_Met___init__ (dfun F) (hnm := rfl) (hC := (Cl_Met E)) (A_books := (Na_Met_books E)) (C_books_of := (C_books_of E))⟩
theorem K_Less (E : EV K mg) : Mak P w K mg base (cB K) "Less" 12 13 2 i_Less := by
  obtain ⟨fd, F⟩ := E.d 52
  exact ⟨_, fd, ["self", "one", "other"], (E.glo (E.f 125)), He.mkr_ok (E.f 126), F.bindsN (fun _ _ _ _ _ _ us hl => match us, hl with | [_, _, _], _ => rfl), ok_m_Less___init__ (dfun F) (hnm := rfl) (hC := (Cl_Less E)) (A_one := (Na_Less_one E)) (A_other := (Na_Less_other E)) (C_need_book := (C_need_book E)) (C_need_small := (C_need_small E))⟩
theorem K_Turned (E : EV K mg) : Mak P w K mg base (cB K) "Turned" 13 13 1 i_Turned := by
  obtain ⟨fd, F⟩ := E.d 53
  exact ⟨_, fd, ["self", "one"], (E.glo (E.f 127)), He.mkr_ok (E.f 128), F.bindsN (fun _ _ _ _ _ _ us hl => match us, hl with | [_, _], _ => rfl), ok_m_Turned___init__ (dfun F) (hnm := rfl) (hC := (Cl_Turned E)) (A_one := (Na_Turned_one E)) (C_need_book := (C_need_book E)) (C_need_small := (C_need_small E))⟩
theorem C__law_make (E : EV K mg) : Cal P w K mg base "_law_make" 23 ["_law_tree_here"] (spD K (cB K) 1 (m__law_make 8)) := by
  obtain ⟨fd, F⟩ := E.d 33
  have b := F.bindsN (ps := ["_law_tree_here"]) (fun _ _ _ _ _ _ us hl => match us, hl with | [_], _ => rfl)
  exact cal_mk (E.glo (E.f 81)) F.kp b (rec_m__law_make (dfun F) (E.glo (E.f 81)) b (K_Book := (K_Book E)) (K_Of := (K_Of E)) (K_Joined := (K_Joined E)) (K_Met := (K_Met E)) (K_Less := (K_Less E)) (K_Turned := (K_Turned E)) 8)
theorem C_is_long (E : EV K mg) : Cal P w K mg base "is_long" 1 ["year"] (spD K (cB K) 1 m_is_long) := by
  obtain ⟨fd, F⟩ := E.d 58
  exact cal_mk (E.glo (E.f 133)) F.kp (F.bindsN (ps := ["year"]) (fun _ _ _ _ _ _ us hl => match us, hl with | [_], _ => rfl)) (ok_m_is_long (dfun F) )
theorem G_LASTS (E : EV K mg) : GlobD K (cB K) mg "LASTS" k_LASTS := E.gTup (ns := [31, 28, 31, 30, 31, 30, 31, 31, 30, 31, 30, 31]) (E.f 134) (E.x 32)
theorem C_last_of (E : EV K mg) : Cal P w K mg base "last_of" 2 ["year", "month"] (spD K (cB K) 2 m_last_of) := by
  obtain ⟨fd, F⟩ := E.d 57
  exact cal_mk (E.glo (E.f 132)) F.kp (F.bindsN (ps := ["year", "month"]) (fun _ _ _ _ _ _ us hl => match us, hl with | [_, _], _ => rfl)) (ok_m_last_of (dfun F) (C_is_long := (C_is_long E)) (g_LASTS := (G_LASTS E)))
theorem G_LONG (E : EV K mg) : GlobD K (cB K) mg "LONG" k_LONG := E.gInt (E.f 135)
theorem G_SHORT_YEAR (E : EV K mg) : GlobD K (cB K) mg "SHORT_YEAR" k_SHORT_YEAR := E.gInt (E.f 136)
theorem C_month_at (E : EV K mg) : Cal P w K mg base "month_at" 3 ["kind"] (spD K (cB K) 1 m_month_at) := by
  obtain ⟨fd, F⟩ := E.d 56
  exact cal_mk (E.glo (E.f 131)) F.kp (F.bindsN (ps := ["kind"]) (fun _ _ _ _ _ _ us hl => match us, hl with | [_], _ => rfl)) (ok_m_month_at (dfun F) (C_last_of := (C_last_of E)) (g_LONG := (G_LONG E)) (g_SHORT_YEAR := (G_SHORT_YEAR E)) (n_divmod := (E.free (E.f 137))))
theorem C__law_joined (E : EV K mg) : Cal P w K mg base "_law_joined" 1 ["_law_word", "_law_one", "_law_other"] (spD K (cB K) 3 m__law_joined) := by
  obtain ⟨fd, F⟩ := E.d 59
  exact cal_mk (E.glo (E.f 138)) F.kp (F.bindsN (ps := ["_law_word", "_law_one", "_law_other"]) (fun _ _ _ _ _ _ us hl => match us, hl with | [_, _, _], _ => rfl)) (ok_m__law_joined (dfun F) )
theorem Fl_mask (E : EV K mg) : FldOk K (cB K) "mask" at_mask := by
  intro n i h
  unfold at_mask at h
  split at h
  · cases h
    exact ⟨(Cl_Numbers E), (Na_Numbers_mask E), (show (nmF 1).Nodup by decide +kernel), rfl⟩
  · cases h
    exact ⟨(Cl_Weekdays E), (Na_Weekdays_mask E), (show (nmF 5).Nodup by decide +kernel), rfl⟩
  · cases h
theorem Fl_back (E : EV K mg) : FldOk K (cB K) "back" at_back := by
  intro n i h
  unfold at_back at h
  split at h
  · cases h
    exact ⟨(Cl_Last E), (Na_Last_back E), (show (nmF 2).Nodup by decide +kernel), rfl⟩
  · cases h
theorem C_weekday_in (E : EV K mg) : Cal P w K mg base "weekday_in" 1 ["day", "first"] (spD K (cB K) 2 m_weekday_in) := by
  obtain ⟨fd, F⟩ := E.d 65
  exact cal_mk (E.glo (E.f 142)) F.kp (F.bindsN (ps := ["day", "first"]) (fun _ _ _ _ _ _ us hl => match us, hl with | [_, _], _ => rfl)) (ok_m_weekday_in (dfun F) )
theorem G_SATURDAY (E : EV K mg) : GlobD K (cB K) mg "SATURDAY" k_SATURDAY := E.gInt (E.f 143)
theorem G_SUNDAY (E : EV K mg) : GlobD K (cB K) mg "SUNDAY" k_SUNDAY := E.gInt (E.f 144)
theorem Fl_day (E : EV K mg) : FldOk K (cB K) "day" at_day := by
  intro n i h
  unfold at_day at h
  split at h
  · cases h
    exact ⟨(Cl_Near E), (Na_Near_day E), (show (nmF 3).Nodup by decide +kernel), rfl⟩
  · cases h
theorem Cl_LastWork (E : EV K mg) : Cls K (He.ga K "LastWork") := He.cls_ok (E.f 146)
theorem Fl_weekday (E : EV K mg) : FldOk K (cB K) "weekday" at_weekday := by
  intro n i h
  unfold at_weekday at h
  split at h
  · cases h
    exact ⟨(Cl_Nth E), (Na_Nth_weekday E), (show (nmF 6).Nodup by decide +kernel), rfl⟩
  · cases h
    exact ⟨(Cl_LastOne E), (Na_LastOne_weekday E), (show (nmF 7).Nodup by decide +kernel), rfl⟩
  · cases h
theorem Fl_many (E : EV K mg) : FldOk K (cB K) "many" at_many := by
  intro n i h
  unfold at_many at h
  split at h
  · cases h
    exact ⟨(Cl_Nth E), (Na_Nth_many E), (show (nmF 6).Nodup by decide +kernel), rfl⟩
  · cases h
theorem M_days (E : EV K mg) : MCal P w K mg base (cB K) "days" 2 2 t_days := by
  refine ⟨fun i F h => ?_⟩
  unfold t_days at h
  split at h
  · cases h
    obtain ⟨fd, F⟩ := E.d 62
    exact ⟨_, fd, ["self", "last", "first"], (Cl_Numbers E), He.meth_ok (E.f 140), F.bindsN (fun _ _ _ _ _ _ us hl => match us, hl with | [_, _, _], _ => rfl), (ok_m_Numbers_days (dfun F) (f_mask := (Fl_mask E))).mono (by decide), (show _ ∉ nmF 1 by decide +kernel)⟩
  · cases h
    obtain ⟨fd, F⟩ := E.d 63
    exact ⟨_, fd, ["self", "last", "first"], (Cl_Last E), He.meth_ok (E.f 141), F.bindsN (fun _ _ _ _ _ _ us hl => match us, hl with | [_, _, _], _ => rfl), (ok_m_Last_days (dfun F) (f_back := (Fl_back E))).mono (by decide), (show _ ∉ nmF 2 by decide +kernel)⟩
  · cases h
    obtain ⟨fd, F⟩ := E.d 64
    exact ⟨_, fd, ["self", "last", "first"], (Cl_Near E), He.meth_ok (E.f 145), F.bindsN (fun _ _ _ _ _ _ us hl => match us, hl with | [_, _, _], _ => rfl), (ok_m_Near_days (dfun F) (C_weekday_in := (C_weekday_in E)) (g_SATURDAY := (G_SATURDAY E)) (g_SUNDAY := (G_SUNDAY E)) (f_day := (Fl_day E))).mono (by decide), (show _ ∉ nmF 3 by decide +kernel)⟩
  · cases h
    obtain ⟨fd, F⟩ := E.d 66
    exact ⟨_, fd, ["self", "last", "first"], (Cl_LastWork E), He.meth_ok (E.f 147), F.bindsN (fun _ _ _ _ _ _ us hl => match us, hl with | [_, _, _], _ => rfl), (ok_m_LastWork_days (dfun F) (C_weekday_in := (C_weekday_in E)) (g_SATURDAY := (G_SATURDAY E)) (g_SUNDAY := (G_SUNDAY E))).mono (by decide), (show _ ∉ nmF 4 by decide +kernel)⟩
  · cases h
    obtain ⟨fd, F⟩ := E.d 67
    exact ⟨_, fd, ["self", "last", "first"], (Cl_Weekdays E), He.meth_ok (E.f 148), F.bindsN (fun _ _ _ _ _ _ us hl => match us, hl with | [_, _, _], _ => rfl), (ok_m_Weekdays_days (dfun F) (C_weekday_in := (C_weekday_in E)) (n_range := (E.free (E.f 25))) (f_mask := (Fl_mask E))).mono (by decide), (show _ ∉ nmF 5 by decide +kernel)⟩
  · cases h
    obtain ⟨fd, F⟩ := E.d 68
    exact ⟨_, fd, ["self", "last", "first"], (Cl_Nth E), He.meth_ok (E.f 149), F.bindsN (fun _ _ _ _ _ _ us hl => match us, hl with | [_, _, _], _ => rfl), (ok_m_Nth_days (dfun F) (f_weekday := (Fl_weekday E)) (f_many := (Fl_many E))).mono (by decide), (show _ ∉ nmF 6 by decide +kernel)⟩
  · cases h
    obtain ⟨fd, F⟩ := E.d 69
    exact ⟨_, fd, ["self", "last", "first"], (Cl_LastOne E), He.meth_ok (E.f 150), F.bindsN (fun _ _ _ _ _ _ us hl => match us, hl with | [_, _, _], _ => rfl), (ok_m_LastOne_days (dfun F) (C_weekday_in := (C_weekday_in E)) (f_weekday := (Fl_weekday E))).mono (by decide), (show _ ∉ nmF 7 by decide +kernel)⟩
  · cases h
theorem C_any_days (E : EV K mg) : Cal P w K mg base "any_days" 3 ["marks", "last", "first"] (spD K (cB K) 3 m_any_days) := by
  obtain ⟨fd, F⟩ := E.d 61
  exact cal_mk (E.glo (E.f 139)) F.kp (F.bindsN (ps := ["marks", "last", "first"]) (fun _ _ _ _ _ _ us hl => match us, hl with | [_, _, _], _ => rfl)) (ok_m_any_days (dfun F) (M_days := (M_days E)))
theorem Fl_month_mask (E : EV K mg) : FldOk K (cB K) "month_mask" at_month_mask := by
  intro n i h
  unfold at_month_mask at h
  split at h
  · cases h
    exact ⟨(Cl_Row E), (Na_Row_month_mask E), (show (nmF 0).Nodup by decide +kernel), rfl⟩
  · cases h
theorem Fl_day_marks (E : EV K mg) : FldOk K (cB K) "day_marks" at_day_marks := by
  intro n i h
  unfold at_day_marks at h
  split at h
  · cases h
    exact ⟨(Cl_Row E), (Na_Row_day_marks E), (show (nmF 0).Nodup by decide +kernel), rfl⟩
  · cases h
theorem Fl_weekday_marks (E : EV K mg) : FldOk K (cB K) "weekday_marks" at_weekday_marks := by
  intro n i h
  unfold at_weekday_marks at h
  split at h
  · cases h
    exact ⟨(Cl_Row E), (Na_Row_weekday_marks E), (show (nmF 0).Nodup by decide +kernel), rfl⟩
  · cases h
theorem M_days_in (E : EV K mg) : MCal P w K mg base (cB K) "days_in" 5 1 t_days_in := by
  refine ⟨fun i F h => ?_⟩
  unfold t_days_in at h
  split at h
  · cases h
    obtain ⟨fd, F⟩ := E.d 60
    exact ⟨_, fd, ["self", "kind"], (Cl_Row E), He.meth_ok (E.f 151), F.bindsN (fun _ _ _ _ _ _ us hl => match us, hl with | [_, _], _ => rfl), (ok_m_Row_days_in (dfun F) (C_month_at := (C_month_at E)) (C_any_days := (C_any_days E)) (f_month_mask := (Fl_month_mask E)) (f_day_marks := (Fl_day_marks E)) (f_weekday_marks := (Fl_weekday_marks E))).mono (by decide), (show _ ∉ nmF 0 by decide +kernel)⟩
  · cases h
theorem C__law_masks (E : EV K mg) : Cal P w K mg base "_law_masks" 13 ["_law_tree_here", "_law_kind"] (spD K (cB K) 2 (m__law_masks 8)) := by
  obtain ⟨fd, F⟩ := E.d 55
  have b := F.bindsN (ps := ["_law_tree_here", "_law_kind"]) (fun _ _ _ _ _ _ us hl => match us, hl with | [_, _], _ => rfl)
  exact cal_mk (E.glo (E.f 130)) F.kp b (rec_m__law_masks (dfun F) (E.glo (E.f 130)) b (C_month_at := (C_month_at E)) (C__law_joined := (C__law_joined E)) (M_days_in := (M_days_in E)) (n_range := (E.free (E.f 25))) 8)
theorem C__law_whole (E : EV K mg) : Cal P w K mg base "_law_whole" 1 ["_law_found"] (spD K (cB K) 1 m__law_whole) := by
  obtain ⟨fd, F⟩ := E.d 70
  exact cal_mk (E.glo (E.f 152)) F.kp (F.bindsN (ps := ["_law_found"]) (fun _ _ _ _ _ _ us hl => match us, hl with | [_], _ => rfl)) (ok_m__law_whole (dfun F) (n_isinstance := (E.free (E.f 13))) (n_int := (E.free (E.f 21))) (n_bool := (E.free (E.f 153))))
theorem C_days_of (E : EV K mg) : Cal P w K mg base "days_of" 4 ["kind"] (spD K (cB K) 1 m_days_of) := by
  obtain ⟨fd, F⟩ := E.d 72
  exact cal_mk (E.glo (E.f 154)) F.kp (F.bindsN (ps := ["kind"]) (fun _ _ _ _ _ _ us hl => match us, hl with | [_], _ => rfl)) (ok_m_days_of (dfun F) (C_month_at := (C_month_at E)))
theorem M_months (E : EV K mg) : MCal P w K mg base (cB K) "months" 1 0 t_months := by
  refine ⟨fun i F h => ?_⟩
  unfold t_months at h
  split at h
  · cases h
    obtain ⟨fd, F⟩ := E.d 74
    exact ⟨_, fd, ["self"], (Cl_Row E), He.meth_ok (E.f 156), F.bindsN (fun _ _ _ _ _ _ us hl => match us, hl with | [_], _ => rfl), (ok_m_Row_months (dfun F) (f_month_mask := (Fl_month_mask E))).mono (by decide), (show _ ∉ nmF 0 by decide +kernel)⟩
  · cases h
theorem Fl_row (E : EV K mg) : FldOk K (cB K) "row" at_row := by
  intro n i h
  unfold at_row at h
  split at h
  · cases h
    exact ⟨(Cl_Of E), (Na_Of_row E), (show (nmF 9).Nodup by decide +kernel), rfl⟩
  · cases h
theorem Fl_told_days (E : EV K mg) : FldOk K (cB K) "told_days" at_told_days := by
  intro n i h
  unfold at_told_days at h
  split at h
  · cases h
    exact ⟨(Cl_Of E), (Na_Of_told_days E), (show (nmF 9).Nodup by decide +kernel), rfl⟩
  · cases h
theorem Fl_told_times (E : EV K mg) : FldOk K (cB K) "told_times" at_told_times := by
  intro n i h
  unfold at_told_times at h
  split at h
  · cases h
    exact ⟨(Cl_Of E), (Na_Of_told_times E), (show (nmF 9).Nodup by decide +kernel), rfl⟩
  · cases h
theorem G_MINUTES_books (E : EV K mg) : GlobD K (cB K) mg "MINUTES_books" k_MINUTES_books := E.gInt (E.f 161)
theorem C_all_times (E : EV K mg) : Cal P w K mg base "all_times" 1 [] (spD K (cB K) 0 m_all_times) := by
  obtain ⟨fd, F⟩ := E.d 77
  exact cal_mk (E.glo (E.f 160)) F.kp (F.bindsN (ps := []) (fun _ _ _ _ _ _ us hl => match us, hl with | [], _ => rfl)) (ok_m_all_times (dfun F) (g_MINUTES_books := (G_MINUTES_books E)))
theorem MT_on_days (E : EV K mg) : ∀ n, MCalO P w K mg base (cB K) "on_days" (12 + n) 1 (T_on_days n) := by
  intro n
  induction n with
  | zero => exact ⟨fun i F h => nomatch h⟩
  | succ n ih =>
    refine ⟨fun i F h => ?_⟩
    unfold T_on_days at h
    split at h
    · cases h
      obtain ⟨fd, F⟩ := E.d 71
      exact ⟨_, fd, ["self", "kind"], (Cl_Book E), He.meth_ok (E.f 155), F.bindsN (fun _ _ _ _ _ _ us hl => match us, hl with | [_, _], _ => rfl), (ok_m_Book_on_days (dfun F) (C_days_of := (C_days_of E)) (n_range := (E.free (E.f 25)))).mono (by omega), (show _ ∉ nmF 8 by decide +kernel)⟩
    · cases h
      obtain ⟨fd, F⟩ := E.d 73
      exact ⟨_, fd, ["self", "kind"], (Cl_Of E), He.meth_ok (E.f 157), F.bindsN (fun _ _ _ _ _ _ us hl => match us, hl with | [_, _], _ => rfl), (ok_m_Of_on_days (dfun F) (C_month_at := (C_month_at E)) (M_months := (M_months E)) (M_days_in := (M_days_in E)) (n_range := (E.free (E.f 25))) (hcK := rfl) (h_M0 := ⟨rfl, rfl, rfl, ub_0⟩) (f_row := (Fl_row E)) (f_told_days := (Fl_told_days E)) (f_told_times := (Fl_told_times E))).mono (by omega), (show _ ∉ nmF 9 by decide +kernel)⟩
    · cases h
      obtain ⟨fd, F⟩ := E.d 75
      exact ⟨_, fd, ["self", "kind"], (Cl_Joined E), He.meth_ok (E.f 159), F.bindsN (fun _ _ _ _ _ _ us hl => match us, hl with | [_, _], _ => rfl), (ok_m_Joined_on_days (dfun F) (lv := _) (hlv := by omega) (M_on_days := ih) (C_days_of := (C_days_of E)) (n_range := (E.free (E.f 25))) (n_zip := (E.free (E.f 158))) (f_books := (Fl_books E))).mono (by omega), (show _ ∉ nmF 10 by decide +kernel)⟩
    · cases h
      obtain ⟨fd, F⟩ := E.d 76
      exact ⟨_, fd, ["self", "kind"], (Cl_Met E), He.meth_ok (E.f 162), F.bindsN (fun _ _ _ _ _ _ us hl => match us, hl with | [_, _], _ => rfl), (ok_m_Met_on_days (dfun F) (lv := _) (hlv := by omega) (M_on_days := ih) (C_days_of := (C_days_of E)) (C_all_times := (C_all_times E)) (n_range := (E.free (E.f 25))) (n_zip := (E.free (E.f 158))) (f_books := (Fl_books E))).mono (by omega), (show _ ∉ nmF 11 by decide +kernel)⟩
    · cases h
      obtain ⟨fd, F⟩ := E.d 78
      exact ⟨_, fd, ["self", "kind"], (Cl_Less E), He.meth_ok (E.f 163), F.bindsN (fun _ _ _ _ _ _ us hl => match us, hl with | [_, _], _ => rfl), (ok_m_Less_on_days (dfun F) (lv := _) (hlv := by omega) (M_on_days := ih) (n_zip := (E.free (E.f 158))) (f_other := (Fl_other E)) (f_one := (Fl_one E))).mono (by omega), (show _ ∉ nmF 12 by decide +kernel)⟩
    · cases h
      obtain ⟨fd, F⟩ := E.d 79
      exact ⟨_, fd, ["self", "kind"], (Cl_Turned E), He.meth_ok (E.f 164), F.bindsN (fun _ _ _ _ _ _ us hl => match us, hl with | [_, _], _ => rfl), (ok_m_Turned_on_days (dfun F) (lv := _) (hlv := by omega) (M_on_days := ih) (C_all_times := (C_all_times E)) (f_one := (Fl_one E))).mono (by omega), (show _ ∉ nmF 13 by decide +kernel)⟩
    · cases h
theorem C__law_told (E : EV K mg) : Cal P w K mg base "_law_told" 21 ["_law_book", "_law_tree_here", "_law_kind"] (spD K (cB K) 3 m__law_told) := by
  obtain ⟨fd, F⟩ := E.d 54
  exact cal_mk (E.glo (E.f 129)) F.kp (F.bindsN (ps := ["_law_book", "_law_tree_here", "_law_kind"]) (fun _ _ _ _ _ _ us hl => match us, hl with | [_, _, _], _ => rfl)) (ok_m__law_told (dfun F) (C__law_masks := (C__law_masks E)) (C__law_whole := (C__law_whole E)) (M_on_days := (MT_on_days E 8)) (n_isinstance := (E.free (E.f 13))) (n_list := (E.free (E.f 24))))
theorem C_days_before (E : EV K mg) : Cal P w K mg base "days_before" 1 ["year"] (spD K (cB K) 1 m_days_before) := by
  obtain ⟨fd, F⟩ := E.d 82
  exact cal_mk (E.glo (E.f 167)) F.kp (F.bindsN (ps := ["year"]) (fun _ _ _ _ _ _ us hl => match us, hl with | [_], _ => rfl)) (ok_m_days_before (dfun F) )
theorem G_ROUND_YEARS (E : EV K mg) : GlobD K (cB K) mg "ROUND_YEARS" k_ROUND_YEARS := E.gInt (E.f 168)
theorem G_ROUND_DAYS (E : EV K mg) : GlobD K (cB K) mg "ROUND_DAYS" k_ROUND_DAYS := E.gInt (E.f 169)
theorem C_date_of (E : EV K mg) : Cal P w K mg base "date_of" 3 ["day"] (spD K (cB K) 1 m_date_of) := by
  obtain ⟨fd, F⟩ := E.d 81
  exact cal_mk (E.glo (E.f 166)) F.kp (F.bindsN (ps := ["day"]) (fun _ _ _ _ _ _ us hl => match us, hl with | [_], _ => rfl)) (ok_m_date_of (dfun F) (C_days_before := (C_days_before E)) (C_last_of := (C_last_of E)) (g_ROUND_YEARS := (G_ROUND_YEARS E)) (g_ROUND_DAYS := (G_ROUND_DAYS E)))
theorem C_weekday (E : EV K mg) : Cal P w K mg base "weekday" 1 ["day"] (spD K (cB K) 1 m_weekday) := by
  obtain ⟨fd, F⟩ := E.d 84
  exact cal_mk (E.glo (E.f 171)) F.kp (F.bindsN (ps := ["day"]) (fun _ _ _ _ _ _ us hl => match us, hl with | [_], _ => rfl)) (ok_m_weekday (dfun F) )
theorem C_is_whole (E : EV K mg) : Cal P w K mg base "is_whole" 1 ["thing"] (spD K (cB K) 1 m_is_whole) := by
  obtain ⟨fd, F⟩ := E.d 86
  exact cal_mk (E.glo (E.f 173)) F.kp (F.bindsN (ps := ["thing"]) (fun _ _ _ _ _ _ us hl => match us, hl with | [_], _ => rfl)) (ok_m_is_whole (dfun F) (n_isinstance := (E.free (E.f 13))) (n_int := (E.free (E.f 21))) (n_bool := (E.free (E.f 153))))
theorem C_day_of (E : EV K mg) : Cal P w K mg base "day_of" 3 ["year", "month", "day"] (spD K (cB K) 3 m_day_of) := by
  obtain ⟨fd, F⟩ := E.d 85
  exact cal_mk (E.glo (E.f 172)) F.kp (F.bindsN (ps := ["year", "month", "day"]) (fun _ _ _ _ _ _ us hl => match us, hl with | [_, _, _], _ => rfl)) (ok_m_day_of (dfun F) (C_is_whole := (C_is_whole E)) (C_last_of := (C_last_of E)) (C_days_before := (C_days_before E)) (n_range := (E.free (E.f 25))) (n_sum := (E.free (E.f 101))))
theorem C_kind_of (E : EV K mg) : Cal P w K mg base "kind_of" 4 ["year", "month"] (spD K (cB K) 2 m_kind_of) := by
  obtain ⟨fd, F⟩ := E.d 83
  exact cal_mk (E.glo (E.f 170)) F.kp (F.bindsN (ps := ["year", "month"]) (fun _ _ _ _ _ _ us hl => match us, hl with | [_, _], _ => rfl)) (ok_m_kind_of (dfun F) (C_is_long := (C_is_long E)) (C_weekday := (C_weekday E)) (C_day_of := (C_day_of E)) (g_LONG := (G_LONG E)))
theorem G_DAY (E : EV K mg) : GlobD K (cB K) mg "DAY" k_DAY := E.gInt (E.f 175)
theorem G_HOUR (E : EV K mg) : GlobD K (cB K) mg "HOUR" k_HOUR := E.gInt (E.f 176)
theorem C_parted (E : EV K mg) : Cal P w K mg base "parted" 1 ["moment"] (spD K (cB K) 1 m_parted) := by
  obtain ⟨fd, F⟩ := E.d 89
  exact cal_mk (E.glo (E.f 174)) F.kp (F.bindsN (ps := ["moment"]) (fun _ _ _ _ _ _ us hl => match us, hl with | [_], _ => rfl)) (ok_m_parted (dfun F) (g_DAY := (G_DAY E)) (g_HOUR := (G_HOUR E)) (n_divmod := (E.free (E.f 137))))
theorem M_shut_by (E : EV K mg) : MCal P w K mg base (cB K) "shut_by" 6 1 t_shut_by := by
  refine ⟨fun i F h => ?_⟩
  unfold t_shut_by at h
  split at h
  · cases h
    obtain ⟨fd, F⟩ := E.d 88
    exact ⟨_, fd, ["self", "moment"], (Cl_Row E), He.meth_ok (E.f 177), F.bindsN (fun _ _ _ _ _ _ us hl => match us, hl with | [_, _], _ => rfl), (ok_m_Row_shut_by (dfun F) (C_parted := (C_parted E)) (C_date_of := (C_date_of E)) (C_kind_of := (C_kind_of E)) (M_days_in := (M_days_in E)) (f_month_mask := (Fl_month_mask E)) (f_hour_mask := (Fl_hour_mask E)) (f_minute_mask := (Fl_minute_mask E))).mono (by decide), (show _ ∉ nmF 0 by decide +kernel)⟩
  · cases h
theorem MT_holds (E : EV K mg) : ∀ n, MCal P w K mg base (cB K) "holds" (12 + n) 1 (T_holds n) := by
  intro n
  induction n with
  | zero => exact ⟨fun i F h => nomatch h⟩
  | succ n ih =>
    refine ⟨fun i F h => ?_⟩
    unfold T_holds at h
    split at h
    · cases h
      obtain ⟨fd, F⟩ := E.d 87
      exact ⟨_, fd, ["self", "moment"], (Cl_Row E), He.meth_ok (E.f 178), F.bindsN (fun _ _ _ _ _ _ us hl => match us, hl with | [_, _], _ => rfl), (ok_m_Row_holds (dfun F) (M_shut_by := (M_shut_by E))).mono (by omega), (show _ ∉ nmF 0 by decide +kernel)⟩
    · cases h
      obtain ⟨fd, F⟩ := E.d 90
      exact ⟨_, fd, ["self", "moment"], (Cl_Book E), He.meth_ok (E.f 179), F.bindsN (fun _ _ _ _ _ _ us hl => match us, hl with | [_, _], _ => rfl), (ok_m_Book_holds (dfun F) ).mono (by omega), (show _ ∉ nmF 8 by decide +kernel)⟩
    · cases h
      obtain ⟨fd, F⟩ := E.d 91
      exact ⟨_, fd, ["self", "moment"], (Cl_Of E), He.meth_ok (E.f 180), F.bindsN (fun _ _ _ _ _ _ us hl => match us, hl with | [_, _], _ => rfl), (ok_m_Of_holds (dfun F) (lv := _) (hlv := by omega) (M_holds := ih) (f_row := (Fl_row E))).mono (by omega), (show _ ∉ nmF 9 by decide +kernel)⟩
    · cases h
      obtain ⟨fd, F⟩ := E.d 92
      exact ⟨_, fd, ["self", "moment"], (Cl_Joined E), He.meth_ok (E.f 181), F.bindsN (fun _ _ _ _ _ _ us hl => match us, hl with | [_, _], _ => rfl), (ok_m_Joined_holds (dfun F) (lv := _) (hlv := by omega) (M_holds := ih) (f_books := (Fl_books E))).mono (by omega), (show _ ∉ nmF 10 by decide +kernel)⟩
    · cases h
      obtain ⟨fd, F⟩ := E.d 93
      exact ⟨_, fd, ["self", "moment"], (Cl_Met E), He.meth_ok (E.f 182), F.bindsN (fun _ _ _ _ _ _ us hl => match us, hl with | [_, _], _ => rfl), (ok_m_Met_holds (dfun F) (lv := _) (hlv := by omega) (M_holds := ih) (f_books := (Fl_books E))).mono (by omega), (show _ ∉ nmF 11 by decide +kernel)⟩
    · cases h
      obtain ⟨fd, F⟩ := E.d 94
      exact ⟨_, fd, ["self", "moment"], (Cl_Less E), He.meth_ok (E.f 183), F.bindsN (fun _ _ _ _ _ _ us hl => match us, hl with | [_, _], _ => rfl), (ok_m_Less_holds (dfun F) (lv := _) (hlv := by omega) (M_holds := ih) (f_one := (Fl_one E)) (f_other := (Fl_other E))).mono (by omega), (show _ ∉ nmF 12 by decide +kernel)⟩
    · cases h
      obtain ⟨fd, F⟩ := E.d 95
      exact ⟨_, fd, ["self", "moment"], (Cl_Turned E), He.meth_ok (E.f 184), F.bindsN (fun _ _ _ _ _ _ us hl => match us, hl with | [_, _], _ => rfl), (ok_m_Turned_holds (dfun F) (lv := _) (hlv := by omega) (M_holds := ih) (f_one := (Fl_one E))).mono (by omega), (show _ ∉ nmF 13 by decide +kernel)⟩
    · cases h
theorem C__law_bit (E : EV K mg) : Cal P w K mg base "_law_bit" 21 ["_law_book", "_law_moment_here"] (spD K (cB K) 2 m__law_bit) := by
  obtain ⟨fd, F⟩ := E.d 80
  exact cal_mk (E.glo (E.f 165)) F.kp (F.bindsN (ps := ["_law_book", "_law_moment_here"]) (fun _ _ _ _ _ _ us hl => match us, hl with | [_, _], _ => rfl)) (ok_m__law_bit (dfun F) (C_date_of := (C_date_of E)) (C_kind_of := (C_kind_of E)) (M_on_days := (MT_on_days E 8)) (M_holds := (MT_holds E 8)))
theorem C__law_moment (E : EV K mg) : Cal P w K mg base "_law_moment" 3 ["_law_cell", "_law_mixed"] (spD K (cB K) 2 m__law_moment) := by
  obtain ⟨fd, F⟩ := E.d 97
  exact cal_mk (E.glo (E.f 186)) F.kp (F.bindsN (ps := ["_law_cell", "_law_mixed"]) (fun _ _ _ _ _ _ us hl => match us, hl with | [_, _], _ => rfl)) (ok_m__law_moment (dfun F) (C__law_digits := (C__law_digits E)) (n_abs := (E.free (E.f 6))))
theorem C__law_rows (E : EV K mg) : Cal P w K mg base "_law_rows" 8 ["_law_tree_here"] (spD K (cB K) 1 (m__law_rows 8)) := by
  obtain ⟨fd, F⟩ := E.d 98
  have b := F.bindsN (ps := ["_law_tree_here"]) (fun _ _ _ _ _ _ us hl => match us, hl with | [_], _ => rfl)
  exact cal_mk (E.glo (E.f 187)) F.kp b (rec_m__law_rows (dfun F) (E.glo (E.f 187)) b  8)
theorem G_MANY_KINDS (E : EV K mg) : GlobD K (cB K) mg "MANY_KINDS" k_MANY_KINDS := E.gInt (E.f 190)
theorem C_never (E : EV K mg) : Cal P w K mg base "never" 6 ["row"] (spD K (cB K) 1 m_never) := by
  obtain ⟨fd, F⟩ := E.d 100
  exact cal_mk (E.glo (E.f 189)) F.kp (F.bindsN (ps := ["row"]) (fun _ _ _ _ _ _ us hl => match us, hl with | [_], _ => rfl)) (ok_m_never (dfun F) (M_days_in := (M_days_in E)) (g_MANY_KINDS := (G_MANY_KINDS E)) (n_range := (E.free (E.f 25))))
theorem C_is_in (E : EV K mg) : Cal P w K mg base "is_in" 1 ["mask", "number"] (spD K (cB K) 2 m_is_in) := by
  obtain ⟨fd, F⟩ := E.d 104
  exact cal_mk (E.glo (E.f 194)) F.kp (F.bindsN (ps := ["mask", "number"]) (fun _ _ _ _ _ _ us hl => match us, hl with | [_, _], _ => rfl)) (ok_m_is_in (dfun F) )
theorem C_month_open (E : EV K mg) : Cal P w K mg base "month_open" 4 ["row", "moment"] (spD K (cB K) 2 m_month_open) := by
  obtain ⟨fd, F⟩ := E.d 103
  exact cal_mk (E.glo (E.f 193)) F.kp (F.bindsN (ps := ["row", "moment"]) (fun _ _ _ _ _ _ us hl => match us, hl with | [_, _], _ => rfl)) (ok_m_month_open (dfun F) (C_date_of := (C_date_of E)) (C_parted := (C_parted E)) (C_is_in := (C_is_in E)) (C_day_of := (C_day_of E)) (M_months := (M_months E)))
theorem C_is_shut_day (E : EV K mg) : Cal P w K mg base "is_shut_day" 6 ["row", "number"] (spD K (cB K) 2 m_is_shut_day) := by
  obtain ⟨fd, F⟩ := E.d 106
  exact cal_mk (E.glo (E.f 196)) F.kp (F.bindsN (ps := ["row", "number"]) (fun _ _ _ _ _ _ us hl => match us, hl with | [_, _], _ => rfl)) (ok_m_is_shut_day (dfun F) (C_date_of := (C_date_of E)) (C_is_in := (C_is_in E)) (C_kind_of := (C_kind_of E)) (M_months := (M_months E)) (M_days_in := (M_days_in E)))
theorem G_MOST_DAYS (E : EV K mg) : GlobD K (cB K) mg "MOST_DAYS" k_MOST_DAYS := E.gInt (E.f 197)
theorem C_day_open (E : EV K mg) : Cal P w K mg base "day_open" 7 ["row", "moment"] (spD K (cB K) 2 m_day_open) := by
  obtain ⟨fd, F⟩ := E.d 105
  exact cal_mk (E.glo (E.f 195)) F.kp (F.bindsN (ps := ["row", "moment"]) (fun _ _ _ _ _ _ us hl => match us, hl with | [_, _], _ => rfl)) (ok_m_day_open (dfun F) (C_parted := (C_parted E)) (C_is_shut_day := (C_is_shut_day E)) (g_MOST_DAYS := (G_MOST_DAYS E)))
theorem M_hours (E : EV K mg) : MCal P w K mg base (cB K) "hours" 1 0 t_hours := by
  refine ⟨fun i F h => ?_⟩
  unfold t_hours at h
  split at h
  · cases h
    obtain ⟨fd, F⟩ := E.d 108
    exact ⟨_, fd, ["self"], (Cl_Row E), He.meth_ok (E.f 199), F.bindsN (fun _ _ _ _ _ _ us hl => match us, hl with | [_], _ => rfl), (ok_m_Row_hours (dfun F) (f_hour_mask := (Fl_hour_mask E))).mono (by decide), (show _ ∉ nmF 0 by decide +kernel)⟩
  · cases h
theorem C_hour_open (E : EV K mg) : Cal P w K mg base "hour_open" 2 ["row", "moment"] (spD K (cB K) 2 m_hour_open) := by
  obtain ⟨fd, F⟩ := E.d 107
  exact cal_mk (E.glo (E.f 198)) F.kp (F.bindsN (ps := ["row", "moment"]) (fun _ _ _ _ _ _ us hl => match us, hl with | [_, _], _ => rfl)) (ok_m_hour_open (dfun F) (C_parted := (C_parted E)) (C_is_in := (C_is_in E)) (M_hours := (M_hours E)))
theorem M_minutes (E : EV K mg) : MCal P w K mg base (cB K) "minutes" 1 0 t_minutes := by
  refine ⟨fun i F h => ?_⟩
  unfold t_minutes at h
  split at h
  · cases h
    obtain ⟨fd, F⟩ := E.d 110
    exact ⟨_, fd, ["self"], (Cl_Row E), He.meth_ok (E.f 201), F.bindsN (fun _ _ _ _ _ _ us hl => match us, hl with | [_], _ => rfl), (ok_m_Row_minutes (dfun F) (f_minute_mask := (Fl_minute_mask E))).mono (by decide), (show _ ∉ nmF 0 by decide +kernel)⟩
  · cases h
theorem C_minute_open (E : EV K mg) : Cal P w K mg base "minute_open" 2 ["row", "moment"] (spD K (cB K) 2 m_minute_open) := by
  obtain ⟨fd, F⟩ := E.d 109
  exact cal_mk (E.glo (E.f 200)) F.kp (F.bindsN (ps := ["row", "moment"]) (fun _ _ _ _ _ _ us hl => match us, hl with | [_, _], _ => rfl)) (ok_m_minute_open (dfun F) (C_parted := (C_parted E)) (C_is_in := (C_is_in E)) (M_minutes := (M_minutes E)))
theorem C_open_again (E : EV K mg) : Cal P w K mg base "open_again" 8 ["row", "moment", "field"] (spD K (cB K) 3 m_open_again) := by
  obtain ⟨fd, F⟩ := E.d 102
  exact cal_mk (E.glo (E.f 192)) F.kp (F.bindsN (ps := ["row", "moment", "field"]) (fun _ _ _ _ _ _ us hl => match us, hl with | [_, _, _], _ => rfl)) (ok_m_open_again (dfun F) (C_month_open := (C_month_open E)) (C_day_open := (C_day_open E)) (C_hour_open := (C_hour_open E)) (C_minute_open := (C_minute_open E)))
theorem C_run_end (E : EV K mg) : Cal P w K mg base "run_end" 9 ["row", "at", "field"] (spD K (cB K) 3 m_run_end) := by
  obtain ⟨fd, F⟩ := E.d 101
  exact cal_mk (E.glo (E.f 191)) F.kp (F.bindsN (ps := ["row", "at", "field"]) (fun _ _ _ _ _ _ us hl => match us, hl with | [_, _, _], _ => rfl)) (ok_m_run_end (dfun F) (C_open_again := (C_open_again E)) (C_parted := (C_parted E)) (M_shut_by := (M_shut_by E)))
theorem C_next_from (E : EV K mg) : Cal P w K mg base "next_from" 10 ["row", "moment"] (spD K (cB K) 2 m_next_from) := by
  obtain ⟨fd, F⟩ := E.d 99
  exact cal_mk (E.glo (E.f 188)) F.kp (F.bindsN (ps := ["row", "moment"]) (fun _ _ _ _ _ _ us hl => match us, hl with | [_, _], _ => rfl)) (ok_m_next_from (dfun F) (C_never := (C_never E)) (C_run_end := (C_run_end E)) (M_shut_by := (M_shut_by E)))
theorem C__law_near (E : EV K mg) : Cal P w K mg base "_law_near" 11 ["_law_tree_here", "_law_cell", "_law_mixed"] (spD K (cB K) 3 m__law_near) := by
  obtain ⟨fd, F⟩ := E.d 96
  exact cal_mk (E.glo (E.f 185)) F.kp (F.bindsN (ps := ["_law_tree_here", "_law_cell", "_law_mixed"]) (fun _ _ _ _ _ _ us hl => match us, hl with | [_, _, _], _ => rfl)) (ok_m__law_near (dfun F) (C__law_digits := (C__law_digits E)) (C__law_moment := (C__law_moment E)) (C__law_rows := (C__law_rows E)) (C_next_from := (C_next_from E)) (n_len := (E.free (E.f 2))))
theorem C__law_eight (E : EV K mg) : Cal P w K mg base "_law_eight" 24 ["_law_script", "_law_kind", "_law_mixed"] (spD K (cB K) 3 m__law_eight) := by
  obtain ⟨fd, F⟩ := E.d 111
  exact cal_mk (E.glo (E.f 202)) F.kp (F.bindsN (ps := ["_law_script", "_law_kind", "_law_mixed"]) (fun _ _ _ _ _ _ us hl => match us, hl with | [_, _, _], _ => rfl)) (ok_m__law_eight (dfun F) (C__law_row := (C__law_row E)) (C__law_cell_at := (C__law_cell_at E)) (C__law_make := (C__law_make E)) (C__law_masks := (C__law_masks E)) (M_times := (M_times E)) (M_on_days := (MT_on_days E 8)) (K_Joined := (K_Joined E)) (K_Met := (K_Met E)) (n_range := (E.free (E.f 25))))
theorem C_law (E : EV K mg) : Cal P w K mg base "law" 25 ["_law_script"] (spD K (cB K) 1 m_law) := by
  obtain ⟨fd, F⟩ := E.d 0
  exact cal_mk (E.glo (E.f 0)) F.kp (F.bindsN (ps := ["_law_script"]) (fun _ _ _ _ _ _ us hl => match us, hl with | [_], _ => rfl)) (ok_m_law (dfun F) (C__law_cell_at := (C__law_cell_at E)) (C__law_tree := (C__law_tree E)) (C__law_make := (C__law_make E)) (C__law_digits := (C__law_digits E)) (C__law_told := (C__law_told E)) (C__law_bit := (C__law_bit E)) (C__law_near := (C__law_near E)) (C__law_eight := (C__law_eight E)) (C_month_at := (C_month_at E)) (M_on_days := (MT_on_days E 8)) (K_Book := (K_Book E)) (n_range := (E.free (E.f 25))))
end
end
end DL
set_option maxRecDepth 100000
namespace DL
open PySem L2
/-! ### the mirrors, run by simp -/
section
variable {ρ : Sl} {f g h : DE} {F G : DS} {t u : DB} {a : DA} {o o' : D → D → Option D} {i j : Nat} {x y d : D} {ds : List D} {T : TgD}
@[simp] theorem s_var : dVar i ρ = match ρ[i]? with | some (.val d) => some d | _ => none := rfl
@[simp] theorem s_c : dC d ρ = some d := rfl
@[simp] theorem s_op : dOp o f g ρ = (f ρ).bind fun x => (g ρ).bind fun y => o x y := rfl
/-- a truth, if it is one -/
def truth : D → Option Bool
  | .bl b => some b
  | _ => none
@[simp] theorem truth_bl {b : Bool} : truth (.bl b) = some b := rfl
@[simp] theorem s_asB : asB f ρ = (f ρ).bind truth := by
  unfold asB
  cases f ρ with
  | none => rfl
  | some d => cases d <;> rfl
@[simp] theorem s_andT : dAndT t u ρ = (t ρ).bind fun b => if b = true then u ρ else some false := by
  unfold dAndT
  cases t ρ with
  | none => rfl
  | some b => cases b <;> rfl
@[simp] theorem s_orT : dOrT t u ρ = (t ρ).bind fun b => if b = true then some true else u ρ := by
  unfold dOrT
  cases t ρ with
  | none => rfl
  | some b => cases b <;> rfl
@[simp] theorem s_notT : dNotT t ρ = (t ρ).map (!·) := rfl
@[simp] theorem s_and : dAnd f g ρ = ((f ρ).bind truth).bind fun b => if b = true then g ρ else some (.bl false) := by
  unfold dAnd
  cases f ρ with
  | none => rfl
  | some d => cases d with
    | bl b => cases b <;> rfl
    | _ => rfl
@[simp] theorem s_or : dOr f g ρ = ((f ρ).bind truth).bind fun b => if b = true then some (.bl true) else g ρ := by
  unfold dOr
  cases f ρ with
  | none => rfl
  | some d => cases d with
    | bl b => cases b <;> rfl
    | _ => rfl
@[simp] theorem s_not : dNot f ρ = ((f ρ).bind truth).map fun b => .bl (!b) := by
  unfold dNot
  cases f ρ with
  | none => rfl
  | some d => cases d <;> rfl
@[simp] theorem s_ifE : dIf t f g ρ = (t ρ).bind fun b => if b = true then f ρ else g ρ := by
  unfold dIf
  cases t ρ with
  | none => rfl
  | some b => cases b <;> rfl
@[simp] theorem s_chain : dChain o o' f g h ρ = (f ρ).bind fun x => (g ρ).bind fun y => ((o x y).bind truth).bind fun b => if b = true then (h ρ).bind fun z => o' y z else some (.bl false) := by
  unfold dChain
  cases f ρ with
  | none => rfl
  | some x =>
    cases g ρ with
    | none => rfl
    | some y =>
      show (match o x y with
        | some (.bl true) => (h ρ).bind fun z => o' y z
        | some (.bl false) => some (.bl false)
        | _ => none) = ((o x y).bind truth).bind _
      cases o x y with
      | none => rfl
      | some d => cases d with
        | bl b => cases b <;> rfl
        | _ => rfl
@[simp] theorem s_nil : aNil ρ = some [] := rfl
@[simp] theorem s_cons : aCons f a ρ = (f ρ).bind fun x => (a ρ).map fun r => x :: r := rfl
@[simp] theorem s_tup : dTup a ρ = (a ρ).bind fun ds => if ds.length ≤ 100000 then some (.tup ds) else none := rfl
@[simp] theorem s_dO {f : DOw} : dO f ρ = (f ρ).map .lst := rfl
@[simp] theorem s_oLst : oLst a ρ = (a ρ).bind fun ds => if ds.length ≤ 100000 then some ds else none := rfl
@[simp] theorem s_call {n : Nat} {M : List D → Option D} : dCall n M a ρ = (a ρ).bind fun ds => if ds.length = n then M ds else none := rfl
@[simp] theorem s_oCall {n : Nat} {M : List D → Option (List D)} : oCall n M a ρ = (a ρ).bind fun ds => if ds.length = n then M ds else none := rfl
@[simp] theorem s_make {n m : Nat} {M : List D → Option (List D)} : dMake n m M a ρ = (a ρ).bind fun ds => if ds.length = m then (M ds).map (.ins n) else none := rfl
@[simp] theorem s_bu {M : List D → Option D} : dBu M a ρ = (a ρ).bind M := rfl
@[simp] theorem s_oBu {M : List D → Option (List D)} : oBu M a ρ = (a ρ).bind M := rfl
@[simp] theorem s_oOp {o : D → D → Option (List D)} : oOp o f g ρ = (f ρ).bind fun x => (g ρ).bind fun y => o x y := rfl
@[simp] theorem s_isi {M : Tag → Option Bool} : dIsi M f ρ = (f ρ).bind fun d => (tagOf d).bind fun t => (M t).map .bl := rfl
@[simp] theorem s_oNone : oNone ρ = some none := rfl
@[simp] theorem s_oSome : oSome f ρ = match f ρ with | some (.int i) => some (some i) | _ => none := rfl
@[simp] theorem s_sl {l r : DO} : dSl f l r ρ = (f ρ).bind fun x => (l ρ).bind fun l => (r ρ).bind fun h => opSl x l h := rfl
@[simp] theorem s_dneg : dNeg f ρ = match f ρ with | some (.int i) => some (.int (-i)) | _ => none := rfl
@[simp] theorem s_fld {att : Nat → Option Nat} : dFld att f ρ = match f ρ with | some (.ins n fs) => (att n).bind fun i => fs[i]? | _ => none := rfl
@[simp] theorem s_meth {n : Nat} {tbl : Nat → Option (List D → Option D)} : dMeth n tbl f a ρ = (f ρ).bind fun x => (a ρ).bind fun ds => if ds.length = n then match x with
  | .ins i _ => (tbl i).bind fun M => M (x :: ds)
  | _ => none else none := rfl
@[simp] theorem s_oMeth {n : Nat} {tbl : Nat → Option (List D → Option (List D))} : oMeth n tbl f a ρ = (f ρ).bind fun x => (a ρ).bind fun ds => if ds.length = n then match x with
  | .ins i _ => (tbl i).bind fun M => M (x :: ds)
  | _ => none else none := rfl
@[simp] theorem s_mixT {i0 : Nat} : dMixT i0 f a ρ = (f ρ).bind fun x => (a ρ).bind fun ds => opMixT i0 x ds := rfl
theorem memoFT_eq {i0 n m : Nat} {fk : D → List Key → Option D} {uk : D → List (List Key)} {att : Nat → Option Nat} {k : List Key} {ks : List (List Key)} {xs fs ds' : List D} {d0 x0 : D} (h1 : ρ[j]? = some (.val (.ins n fs))) (h2 : a ρ = some ds') (h3 : ds'.length ≤ 100000) (h4 : keysD ds' = some k) (h5 : att n = some m) (h6 : fs[m]? = some (.mem i0 d0 ks xs)) (h7 : fk d0 k = some x0) (h8 : f ρ = some x0) (h9 : mfree x0 = true) (h10 : k ∈ uk d0) :
    sMemoFT i0 fk uk att j a f ρ = some (.nx (ρ.set j (.val (.ins n (fs.set m (.mem i0 d0 (k :: ks) (x0 :: xs))))))) := by
  unfold sMemoFT
  rw [h1, h2]
  simp only [Option.bind_some, if_pos h3, h4, h5, h6, h7, h8, h9, h10, and_self, if_true]
theorem memoK_eq {i0 : Nat} {fk : D → List Key → Option D} {uk : D → List (List Key)} {k : Key} {ks : List (List Key)} {xs : List D} {d0 x0 : D} (h1 : ρ[j]? = some (.val (.mem i0 d0 ks xs))) (h2 : (g ρ).bind keyD = some k) (h7 : fk d0 [k] = some x0) (h8 : f ρ = some x0) (h9 : mfree x0 = true) (h10 : [k] ∈ uk d0) :
    sMemoK i0 fk uk j g f ρ = some (.nx (ρ.set j (.val (.mem i0 d0 ([k] :: ks) (x0 :: xs))))) := by
  unfold sMemoK
  rw [h1, h2]
  simp only [Option.bind_some, h7, h8, h9, h10, and_self, if_true]
@[simp] theorem s_wipe0 : wipeD ρ [] = ρ := rfl
@[simp] theorem s_wipe {v : Nat} {vs : List Nat} : wipeD ρ (v :: vs) = (wipeD ρ vs).set v .un := rfl
@[simp] theorem s_ap0 : apD ρ [] = ρ := rfl
@[simp] theorem s_tgN : tgN i d = some [(i, d)] := rfl
@[simp] theorem s_tgT {is : List Nat} : tgT is (.tup ds) = if ds.length = is.length then some (is.zip ds) else none := rfl
/-! statements -/
@[simp] theorem s_sNil : sNil ρ = some (.nx ρ) := rfl
@[simp] theorem s_seq : sSeq F G ρ = match F ρ with | some (.nx ρ') => G ρ' | r => r := rfl
@[simp] theorem s_never_ : sNever ρ = none := rfl
@[simp] theorem s_asg_ : sAsg f T ρ = (f ρ).bind fun d => (T d).map fun l => .nx (apD ρ l) := rfl
@[simp] theorem s_asgO {f : DOw} : sAsgO f i ρ = (f ρ).map fun ds => .nx (ρ.set i (.own ds)) := rfl
@[simp] theorem s_drop : sDrop f ρ = (f ρ).map fun _ => .nx ρ := rfl
@[simp] theorem s_ret_ : sRet f ρ = (f ρ).map .rt := rfl
@[simp] theorem s_retE_ {f : DOw} : sRetE f ρ = (f ρ).map .ro := rfl
@[simp] theorem s_if_ : sIf t F G ρ = (t ρ).bind fun b => if b = true then F ρ else G ρ := by
  unfold sIf
  cases t ρ with
  | none => rfl
  | some b => cases b <;> rfl
@[simp] theorem s_frz : sFrz i F ρ = F (frzD i ρ) := rfl
@[simp] theorem s_forI {it : Sl → Option (List D)} : sFor it T F ρ = (it ρ).bind fun ds => forD T F ds ρ := rfl
@[simp] theorem s_for0 : forD T F [] ρ = some (.nx ρ) := rfl
@[simp] theorem s_runD {n : Nat} : runD n F ds = match F (startD n ds) with
  | some (.rt d) => some d
  | some (.nx _) => some .non
  | some (.ro ds) => some (.lst ds)
  | _ => none := rfl
@[simp] theorem s_runO {n : Nat} : runO n F ds = match F (startD n ds) with
  | some (.ro ds) => some ds
  | _ => none := rfl
/-! operators on ints -/
variable {m n : Int}
@[simp] theorem o_add : opAdd (.int m) (.int n) = some (.int (m + n)) := rfl
@[simp] theorem o_sub : opSub (.int m) (.int n) = some (.int (m - n)) := rfl
@[simp] theorem o_and : opAnd (.int m) (.int n) = some (.int (Builtin.bitAnd m n)) := rfl
@[simp] theorem o_or : opOr (.int m) (.int n) = some (.int (Builtin.bitOr m n)) := rfl
@[simp] theorem o_xor : opXor (.int m) (.int n) = some (.int (Builtin.bitXor m n)) := rfl
@[simp] theorem o_mod : opMod (.int m) (.int n) = if 0 < n then some (.int (m % n)) else none := rfl
@[simp] theorem o_fdiv : opFdiv (.int m) (.int n) = if 0 < n ∧ n < 1073741824 then some (.int (m / n)) else none := rfl
@[simp] theorem o_shl : opShl (.int m) (.int n) = if 0 ≤ n ∧ n ≤ 1000000 ∧ m.natAbs < 2 ^ 64 then some (.int (m * 2 ^ n.toNat)) else none := rfl
@[simp] theorem o_shr : opShr (.int m) (.int n) = if 0 ≤ n then some (.int (m / 2 ^ n.toNat)) else none := rfl
@[simp] theorem o_mul : opMul (.int m) (.int n) = if (-(2 ^ 64) < m ∧ m < 2 ^ 64) ∨ (-(2 ^ 64) < n ∧ n < 2 ^ 64) then some (.int (m * n)) else none := rfl
@[simp] theorem o_pow : opPow (.int m) (.int n) = if 0 ≤ n ∧ n ≤ 1000000 ∧ m.natAbs < 2 ^ 64 then some (.int (m ^ n.toNat)) else none := rfl
@[simp] theorem o_eq : opEq (.int m) (.int n) = some (.bl (decide (m = n))) := rfl
@[simp] theorem o_ne : opNe (.int m) (.int n) = some (.bl (!decide (m = n))) := rfl
@[simp] theorem o_eqS {x y : Str} : opEq (.str x) (.str y) = some (.bl (decide (x = y))) := rfl
@[simp] theorem o_neS {x y : Str} : opNe (.str x) (.str y) = some (.bl (!decide (x = y))) := rfl
@[simp] theorem o_lt : opLt (.int m) (.int n) = some (.bl (decide (m < n))) := rfl
@[simp] theorem o_le : opLe (.int m) (.int n) = some (.bl (decide (m ≤ n))) := rfl
@[simp] theorem o_gt : opGt (.int m) (.int n) = some (.bl (decide (m > n))) := rfl
@[simp] theorem o_ge : opGe (.int m) (.int n) = some (.bl (decide (m ≥ n))) := rfl
@[simp] theorem o_isN : opIsN x .non = (isNon x).map .bl := rfl
@[simp] theorem o_notN : opNotN x .non = (isNon x).map fun b => .bl (!b) := rfl
end
theorem mem_kU {x y : Int} (h : 28 ≤ x ∧ x ≤ 31 ∧ 0 ≤ y ∧ y ≤ 6) : [Sum.inl x, Sum.inl y] ∈ kU := by
  obtain ⟨a, b, c, d⟩ := h
  have hx : x = 28 ∨ x = 29 ∨ x = 30 ∨ x = 31 := by omega
  have hy : y = 0 ∨ y = 1 ∨ y = 2 ∨ y = 3 ∨ y = 4 ∨ y = 5 ∨ y = 6 := by omega
  unfold kU
  refine List.mem_flatMap.mpr ⟨x, ?_, List.mem_map.mpr ⟨y, ?_, rfl⟩⟩
  · rcases hx with rfl | rfl | rfl | rfl <;> simp
  · rcases hy with rfl | rfl | rfl | rfl | rfl | rfl | rfl <;> simp
@[simp] theorem s_start0 {n : Nat} : startD n [] = List.replicate n .un := by simp [startD]
end DL
set_option maxRecDepth 100000
namespace DL
open PySem L2
open PyProof.Rows (bitAnd_comm bitAnd_zero bitAnd_self bitAnd_not bitOr_and bitOr_comm bitAnd_pp nat_or_add_and)
/-! ### masks -/
abbrev bA := Builtin.bitAnd
abbrev bO := Builtin.bitOr
abbrev bX := Builtin.bitXor
theorem or_pp {x y : Int} (hx : 0 ≤ x) (hy : 0 ≤ y) : bO x y = ((x.toNat ||| y.toNat : Nat) : Int) := by
  have h := nat_or_add_and x.toNat y.toNat
  show Builtin.bitOr x y = _
  rw [bitOr_and, bitAnd_pp hx hy]
  omega
theorem or_rng {k : Nat} {x y : Int} (hx : 0 ≤ x) (hy : 0 ≤ y) (hx' : x < 2 ^ k) (hy' : y < 2 ^ k) : 0 ≤ bO x y ∧ bO x y < 2 ^ k := by
  rw [or_pp hx hy]
  have c := PySem.W.kbt_cast k
  have := Nat.or_lt_two_pow (x := x.toNat) (y := y.toNat) (n := k) (by omega) (by omega)
  omega
theorem zero_or (x : Int) : bO 0 x = x := by
  show Builtin.bitOr 0 x = x
  rw [bitOr_and, bitAnd_comm, bitAnd_zero]
  omega
theorem and_rng {x y : Int} (hx : 0 ≤ x) : 0 ≤ bA x y ∧ bA x y ≤ x := by
  show 0 ≤ Builtin.bitAnd x y ∧ Builtin.bitAnd x y ≤ x
  rw [bitAnd_comm]
  exact PyProof.Rows.bitAnd_range y hx
theorem and_less (k : Nat) : ∀ a b : Int, 0 ≤ a → a < 2 ^ k → 0 ≤ b → b < 2 ^ k → bA a (2 ^ k - 1 - b) = a - bA a b := by
  induction k with
  | zero =>
    intro a b h1 h2 h3 h4
    have : a = 0 := by simp at h2; omega
    have : b = 0 := by simp at h4; omega
    subst a b
    simp [bA, bitAnd_zero]
  | succ k ih =>
    intro a b h1 h2 h3 h4
    have e : (2 : Int) ^ (k + 1) = 2 * 2 ^ k := by rw [Int.pow_succ]; omega
    rw [e] at h2 h4 ⊢
    have r1 := PySem.W.kbt_halves a (2 * 2 ^ k - 1 - b)
    have r2 := PySem.W.kbt_halves a b
    have d : (2 * 2 ^ k - 1 - b) / 2 = 2 ^ k - 1 - b / 2 := by omega
    rw [d] at r1
    have h := ih (a / 2) (b / 2) (by omega) (by omega) (by omega) (by omega)
    show Builtin.bitAnd _ _ = a - Builtin.bitAnd _ _
    rw [r1, r2]
    have h : Builtin.bitAnd (a / 2) (2 ^ k - 1 - b / 2) = a / 2 - Builtin.bitAnd (a / 2) (b / 2) := h
    rw [h]
    by_cases p : a % 2 = 1 <;> by_cases q : b % 2 = 1
    · rw [if_neg (by omega), if_pos ⟨p, q⟩]; omega
    · rw [if_pos (by omega), if_neg (by omega)]; omega
    · rw [if_neg (by omega), if_neg (by omega)]; omega
    · rw [if_neg (by omega), if_neg (by omega)]; omega
theorem and_abs {a b : Int} (ha : 0 ≤ a) (hb : 0 ≤ b) : Builtin.bitAnd a (Builtin.bitAnd a b) = Builtin.bitAnd a b := by
  have e := bitAnd_pp ha hb
  rw [e, bitAnd_pp ha (by omega)]
  simp [← Nat.and_assoc]
theorem xor_and_self {a b : Int} (ha : 0 ≤ a) (hb : 0 ≤ b) : bX a (bA a b) = a - bA a b := by
  show Builtin.bitXor a (Builtin.bitAnd a b) = a - Builtin.bitAnd a b
  rw [PyProof.Rows.bitXor_and, and_abs ha hb]
  omega
end DL
set_option maxRecDepth 100000
namespace DL
open PySem L2
/-! ### months -/
def isM : Option D → Bool
  | some (.tup [.int m, .int l, .int f]) => decide (1 ≤ m ∧ m ≤ 12 ∧ 28 ≤ l ∧ l ≤ 31 ∧ 0 ≤ f ∧ f ≤ 6)
  | _ => false
theorem months_all : ((List.range 91).all fun k => isM (m_month_at [.int k])) = true := by decide +kernel
/-- month, last day, first weekday of a kind -/
def mon (k : Nat) : Int × Int × Int := match m_month_at [.int k] with
  | some (.tup [.int m, .int l, .int f]) => (m, l, f)
  | _ => (0, 0, 0)
theorem month_ok {k : Nat} (h : k < 91) : m_month_at [.int k] = some (.tup [.int (mon k).1, .int (mon k).2.1, .int (mon k).2.2]) ∧ 1 ≤ (mon k).1 ∧ (mon k).1 ≤ 12 ∧ 28 ≤ (mon k).2.1 ∧ (mon k).2.1 ≤ 31 ∧ 0 ≤ (mon k).2.2 ∧ (mon k).2.2 ≤ 6 := by
  have a := List.all_eq_true.mp months_all k (List.mem_range.mpr h)
  unfold isM at a
  unfold mon
  split at a
  · rename_i m l f e
    rw [e]
    have := of_decide_eq_true a
    exact ⟨rfl, this⟩
  · cases a
end DL
set_option maxRecDepth 100000
namespace DL
open PySem L2
/-! ### loops -/
theorem for_ind {T : TgD} {B : DS} (P : List D → Sl → Prop) (step : ∀ d ds ρ, P (d :: ds) ρ → ∃ l ρ', T d = some l ∧ B (apD ρ l) = some (.nx ρ') ∧ P ds ρ') : ∀ (ds : List D) (ρ : Sl), P ds ρ → ∃ ρ', forD T B ds ρ = some (.nx ρ') ∧ P [] ρ'
  | [], ρ, h => ⟨ρ, rfl, h⟩
  | d :: ds, ρ, h => by
    obtain ⟨l, ρ1, e1, e2, h1⟩ := step d ds ρ h
    obtain ⟨ρ2, e3, h2⟩ := for_ind P step ds ρ1 h1
    refine ⟨ρ2, ?_, h2⟩
    unfold forD
    rw [e1]
    simp only [Option.bind_some, e2, e3]
theorem lc_map {T : TgD} {elt : DE} {ρ : Sl} (F : D → D) : ∀ (ds : List D), (∀ d ∈ ds, ∃ l, T d = some l ∧ elt (apD ρ l) = some (F d)) → lcD T tTrue elt ρ ds = some (ds.map F)
  | [], _ => rfl
  | d :: ds, h => by
    obtain ⟨l, e1, e2⟩ := h d (List.mem_cons_self ..)
    unfold lcD
    rw [e1]
    simp only [Option.bind_some, tTrue, e2, lc_map F ds (fun x hx => h x (List.mem_cons_of_mem _ hx)), Option.map_some, List.map_cons]
theorem while_ind {t : DB} {B : DS} (P : Nat → Sl → Prop) (Q : Sl → Prop) (step : ∀ m ρ, P m ρ → (t ρ = some false ∧ Q ρ) ∨ ∃ k ρ', m = k + 1 ∧ t ρ = some true ∧ B ρ = some (.nx ρ') ∧ P k ρ') : ∀ (m : Nat) (ρ : Sl) (n : Nat), P m ρ → m < n → ∃ ρ', whileD t B n ρ = some (.nx ρ') ∧ Q ρ'
  | m, ρ, 0, _, h => absurd h (Nat.not_lt_zero _)
  | m, ρ, n + 1, hp, h => by
    rcases step m ρ hp with ⟨e, q⟩ | ⟨k, ρ1, rfl, e1, e2, h1⟩
    · refine ⟨ρ, ?_, q⟩
      unfold whileD
      rw [e]
    · obtain ⟨ρ2, e3, q⟩ := while_ind P Q step k ρ1 n h1 (by omega)
      refine ⟨ρ2, ?_, q⟩
      unfold whileD
      rw [e1]
      simp only [e2, e3]
/-- ints within bounds -/
def intsIn (lo hi : Int) (ds : List D) : Prop := ∀ d ∈ ds, ∃ i : Int, d = .int i ∧ lo ≤ i ∧ i < hi
theorem pow_div0 {x : Int} {k n : Nat} (h0 : 0 ≤ x) (h : x < 2 ^ k) (hn : k ≤ n) : x / 2 ^ n = 0 := by
  refine Int.ediv_eq_zero_of_lt h0 (Int.lt_of_lt_of_le h ?_)
  have := Nat.pow_le_pow_right (n := 2) (by decide) hn
  have c1 := PySem.W.kbt_cast k
  have c2 := PySem.W.kbt_cast n
  omega
theorem numbers_ok {hh : Int} {k : Nat} (h0 : 0 ≤ hh) (h : hh < 2 ^ k) (hk : k ≤ 64) : ∃ ds, m_numbers_in [.int hh] = some (.lst ds) ∧ intsIn 0 k ds := by
  let P : Nat → Sl → Prop := fun m ρ => ∃ (n : Nat) (ds : List D), n + m = k ∧ ds.length ≤ n ∧ intsIn 0 k ds ∧ ρ = [.val (.int hh), .own ds, .val (.int n)]
  let Q : Sl → Prop := fun ρ => ∃ (n : Nat) (ds : List D), intsIn 0 k ds ∧ ρ = [.val (.int hh), .own ds, .val (.int n)]
  obtain ⟨ρ', e, n, ds, q, rfl⟩ := while_ind (t := asB (dOp opGt (dOp opShr (dVar 0) (dVar 2)) (dC (.int 0)))) (B := sSeq (sIf (asB (dOp opEq (dOp opAnd (dOp opShr (dVar 0) (dVar 2)) (dC (.int 1))) (dC (.int 1)))) (sApp 1 (dVar 2)) sNil) (sAsg (dOp opAdd (dVar 2) (dC (.int 1))) (tgN 2))) P Q (by
    rintro m ρ ⟨n, ds, hm, hl, hd, rfl⟩
    by_cases z : hh / 2 ^ n > 0
    · right
      have hn : n < k := by
        apply Classical.byContradiction
        intro c
        rw [pow_div0 h0 h (by omega)] at z
        omega
      by_cases y : Builtin.bitAnd (hh / 2 ^ n) 1 = 1
      · refine ⟨m - 1, [.val (.int hh), .own (ds ++ [.int n]), .val (.int (n + 1 : Nat))], by omega, ?_, ?_, n + 1, ds ++ [.int n], by omega, by simp; omega, ?_, rfl⟩
        · simp [z]
        · have : ds.length ≤ 100000 := by omega
          simp [sApp, y, this, apD]
        · intro d hd'
          rcases List.mem_append.mp hd' with h' | h'
          · exact hd d h'
          · rw [List.mem_singleton] at h'
            exact ⟨n, h', by omega, by omega⟩
      · refine ⟨m - 1, [.val (.int hh), .own ds, .val (.int (n + 1 : Nat))], by omega, ?_, ?_, n + 1, ds, by omega, by omega, hd, rfl⟩
        · simp [z]
        · simp [y, apD]
    · left
      refine ⟨by simp [z], n, ds, hd, rfl⟩) k [.val (.int hh), .own [], .val (.int (0 : Nat))] 100000 ⟨0, [], by omega, Nat.le_refl _, (fun d hd => nomatch hd), rfl⟩ (by omega)
  refine ⟨ds, ?_, q⟩
  have e' : sWhile 100000 (asB (dOp opGt (dOp opShr (dVar 0) (dVar 2)) (dC (.int 0)))) (sSeq (sIf (asB (dOp opEq (dOp opAnd (dOp opShr (dVar 0) (dVar 2)) (dC (.int 1))) (dC (.int 1)))) (sApp 1 (dVar 2)) sNil) (sAsg (dOp opAdd (dVar 2) (dC (.int 1))) (tgN 2))) [.val (.int hh), .own [], .val (.int 0)] = some (.nx [.val (.int hh), .own ds, .val (.int n)]) := e
  unfold m_numbers_in m_numbers_in_b
  simp only [s_runD, s_seq, s_asgO, s_oLst, s_nil, startD, List.map_cons, List.map_nil, List.length_cons, List.length_nil, Option.bind_some, Option.map_some, List.replicate, List.cons_append, List.nil_append, List.set_cons_succ, List.set_cons_zero, s_asg_, s_c, s_tgN, apD, Nat.zero_le, if_true, ite_true]
  have : ((3 - (0 + 1) : Nat)) = 2 := rfl
  simp [apD, e', sRetO, List.replicate]
end DL
set_option maxRecDepth 100000
namespace DL
open PySem L2
/-! ### times of a row -/
abbrev rowD (mm hh : Int) (dm : D) (mo : Int) (wm : D) : D := .ins 0 [.int mm, .int hh, dm, .int mo, wm]
theorem shl_rng {mm h : Int} (m0 : 0 ≤ mm) (m1 : mm < 2 ^ 60) (h0 : 0 ≤ h) (h1 : h < 24) : 0 ≤ mm * 2 ^ (60 * h).toNat ∧ mm * 2 ^ (60 * h).toNat < 2 ^ 1440 := by
  have hp : (0 : Int) < 2 ^ (60 * h).toNat := PySem.W.kbt_pos _
  refine ⟨Int.mul_nonneg m0 (Int.le_of_lt hp), ?_⟩
  have a : mm * 2 ^ (60 * h).toNat < 2 ^ 60 * 2 ^ (60 * h).toNat := Int.mul_lt_mul_of_pos_right m1 hp
  rw [← Int.pow_add] at a
  have hle : 60 + (60 * h).toNat ≤ 1440 := by omega
  have c1 := PySem.W.kbt_cast (60 + (60 * h).toNat)
  have c2 := PySem.W.kbt_cast 1440
  have := Nat.pow_le_pow_right (n := 2) (by decide) hle
  rw [← c1] at a
  rw [← c2]
  exact Int.lt_of_lt_of_le a (Int.ofNat_le.mpr this)
theorem times_ok {mm hh mo : Int} {dm wm : D} (m0 : 0 ≤ mm) (m1 : mm < 2 ^ 60) (h0 : 0 ≤ hh) (h1 : hh < 2 ^ 24) : ∃ t, m_Row_times [rowD mm hh dm mo wm] = some (.int t) ∧ 0 ≤ t ∧ t < 2 ^ 1440 := by
  obtain ⟨ds, e, hd⟩ := numbers_ok h0 (k := 24) h1 (by decide)
  obtain ⟨ρ', ef, t, x, _, rfl, t0, t1⟩ := for_ind (T := tgN 2) (B := sAsg (dOp opOr (dVar 1) (dOp opShl (dFld at_minute_mask (dVar 0)) (dOp opMul (dC k_MINUTES_rows) (dVar 2)))) (tgN 1))
    (fun ds ρ => ∃ (t : Int) (x : S3), intsIn 0 24 ds ∧ ρ = [.val (rowD mm hh dm mo wm), .val (.int t), x] ∧ 0 ≤ t ∧ t < 2 ^ 1440) (by
      rintro d ds ρ ⟨t, x, hd, rfl, t0, t1⟩
      obtain ⟨i, rfl, i0, i1⟩ := hd d (List.mem_cons_self ..)
      obtain ⟨s0, s1⟩ := shl_rng m0 m1 i0 i1
      obtain ⟨r0, r1⟩ := or_rng (k := 1440) t0 s0 t1 s1
      refine ⟨_, [.val (rowD mm hh dm mo wm), .val (.int (bO t (mm * 2 ^ (60 * i).toNat))), .val (.int i)], rfl, ?_, _, _, fun d hd' => hd d (List.mem_cons_of_mem _ hd'), rfl, r0, r1⟩
      have a1 : (0 : Int) ≤ 60 * i := by omega
      have a2 : 60 * i ≤ 1000000 := by omega
      have a3 : mm.natAbs < 18446744073709551616 := by omega
      simp [apD, at_minute_mask, a1, a2, a3]) ds [.val (rowD mm hh dm mo wm), .val (.int 0), .un] ⟨0, .un, hd, rfl, Int.le_refl _, PySem.W.kbt_pos _⟩
  refine ⟨t, ?_, t0, t1⟩
  unfold m_Row_times m_Row_times_b
  simp [startD, apD, itE, at_hour_mask, e, ef]
end DL
set_option maxRecDepth 100000
namespace DL
open PySem L2
open PyProof.Rows (bitAnd_comm)
/-! ### marks -/
def mday (m : D) (l f : Int) : Option D := match m with
  | .ins i fs => (t_days i).bind fun M => M [.ins i fs, .int l, .int f]
  | _ => none
/-- a mask of days from 1 to the last -/
def dmOk (l n : Int) : Prop := 0 ≤ n ∧ n < 2 ^ (l + 1).toNat ∧ n % 2 = 0
instance {l n : Int} : Decidable (dmOk l n) := inferInstanceAs (Decidable (_ ∧ _))
def isDm (l : Int) : Option D → Bool
  | some (.int n) => decide (dmOk l n)
  | _ => false
theorem isDm_ok {o : Option D} {l : Int} (h : isDm l o = true) : ∃ n, o = some (.int n) ∧ dmOk l n := by
  unfold isDm at h
  split at h
  · exact ⟨_, rfl, of_decide_eq_true h⟩
  · cases h
theorem or_even0 {x y : Int} (hx : 0 ≤ x) (hy : 0 ≤ y) (ex : x % 2 = 0) (ey : y % 2 = 0) : bO x y % 2 = 0 := by
  rw [or_pp hx hy]
  have h := Nat.or_mod_two_pow (a := x.toNat) (b := y.toNat) (n := 1)
  simp only [Nat.pow_one] at h
  have e1 : x.toNat % 2 = 0 := by omega
  have e2 : y.toNat % 2 = 0 := by omega
  rw [e1, e2] at h
  have : (x.toNat ||| y.toNat) % 2 = 0 := by simpa using h
  omega
theorem dmOk_or {l x y : Int} (hx : dmOk l x) (hy : dmOk l y) : dmOk l (bO x y) := by
  obtain ⟨a1, a2, a3⟩ := hx
  obtain ⟨b1, b2, b3⟩ := hy
  have r := or_rng a1 b1 a2 b2
  exact ⟨r.1, r.2, or_even0 a1 b1 a3 b3⟩
theorem dmOk_zero {l : Int} : dmOk l 0 := ⟨Int.le_refl _, PySem.W.kbt_pos _, rfl⟩
theorem dmOk_one {l i : Int} (h1 : 1 ≤ i) (h2 : i ≤ l) : dmOk l (2 ^ i.toNat) := by
  refine ⟨Int.le_of_lt (PySem.W.kbt_pos _), ?_, ?_⟩
  · have := Nat.pow_lt_pow_right (a := 2) (by decide) (show i.toNat < (l + 1).toNat by omega)
    have c1 := PySem.W.kbt_cast i.toNat
    have c2 := PySem.W.kbt_cast (l + 1).toNat
    omega
  · obtain ⟨k, hk⟩ : ∃ k, i.toNat = k + 1 := ⟨i.toNat - 1, by omega⟩
    rw [hk, Int.pow_succ]
    omega
/-- all of 28 to 31, 0 to 6 -/
def allLF (p : Int → Int → Bool) : Bool := (List.range 4).all fun a => (List.range 7).all fun b => p (28 + a) b
theorem allLF_ok {p : Int → Int → Bool} (h : allLF p = true) {l f : Int} (h1 : 28 ≤ l ∧ l ≤ 31 ∧ 0 ≤ f ∧ f ≤ 6) : p l f = true := by
  have a := List.all_eq_true.mp (List.all_eq_true.mp h (l - 28).toNat (List.mem_range.mpr (by omega))) f.toNat (List.mem_range.mpr (by omega))
  have e1 : (28 + ((l - 28).toNat : Int)) = l := by omega
  have e2 : (f.toNat : Int) = f := by omega
  rw [e1, e2] at a
  exact a
theorem last_all : ((List.range 31).all fun b => allLF fun l f => isDm l (mday (.ins 2 [.int b]) l f)) = true := by decide +kernel
theorem near_all : ((List.range 31).all fun b => allLF fun l f => isDm l (mday (.ins 3 [.int (1 + b)]) l f)) = true := by decide +kernel
theorem lastwork_all : (allLF fun l f => isDm l (mday (.ins 4 []) l f)) = true := by decide +kernel
theorem nth_all : ((List.range 7).all fun b => (List.range 5).all fun c => allLF fun l f => isDm l (mday (.ins 6 [.int b, .int (1 + c)]) l f)) = true := by decide +kernel
theorem lastone_all : ((List.range 7).all fun b => allLF fun l f => isDm l (mday (.ins 7 [.int b]) l f)) = true := by decide +kernel
def markOk : D → Bool
  | .ins 1 [.int x] => decide (0 ≤ x ∧ x % 2 = 0)
  | .ins 2 [.int b] => decide (0 ≤ b ∧ b ≤ 30)
  | .ins 3 [.int d] => decide (1 ≤ d ∧ d ≤ 31)
  | .ins 4 [] => true
  | .ins 5 [.int _] => true
  | .ins 6 [.int w, .int m] => decide (0 ≤ w ∧ w ≤ 6 ∧ 1 ≤ m ∧ m ≤ 5)
  | .ins 7 [.int w] => decide (0 ≤ w ∧ w ≤ 6)
  | _ => false
theorem weekday_in_ok {a b : Int} : m_weekday_in [.int a, .int b] = some (.int ((b + a - 1) % 7)) := by
  unfold m_weekday_in m_weekday_in_b
  simp [startD]
theorem mem_rng {lo : Int} {n : Nat} {d : D} (h : d ∈ rngD lo n) : ∃ k : Nat, k < n ∧ d = .int (lo + k) := by
  obtain ⟨k, hk, rfl⟩ := List.mem_map.mp h
  exact ⟨k, List.mem_range.mp hk, rfl⟩
theorem weekdays_ok {x l f : Int} (h : 28 ≤ l ∧ l ≤ 31 ∧ 0 ≤ f ∧ f ≤ 6) : ∃ n, m_Weekdays_days [.ins 5 [.int x], .int l, .int f] = some (.int n) ∧ dmOk l n := by
  obtain ⟨h1, h2, h3, h4⟩ := h
  have a1 : -4611686018427387904 ≤ l + 1 := by omega
  have a2 : l + 1 < 4611686018427387904 := by omega
  obtain ⟨ρ', ef, t, y, _, rfl, td⟩ := for_ind (T := tgN 4) (B := sIf (asB (dOp opEq (dOp opAnd (dOp opShr (dFld at_mask (dVar 0)) (dCall 2 m_weekday_in (aCons (dVar 4) (aCons (dVar 2) aNil)))) (dC (.int 1))) (dC (.int 1)))) (sAsg (dOp opOr (dVar 3) (dOp opShl (dC (.int 1)) (dVar 4))) (tgN 3)) sNil)
    (fun ds ρ => ∃ (t : Int) (y : S3), intsIn 1 (l + 1) ds ∧ ρ = [.val (.ins 5 [.int x]), .val (.int l), .val (.int f), .val (.int t), y] ∧ dmOk l t) (by
      rintro d ds ρ ⟨t, y, hd, rfl, td⟩
      obtain ⟨i, rfl, i0, i1⟩ := hd d (List.mem_cons_self ..)
      have b1 : 0 ≤ (f + i - 1) % 7 := by omega
      have b2 : 0 ≤ i := by omega
      have b3 : i ≤ 1000000 := by omega
      by_cases z : Builtin.bitAnd (x / 2 ^ ((f + i - 1) % 7).toNat) 1 = 1
      · exact ⟨_, [.val (.ins 5 [.int x]), .val (.int l), .val (.int f), .val (.int (bO t (1 * 2 ^ i.toNat))), .val (.int i)], rfl, by simp [apD, at_mask, weekday_in_ok, b1, b2, b3, z], _, _, fun d hd' => hd d (List.mem_cons_of_mem _ hd'), rfl, by rw [Int.one_mul]; exact dmOk_or td (dmOk_one i0 (by omega))⟩
      · exact ⟨_, [.val (.ins 5 [.int x]), .val (.int l), .val (.int f), .val (.int t), .val (.int i)], rfl, by simp [apD, at_mask, weekday_in_ok, b1, z], _, _, fun d hd' => hd d (List.mem_cons_of_mem _ hd'), rfl, td⟩) (rngD 1 (l + 1 - 1).toNat) [.val (.ins 5 [.int x]), .val (.int l), .val (.int f), .val (.int 0), .un] ⟨0, .un, fun d hd => by
        obtain ⟨k, hk, rfl⟩ := mem_rng hd
        exact ⟨_, rfl, by omega, by omega⟩, rfl, dmOk_zero⟩
  refine ⟨t, ?_, td⟩
  unfold m_Weekdays_days m_Weekdays_days_b
  have e2 : (l + 1 - 1).toNat = l.toNat := by omega
  rw [e2] at ef
  simp [startD, apD, itR2, a1, a2, ef]
theorem mday_ok {m : D} {l f : Int} (hm : markOk m = true) (h : 28 ≤ l ∧ l ≤ 31 ∧ 0 ≤ f ∧ f ≤ 6) : ∃ n, mday m l f = some (.int n) ∧ dmOk l n := by
  unfold markOk at hm
  split at hm
  · rename_i x
    have hx := of_decide_eq_true hm
    have b1 : 0 ≤ l + 1 := by omega
    have b2 : l + 1 ≤ 1000000 := by omega
    have hp : (0 : Int) < 2 ^ (l + 1).toNat := PySem.W.kbt_pos _
    have e : bA x (2 ^ (l + 1).toNat - 1) = x % 2 ^ (l + 1).toNat := by
      show Builtin.bitAnd _ _ = _
      rw [bitAnd_comm, PySem.W.kbt_mask']
    refine ⟨x % 2 ^ (l + 1).toNat, ?_, Int.emod_nonneg _ (by omega), Int.emod_lt_of_pos _ hp, ?_⟩
    · unfold mday
      simp [t_days, m_Numbers_days, m_Numbers_days_b, startD, at_mask, b1, b2]
      exact e
    · obtain ⟨k, hk⟩ : ∃ k, (l + 1).toNat = k + 1 := ⟨(l + 1).toNat - 1, by omega⟩
      rw [hk, Int.pow_succ]
      have := Int.emod_emod_of_dvd x (show (2 : Int) ∣ 2 ^ k * 2 from ⟨2 ^ k, by rw [Int.mul_comm]⟩)
      omega
  · rename_i b
    have hb := of_decide_eq_true hm
    have := allLF_ok (List.all_eq_true.mp last_all b.toNat (List.mem_range.mpr (by omega))) h
    rw [show ((b.toNat : Nat) : Int) = b by omega] at this
    exact isDm_ok this
  · rename_i b
    have hb := of_decide_eq_true hm
    have := allLF_ok (List.all_eq_true.mp near_all (b - 1).toNat (List.mem_range.mpr (by omega))) h
    rw [show (1 + (((b - 1).toNat : Nat) : Int)) = b by omega] at this
    exact isDm_ok this
  · exact isDm_ok (allLF_ok lastwork_all h)
  · rename_i x
    obtain ⟨n, e, q⟩ := weekdays_ok (x := x) h
    exact ⟨n, e, q⟩
  · rename_i w m
    have hb := of_decide_eq_true hm
    have := allLF_ok (List.all_eq_true.mp (List.all_eq_true.mp nth_all w.toNat (List.mem_range.mpr (by omega))) (m - 1).toNat (List.mem_range.mpr (by omega))) h
    rw [show ((w.toNat : Nat) : Int) = w by omega, show (1 + (((m - 1).toNat : Nat) : Int)) = m by omega] at this
    exact isDm_ok this
  · rename_i w
    have hb := of_decide_eq_true hm
    have := allLF_ok (List.all_eq_true.mp lastone_all w.toNat (List.mem_range.mpr (by omega))) h
    rw [show ((w.toNat : Nat) : Int) = w by omega] at this
    exact isDm_ok this
  · cases hm
end DL
set_option maxRecDepth 100000
namespace DL
open PySem L2
/-! ### days of a row -/
def marksOk : D → Bool
  | .non => true
  | .lst ms => ms.all markOk
  | _ => false
theorem any_days_ok {ms : List D} {l f : Int} (hm : ms.all markOk = true) (h : 28 ≤ l ∧ l ≤ 31 ∧ 0 ≤ f ∧ f ≤ 6) : ∃ n, m_any_days [.lst ms, .int l, .int f] = some (.int n) ∧ dmOk l n := by
  obtain ⟨ρ', ef, t, y, _, rfl, td⟩ := for_ind (T := tgN 4) (B := sAsg (dOp opOr (dVar 3) (dMeth 2 t_days (dVar 4) (aCons (dVar 1) (aCons (dVar 2) aNil)))) (tgN 3))
    (fun ds ρ => ∃ (t : Int) (y : S3), ds.all markOk = true ∧ ρ = [.val (.lst ms), .val (.int l), .val (.int f), .val (.int t), y] ∧ dmOk l t) (by
      rintro d ds ρ ⟨t, y, hd, rfl, td⟩
      rw [List.all_cons, Bool.and_eq_true] at hd
      obtain ⟨n, e, q⟩ := mday_ok hd.1 h
      refine ⟨_, [.val (.lst ms), .val (.int l), .val (.int f), .val (.int (bO t n)), .val d], rfl, ?_, _, _, hd.2, rfl, dmOk_or td q⟩
      unfold mday at e
      split at e
      · simp [apD, e]
      · cases e) ms [.val (.lst ms), .val (.int l), .val (.int f), .val (.int 0), .un] ⟨0, .un, hm, rfl, dmOk_zero⟩
  refine ⟨t, ?_, td⟩
  unfold m_any_days m_any_days_b
  simp [startD, apD, itE, ef]
theorem dayM_ok {m : D} {l f x : Int} (hm : marksOk m = true) (h : 28 ≤ l ∧ l ≤ 31 ∧ 0 ≤ f ∧ f ≤ 6) (hx : dmOk l x) : ∃ n, dayM m l f (.int x) = some (.int n) ∧ dmOk l n := by
  unfold marksOk at hm
  split at hm
  · exact ⟨x, rfl, hx⟩
  · rename_i ms
    obtain ⟨n, e, q⟩ := any_days_ok hm h
    exact ⟨bO x n, by unfold dayM; simp [e], dmOk_or hx q⟩
  · cases hm
theorem dayB_ok {mm hh mo l f : Int} {dm wm : D} (h1 : marksOk dm = true) (h2 : marksOk wm = true) (h : 28 ≤ l ∧ l ≤ 31 ∧ 0 ≤ f ∧ f ≤ 6) : ∃ n, dayB (rowD mm hh dm mo wm) l f = some n ∧ dmOk l n := by
  have b1 : 0 ≤ l + 1 := by omega
  have b2 : l + 1 ≤ 1000000 := by omega
  have gen : ∃ n, ((dayM dm l f (.int 0)).bind fun x => dayM wm l f x) = some (.int n) ∧ dmOk l n := by
    obtain ⟨n, e, q⟩ := dayM_ok (x := 0) h1 h dmOk_zero
    obtain ⟨n', e', q'⟩ := dayM_ok (x := n) h2 h q
    exact ⟨n', by rw [e]; exact e', q'⟩
  obtain ⟨n, e, q⟩ := gen
  cases dm with
  | non =>
    cases wm with
    | non =>
      refine ⟨2 ^ (l + 1).toNat - 2, by simp [dayB, b1, b2], ?_⟩
      obtain ⟨k, hk⟩ : ∃ k, (l + 1).toNat = k + 1 := ⟨(l + 1).toNat - 1, by omega⟩
      have hp : (0 : Int) < 2 ^ k := PySem.W.kbt_pos _
      unfold dmOk
      rw [hk, Int.pow_succ]
      omega
    | _ => exact ⟨n, by simp only [dayB, e]; rfl, q⟩
  | _ => exact ⟨n, by simp only [dayB, e]; rfl, q⟩
theorem isNon_marks {m : D} (h : marksOk m = true) : isNon m = some (match m with | .non => true | _ => false) := by
  unfold marksOk at h
  split at h
  · rfl
  · rfl
  · cases h
/-- whether a month is in a mask -/
def inMo (mo m : Int) : Prop := bA (mo / 2 ^ m.toNat) 1 ≠ 0
instance {mo m : Int} : Decidable (inMo mo m) := inferInstanceAs (Decidable (_ ≠ _))
theorem days_in_ok {mm hh mo : Int} {dm wm : D} {k : Nat} (hk : k < 91) (h1 : marksOk dm = true) (h2 : marksOk wm = true) :
    m_Row_days_in [rowD mm hh dm mo wm, .int k] = if inMo mo (mon k).1 then (dayB (rowD mm hh dm mo wm) (mon k).2.1 (mon k).2.2).map .int else some (.int 0) := by
  obtain ⟨e, a1, a2, b⟩ := month_ok hk
  generalize (mon k).1 = m at *
  generalize (mon k).2.1 = l at *
  generalize (mon k).2.2 = f at *
  have c1 : 0 ≤ m := by omega
  have d1 : 0 ≤ l + 1 := by omega
  have d2 : l + 1 ≤ 1000000 := by omega
  unfold m_Row_days_in m_Row_days_in_b
  by_cases z : Builtin.bitAnd (mo / 2 ^ m.toNat) 1 = 0
  · have : ¬ inMo mo m := fun q => q z
    rw [if_neg this]
    simp [startD, apD, e, at_month_mask, c1, z]
  · have : inMo mo m := z
    rw [if_pos this]
    unfold marksOk at h1 h2
    split at h1
    · split at h2
      · simp [startD, apD, e, at_month_mask, c1, z, at_day_marks, at_weekday_marks, isNon, dayB, d1, d2]
      · rename_i ms
        obtain ⟨n, e2, _⟩ := any_days_ok h2 b
        simp [startD, apD, e, at_month_mask, c1, z, at_day_marks, at_weekday_marks, isNon, dayB, d1, d2, itE, forD, dayM, e2]
      · cases h2
    · rename_i ms
      obtain ⟨n, e2, _⟩ := any_days_ok h1 b
      split at h2
      · simp [startD, apD, e, at_month_mask, c1, z, at_day_marks, at_weekday_marks, isNon, dayB, d1, d2, itE, forD, dayM, e2]
      · rename_i ms'
        obtain ⟨n', e3, _⟩ := any_days_ok h2 b
        simp [startD, apD, e, at_month_mask, c1, z, at_day_marks, at_weekday_marks, isNon, dayB, d1, d2, itE, forD, dayM, e2, e3]
      · cases h2
    · cases h1
end DL
set_option maxRecDepth 100000
namespace DL
open PySem L2
/-! ### a row's masks -/
/-- a row as it may be -/
structure RowOk (d : D) : Prop where
  ex : ∃ mm hh mo dm wm, d = rowD mm hh dm mo wm ∧ 0 ≤ mm ∧ mm < 2 ^ 60 ∧ 0 ≤ hh ∧ hh < 2 ^ 24 ∧ marksOk dm = true ∧ marksOk wm = true
  mx : ∀ mm hh mo dm wm, d = rowD mm hh dm mo wm → 0 < mm ∧ 0 < hh ∧ 0 < mo ∧ mo < 2 ^ 13 ∧ mo % 2 = 0
def rowMo : D → Int
  | .ins 0 [_, _, _, .int mo, _] => mo
  | _ => 0
/-- its days in a kind of month -/
def dayN (d : D) (k : Nat) : Int := if inMo (rowMo d) (mon k).1 then (dayB d (mon k).2.1 (mon k).2.2).getD 0 else 0
theorem RowOk.days {d : D} (h : RowOk d) {k : Nat} (hk : k < 91) : m_Row_days_in [d, .int k] = some (.int (dayN d k)) := by
  obtain ⟨mm, hh, mo, dm, wm, rfl, _, _, _, _, h1, h2⟩ := h.ex
  rw [days_in_ok hk h1 h2]
  obtain ⟨n, e, _⟩ := dayB_ok (mm := mm) (hh := hh) (mo := mo) h1 h2 (month_ok hk).2.2.2
  unfold dayN
  show _ = some (D.int (if inMo mo (mon k).1 then _ else 0))
  split
  · rw [e]; rfl
  · rfl
/-- its days lie from 1 to the last one -/
theorem RowOk.dm {d : D} (h : RowOk d) {k : Nat} (hk : k < 91) : dmOk (mon k).2.1 (dayN d k) := by
  obtain ⟨mm, hh, mo, dm, wm, rfl, _, _, _, _, h1, h2⟩ := h.ex
  obtain ⟨n, e, q⟩ := dayB_ok (mm := mm) (hh := hh) (mo := mo) h1 h2 (month_ok hk).2.2.2
  unfold dayN
  split
  · rw [e]; exact q
  · exact dmOk_zero
theorem RowOk.times {d : D} (h : RowOk d) : ∃ t, m_Row_times [d] = some (.int t) ∧ 0 ≤ t ∧ t < 2 ^ 1440 := by
  obtain ⟨mm, hh, mo, dm, wm, rfl, a, b, c, e, h1, h2⟩ := h.ex
  exact times_ok a b c e
def rowM (d : D) (t : Int) (k : Nat) : List Int := (List.range (mon k).2.1.toNat).map fun i : Nat => t * bA (dayN d k / 2 ^ (1 + i)) 1
def intD (l : List Int) : List D := l.map .int
theorem zeros_row {d : D} {t : Int} {k : Nat} (h : dayN d k = 0) : rowM d t k = List.replicate (mon k).2.1.toNat 0 := by
  unfold rowM
  rw [List.eq_replicate_iff]
  refine ⟨by simp, fun b hb => ?_⟩
  obtain ⟨i, _, rfl⟩ := List.mem_map.mp hb
  rw [h]
  simp [bA, Builtin.bitAnd]
theorem lst_row {T : TgD} {elt : DE} {ρ : Sl} {d : D} {t : Int} {k : Nat} (hT : ∀ i : Int, T (.int i) = T (.int i)) (he : ∀ i : Nat, ∃ l, T (.int (1 + i)) = some l ∧ elt (apD ρ l) = some (.int (t * bA (dayN d k / 2 ^ (1 + i)) 1))) :
    lcD T tTrue elt ρ (rngD 1 (mon k).2.1.toNat) = some (intD (rowM d t k)) := by
  rw [lc_map (F := fun x => match x with | .int i => .int (t * bA (dayN d k / 2 ^ i.toNat) 1) | x => x)]
  · congr 1
    unfold rngD intD rowM
    rw [List.map_map, List.map_map]
    apply List.map_congr_left
    intro i _
    have : (1 + (i : Int)).toNat = 1 + i := by omega
    simp [this]
  · intro x hx
    obtain ⟨i, _, rfl⟩ := mem_rng hx
    obtain ⟨l, e1, e2⟩ := he i
    have : (1 + (i : Int)).toNat = 1 + i := by omega
    exact ⟨l, e1, by rw [e2]; simp [this]⟩
theorem lc_const {i : Nat} {d : D} {ρ : Sl} (ds : List D) : lcD (tgN i) tTrue (dC d) ρ ds = some (List.replicate ds.length d) := by
  rw [lc_map (T := tgN i) (elt := dC d) (fun _ => d) ds (fun x hx => ⟨_, rfl, rfl⟩), List.map_const']
theorem len_rng {lo : Int} {n : Nat} : (rngD lo n).length = n := by simp [rngD]
theorem zeros_int {n : Nat} : intD (List.replicate n 0) = List.replicate n (.int 0) := by simp [intD]
theorem bit_small (x : Int) : (-(2 ^ 64) : Int) < bA x 1 ∧ bA x 1 < 2 ^ 64 := by
  have := PyProof.Rows.bitAnd_m1 x
  show _ < Builtin.bitAnd x 1 ∧ Builtin.bitAnd x 1 < _
  rw [this]
  omega
/-- the book of a row -/
abbrev ofD (d : D) (t : Int) : D := .ins 9 [d, .int t, .mem 0 d [] []]
theorem of_days_ok {d : D} {t : Int} {k : Nat} (h : RowOk d) (hk : k < 91) : m_Of_on_days [ofD d t, .int k] = some (intD (rowM d t k)) := by
  have hd := h.days hk
  obtain ⟨mm, hh, mo, dm, wm, rfl, _, _, _, _, h1, h2⟩ := h.ex
  obtain ⟨n, eB, _⟩ := dayB_ok (mm := mm) (hh := hh) (mo := mo) h1 h2 (month_ok hk).2.2.2
  obtain ⟨e, a1, a2, b1, b2, b3, b4⟩ := month_ok hk
  have z0 : 0 ≤ (mon k).1 := by omega
  have r1 : -4611686018427387904 ≤ (mon k).2.1 := by omega
  have r2 : (mon k).2.1 < 4611686018427387904 := by omega
  have r3 : -4611686018427387904 ≤ (mon k).2.1 + 1 := by omega
  have r4 : (mon k).2.1 + 1 < 4611686018427387904 := by omega
  have r5 : (mon k).2.1.toNat ≤ 100000 := by omega
  have r6 : ((mon k).2.1 + 1 - 1).toNat = (mon k).2.1.toNat := by omega
  unfold m_Of_on_days m_Of_on_days_b
  by_cases z : Builtin.bitAnd (mo / 2 ^ (mon k).1.toNat) 1 = 0
  · have nm : ¬ inMo mo (mon k).1 := fun q => q z
    have dz : dayN (rowD mm hh dm mo wm) k = 0 := by
      unfold dayN
      exact if_neg nm
    rw [zeros_row dz]
    simp [startD, apD, e, at_row, t_months, m_Row_months, m_Row_months_b, at_month_mask, z0, z, itR1, r1, r2, oLc, len_rng, r5, lc_const, zeros_int]
  · have nm : inMo mo (mon k).1 := z
    have dz : dayN (rowD mm hh dm mo wm) k = n := by
      unfold dayN
      rw [show rowMo (rowD mm hh dm mo wm) = mo from rfl, if_pos nm, eB]
      rfl
    have lz := fun (ρ : Sl) (hρ : ρ = [.val (.ins 9 [rowD mm hh dm mo wm, .int t, .mem 0 (rowD mm hh dm mo wm) [[.inl (mon k).2.1, .inl (mon k).2.2]] [.int n]]), .val (.int k), .val (.int (mon k).1), .val (.int (mon k).2.1), .val (.int (mon k).2.2), .val (.int n), .un]) =>
      lst_row (T := tgN 6) (elt := dOp opMul (dFld at_told_times (dVar 0)) (dOp opAnd (dOp opShr (dVar 5) (dVar 6)) (dC (.int 1)))) (ρ := ρ) (d := rowD mm hh dm mo wm) (t := t) (k := k) (fun _ => rfl) (fun i => ⟨_, rfl, by
        subst hρ
        have q1 : 0 ≤ 1 + (i : Int) := by omega
        have q2 : (1 + (i : Int)).toNat = 1 + i := by omega
        have q3 := bit_small (n / 2 ^ (1 + i))
        have q4 : (-18446744073709551616 < t ∧ t < 18446744073709551616) ∨ (-18446744073709551616 < Builtin.bitAnd (n / 2 ^ (1 + i)) 1 ∧ Builtin.bitAnd (n / 2 ^ (1 + i)) 1 < 18446744073709551616) := .inr q3
        simp [apD, at_told_times, q1, q2, q4, dz]⟩)
    rw [dz] at hd
    have lz := lz _ rfl
    have ll : (rngD 1 (mon k).2.1.toNat).length ≤ 100000 := by simp [rngD]; omega
    have mc := memoFT_eq (i0 := 0) (fk := fk_0) (uk := uk_0) (att := at_told_days) (j := 0) (a := aCons (dVar 3) (aCons (dVar 4) aNil)) (f := dMeth 1 t_days_in (dFld at_row (dVar 0)) (aCons (dVar 1) aNil)) (ρ := [.val (ofD (rowD mm hh dm mo wm) t), .val (.int k), .val (.int (mon k).1), .val (.int (mon k).2.1), .val (.int (mon k).2.2), .un, .un]) (n := 9) (m := 2) (x0 := .int n) rfl rfl (by simp) rfl rfl rfl
      (by show (dayB _ _ _).map D.int = _; rw [eB]; rfl) (by simp [at_row, t_days_in, hd]) rfl (mem_kU ⟨b1, b2, b3, b4⟩)
    simp [startD, apD, e, at_row, t_months, m_Row_months, m_Row_months_b, at_month_mask, z0, z, mc, at_told_days, opMixT, keysD, keyD, itR2, r3, r4, r6, oLc, ll, lz]
end DL
set_option maxRecDepth 100000
namespace DL
open PySem L2
/-! ### masks of books -/
theorem lc_zip {i j : Nat} {elt : DE} {ρ : Sl} {g : Int → Int → Int} (he : ∀ x y : Int, elt (apD ρ [(i, .int x), (j, .int y)]) = some (.int (g x y))) : ∀ a b : List Int, lcD (tgT [i, j]) tTrue elt ρ (zipD (intD a) (intD b)) = some (intD (List.zipWith g a b))
  | [], _ => by simp [zipD, intD, lcD]
  | _ :: _, [] => by simp [zipD, intD, lcD]
  | x :: a, y :: b => by
    have ih := lc_zip he a b
    unfold zipD intD at ih ⊢
    simp only [List.map_cons, List.zip_cons_cons]
    unfold lcD
    simp only [s_tgT, List.length_cons, List.length_nil, if_true, Option.bind_some, List.zip_cons_cons, List.zip_nil_left, tTrue, he, ih, Option.map_some, List.zipWith_cons_cons, List.map_cons]
theorem lc_one {i : Nat} {elt : DE} {ρ : Sl} {g : Int → Int} (he : ∀ x : Int, elt (apD ρ [(i, .int x)]) = some (.int (g x))) (a : List Int) : lcD (tgN i) tTrue elt ρ (intD a) = some (intD (a.map g)) := by
  rw [lc_map (fun d => match d with | .int x => .int (g x) | d => d)]
  · simp [intD]
  · intro d hd
    obtain ⟨x, _, rfl⟩ := List.mem_map.mp hd
    exact ⟨_, rfl, he x⟩
theorem len_zip {a b : List Int} : (zipD (intD a) (intD b)).length = min a.length b.length := by simp [zipD, intD]
abbrev Ms := Nat → List Int
/-- masks of each kind of month -/
structure MsOk (M : Ms) : Prop where
  len : ∀ k, k < 91 → (M k).length = (mon k).2.1.toNat
  rng : ∀ k, k < 91 → ∀ x ∈ M k, 0 ≤ x ∧ x < 2 ^ 1440
def zeroM : Ms := fun k => List.replicate (mon k).2.1.toNat 0
def full : Int := 2 ^ 1440 - 1
def zipM (g : Int → Int → Int) (A B : Ms) : Ms := fun k => List.zipWith g (A k) (B k)
def turnM (A : Ms) : Ms := fun k => (A k).map fun x => full - x
theorem zero_ok : MsOk zeroM := ⟨fun k _ => by simp [zeroM], fun k _ x hx => by
  have := (List.mem_replicate.mp hx).2
  subst this
  exact ⟨Int.le_refl _, PySem.W.kbt_pos _⟩⟩
theorem row_ok {d : D} {t : Int} (t0 : 0 ≤ t) (t1 : t < 2 ^ 1440) : MsOk (rowM d t) := ⟨fun k _ => by simp [rowM], fun k _ x hx => by
  obtain ⟨i, _, rfl⟩ := List.mem_map.mp hx
  have e : bA (dayN d k / 2 ^ (1 + i)) 1 = (dayN d k / 2 ^ (1 + i)) % 2 := PyProof.Rows.bitAnd_m1 _
  rw [e]
  have h2 : dayN d k / 2 ^ (1 + i) % 2 = 0 ∨ dayN d k / 2 ^ (1 + i) % 2 = 1 := by omega
  rcases h2 with h | h
  · rw [h, Int.mul_zero]; exact ⟨Int.le_refl _, PySem.W.kbt_pos _⟩
  · rw [h, Int.mul_one]; exact ⟨t0, t1⟩⟩
theorem mem_zipWith {g : Int → Int → Int} : ∀ {a b : List Int} {z : Int}, z ∈ List.zipWith g a b → ∃ x ∈ a, ∃ y ∈ b, z = g x y
  | [], _, _, h => by simp at h
  | _ :: _, [], _, h => by simp at h
  | x :: a, y :: b, z, h => by
    rw [List.zipWith_cons_cons] at h
    rcases List.mem_cons.mp h with e | h
    · exact ⟨x, List.mem_cons_self .., y, List.mem_cons_self .., e⟩
    · obtain ⟨x', hx, y', hy, e⟩ := mem_zipWith h
      exact ⟨x', List.mem_cons_of_mem _ hx, y', List.mem_cons_of_mem _ hy, e⟩
theorem zip_ok {g : Int → Int → Int} {A B : Ms} (a : MsOk A) (b : MsOk B) (h : ∀ x y : Int, 0 ≤ x → x < 2 ^ 1440 → 0 ≤ y → y < 2 ^ 1440 → 0 ≤ g x y ∧ g x y < 2 ^ 1440) : MsOk (zipM g A B) :=
  ⟨fun k hk => by simp [zipM, a.len k hk, b.len k hk], fun k hk z hz => by
    obtain ⟨x, hx, y, hy, rfl⟩ := mem_zipWith hz
    exact h x y (a.rng k hk x hx).1 (a.rng k hk x hx).2 (b.rng k hk y hy).1 (b.rng k hk y hy).2⟩
theorem turn_ok {A : Ms} (a : MsOk A) : MsOk (turnM A) := ⟨fun k hk => by simp [turnM, a.len k hk], fun k hk z hz => by
  obtain ⟨x, hx, rfl⟩ := List.mem_map.mp hz
  have := a.rng k hk x hx
  unfold full
  omega⟩
theorem orM_ok {A B : Ms} (a : MsOk A) (b : MsOk B) : MsOk (zipM bO A B) := zip_ok a b fun x y x0 x1 y0 y1 => or_rng x0 y0 x1 y1
theorem andM_ok {A B : Ms} (a : MsOk A) (b : MsOk B) : MsOk (zipM bA A B) := zip_ok a b fun x y x0 x1 y0 y1 => ⟨(and_rng x0).1, Int.lt_of_le_of_lt (and_rng x0).2 x1⟩
/-- one less the other -/
def lessI (x y : Int) : Int := x - bA x y
theorem lessM_ok {A B : Ms} (a : MsOk A) (b : MsOk B) : MsOk (zipM lessI A B) := zip_ok a b fun x y x0 x1 y0 y1 => by
  have := and_rng (y := y) x0
  unfold lessI
  omega
end DL
set_option maxRecDepth 100000
set_option exponentiation.threshold 2000
namespace DL
open PySem L2
/-! ### books -/
def bm {α : Type} (tbl : Nat → Option (List D → Option α)) (b : D) (xs : List D) : Option α := match b with
  | .ins i fs => (tbl i).bind fun M => M (.ins i fs :: xs)
  | _ => none
structure Bk (b : D) (n : Nat) (M : Ms) (tal dep : Int) : Prop where
  cl : ∃ c fs, b = .ins c fs ∧ 8 ≤ c ∧ c ≤ 13
  on : ∀ m, n ≤ m → ∀ k : Nat, k < 91 → bm (T_on_days m) b [.int k] = some (intD (M k))
  ta : ∀ m, n ≤ m → bm (T_tally m) b [] = some (.int tal)
  de : ∀ m, n ≤ m → bm (T_depth m) b [] = some (.int dep)
  ok : MsOk M
theorem Bk.up {b : D} {n n' : Nat} {M : Ms} {t d : Int} (h : Bk b n M t d) (l : n ≤ n') : Bk b n' M t d :=
  ⟨h.cl, fun m z => h.on m (Nat.le_trans l z), fun m z => h.ta m (Nat.le_trans l z), fun m z => h.de m (Nat.le_trans l z), h.ok⟩
/-- a book's method as the walk asks for it -/
theorem meth_bm {α : Type} {n : Nat} {tbl : Nat → Option (List D → Option α)} {b : D} {xs : List D} {r : α} (hn : xs.length = n) (h : bm tbl b xs = some r) : (if xs.length = n then match b with
  | .ins i _ => (tbl i).bind fun M => M (b :: xs)
  | _ => none else none) = some r := by
  rw [if_pos hn]
  unfold bm at h
  split at h
  · exact h
  · cases h
theorem days_of_ok {k : Nat} (hk : k < 91) : m_days_of [.int k] = some (.int (mon k).2.1) := by
  unfold m_days_of m_days_of_b
  simp [startD, (month_ok hk).1, opIx, L2.atI, show ixN 3 1 = some 1 from rfl]
theorem all_times_ok : m_all_times [] = some (.int full) := by
  unfold m_all_times m_all_times_b full
  simp [startD]
theorem book_on {k : Nat} (hk : k < 91) : m_Book_on_days [.ins 8 [], .int k] = some (intD (zeroM k)) := by
  obtain ⟨e, a1, a2, b1, b2, b3, b4⟩ := month_ok hk
  have r1 : -4611686018427387904 ≤ (mon k).2.1 := by omega
  have r2 : (mon k).2.1 < 4611686018427387904 := by omega
  have r5 : (mon k).2.1.toNat ≤ 100000 := by omega
  unfold m_Book_on_days m_Book_on_days_b
  simp [startD, days_of_ok hk, itR1, r1, r2, oLc, len_rng, r5, lc_const, zeroM, zeros_int]
theorem bk_none : Bk (.ins 8 []) 1 zeroM 1 1 := by
  refine ⟨⟨8, [], rfl, by decide, by decide⟩, fun m hm k hk => ?_, fun m hm => ?_, fun m hm => ?_, zero_ok⟩
  · obtain ⟨j, rfl⟩ : ∃ j, m = j + 1 := ⟨m - 1, by omega⟩
    exact book_on hk
  · obtain ⟨j, rfl⟩ : ∃ j, m = j + 1 := ⟨m - 1, by omega⟩
    rfl
  · obtain ⟨j, rfl⟩ : ∃ j, m = j + 1 := ⟨m - 1, by omega⟩
    rfl
theorem bk_of {d : D} {t : Int} (h : RowOk d) (t0 : 0 ≤ t) (t1 : t < 2 ^ 1440) : Bk (ofD d t) 1 (rowM d t) 1 1 := by
  refine ⟨⟨9, _, rfl, by decide, by decide⟩, fun m hm k hk => ?_, fun m hm => ?_, fun m hm => ?_, row_ok t0 t1⟩
  · obtain ⟨j, rfl⟩ : ∃ j, m = j + 1 := ⟨m - 1, by omega⟩
    exact of_days_ok h hk
  · obtain ⟨j, rfl⟩ : ∃ j, m = j + 1 := ⟨m - 1, by omega⟩
    rfl
  · obtain ⟨j, rfl⟩ : ∃ j, m = j + 1 := ⟨m - 1, by omega⟩
    rfl
structure Part where
  b : D
  M : Ms
  ta : Int
  de : Int
def Parts (n : Nat) (ps : List Part) : Prop := ∀ p ∈ ps, Bk p.b n p.M p.ta p.de
def foldM (g : Int → Int → Int) (A : Ms) (ps : List Part) : Ms := ps.foldl (fun A p => zipM g A p.M) A
theorem fold_on {o : D → D → Option D} {g : Int → Int → Int} (ho : ∀ x y : Int, o (.int x) (.int y) = some (.int (g x y))) (hg : ∀ A B, MsOk A → MsOk B → MsOk (zipM g A B)) {n m k : Nat} (hm : n ≤ m) (hk : k < 91) {self : D} {A : Ms} {ps : List Part} (hA : MsOk A) (hp : Parts n ps) :
    ∃ x, forD (tgN 3) (sFrz 2 (sAsgO (oLc (itZip (aCons (dVar 2) (aCons (dO (oMeth 1 (T_on_days m) (dVar 3) (aCons (dVar 1) aNil))) aNil))) (tgT [5, 6]) tTrue (dOp o (dVar 5) (dVar 6)) [5, 6]) 2)) (ps.map (·.b)) [.val self, .val (.int k), .own (intD (A k)), .un, .un, .un, .un] =
      some (.nx [.val self, .val (.int k), .own (intD (foldM g A ps k)), x, .un, .un, .un]) := by
  obtain ⟨ρ', e, qs, B, x, hq, _, rfl, _, hf⟩ := for_ind (T := tgN 3) (B := sFrz 2 (sAsgO (oLc (itZip (aCons (dVar 2) (aCons (dO (oMeth 1 (T_on_days m) (dVar 3) (aCons (dVar 1) aNil))) aNil))) (tgT [5, 6]) tTrue (dOp o (dVar 5) (dVar 6)) [5, 6]) 2))
    (fun ds ρ => ∃ (qs : List Part) (B : Ms) (x : S3), ds = qs.map (·.b) ∧ Parts n qs ∧ ρ = [.val self, .val (.int k), .own (intD (B k)), x, .un, .un, .un] ∧ MsOk B ∧ foldM g B qs = foldM g A ps) (by
      rintro d ds ρ ⟨qs, B, x, hq, hP, rfl, hB, hf⟩
      cases qs with
      | nil => cases hq
      | cons p qs =>
        rw [List.map_cons] at hq
        obtain ⟨rfl, rfl⟩ := List.cons.inj hq
        have hb := hP p (List.mem_cons_self ..)
        have hon := meth_bm (n := 1) rfl (hb.on m hm k hk)
        refine ⟨_, [.val self, .val (.int k), .own (intD (zipM g B p.M k)), .val p.b, .un, .un, .un], rfl, ?_, qs, zipM g B p.M, _, rfl, fun q hq' => hP q (List.mem_cons_of_mem _ hq'), rfl, hg _ _ hB hb.ok, hf⟩
        have hl : min (B k).length (p.M k).length ≤ 100000 := by
          rw [hB.len k hk, hb.ok.len k hk]
          have := (month_ok hk).2.2.2.2.1
          omega
        obtain ⟨c, fs, ec, _, _⟩ := hb.cl
        rw [ec] at hon ⊢
        simp only [List.length_cons, List.length_nil, if_true] at hon
        have z := lc_zip (i := 5) (j := 6) (elt := dOp o (dVar 5) (dVar 6)) (ρ := [.val self, .val (.int k), .val (.lst (intD (B k))), .val (.ins c fs), .un, .un, .un]) (g := g) (fun x y => by simp [apD, ho]) (B k) (p.M k)
        simp [apD, frzD, itZip, hon, oLc, len_zip, hl, z, zipM]) (ps.map (·.b)) _ ⟨ps, A, .un, rfl, hp, rfl, hA, rfl⟩
  cases qs with
  | nil =>
    have : B = foldM g A ps := hf
    subst this
    exact ⟨x, e⟩
  | cons q qs => cases hq
end DL
set_option maxRecDepth 100000
set_option exponentiation.threshold 2000
namespace DL
open PySem L2
/-! ### books of books -/
def fullM : Ms := fun k => List.replicate (mon k).2.1.toNat full
theorem full_ok : MsOk fullM := ⟨fun k _ => by simp [fullM], fun k _ x hx => by
  have := (List.mem_replicate.mp hx).2
  subst this
  unfold full
  have := PySem.W.kbt_pos 1440
  omega⟩
theorem asInts_intD : ∀ l : List Int, asInts (intD l) = some l
  | [] => rfl
  | x :: l => by
    have ih := asInts_intD l
    unfold intD at ih ⊢
    simp [asInts, ih]
theorem lc_parts {i : Nat} {tbl : Nat → Option (List D → Option D)} {ρ : Sl} {f : Part → Int} (hv : ∀ d : D, dVar i (apD ρ [(i, d)]) = some d) : ∀ ps : List Part, (∀ p ∈ ps, bm tbl p.b [] = some (.int (f p))) → lcD (tgN i) tTrue (dMeth 0 tbl (dVar i) aNil) ρ (ps.map (·.b)) = some (intD (ps.map f))
  | [], _ => rfl
  | p :: ps, h => by
    have ih := lc_parts (f := f) hv ps (fun q hq => h q (List.mem_cons_of_mem _ hq))
    have e := h p (List.mem_cons_self ..)
    unfold bm at e
    split at e
    · rename_i c fs eb
      unfold intD at ih ⊢
      rw [List.map_cons, eb]
      unfold lcD
      simp only [s_tgN, Option.bind_some, tTrue, s_meth, hv, s_nil, ih, Option.map_some, List.map_cons, List.length_nil, if_true]
      rw [e]
      rfl
    · cases e
section
variable {n m k : Nat} {ps : List Part}
theorem joined_on (hm : n ≤ m) (hk : k < 91) (hp : Parts n ps) : m_Joined_on_days (T_on_days m) [.ins 10 [.tup (ps.map (·.b))], .int k] = some (intD (foldM bO zeroM ps k)) := by
  obtain ⟨e, a1, a2, b1, b2, b3, b4⟩ := month_ok hk
  have r1 : -4611686018427387904 ≤ (mon k).2.1 := by omega
  have r2 : (mon k).2.1 < 4611686018427387904 := by omega
  have r5 : (mon k).2.1.toNat ≤ 100000 := by omega
  obtain ⟨x, ef⟩ := fold_on (o := opOr) (fun _ _ => rfl) (fun A B => orM_ok) hm hk (self := .ins 10 [.tup (ps.map (·.b))]) zero_ok hp
  unfold m_Joined_on_days m_Joined_on_days_b
  rw [zeroM, zeros_int] at ef
  simp [startD, days_of_ok hk, itR1, r1, r2, oLc, len_rng, r5, lc_const, apD, itE, at_books, ef, sRetO]
theorem met_on (hm : n ≤ m) (hk : k < 91) (hp : Parts n ps) : m_Met_on_days (T_on_days m) [.ins 11 [.tup (ps.map (·.b))], .int k] = some (intD (foldM bA fullM ps k)) := by
  obtain ⟨e, a1, a2, b1, b2, b3, b4⟩ := month_ok hk
  have r1 : -4611686018427387904 ≤ (mon k).2.1 := by omega
  have r2 : (mon k).2.1 < 4611686018427387904 := by omega
  have r5 : (mon k).2.1.toNat ≤ 100000 := by omega
  obtain ⟨x, ef⟩ := fold_on (o := opAnd) (fun _ _ => rfl) (fun A B => andM_ok) hm hk (self := .ins 11 [.tup (ps.map (·.b))]) full_ok hp
  unfold m_Met_on_days m_Met_on_days_b
  have fi : intD (List.replicate (mon k).2.1.toNat full) = List.replicate (mon k).2.1.toNat (.int full) := by simp [intD]
  have lcf : ∀ ρ : Sl, lcD (tgN 4) tTrue (dCall 0 m_all_times aNil) ρ (rngD 0 (mon k).2.1.toNat) = some (List.replicate (mon k).2.1.toNat (.int full)) := fun ρ => by
    rw [lc_map (T := tgN 4) (elt := dCall 0 m_all_times aNil) (fun _ => .int full) _ (fun x hx => ⟨_, rfl, by simp [all_times_ok]⟩), List.map_const', len_rng]
  rw [fullM, fi] at ef
  simp [startD, days_of_ok hk, itR1, r1, r2, oLc, len_rng, r5, lcf, apD, itE, at_books, ef, sRetO]
theorem joined_tally (hm : n ≤ m) (hl : ps.length ≤ 8) (hp : Parts n ps) : m_Joined_tally (T_tally m) [.ins 10 [.tup (ps.map (·.b))]] = some (.int (1 + (ps.map (·.ta)).sum)) := by
  have z := lc_parts (i := 1) (tbl := T_tally m) (ρ := [.val (.ins 10 [.tup (ps.map (·.b))]), .un]) (f := (·.ta)) (fun d => by simp [apD]) ps (fun p hp' => (hp p hp').ta m hm)
  have l8 : ps.length ≤ 100000 := by omega
  unfold m_Joined_tally m_Joined_tally_b
  simp [startD, oLc, itE, at_books, l8, z, bSum, asInts_intD]
theorem joined_depth (hm : n ≤ m) (h0 : 0 < ps.length) (hl : ps.length ≤ 8) (hp : Parts n ps) : m_Joined_depth (T_depth m) [.ins 10 [.tup (ps.map (·.b))]] = some (.int (1 + maxI (ps.map (·.de)))) := by
  have z := lc_parts (i := 1) (tbl := T_depth m) (ρ := [.val (.ins 10 [.tup (ps.map (·.b))]), .un]) (f := (·.de)) (fun d => by simp [apD]) ps (fun p hp' => (hp p hp').de m hm)
  have l8 : ps.length ≤ 100000 := by omega
  unfold m_Joined_depth m_Joined_depth_b
  simp [startD, oLc, itE, at_books, l8, z, bMax, asInts_intD, h0]
theorem met_tally (hm : n ≤ m) (hl : ps.length ≤ 8) (hp : Parts n ps) : m_Met_tally (T_tally m) [.ins 11 [.tup (ps.map (·.b))]] = some (.int (1 + (ps.map (·.ta)).sum)) := by
  have z := lc_parts (i := 1) (tbl := T_tally m) (ρ := [.val (.ins 11 [.tup (ps.map (·.b))]), .un]) (f := (·.ta)) (fun d => by simp [apD]) ps (fun p hp' => (hp p hp').ta m hm)
  have l8 : ps.length ≤ 100000 := by omega
  unfold m_Met_tally m_Met_tally_b
  simp [startD, oLc, itE, at_books, l8, z, bSum, asInts_intD]
theorem met_depth (hm : n ≤ m) (h0 : 0 < ps.length) (hl : ps.length ≤ 8) (hp : Parts n ps) : m_Met_depth (T_depth m) [.ins 11 [.tup (ps.map (·.b))]] = some (.int (1 + maxI (ps.map (·.de)))) := by
  have z := lc_parts (i := 1) (tbl := T_depth m) (ρ := [.val (.ins 11 [.tup (ps.map (·.b))]), .un]) (f := (·.de)) (fun d => by simp [apD]) ps (fun p hp' => (hp p hp').de m hm)
  have l8 : ps.length ≤ 100000 := by omega
  unfold m_Met_depth m_Met_depth_b
  simp [startD, oLc, itE, at_books, l8, z, bMax, asInts_intD, h0]
theorem fold_ok {g : Int → Int → Int} (hg : ∀ A B, MsOk A → MsOk B → MsOk (zipM g A B)) : ∀ (ps : List Part) (A : Ms), MsOk A → Parts n ps → MsOk (foldM g A ps)
  | [], A, h, _ => h
  | p :: ps, A, h, hp => fold_ok hg ps (zipM g A p.M) (hg _ _ h (hp p (List.mem_cons_self ..)).ok) (fun q hq => hp q (List.mem_cons_of_mem _ hq))
theorem bk_joined (h0 : 0 < ps.length) (hl : ps.length ≤ 8) (hp : Parts n ps) : Bk (.ins 10 [.tup (ps.map (·.b))]) (n + 1) (foldM bO zeroM ps) (1 + (ps.map (·.ta)).sum) (1 + maxI (ps.map (·.de))) := by
  refine ⟨⟨10, _, rfl, by decide, by decide⟩, fun m hm k hk => ?_, fun m hm => ?_, fun m hm => ?_, fold_ok (fun A B => orM_ok) ps _ zero_ok hp⟩ <;> obtain ⟨j, rfl⟩ : ∃ j, m = j + 1 := ⟨m - 1, by omega⟩
  · exact joined_on (by omega) hk hp
  · exact joined_tally (by omega) hl hp
  · exact joined_depth (by omega) h0 hl hp
theorem bk_met (h0 : 0 < ps.length) (hl : ps.length ≤ 8) (hp : Parts n ps) : Bk (.ins 11 [.tup (ps.map (·.b))]) (n + 1) (foldM bA fullM ps) (1 + (ps.map (·.ta)).sum) (1 + maxI (ps.map (·.de))) := by
  refine ⟨⟨11, _, rfl, by decide, by decide⟩, fun m hm k hk => ?_, fun m hm => ?_, fun m hm => ?_, fold_ok (fun A B => andM_ok) ps _ full_ok hp⟩ <;> obtain ⟨j, rfl⟩ : ∃ j, m = j + 1 := ⟨m - 1, by omega⟩
  · exact met_on (by omega) hk hp
  · exact met_tally (by omega) hl hp
  · exact met_depth (by omega) h0 hl hp
end
end DL
set_option maxRecDepth 100000
set_option exponentiation.threshold 2000
namespace DL
open PySem L2
theorem zip_same {g h : Int → Int → Int} : ∀ {a b : List Int}, (∀ x ∈ a, ∀ y ∈ b, g x y = h x y) → List.zipWith g a b = List.zipWith h a b
  | [], _, _ => by simp
  | _ :: _, [], _ => by simp
  | x :: a, y :: b, e => by
    rw [List.zipWith_cons_cons, List.zipWith_cons_cons, e x (List.mem_cons_self ..) y (List.mem_cons_self ..), zip_same fun x hx y hy => e x (List.mem_cons_of_mem _ hx) y (List.mem_cons_of_mem _ hy)]
theorem xor_full {x : Int} (h0 : 0 ≤ x) (h1 : x < 2 ^ 1440) : bX full x = full - x := by
  show Builtin.bitXor full x = _
  have e : Builtin.bitAnd full x = x := by
    unfold full
    rw [PySem.W.kbt_mask']
    exact Int.emod_eq_of_lt h0 h1
  rw [PyProof.Rows.bitXor_and, e]
  omega
section
variable {n m k : Nat} {a b : D} {A B : Ms} {ta tb da db : Int}
theorem less_on (hm : n ≤ m) (hk : k < 91) (ha : Bk a n A ta da) (hb : Bk b n B tb db) : m_Less_on_days (T_on_days m) [.ins 12 [a, b], .int k] = some (intD (zipM lessI A B k)) := by
  have e1 := ha.on m hm k hk
  have e2 := hb.on m hm k hk
  obtain ⟨c, fs, rfl, _, _⟩ := ha.cl
  obtain ⟨c', fs', rfl, _, _⟩ := hb.cl
  unfold bm at e1 e2
  dsimp only at e1 e2
  have hl : min (A k).length (B k).length ≤ 100000 := by
    rw [ha.ok.len k hk]
    have := (month_ok hk).2.2.2.2.1
    omega
  have z := lc_zip (i := 2) (j := 3) (elt := dOp opXor (dVar 2) (dOp opAnd (dVar 2) (dVar 3))) (ρ := [.val (.ins 12 [.ins c fs, .ins c' fs']), .val (.int k), .un, .un]) (g := fun x y => bX x (bA x y)) (fun x y => by simp [apD]) (A k) (B k)
  have q : List.zipWith (fun x y => bX x (bA x y)) (A k) (B k) = zipM lessI A B k := zip_same fun x hx y hy => xor_and_self (ha.ok.rng k hk x hx).1 (hb.ok.rng k hk y hy).1
  rw [q] at z
  unfold m_Less_on_days m_Less_on_days_b
  simp [startD, itZip, at_one, at_other, e1, e2, oLc, len_zip, hl, z]
theorem turned_on (hm : n ≤ m) (hk : k < 91) (ha : Bk a n A ta da) : m_Turned_on_days (T_on_days m) [.ins 13 [a], .int k] = some (intD (turnM A k)) := by
  have e1 := ha.on m hm k hk
  obtain ⟨c, fs, rfl, _, _⟩ := ha.cl
  unfold bm at e1
  dsimp only at e1
  have hl : (intD (A k)).length ≤ 100000 := by
    have := (month_ok hk).2.2.2.2.1
    simp only [intD, List.length_map, ha.ok.len k hk]
    omega
  have z := lc_one (i := 2) (elt := dOp opXor (dCall 0 m_all_times aNil) (dVar 2)) (ρ := [.val (.ins 13 [.ins c fs]), .val (.int k), .un]) (g := fun x => bX full x) (fun x => by simp [apD, all_times_ok]) (A k)
  have q : (A k).map (fun x => bX full x) = turnM A k := List.map_congr_left fun x hx => xor_full (ha.ok.rng k hk x hx).1 (ha.ok.rng k hk x hx).2
  rw [q] at z
  unfold m_Turned_on_days m_Turned_on_days_b
  simp [startD, itE, at_one, e1, oLc, hl, z]
theorem bk_less (ha : Bk a n A ta da) (hb : Bk b n B tb db) : Bk (.ins 12 [a, b]) (n + 1) (zipM lessI A B) (1 + ta + tb) (1 + (if db > da then db else da)) := by
  refine ⟨⟨12, _, rfl, by decide, by decide⟩, fun m hm k hk => ?_, fun m hm => ?_, fun m hm => ?_, lessM_ok ha.ok hb.ok⟩ <;> obtain ⟨j, rfl⟩ : ∃ j, m = j + 1 := ⟨m - 1, by omega⟩
  · exact less_on (by omega) hk ha hb
  · have e1 := ha.ta j (by omega)
    have e2 := hb.ta j (by omega)
    obtain ⟨c, fs, rfl, _, _⟩ := ha.cl
    obtain ⟨c', fs', rfl, _, _⟩ := hb.cl
    unfold bm at e1 e2
    dsimp only at e1 e2
    show m_Less_tally (T_tally j) [.ins 12 [.ins c fs, .ins c' fs']] = _
    unfold m_Less_tally m_Less_tally_b
    simp [startD, at_one, at_other, e1, e2]
  · have e1 := ha.de j (by omega)
    have e2 := hb.de j (by omega)
    obtain ⟨c, fs, rfl, _, _⟩ := ha.cl
    obtain ⟨c', fs', rfl, _, _⟩ := hb.cl
    unfold bm at e1 e2
    dsimp only at e1 e2
    show m_Less_depth (T_depth j) [.ins 12 [.ins c fs, .ins c' fs']] = _
    unfold m_Less_depth m_Less_depth_b
    simp [startD, at_one, at_other, e1, e2, bMax]
theorem bk_turned (ha : Bk a n A ta da) : Bk (.ins 13 [a]) (n + 1) (turnM A) (1 + ta) (1 + da) := by
  refine ⟨⟨13, _, rfl, by decide, by decide⟩, fun m hm k hk => ?_, fun m hm => ?_, fun m hm => ?_, turn_ok ha.ok⟩ <;> obtain ⟨j, rfl⟩ : ∃ j, m = j + 1 := ⟨m - 1, by omega⟩
  · exact turned_on (by omega) hk ha
  · have e1 := ha.ta j (by omega)
    obtain ⟨c, fs, rfl, _, _⟩ := ha.cl
    unfold bm at e1
    dsimp only at e1
    show m_Turned_tally (T_tally j) [.ins 13 [.ins c fs]] = _
    unfold m_Turned_tally m_Turned_tally_b
    simp [startD, at_one, e1]
  · have e1 := ha.de j (by omega)
    obtain ⟨c, fs, rfl, _, _⟩ := ha.cl
    unfold bm at e1
    dsimp only at e1
    show m_Turned_depth (T_depth j) [.ins 13 [.ins c fs]] = _
    unfold m_Turned_depth m_Turned_depth_b
    simp [startD, at_one, e1]
end
/-! ### books made -/
theorem isBook_ok {b : D} {n : Nat} {M : Ms} {t d : Int} (h : Bk b n M t d) : m_need_book [b] = some .non := by
  obtain ⟨c, fs, rfl, h1, h2⟩ := h.cl
  have hc : c = 8 ∨ c = 9 ∨ c = 10 ∨ c = 11 ∨ c = 12 ∨ c = 13 := by omega
  unfold m_need_book m_need_book_b
  rcases hc with rfl | rfl | rfl | rfl | rfl | rfl <;> simp [startD, tagOf, isiBook]
theorem need_small_ok {n : Nat} {ps : List Part} (hn : n ≤ 8) (hp : Parts n ps) (h0 : 0 < ps.length) (hl : ps.length ≤ 8) (ht : 1 + (ps.map (·.ta)).sum ≤ 24) (hd : 1 + maxI (ps.map (·.de)) ≤ 5) : m_need_small [.lst (ps.map (·.b))] = some .non := by
  have z := lc_parts (i := 1) (tbl := T_tally 8) (ρ := [.val (.lst (ps.map (·.b))), .un]) (f := (·.ta)) (fun d => by simp [apD]) ps (fun p hp' => (hp p hp').ta 8 hn)
  have y := lc_parts (i := 1) (tbl := T_depth 8) (ρ := [.val (.lst (ps.map (·.b))), .un]) (f := (·.de)) (fun d => by simp [apD]) ps (fun p hp' => (hp p hp').de 8 hn)
  have l8 : ps.length ≤ 100000 := by omega
  have t2 : ¬ (24 < 1 + (ps.map (·.ta)).sum) := by omega
  have d2 : ¬ (5 < 1 + maxI (ps.map (·.de))) := by omega
  unfold m_need_small m_need_small_b
  simp [startD, oLc, itE, l8, z, y, bSum, bMax, asInts_intD, h0, t2, d2]
end DL
set_option maxRecDepth 100000
set_option exponentiation.threshold 2000
namespace DL
open PySem L2
/-! ### books by their classes -/
section
variable {n : Nat} {ps : List Part}
/-- small enough to be put in a book -/
structure Small (ps : List Part) : Prop where
  h0 : 0 < ps.length
  hl : ps.length ≤ 8
  ht : 1 + (ps.map (·.ta)).sum ≤ 24
  hd : 1 + maxI (ps.map (·.de)) ≤ 5
theorem books_of_ok (hn : n ≤ 8) (hp : Parts n ps) (s : Small ps) : m_books_of [.lst (ps.map (·.b))] = some (.tup (ps.map (·.b))) := by
  obtain ⟨ρ', e, qs, x, hq, _, rfl⟩ := for_ind (T := tgN 1) (B := sDrop (dCall 1 m_need_book (aCons (dVar 1) aNil)))
    (fun ds ρ => ∃ (qs : List Part) (x : S3), ds = qs.map (·.b) ∧ Parts n qs ∧ ρ = [.val (.lst (ps.map (·.b))), x]) (by
      rintro d ds ρ ⟨qs, x, hq, hP, rfl⟩
      cases qs with
      | nil => cases hq
      | cons p qs =>
        rw [List.map_cons] at hq
        obtain ⟨rfl, rfl⟩ := List.cons.inj hq
        exact ⟨_, [.val (.lst (ps.map (·.b))), .val p.b], rfl, by simp [apD, isBook_ok (hP p (List.mem_cons_self ..))], qs, _, rfl, fun q hq' => hP q (List.mem_cons_of_mem _ hq'), rfl⟩) (ps.map (·.b)) [.val (.lst (ps.map (·.b))), .un] ⟨ps, .un, rfl, hp, rfl⟩
  have z := need_small_ok hn hp s.h0 s.hl s.ht s.hd
  have l1 : (1 : Int) ≤ ps.length := by have := s.h0; omega
  have l2 : (ps.length : Int) ≤ 8 := by have := s.hl; omega
  unfold m_books_of m_books_of_b
  simp [startD, tagOf, isiB, kitB, bLen, l1, l2, itE, e, z, bTuple]
theorem joined_made (hn : n ≤ 8) (hp : Parts n ps) (s : Small ps) : i_Joined [.lst (ps.map (·.b))] = some [.tup (ps.map (·.b))] := by
  show (m_books_of _).map _ = _
  rw [books_of_ok hn hp s]
  rfl
theorem met_made (hn : n ≤ 8) (hp : Parts n ps) (s : Small ps) : i_Met [.lst (ps.map (·.b))] = some [.tup (ps.map (·.b))] := by
  show (m_books_of _).map _ = _
  rw [books_of_ok hn hp s]
  rfl
theorem less_made {p q : Part} (hn : n ≤ 8) (hp : Parts n [p, q]) (s : Small [p, q]) : i_Less [p.b, q.b] = some [p.b, q.b] := by
  have z := need_small_ok hn hp s.h0 s.hl s.ht s.hd
  show (m_need_book _).bind _ = _
  rw [isBook_ok (hp p (by simp))]
  show (m_need_book _).bind _ = _
  rw [isBook_ok (hp q (by simp))]
  show (m_need_small [.lst [p.b, q.b]]).map _ = _
  have z : m_need_small [.lst [p.b, q.b]] = some .non := z
  rw [z]
  rfl
theorem turned_made {p : Part} (hn : n ≤ 8) (hp : Parts n [p]) (s : Small [p]) : i_Turned [p.b] = some [p.b] := by
  have z := need_small_ok hn hp s.h0 s.hl s.ht s.hd
  show (m_need_book _).bind _ = _
  rw [isBook_ok (hp p (by simp))]
  show (m_need_small [.lst [p.b]]).map _ = _
  have z : m_need_small [.lst [p.b]] = some .non := z
  rw [z]
  rfl
theorem of_made {d : D} {t : Int} (h : RowOk d) (ht : m_Row_times [d] = some (.int t)) : i_Of [d] = some [d, .int t, .mem 0 d [] []] := by
  obtain ⟨mm, hh, mo, dm, wm, rfl, _⟩ := h.ex
  show (m_Row_times [rowD mm hh dm mo wm]).map _ = _
  rw [ht]
  rfl
end
end DL
set_option maxRecDepth 100000
set_option exponentiation.threshold 2000
namespace DL
open PySem L2
/-! ### the law's trees -/
theorem law_joined_join {x y : Int} : m__law_joined [.str "join", .int x, .int y] = some (.int (bO x y)) := by
  unfold m__law_joined m__law_joined_b
  simp [startD]
theorem law_joined_meet {x y : Int} : m__law_joined [.str "meet", .int x, .int y] = some (.int (bA x y)) := by
  have h1 : ¬ (("meet" : Str) = "join") := by decide +kernel
  unfold m__law_joined m__law_joined_b
  simp [startD, h1]
theorem law_joined_less {x y : Int} : m__law_joined [.str "less", .int x, .int y] = some (.int (bA x (full - y))) := by
  have h1 : ¬ (("less" : Str) = "join") := by decide +kernel
  have h2 : ¬ (("less" : Str) = "meet") := by decide +kernel
  unfold m__law_joined m__law_joined_b full
  simp [startD, h1, h2]
theorem masks_none {n k : Nat} {xs : List D} (hk : k < 91) : m__law_masks (n + 1) [.tup [.str "none", .lst xs], .int k] = some (.lst (intD (zeroM k))) := by
  obtain ⟨e, a1, a2, b1, b2, b3, b4⟩ := month_ok hk
  have q1 : -(2 ^ 63) ≤ (mon k).2.1 ∧ (mon k).2.1 < 2 ^ 63 ∧ (mon k).2.1.toNat ≤ 100000 := by omega
  show runD 11 (m__law_masks_b (m__law_masks n)) _ = _
  unfold m__law_masks_b
  simp [startD, apD, e, opIx, L2.atI, show ixN 3 1 = some 1 from rfl, opMul, zeroM, zeros_int]
  have q2 : -9223372036854775808 ≤ (mon k).2.1 := by omega
  have q3 : (mon k).2.1 < 9223372036854775808 := by omega
  have q4 : (mon k).2.1 ≤ 100000 := by omega
  simp [q2, q3, q4]
theorem masks_row {n k : Nat} {d : D} {t : Int} (hk : k < 91) (h : RowOk d) : m__law_masks (n + 1) [.tup [.str "row", .lst [d, .int t]], .int k] = some (.lst (intD (rowM d t k))) := by
  have h1 : ¬ (("row" : Str) = "none") := by decide +kernel
  obtain ⟨e, a1, a2, b1, b2, b3, b4⟩ := month_ok hk
  have hd := h.days hk
  obtain ⟨mm, hh, mo, dm, wm, rfl, _, _, _, _, _, _⟩ := h.ex
  have r3 : -4611686018427387904 ≤ (mon k).2.1 + 1 := by omega
  have r4 : (mon k).2.1 + 1 < 4611686018427387904 := by omega
  have r6 : ((mon k).2.1 + 1 - 1).toNat = (mon k).2.1.toNat := by omega
  have ll : (mon k).2.1.toNat ≤ 100000 := by omega
  have lz := lst_row (T := tgN 9) (elt := dOp opMul (dOp opIx (dVar 3) (dC (.int 1))) (dOp opAnd (dOp opShr (dVar 5) (dVar 9)) (dC (.int 1)))) (ρ := [.val (.tup [.str "row", .lst [rowD mm hh dm mo wm, .int t]]), .val (.int k), .val (.str "row"), .val (.lst [rowD mm hh dm mo wm, .int t]), .val (.int (mon k).2.1), .val (.int (dayN (rowD mm hh dm mo wm) k)), .un, .un, .un, .un, .un]) (d := rowD mm hh dm mo wm) (t := t) (k := k) (fun _ => rfl) (fun i => ⟨_, rfl, by
    have q1 : 0 ≤ 1 + (i : Int) := by omega
    have q2 : (1 + (i : Int)).toNat = 1 + i := by omega
    have q3 := bit_small (dayN (rowD mm hh dm mo wm) k / 2 ^ (1 + i))
    have q4 : (-18446744073709551616 < t ∧ t < 18446744073709551616) ∨ (-18446744073709551616 < Builtin.bitAnd (dayN (rowD mm hh dm mo wm) k / 2 ^ (1 + i)) 1 ∧ Builtin.bitAnd (dayN (rowD mm hh dm mo wm) k / 2 ^ (1 + i)) 1 < 18446744073709551616) := .inr q3
    simp [apD, opIx, L2.atI, show ixN 2 1 = some 1 from rfl, q1, q2, q4]⟩)
  show runD 11 (m__law_masks_b (m__law_masks n)) _ = _
  unfold m__law_masks_b
  simp [startD, apD, e, h1, opIx, L2.atI, show ixN 3 1 = some 1 from rfl, show ixN 2 0 = some 0 from rfl, t_days_in, hd, itR2, r3, r4, r6, oLc, len_rng, ll, lz]
theorem atI_nat {α : Type} {xs : List α} {i : Nat} {x : α} (h : xs[i]? = some x) : L2.atI xs (i : Int) = some x := by
  have hl : i < xs.length := (List.getElem?_eq_some_iff.mp h).1
  unfold L2.atI
  have e : ixN xs.length (i : Int) = some i := by
    unfold ixN
    simp [hl]
  rw [e]
  exact h
/-- [f(a[i], b[i]) for i in range(n)] -/
theorem lc_at {w : Str} {g : Int → Int → Int} (hg : ∀ x y : Int, m__law_joined [.str w, .int x, .int y] = some (.int (g x y))) {ρ : Sl} {a b : List Int} (hl : a.length = b.length)
    (h2 : ∀ i : Nat, dVar 2 (apD ρ [(9, .int i)]) = some (.str w)) (h6 : ∀ i : Nat, dVar 6 (apD ρ [(9, .int i)]) = some (.lst (intD a))) (h8 : ∀ i : Nat, dVar 8 (apD ρ [(9, .int i)]) = some (.lst (intD b))) (h9 : ∀ i : Nat, dVar 9 (apD ρ [(9, .int i)]) = some (.int i)) :
    lcD (tgN 9) tTrue (dCall 3 m__law_joined (aCons (dVar 2) (aCons (dOp opIx (dVar 6) (dVar 9)) (aCons (dOp opIx (dVar 8) (dVar 9)) aNil)))) ρ (rngD 0 a.length) = some (intD (List.zipWith g a b)) := by
  rw [lc_map (fun d => match d with | .int i => (.int (g (a.getD i.toNat 0) (b.getD i.toNat 0))) | d => d)]
  · congr 1
    unfold rngD intD
    rw [List.map_map]
    apply List.ext_getElem
    · simp [hl]
    · intro i p q
      have hi : i < a.length := by simpa using p
      have hj : i < b.length := by omega
      simp [hi, hj]
  · intro d hd
    obtain ⟨i, hi, rfl⟩ := mem_rng hd
    have hj : i < b.length := by omega
    have z : (0 : Int) + (i : Int) = i := by omega
    rw [z]
    refine ⟨_, rfl, ?_⟩
    have ea : L2.atI (intD a) (i : Int) = some (.int a[i]) := atI_nat (by simp [intD, hi])
    have eb : L2.atI (intD b) (i : Int) = some (.int b[i]) := atI_nat (by simp [intD, hj])
    simp only [s_call, s_cons, s_nil, s_op, h2, h6, h8, h9, Option.bind_some, Option.map_some, opIx, ea, eb, List.length_cons, List.length_nil, if_true, hg, Int.toNat_natCast]
    simp [hi, hj]
end DL
set_option maxRecDepth 100000
set_option exponentiation.threshold 2000
namespace DL
open PySem L2
section
variable {n k : Nat}
theorem masks_turn {t : D} {A : Ms} (hk : k < 91) (hA : MsOk A) (h : m__law_masks n [t, .int k] = some (.lst (intD (A k)))) : m__law_masks (n + 1) [.tup [.str "turn", .lst [t]], .int k] = some (.lst (intD (turnM A k))) := by
  have h1 : ¬ (("turn" : Str) = "none") := by decide +kernel
  have h2 : ¬ (("turn" : Str) = "row") := by decide +kernel
  obtain ⟨e, a1, a2, b1, b2, b3, b4⟩ := month_ok hk
  have hl : (intD (A k)).length ≤ 100000 := by
    simp only [intD, List.length_map, hA.len k hk]
    omega
  have z := lc_one (i := 10) (elt := dOp opSub (dOp opSub (dOp opShl (dC (.int 1)) (dC (.int 1440))) (dC (.int 1))) (dVar 10)) (ρ := [.val (.tup [.str "turn", .lst [t]]), .val (.int k), .val (.str "turn"), .val (.lst [t]), .val (.int (mon k).2.1), .un, .val (.lst (intD (A k))), .un, .un, .un, .un]) (g := fun x => full - x) (fun x => by simp [apD, full]) (A k)
  show runD 11 (m__law_masks_b (m__law_masks n)) _ = _
  unfold m__law_masks_b
  simp [startD, apD, e, h1, h2, opIx, L2.atI, show ixN 3 1 = some 1 from rfl, show ixN 1 0 = some 0 from rfl, h, itE, oLc, hl, z, turnM]
/-- a tree with its masks -/
def TrM (n : Nat) (t : D) (A : Ms) : Prop := ∀ k : Nat, k < 91 → m__law_masks n [t, .int k] = some (.lst (intD (A k)))
theorem masks_fold {w : Str} {g : Int → Int → Int} (h1 : ¬ w = "none") (h2 : ¬ w = "row") (h3 : ¬ w = "turn") (hg : ∀ x y : Int, m__law_joined [.str w, .int x, .int y] = some (.int (g x y))) (hgM : ∀ A B, MsOk A → MsOk B → MsOk (zipM g A B)) (hk : k < 91)
    {t : D} {A : Ms} (ht : TrM n t A) (hA : MsOk A) {ts : List (D × Ms)} (hts : ∀ q ∈ ts, TrM n q.1 q.2 ∧ MsOk q.2) : m__law_masks (n + 1) [.tup [.str w, .lst (t :: ts.map (·.1))], .int k] = some (.lst (intD ((ts.foldl (fun B q => zipM g B q.2) A) k))) := by
  obtain ⟨e, a1, a2, b1, b2, b3, b4⟩ := month_ok hk
  have r1 : -4611686018427387904 ≤ (mon k).2.1 := by omega
  have r2 : (mon k).2.1 < 4611686018427387904 := by omega
  have r5 : (mon k).2.1.toNat ≤ 100000 := by omega
  obtain ⟨ρ', ef, qs, B, x, y, hq, _, _, hf, rfl⟩ := for_ind (T := tgN 7) (B := sSeq (sAsg (dCall 2 (m__law_masks n) (aCons (dVar 7) (aCons (dVar 1) aNil))) (tgN 8)) (sAsg (dO (oLc (itR1 (aCons (dVar 4) aNil)) (tgN 9) tTrue (dCall 3 m__law_joined (aCons (dVar 2) (aCons (dOp opIx (dVar 6) (dVar 9)) (aCons (dOp opIx (dVar 8) (dVar 9)) aNil)))) [9])) (tgN 6)))
    (fun ds ρ => ∃ (qs : List (D × Ms)) (B : Ms) (x y : S3), ds = qs.map (·.1) ∧ (∀ q ∈ qs, TrM n q.1 q.2 ∧ MsOk q.2) ∧ MsOk B ∧ qs.foldl (fun B q => zipM g B q.2) B = ts.foldl (fun B q => zipM g B q.2) A ∧
      ρ = [.val (.tup [.str w, .lst (t :: ts.map (·.1))]), .val (.int k), .val (.str w), .val (.lst (t :: ts.map (·.1))), .val (.int (mon k).2.1), .un, .val (.lst (intD (B k))), x, y, .un, .un]) (by
      rintro d ds ρ ⟨qs, B, x, y, hq, hP, hB, hf, rfl⟩
      cases qs with
      | nil => cases hq
      | cons q qs =>
        rw [List.map_cons] at hq
        obtain ⟨rfl, rfl⟩ := List.cons.inj hq
        obtain ⟨hm, hM⟩ := hP q (List.mem_cons_self ..)
        refine ⟨_, [.val (.tup [.str w, .lst (t :: ts.map (·.1))]), .val (.int k), .val (.str w), .val (.lst (t :: ts.map (·.1))), .val (.int (mon k).2.1), .un, .val (.lst (intD (zipM g B q.2 k))), .val q.1, .val (.lst (intD (q.2 k))), .un, .un], rfl, ?_, qs, zipM g B q.2, _, _, rfl, fun r hr => hP r (List.mem_cons_of_mem _ hr), hgM _ _ hB hM, hf, rfl⟩
        have z := lc_at hg (ρ := [.val (.tup [.str w, .lst (t :: ts.map (·.1))]), .val (.int k), .val (.str w), .val (.lst (t :: ts.map (·.1))), .val (.int (mon k).2.1), .un, .val (.lst (intD (B k))), .val q.1, .val (.lst (intD (q.2 k))), .un, .un]) (a := B k) (b := q.2 k) (by rw [hB.len k hk, hM.len k hk]) (fun i => by simp [apD]) (fun i => by simp [apD]) (fun i => by simp [apD]) (fun i => by simp [apD])
        rw [hB.len k hk] at z
        simp [apD, hm k hk, itR1, r1, r2, oLc, len_rng, r5, z, zipM]) (ts.map (·.1)) _ ⟨ts, A, .un, .un, rfl, hts, hA, rfl, rfl⟩
  cases qs with
  | cons q qs => cases hq
  | nil =>
    have hf : B = ts.foldl (fun B q => zipM g B q.2) A := hf
    subst hf
    show runD 11 (m__law_masks_b (m__law_masks n)) _ = _
    unfold m__law_masks_b
    have sl : opSl (.lst (t :: ts.map (·.1))) (some 1) none = some (.lst (ts.map (·.1))) := by
      show some (D.lst (cutD _ _ _)) = _
      congr 2
      simp [cutD, HT.sIx, List.take_of_length_le]
    have i0 : L2.atI (t :: ts.map (·.1)) 0 = some t := atI_nat (i := 0) rfl
    have i1 : L2.atI [D.int (mon k).1, D.int (mon k).2.1, D.int (mon k).2.2] 1 = some (D.int (mon k).2.1) := rfl
    simp [startD, apD, e, h1, h2, h3, opIx, i0, i1, ht k hk, itE, sl, ef]
end
end DL
set_option maxRecDepth 100000
set_option exponentiation.threshold 2000
namespace DL
open PySem L2
section
variable {n j : Nat}
/-- a tree that makes a book -/
def TrB (n : Nat) (t b : D) : Prop := m__law_make n [t] = some b
theorem make_none {xs : List D} : TrB (n + 1) (.tup [.str "none", .lst xs]) (.ins 8 []) := by
  show runD 5 (m__law_make_b (m__law_make n)) [.tup [.str "none", .lst xs]] = some (.ins 8 [])
  unfold m__law_make_b
  simp [startD, apD]
theorem make_row {d : D} {t : Int} (h : RowOk d) (ht : m_Row_times [d] = some (.int t)) : TrB (n + 1) (.tup [.str "row", .lst [d, .int t]]) (ofD d t) := by
  have h1 : ¬ (("row" : Str) = "none") := by decide +kernel
  have i0 : L2.atI [d, D.int t] 0 = some d := rfl
  show runD 5 (m__law_make_b (m__law_make n)) _ = _
  unfold m__law_make_b
  simp [startD, apD, h1, opIx, i0, of_made h ht]
theorem lc_make {ρ : Sl} (hv : ∀ d : D, dVar 4 (apD ρ [(4, d)]) = some d) : ∀ qs : List (D × Part), (∀ q ∈ qs, TrB n q.1 q.2.b) → lcD (tgN 4) tTrue (dCall 1 (m__law_make n) (aCons (dVar 4) aNil)) ρ (qs.map (·.1)) = some (qs.map fun q => q.2.b)
  | [], _ => rfl
  | q :: qs, h => by
    have ih := lc_make hv qs fun r hr => h r (List.mem_cons_of_mem _ hr)
    have e : m__law_make n [q.1] = some q.2.b := h q (List.mem_cons_self ..)
    rw [List.map_cons, List.map_cons]
    unfold lcD
    simp only [s_tgN, Option.bind_some, tTrue, s_call, s_cons, s_nil, hv, Option.map_some, List.length_cons, List.length_nil, if_true, e, ih]
variable {qs : List (D × Part)}
theorem make_join (hq : ∀ q ∈ qs, TrB n q.1 q.2.b) (hj : j ≤ 8) (hp : Parts j (qs.map (·.2))) (s : Small (qs.map (·.2))) : TrB (n + 1) (.tup [.str "join", .lst (qs.map (·.1))]) (.ins 10 [.tup ((qs.map (·.2)).map (·.b))]) := by
  have h1 : ¬ (("join" : Str) = "none") := by decide +kernel
  have h2 : ¬ (("join" : Str) = "row") := by decide +kernel
  have l8 : qs.length ≤ 100000 := by have := s.hl; simp at this; omega
  have z := lc_make (n := n) (ρ := [.val (.tup [.str "join", .lst (qs.map (·.1))]), .val (.str "join"), .val (.lst (qs.map (·.1))), .un, .un]) (fun d => by simp [apD]) qs hq
  have m := joined_made hj hp s
  rw [List.map_map] at m ⊢
  have m : i_Joined [.lst (qs.map fun q => q.2.b)] = some [.tup (qs.map fun q => q.2.b)] := m
  show runD 5 (m__law_make_b (m__law_make n)) _ = _
  unfold m__law_make_b
  simp [startD, apD, h1, h2, itE, oLc, l8, z, m]
theorem make_meet (hq : ∀ q ∈ qs, TrB n q.1 q.2.b) (hj : j ≤ 8) (hp : Parts j (qs.map (·.2))) (s : Small (qs.map (·.2))) : TrB (n + 1) (.tup [.str "meet", .lst (qs.map (·.1))]) (.ins 11 [.tup ((qs.map (·.2)).map (·.b))]) := by
  have h1 : ¬ (("meet" : Str) = "none") := by decide +kernel
  have h2 : ¬ (("meet" : Str) = "row") := by decide +kernel
  have h3 : ¬ (("meet" : Str) = "join") := by decide +kernel
  have l8 : qs.length ≤ 100000 := by have := s.hl; simp at this; omega
  have z := lc_make (n := n) (ρ := [.val (.tup [.str "meet", .lst (qs.map (·.1))]), .val (.str "meet"), .val (.lst (qs.map (·.1))), .un, .un]) (fun d => by simp [apD]) qs hq
  have m := met_made hj hp s
  rw [List.map_map] at m ⊢
  have m : i_Met [.lst (qs.map fun q => q.2.b)] = some [.tup (qs.map fun q => q.2.b)] := m
  show runD 5 (m__law_make_b (m__law_make n)) _ = _
  unfold m__law_make_b
  simp [startD, apD, h1, h2, h3, itE, oLc, l8, z, m]
end
end DL
set_option maxRecDepth 100000
set_option exponentiation.threshold 2000
namespace DL
open PySem L2
section
variable {n j : Nat}
theorem make_less {t t' : D} {p q : Part} (ht : TrB n t p.b) (ht' : TrB n t' q.b) (hj : j ≤ 8) (hp : Parts j [p, q]) (s : Small [p, q]) : TrB (n + 1) (.tup [.str "less", .lst [t, t']]) (.ins 12 [p.b, q.b]) := by
  have h1 : ¬ (("less" : Str) = "none") := by decide +kernel
  have h2 : ¬ (("less" : Str) = "row") := by decide +kernel
  have h3 : ¬ (("less" : Str) = "join") := by decide +kernel
  have h4 : ¬ (("less" : Str) = "meet") := by decide +kernel
  have z := lc_make (n := n) (ρ := [.val (.tup [.str "less", .lst [t, t']]), .val (.str "less"), .val (.lst [t, t']), .un, .un]) (fun d => by simp [apD]) [(t, p), (t', q)] (by simp [ht, ht'])
  have m := less_made hj hp s
  have i0 : L2.atI [p.b, q.b] 0 = some p.b := rfl
  have i1 : L2.atI [p.b, q.b] 1 = some q.b := rfl
  simp only [List.map_cons, List.map_nil] at z
  show runD 5 (m__law_make_b (m__law_make n)) [.tup [.str "less", .lst [t, t']]] = some (.ins 12 [p.b, q.b])
  unfold m__law_make_b
  simp [startD, apD, h1, h2, h3, h4, itE, oLc, z, m, opIx, i0, i1]
theorem make_turn {t : D} {p : Part} (ht : TrB n t p.b) (hj : j ≤ 8) (hp : Parts j [p]) (s : Small [p]) : TrB (n + 1) (.tup [.str "turn", .lst [t]]) (.ins 13 [p.b]) := by
  have h1 : ¬ (("turn" : Str) = "none") := by decide +kernel
  have h2 : ¬ (("turn" : Str) = "row") := by decide +kernel
  have h3 : ¬ (("turn" : Str) = "join") := by decide +kernel
  have h4 : ¬ (("turn" : Str) = "meet") := by decide +kernel
  have h5 : ¬ (("turn" : Str) = "less") := by decide +kernel
  have z := lc_make (n := n) (ρ := [.val (.tup [.str "turn", .lst [t]]), .val (.str "turn"), .val (.lst [t]), .un, .un]) (fun d => by simp [apD]) [(t, p)] (by simp [ht])
  have m := turned_made hj hp s
  have i0 : L2.atI [p.b] 0 = some p.b := rfl
  simp only [List.map_cons, List.map_nil] at z
  show runD 5 (m__law_make_b (m__law_make n)) [.tup [.str "turn", .lst [t]]] = some (.ins 13 [p.b])
  unfold m__law_make_b
  simp [startD, apD, h1, h2, h3, h4, h5, itE, oLc, z, m, opIx, i0]
/-- a tree's rows -/
def TrR (n : Nat) (t : D) (rs : List D) : Prop := m__law_rows n [t] = some (.lst rs)
theorem rows_row {d : D} {t : D} : TrR (n + 1) (.tup [.str "row", .lst [d, t]]) [d] := by
  have i0 : L2.atI [D.str "row", D.lst [d, t]] 0 = some (D.str "row") := rfl
  have i1 : L2.atI [D.str "row", D.lst [d, t]] 1 = some (D.lst [d, t]) := rfl
  have sl : opSl (.lst [d, t]) none (some 1) = some (.lst [d]) := rfl
  show runD 3 (m__law_rows_b (m__law_rows n)) [.tup [.str "row", .lst [d, t]]] = some (.lst [d])
  unfold m__law_rows_b
  simp [startD, apD, opIx, i0, i1, sl]
theorem rows_fold {w : Str} (h : ¬ w = "row") {ts : List (D × List D)} (ht : ∀ q ∈ ts, TrR n q.1 q.2) (hl : (ts.map fun q => q.2.length).sum ≤ 1000) : TrR (n + 1) (.tup [.str w, .lst (ts.map (·.1))]) (ts.map (·.2)).flatten := by
  have i0 : L2.atI [D.str w, D.lst (ts.map (·.1))] 0 = some (D.str w) := rfl
  have i1 : L2.atI [D.str w, D.lst (ts.map (·.1))] 1 = some (D.lst (ts.map (·.1))) := rfl
  obtain ⟨ρ', e, qs, rs, x, hq, _, hf, _, rfl⟩ := for_ind (T := tgN 2) (B := sAsg (dOp opAdd (dVar 1) (dCall 1 (m__law_rows n) (aCons (dVar 2) aNil))) (tgN 1))
    (fun ds ρ => ∃ (qs : List (D × List D)) (rs : List D) (x : S3), ds = qs.map (·.1) ∧ (∀ q ∈ qs, TrR n q.1 q.2) ∧ rs ++ (qs.map (·.2)).flatten = (ts.map (·.2)).flatten ∧ rs.length + (qs.map fun q => q.2.length).sum ≤ 1000 ∧ ρ = [.val (.tup [.str w, .lst (ts.map (·.1))]), .val (.lst rs), x]) (by
      rintro d ds ρ ⟨qs, rs, x, hq, hP, hf, hl, rfl⟩
      cases qs with
      | nil => cases hq
      | cons q qs =>
        rw [List.map_cons] at hq
        obtain ⟨rfl, rfl⟩ := List.cons.inj hq
        have e : m__law_rows n [q.1] = some (.lst q.2) := hP q (List.mem_cons_self ..)
        simp only [List.map_cons, List.sum_cons] at hl
        have l1 : rs.length + q.2.length ≤ 100000 := by omega
        refine ⟨_, [.val (.tup [.str w, .lst (ts.map (·.1))]), .val (.lst (rs ++ q.2)), .val q.1], rfl, by simp [apD, e, opAdd, l1], qs, rs ++ q.2, _, rfl, fun r hr => hP r (List.mem_cons_of_mem _ hr), by rw [← hf]; simp, by simp; omega, rfl⟩) (ts.map (·.1)) [.val (.tup [.str w, .lst (ts.map (·.1))]), .val (.lst []), .un] ⟨ts, [], .un, rfl, ht, rfl, by simpa using hl, rfl⟩
  cases qs with
  | cons q qs => cases hq
  | nil =>
    simp only [List.map_nil, List.flatten_nil, List.append_nil] at hf
    subst hf
    show runD 3 (m__law_rows_b (m__law_rows n)) [.tup [.str w, .lst (ts.map (·.1))]] = _
    unfold m__law_rows_b
    simp [startD, apD, opIx, i0, i1, h, itE, e]
end
end DL
set_option maxRecDepth 100000
namespace DL
open PySem L2
/-! ### texts split -/
def jl (c : Nat) : List (List Nat) → List Nat
  | [] => []
  | [w] => w
  | w :: ws => w ++ c :: jl c ws
theorem cut_inj {c : Nat} : ∀ {w v A B : List Nat}, c ∉ w → c ∉ v → w ++ c :: A = v ++ c :: B → w = v ∧ A = B
  | [], [], A, B, _, _, e => ⟨rfl, (List.cons.inj e).2⟩
  | [], x :: v, A, B, _, h, e => (h (by rw [(List.cons.inj e).1]; exact List.mem_cons_self ..)).elim
  | x :: w, [], A, B, h, _, e => (h (by rw [← (List.cons.inj e).1]; exact List.mem_cons_self ..)).elim
  | x :: w, y :: v, A, B, h, h', e => by
    obtain ⟨e1, e2⟩ := List.cons.inj e
    obtain ⟨r1, r2⟩ := cut_inj (fun z => h (List.mem_cons_of_mem _ z)) (fun z => h' (List.mem_cons_of_mem _ z)) e2
    exact ⟨by rw [e1, r1], r2⟩
theorem no_cut {c : Nat} {w v B : List Nat} (h : c ∉ w) (e : w = v ++ c :: B) : False := h (by rw [e]; simp)
theorem jl_inj {c : Nat} : ∀ {ws vs : List (List Nat)}, ws ≠ [] → vs ≠ [] → (∀ w ∈ ws, c ∉ w) → (∀ w ∈ vs, c ∉ w) → jl c ws = jl c vs → ws = vs
  | [], _, h, _, _, _, _ => (h rfl).elim
  | _, [], _, h, _, _, _ => (h rfl).elim
  | [w], [v], _, _, _, _, e => by rw [show w = v from e]
  | [w], v :: v' :: vs, _, _, h, _, e => (no_cut (h w (List.mem_cons_self ..)) e).elim
  | w :: w' :: ws, [v], _, _, _, h, e => (no_cut (h v (List.mem_cons_self ..)) e.symm).elim
  | w :: w' :: ws, v :: v' :: vs, _, _, h, h', e => by
    obtain ⟨e1, e2⟩ := cut_inj (h w (List.mem_cons_self ..)) (h' v (List.mem_cons_self ..)) e
    rw [e1, jl_inj (by simp) (by simp) (fun x hx => h x (List.mem_cons_of_mem _ hx)) (fun x hx => h' x (List.mem_cons_of_mem _ hx)) e2]
theorem join_jl (c : Nat) : ∀ ws : List Str, (Str.join ⟨#[c]⟩ ws).cps.toList = jl c (ws.map fun w => w.cps.toList)
  | [] => rfl
  | [w] => rfl
  | w :: w' :: ws => by
    have ih := join_jl c (w' :: ws)
    show ((w.cps ++ #[c]) ++ (Str.join ⟨#[c]⟩ (w' :: ws)).cps).toList = w.cps.toList ++ c :: jl c ((w' :: ws).map fun w => w.cps.toList)
    rw [Array.toList_append, Array.toList_append, ih]
    simp
theorem str_ext {x y : Str} (h : x.cps.toList = y.cps.toList) : x = y := by
  cases x with | mk a => cases y with | mk b => exact congrArg Str.mk (Array.toList_inj.mp h)
/-- a text that was joined, split again -/
theorem split_join {c : Nat} {ws : List Str} (h0 : ws ≠ []) (h : ∀ w ∈ ws, c ∉ w.cps.toList) : Txt.split (Str.join ⟨#[c]⟩ ws) ⟨#[c]⟩ = ws := by
  have e1 := PySem.StrLaws.join_split (Str.join ⟨#[c]⟩ ws) ⟨#[c]⟩
  have e2 := PySem.StrLaws.split_free (Str.join ⟨#[c]⟩ ws) c
  have n0 : Txt.split (Str.join ⟨#[c]⟩ ws) ⟨#[c]⟩ ≠ [] := fun z => by
    have := PyProof.Rows.split_pos (Str.join ⟨#[c]⟩ ws) ⟨#[c]⟩
    rw [z] at this
    simp at this
  have e3 := congrArg (fun s : Str => s.cps.toList) e1
  rw [join_jl, join_jl] at e3
  have e4 := jl_inj (by simpa using n0) (by simpa using h0) (fun w hw => by
    obtain ⟨p, hp, rfl⟩ := List.mem_map.mp hw
    exact e2 p hp) (fun w hw => by
    obtain ⟨p, hp, rfl⟩ := List.mem_map.mp hw
    exact h p hp) e3
  exact List.map_inj_right (fun _ _ q => str_ext q) |>.mp e4
end DL
namespace DL
open PySem L2
set_option maxRecDepth 100000
def dec (n : Nat) : Str := Str.ofString (toString (n : Int))
theorem dec_free : ((List.range 60).all fun n => (dec n).cps.toList.all fun c => decide (48 ≤ c ∧ c ≤ 57)) = true := by decide +kernel
def isOne (o : Option D) (n : Nat) : Bool := match o with
  | some (.lst [.int i]) => decide (i = n)
  | _ => false
theorem num_min : ((List.range 60).all fun n => isOne (m_number_in [.str (dec n), .int 0, .int 59]) n) = true := by decide +kernel
end DL
set_option maxRecDepth 100000
namespace DL
open PySem L2
/-! ### masks of numbers -/
theorem or_ge {x y : Int} (hx : 0 ≤ x) (hy : 0 ≤ y) : y ≤ bO x y := by
  rw [or_pp hx hy]
  have := @Nat.right_le_or x.toNat y.toNat
  omega
theorem mask_of_ok {K : Nat} (hK : K ≤ 64) {ds : List D} (hd : intsIn 0 K ds) (h0 : ds ≠ []) : ∃ m, m_mask_of [.lst ds] = some (.int m) ∧ 0 < m ∧ m < 2 ^ K := by
  obtain ⟨ρ', e, t, x, _, rfl, t0, t1, tp⟩ := for_ind (T := tgN 2) (B := sAsg (dOp opOr (dVar 1) (dOp opShl (dC (.int 1)) (dVar 2))) (tgN 1))
    (fun qs ρ => ∃ (t : Int) (x : S3), intsIn 0 K qs ∧ ρ = [.val (.lst ds), .val (.int t), x] ∧ 0 ≤ t ∧ t < 2 ^ K ∧ (0 < t ∨ qs ≠ [])) (by
      rintro d qs ρ ⟨t, x, hq, rfl, t0, t1, tp⟩
      obtain ⟨i, rfl, i0, i1⟩ := hq d (List.mem_cons_self ..)
      have s0 : (0 : Int) < 2 ^ i.toNat := PySem.W.kbt_pos _
      have s1 : (2 : Int) ^ i.toNat < 2 ^ K := by
        have := Nat.pow_lt_pow_right (a := 2) (by decide) (show i.toNat < K by omega)
        have c1 := PySem.W.kbt_cast i.toNat
        have c2 := PySem.W.kbt_cast K
        omega
      obtain ⟨r0, r1⟩ := or_rng (k := K) t0 (Int.le_of_lt s0) t1 s1
      have rg := or_ge t0 (Int.le_of_lt s0)
      have q3 : i ≤ 1000000 := by omega
      exact ⟨_, [.val (.lst ds), .val (.int (bO t (2 ^ i.toNat))), .val (.int i)], rfl, by simp [apD, i0, q3], _, _, fun r hr => hq r (List.mem_cons_of_mem _ hr), rfl, r0, r1, .inl (by omega)⟩) ds [.val (.lst ds), .val (.int 0), .un] ⟨0, .un, hd, rfl, Int.le_refl _, PySem.W.kbt_pos _, .inr h0⟩
  refine ⟨t, ?_, ?_, t1⟩
  · unfold m_mask_of m_mask_of_b
    simp [startD, apD, itE, e]
  · rcases tp with h | h
    · exact h
    · exact absurd rfl h
end DL
set_option maxRecDepth 100000
namespace DL
open PySem L2
theorem num_hour : ((List.range 24).all fun n => isOne (m_number_in [.str (dec n), .int 0, .int 23]) n) = true := by decide +kernel
theorem num_month : ((List.range 13).all fun n => n == 0 || isOne (m_number_in [.str (dec n), .int 1, .int 12]) n) = true := by decide +kernel
theorem num_by : ((List.range 10).all fun n => n == 0 || isOne (m_number_in [.str (dec n), .int 1, .int 99]) n) = true := by decide +kernel
theorem isOne_ok {o : Option D} {n : Nat} (h : isOne o n = true) : o = some (.lst [.int n]) := by
  unfold isOne at h
  split at h
  · rw [of_decide_eq_true h]
  · cases h
/-- figures that a field's numbers are written in -/
def NumOk (lo hi : Int) (n : Nat) : Prop := m_number_in [.str (dec n), .int lo, .int hi] = some (.lst [.int n])
/-- no sign of these -/
def Free (c : Nat) (x : Str) : Prop := c ∉ x.cps.toList
theorem dec_no {c n : Nat} (hn : n < 60) (hc : ¬ (48 ≤ c ∧ c ≤ 57)) : Free c (dec n) := fun h => by
  have := List.all_eq_true.mp (List.all_eq_true.mp dec_free n (List.mem_range.mpr hn)) c h
  exact hc (of_decide_eq_true this)
end DL
set_option maxRecDepth 100000
namespace DL
open PySem L2
theorem sep_dash : ("-" : Str) = ⟨#[45]⟩ := by decide +kernel
theorem sep_slash : ("/" : Str) = ⟨#[47]⟩ := by decide +kernel
theorem sep_comma : ("," : Str) = ⟨#[44]⟩ := by decide +kernel
theorem sep_blank : (" " : Str) = ⟨#[32]⟩ := by decide +kernel
theorem sep_hash : ("#" : Str) = ⟨#[35]⟩ := by decide +kernel
theorem split1 {c : Nat} {x : Str} (h : Free c x) : Txt.split x ⟨#[c]⟩ = [x] := split_join (ws := [x]) (by simp) (fun w hw => by rw [List.mem_singleton] at hw; subst hw; exact h)
theorem split2 {c : Nat} {x y : Str} (h : Free c x) (h' : Free c y) : Txt.split (x ++ ⟨#[c]⟩ ++ y) ⟨#[c]⟩ = [x, y] := split_join (ws := [x, y]) (by simp) (by
  intro w hw
  simp only [List.mem_cons, List.not_mem_nil, or_false] at hw
  rcases hw with rfl | rfl
  · exact h
  · exact h')
theorem free_app {c : Nat} {x y : Str} (h : Free c x) (h' : Free c y) : Free c (x ++ y) := by
  unfold Free at *
  show c ∉ (x.cps ++ y.cps).toList
  rw [Array.toList_append, List.mem_append]
  exact fun z => z.elim h h'
end DL
set_option maxRecDepth 100000
namespace DL
open PySem L2
/-! ### spans -/
theorem span_star {lo hi : Int} : m_span_in [.str "*", .int lo, .int hi] = some [.int lo, .int hi] := by
  unfold m_span_in m_span_in_b
  simp [startD]
theorem span_one {lo hi : Int} {n : Nat} (hn : n < 60) (h : NumOk lo hi n) : m_span_in [.str (dec n), .int lo, .int hi] = some [.int n, .int n] := by
  have ns : ¬ dec n = "*" := fun z => dec_no (c := 42) hn (by decide) (by rw [z]; decide)
  have sp := split1 (dec_no (c := 45) hn (by decide))
  have l1 : (dec n).length ≤ 100000 := by
    have : ((List.range 60).all fun n => decide ((dec n).length ≤ 100000)) = true := by decide +kernel
    exact of_decide_eq_true (List.all_eq_true.mp this n (List.mem_range.mpr hn))
  unfold NumOk at h
  have d1 : opInDeep (.lst []) (.lst [.lst [.int n]]) = some (.bl false) := by rfl
  unfold m_span_in m_span_in_b
  have sl : (({ cps := #[45] } : Str).length = 0) = False := by decide
  simp [startD, apD, ns, bSplit, sep_dash, sp, sl, l1, itE, oLc, lcD, tTrue, h, bLen, d1, opIx, L2.atI, show ixN 1 0 = some 0 from rfl, show ixN 1 (-1) = some 0 from rfl]
theorem dec_len {n : Nat} (hn : n < 60) : (dec n).length ≤ 2 := by
  have : ((List.range 60).all fun n => decide ((dec n).length ≤ 2)) = true := by decide +kernel
  exact of_decide_eq_true (List.all_eq_true.mp this n (List.mem_range.mpr hn))
theorem len_app {x y : Str} : (x ++ y).length = x.length + y.length := by
  show (x.cps ++ y.cps).size = _
  rw [Array.size_append]
  rfl
theorem span_two {lo hi : Int} {a b : Nat} (ha : a < 60) (hb : b < 60) (hab : a ≤ b) (h : NumOk lo hi a) (h' : NumOk lo hi b) : m_span_in [.str (dec a ++ "-" ++ dec b), .int lo, .int hi] = some [.int a, .int b] := by
  have ns : ¬ dec a ++ "-" ++ dec b = "*" := fun z => free_app (c := 42) (free_app (dec_no ha (by decide)) (show Free 42 "-" by unfold Free; decide)) (dec_no hb (by decide)) (by rw [z]; decide)
  have sp := split2 (dec_no (c := 45) ha (by decide)) (dec_no (c := 45) hb (by decide))
  have l1 : (dec a ++ "-" ++ dec b).length ≤ 100000 := by
    rw [len_app, len_app]
    have := dec_len ha
    have := dec_len hb
    have : ("-" : Str).length = 1 := by decide
    omega
  unfold NumOk at h h'
  rw [sep_dash] at ns l1
  have d1 : opInDeep (.lst []) (.lst [.lst [.int a], .lst [.int b]]) = some (.bl false) := by rfl
  have sl : (({ cps := #[45] } : Str).length = 0) = False := by decide
  have hab' : ¬ ((b : Int) < a) := by omega
  unfold m_span_in m_span_in_b
  simp [startD, apD, ns, bSplit, sep_dash, sp, sl, l1, itE, oLc, lcD, tTrue, h, h', bLen, d1, opIx, L2.atI, show ixN 1 0 = some 0 from rfl, show ixN 2 0 = some 0 from rfl, show ixN 2 (-1) = some 1 from rfl, hab']
end DL
set_option maxRecDepth 100000
namespace DL
open PySem L2
/-! ### loops that may return -/
theorem for_out {T : TgD} {B : DS} (P : List D → Sl → Prop) (Q : D → Prop) (step : ∀ d ds ρ, P (d :: ds) ρ → ∃ l, T d = some l ∧ ((∃ ρ', B (apD ρ l) = some (.nx ρ') ∧ P ds ρ') ∨ ∃ x, B (apD ρ l) = some (.rt x) ∧ Q x)) :
    ∀ (ds : List D) (ρ : Sl), P ds ρ → (∃ ρ', forD T B ds ρ = some (.nx ρ') ∧ P [] ρ') ∨ ∃ x, forD T B ds ρ = some (.rt x) ∧ Q x
  | [], ρ, h => .inl ⟨ρ, rfl, h⟩
  | d :: ds, ρ, h => by
    obtain ⟨l, e1, h⟩ := step d ds ρ h
    rcases h with ⟨ρ1, e2, h1⟩ | ⟨x, e2, q⟩
    · rcases for_out P Q step ds ρ1 h1 with ⟨ρ2, e3, h2⟩ | ⟨x, e3, q⟩
      · refine .inl ⟨ρ2, ?_, h2⟩
        unfold forD
        rw [e1]
        simp only [Option.bind_some, e2, e3]
      · refine .inr ⟨x, ?_, q⟩
        unfold forD
        rw [e1]
        simp only [Option.bind_some, e2, e3]
    · refine .inr ⟨x, ?_, q⟩
      unfold forD
      rw [e1]
      simp only [Option.bind_some, e2]
/-! ### figures -/
def isFig (c : Nat) : Prop := 48 ≤ c ∧ c ≤ 57
instance {c : Nat} : Decidable (isFig c) := inferInstanceAs (Decidable (_ ∧ _))
theorem figs_list : ("0123456789" : Str).cps.toList = [48, 49, 50, 51, 52, 53, 54, 55, 56, 57] := by decide +kernel
theorem fig_in {c : Nat} : c ∈ ("0123456789" : Str).cps.toList ↔ isFig c := by
  rw [figs_list]
  unfold isFig
  simp
  omega
theorem notIn_fig {c : Nat} : opNotIn (.str ⟨#[c]⟩) (.str "0123456789") = some (.bl (!decide (isFig c))) := by
  show (inD _ _).map _ = _
  have e : inD (.str ⟨#[c]⟩) (.str "0123456789") = some (decide (c ∈ ("0123456789" : Str).cps.toList)) := rfl
  rw [e]
  simp only [Option.map_some, fig_in]
theorem only_no {t : Str} {c : Nat} (hc : c ∈ t.cps.toList) (h : ¬ isFig c) : m_only_figures [.str t] = some (.bl false) := by
  rcases for_out (T := tgN 1) (B := sIf (asB (dOp opNotIn (dVar 1) (dC k_FIGURES_wholes))) (sRet (dC (.bl false))) sNil) (fun ds ρ => ∃ (cs : List Nat) (x : S3), ds = cs.map (fun k => .str ⟨#[k]⟩) ∧ c ∈ cs ∧ ρ = [.val (.str t), x]) (fun x => x = .bl false) (by
    rintro d ds ρ ⟨cs, x, hd, hm, rfl⟩
    cases cs with
    | nil => cases hm
    | cons a cs =>
      rw [List.map_cons] at hd
      obtain ⟨rfl, rfl⟩ := List.cons.inj hd
      refine ⟨_, rfl, ?_⟩
      by_cases z : isFig a
      · refine .inl ⟨[.val (.str t), .val (.str ⟨#[a]⟩)], by simp [apD, notIn_fig, z], cs, _, rfl, ?_, rfl⟩
        rcases List.mem_cons.mp hm with e | e
        · subst e; exact (h z).elim
        · exact e
      · exact .inr ⟨.bl false, by simp [apD, notIn_fig, z], rfl⟩) (signsD t) [.val (.str t), .un] ⟨t.cps.toList, .un, rfl, hc, rfl⟩ with ⟨ρ', e, cs, x, h1, h2, _⟩ | ⟨x, e, rfl⟩
  · cases cs with
    | nil => cases h2
    | cons _ _ => cases h1
  · unfold m_only_figures m_only_figures_b
    simp [startD, itE, e]
theorem only_yes {t : Str} (h : ∀ c ∈ t.cps.toList, isFig c) : m_only_figures [.str t] = some (.bl (!decide (t = ""))) := by
  obtain ⟨ρ', e, cs, x, h1, _, rfl⟩ := for_ind (T := tgN 1) (B := sIf (asB (dOp opNotIn (dVar 1) (dC k_FIGURES_wholes))) (sRet (dC (.bl false))) sNil) (fun ds ρ => ∃ (cs : List Nat) (x : S3), ds = cs.map (fun k => .str ⟨#[k]⟩) ∧ (∀ c ∈ cs, isFig c) ∧ ρ = [.val (.str t), x]) (by
    rintro d ds ρ ⟨cs, x, hd, hm, rfl⟩
    cases cs with
    | nil => cases hd
    | cons a cs =>
      rw [List.map_cons] at hd
      obtain ⟨rfl, rfl⟩ := List.cons.inj hd
      have z := hm a (List.mem_cons_self ..)
      exact ⟨_, [.val (.str t), .val (.str ⟨#[a]⟩)], rfl, by simp [apD, notIn_fig, z], cs, _, rfl, fun c hc => hm c (List.mem_cons_of_mem _ hc), rfl⟩) (signsD t) [.val (.str t), .un] ⟨t.cps.toList, .un, rfl, h, rfl⟩
  unfold m_only_figures m_only_figures_b
  simp [startD, itE, e]
/-! ### masks of numbers, just so -/
def maskL (ns : List Int) : Int := ns.foldl (fun m n => bO m (2 ^ n.toNat)) 0
theorem mask_of_eq {ns : List Int} (h : ∀ n ∈ ns, 0 ≤ n ∧ n ≤ 1000000) : m_mask_of [.lst (intD ns)] = some (.int (maskL ns)) := by
  obtain ⟨ρ', e, qs, t, x, hq, _, rfl, ht⟩ := for_ind (T := tgN 2) (B := sAsg (dOp opOr (dVar 1) (dOp opShl (dC (.int 1)) (dVar 2))) (tgN 1))
    (fun ds ρ => ∃ (qs : List Int) (t : Int) (x : S3), ds = intD qs ∧ (∀ n ∈ qs, 0 ≤ n ∧ n ≤ 1000000) ∧ ρ = [.val (.lst (intD ns)), .val (.int t), x] ∧ qs.foldl (fun m n => bO m (2 ^ n.toNat)) t = maskL ns) (by
      rintro d ds ρ ⟨qs, t, x, hq, hb, rfl, ht⟩
      cases qs with
      | nil => cases hq
      | cons i qs =>
        obtain ⟨rfl, rfl⟩ := List.cons.inj hq
        obtain ⟨i0, i1⟩ := hb i (List.mem_cons_self ..)
        exact ⟨_, [.val (.lst (intD ns)), .val (.int (bO t (2 ^ i.toNat))), .val (.int i)], rfl, by simp [apD, i0, i1], qs, _, _, rfl, fun n hn => hb n (List.mem_cons_of_mem _ hn), rfl, ht⟩) (intD ns) [.val (.lst (intD ns)), .val (.int 0), .un] ⟨ns, 0, .un, rfl, h, rfl, rfl⟩
  cases qs with
  | cons _ _ => cases hq
  | nil =>
    have ht : t = maskL ns := ht
    unfold m_mask_of m_mask_of_b
    simp [startD, apD, itE, e, ht]
theorem maskF_rng {K : Nat} : ∀ {ns : List Int} {t : Int}, (∀ n ∈ ns, 0 ≤ n ∧ n < K) → 0 ≤ t → t < 2 ^ K → (0 < t ∨ ns ≠ []) → 0 < ns.foldl (fun m n => bO m (2 ^ n.toNat)) t ∧ ns.foldl (fun m n => bO m (2 ^ n.toNat)) t < 2 ^ K
  | [], t, _, h0, h1, h2 => by
    rcases h2 with h | h
    · exact ⟨h, h1⟩
    · exact absurd rfl h
  | i :: ns, t, h, t0, t1, _ => by
    obtain ⟨i0, i1⟩ := h i (List.mem_cons_self ..)
    have s0 : (0 : Int) < 2 ^ i.toNat := PySem.W.kbt_pos _
    have s1 : (2 : Int) ^ i.toNat < 2 ^ K := by
      have := Nat.pow_lt_pow_right (a := 2) (by decide) (show i.toNat < K by omega)
      have c1 := PySem.W.kbt_cast i.toNat
      have c2 := PySem.W.kbt_cast K
      omega
    obtain ⟨r0, r1⟩ := or_rng (k := K) t0 (Int.le_of_lt s0) t1 s1
    have rg := or_ge t0 (Int.le_of_lt s0)
    rw [List.foldl_cons]
    exact maskF_rng (fun n hn => h n (List.mem_cons_of_mem _ hn)) r0 r1 (.inl (by omega))
theorem maskL_rng {K : Nat} {ns : List Int} (h : ∀ n ∈ ns, 0 ≤ n ∧ n < K) (h0 : ns ≠ []) : 0 < maskL ns ∧ maskL ns < 2 ^ K := maskF_rng h (Int.le_refl _) (PySem.W.kbt_pos _) (.inr h0)
/-- whole numbers from one to another -/
def upto (a b : Int) : List Int := (List.range (b + 1 - a).toNat).map fun k : Nat => a + (k : Int)
def uptoBy (a b s : Int) : List Int := (List.range ((b + 1 - a + s - 1) / s).toNat).map fun k : Nat => a + (k : Int) * s
theorem upto_mem {a b n : Int} (h : n ∈ upto a b) : a ≤ n ∧ n ≤ b := by
  obtain ⟨k, hk, rfl⟩ := List.mem_map.mp h
  have := List.mem_range.mp hk
  omega
theorem uptoBy_mem {a b s n : Int} (hs : 0 < s) (h : n ∈ uptoBy a b s) : a ≤ n ∧ n ≤ b := by
  obtain ⟨k, hk, rfl⟩ := List.mem_map.mp h
  have hk := List.mem_range.mp hk
  have h1 : (k : Int) < (b + 1 - a + s - 1) / s := by omega
  have h2 : ((k : Int) + 1) * s ≤ b + 1 - a + s - 1 := (Int.le_ediv_iff_mul_le hs).mp (by omega)
  have h3 : (0 : Int) ≤ (k : Int) * s := Int.mul_nonneg (by omega) (by omega)
  rw [Int.add_mul] at h2
  omega
theorem upto_ne {a b : Int} (h : a ≤ b) : upto a b ≠ [] := by
  unfold upto
  intro e
  have := congrArg List.length e
  simp at this
  omega
theorem uptoBy_ne {a b s : Int} (hs : 0 < s) (h : a ≤ b) : uptoBy a b s ≠ [] := by
  unfold uptoBy
  intro e
  have := congrArg List.length e
  simp at this
  have q : (1 : Int) ≤ (b + 1 - a + s - 1) / s := (Int.le_ediv_iff_mul_le hs).mpr (by omega)
  omega
end DL
set_option maxRecDepth 100000
namespace DL
open PySem L2
/-! ### items -/
theorem oRange_eq {f g : DE} {ρ : Sl} {a b : Int} (hf : f ρ = some (.int a)) (hg : g ρ = some (.int (b + 1))) (h : -1000 ≤ a ∧ a ≤ 1000 ∧ -1000 ≤ b ∧ b ≤ 1000) : oRange f g ρ = some (intD (upto a b)) := by
  unfold oRange
  rw [hf, hg]
  simp only []
  rw [if_pos (by omega)]
  simp [intD, upto]
theorem oRange3_eq {f g h : DE} {ρ : Sl} {a b s : Int} (hf : f ρ = some (.int a)) (hg : g ρ = some (.int (b + 1))) (hh : h ρ = some (.int s)) (q : -1000 ≤ a ∧ a ≤ 1000 ∧ -1000 ≤ b ∧ b ≤ 1000 ∧ 1 ≤ s ∧ s ≤ 1000) : oRange3 f g h ρ = some (intD (uptoBy a b s)) := by
  unfold oRange3
  rw [hf, hg, hh]
  simp only []
  rw [if_pos (by omega)]
  simp [intD, uptoBy, rngC]
theorem split_plain {c : Nat} {t : Str} (h : Free c t) (hl : t.length ≤ 100000) : bSplit (.str t) (.str ⟨#[c]⟩) = some [.str t] := by
  unfold bSplit
  have sl : (({ cps := #[c] } : Str).length == 0) = false := rfl
  simp only [sl, hl, split1 h, List.map_cons, List.map_nil, true_and, if_true]
theorem split_pair {c : Nat} {x y : Str} (h : Free c x) (h' : Free c y) (hl : (x ++ ⟨#[c]⟩ ++ y : Str).length ≤ 100000) : bSplit (.str (x ++ ⟨#[c]⟩ ++ y)) (.str ⟨#[c]⟩) = some [.str x, .str y] := by
  unfold bSplit
  have sl : (({ cps := #[c] } : Str).length == 0) = false := rfl
  simp only [sl, hl, split2 h h', List.map_cons, List.map_nil, true_and, if_true]
theorem ownNe2 {x y : Int} {i : Nat} {ρ : Sl} (h : ρ[i]? = some (.own [.int x, .int y])) : dOwnEq i ρ = some (.bl false) := by
  unfold dOwnEq
  rw [h]
  rfl
theorem item_plain {t : Str} {lo hi a b : Int} (hf : Free 47 t) (hl : t.length ≤ 1000) (hs : m_span_in [.str t, .int lo, .int hi] = some [.int a, .int b]) (q : 0 ≤ a ∧ a ≤ b ∧ b ≤ 63) :
    m_item_mask [.str t, .int lo, .int hi] = some (.int (maskL (upto a b))) := by
  have sp := split_plain hf (by omega)
  have mk := mask_of_eq (ns := upto a b) (fun n hn => by have := upto_mem hn; omega)
  unfold m_item_mask m_item_mask_b
  have i0 : L2.atI [D.str t] 0 = some (D.str t) := rfl
  have j0 : L2.atI [D.int a, D.int b] 0 = some (D.int a) := rfl
  have j1 : L2.atI [D.int a, D.int b] 1 = some (D.int b) := rfl
  have rg := oRange_eq (f := dOwnIx 4 (dC (.int 0))) (g := dOp opAdd (dOwnIx 4 (dC (.int 1))) (dC (.int 1))) (ρ := [.val (.str t), .val (.int lo), .val (.int hi), .val (.lst [.str t]), .own [.int a, .int b], .un]) (a := a) (b := b) (by simp [dOwnIx, j0]) (by simp [dOwnIx, j1]) (by omega)
  have ne : dOwnEq 4 [.val (.str t), .val (.int lo), .val (.int hi), .val (.lst [.str t]), .own [.int a, .int b], .un] = some (.bl false) := ownNe2 rfl
  simp [startD, apD, sep_slash, sp, opIx, i0, hs, ne, bLen, rg, mk]
theorem item_by {t : Str} {lo hi a b : Int} {by_ : Nat} (hf : Free 47 t) (hl : t.length ≤ 1000) (hs : m_span_in [.str t, .int lo, .int hi] = some [.int a, .int b]) (q : 0 ≤ a ∧ a ≤ b ∧ b ≤ 63)
    (h1 : 1 ≤ by_ ∧ by_ < 10) {c : Nat} (hc : c ∈ t.cps.toList) (hc' : ¬ isFig c) : m_item_mask [.str (t ++ "/" ++ dec by_), .int lo, .int hi] = some (.int (maskL (uptoBy a b by_))) := by
  have dn := dec_len (n := by_) (by omega)
  have ll : (t ++ (⟨#[47]⟩ : Str) ++ dec by_).length ≤ 100000 := by
    rw [len_app, len_app]
    have : (⟨#[47]⟩ : Str).length = 1 := rfl
    omega
  have sp := split_pair hf (dec_no (c := 47) (n := by_) (by omega) (by decide)) ll
  have mk := mask_of_eq (ns := uptoBy a b by_) (fun n hn => by have := uptoBy_mem (by omega) hn; omega)
  have nb : NumOk 1 99 by_ := by
    have := List.all_eq_true.mp num_by by_ (List.mem_range.mpr (by omega))
    rcases Bool.or_eq_true_iff.mp this with z | z
    · have := beq_iff_eq.mp z
      omega
    · exact isOne_ok z
  unfold NumOk at nb
  have of := only_no hc hc'
  have i0 : L2.atI [D.str t, D.str (dec by_)] 0 = some (D.str t) := rfl
  have i1 : L2.atI [D.str t, D.str (dec by_)] 1 = some (D.str (dec by_)) := rfl
  have j0 : L2.atI [D.int a, D.int b] 0 = some (D.int a) := rfl
  have j1 : L2.atI [D.int a, D.int b] 1 = some (D.int b) := rfl
  have k0 : L2.atI [D.int by_] 0 = some (D.int by_) := rfl
  have rg := oRange3_eq (f := dOwnIx 4 (dC (.int 0))) (g := dOp opAdd (dOwnIx 4 (dC (.int 1))) (dC (.int 1))) (h := dOp opIx (dVar 5) (dC (.int 0))) (ρ := [.val (.str (t ++ ⟨#[47]⟩ ++ dec by_)), .val (.int lo), .val (.int hi), .val (.lst [.str t, .str (dec by_)]), .own [.int a, .int b], .val (.lst [.int by_])]) (a := a) (b := b) (s := by_) (by simp [dOwnIx, j0]) (by simp [dOwnIx, j1]) (by simp [opIx, k0]) (by omega)
  have ne : dOwnEq 4 [.val (.str (t ++ ⟨#[47]⟩ ++ dec by_)), .val (.int lo), .val (.int hi), .val (.lst [.str t, .str (dec by_)]), .own [.int a, .int b], .un] = some (.bl false) := ownNe2 rfl
  have eq0 : opEq (.lst [.int by_]) (.lst []) = some (.bl false) := rfl
  unfold m_item_mask m_item_mask_b
  simp [startD, apD, sep_slash, sp, opIx, i0, i1, hs, ne, bLen, nb, eq0, of, rg, mk]
end DL
set_option maxRecDepth 100000
namespace DL
open PySem L2
/-! ### fields -/
theorem enum_zip (ds : List D) : enumD ds = ds.zipIdx.map fun p => .tup [.int p.2, p.1] := by
  unfold enumD
  apply List.ext_getElem
  · simp
  · intro i h1 h2
    simp at h1
    simp [h1]
theorem cut_all {xs : List D} {k : Nat} (h : xs.length ≤ k) : opSl (.lst xs) none (some (k : Int)) = some (.lst xs) := by
  show some (D.lst (cutD _ _ _)) = _
  congr 2
  unfold cutD
  rw [HT.sIx_none, HT.sIx_nat, List.drop_zero, Nat.min_eq_right h]
  exact List.take_of_length_le (by omega)
def orL (ps : List Int) : Int := ps.foldl (fun m p => bO m p) 0
theorem read_field_eq {t : Str} {ws : List Str} {ms : List Int} {lo hi : Int} (ht : Txt.split t ⟨#[44]⟩ = ws) (hl : t.length ≤ 300) (h40 : ws.length ≤ 40) (he : ws.length = ms.length)
    (hm : ∀ p ∈ ws.zip ms, m_item_mask [.str p.1, .int lo, .int hi] = some (.int p.2) ∧ p.2 ≠ 0) : m_read_field [.str t, .int lo, .int hi] = some (.int (orL ms)) := by
  have l1 : t.length ≤ 100000 := by omega
  have l2 : ¬ ((300 : Int) < t.length) := by omega
  have l3 : ¬ ((40 : Int) < ws.length) := by omega
  have cut : opSl (.lst (ws.map D.str)) none (some 40) = some (.lst (ws.map D.str)) := cut_all (xs := ws.map D.str) (k := 40) (by simpa using h40)
  have ez : enumD (ws.map D.str) = (ws.zip ms).zipIdx.map fun p => .tup [.int p.2, .str p.1.1] := by
    rw [enum_zip]
    apply List.ext_getElem
    · simp [he]
    · intro i h1 h2
      simp
  obtain ⟨ρ', e, qs, m, x, y, z, hq, _, hf, rfl⟩ := for_ind (T := tgT [5, 6]) (B := sSeq (sAsg (dCall 3 m_item_mask (aCons (dVar 6) (aCons (dVar 1) (aCons (dVar 2) aNil)))) (tgN 7)) (sSeq (sIf (asB (dOp opEq (dVar 7) (dC (.int 0)))) sNever sNil) (sAsg (dOp opOr (dVar 3) (dVar 7)) (tgN 3))))
    (fun ds ρ => ∃ (qs : List ((Str × Int) × Nat)) (m : Int) (x y z : S3), ds = qs.map (fun p => .tup [.int p.2, .str p.1.1]) ∧ (∀ q ∈ qs, m_item_mask [.str q.1.1, .int lo, .int hi] = some (.int q.1.2) ∧ q.1.2 ≠ 0) ∧ qs.foldl (fun m q => bO m q.1.2) m = orL ms ∧
      ρ = [.val (.str t), .val (.int lo), .val (.int hi), .val (.int m), .val (.lst (ws.map D.str)), x, y, z]) (by
      rintro d ds ρ ⟨qs, m, x, y, z, hq, hP, hf, rfl⟩
      cases qs with
      | nil => cases hq
      | cons q qs =>
        rw [List.map_cons] at hq
        obtain ⟨rfl, rfl⟩ := List.cons.inj hq
        obtain ⟨e1, e2⟩ := hP q (List.mem_cons_self ..)
        exact ⟨_, [.val (.str t), .val (.int lo), .val (.int hi), .val (.int (bO m q.1.2)), .val (.lst (ws.map D.str)), .val (.int q.2), .val (.str q.1.1), .val (.int q.1.2)], rfl, by simp [apD, e1, e2], qs, _, _, _, _, rfl, fun r hr => hP r (List.mem_cons_of_mem _ hr), hf, rfl⟩)
    ((ws.zip ms).zipIdx.map fun p => .tup [.int p.2, .str p.1.1]) [.val (.str t), .val (.int lo), .val (.int hi), .val (.int 0), .val (.lst (ws.map D.str)), .un, .un, .un] ⟨(ws.zip ms).zipIdx, 0, .un, .un, .un, rfl, fun q hq => hm q.1 (by
        have := List.mem_map_of_mem (f := Prod.fst) hq
        rwa [List.zipIdx_map_fst] at this), by
        unfold orL
        have e1 : (ws.zip ms).zipIdx.foldl (fun m q => bO m q.1.2) 0 = (((ws.zip ms).zipIdx.map Prod.fst).map Prod.snd).foldl (fun m p => bO m p) 0 := by
          rw [List.map_map, List.foldl_map]
          rfl
        rw [e1, List.zipIdx_map_fst, List.map_snd_zip (by omega)], rfl⟩
  cases qs with
  | cons _ _ => cases hq
  | nil =>
    have hf : m = orL ms := hf
    rw [← ez] at e
    unfold m_read_field m_read_field_b
    have sl : (({ cps := #[44] } : Str).length = 0) = False := by simp [Str.length]
    have lw : (ws.map D.str).length = ws.length := by simp
    simp [startD, apD, tagOf, isiB, kitB, bLen, l1, l2, l3, sep_comma, bSplit, ht, sl, cut, itEn, e, hf, lw]
theorem orF_rng {K : Nat} : ∀ {ps : List Int} {t : Int}, (∀ n ∈ ps, 0 < n ∧ n < 2 ^ K) → 0 ≤ t → t < 2 ^ K → (0 < t ∨ ps ≠ []) → 0 < ps.foldl (fun m p => bO m p) t ∧ ps.foldl (fun m p => bO m p) t < 2 ^ K
  | [], t, _, h0, h1, h2 => by
    rcases h2 with h | h
    · exact ⟨h, h1⟩
    · exact absurd rfl h
  | i :: ns, t, h, t0, t1, _ => by
    obtain ⟨i0, i1⟩ := h i (List.mem_cons_self ..)
    obtain ⟨r0, r1⟩ := or_rng (k := K) t0 (Int.le_of_lt i0) t1 i1
    have rg := or_ge t0 (Int.le_of_lt i0)
    rw [List.foldl_cons]
    exact orF_rng (fun n hn => h n (List.mem_cons_of_mem _ hn)) r0 r1 (.inl (by omega))
theorem orL_rng {K : Nat} {ps : List Int} (h : ∀ n ∈ ps, 0 < n ∧ n < 2 ^ K) (h0 : ps ≠ []) : 0 < orL ps ∧ orL ps < 2 ^ K := orF_rng h (Int.le_refl _) (PySem.W.kbt_pos _) (.inr h0)
/-- a word of a row -/
structure Word (x : Str) : Prop where
  fr : Free 32 x
  ln : x.length ≤ 20
  ne : x ≠ ""
/-- a field's text with its mask -/
structure FT (lo hi : Int) (K : Nat) (x : Str) (m : Int) : Prop where
  w : Word x
  rd : m_read_field [.str x, .int lo, .int hi] = some (.int m)
  m0 : 0 < m
  m1 : m < 2 ^ K
/-- texts of one item -/
structure Item (lo hi : Int) (x : Str) (m : Int) : Prop where
  f44 : Free 44 x
  f32 : Free 32 x
  ln : x.length ≤ 8
  ne : x ≠ ""
  rd : m_item_mask [.str x, .int lo, .int hi] = some (.int m)
theorem Item.ft {lo hi m : Int} {K : Nat} {x : Str} (h : Item lo hi x m) (m0 : 0 < m) (m1 : m < 2 ^ K) : FT lo hi K x m := by
  refine ⟨⟨h.f32, by have := h.ln; omega, h.ne⟩, ?_, m0, m1⟩
  have := read_field_eq (t := x) (ws := [x]) (ms := [m]) (lo := lo) (hi := hi) (split1 h.f44) (by have := h.ln; omega) (by simp) rfl (by
    intro p hp
    simp only [List.zip_cons_cons, List.zip_nil_left, List.mem_singleton] at hp
    subst hp
    exact ⟨h.rd, by show m ≠ 0; omega⟩)
  rw [this]
  show some (D.int (bO 0 m)) = _
  rw [zero_or]
theorem free_lit {c : Nat} {x : Str} (h : (x.cps.toList.all fun k => k != c) = true) : Free c x := fun z => by
  have := List.all_eq_true.mp h c z
  simp at this
theorem ne_of_len {x : Str} (h : x.length ≠ 0) : x ≠ "" := fun e => h (by rw [e]; rfl)
theorem Item.ft2 {lo hi m m' : Int} {K : Nat} {x y : Str} (h : Item lo hi x m) (h' : Item lo hi y m') (m0 : 0 < m) (m1 : m < 2 ^ K) (m0' : 0 < m') (m1' : m' < 2 ^ K) : FT lo hi K (x ++ "," ++ y) (orL [m, m']) := by
  have r := orL_rng (K := K) (ps := [m, m']) (by simp [m0, m1, m0', m1']) (by simp)
  have lc : ("," : Str).length = 1 := by decide
  have a1 := h.ln
  have a2 := h'.ln
  refine ⟨⟨free_app (free_app h.f32 (free_lit (by decide +kernel))) h'.f32, by rw [len_app, len_app]; omega, ne_of_len (by rw [len_app, len_app]; omega)⟩, ?_, r.1, r.2⟩
  refine read_field_eq (ws := [x, y]) ?_ (by rw [len_app, len_app]; omega) (by simp) rfl (by
    intro p hp
    simp only [List.zip_cons_cons, List.zip_nil_left, List.mem_cons, List.not_mem_nil, or_false] at hp
    rcases hp with rfl | rfl
    · exact ⟨h.rd, by show m ≠ 0; omega⟩
    · exact ⟨h'.rd, by show m' ≠ 0; omega⟩)
  rw [sep_comma]
  exact split2 h.f44 h'.f44
end DL
set_option maxRecDepth 100000
namespace DL
open PySem L2
/-! ### drawn fields -/
section
variable {lo hi : Int}
theorem dec_ne {n : Nat} (hn : n < 60) : dec n ≠ "" := by
  have : ((List.range 60).all fun n => decide ((dec n).length ≠ 0)) = true := by decide +kernel
  exact ne_of_len (of_decide_eq_true (List.all_eq_true.mp this n (List.mem_range.mpr hn)))
theorem item_star (h : 0 ≤ lo ∧ lo ≤ hi ∧ hi ≤ 63) : Item lo hi "*" (maskL (upto lo hi)) :=
  ⟨free_lit (by decide +kernel), free_lit (by decide +kernel), by decide +kernel, by decide +kernel, item_plain (free_lit (by decide +kernel)) (by decide +kernel) span_star h⟩
theorem item_one {n : Nat} (hn : n < 60) (h : NumOk lo hi n) : Item lo hi (dec n) (maskL (upto n n)) :=
  ⟨dec_no hn (by decide), dec_no hn (by decide), by have := dec_len hn; omega, dec_ne hn, item_plain (dec_no hn (by decide)) (by have := dec_len hn; omega) (span_one hn h) (by omega)⟩
theorem item_two {a b : Nat} (ha : a < 60) (hb : b < 60) (hab : a ≤ b) (h : NumOk lo hi a) (h' : NumOk lo hi b) : Item lo hi (dec a ++ "-" ++ dec b) (maskL (upto a b)) := by
  have f : ∀ c, ¬ (48 ≤ c ∧ c ≤ 57) → c ≠ 45 → Free c (dec a ++ "-" ++ dec b) := fun c h1 h2 => free_app (free_app (dec_no ha h1) (by unfold Free; rw [show ("-" : Str).cps.toList = [45] by decide +kernel]; simpa using h2)) (dec_no hb h1)
  have l : (dec a ++ "-" ++ dec b).length ≤ 5 := by
    rw [len_app, len_app]
    have := dec_len ha
    have := dec_len hb
    have : ("-" : Str).length = 1 := by decide +kernel
    omega
  have z : (dec a ++ "-" ++ dec b).length ≠ 0 := by
    rw [len_app, len_app]
    have : ("-" : Str).length = 1 := by decide +kernel
    omega
  exact ⟨f _ (by decide) (by decide), f _ (by decide) (by decide), by omega, ne_of_len z, item_plain (f _ (by decide) (by decide)) (by omega) (span_two ha hb hab h h') (by omega)⟩
theorem item_star_by {s : Nat} (h1 : 1 ≤ s ∧ s < 10) (h : 0 ≤ lo ∧ lo ≤ hi ∧ hi ≤ 63) : Item lo hi ("*" ++ "/" ++ dec s) (maskL (uptoBy lo hi s)) := by
  have f : ∀ c, ¬ (48 ≤ c ∧ c ≤ 57) → c ≠ 42 → c ≠ 47 → Free c ("*" ++ "/" ++ dec s) := fun c h1 h2 h3 => free_app (free_app (by unfold Free; rw [show ("*" : Str).cps.toList = [42] by decide +kernel]; simpa using h2) (by unfold Free; rw [show ("/" : Str).cps.toList = [47] by decide +kernel]; simpa using h3)) (dec_no (by omega) h1)
  have l : ("*" ++ "/" ++ dec s : Str).length = 2 + (dec s).length := by
    rw [len_app, len_app]
    have : ("*" : Str).length = 1 := by decide +kernel
    have : ("/" : Str).length = 1 := by decide +kernel
    omega
  have := dec_len (n := s) (by omega)
  exact ⟨f _ (by decide) (by decide) (by decide), f _ (by decide) (by decide) (by decide), by omega, ne_of_len (by omega), item_by (free_lit (by decide +kernel)) (by decide +kernel) span_star h h1 (c := 42) (by decide +kernel) (by decide)⟩
theorem item_two_by {a b s : Nat} (ha : a < 60) (hb : b < 60) (hab : a ≤ b) (h : NumOk lo hi a) (h' : NumOk lo hi b) (h1 : 1 ≤ s ∧ s < 10) : Item lo hi (dec a ++ "-" ++ dec b ++ "/" ++ dec s) (maskL (uptoBy a b s)) := by
  have fd : ∀ c, ¬ (48 ≤ c ∧ c ≤ 57) → c ≠ 45 → Free c (dec a ++ "-" ++ dec b) := fun c h1 h2 => free_app (free_app (dec_no ha h1) (by unfold Free; rw [show ("-" : Str).cps.toList = [45] by decide +kernel]; simpa using h2)) (dec_no hb h1)
  have f : ∀ c, ¬ (48 ≤ c ∧ c ≤ 57) → c ≠ 45 → c ≠ 47 → Free c (dec a ++ "-" ++ dec b ++ "/" ++ dec s) := fun c h1 h2 h3 => free_app (free_app (fd c h1 h2) (by unfold Free; rw [show ("/" : Str).cps.toList = [47] by decide +kernel]; simpa using h3)) (dec_no (by omega) h1)
  have e1 : ("-" : Str).length = 1 := by decide +kernel
  have e2 : ("/" : Str).length = 1 := by decide +kernel
  have d1 := dec_len ha
  have d2 := dec_len hb
  have d3 := dec_len (n := s) (by omega)
  have d4 : (dec s).length ≤ 1 := by
    have : ((List.range 10).all fun n => decide ((dec n).length ≤ 1)) = true := by decide +kernel
    exact of_decide_eq_true (List.all_eq_true.mp this s (List.mem_range.mpr (by omega)))
  have l : (dec a ++ "-" ++ dec b).length ≤ 5 := by
    rw [len_app, len_app]
    omega
  refine ⟨f _ (by decide) (by decide) (by decide), f _ (by decide) (by decide) (by decide), ?_, ne_of_len ?_, item_by (fd _ (by decide) (by decide)) (by omega) (span_two ha hb hab h h') (by omega) h1 (c := 45) ?_ (by decide)⟩
  · rw [len_app, len_app]; omega
  · rw [len_app, len_app]; omega
  · show 45 ∈ ((dec a).cps ++ ("-" : Str).cps ++ (dec b).cps).toList
    rw [Array.toList_append, Array.toList_append, show ("-" : Str).cps.toList = [45] by decide +kernel]
    simp
end
end DL
set_option maxRecDepth 100000
namespace DL
open PySem L2
/-! ### what is drawn -/
theorem cell_in {ns : List Int} {k : Nat} (h : k < ns.length) : m__law_cell_at [.scr ns, .int k] = some (.int ns[k]) := by
  unfold m__law_cell_at m__law_cell_at_b
  have e := atI_nat (xs := ns) (List.getElem?_eq_getElem h)
  have h' : (k : Int) < ns.length := by omega
  simp [startD, bLen, h', opIx, e]
def cellO (x : Int) : Int := (x + 2) ^ 5 * 1299709 % 15485863
theorem cell_out {ns : List Int} {x : Int} (h : ¬ x < ns.length) (h0 : 0 ≤ x ∧ x ≤ 100000) : m__law_cell_at [.scr ns, .int x] = some (.int (cellO x)) := by
  have q : (x + 2).natAbs < 18446744073709551616 := by omega
  unfold m__law_cell_at m__law_cell_at_b cellO
  simp [startD, bLen, h, q]
def cellI (ns : List Int) (k : Nat) : Int := match ns[k]? with
  | some v => v
  | none => cellO k
theorem cell_ok {ns : List Int} {k : Nat} (hk : k ≤ 100000) : m__law_cell_at [.scr ns, .int k] = some (.int (cellI ns k)) := by
  unfold cellI
  by_cases h : k < ns.length
  · rw [cell_in h, List.getElem?_eq_getElem h]
  · rw [cell_out (by omega) (by omega), List.getElem?_eq_none (by omega)]
def stir1 (x : Int) : Int := (x % 1000000000000000000 + 1) * 452930459 % 4294967291
def stir2 (x : Int) : Int := x * (x % 65521 + 15485863) % 999999937
def stirI (x : Int) : Int := stir2 (stir1 x) * (stir2 (stir1 x) % 32749 + 3) % 2147483629
theorem stir_ok {x : Int} : m__law_stir [.int x] = some (.int (stirI x)) := by
  have a1 : 0 ≤ stir1 x ∧ stir1 x < 4294967291 := by unfold stir1; omega
  have a2 : 0 ≤ stir2 (stir1 x) ∧ stir2 (stir1 x) < 999999937 := by unfold stir2; omega
  have q1 : -18446744073709551616 < stir1 x ∧ stir1 x < 18446744073709551616 := by omega
  have q2 : -18446744073709551616 < stir2 (stir1 x) ∧ stir2 (stir1 x) < 18446744073709551616 := by omega
  have e1 : (x % 1000000000000000000 + 1) * 452930459 % 4294967291 = stir1 x := rfl
  unfold m__law_stir m__law_stir_b
  simp only [s_runD, s_seq, s_asg_, s_op, s_var, s_c, startD, List.map_cons, List.map_nil, List.length_cons, List.length_nil, List.replicate, List.cons_append, List.nil_append, Option.bind_some, List.getElem?_cons_zero, o_pow, o_mod, o_add, o_mul, s_tgN, Option.map_some, apD, List.set_cons_succ, List.set_cons_zero, List.getElem?_cons_succ, s_ret_]
  simp [apD, e1, q1]
  have e2 : stir1 x * (stir1 x % 65521 + 15485863) % 999999937 = stir2 (stir1 x) := rfl
  simp [e2, q2]
  rfl
/-- digits of sizes -/
def Dig : List Int → List Int → Prop
  | [], ds => ds = []
  | s :: ss, ds => ∃ d r, ds = d :: r ∧ 0 ≤ d ∧ d < s ∧ Dig ss r
theorem dig_app {a b : List Int} {s d : Int} : Dig a b → 0 ≤ d → d < s → Dig (a ++ [s]) (b ++ [d]) := by
  induction a generalizing b with
  | nil =>
    intro h h0 h1
    have : b = [] := h
    subst this
    exact ⟨d, [], rfl, h0, h1, rfl⟩
  | cons x a ih =>
    rintro ⟨y, r, rfl, q0, q1, q⟩ h0 h1
    exact ⟨y, r ++ [d], rfl, q0, q1, ih q h0 h1⟩
theorem digits_ok {c : Int} {ss : List Int} {mx : Bool} (hs : ∀ s ∈ ss, 0 < s ∧ s < 1073741824) (hl : ss.length ≤ 1000) : ∃ ds, m__law_digits [.int c, .lst (intD ss), .bl mx] = some (.lst (intD ds)) ∧ Dig ss ds := by
  have go : ∀ mx' : Bool, ∃ ds c' x, Dig ss ds ∧ forD (tgN 4) (sIf (asB (dVar 2)) (sSeq (sAsg (dCall 1 m__law_stir (aCons (dVar 0) aNil)) (tgN 0)) (sApp 3 (dOp opMod (dOp opFdiv (dVar 0) (dC (.int 8))) (dVar 4)))) (sSeq (sApp 3 (dOp opMod (dVar 0) (dVar 4))) (sAsg (dOp opFdiv (dVar 0) (dVar 4)) (tgN 0)))) (intD ss)
      [.val (.int c), .val (.lst (intD ss)), .val (.bl mx'), .own [], .un] = some (.nx [.val c', .val (.lst (intD ss)), .val (.bl mx'), .own (intD ds), x]) := by
    intro mx'
    obtain ⟨ρ', e, ps, qs, ds, c', x, hq, hps, hd, hb, rfl⟩ := for_ind (T := tgN 4) (B := sIf (asB (dVar 2)) (sSeq (sAsg (dCall 1 m__law_stir (aCons (dVar 0) aNil)) (tgN 0)) (sApp 3 (dOp opMod (dOp opFdiv (dVar 0) (dC (.int 8))) (dVar 4)))) (sSeq (sApp 3 (dOp opMod (dVar 0) (dVar 4))) (sAsg (dOp opFdiv (dVar 0) (dVar 4)) (tgN 0))))
      (fun q ρ => ∃ (ps qs ds : List Int) (c' : Int) (x : S3), q = intD qs ∧ ps ++ qs = ss ∧ Dig ps ds ∧ ds.length = ps.length ∧ ρ = [.val (.int c'), .val (.lst (intD ss)), .val (.bl mx'), .own (intD ds), x]) (by
        rintro d q ρ ⟨ps, qs, ds, c', x, hq, hps, hd, hb, rfl⟩
        cases qs with
        | nil => cases hq
        | cons s qs =>
          obtain ⟨rfl, rfl⟩ := List.cons.inj hq
          obtain ⟨s0, s1⟩ := hs s (by rw [← hps]; simp)
          have l1 : ds.length ≤ 100000 := by
            have : ps.length ≤ ss.length := by rw [← hps]; simp
            omega
          have hps' : (ps ++ [s]) ++ qs = ss := by rw [← hps]; simp
          cases mx' with
          | true =>
            have m0 := Int.emod_nonneg (stirI c' / 8) (Int.ne_of_gt s0)
            have m1 := Int.emod_lt_of_pos (stirI c' / 8) s0
            exact ⟨_, [.val (.int (stirI c')), .val (.lst (intD ss)), .val (.bl true), .own (intD (ds ++ [stirI c' / 8 % s])), .val (.int s)], rfl, by simp [apD, stir_ok, sApp, l1, s0, intD], ps ++ [s], qs, ds ++ [stirI c' / 8 % s], stirI c', _, rfl, hps', dig_app hd m0 m1, by simp [hb], rfl⟩
          | false =>
            have m0 := Int.emod_nonneg c' (Int.ne_of_gt s0)
            have m1 := Int.emod_lt_of_pos c' s0
            exact ⟨_, [.val (.int (c' / s)), .val (.lst (intD ss)), .val (.bl false), .own (intD (ds ++ [c' % s])), .val (.int s)], rfl, by simp [apD, sApp, l1, s0, s1, intD], ps ++ [s], qs, ds ++ [c' % s], c' / s, _, rfl, hps', dig_app hd m0 m1, by simp [hb], rfl⟩) (intD ss) [.val (.int c), .val (.lst (intD ss)), .val (.bl mx'), .own [], .un] ⟨[], ss, [], c, .un, rfl, rfl, rfl, rfl, rfl⟩
    cases qs with
    | cons _ _ => cases hq
    | nil =>
      rw [List.append_nil] at hps
      subst hps
      exact ⟨ds, _, x, hd, e⟩
  have key : ∀ mx' : Bool, (∃ ds, Dig ss ds ∧ (match (some (.nx [.val (.int c), .val (.lst (intD ss)), .val (.bl mx'), .own [], .un]) : Option Out) with | some (.nx ρ) => sSeq (sFor (itE (dVar 1)) (tgN 4) (sIf (asB (dVar 2)) (sSeq (sAsg (dCall 1 m__law_stir (aCons (dVar 0) aNil)) (tgN 0)) (sApp 3 (dOp opMod (dOp opFdiv (dVar 0) (dC (.int 8))) (dVar 4)))) (sSeq (sApp 3 (dOp opMod (dVar 0) (dVar 4))) (sAsg (dOp opFdiv (dVar 0) (dVar 4)) (tgN 0))))) (sRetO 3) ρ | r => r) = some (.ro (intD ds))) := by
    intro mx'
    obtain ⟨ds, c', x, hd, e⟩ := go mx'
    refine ⟨ds, hd, ?_⟩
    simp [itE, e, sRetO]
  cases mx with
  | true =>
    obtain ⟨ds, hd, e⟩ := key true
    refine ⟨ds, ?_, hd⟩
    unfold m__law_digits m__law_digits_b
    simp only [s_seq] at e
    simp [startD, apD]
    simp at e
    simp [e]
  | false =>
    obtain ⟨ds, hd, e⟩ := key (decide ((if c < 0 then -c else c) < 1000000000000000000))
    refine ⟨ds, ?_, hd⟩
    unfold m__law_digits m__law_digits_b
    simp only [s_seq] at e
    simp [startD, apD, bAbs]
    simp at e
    simp [e]
end DL
set_option maxRecDepth 100000
namespace DL
open PySem L2
/-! ### drawn texts of fields -/
theorem bstr_dec {n : Nat} (h : n < 100) : bStr [.int n] = some (.str (dec n)) := by
  have : (n : Int).natAbs.log2 < 1920 := by
    have e : (n : Int).natAbs = n := by omega
    rw [e]
    have := Nat.log2_le_self n
    omega
  show (if (n : Int).natAbs.log2 < 1920 then some (D.str (Str.ofString (toString (n : Int)))) else none) = _
  rw [if_pos this]
  rfl
theorem bstr_int {i : Int} (h0 : 0 ≤ i) (h : i < 100) : bStr [.int i] = some (.str (dec i.toNat)) := by
  have := bstr_dec (n := i.toNat) (by omega)
  rwa [show ((i.toNat : Nat) : Int) = i by omega] at this
theorem add_str {x y : Str} (h : x.length + y.length ≤ 100000) : opAdd (.str x) (.str y) = some (.str (x ++ y)) := by
  show (if _ then _ else _) = _
  rw [if_pos h]
def fieldT (p : Int) (a b s : Nat) : Str :=
  if p = 0 then "*" else if p = 1 then dec a else if p = 2 then dec a ++ "-" ++ dec b else if p = 3 then "*/" ++ dec s
  else if p = 4 then dec a ++ "," ++ dec b else if p = 5 then dec b else dec a ++ "-" ++ dec b ++ "/" ++ dec s
def fieldM (lo hi : Int) (p : Int) (a b s : Nat) : Int :=
  if p = 0 then maskL (upto lo hi) else if p = 1 then maskL (upto a a) else if p = 2 then maskL (upto a b) else if p = 3 then maskL (uptoBy lo hi s)
  else if p = 4 then orL [maskL (upto a a), maskL (upto b b)] else if p = 5 then maskL (upto b b) else maskL (uptoBy a b s)
theorem atI_lit {α : Type} {xs : List α} {p : Int} (h0 : 0 ≤ p) (h : p < xs.length) : L2.atI xs p = xs[p.toNat]? := by
  obtain ⟨n, rfl⟩ := Int.eq_ofNat_of_zero_le h0
  have hn : n < xs.length := by omega
  have := atI_nat (xs := xs) (List.getElem?_eq_getElem hn)
  rw [this, Int.toNat_natCast, List.getElem?_eq_getElem hn]
theorem dec_len60 {n : Nat} (h : n < 100) : (dec n).length ≤ 2 := by
  have : ((List.range 100).all fun n => decide ((dec n).length ≤ 2)) = true := by decide +kernel
  exact of_decide_eq_true (List.all_eq_true.mp this n (List.mem_range.mpr h))
theorem law_field_ok {p0 p1 p2 p3 lo hi : Int} (hb : 0 ≤ lo ∧ lo ≤ hi ∧ hi < 60) (h0 : 0 ≤ p0 ∧ p0 < 7) (h1 : 0 ≤ p1) (h2 : 0 ≤ p2) (h3 : 0 ≤ p3 ∧ p3 < 9) :
    ∃ a b s : Nat, lo ≤ a ∧ a ≤ b ∧ b ≤ hi ∧ 1 ≤ s ∧ s < 10 ∧ m__law_field [.lst (intD [p0, p1, p2, p3]), .int lo, .int hi] = some (.str (fieldT p0 a b s)) := by
  obtain ⟨b0, b1, b2⟩ := hb
  have s0 : 0 < hi - lo + 1 := by omega
  have m0 := Int.emod_nonneg p1 (Int.ne_of_gt s0)
  have m1 := Int.emod_lt_of_pos p1 s0
  have t0 : 0 < hi - (lo + p1 % (hi - lo + 1)) + 1 := by omega
  have n0 := Int.emod_nonneg p2 (Int.ne_of_gt t0)
  have n1 := Int.emod_lt_of_pos p2 t0
  generalize hA : lo + p1 % (hi - lo + 1) = A at *
  generalize hB : A + p2 % (hi - A + 1) = B at *
  have r1 : lo ≤ A ∧ A ≤ B ∧ B ≤ hi := by omega
  refine ⟨A.toNat, B.toNat, (1 + p3).toNat, by omega, by omega, by omega, by omega, by omega, ?_⟩
  have i0 : L2.atI (intD [p0, p1, p2, p3]) 0 = some (.int p0) := rfl
  have i1 : L2.atI (intD [p0, p1, p2, p3]) 1 = some (.int p1) := rfl
  have i2 : L2.atI (intD [p0, p1, p2, p3]) 2 = some (.int p2) := rfl
  have i3 : L2.atI (intD [p0, p1, p2, p3]) 3 = some (.int p3) := rfl
  have sA := bstr_int (i := A) (by omega) (by omega)
  have sB := bstr_int (i := B) (by omega) (by omega)
  have sS := bstr_int (i := 1 + p3) (by omega) (by omega)
  have lA := dec_len60 (n := A.toNat) (by omega)
  have lB := dec_len60 (n := B.toNat) (by omega)
  have lS := dec_len60 (n := (1 + p3).toNat) (by omega)
  have lm : ("-" : Str).length = 1 := by decide +kernel
  have lc : ("," : Str).length = 1 := by decide +kernel
  have ls : ("/" : Str).length = 1 := by decide +kernel
  have lt : ("*/" : Str).length = 2 := by decide +kernel
  have a1 : opAdd (.str (dec A.toNat)) (.str "-") = some (.str (dec A.toNat ++ "-")) := add_str (by omega)
  have a2 : opAdd (.str (dec A.toNat ++ "-")) (.str (dec B.toNat)) = some (.str (dec A.toNat ++ "-" ++ dec B.toNat)) := add_str (by rw [len_app]; omega)
  have a3 : opAdd (.str "*/") (.str (dec (1 + p3).toNat)) = some (.str ("*/" ++ dec (1 + p3).toNat)) := add_str (by omega)
  have a4 : opAdd (.str (dec A.toNat)) (.str ",") = some (.str (dec A.toNat ++ ",")) := add_str (by omega)
  have a5 : opAdd (.str (dec A.toNat ++ ",")) (.str (dec B.toNat)) = some (.str (dec A.toNat ++ "," ++ dec B.toNat)) := add_str (by rw [len_app]; omega)
  have a6 : opAdd (.str (dec A.toNat ++ "-" ++ dec B.toNat)) (.str "/") = some (.str (dec A.toNat ++ "-" ++ dec B.toNat ++ "/")) := add_str (by rw [len_app, len_app]; omega)
  have a7 : opAdd (.str (dec A.toNat ++ "-" ++ dec B.toNat ++ "/")) (.str (dec (1 + p3).toNat)) = some (.str (dec A.toNat ++ "-" ++ dec B.toNat ++ "/" ++ dec (1 + p3).toNat)) := add_str (by rw [len_app, len_app, len_app]; omega)
  have fin : L2.atI [D.str "*", .str (dec A.toNat), .str (dec A.toNat ++ "-" ++ dec B.toNat), .str ("*/" ++ dec (1 + p3).toNat), .str (dec A.toNat ++ "," ++ dec B.toNat), .str (dec B.toNat), .str (dec A.toNat ++ "-" ++ dec B.toNat ++ "/" ++ dec (1 + p3).toNat)] p0 = some (.str (fieldT p0 A.toNat B.toNat (1 + p3).toNat)) := by
    have hp : p0 = 0 ∨ p0 = 1 ∨ p0 = 2 ∨ p0 = 3 ∨ p0 = 4 ∨ p0 = 5 ∨ p0 = 6 := by omega
    rcases hp with rfl | rfl | rfl | rfl | rfl | rfl | rfl <;> rfl
  unfold m__law_field m__law_field_b
  simp [startD, apD, opIx, i0, i1, i2, i3, s0, hA, t0, hB, sA, sB, sS, a1, a2, a3, a4, a5, a6, a7, sApp, dOwnIx, fin]
theorem fieldT_ok {lo hi : Int} {K : Nat} {p : Int} {a b s : Nat} (hb : 0 ≤ lo ∧ hi < 60 ∧ hi < K) (ha : lo ≤ a ∧ a ≤ b ∧ b ≤ hi) (hs : 1 ≤ s ∧ s < 10) (hN : ∀ n : Nat, lo ≤ n → n ≤ hi → NumOk lo hi n) : FT lo hi K (fieldT p a b s) (fieldM lo hi p a b s) := by
  obtain ⟨b0, b1, b2⟩ := hb
  have na := hN a (by omega) (by omega)
  have nb := hN b (by omega) (by omega)
  have r : ∀ {x y : Int}, lo ≤ x → x ≤ y → y ≤ hi → 0 < maskL (upto x y) ∧ maskL (upto x y) < 2 ^ K := fun h1 h2 h3 => maskL_rng (fun n hn => by have := upto_mem hn; omega) (upto_ne h2)
  have rb : ∀ {x y : Int}, lo ≤ x → x ≤ y → y ≤ hi → 0 < maskL (uptoBy x y s) ∧ maskL (uptoBy x y s) < 2 ^ K := fun h1 h2 h3 => maskL_rng (fun n hn => by have := uptoBy_mem (by omega) hn; omega) (uptoBy_ne (by omega) h2)
  unfold fieldT fieldM
  split
  · exact (item_star ⟨b0, by omega, by omega⟩).ft (r (by omega) (by omega) (by omega)).1 (r (by omega) (by omega) (by omega)).2
  split
  · exact (item_one (by omega) na).ft (r (by omega) (by omega) (by omega)).1 (r (by omega) (by omega) (by omega)).2
  split
  · exact (item_two (by omega) (by omega) (by omega) na nb).ft (r (by omega) (by omega) (by omega)).1 (r (by omega) (by omega) (by omega)).2
  split
  · have e : ("*/" : Str) = "*" ++ "/" := by decide +kernel
    rw [e]
    exact (item_star_by hs ⟨b0, by omega, by omega⟩).ft (rb (by omega) (by omega) (by omega)).1 (rb (by omega) (by omega) (by omega)).2
  split
  · exact (item_one (by omega) na).ft2 (item_one (by omega) nb) (r (by omega) (by omega) (by omega)).1 (r (by omega) (by omega) (by omega)).2 (r (by omega) (by omega) (by omega)).1 (r (by omega) (by omega) (by omega)).2
  split
  · exact (item_one (by omega) nb).ft (r (by omega) (by omega) (by omega)).1 (r (by omega) (by omega) (by omega)).2
  · exact (item_two_by (by omega) (by omega) (by omega) na nb hs).ft (rb (by omega) (by omega) (by omega)).1 (rb (by omega) (by omega) (by omega)).2
theorem NumOk.min {n : Nat} (h : (0 : Int) ≤ n) (h' : (n : Int) ≤ 59) : NumOk 0 59 n := isOne_ok (List.all_eq_true.mp num_min n (List.mem_range.mpr (by omega)))
theorem NumOk.hour {n : Nat} (h : (0 : Int) ≤ n) (h' : (n : Int) ≤ 23) : NumOk 0 23 n := isOne_ok (List.all_eq_true.mp num_hour n (List.mem_range.mpr (by omega)))
theorem NumOk.month {n : Nat} (h : (1 : Int) ≤ n) (h' : (n : Int) ≤ 12) : NumOk 1 12 n := by
  have := List.all_eq_true.mp num_month n (List.mem_range.mpr (by omega))
  rcases Bool.or_eq_true_iff.mp this with z | z
  · have := beq_iff_eq.mp z
    omega
  · exact isOne_ok z
end DL
set_option maxRecDepth 100000
namespace DL
open PySem L2
/-! ### days and weekdays of drawn rows -/
def wordChk (x : Str) : Bool := (x.cps.toList.all fun k => k != 32) && decide (x.length ≤ 20) && decide (x.length ≠ 0)
theorem wordChk_ok {x : Str} (h : wordChk x = true) : Word x := by
  unfold wordChk at h
  rw [Bool.and_eq_true, Bool.and_eq_true] at h
  exact ⟨free_lit h.1.1, of_decide_eq_true h.1.2, ne_of_len (of_decide_eq_true h.2)⟩
def dayChk (x : Str) : Bool := wordChk x && (match m_read_days [.str x] with | some d => marksOk d | none => false)
def wdayChk (x : Str) : Bool := wordChk x && (match m_read_weekdays [.str x] with | some d => marksOk d | none => false)
structure DT (x : Str) : Prop where
  w : Word x
  rd : ∃ d, m_read_days [.str x] = some d ∧ marksOk d = true
structure WT (x : Str) : Prop where
  w : Word x
  rd : ∃ d, m_read_weekdays [.str x] = some d ∧ marksOk d = true
theorem DT.of {x : Str} (h : dayChk x = true) : DT x := by
  unfold dayChk at h
  rw [Bool.and_eq_true] at h
  refine ⟨wordChk_ok h.1, ?_⟩
  have h2 := h.2
  split at h2
  · rename_i d e
    exact ⟨d, e, h2⟩
  · cases h2
theorem WT.of {x : Str} (h : wdayChk x = true) : WT x := by
  unfold wdayChk at h
  rw [Bool.and_eq_true] at h
  refine ⟨wordChk_ok h.1, ?_⟩
  have h2 := h.2
  split at h2
  · rename_i d e
    exact ⟨d, e, h2⟩
  · cases h2
theorem days_lit : ((["*", "L", "LW", "29", "31", "*/2", "1W", "30"] : List Str).all dayChk) = true := by decide +kernel
theorem days_num : ((List.range 31).all fun n => dayChk (dec (1 + n))) = true := by decide +kernel
theorem days_back : ((List.range 30).all fun n => dayChk ("L-" ++ dec (1 + n))) = true := by decide +kernel
theorem days_near : ((List.range 31).all fun n => dayChk (dec (1 + n) ++ "W")) = true := by decide +kernel
theorem days_more : ((List.range 31).all fun n => dayChk ("1-7," ++ dec (1 + n))) = true := by decide +kernel
theorem wdays_lit : ((["*", "1-5", "5-7"] : List Str).all wdayChk) = true := by decide +kernel
theorem wdays_num : ((List.range 8).all fun n => wdayChk (dec n)) = true := by decide +kernel
theorem wdays_last : ((List.range 8).all fun n => wdayChk (dec n ++ "L")) = true := by decide +kernel
theorem wdays_nth : ((List.range 8).all fun n => (List.range 5).all fun m => wdayChk (dec n ++ "#" ++ dec (1 + m))) = true := by decide +kernel
theorem wdays_5 : ((List.range 8).all fun n => wdayChk (dec n ++ "#5")) = true := by decide +kernel
theorem all_lit {P : Str → Bool} {l : List Str} (h : l.all P = true) {x : Str} (hx : x ∈ l) : P x = true := List.all_eq_true.mp h x hx
end DL
set_option maxRecDepth 100000
namespace DL
open PySem L2
/-! ### rows read -/
theorem words_ok {t w0 w1 w2 w3 w4 : Str} (ht : Txt.split t ⟨#[32]⟩ = [w0, w1, w2, w3, w4]) (hl : t.length ≤ 1600) (h0 : w0 ≠ "") (h1 : w1 ≠ "") (h2 : w2 ≠ "") (h3 : w3 ≠ "") (h4 : w4 ≠ "") :
    m_words_of [.str t] = some (.lst [.str w0, .str w1, .str w2, .str w3, .str w4]) := by
  have l1 : t.length ≤ 100000 := by omega
  have l2 : ¬ ((1600 : Int) < t.length) := by omega
  have sl : (({ cps := #[32] } : Str).length = 0) = False := by simp [Str.length]
  have ni : opIn (.str "") (.lst [.str w0, .str w1, .str w2, .str w3, .str w4]) = some (.bl false) := by
    have q : ∀ {w : Str}, w ≠ "" → (w == "") = false := fun h => beq_eq_false_iff_ne.mpr h
    show (inD _ _).map _ = _
    unfold inD
    simp [flatD, inF, eqF, q h0, q h1, q h2, q h3, q h4]
  unfold m_words_of m_words_of_b
  simp [startD, apD, tagOf, isiB, kitB, bLen, l1, l2, sep_blank, bSplit, ht, sl]
  rw [sep_blank.symm] at *
  simp [ni]
theorem read_row_ok {t w0 w1 w2 w3 w4 : Str} {mm hh mo : Int} {dm wm : D} (ht : Txt.split t ⟨#[32]⟩ = [w0, w1, w2, w3, w4]) (hl : t.length ≤ 1600) (f0 : FT 0 59 60 w0 mm) (f1 : FT 0 23 24 w1 hh) (h2 : w2 ≠ "") (f2 : m_read_days [.str w2] = some dm) (f3 : FT 1 12 13 w3 mo) (h4 : w4 ≠ "") (f4 : m_read_weekdays [.str w4] = some wm) :
    m_read_row [.str t] = some (rowD mm hh dm mo wm) := by
  have wd := words_ok ht hl f0.w.ne f1.w.ne h2 f3.w.ne h4
  have a0 : m_field_at [.lst [.str w0, .str w1, .str w2, .str w3, .str w4], .int 0] = some (.int mm) := by
    have i : L2.atI [D.str w0, D.str w1, D.str w2, D.str w3, D.str w4] 0 = some (.str w0) := rfl
    unfold m_field_at m_field_at_b
    simp [startD, apD, opIx, i, f0.rd]
  have a1 : m_field_at [.lst [.str w0, .str w1, .str w2, .str w3, .str w4], .int 1] = some (.int hh) := by
    have i : L2.atI [D.str w0, D.str w1, D.str w2, D.str w3, D.str w4] 1 = some (.str w1) := rfl
    unfold m_field_at m_field_at_b
    simp [startD, apD, opIx, i, f1.rd]
  have a2 : m_field_at [.lst [.str w0, .str w1, .str w2, .str w3, .str w4], .int 2] = some dm := by
    have i : L2.atI [D.str w0, D.str w1, D.str w2, D.str w3, D.str w4] 2 = some (.str w2) := rfl
    unfold m_field_at m_field_at_b
    simp [startD, apD, opIx, i, f2]
  have a3 : m_field_at [.lst [.str w0, .str w1, .str w2, .str w3, .str w4], .int 3] = some (.int mo) := by
    have i : L2.atI [D.str w0, D.str w1, D.str w2, D.str w3, D.str w4] 3 = some (.str w3) := rfl
    unfold m_field_at m_field_at_b
    simp [startD, apD, opIx, i, f3.rd]
  have a4 : m_field_at [.lst [.str w0, .str w1, .str w2, .str w3, .str w4], .int 4] = some wm := by
    have i : L2.atI [D.str w0, D.str w1, D.str w2, D.str w3, D.str w4] 4 = some (.str w4) := rfl
    unfold m_field_at m_field_at_b
    simp [startD, apD, opIx, i, f4]
  have rg : rngD 0 5 = [.int 0, .int 1, .int 2, .int 3, .int 4] := rfl
  have j0 : L2.atI [D.int mm, D.int hh, dm, D.int mo, wm] 0 = some (.int mm) := rfl
  have j1 : L2.atI [D.int mm, D.int hh, dm, D.int mo, wm] 1 = some (.int hh) := rfl
  have j2 : L2.atI [D.int mm, D.int hh, dm, D.int mo, wm] 2 = some dm := rfl
  have j3 : L2.atI [D.int mm, D.int hh, dm, D.int mo, wm] 3 = some (.int mo) := rfl
  have j4 : L2.atI [D.int mm, D.int hh, dm, D.int mo, wm] 4 = some wm := rfl
  unfold m_read_row m_read_row_b
  simp [startD, apD, wd, itR1, rg, forD, sApp, a0, a1, a2, a3, a4, dOwnIx, j0, j1, j2, j3, j4, i_Row]
/-- a drawn row, read -/
theorem RowOk.read {t w0 w1 w2 w3 w4 : Str} {mm hh mo : Int} (ht : Txt.split t ⟨#[32]⟩ = [w0, w1, w2, w3, w4]) (hl : t.length ≤ 1600) (f0 : FT 0 59 60 w0 mm) (f1 : FT 0 23 24 w1 hh) (f2 : DT w2) (f3 : FT 1 12 13 w3 mo) (ev : mo % 2 = 0) (f4 : WT w4) : ∃ d, m_read_row [.str t] = some d ∧ RowOk d := by
  obtain ⟨dm, e2, k2⟩ := f2.rd
  obtain ⟨wm, e4, k4⟩ := f4.rd
  exact ⟨_, read_row_ok ht hl f0 f1 f2.w.ne e2 f3 f4.w.ne e4, ⟨mm, hh, mo, dm, wm, rfl, Int.le_of_lt f0.m0, f0.m1, Int.le_of_lt f1.m0, f1.m1, k2, k4⟩, fun mm' hh' mo' dm' wm' e => by
    simp only [rowD, D.ins.injEq, List.cons.injEq, D.int.injEq, true_and, and_true] at e
    obtain ⟨rfl, rfl, _, rfl, _⟩ := e
    exact ⟨f0.m0, f1.m0, f3.m0, f3.m1, ev⟩⟩
/-- words joined by blanks -/
theorem join5 {w0 w1 w2 w3 w4 : Str} (h0 : Word w0) (h1 : Word w1) (h2 : Word w2) (h3 : Word w3) (h4 : Word w4) : Txt.split (Str.join ⟨#[32]⟩ [w0, w1, w2, w3, w4]) ⟨#[32]⟩ = [w0, w1, w2, w3, w4] ∧ (Str.join ⟨#[32]⟩ [w0, w1, w2, w3, w4]).length ≤ 1600 := by
  refine ⟨split_join (by simp) (by
    intro w hw
    simp only [List.mem_cons, List.not_mem_nil, or_false] at hw
    rcases hw with rfl | rfl | rfl | rfl | rfl
    · exact h0.fr
    · exact h1.fr
    · exact h2.fr
    · exact h3.fr
    · exact h4.fr), ?_⟩
  have e := congrArg List.length (join_jl 32 [w0, w1, w2, w3, w4])
  have q : ∀ x : Str, x.cps.toList.length = x.length := fun x => rfl
  simp only [jl, List.map_cons, List.map_nil, List.length_append, List.length_cons, q] at e
  have := h0.ln
  have := h1.ln
  have := h2.ln
  have := h3.ln
  have := h4.ln
  omega
end DL
set_option maxRecDepth 100000
namespace DL
open PySem L2
/-! ### drawn rows -/
theorem join_eq {ws : List Str} (h : (ws.map (·.length)).sum + ws.length ≤ 100000) : bJoin (.str " ") (.lst (ws.map D.str)) = some (.str (Str.join ⟨#[32]⟩ ws)) := by
  have e1 : (" " : Str).length = 1 := by decide +kernel
  have e2 : Txt.join " " ws = Str.join " " ws := StrLaws.glued_eq_join " " ws
  unfold bJoin
  simp only [asStrs_map, Option.bind_some, e1, Nat.mul_one, h, if_true, e2]
  rw [sep_blank]
theorem word_lit {x : Str} (h : wordChk x = true) : Word x := wordChk_ok h
theorem all_rng {n : Nat} {P : Nat → Bool} (h : ((List.range n).all P) = true) {i : Nat} (hi : i < n) : P i = true := List.all_eq_true.mp h i (List.mem_range.mpr hi)
theorem dt_num {n : Nat} (h : 1 ≤ n ∧ n ≤ 31) : DT (dec n) := DT.of (by have := all_rng days_num (i := n - 1) (by omega); rwa [show 1 + (n - 1) = n by omega] at this)
theorem dt_back {n : Nat} (h : 1 ≤ n ∧ n ≤ 30) : DT ("L-" ++ dec n) := DT.of (by have := all_rng days_back (i := n - 1) (by omega); rwa [show 1 + (n - 1) = n by omega] at this)
theorem dt_near {n : Nat} (h : 1 ≤ n ∧ n ≤ 31) : DT (dec n ++ "W") := DT.of (by have := all_rng days_near (i := n - 1) (by omega); rwa [show 1 + (n - 1) = n by omega] at this)
theorem dt_more {n : Nat} (h : 1 ≤ n ∧ n ≤ 31) : DT ("1-7," ++ dec n) := DT.of (by have := all_rng days_more (i := n - 1) (by omega); rwa [show 1 + (n - 1) = n by omega] at this)
theorem dt_lit {x : Str} (h : x ∈ (["*", "L", "LW", "29", "31", "*/2", "1W", "30"] : List Str)) : DT x := DT.of (all_lit days_lit h)
theorem wt_num {n : Nat} (h : n < 8) : WT (dec n) := WT.of (all_rng wdays_num h)
theorem wt_last {n : Nat} (h : n < 8) : WT (dec n ++ "L") := WT.of (all_rng wdays_last h)
theorem wt_5 {n : Nat} (h : n < 8) : WT (dec n ++ "#5") := WT.of (all_rng wdays_5 h)
theorem wt_nth {n m : Nat} (h : n < 8) (hm : 1 ≤ m ∧ m ≤ 5) : WT (dec n ++ "#" ++ dec m) := WT.of (by
  have := all_rng (all_rng wdays_nth h) (i := m - 1) (by omega)
  rwa [show 1 + (m - 1) = m by omega] at this)
theorem wt_lit {x : Str} (h : x ∈ (["*", "1-5", "5-7"] : List Str)) : WT x := WT.of (all_lit wdays_lit h)
theorem or_nn {x y : Int} (hx : 0 ≤ x) (hy : 0 ≤ y) : 0 ≤ bO x y := by rw [or_pp hx hy]; omega
theorem maskF_even : ∀ {ns : List Int} {t : Int}, (∀ n ∈ ns, 1 ≤ n) → 0 ≤ t → t % 2 = 0 → ns.foldl (fun m n => bO m (2 ^ n.toNat)) t % 2 = 0
  | [], t, _, _, h => h
  | i :: ns, t, h, t0, te => by
    have i1 := h i (List.mem_cons_self ..)
    have s0 : (0 : Int) < 2 ^ i.toNat := PySem.W.kbt_pos _
    have se : (2 : Int) ^ i.toNat % 2 = 0 := by
      obtain ⟨k, hk⟩ : ∃ k, i.toNat = k + 1 := ⟨i.toNat - 1, by omega⟩
      rw [hk, Int.pow_succ]
      omega
    rw [List.foldl_cons]
    exact maskF_even (fun n hn => h n (List.mem_cons_of_mem _ hn)) (or_nn t0 (Int.le_of_lt s0)) (or_even0 t0 (Int.le_of_lt s0) te se)
theorem maskL_even {ns : List Int} (h : ∀ n ∈ ns, 1 ≤ n) : maskL ns % 2 = 0 := maskF_even h (Int.le_refl _) rfl
theorem fieldM_even {lo hi p : Int} {a b s : Nat} (h1 : 1 ≤ lo) (hh : hi ≤ 63) (ha : lo ≤ a ∧ a ≤ b ∧ b ≤ hi) (hs : 1 ≤ s ∧ s < 10) : fieldM lo hi p a b s % 2 = 0 := by
  have r : ∀ {x y : Int}, lo ≤ x → maskL (upto x y) % 2 = 0 := fun h => maskL_even fun n hn => by have := upto_mem hn; omega
  have rb : ∀ {x y : Int}, lo ≤ x → maskL (uptoBy x y s) % 2 = 0 := fun h => maskL_even fun n hn => by have := uptoBy_mem (by omega) hn; omega
  have rn : ∀ {x : Nat}, lo ≤ x → (x : Int) ≤ 63 → 0 ≤ maskL (upto x x) := fun h h' => Int.le_of_lt (maskL_rng (K := 64) (fun n hn => by have := upto_mem hn; omega) (upto_ne (by omega))).1
  unfold fieldM
  split
  · exact r (by omega)
  split
  · exact r (by omega)
  split
  · exact r (by omega)
  split
  · exact rb (by omega)
  split
  · show bO (bO 0 _) _ % 2 = 0
    rw [zero_or]
    exact or_even0 (rn (by omega) (by omega)) (rn (by omega) (by omega)) (r (by omega)) (r (by omega))
  split
  · exact r (by omega)
  · exact rb (by omega)
def daysL (n : Nat) (back : Str) : List Str := ["*", dec n, "*", "L", back, dec n ++ "W", "LW", "29", "*", "31", "1-7," ++ dec n, "*/2"]
def wdaysL (n m : Nat) : List Str := ["*", "*", "1-5", dec n, dec n ++ "#" ++ dec m, dec n ++ "L", dec n ++ "#5", "5-7", "*", "*"]
theorem daysL_ok {n : Nat} {b : Str} (h : 1 ≤ n ∧ n ≤ 31) (hb : DT b) : ∀ x ∈ daysL n b, DT x := by
  intro x hx
  simp only [daysL, List.mem_cons, List.not_mem_nil, or_false] at hx
  rcases hx with rfl | rfl | rfl | rfl | rfl | rfl | rfl | rfl | rfl | rfl | rfl | rfl
  · exact dt_lit (by simp)
  · exact dt_num h
  · exact dt_lit (by simp)
  · exact dt_lit (by simp)
  · exact hb
  · exact dt_near h
  · exact dt_lit (by simp)
  · exact dt_lit (by simp)
  · exact dt_lit (by simp)
  · exact dt_lit (by simp)
  · exact dt_more h
  · exact dt_lit (by simp)
theorem wdaysL_ok {n m : Nat} (h : n < 8) (hm : 1 ≤ m ∧ m ≤ 5) : ∀ x ∈ wdaysL n m, WT x := by
  intro x hx
  simp only [wdaysL, List.mem_cons, List.not_mem_nil, or_false] at hx
  rcases hx with rfl | rfl | rfl | rfl | rfl | rfl | rfl | rfl | rfl | rfl
  · exact wt_lit (by simp)
  · exact wt_lit (by simp)
  · exact wt_lit (by simp)
  · exact wt_num h
  · exact wt_nth h hm
  · exact wt_last h
  · exact wt_5 h
  · exact wt_lit (by simp)
  · exact wt_lit (by simp)
  · exact wt_lit (by simp)
theorem pick {P : Str → Prop} {l : List Str} (h : ∀ x ∈ l, P x) {p : Int} (h0 : 0 ≤ p) (h1 : p < l.length) : ∃ x, L2.atI (l.map D.str) p = some (.str x) ∧ P x := by
  have hn : p.toNat < l.length := by omega
  refine ⟨l[p.toNat], ?_, h _ (List.getElem_mem ..)⟩
  rw [atI_lit h0 (by simpa using h1)]
  simp [hn]
theorem ft_two : FT 1 12 13 "2" (maskL (upto 2 2)) := by
  have e : ("2" : Str) = dec 2 := by decide +kernel
  have r := maskL_rng (K := 13) (ns := upto 2 2) (fun n hn => by have := upto_mem hn; omega) (upto_ne (by omega))
  rw [e]
  exact (item_one (lo := 1) (hi := 12) (n := 2) (by omega) (NumOk.month (by omega) (by omega))).ft r.1 r.2
theorem read_five {w0 w1 w2 w3 w4 : Str} {mm hh mo : Int} (f0 : FT 0 59 60 w0 mm) (f1 : FT 0 23 24 w1 hh) (f2 : DT w2) (f3 : FT 1 12 13 w3 mo) (ev : mo % 2 = 0) (f4 : WT w4) :
    bJoin (.str " ") (.lst [.str w0, .str w1, .str w2, .str w3, .str w4]) = some (.str (Str.join ⟨#[32]⟩ [w0, w1, w2, w3, w4])) ∧ ∃ d, m_read_row [.str (Str.join ⟨#[32]⟩ [w0, w1, w2, w3, w4])] = some d ∧ RowOk d := by
  obtain ⟨s, l⟩ := join5 f0.w f1.w f2.w f3.w f4.w
  refine ⟨join_eq (ws := [w0, w1, w2, w3, w4]) ?_, RowOk.read s l f0 f1 f2 f3 ev f4⟩
  have := f0.w.ln
  have := f1.w.ln
  have := f2.w.ln
  have := f3.w.ln
  have := f4.w.ln
  simp
  omega
theorem law_row_ok {c : Int} {mx : Bool} : ∃ d, m__law_row [.int c, .bl mx] = some d ∧ RowOk d := by
  obtain ⟨ds, e, hd⟩ := digits_ok (c := c) (mx := mx) (ss := [8, 2, 12, 31, 10, 8, 5, 7, 12, 12, 9, 7, 24, 24, 9, 7, 60, 60, 9]) (by decide) (by decide)
  obtain ⟨p0, _, rfl, a0, b0, p1, _, rfl, a1, b1, p2, _, rfl, a2, b2, p3, _, rfl, a3, b3, p4, _, rfl, a4, b4, p5, _, rfl, a5, b5, p6, _, rfl, a6, b6, p7, _, rfl, a7, b7, p8, _, rfl, a8, b8, p9, _, rfl, a9, b9, hd⟩ := hd
  obtain ⟨q0, _, rfl, c0, d0, q1, _, rfl, c1, d1, q2, _, rfl, c2, d2, q3, _, rfl, c3, d3, q4, _, rfl, c4, d4, q5, _, rfl, c5, d5, q6, _, rfl, c6, d6, q7, _, rfl, c7, d7, q8, _, rfl, c8, d8, hd⟩ := hd
  cases hd
  obtain ⟨aM, bM, sM, m1, m2, m3, m4, m5, eM⟩ := law_field_ok (p0 := q5) (p1 := q6) (p2 := q7) (p3 := q8) (lo := 0) (hi := 59) (by decide) ⟨c5, d5⟩ c6 c7 ⟨c8, d8⟩
  obtain ⟨aH, bH, sH, h1, h2, h3, h4, h5, eH⟩ := law_field_ok (p0 := q1) (p1 := q2) (p2 := q3) (p3 := q4) (lo := 0) (hi := 23) (by decide) ⟨c1, d1⟩ c2 c3 ⟨c4, d4⟩
  obtain ⟨aO, bO, sO, o1, o2, o3, o4, o5, eO⟩ := law_field_ok (p0 := p7) (p1 := p8) (p2 := p9) (p3 := q0) (lo := 1) (hi := 12) (by decide) ⟨a7, b7⟩ a8 a9 ⟨c0, d0⟩
  have FM := fieldT_ok (lo := 0) (hi := 59) (K := 60) (p := q5) (by decide) ⟨m1, m2, m3⟩ ⟨m4, m5⟩ (fun n h h' => NumOk.min h h')
  have FH := fieldT_ok (lo := 0) (hi := 23) (K := 24) (p := q1) (by decide) ⟨h1, h2, h3⟩ ⟨h4, h5⟩ (fun n h h' => NumOk.hour h h')
  have FO := fieldT_ok (lo := 1) (hi := 12) (K := 13) (p := p7) (by decide) ⟨o1, o2, o3⟩ ⟨o4, o5⟩ (fun n h h' => NumOk.month h h')
  have evO := fieldM_even (lo := 1) (hi := 12) (p := p7) (by decide) (by omega) ⟨o1, o2, o3⟩ ⟨o4, o5⟩
  have hN : 1 ≤ (1 + p3).toNat ∧ (1 + p3).toNat ≤ 31 := by omega
  have hW : p5.toNat < 8 := by omega
  have hS : 1 ≤ (1 + p6).toNat ∧ (1 + p6).toNat ≤ 5 := by omega
  obtain ⟨back, hback⟩ : ∃ b : Str, b = (if p3 = 30 then ("L-30" : Str) else "L-" ++ dec (1 + p3).toNat) := ⟨_, rfl⟩
  have hB : DT back := by
    by_cases z : p3 = 30
    · have : back = "L-" ++ dec 30 := by
        rw [hback, if_pos z]
        decide +kernel
      rw [this]
      exact dt_back (by decide)
    · have : back = "L-" ++ dec (1 + p3).toNat := hback.trans (if_neg z)
      rw [this]
      exact dt_back (by omega)
  obtain ⟨xd, ed, hxd⟩ := pick (daysL_ok hN hB) a2 b2
  obtain ⟨xw, ew, hxw⟩ := pick (wdaysL_ok hW hS) a4 b4
  have s3 := bstr_int (i := 1 + p3) (by omega) (by omega)
  have s5 := bstr_int (i := p5) (by omega) (by omega)
  have s6 := bstr_int (i := 1 + p6) (by omega) (by omega)
  have l3 := dec_len60 (n := (1 + p3).toNat) (by omega)
  have l5 := dec_len60 (n := p5.toNat) (by omega)
  have l6 := dec_len60 (n := (1 + p6).toNat) (by omega)
  have k1 : ("L-" : Str).length = 2 := by decide +kernel
  have k2 : ("W" : Str).length = 1 := by decide +kernel
  have k3 : ("1-7," : Str).length = 4 := by decide +kernel
  have k4 : ("#" : Str).length = 1 := by decide +kernel
  have k5 : ("L" : Str).length = 1 := by decide +kernel
  have k6 : ("#5" : Str).length = 2 := by decide +kernel
  have e1 : opAdd (.str "L-") (.str (dec (1 + p3).toNat)) = some (.str ("L-" ++ dec (1 + p3).toNat)) := add_str (by omega)
  have e2 : opAdd (.str (dec (1 + p3).toNat)) (.str "W") = some (.str (dec (1 + p3).toNat ++ "W")) := add_str (by omega)
  have e3 : opAdd (.str "1-7,") (.str (dec (1 + p3).toNat)) = some (.str ("1-7," ++ dec (1 + p3).toNat)) := add_str (by omega)
  have e4 : opAdd (.str (dec p5.toNat)) (.str "#") = some (.str (dec p5.toNat ++ "#")) := add_str (by omega)
  have e5 : opAdd (.str (dec p5.toNat ++ "#")) (.str (dec (1 + p6).toNat)) = some (.str (dec p5.toNat ++ "#" ++ dec (1 + p6).toNat)) := add_str (by rw [len_app]; omega)
  have e6 : opAdd (.str (dec p5.toNat)) (.str "L") = some (.str (dec p5.toNat ++ "L")) := add_str (by omega)
  have e7 : opAdd (.str (dec p5.toNat)) (.str "#5") = some (.str (dec p5.toNat ++ "#5")) := add_str (by omega)
  generalize hds : [p0, p1, p2, p3, p4, p5, p6, p7, p8, p9, q0, q1, q2, q3, q4, q5, q6, q7, q8] = ds at e
  have i0 : L2.atI (intD ds) 0 = some (.int p0) := by rw [← hds]; rfl
  have i1 : L2.atI (intD ds) 1 = some (.int p1) := by rw [← hds]; rfl
  have i2 : L2.atI (intD ds) 2 = some (.int p2) := by rw [← hds]; rfl
  have i3 : L2.atI (intD ds) 3 = some (.int p3) := by rw [← hds]; rfl
  have i4 : L2.atI (intD ds) 4 = some (.int p4) := by rw [← hds]; rfl
  have i5 : L2.atI (intD ds) 5 = some (.int p5) := by rw [← hds]; rfl
  have i6 : L2.atI (intD ds) 6 = some (.int p6) := by rw [← hds]; rfl
  have t1 : opSl (.lst (intD ds)) (some 15) none = some (.lst (intD [q5, q6, q7, q8])) := by rw [← hds]; rfl
  have t2 : opSl (.lst (intD ds)) (some 11) (some 15) = some (.lst (intD [q1, q2, q3, q4])) := by rw [← hds]; rfl
  have t3 : opSl (.lst (intD ds)) (some 7) (some 11) = some (.lst (intD [p7, p8, p9, q0])) := by rw [← hds]; rfl
  have ss : intD [8, 2, 12, 31, 10, 8, 5, 7, 12, 12, 9, 7, 24, 24, 9, 7, 60, 60, 9] = [.int 8, .int 2, .int 12, .int 31, .int 10, .int 8, .int 5, .int 7, .int 12, .int 12, .int 9, .int 7, .int 24, .int 24, .int 9, .int 7, .int 60, .int 60, .int 9] := rfl
  rw [ss] at e
  have cat : ∀ a b c d f : D, bCat (.lst [a, b, c]) (.lst [d, f]) = some [a, b, c, d, f] := fun _ _ _ _ _ => rfl
  generalize fieldT q5 aM bM sM = wM at *
  generalize fieldT q1 aH bH sH = wH at *
  generalize fieldT p7 aO bO sO = wO at *
  generalize fieldM 1 12 p7 aO bO sO = mO at *
  have ed' : L2.atI [D.str "*", .str (dec (1 + p3).toNat), .str "*", .str "L", .str back, .str (dec (1 + p3).toNat ++ "W"), .str "LW", .str "29", .str "*", .str "31", .str ("1-7," ++ dec (1 + p3).toNat), .str "*/2"] p2 = some (.str xd) := ed
  have ew' : L2.atI [D.str "*", .str "*", .str "1-5", .str (dec p5.toNat), .str (dec p5.toNat ++ "#" ++ dec (1 + p6).toNat), .str (dec p5.toNat ++ "L"), .str (dec p5.toNat ++ "#5"), .str "5-7", .str "*", .str "*"] p4 = some (.str xw) := ew
  obtain ⟨J1, d1', R1, K1⟩ := read_five FM FH hxd FO evO hxw
  have l1 : L2.atI [D.str "29", D.str "*"] p1 = some (.str (if p1 = 0 then "29" else "*")) := by
    rcases (by omega : p1 = 0 ∨ p1 = 1) with rfl | rfl <;> rfl
  have l2 : L2.atI [D.str "*", D.str (dec p5.toNat ++ "#5")] p1 = some (.str (if p1 = 0 then "*" else dec p5.toNat ++ "#5")) := by
    rcases (by omega : p1 = 0 ∨ p1 = 1) with rfl | rfl <;> rfl
  have g2 : DT (if p1 = 0 then "29" else "*") := by split <;> exact dt_lit (by simp)
  have g4 : WT (if p1 = 0 then "*" else dec p5.toNat ++ "#5") := by
    split
    · exact wt_lit (by simp)
    · exact wt_5 hW
  obtain ⟨J2, d2', R2, K2⟩ := read_five FM FH g2 ft_two (by decide +kernel) g4
  generalize (if p1 = 0 then ("29" : Str) else "*") = y2 at *
  generalize (if p1 = 0 then ("*" : Str) else dec p5.toNat ++ "#5") = y4 at *
  have ix4 : ixN 12 4 = some 4 := rfl
  unfold m__law_row m__law_row_b
  by_cases z : p3 = 30
  · rw [if_pos z] at hback
    subst hback
    subst z
    simp only [Int.reduceAdd, Int.reduceToNat] at *
    by_cases y : p0 = 3
    · refine ⟨d2', ?_, K2⟩
      simp [startD, apD, e, opIx, i0, i1, i2, i3, i4, i5, i6, s3, s5, s6, e1, e2, e3, e4, e5, e6, e7, sSetI, ix4, y, t1, t2, t3, eM, eH, eO, dOwnIx, ed', ew', cat, frzD, sSetTail, l1, l2, J2, R2]
    · refine ⟨d1', ?_, K1⟩
      simp [startD, apD, e, opIx, i0, i1, i2, i3, i4, i5, i6, s3, s5, s6, e1, e2, e3, e4, e5, e6, e7, sSetI, ix4, y, t1, t2, t3, eM, eH, eO, dOwnIx, ed', ew', cat, frzD, sSetTail, l1, l2, J1, R1]
  · rw [if_neg z] at hback
    subst hback
    by_cases y : p0 = 3
    · refine ⟨d2', ?_, K2⟩
      simp [startD, apD, e, opIx, i0, i1, i2, i3, i4, i5, i6, s3, s5, s6, e1, e2, e3, e4, e5, e6, e7, sSetI, ix4, z, y, t1, t2, t3, eM, eH, eO, dOwnIx, ed', ew', cat, frzD, sSetTail, l1, l2, J2, R2]
    · refine ⟨d1', ?_, K1⟩
      simp [startD, apD, e, opIx, i0, i1, i2, i3, i4, i5, i6, s3, s5, s6, e1, e2, e3, e4, e5, e6, e7, sSetI, ix4, z, y, t1, t2, t3, eM, eH, eO, dOwnIx, ed', ew', cat, frzD, sSetTail, l1, l2, J1, R1]
end DL
set_option maxRecDepth 100000
set_option exponentiation.threshold 2000
namespace DL
open PySem L2
/-! ### trees, with the books that they make -/
structure Kid where
  t : D
  p : Part
  rs : List D
structure Tr (n : Nat) (q : Kid) : Prop where
  m : ∀ j, n ≤ j → TrM j q.t q.p.M
  b : ∀ j, n ≤ j → TrB j q.t q.p.b
  r : ∀ j, n ≤ j → TrR j q.t q.rs
  k : Bk q.p.b n q.p.M q.p.ta q.p.de
  ro : ∀ d ∈ q.rs, RowOk d
theorem Tr.up {n n' : Nat} {q : Kid} (h : Tr n q) (l : n ≤ n') : Tr n' q := ⟨fun j z => h.m j (by omega), fun j z => h.b j (by omega), fun j z => h.r j (by omega), h.k.up l, h.ro⟩
theorem TrM.eq {n : Nat} {t : D} {A B : Ms} (h : TrM n t A) (e : ∀ k, k < 91 → A k = B k) : TrM n t B := fun k hk => by rw [h k hk, e k hk]
theorem suc {n j : Nat} (h : n + 1 ≤ j) : ∃ i, j = i + 1 ∧ n ≤ i := ⟨j - 1, by omega, by omega⟩
theorem parts_of {n : Nat} {qs : List Kid} (h : ∀ q ∈ qs, Tr n q) : Parts n (qs.map (·.p)) := fun p hp => by
  obtain ⟨q, hq, rfl⟩ := List.mem_map.mp hp
  exact (h q hq).k
theorem ro_flat {n : Nat} {qs : List Kid} (h : ∀ q ∈ qs, Tr n q) : ∀ d ∈ (qs.map (·.rs)).flatten, RowOk d := fun d hd => by
  obtain ⟨l, hl, hd⟩ := List.mem_flatten.mp hd
  obtain ⟨q, hq, rfl⟩ := List.mem_map.mp hl
  exact (h q hq).ro d hd
theorem rows_kids {n : Nat} {w : Str} (hw : ¬ w = "row") {qs : List Kid} (h : ∀ q ∈ qs, TrR n q.t q.rs) (hl : (qs.map fun q => q.rs.length).sum ≤ 1000) : TrR (n + 1) (.tup [.str w, .lst (qs.map (·.t))]) (qs.map (·.rs)).flatten := by
  have := rows_fold (n := n) (w := w) hw (ts := qs.map fun q => (q.t, q.rs)) (fun x hx => by
    obtain ⟨q, hq, rfl⟩ := List.mem_map.mp hx
    exact h q hq) (by rw [List.map_map]; exact hl)
  simpa [List.map_map, Function.comp_def] using this
def noneK : Kid := ⟨.tup [.str "none", .lst []], ⟨.ins 8 [], zeroM, 1, 1⟩, []⟩
def rowK (d : D) (t : Int) : Kid := ⟨.tup [.str "row", .lst [d, .int t]], ⟨ofD d t, rowM d t, 1, 1⟩, [d]⟩
def taS (qs : List Kid) : Int := 1 + ((qs.map (·.p)).map (·.ta)).sum
def deS (qs : List Kid) : Int := 1 + maxI ((qs.map (·.p)).map (·.de))
def joinK (qs : List Kid) : Kid := ⟨.tup [.str "join", .lst (qs.map (·.t))], ⟨.ins 10 [.tup ((qs.map (·.p)).map (·.b))], foldM bO zeroM (qs.map (·.p)), taS qs, deS qs⟩, (qs.map (·.rs)).flatten⟩
def meetK (qs : List Kid) : Kid := ⟨.tup [.str "meet", .lst (qs.map (·.t))], ⟨.ins 11 [.tup ((qs.map (·.p)).map (·.b))], foldM bA fullM (qs.map (·.p)), taS qs, deS qs⟩, (qs.map (·.rs)).flatten⟩
def lessK (x y : Kid) : Kid := ⟨.tup [.str "less", .lst [x.t, y.t]], ⟨.ins 12 [x.p.b, y.p.b], zipM lessI x.p.M y.p.M, 1 + x.p.ta + y.p.ta, 1 + (if y.p.de > x.p.de then y.p.de else x.p.de)⟩, x.rs ++ y.rs⟩
def turnK (x : Kid) : Kid := ⟨.tup [.str "turn", .lst [x.t]], ⟨.ins 13 [x.p.b], turnM x.p.M, 1 + x.p.ta, 1 + x.p.de⟩, x.rs⟩
theorem tr_none : Tr 1 noneK := by
  refine ⟨fun j z k hk => ?_, fun j z => ?_, fun j z => ?_, bk_none, fun d hd => nomatch hd⟩ <;> obtain ⟨i, rfl, _⟩ := suc (n := 0) z
  · exact masks_none hk
  · exact make_none
  · have := rows_kids (n := i) (w := "none") (by decide +kernel) (qs := []) (fun q hq => nomatch hq) (by simp)
    exact this
theorem tr_row {d : D} {t : Int} (h : RowOk d) (ht : m_Row_times [d] = some (.int t)) (t0 : 0 ≤ t) (t1 : t < 2 ^ 1440) : Tr 1 (rowK d t) := by
  refine ⟨fun j z k hk => ?_, fun j z => ?_, fun j z => ?_, bk_of h t0 t1, fun x hx => ?_⟩
  · obtain ⟨i, rfl, _⟩ := suc (n := 0) z
    exact masks_row hk h
  · obtain ⟨i, rfl, _⟩ := suc (n := 0) z
    exact make_row h ht
  · obtain ⟨i, rfl, _⟩ := suc (n := 0) z
    exact rows_row
  · have : x ∈ [d] := hx
    rw [List.mem_singleton] at this
    rw [this]
    exact h
theorem zip_id {g : Int → Int → Int} {c : Int} : ∀ {l : List Int} {n : Nat}, l.length = n → (∀ x ∈ l, g c x = x) → List.zipWith g (List.replicate n c) l = l
  | [], n, h, _ => by simp
  | x :: l, 0, h, _ => by simp at h
  | x :: l, n + 1, h, e => by
    rw [List.replicate_succ, List.zipWith_cons_cons, e x (List.mem_cons_self ..), zip_id (by simpa using h) fun y hy => e y (List.mem_cons_of_mem _ hy)]
theorem zero_join {A : Ms} (h : MsOk A) {k : Nat} (hk : k < 91) : zipM bO zeroM A k = A k := zip_id (h.len k hk) fun x _ => zero_or x
theorem full_meet {A : Ms} (h : MsOk A) {k : Nat} (hk : k < 91) : zipM bA fullM A k = A k := zip_id (h.len k hk) fun x hx => by
  obtain ⟨h0, h1⟩ := h.rng k hk x hx
  show Builtin.bitAnd full x = x
  unfold full
  rw [PySem.W.kbt_mask']
  exact Int.emod_eq_of_lt h0 h1
theorem fold_eq {g : Int → Int → Int} {k : Nat} : ∀ (ps : List Part) {A B : Ms}, A k = B k → foldM g A ps k = foldM g B ps k
  | [], A, B, h => h
  | p :: ps, A, B, h => fold_eq ps (by show List.zipWith g (A k) _ = List.zipWith g (B k) _; rw [h])
theorem fold_kids {g : Int → Int → Int} : ∀ (qs : List Kid) (A : Ms), ((qs.map fun q => (q.t, q.p.M)).foldl (fun B q => zipM g B q.2) A) = foldM g A (qs.map (·.p))
  | [], A => rfl
  | q :: qs, A => by
    rw [List.map_cons, List.foldl_cons, List.map_cons]
    exact fold_kids qs _
theorem masks_kids {n : Nat} {w : Str} {g : Int → Int → Int} (h1 : ¬ w = "none") (h2 : ¬ w = "row") (h3 : ¬ w = "turn") (hg : ∀ x y : Int, m__law_joined [.str w, .int x, .int y] = some (.int (g x y))) (hgM : ∀ A B, MsOk A → MsOk B → MsOk (zipM g A B)) {q : Kid} {qs : List Kid} (h : ∀ x ∈ q :: qs, TrM n x.t x.p.M ∧ MsOk x.p.M) :
    TrM (n + 1) (.tup [.str w, .lst ((q :: qs).map (·.t))]) (foldM g q.p.M (qs.map (·.p))) := fun k hk => by
  have hq := h q (List.mem_cons_self ..)
  have := masks_fold h1 h2 h3 hg hgM hk hq.1 hq.2 (ts := qs.map fun q => (q.t, q.p.M)) (fun x hx => by
    obtain ⟨y, hy, rfl⟩ := List.mem_map.mp hx
    exact h y (List.mem_cons_of_mem _ hy))
  rw [fold_kids, List.map_map] at this
  exact this
theorem qs_len {qs : List Kid} : ((qs.map (·.p)).map (·.b)) = qs.map fun q => q.p.b := by rw [List.map_map]; rfl
theorem tr_join {n : Nat} (hn : n ≤ 8) {qs : List Kid} (h : ∀ q ∈ qs, Tr n q) (s : Small (qs.map (·.p))) (hl : (qs.map fun q => q.rs.length).sum ≤ 1000) : Tr (n + 1) (joinK qs) := by
  have h0 := s.h0
  have l8 := s.hl
  refine ⟨fun j z => ?_, fun j z => ?_, fun j z => ?_, bk_joined h0 l8 (parts_of h), ro_flat h⟩
  · obtain ⟨i, rfl, hi⟩ := suc z
    cases qs with
    | nil => simp at h0
    | cons q qs =>
      refine (masks_kids (by decide +kernel) (by decide +kernel) (by decide +kernel) (fun x y => law_joined_join) (fun A B => orM_ok) (fun x hx => ⟨(h x hx).m i hi, (h x hx).k.ok⟩)).eq fun k hk => ?_
      show foldM bO q.p.M (qs.map (·.p)) k = foldM bO (zipM bO zeroM q.p.M) (qs.map (·.p)) k
      exact fold_eq _ (zero_join (h q (List.mem_cons_self ..)).k.ok hk).symm
  · obtain ⟨i, rfl, hi⟩ := suc z
    show TrB _ (.tup [.str "join", .lst (qs.map (·.t))]) (.ins 10 [.tup ((qs.map (·.p)).map (·.b))])
    have := make_join (n := i) (qs := qs.map fun q => (q.t, q.p)) (fun x hx => by
      obtain ⟨y, hy, rfl⟩ := List.mem_map.mp hx
      exact (h y hy).b i hi) (j := n) hn (by rw [List.map_map]; exact parts_of h) (by rw [List.map_map]; exact s)
    simpa [List.map_map, Function.comp_def] using this
  · obtain ⟨i, rfl, hi⟩ := suc z
    exact rows_kids (by decide +kernel) (fun q hq => (h q hq).r i hi) hl
theorem tr_meet {n : Nat} (hn : n ≤ 8) {qs : List Kid} (h : ∀ q ∈ qs, Tr n q) (s : Small (qs.map (·.p))) (hl : (qs.map fun q => q.rs.length).sum ≤ 1000) : Tr (n + 1) (meetK qs) := by
  have h0 := s.h0
  have l8 := s.hl
  refine ⟨fun j z => ?_, fun j z => ?_, fun j z => ?_, bk_met h0 l8 (parts_of h), ro_flat h⟩
  · obtain ⟨i, rfl, hi⟩ := suc z
    cases qs with
    | nil => simp at h0
    | cons q qs =>
      refine (masks_kids (by decide +kernel) (by decide +kernel) (by decide +kernel) (fun x y => law_joined_meet) (fun A B => andM_ok) (fun x hx => ⟨(h x hx).m i hi, (h x hx).k.ok⟩)).eq fun k hk => ?_
      show foldM bA q.p.M (qs.map (·.p)) k = foldM bA (zipM bA fullM q.p.M) (qs.map (·.p)) k
      exact fold_eq _ (full_meet (h q (List.mem_cons_self ..)).k.ok hk).symm
  · obtain ⟨i, rfl, hi⟩ := suc z
    show TrB _ (.tup [.str "meet", .lst (qs.map (·.t))]) (.ins 11 [.tup ((qs.map (·.p)).map (·.b))])
    have := make_meet (n := i) (qs := qs.map fun q => (q.t, q.p)) (fun x hx => by
      obtain ⟨y, hy, rfl⟩ := List.mem_map.mp hx
      exact (h y hy).b i hi) (j := n) hn (by rw [List.map_map]; exact parts_of h) (by rw [List.map_map]; exact s)
    simpa [List.map_map, Function.comp_def] using this
  · obtain ⟨i, rfl, hi⟩ := suc z
    exact rows_kids (by decide +kernel) (fun q hq => (h q hq).r i hi) hl
theorem less_eq {A B : Ms} (a : MsOk A) (b : MsOk B) {k : Nat} (hk : k < 91) : zipM (fun x y => bA x (full - y)) A B k = zipM lessI A B k := zip_same fun x hx y hy => by
  obtain ⟨x0, x1⟩ := a.rng k hk x hx
  obtain ⟨y0, y1⟩ := b.rng k hk y hy
  exact and_less 1440 x y x0 x1 y0 y1
theorem lessF_ok {A B : Ms} (a : MsOk A) (b : MsOk B) : MsOk (zipM (fun x y => bA x (full - y)) A B) := by
  have := lessM_ok a b
  exact ⟨fun k hk => by rw [less_eq a b hk]; exact this.len k hk, fun k hk => by rw [less_eq a b hk]; exact this.rng k hk⟩
theorem tr_less {n : Nat} (hn : n ≤ 8) {x y : Kid} (hx : Tr n x) (hy : Tr n y) (s : Small [x.p, y.p]) (hl : x.rs.length + y.rs.length ≤ 1000) : Tr (n + 1) (lessK x y) := by
  refine ⟨fun j z => ?_, fun j z => ?_, fun j z => ?_, bk_less hx.k hy.k, fun d hd => ?_⟩
  · obtain ⟨i, rfl, hi⟩ := suc z
    refine (masks_kids (w := "less") (q := x) (qs := [y]) (by decide +kernel) (by decide +kernel) (by decide +kernel) (fun x y => law_joined_less) (fun A B => lessF_ok) (fun v hv => ?_)).eq fun k hk => less_eq hx.k.ok hy.k.ok hk
    simp only [List.mem_cons, List.not_mem_nil, or_false] at hv
    rcases hv with rfl | rfl
    · exact ⟨hx.m i hi, hx.k.ok⟩
    · exact ⟨hy.m i hi, hy.k.ok⟩
  · obtain ⟨i, rfl, hi⟩ := suc z
    exact make_less (hx.b i hi) (hy.b i hi) (j := n) hn (fun p hp => by
      simp only [List.mem_cons, List.not_mem_nil, or_false] at hp
      rcases hp with rfl | rfl
      · exact hx.k
      · exact hy.k) s
  · obtain ⟨i, rfl, hi⟩ := suc z
    have := rows_kids (n := i) (w := "less") (by decide +kernel) (qs := [x, y]) (fun q hq => by
      simp only [List.mem_cons, List.not_mem_nil, or_false] at hq
      rcases hq with rfl | rfl
      · exact hx.r i hi
      · exact hy.r i hi) (by simpa using hl)
    simpa [lessK] using this
  · rcases List.mem_append.mp hd with h | h
    · exact hx.ro d h
    · exact hy.ro d h
theorem tr_turn {n : Nat} (hn : n ≤ 8) {x : Kid} (hx : Tr n x) (s : Small [x.p]) (hl : x.rs.length ≤ 1000) : Tr (n + 1) (turnK x) := by
  refine ⟨fun j z k hk => ?_, fun j z => ?_, fun j z => ?_, bk_turned hx.k, hx.ro⟩
  · obtain ⟨i, rfl, hi⟩ := suc z
    exact masks_turn hk hx.k.ok (hx.m i hi k hk)
  · obtain ⟨i, rfl, hi⟩ := suc z
    exact make_turn (hx.b i hi) (j := n) hn (fun p hp => by
      simp only [List.mem_cons, List.not_mem_nil, or_false] at hp
      rw [hp]
      exact hx.k) s
  · obtain ⟨i, rfl, hi⟩ := suc z
    have := rows_kids (n := i) (w := "turn") (by decide +kernel) (qs := [x]) (fun q hq => by
      simp only [List.mem_cons, List.not_mem_nil, or_false] at hq
      rw [hq]
      exact hx.r i hi) (by simpa using hl)
    simpa [turnK] using this
end DL
set_option maxRecDepth 100000
namespace DL
open PySem L2
/-! ### the calendar -/
def dB (y : Int) : Int := 365 * y + (y + 3) / 4 - (y + 99) / 100 + (y + 399) / 400
def isL (y : Int) : Bool := decide (y % 4 = 0) && (decide (y % 100 ≠ 0) || decide (y % 400 = 0))
def lastM (y m : Int) : Int := if m = 2 then (if isL y = true then 29 else 28) else if m = 4 ∨ m = 6 ∨ m = 9 ∨ m = 11 then 30 else 31
def cumT (m : Int) : Int := if m ≤ 1 then 0 else if m = 2 then 31 else if m = 3 then 59 else if m = 4 then 90 else if m = 5 then 120 else if m = 6 then 151 else if m = 7 then 181 else if m = 8 then 212 else if m = 9 then 243 else if m = 10 then 273 else if m = 11 then 304 else if m = 12 then 334 else 365
def cumM (y m : Int) : Int := cumT m + if 2 < m ∧ isL y = true then 1 else 0
def yl (y : Int) : Int := 365 + if isL y = true then 1 else 0
theorem isL_iff {y : Int} : isL y = true ↔ y % 4 = 0 ∧ (y % 100 ≠ 0 ∨ y % 400 = 0) := by simp [isL]
theorem dB_succ (y : Int) : dB (y + 1) = dB y + yl y := by
  unfold dB yl
  by_cases h : isL y = true
  · rw [if_pos h]
    rw [isL_iff] at h
    omega
  · rw [if_neg h]
    rw [isL_iff] at h
    omega
theorem mem12 {m : Int} (h : 1 ≤ m ∧ m ≤ 12) : m = 1 ∨ m = 2 ∨ m = 3 ∨ m = 4 ∨ m = 5 ∨ m = 6 ∨ m = 7 ∨ m = 8 ∨ m = 9 ∨ m = 10 ∨ m = 11 ∨ m = 12 := by omega
theorem cum_succ (y : Int) {m : Int} (h : 1 ≤ m ∧ m ≤ 12) : cumM y (m + 1) = cumM y m + lastM y m := by
  unfold cumM lastM
  rcases mem12 h with rfl | rfl | rfl | rfl | rfl | rfl | rfl | rfl | rfl | rfl | rfl | rfl <;> by_cases z : isL y = true <;> simp [cumT, z]
theorem cum_13 (y : Int) : cumM y 13 = yl y := by
  unfold cumM yl
  by_cases z : isL y = true <;> simp [cumT, z]
theorem cum_1 (y : Int) : cumM y 1 = 0 := by simp [cumM, cumT]
theorem last_rng (y : Int) {m : Int} : 28 ≤ lastM y m ∧ lastM y m ≤ 31 := by
  unfold lastM
  split
  · split <;> omega
  · split <;> omega
theorem days_before_ok {y : Int} : m_days_before [.int y] = some (.int (dB y)) := by
  unfold m_days_before m_days_before_b dB
  simp [startD]
theorem is_long_ok {y : Int} : m_is_long [.int y] = some (.bl (isL y)) := by
  unfold m_is_long m_is_long_b isL
  by_cases h1 : y % 4 = 0 <;> by_cases h2 : y % 100 = 0 <;> by_cases h3 : y % 400 = 0 <;> simp [startD, h1, h2, h3]
theorem last_of_ok {y m : Int} (h : 1 ≤ m ∧ m ≤ 12) : m_last_of [.int y, .int m] = some (.int (lastM y m)) := by
  unfold m_last_of m_last_of_b lastM
  rcases mem12 h with rfl | rfl | rfl | rfl | rfl | rfl | rfl | rfl | rfl | rfl | rfl | rfl <;> by_cases z : isL y = true <;> simp [startD, is_long_ok, z, opIx] <;> rfl
theorem weekday_ok {n : Int} : m_weekday [.int n] = some (.int ((n + 6) % 7)) := by
  unfold m_weekday m_weekday_b
  simp [startD]
theorem whole_ok {n : Int} : m_is_whole [.int n] = some (.bl true) := by
  have h1 : isiB "int" (.b "int") = some true := by decide +kernel
  have h2 : isiB "bool" (.b "int") = some false := by decide +kernel
  unfold m_is_whole m_is_whole_b
  simp [startD, tagOf, h1, h2]
theorem sum_months {y : Int} {ρ : Sl} (hy : ∀ d : D, dVar 0 (apD ρ [(3, d)]) = some (.int y)) (hk : ∀ d : D, dVar 3 (apD ρ [(3, d)]) = some d) : ∀ n : Nat, n ≤ 12 → ∃ l : List Int, lcD (tgN 3) tTrue (dCall 2 m_last_of (aCons (dVar 0) (aCons (dVar 3) aNil))) ρ (rngD 1 n) = some (l.map .int) ∧ l.sum = cumM y (n + 1) ∧ l.length = n := by
  intro n hn
  have e := lc_map (T := tgN 3) (elt := dCall 2 m_last_of (aCons (dVar 0) (aCons (dVar 3) aNil))) (ρ := ρ) (fun d => match d with | .int k => .int (lastM y k) | d => d) (rngD 1 n) (fun d hd => by
    obtain ⟨k, hk', rfl⟩ := List.mem_map.mp hd
    have := List.mem_range.mp hk'
    refine ⟨_, rfl, ?_⟩
    simp only [s_call, s_cons, s_nil, hy, hk, Option.bind_some, Option.map_some, List.length_cons, List.length_nil, if_true]
    rw [last_of_ok (by omega)])
  refine ⟨(List.range n).map fun k : Nat => lastM y (1 + (k : Int)), ?_, ?_, by simp⟩
  · rw [e]
    congr 1
    unfold rngD
    rw [List.map_map, List.map_map]
    rfl
  · clear e
    induction n with
    | zero => simp [cum_1]
    | succ n ih =>
      have ih := ih (by omega)
      rw [List.range_succ, List.map_append, List.sum_append, ih]
      have := cum_succ y (m := (n : Int) + 1) (by omega)
      have e2 : (1 + (n : Int)) = (n : Int) + 1 := by omega
      have e3 : ((n + 1 : Nat) : Int) = (n : Int) + 1 := by omega
      simp only [List.map_cons, List.map_nil, List.sum_cons, List.sum_nil]
      rw [e2, e3]
      omega
theorem asInts_ints : ∀ l : List Int, asInts (l.map .int) = some l
  | [] => rfl
  | x :: l => by
    have ih := asInts_ints l
    simp [asInts, ih]
theorem day_of_ok {y m d : Int} (h : 1 ≤ m ∧ m ≤ 12) (hd : 1 ≤ d ∧ d ≤ lastM y m) : m_day_of [.int y, .int m, .int d] = some (.int (dB y + cumM y m + d - 1)) := by
  obtain ⟨l, e, hs, hl⟩ := sum_months (y := y) (ρ := [.val (.int y), .val (.int m), .val (.int d), .un]) (fun d => by simp [apD]) (fun d => by simp [apD]) (m - 1).toNat (by omega)
  have hm : ((m - 1).toNat : Int) + 1 = m := by omega
  rw [hm] at hs
  have r1 : -4611686018427387904 ≤ m ∧ m < 4611686018427387904 := by omega
  have r2 : (m - 1).toNat ≤ 100000 := by omega
  have r3 : m ≤ 100001 := by omega
  unfold m_day_of m_day_of_b
  simp [startD, whole_ok, last_of_ok h, h.1, h.2, hd.1, hd.2, days_before_ok, itR2, r1, oLc, rngD] at e ⊢
  simp [r3, e, bSum, asInts_ints, hs]
end DL
set_option maxRecDepth 100000
namespace DL
open PySem L2
/-! ### dates -/
structure IsDate (n y m d : Int) : Prop where
  m1 : 1 ≤ m
  m12 : m ≤ 12
  d1 : 1 ≤ d
  dl : d ≤ lastM y m
  eq : n = dB y + cumM y m + d - 1
theorem date_of_ok (n : Int) : ∃ y m d, IsDate n y m d ∧ m_date_of [.int n] = some (.tup [.int y, .int m, .int d]) := by
  generalize hY : n * 400 / 146097 = Y
  have hY1 : 146097 * Y ≤ 400 * n ∧ 400 * n < 146097 * (Y + 1) := by omega
  -- back
  obtain ⟨ρ1, e1, y1, rfl, a1, a2⟩ := while_ind (t := asB (dOp opGt (dCall 1 m_days_before (aCons (dVar 1) aNil)) (dVar 0))) (B := sAsg (dOp opSub (dVar 1) (dC (.int 1))) (tgN 1))
    (fun j ρ => ∃ y : Int, ρ = [.val (.int n), .val (.int y), .un, .un] ∧ y = Y - 5 + j ∧ j ≤ 5) (fun ρ => ∃ y : Int, ρ = [.val (.int n), .val (.int y), .un, .un] ∧ dB y ≤ n ∧ Y - 5 ≤ y ∧ y ≤ Y) (by
      rintro j ρ ⟨y, rfl, hy, hj⟩
      by_cases h : dB y > n
      · right
        have hj0 : j ≠ 0 := fun z => by
          subst z
          have : y = Y - 5 := by omega
          subst this
          unfold dB at h
          omega
        exact ⟨j - 1, [.val (.int n), .val (.int (y - 1)), .un, .un], by omega, by simp [days_before_ok, h], by simp [apD], y - 1, rfl, by omega, by omega⟩
      · left
        exact ⟨by simp [days_before_ok, h], y, rfl, by omega, by omega, by omega⟩) 5 [.val (.int n), .val (.int Y), .un, .un] 100000 ⟨Y, rfl, by omega, by omega⟩ (by omega)
  -- on
  obtain ⟨ρ2, e2, y2, rfl, b1, b2⟩ := while_ind (t := asB (dOp opLe (dCall 1 m_days_before (aCons (dOp opAdd (dVar 1) (dC (.int 1))) aNil)) (dVar 0))) (B := sAsg (dOp opAdd (dVar 1) (dC (.int 1))) (tgN 1))
    (fun j ρ => ∃ y : Int, ρ = [.val (.int n), .val (.int y), .un, .un] ∧ dB y ≤ n ∧ y = Y + 5 - j ∧ j ≤ 10) (fun ρ => ∃ y : Int, ρ = [.val (.int n), .val (.int y), .un, .un] ∧ dB y ≤ n ∧ n < dB (y + 1)) (by
      rintro j ρ ⟨y, rfl, hd, hy, hj⟩
      by_cases h : dB (y + 1) ≤ n
      · right
        have hj0 : j ≠ 0 := fun z => by
          subst z
          have : y = Y + 5 := by omega
          subst this
          unfold dB at h
          omega
        exact ⟨j - 1, [.val (.int n), .val (.int (y + 1)), .un, .un], by omega, by simp [days_before_ok, h], by simp [apD], y + 1, rfl, h, by omega, by omega⟩
      · left
        exact ⟨by simp [days_before_ok, h], y, rfl, hd, by omega⟩) (Y + 5 - y1).toNat [.val (.int n), .val (.int y1), .un, .un] 100000 ⟨y1, rfl, a1, by omega, by omega⟩ (by omega)
  rw [dB_succ] at b2
  -- the month
  obtain ⟨ρ3, e3, m, l, rfl, c1, c2, c3, c4, c5⟩ := while_ind (t := asB (dOp opGe (dVar 2) (dCall 2 m_last_of (aCons (dVar 1) (aCons (dVar 3) aNil))))) (B := sSeq (sAsg (dOp opSub (dVar 2) (dCall 2 m_last_of (aCons (dVar 1) (aCons (dVar 3) aNil)))) (tgN 2)) (sAsg (dOp opAdd (dVar 3) (dC (.int 1))) (tgN 3)))
    (fun j ρ => ∃ m l : Int, ρ = [.val (.int n), .val (.int y2), .val (.int l), .val (.int m)] ∧ m = 12 - j ∧ j ≤ 11 ∧ 0 ≤ l ∧ n = dB y2 + cumM y2 m + l) (fun ρ => ∃ m l : Int, ρ = [.val (.int n), .val (.int y2), .val (.int l), .val (.int m)] ∧ 1 ≤ m ∧ m ≤ 12 ∧ 0 ≤ l ∧ l < lastM y2 m ∧ n = dB y2 + cumM y2 m + l) (by
      rintro j ρ ⟨m, l, rfl, hm, hj, hl, hn⟩
      have h12 : 1 ≤ m ∧ m ≤ 12 := by omega
      have cs := cum_succ y2 h12
      by_cases h : l ≥ lastM y2 m
      · right
        have hj0 : j ≠ 0 := fun z => by
          subst z
          have : m = 12 := by omega
          subst this
          have := cum_13 y2
          have e : (12 : Int) + 1 = 13 := rfl
          rw [e] at cs
          omega
        exact ⟨j - 1, [.val (.int n), .val (.int y2), .val (.int (l - lastM y2 m)), .val (.int (m + 1))], by omega, by simp [last_of_ok h12, h], by simp [apD, last_of_ok h12], m + 1, l - lastM y2 m, rfl, by omega, by omega, by omega, by omega⟩
      · left
        exact ⟨by simp [last_of_ok h12, h], m, l, rfl, h12.1, h12.2, hl, by omega, hn⟩) 11 [.val (.int n), .val (.int y2), .val (.int (n - dB y2)), .val (.int 1)] 100000 ⟨1, n - dB y2, rfl, by omega, by omega, by omega, by rw [cum_1]; omega⟩ (by omega)
  refine ⟨y2, m, l + 1, ⟨c1, c2, by omega, by omega, by omega⟩, ?_⟩
  have hY' : n * 400 / 146097 = Y := hY
  unfold m_date_of m_date_of_b
  simp [startD, hY', sWhile, apD, e1, e2, days_before_ok, e3]
/-- a day has one date -/
theorem dB_mono {a b : Int} (h : a ≤ b) : dB a ≤ dB b := by
  obtain ⟨k, rfl⟩ : ∃ k : Nat, b = a + k := ⟨(b - a).toNat, by omega⟩
  clear h
  induction k with
  | zero => simp
  | succ k ih =>
    have e : a + ((k + 1 : Nat) : Int) = a + k + 1 := by omega
    rw [e, dB_succ]
    unfold yl
    split <;> omega
theorem cum_mono (y : Int) {a b : Int} (h1 : 1 ≤ a) (h : a ≤ b) (h12 : b ≤ 13) : cumM y a ≤ cumM y b := by
  obtain ⟨k, rfl⟩ : ∃ k : Nat, b = a + k := ⟨(b - a).toNat, by omega⟩
  clear h
  induction k with
  | zero => simp
  | succ k ih =>
    have e : a + ((k + 1 : Nat) : Int) = a + k + 1 := by omega
    rw [e, cum_succ y (by omega)]
    have := ih (by omega)
    have := last_rng y (m := a + k)
    omega
theorem IsDate.in_year {n y m d : Int} (h : IsDate n y m d) : dB y ≤ n ∧ n < dB (y + 1) := by
  have h1 := cum_mono y (a := 1) (b := m) (by omega) h.m1 (by have := h.m12; omega)
  have h2 := cum_mono y (a := m + 1) (b := 13) (by have := h.m1; omega) (by have := h.m12; omega) (by omega)
  have h3 := cum_succ y ⟨h.m1, h.m12⟩
  rw [cum_1] at h1
  rw [cum_13] at h2
  have e := h.eq
  have := h.d1
  have := h.dl
  rw [dB_succ]
  omega
theorem IsDate.uniq {n y m d y' m' d' : Int} (h : IsDate n y m d) (h' : IsDate n y' m' d') : y = y' ∧ m = m' ∧ d = d' := by
  have a := h.in_year
  have b := h'.in_year
  have hy : y = y' := by
    by_cases h1 : y < y'
    · have := dB_mono (a := y + 1) (b := y') (by omega)
      omega
    · by_cases h2 : y' < y
      · have := dB_mono (a := y' + 1) (b := y) (by omega)
        omega
      · omega
  subst hy
  have e := h.eq
  have e' := h'.eq
  have := h.d1
  have := h.dl
  have := h'.d1
  have := h'.dl
  have m1 := h.m1
  have m2 := h.m12
  have m1' := h'.m1
  have m2' := h'.m12
  have s := cum_succ y ⟨m1, m2⟩
  have s' := cum_succ y ⟨m1', m2'⟩
  have hm : m = m' := by
    by_cases h1 : m < m'
    · have := cum_mono y (a := m + 1) (b := m') (by omega) (by omega) (by omega)
      omega
    · by_cases h2 : m' < m
      · have := cum_mono y (a := m' + 1) (b := m) (by omega) (by omega) (by omega)
        omega
      · omega
  subst hm
  exact ⟨rfl, rfl, by omega⟩
/-- the date of a day -/
noncomputable def yOf (n : Int) : Int := Classical.choose (date_of_ok n)
noncomputable def mOf (n : Int) : Int := Classical.choose (Classical.choose_spec (date_of_ok n))
noncomputable def dOf (n : Int) : Int := Classical.choose (Classical.choose_spec (Classical.choose_spec (date_of_ok n)))
theorem date_is (n : Int) : IsDate n (yOf n) (mOf n) (dOf n) := (Classical.choose_spec (Classical.choose_spec (Classical.choose_spec (date_of_ok n)))).1
theorem date_eq (n : Int) : m_date_of [.int n] = some (.tup [.int (yOf n), .int (mOf n), .int (dOf n)]) := (Classical.choose_spec (Classical.choose_spec (Classical.choose_spec (date_of_ok n)))).2
theorem of_date {n y m d : Int} (h : IsDate n y m d) : yOf n = y ∧ mOf n = m ∧ dOf n = d := (date_is n).uniq h
/-! ### kinds of months -/
def kindI (y m : Int) : Int := 7 * (if m = 2 ∧ isL y = true then 12 else m - 1) + (dB y + cumM y m + 6) % 7
theorem kind_rng {y m : Int} (h : 1 ≤ m ∧ m ≤ 12) : 0 ≤ kindI y m ∧ kindI y m < 91 := by
  unfold kindI
  split <;> omega
def kindN (y m : Int) : Nat := (kindI y m).toNat
theorem kindN_lt {y m : Int} (h : 1 ≤ m ∧ m ≤ 12) : kindN y m < 91 := by
  have := kind_rng (y := y) h
  unfold kindN
  omega
theorem kind_of_ok {y m : Int} (h : 1 ≤ m ∧ m ≤ 12) : m_kind_of [.int y, .int m] = some (.int (kindN y m)) := by
  have r := kind_rng (y := y) h
  have e : ((kindN y m : Nat) : Int) = kindI y m := by unfold kindN; omega
  have l := last_rng y (m := m)
  have d := day_of_ok (y := y) (m := m) (d := 1) h (by omega)
  have e2 : dB y + cumM y m + 1 - 1 = dB y + cumM y m := by omega
  rw [e2] at d
  rw [e]
  unfold m_kind_of m_kind_of_b kindI
  by_cases h1 : m = 2
  · subst h1
    by_cases h2 : isL y = true <;> simp [startD, apD, is_long_ok, h2, d, weekday_ok]
  · simp [startD, apD, is_long_ok, h1, d, weekday_ok]
/-- what a kind tells, by its number -/
def monI (k : Nat) : Int × Int × Int := if k / 7 = 12 then (2, 29, (k % 7 : Nat)) else ((k / 7 + 1 : Nat), lastM 1 (k / 7 + 1 : Nat), (k % 7 : Nat))
theorem mon_all : ((List.range 91).all fun k => decide (mon k = monI k)) = true := by decide +kernel
theorem mon_kind {y m : Int} (h : 1 ≤ m ∧ m ≤ 12) : mon (kindN y m) = (m, lastM y m, (dB y + cumM y m + 6) % 7) := by
  have e := of_decide_eq_true (List.all_eq_true.mp mon_all (kindN y m) (List.mem_range.mpr (kindN_lt h)))
  rw [e]
  have r := kind_rng (y := y) h
  have e2 : ((kindN y m : Nat) : Int) = kindI y m := by unfold kindN; omega
  have w0 := Int.emod_nonneg (dB y + cumM y m + 6) (show (7 : Int) ≠ 0 by decide)
  have w1 := Int.emod_lt_of_pos (dB y + cumM y m + 6) (show (0 : Int) < 7 by decide)
  unfold kindI at e2
  unfold monI
  by_cases hl : m = 2 ∧ isL y = true
  · rw [if_pos hl] at e2
    rw [if_pos (by omega), show lastM y m = 29 by simp [lastM, hl.1, hl.2], hl.1]
    have : ((kindN y 2 % 7 : Nat) : Int) = (dB y + cumM y 2 + 6) % 7 := by rw [hl.1] at e2; omega
    rw [this]
  · rw [if_neg hl] at e2
    rw [if_neg (by omega)]
    have q1 : ((kindN y m / 7 + 1 : Nat) : Int) = m := by omega
    have q2 : ((kindN y m % 7 : Nat) : Int) = (dB y + cumM y m + 6) % 7 := by omega
    rw [q1, q2]
    have q3 : lastM 1 m = lastM y m := by
      unfold lastM
      by_cases h2 : m = 2
      · have : ¬ isL y = true := fun z => hl ⟨h2, z⟩
        have i1 : isL 1 = false := by decide
        simp [h2, this, i1]
      · simp [h2]
    rw [q3]
end DL
set_option maxRecDepth 100000
set_option exponentiation.threshold 2000
namespace DL
open PySem L2
/-! ### bits -/
def bt (x : Int) (i : Nat) : Bool := decide (x / 2 ^ i % 2 = 1)
theorem bA_bt (x : Int) (i : Nat) : Builtin.bitAnd (x / 2 ^ i) 1 = if bt x i = true then 1 else 0 := by
  have e : Builtin.bitAnd (x / 2 ^ i) 1 = x / 2 ^ i % 2 := PyProof.Rows.bitAnd_m1 _
  rw [e]
  unfold bt
  by_cases h : x / 2 ^ i % 2 = 1
  · simp [h]
  · simp [h]
    omega
theorem bt_nat {x : Int} (h : 0 ≤ x) (i : Nat) : bt x i = x.toNat.testBit i := by
  obtain ⟨n, rfl⟩ := Int.eq_ofNat_of_zero_le h
  rw [Nat.testBit_eq_decide_div_mod_eq]
  unfold bt
  have c := PySem.W.kbt_cast i
  have e : ((n : Int) / 2 ^ i % 2) = ((n / 2 ^ i % 2 : Nat) : Int) := by
    rw [← c]
    norm_cast
  rw [e]
  simp only [Int.toNat_natCast]
  congr 1
  apply propext
  omega
theorem bt_or {x y : Int} (hx : 0 ≤ x) (hy : 0 ≤ y) (i : Nat) : bt (bO x y) i = (bt x i || bt y i) := by
  rw [bt_nat hx, bt_nat hy, or_pp hx hy, bt_nat (by omega), Int.toNat_natCast, Nat.testBit_or]
theorem bt_and {x y : Int} (hx : 0 ≤ x) (hy : 0 ≤ y) (i : Nat) : bt (bA x y) i = (bt x i && bt y i) := by
  rw [bt_nat hx, bt_nat hy, show bA x y = _ from PyProof.Rows.bitAnd_pp hx hy, bt_nat (by omega), Int.toNat_natCast, Nat.testBit_and]
theorem bt_shl {x : Int} (hx : 0 ≤ x) (s i : Nat) : bt (x * 2 ^ s) i = (decide (s ≤ i) && bt x (i - s)) := by
  obtain ⟨n, rfl⟩ := Int.eq_ofNat_of_zero_le hx
  have c := PySem.W.kbt_cast s
  have e : (n : Int) * 2 ^ s = ((n * 2 ^ s : Nat) : Int) := by rw [← c]; norm_cast
  rw [e, bt_nat (by omega), bt_nat (by omega), Int.toNat_natCast, Int.toNat_natCast, ← Nat.shiftLeft_eq, Nat.testBit_shiftLeft]
theorem bt_big {x : Int} {k i : Nat} (hx : 0 ≤ x) (h : x < 2 ^ k) (hi : k ≤ i) : bt x i = false := by
  rw [bt_nat hx]
  apply Nat.testBit_lt_two_pow
  have c := PySem.W.kbt_cast k
  have := Nat.pow_le_pow_right (n := 2) (by decide) hi
  omega
theorem bt_zero (i : Nat) : bt 0 i = false := by simp [bt]
theorem bt_some {x : Int} {k : Nat} (hx : 0 < x) (h : x < 2 ^ k) : ∃ i, i < k ∧ bt x i = true := by
  obtain ⟨i, hi⟩ := Nat.exists_testBit_of_ne_zero (x := x.toNat) (by omega)
  rw [← bt_nat (by omega)] at hi
  refine ⟨i, ?_, hi⟩
  apply Classical.byContradiction
  intro c
  rw [bt_big (by omega) h (by omega)] at hi
  cases hi
/-! ### numbers of a mask, just so -/
def bitsL (x : Int) (k : Nat) : List Int := ((List.range k).filter fun i => bt x i).map fun i : Nat => (i : Int)
theorem bitsL_succ (x : Int) (k : Nat) : bitsL x (k + 1) = bitsL x k ++ if bt x k = true then [(k : Int)] else [] := by
  unfold bitsL
  rw [List.range_succ, List.filter_append, List.map_append]
  congr 1
  by_cases h : bt x k = true <;> simp [h]
theorem bitsL_stop {x : Int} {n : Nat} (h : ∀ i, n ≤ i → bt x i = false) : ∀ m, bitsL x (n + m) = bitsL x n
  | 0 => rfl
  | m + 1 => by
    rw [← Nat.add_assoc, bitsL_succ, h (n + m) (by omega), bitsL_stop h m]
    simp
theorem bitsL_len (x : Int) (k : Nat) : (bitsL x k).length ≤ k := by
  unfold bitsL
  rw [List.length_map]
  exact Nat.le_trans (List.length_filter_le ..) (by simp)
theorem mem_bitsL {x : Int} {k : Nat} {i : Int} : i ∈ bitsL x k ↔ ∃ n : Nat, i = n ∧ n < k ∧ bt x n = true := by
  unfold bitsL
  simp only [List.mem_map, List.mem_filter, List.mem_range]
  constructor
  · rintro ⟨n, ⟨h1, h2⟩, rfl⟩
    exact ⟨n, rfl, h1, h2⟩
  · rintro ⟨n, rfl, h1, h2⟩
    exact ⟨n, ⟨h1, h2⟩, rfl⟩
theorem numbers_eq {x : Int} {k : Nat} (h0 : 0 ≤ x) (h : x < 2 ^ k) (hk : k ≤ 2000) : m_numbers_in [.int x] = some (.lst (intD (bitsL x k))) := by
  obtain ⟨ρ', e, n, rfl, hn, hz⟩ := while_ind (t := asB (dOp opGt (dOp opShr (dVar 0) (dVar 2)) (dC (.int 0)))) (B := sSeq (sIf (asB (dOp opEq (dOp opAnd (dOp opShr (dVar 0) (dVar 2)) (dC (.int 1))) (dC (.int 1)))) (sApp 1 (dVar 2)) sNil) (sAsg (dOp opAdd (dVar 2) (dC (.int 1))) (tgN 2)))
    (fun m ρ => ∃ n : Nat, n + m = k ∧ ρ = [.val (.int x), .own (intD (bitsL x n)), .val (.int n)]) (fun ρ => ∃ n : Nat, ρ = [.val (.int x), .own (intD (bitsL x n)), .val (.int n)] ∧ n ≤ k ∧ x / 2 ^ n = 0) (by
      rintro m ρ ⟨n, hm, rfl⟩
      have hp : (0 : Int) < 2 ^ n := PySem.W.kbt_pos n
      by_cases z : x / 2 ^ n > 0
      · right
        have hn : n < k := by
          apply Classical.byContradiction
          intro c
          rw [pow_div0 h0 h (by omega)] at z
          omega
        have hl : (intD (bitsL x n)).length ≤ 100000 := by
          have := bitsL_len x n
          simp only [intD, List.length_map]
          omega
        have b := bA_bt x n
        refine ⟨m - 1, [.val (.int x), .own (intD (bitsL x (n + 1))), .val (.int (n + 1 : Nat))], by omega, by simp [z], ?_, n + 1, by omega, rfl⟩
        rw [bitsL_succ]
        by_cases y : bt x n = true
        · rw [if_pos y] at b
          have hl' : (bitsL x n).length ≤ 100000 := by simpa [intD] using hl
          simp [sApp, b, hl', apD, y, intD]
        · rw [if_neg y] at b
          simp [b, apD, y, intD]
      · left
        have : 0 ≤ x / 2 ^ n := Int.ediv_nonneg h0 (Int.le_of_lt hp)
        exact ⟨by simp [z], n, rfl, by omega, by omega⟩) k [.val (.int x), .own [], .val (.int (0 : Nat))] 100000 ⟨0, by omega, rfl⟩ (by omega)
  have st : bitsL x k = bitsL x n := by
    have := bitsL_stop (x := x) (n := n) (fun i hi => by
      unfold bt
      have q : x / 2 ^ i = 0 := by
        have e : (2 : Int) ^ i = 2 ^ n * 2 ^ (i - n) := by rw [← Int.pow_add]; congr 1; omega
        rw [e, ← Int.ediv_ediv_of_nonneg (Int.le_of_lt (PySem.W.kbt_pos n)), hz]
        simp
      rw [q]
      decide) (k - n)
    rwa [show n + (k - n) = k by omega] at this
  have e' : sWhile 100000 (asB (dOp opGt (dOp opShr (dVar 0) (dVar 2)) (dC (.int 0)))) (sSeq (sIf (asB (dOp opEq (dOp opAnd (dOp opShr (dVar 0) (dVar 2)) (dC (.int 1))) (dC (.int 1)))) (sApp 1 (dVar 2)) sNil) (sAsg (dOp opAdd (dVar 2) (dC (.int 1))) (tgN 2))) [.val (.int x), .own [], .val (.int 0)] = some (.nx [.val (.int x), .own (intD (bitsL x n)), .val (.int n)]) := e
  rw [st]
  unfold m_numbers_in m_numbers_in_b
  simp [startD, apD, e', sRetO, List.replicate]
/-! ### times of a row, just so -/
theorem times_eq {mm hh mo : Int} {dm wm : D} (m0 : 0 ≤ mm) (m1 : mm < 2 ^ 60) (h0 : 0 ≤ hh) (h1 : hh < 2 ^ 24) : ∃ t, m_Row_times [rowD mm hh dm mo wm] = some (.int t) ∧ 0 ≤ t ∧ t < 2 ^ 1440 ∧ ∀ i, bt t i = (bt hh (i / 60) && bt mm (i % 60)) := by
  have e := numbers_eq h0 h1 (by decide)
  obtain ⟨ρ', ef, qs, t, x, hq, _, rfl, t0, t1, tb⟩ := for_ind (T := tgN 2) (B := sAsg (dOp opOr (dVar 1) (dOp opShl (dFld at_minute_mask (dVar 0)) (dOp opMul (dC k_MINUTES_rows) (dVar 2)))) (tgN 1))
    (fun ds ρ => ∃ (qs : List Int) (t : Int) (x : S3), ds = intD qs ∧ (∀ q ∈ qs, 0 ≤ q ∧ q < 24) ∧ ρ = [.val (rowD mm hh dm mo wm), .val (.int t), x] ∧ 0 ≤ t ∧ t < 2 ^ 1440 ∧ ∀ i : Nat, (bt t i || qs.any fun q => decide (((i / 60 : Nat) : Int) = q) && bt mm (i % 60)) = (bitsL hh 24).any fun q => decide (((i / 60 : Nat) : Int) = q) && bt mm (i % 60)) (by
      rintro d ds ρ ⟨qs, t, x, hq, hr, rfl, t0, t1, tb⟩
      cases qs with
      | nil => cases hq
      | cons i qs =>
        obtain ⟨rfl, rfl⟩ := List.cons.inj hq
        obtain ⟨i0, i1⟩ := hr i (List.mem_cons_self ..)
        obtain ⟨s0, s1⟩ := shl_rng m0 m1 i0 i1
        obtain ⟨r0, r1⟩ := or_rng (k := 1440) t0 s0 t1 s1
        refine ⟨_, [.val (rowD mm hh dm mo wm), .val (.int (bO t (mm * 2 ^ (60 * i).toNat))), .val (.int i)], rfl, ?_, qs, _, _, rfl, fun q hq' => hr q (List.mem_cons_of_mem _ hq'), rfl, r0, r1, fun j => ?_⟩
        · have a1 : (0 : Int) ≤ 60 * i := by omega
          have a2 : 60 * i ≤ 1000000 := by omega
          have a3 : mm.natAbs < 18446744073709551616 := by omega
          simp [apD, at_minute_mask, a1, a2, a3]
        · rw [← tb j, bt_or t0 s0, bt_shl m0, List.any_cons, Bool.or_assoc]
          congr 1
          congr 1
          by_cases z : ((j / 60 : Nat) : Int) = i
          · have q1 : (60 * i).toNat ≤ j := by omega
            have q2 : j - (60 * i).toNat = j % 60 := by omega
            simp [z, q1, q2]
          · have z2 : ¬ ((j : Int) / 60 = i) := by omega
            by_cases y : (60 * i).toNat ≤ j
            · rw [bt_big m0 m1 (show 60 ≤ j - (60 * i).toNat by omega)]
              simp [z2]
            · simp [z2, y]) (intD (bitsL hh 24)) [.val (rowD mm hh dm mo wm), .val (.int 0), .un] ⟨bitsL hh 24, 0, .un, rfl, fun q hq => by
        obtain ⟨n, rfl, h, _⟩ := mem_bitsL.mp hq
        omega, rfl, Int.le_refl _, PySem.W.kbt_pos _, fun i => by simp [bt_zero]⟩
  cases qs with
  | cons _ _ => cases hq
  | nil =>
    refine ⟨t, ?_, t0, t1, fun i => ?_⟩
    · unfold m_Row_times m_Row_times_b
      simp [startD, apD, itE, at_hour_mask, e, ef]
    · have := tb i
      rw [List.any_nil, Bool.or_false] at this
      rw [this]
      by_cases z : bt hh (i / 60) = true
      · have hi : i / 60 < 24 := by
          apply Classical.byContradiction
          intro c
          rw [bt_big h0 h1 (by omega)] at z
          cases z
        rw [z, Bool.true_and]
        by_cases y : bt mm (i % 60) = true
        · rw [y]
          exact List.any_eq_true.mpr ⟨((i / 60 : Nat) : Int), mem_bitsL.mpr ⟨i / 60, rfl, hi, z⟩, by simp [y]⟩
        · have y' : bt mm (i % 60) = false := by simpa using y
          rw [y']
          simp
      · have z' : bt hh (i / 60) = false := by simpa using z
        rw [z', Bool.false_and]
        apply List.any_eq_false.mpr
        intro q hq
        obtain ⟨n, rfl, _, hn⟩ := mem_bitsL.mp hq
        have : i / 60 ≠ n := fun e => by rw [e, hn] at z'; cases z'
        simp
        intro e
        omega
end DL
set_option maxRecDepth 100000
set_option exponentiation.threshold 2000
namespace DL
open PySem L2
/-! ### what shuts a moment -/
/-- a row's fields -/
structure RowF (d : D) (mm hh mo : Int) (dm wm : D) : Prop where
  ok : RowOk d
  eq : d = rowD mm hh dm mo wm
  m0 : 0 < mm
  m1 : mm < 2 ^ 60
  h0 : 0 < hh
  h1 : hh < 2 ^ 24
  o0 : 0 < mo
  o1 : mo < 2 ^ 13
  ev : mo % 2 = 0
theorem RowOk.f {d : D} (h : RowOk d) : ∃ mm hh mo dm wm, RowF d mm hh mo dm wm := by
  obtain ⟨mm, hh, mo, dm, wm, e, _, a2, _, a4, _, _⟩ := h.ex
  obtain ⟨b1, b2, b3, b4, b5⟩ := h.mx mm hh mo dm wm e
  exact ⟨mm, hh, mo, dm, wm, h, e, b1, a2, b2, a4, b3, b4, b5⟩
theorem parted_ok (x : Int) : m_parted [.int x] = some (.tup [.int (x / 1440), .int (x % 1440 / 60), .int (x % 1440 % 60)]) := by
  unfold m_parted m_parted_b
  simp [startD, apD, bDivmod]
/-- the kind of a day's month -/
noncomputable def kdN (n : Int) : Nat := kindN (yOf n) (mOf n)
theorem m12 (n : Int) : 1 ≤ mOf n ∧ mOf n ≤ 12 := ⟨(date_is n).m1, (date_is n).m12⟩
theorem kdN_lt (n : Int) : kdN n < 91 := kindN_lt (m12 n)
theorem mon_kd (n : Int) : mon (kdN n) = (mOf n, lastM (yOf n) (mOf n), (dB (yOf n) + cumM (yOf n) (mOf n) + 6) % 7) := mon_kind (m12 n)
/-- month told, day told -/
noncomputable def moT (mo : Int) (n : Int) : Bool := bt mo (mOf n).toNat
noncomputable def daT (d : D) (n : Int) : Bool := bt (dayN d (kdN n)) (dOf n).toNat
noncomputable def shutW (d : D) (mm hh mo : Int) (x : Int) : Option Str :=
  if moT mo (x / 1440) = false then some "month" else if daT d (x / 1440) = false then some "day" else if bt hh (x % 1440 / 60).toNat = false then some "hour" else if bt mm (x % 1440 % 60).toNat = false then some "minute" else none
def sD : Option Str → D
  | some s => .str s
  | none => .non
theorem shut_ok {d : D} {mm hh mo : Int} {dm wm : D} (F : RowF d mm hh mo dm wm) (x : Int) : m_Row_shut_by [d, .int x] = some (sD (shutW d mm hh mo x)) := by
  have e := date_eq (x / 1440)
  have hm := m12 (x / 1440)
  have hd := (date_is (x / 1440)).d1
  have ki := kind_of_ok (y := yOf (x / 1440)) hm
  have di := F.ok.days (kdN_lt (x / 1440))
  have b1 := bA_bt mo (mOf (x / 1440)).toNat
  have b2 := bA_bt (dayN d (kdN (x / 1440))) (dOf (x / 1440)).toNat
  have b3 := bA_bt hh (x % 1440 / 60).toNat
  have b4 := bA_bt mm (x % 1440 % 60).toNat
  have g1 : 0 ≤ mOf (x / 1440) := by omega
  have g2 : 0 ≤ dOf (x / 1440) := by omega
  have g3 : 0 ≤ x % 1440 / 60 := by omega
  have g4 : 0 ≤ x % 1440 % 60 := by omega
  have pd := parted_ok x
  have hk : ((kdN (x / 1440) : Nat) : Int) = kindN (yOf (x / 1440)) (mOf (x / 1440)) := rfl
  rw [← hk] at ki
  have e0 := F.eq
  unfold shutW moT daT
  generalize hmb : bt mo (mOf (x / 1440)).toNat = B1 at *
  generalize bt (dayN d (kdN (x / 1440))) (dOf (x / 1440)).toNat = B2 at *
  generalize bt hh (x % 1440 / 60).toNat = B3 at *
  generalize bt mm (x % 1440 % 60).toNat = B4 at *
  generalize x % 1440 / 60 = hr at *
  generalize x % 1440 % 60 = mi at *
  generalize mOf (x / 1440) = M at *
  generalize yOf (x / 1440) = Y at *
  generalize dOf (x / 1440) = T at *
  generalize dayN d (kdN (x / 1440)) = N at *
  generalize ((kdN (x / 1440) : Nat) : Int) = kk at *
  generalize x / 1440 = n at *
  subst e0
  unfold m_Row_shut_by m_Row_shut_by_b
  cases B1 with
  | false => simp [startD, apD, pd, e, at_month_mask, g1, b1, sD]
  | true =>
    cases B2 with
    | false => simp [startD, apD, pd, e, at_month_mask, g1, b1, t_days_in, ki, di, g2, b2, sD]
    | true =>
      cases B3 with
      | false => simp [startD, apD, pd, e, at_month_mask, at_hour_mask, g1, b1, t_days_in, ki, di, g2, b2, g3, b3, sD]
      | true =>
        cases B4 with
        | false => simp [startD, apD, pd, e, at_month_mask, at_hour_mask, at_minute_mask, g1, b1, t_days_in, ki, di, g2, b2, g3, b3, g4, b4, sD]
        | true => simp [startD, apD, pd, e, at_month_mask, at_hour_mask, at_minute_mask, g1, b1, t_days_in, ki, di, g2, b2, g3, b3, g4, b4, sD]
/-- holds -/
noncomputable def hlW (d : D) (mm hh mo : Int) (x : Int) : Bool := moT mo (x / 1440) && (daT d (x / 1440) && (bt hh (x % 1440 / 60).toNat && bt mm (x % 1440 % 60).toNat))
theorem shut_none {d : D} {mm hh mo x : Int} : shutW d mm hh mo x = none ↔ hlW d mm hh mo x = true := by
  unfold shutW hlW
  cases moT mo (x / 1440) <;> cases daT d (x / 1440) <;> cases bt hh (x % 1440 / 60).toNat <;> cases bt mm (x % 1440 % 60).toNat <;> simp
theorem row_holds_ok {d : D} {mm hh mo : Int} {dm wm : D} (F : RowF d mm hh mo dm wm) (x : Int) : m_Row_holds [d, .int x] = some (.bl (hlW d mm hh mo x)) := by
  have e := shut_ok F x
  have h : isNon (sD (shutW d mm hh mo x)) = some (hlW d mm hh mo x) := by
    have q := shut_none (d := d) (mm := mm) (hh := hh) (mo := mo) (x := x)
    cases z : shutW d mm hh mo x with
    | none => rw [z] at q; rw [q.mp rfl]; rfl
    | some s =>
      have : hlW d mm hh mo x = false := by
        cases y : hlW d mm hh mo x with
        | false => rfl
        | true => rw [q.mpr y] at z; cases z
      rw [this]
      rfl
  have e0 := F.eq
  generalize sD (shutW d mm hh mo x) = w at *
  generalize hlW d mm hh mo x = b at *
  subst e0
  unfold m_Row_holds m_Row_holds_b
  simp [startD, t_shut_by, e, h]
theorem is_in_ok {m i : Int} (h : 0 ≤ i) : m_is_in [.int m, .int i] = some (.bl (bt m i.toNat)) := by
  have b := bA_bt m i.toNat
  unfold m_is_in m_is_in_b
  by_cases z : bt m i.toNat = true
  · rw [if_pos z] at b
    simp [startD, h, b, z]
  · rw [if_neg z] at b
    simp [startD, h, b, z]
end DL
set_option maxRecDepth 100000
set_option exponentiation.threshold 2000
namespace DL
open PySem L2
/-! ### leaps -/
def F1 (y m : Int) : Int := dB y + cumM y m
theorem in_month {n y m : Int} (h : 1 ≤ m ∧ m ≤ 12) (h1 : F1 y m ≤ n) (h2 : n < F1 y m + lastM y m) : yOf n = y ∧ mOf n = m ∧ dOf n = n - F1 y m + 1 :=
  of_date ⟨h.1, h.2, by omega, by omega, by unfold F1; omega⟩
theorem next_month {y m : Int} (h : 1 ≤ m ∧ m < 12) : F1 y (m + 1) = F1 y m + lastM y m := by
  have := cum_succ y (m := m) (by omega)
  unfold F1
  omega
theorem next_year (y : Int) : F1 (y + 1) 1 = F1 y 12 + lastM y 12 := by
  have h1 := cum_succ y (m := 12) (by omega)
  have h2 := cum_13 y
  have h3 := cum_1 (y + 1)
  have h4 := dB_succ y
  have e : (12 : Int) + 1 = 13 := rfl
  rw [e] at h1
  unfold F1
  omega
theorem date_F1 (n : Int) : F1 (yOf n) (mOf n) ≤ n ∧ n < F1 (yOf n) (mOf n) + lastM (yOf n) (mOf n) ∧ dOf n = n - F1 (yOf n) (mOf n) + 1 := by
  have h := date_is n
  have := h.d1
  have := h.dl
  have := h.eq
  unfold F1
  omega
theorem bt_even {x : Int} (h : x % 2 = 0) : bt x 0 = false := by
  unfold bt
  simp
  omega
section
variable {d : D} {mm hh mo : Int} {dm wm : D} (F : RowF d mm hh mo dm wm)
include F
theorem some_month : ∃ i : Nat, 1 ≤ i ∧ i ≤ 12 ∧ bt mo i = true := by
  obtain ⟨i, h1, h2⟩ := bt_some F.o0 F.o1
  refine ⟨i, ?_, by omega, h2⟩
  apply Classical.byContradiction
  intro c
  have : i = 0 := by omega
  subst this
  rw [bt_even F.ev] at h2
  cases h2
theorem months_m : m_Row_months [d] = some (.int mo) := by
  rw [F.eq]
  unfold m_Row_months m_Row_months_b
  simp [startD, at_month_mask]
theorem hours_m : m_Row_hours [d] = some (.int hh) := by
  rw [F.eq]
  unfold m_Row_hours m_Row_hours_b
  simp [startD, at_hour_mask]
theorem minutes_m : m_Row_minutes [d] = some (.int mm) := by
  rw [F.eq]
  unfold m_Row_minutes m_Row_minutes_b
  simp [startD, at_minute_mask]
theorem month_open_ok (x : Int) : ∃ r, m_month_open [d, .int x] = some (.int r) ∧ (moT mo (x / 1440) = true → r = x) ∧ (moT mo (x / 1440) = false → x < r ∧ r % 1440 = 0 ∧ moT mo (r / 1440) = true ∧ ∀ n, x / 1440 ≤ n → n < r / 1440 → moT mo n = false) := by
  have e := date_eq (x / 1440)
  have hm := m12 (x / 1440)
  have hd := date_F1 (x / 1440)
  have pd := parted_ok x
  have mt := months_m F
  have i0 : ∀ a b c : D, L2.atI [a, b, c] 0 = some a := fun _ _ _ => rfl
  have e0 := F.eq
  by_cases z : moT mo (x / 1440) = true
  · refine ⟨x, ?_, fun _ => rfl, fun h => by rw [z] at h; cases h⟩
    have b := is_in_ok (m := mo) (i := mOf (x / 1440)) (by omega)
    have z' : bt mo (mOf (x / 1440)).toNat = true := z
    rw [z'] at b
    subst e0
    unfold m_month_open m_month_open_b
    simp [startD, apD, pd, opIx, i0, e, t_months, mt, b]
  · have zf : moT mo (x / 1440) = false := by simpa using z
    obtain ⟨i, i1, i12, hi⟩ := some_month F
    obtain ⟨ρ', ew, y, m, rfl, h1, h2, h3, h4, h5⟩ := while_ind (t := dNotT (asB (dCall 2 m_is_in (aCons (dMeth 0 t_months (dVar 0) aNil) (aCons (dVar 3) aNil)))))
      (B := sSeq (sAsg (dOp opAdd (dVar 3) (dC (.int 1))) (tgN 3)) (sIf (asB (dOp opGt (dVar 3) (dC (.int 12)))) (sSeq (sAsg (dOp opAdd (dVar 2) (dC (.int 1))) (tgN 2)) (sAsg (dC (.int 1)) (tgN 3))) sNil))
      (fun j ρ => ∃ y m : Int, ρ = [.val d, .val (.int x), .val (.int y), .val (.int m), .val (.int (dOf (x / 1440)))] ∧ 1 ≤ m ∧ m ≤ 12 ∧ j = (((i : Int) - m) % 12).toNat ∧ (∀ n, x / 1440 ≤ n → n < F1 y m → moT mo n = false) ∧ ((y = yOf (x / 1440) ∧ m = mOf (x / 1440)) ∨ x / 1440 < F1 y m))
      (fun ρ => ∃ y m : Int, ρ = [.val d, .val (.int x), .val (.int y), .val (.int m), .val (.int (dOf (x / 1440)))] ∧ 1 ≤ m ∧ m ≤ 12 ∧ bt mo m.toNat = true ∧ (∀ n, x / 1440 ≤ n → n < F1 y m → moT mo n = false) ∧ ((y = yOf (x / 1440) ∧ m = mOf (x / 1440)) ∨ x / 1440 < F1 y m)) (by
        rintro j ρ ⟨y, m, rfl, h1, h2, hj, h4, h5⟩
        have b := is_in_ok (m := mo) (i := m) (by omega)
        have ts : (dNotT (asB (dCall 2 m_is_in (aCons (dMeth 0 t_months (dVar 0) aNil) (aCons (dVar 3) aNil))))) [.val d, .val (.int x), .val (.int y), .val (.int m), .val (.int (dOf (x / 1440)))] = some (!bt mo m.toNat) := by
          rw [e0] at mt ⊢
          simp [t_months, mt, b]
        by_cases q : bt mo m.toNat = true
        · left
          refine ⟨by rw [ts, q]; rfl, y, m, rfl, h1, h2, q, h4, h5⟩
        · right
          have qf : bt mo m.toNat = false := by simpa using q
          have hne : m ≠ i := fun e => by
            subst e
            rw [Int.toNat_natCast, hi] at qf
            cases qf
          have hnew : ∀ n, x / 1440 ≤ n → n < F1 y m + lastM y m → moT mo n = false := fun n a1 a2 => by
            by_cases c : n < F1 y m
            · exact h4 n a1 c
            · obtain ⟨_, e2, _⟩ := in_month (y := y) ⟨h1, h2⟩ (by omega) a2
              unfold moT
              rw [e2]
              exact qf
          have hlt : x / 1440 < F1 y m + lastM y m := by
            rcases h5 with ⟨rfl, rfl⟩ | h5
            · exact hd.2.1
            · have := last_rng y (m := m)
              omega
          by_cases m12' : m = 12
          · subst m12'
            refine ⟨j - 1, [.val d, .val (.int x), .val (.int (y + 1)), .val (.int 1), .val (.int (dOf (x / 1440)))], by omega, by rw [ts, qf]; rfl, by simp [apD], y + 1, 1, rfl, by omega, by omega, by omega, ?_, ?_⟩
            · rw [next_year]; exact hnew
            · right; rw [next_year]; exact hlt
          · have g : ¬ (m + 1 > 12) := by omega
            refine ⟨j - 1, [.val d, .val (.int x), .val (.int y), .val (.int (m + 1)), .val (.int (dOf (x / 1440)))], by omega, by rw [ts, qf]; rfl, by simp [apD, g], y, m + 1, rfl, by omega, by omega, by omega, ?_, ?_⟩
            · rw [next_month (by omega)]; exact hnew
            · right; rw [next_month (by omega)]; exact hlt) (((i : Int) - mOf (x / 1440)) % 12).toNat [.val d, .val (.int x), .val (.int (yOf (x / 1440))), .val (.int (mOf (x / 1440))), .val (.int (dOf (x / 1440)))] 100000 ⟨_, _, rfl, hm.1, hm.2, rfl, fun n a1 a2 => by omega, .inl ⟨rfl, rfl⟩⟩ (by omega)
    have h5' : x / 1440 < F1 y m := by
      rcases h5 with ⟨rfl, rfl⟩ | h5
      · have : moT mo (x / 1440) = true := h3
        rw [this] at zf
        cases zf
      · exact h5
    have l := last_rng y (m := m)
    have dn := day_of_ok (y := y) (m := m) (d := 1) ⟨h1, h2⟩ (by omega)
    have e1 : dB y + cumM y m + 1 - 1 = F1 y m := by unfold F1; omega
    rw [e1] at dn
    have q1 : 1440 * F1 y m / 1440 = F1 y m := by omega
    refine ⟨1440 * F1 y m, ?_, (fun h => by rw [h] at zf; cases zf), fun _ => ⟨by omega, by omega, ?_, fun n a1 a2 => h4 n a1 (by omega)⟩⟩
    · have b := is_in_ok (m := mo) (i := mOf (x / 1440)) (by omega)
      have z' : bt mo (mOf (x / 1440)).toNat = false := zf
      rw [z'] at b
      have ew' : sWhile 100000 (dNotT (asB (dCall 2 m_is_in (aCons (dMeth 0 t_months (dVar 0) aNil) (aCons (dVar 3) aNil))))) (sSeq (sAsg (dOp opAdd (dVar 3) (dC (.int 1))) (tgN 3)) (sIf (asB (dOp opGt (dVar 3) (dC (.int 12)))) (sSeq (sAsg (dOp opAdd (dVar 2) (dC (.int 1))) (tgN 2)) (sAsg (dC (.int 1)) (tgN 3))) sNil)) _ = _ := ew
      subst e0
      unfold m_month_open m_month_open_b
      simp [startD, apD, pd, opIx, i0, e, t_months, mt, b, ew', dn]
    · obtain ⟨_, e2, _⟩ := in_month (y := y) ⟨h1, h2⟩ (Int.le_refl _) (show F1 y m < _ by omega)
      rw [q1]
      unfold moT
      rw [e2]
      exact h3
/-- a day that is shut: the month told, the day not -/
noncomputable def shD (d : D) (mo n : Int) : Bool := moT mo n && !daT d n
theorem shut_day_ok (n : Int) : m_is_shut_day [d, .int n] = some (.bl (shD d mo n)) := by
  have e := date_eq n
  have hm := m12 n
  have hd := (date_is n).d1
  have ki := kind_of_ok (y := yOf n) hm
  have di := F.ok.days (kdN_lt n)
  have b1 := is_in_ok (m := mo) (i := mOf n) (by omega)
  have b2 := is_in_ok (m := dayN d (kdN n)) (i := dOf n) (by omega)
  have mt := months_m F
  have hk : ((kdN n : Nat) : Int) = kindN (yOf n) (mOf n) := rfl
  rw [← hk] at ki
  have e0 := F.eq
  unfold shD moT daT
  generalize bt mo (mOf n).toNat = B1 at *
  generalize bt (dayN d (kdN n)) (dOf n).toNat = B2 at *
  generalize dayN d (kdN n) = N at *
  generalize ((kdN n : Nat) : Int) = kk at *
  subst e0
  unfold m_is_shut_day m_is_shut_day_b
  cases B1 <;> simp [startD, apD, e, t_months, mt, b1, t_days_in, ki, di, b2]
theorem day_open_ok (x : Int) : ∃ r, m_day_open [d, .int x] = some (.int r) ∧ (shD d mo (x / 1440) = false → r = x) ∧ (shD d mo (x / 1440) = true → ∃ N, r = 1440 * N ∧ x / 1440 < N ∧ (∀ n, x / 1440 ≤ n → n < N → shD d mo n = true) ∧ (shD d mo N = false ∨ N = x / 1440 + 400)) := by
  have pd := parted_ok x
  have i0 : ∀ a b c : D, L2.atI [a, b, c] 0 = some a := fun _ _ _ => rfl
  have sd := shut_day_ok F
  by_cases z : shD d mo (x / 1440) = true
  · obtain ⟨ρ', ew, N, rfl, h1, h2, h3⟩ := while_ind (t := dAndT (asB (dOp opLt (dVar 2) (dVar 3))) (asB (dCall 2 m_is_shut_day (aCons (dVar 0) (aCons (dVar 2) aNil))))) (B := sAsg (dOp opAdd (dVar 2) (dC (.int 1))) (tgN 2))
      (fun j ρ => ∃ N : Int, ρ = [.val d, .val (.int x), .val (.int N), .val (.int (x / 1440 + 400))] ∧ x / 1440 ≤ N ∧ N = x / 1440 + 400 - j ∧ ∀ n, x / 1440 ≤ n → n < N → shD d mo n = true)
      (fun ρ => ∃ N : Int, ρ = [.val d, .val (.int x), .val (.int N), .val (.int (x / 1440 + 400))] ∧ x / 1440 ≤ N ∧ (∀ n, x / 1440 ≤ n → n < N → shD d mo n = true) ∧ (shD d mo N = false ∨ N = x / 1440 + 400)) (by
        rintro j ρ ⟨N, rfl, h1, h2, h3⟩
        by_cases q : N < x / 1440 + 400
        · by_cases w : shD d mo N = true
          · right
            refine ⟨j - 1, [.val d, .val (.int x), .val (.int (N + 1)), .val (.int (x / 1440 + 400))], by omega, by simp [q, sd, w], by simp [apD], N + 1, rfl, by omega, by omega, fun n a1 a2 => ?_⟩
            by_cases c : n = N
            · rw [c]; exact w
            · exact h3 n a1 (by omega)
          · left
            have wf : shD d mo N = false := by simpa using w
            exact ⟨by simp [q, sd, wf], N, rfl, h1, h3, .inl wf⟩
        · left
          exact ⟨by simp [q], N, rfl, h1, h3, .inr (by omega)⟩) 400 [.val d, .val (.int x), .val (.int (x / 1440)), .val (.int (x / 1440 + 400))] 100000 ⟨x / 1440, rfl, by omega, by omega, fun n a1 a2 => by omega⟩ (by omega)
    have hN : x / 1440 < N := by
      apply Classical.byContradiction
      intro c
      have : N = x / 1440 := by omega
      subst this
      rcases h3 with h3 | h3
      · rw [z] at h3; cases h3
      · omega
    refine ⟨1440 * N, ?_, (fun h => by rw [h] at z; cases z), fun _ => ⟨N, rfl, hN, h2, h3⟩⟩
    have ew' : sWhile 100000 (dAndT (asB (dOp opLt (dVar 2) (dVar 3))) (asB (dCall 2 m_is_shut_day (aCons (dVar 0) (aCons (dVar 2) aNil))))) (sAsg (dOp opAdd (dVar 2) (dC (.int 1))) (tgN 2)) _ = _ := ew
    unfold m_day_open m_day_open_b
    simp [startD, apD, pd, opIx, i0, sd, z, ew']
  · have zf : shD d mo (x / 1440) = false := by simpa using z
    refine ⟨x, ?_, fun _ => rfl, (fun h => by rw [h] at zf; cases zf)⟩
    unfold m_day_open m_day_open_b
    simp [startD, apD, pd, opIx, i0, sd, zf]
theorem hour_open_ok (x : Int) : ∃ r, m_hour_open [d, .int x] = some (.int r) ∧ (bt hh (x % 1440 / 60).toNat = true → r = x) ∧ (bt hh (x % 1440 / 60).toNat = false → ∃ on : Int, r = x - x % 60 + 60 * on ∧ 1 ≤ on ∧ on ≤ 24 ∧ bt hh ((x % 1440 / 60 + on) % 24).toNat = true ∧ ∀ j : Int, 1 ≤ j → j < on → bt hh ((x % 1440 / 60 + j) % 24).toNat = false) := by
  have pd := parted_ok x
  have ht := hours_m F
  have e0 := F.eq
  have hg : 0 ≤ x % 1440 / 60 ∧ x % 1440 / 60 < 24 := by omega
  have hq : x % 1440 % 60 = x % 60 := by omega
  rw [hq] at pd
  generalize x % 1440 / 60 = H at *
  by_cases z : bt hh H.toNat = true
  · refine ⟨x, ?_, fun _ => rfl, (fun h => by rw [h] at z; cases z)⟩
    have b := is_in_ok (m := hh) (i := H) hg.1
    rw [z] at b
    subst e0
    unfold m_hour_open m_hour_open_b
    simp [startD, apD, pd, t_hours, ht, b]
  · have zf : bt hh H.toNat = false := by simpa using z
    obtain ⟨i, i1, hi⟩ := bt_some F.h0 F.h1
    obtain ⟨ρ', ew, on, rfl, h1, h2, h3, h4⟩ := while_ind (t := dNotT (asB (dCall 2 m_is_in (aCons (dMeth 0 t_hours (dVar 0) aNil) (aCons (dOp opMod (dOp opAdd (dVar 3) (dVar 5)) (dC (.int 24))) aNil))))) (B := sAsg (dOp opAdd (dVar 5) (dC (.int 1))) (tgN 5))
      (fun j ρ => ∃ on : Int, ρ = [.val d, .val (.int x), .val (.int (x / 1440)), .val (.int H), .val (.int (x % 60)), .val (.int on)] ∧ 1 ≤ on ∧ on ≤ 24 ∧ j = (((i : Int) - H - on) % 24).toNat ∧ on + j ≤ 24 ∧ ∀ j : Int, 1 ≤ j → j < on → bt hh ((H + j) % 24).toNat = false)
      (fun ρ => ∃ on : Int, ρ = [.val d, .val (.int x), .val (.int (x / 1440)), .val (.int H), .val (.int (x % 60)), .val (.int on)] ∧ 1 ≤ on ∧ on ≤ 24 ∧ bt hh ((H + on) % 24).toNat = true ∧ ∀ j : Int, 1 ≤ j → j < on → bt hh ((H + j) % 24).toNat = false) (by
        rintro j ρ ⟨on, rfl, h1, h2, hj, hs, h4⟩
        have b := is_in_ok (m := hh) (i := (H + on) % 24) (by omega)
        have ts : (dNotT (asB (dCall 2 m_is_in (aCons (dMeth 0 t_hours (dVar 0) aNil) (aCons (dOp opMod (dOp opAdd (dVar 3) (dVar 5)) (dC (.int 24))) aNil))))) [.val d, .val (.int x), .val (.int (x / 1440)), .val (.int H), .val (.int (x % 60)), .val (.int on)] = some (!bt hh ((H + on) % 24).toNat) := by
          rw [e0] at ht ⊢
          simp [t_hours, ht, b]
        by_cases q : bt hh ((H + on) % 24).toNat = true
        · left
          exact ⟨by rw [ts, q]; rfl, on, rfl, h1, h2, q, h4⟩
        · right
          have qf : bt hh ((H + on) % 24).toNat = false := by simpa using q
          have hne : (H + on) % 24 ≠ i := fun e => by
            rw [e, Int.toNat_natCast, hi] at qf
            cases qf
          refine ⟨j - 1, [.val d, .val (.int x), .val (.int (x / 1440)), .val (.int H), .val (.int (x % 60)), .val (.int (on + 1))], by omega, by rw [ts, qf]; rfl, by simp [apD], on + 1, rfl, by omega, by omega, by omega, by omega, fun k a1 a2 => ?_⟩
          by_cases c : k = on
          · rw [c]; exact qf
          · exact h4 k a1 (by omega)) (((i : Int) - H - 1) % 24).toNat [.val d, .val (.int x), .val (.int (x / 1440)), .val (.int H), .val (.int (x % 60)), .val (.int 1)] 100000 ⟨1, rfl, by omega, by omega, rfl, by omega, fun k a1 a2 => by omega⟩ (by omega)
    refine ⟨x - x % 60 + 60 * on, ?_, (fun h => by rw [h] at zf; cases zf), fun _ => ⟨on, rfl, h1, h2, h3, h4⟩⟩
    have b := is_in_ok (m := hh) (i := H) hg.1
    rw [zf] at b
    have ew' : sWhile 100000 (dNotT (asB (dCall 2 m_is_in (aCons (dMeth 0 t_hours (dVar 0) aNil) (aCons (dOp opMod (dOp opAdd (dVar 3) (dVar 5)) (dC (.int 24))) aNil))))) (sAsg (dOp opAdd (dVar 5) (dC (.int 1))) (tgN 5)) _ = _ := ew
    subst e0
    unfold m_hour_open m_hour_open_b
    simp [startD, apD, pd, t_hours, ht, b, ew']
theorem minute_open_ok (x : Int) : ∃ on : Int, m_minute_open [d, .int x] = some (.int (x + on)) ∧ 0 ≤ on ∧ on < 60 ∧ bt mm ((x + on) % 60).toNat = true ∧ ∀ j : Int, 0 ≤ j → j < on → bt mm ((x + j) % 60).toNat = false := by
  have pd := parted_ok x
  have ht := minutes_m F
  have e0 := F.eq
  have hq : x % 1440 % 60 = x % 60 := by omega
  have i2 : ∀ a b c : D, L2.atI [a, b, c] 2 = some c := fun _ _ _ => rfl
  have em : ∀ j : Int, (x % 60 + j) % 60 = (x + j) % 60 := fun j => by omega
  rw [hq] at pd
  obtain ⟨i, i1, hi⟩ := bt_some F.m0 F.m1
  obtain ⟨ρ', ew, on, rfl, h1, h2, h3, h4⟩ := while_ind (t := dNotT (asB (dCall 2 m_is_in (aCons (dMeth 0 t_minutes (dVar 0) aNil) (aCons (dOp opMod (dOp opAdd (dVar 2) (dVar 3)) (dC (.int 60))) aNil))))) (B := sAsg (dOp opAdd (dVar 3) (dC (.int 1))) (tgN 3))
    (fun j ρ => ∃ on : Int, ρ = [.val d, .val (.int x), .val (.int (x % 60)), .val (.int on)] ∧ 0 ≤ on ∧ j = (((i : Int) - x - on) % 60).toNat ∧ on + j < 60 ∧ ∀ j : Int, 0 ≤ j → j < on → bt mm ((x + j) % 60).toNat = false)
    (fun ρ => ∃ on : Int, ρ = [.val d, .val (.int x), .val (.int (x % 60)), .val (.int on)] ∧ 0 ≤ on ∧ on < 60 ∧ bt mm ((x + on) % 60).toNat = true ∧ ∀ j : Int, 0 ≤ j → j < on → bt mm ((x + j) % 60).toNat = false) (by
      rintro j ρ ⟨on, rfl, h1, hj, hs, h4⟩
      have b := is_in_ok (m := mm) (i := (x + on) % 60) (by omega)
      have ts : (dNotT (asB (dCall 2 m_is_in (aCons (dMeth 0 t_minutes (dVar 0) aNil) (aCons (dOp opMod (dOp opAdd (dVar 2) (dVar 3)) (dC (.int 60))) aNil))))) [.val d, .val (.int x), .val (.int (x % 60)), .val (.int on)] = some (!bt mm ((x + on) % 60).toNat) := by
        rw [e0] at ht ⊢
        simp [t_minutes, ht, em, b]
      by_cases q : bt mm ((x + on) % 60).toNat = true
      · left
        exact ⟨by rw [ts, q]; rfl, on, rfl, h1, by omega, q, h4⟩
      · right
        have qf : bt mm ((x + on) % 60).toNat = false := by simpa using q
        have hne : (x + on) % 60 ≠ i := fun e => by
          rw [e, Int.toNat_natCast, hi] at qf
          cases qf
        refine ⟨j - 1, [.val d, .val (.int x), .val (.int (x % 60)), .val (.int (on + 1))], by omega, by rw [ts, qf]; rfl, by simp [apD], on + 1, rfl, by omega, by omega, by omega, fun k a1 a2 => ?_⟩
        by_cases c : k = on
        · rw [c]; exact qf
        · exact h4 k a1 (by omega)) (((i : Int) - x - 0) % 60).toNat [.val d, .val (.int x), .val (.int (x % 60)), .val (.int 0)] 100000 ⟨0, rfl, by omega, rfl, by omega, fun k a1 a2 => by omega⟩ (by omega)
  refine ⟨on, ?_, h1, h2, h3, h4⟩
  have ew' : sWhile 100000 (dNotT (asB (dCall 2 m_is_in (aCons (dMeth 0 t_minutes (dVar 0) aNil) (aCons (dOp opMod (dOp opAdd (dVar 2) (dVar 3)) (dC (.int 60))) aNil))))) (sAsg (dOp opAdd (dVar 3) (dC (.int 1))) (tgN 3)) _ = _ := ew
  unfold m_minute_open m_minute_open_b
  simp [startD, apD, pd, opIx, i2, ew']
end
end DL
set_option maxRecDepth 100000
set_option exponentiation.threshold 2000
namespace DL
open PySem L2
/-! ### months in a row -/
noncomputable def mi (n : Int) : Int := 12 * yOf n + mOf n
theorem mi_mono {a b : Int} (h : a ≤ b) : mi a ≤ mi b := by
  have ha := date_is a
  have hb := date_is b
  have ya := ha.in_year
  have yb := hb.in_year
  have ma := m12 a
  have mb := m12 b
  unfold mi
  by_cases h1 : yOf a < yOf b
  · omega
  · have hy : yOf a = yOf b := by
      apply Classical.byContradiction
      intro c
      have := dB_mono (a := yOf b + 1) (b := yOf a) (by omega)
      omega
    by_cases h2 : mOf a ≤ mOf b
    · omega
    · have c := cum_mono (yOf b) (a := mOf b + 1) (b := mOf a) (by omega) (by omega) (by omega)
      have s := cum_succ (yOf b) mb
      have e1 := ha.eq
      have e2 := hb.eq
      have := ha.d1
      have := hb.dl
      rw [hy] at e1
      omega
theorem mi_inj {a b : Int} (h : mi a = mi b) : yOf a = yOf b ∧ mOf a = mOf b := by
  have := m12 a
  have := m12 b
  unfold mi at h
  omega
theorem kinds_all : ((List.range 91).all fun k => (List.range 400).any fun (y : Nat) => decide (kindI y (monI k).1 = k)) = true := by decide +kernel
theorem kindI_400 (y m : Int) (q : Nat) : kindI (y + 400 * q) m = kindI y m := by
  have e1 : isL (y + 400 * q) = isL y := by
    apply Bool.eq_iff_iff.mpr
    rw [isL_iff, isL_iff]
    omega
  have e2 : dB (y + 400 * q) = dB y + 146097 * q := by unfold dB; omega
  unfold kindI cumM
  rw [e1, e2]
  have : (dB y + 146097 * (q : Int) + (cumT m + if 2 < m ∧ isL y = true then 1 else 0) + 6) % 7 = (dB y + (cumT m + if 2 < m ∧ isL y = true then 1 else 0) + 6) % 7 := by omega
  rw [this]
/-- each kind comes again -/
theorem kind_later {k : Nat} (hk : k < 91) (y0 : Int) : ∃ y m : Int, y0 < y ∧ y ≤ y0 + 400 ∧ 1 ≤ m ∧ m ≤ 12 ∧ kindN y m = k := by
  obtain ⟨y, hy, h⟩ := List.any_eq_true.mp (List.all_eq_true.mp kinds_all k (List.mem_range.mpr hk))
  have h := of_decide_eq_true h
  have hy := List.mem_range.mp hy
  have hm : 1 ≤ (monI k).1 ∧ (monI k).1 ≤ 12 := by
    unfold monI
    split
    · exact ⟨by show (1:Int) ≤ 2; decide, by show (2:Int) ≤ 12; decide⟩
    · exact ⟨by show (1 : Int) ≤ ((k / 7 + 1 : Nat) : Int); omega, by show ((k / 7 + 1 : Nat) : Int) ≤ 12; omega⟩
  -- y + 400 q or y0 beyond
  have hr : ∃ Y : Int, y0 < Y ∧ Y ≤ y0 + 400 ∧ kindI Y (monI k).1 = k := by
    by_cases c : (y : Int) ≤ y0
    · refine ⟨y + 400 * ((((y0 - y) / 400 + 1).toNat : Nat) : Int), by omega, by omega, ?_⟩
      rw [kindI_400]
      exact h
    · refine ⟨y - 400 * (((((y : Int) - y0 - 1) / 400).toNat : Nat) : Int), by omega, by omega, ?_⟩
      have := kindI_400 (y - 400 * (((((y : Int) - y0 - 1) / 400).toNat : Nat) : Int)) (monI k).1 (((y : Int) - y0 - 1) / 400).toNat
      rw [← this]
      rw [show (y : Int) - 400 * (((((y : Int) - y0 - 1) / 400).toNat : Nat) : Int) + 400 * (((((y : Int) - y0 - 1) / 400).toNat : Nat) : Int) = y by omega]
      exact h
  obtain ⟨Y, h1, h2, h3⟩ := hr
  exact ⟨Y, (monI k).1, h1, h2, hm.1, hm.2, by unfold kindN; omega⟩
section
variable {d : D} {mm hh mo : Int} {dm wm : D} (F : RowF d mm hh mo dm wm)
include F
/-- an open day has a moment -/
theorem open_day {n : Int} (h1 : moT mo n = true) (h2 : daT d n = true) : ∃ y, y / 1440 = n ∧ hlW d mm hh mo y = true := by
  obtain ⟨h, i1, b1⟩ := bt_some F.h0 F.h1
  obtain ⟨m, i2, b2⟩ := bt_some F.m0 F.m1
  refine ⟨1440 * n + 60 * h + m, by omega, ?_⟩
  have e1 : (1440 * n + 60 * (h : Int) + m) / 1440 = n := by omega
  have e2 : (1440 * n + 60 * (h : Int) + m) % 1440 / 60 = h := by omega
  have e3 : (1440 * n + 60 * (h : Int) + m) % 1440 % 60 = m := by omega
  unfold hlW
  rw [e1, e2, e3, h1, h2, Int.toNat_natCast, Int.toNat_natCast, b1, b2]
  rfl
theorem some_day {k : Nat} (hk : k < 91) (h : dayN d k ≠ 0) (n0 : Int) : ∃ n, n0 < n ∧ mi n ≤ mi n0 + 4812 ∧ moT mo n = true ∧ daT d n = true := by
  obtain ⟨q0, q1, q2⟩ := F.ok.dm hk
  have hmk := month_ok hk
  obtain ⟨i, hi, hb⟩ := bt_some (x := dayN d k) (k := ((mon k).2.1 + 1).toNat) (by omega) q1
  have i1 : 1 ≤ i := by
    apply Classical.byContradiction
    intro c
    have : i = 0 := by omega
    subst this
    rw [bt_even q2] at hb
    cases hb
  have im : inMo (rowMo d) (mon k).1 := by
    apply Classical.byContradiction
    intro c
    apply h
    unfold dayN
    rw [if_neg c]
  have er : rowMo d = mo := by rw [F.eq]; rfl
  rw [er] at im
  obtain ⟨y, m, y1, y2, m1, m2, hkn⟩ := kind_later hk (yOf n0)
  have mk := mon_kind (y := y) ⟨m1, m2⟩
  rw [hkn] at mk
  have e1 : (mon k).1 = m := by rw [mk]
  have e2 : (mon k).2.1 = lastM y m := by rw [mk]
  rw [e2] at hi
  have l := last_rng y (m := m)
  obtain ⟨a1, a2, a3⟩ := in_month (n := F1 y m + i - 1) (y := y) ⟨m1, m2⟩ (by omega) (by omega)
  have hn : n0 < F1 y m + i - 1 := by
    apply Classical.byContradiction
    intro c
    have := mi_mono (a := F1 y m + i - 1) (b := n0) (by omega)
    have q := m12 n0
    simp only [mi, a1, a2] at this
    omega
  refine ⟨F1 y m + i - 1, hn, ?_, ?_, ?_⟩
  · have := m12 n0
    unfold mi
    rw [a1, a2]
    omega
  · unfold moT
    rw [a2, ← e1]
    unfold inMo at im
    have := bA_bt mo (mon k).1.toNat
    cases z : bt mo (mon k).1.toNat with
    | true => rfl
    | false => rw [z] at this; exact absurd this im
  · unfold daT kdN
    rw [a1, a2, a3, hkn]
    rw [show (F1 y m + (i : Int) - 1 - F1 y m + 1).toNat = i by omega]
    exact hb
theorem never_ok : ∃ b, m_never [d] = some (.bl b) ∧ (b = false → ∃ k, k < 91 ∧ dayN d k ≠ 0) ∧ (b = true → ∀ k, k < 91 → dayN d k = 0) := by
  have di : ∀ k : Nat, k < 91 → m_Row_days_in [d, .int k] = some (.int (dayN d k)) := fun k hk => F.ok.days hk
  have e0 := F.eq
  have dd : ∃ fs, d = .ins 0 fs := ⟨_, e0⟩
  obtain ⟨fs, hd⟩ := dd
  have nn : rngD 0 91 = (List.range 91).map fun k : Nat => D.int k := by
    unfold rngD
    apply List.map_congr_left
    intro k _
    simp
  rcases for_out (T := tgN 1) (B := sIf (asB (dOp opNe (dMeth 1 t_days_in (dVar 0) (aCons (dVar 1) aNil)) (dC (.int 0)))) (sRet (dC (.bl false))) sNil)
    (fun ds ρ => ∃ (ks : List Nat) (x : S3), ds = ks.map (fun k : Nat => D.int k) ∧ (∀ k ∈ ks, k < 91) ∧ (∀ k, k < 91 → k ∈ ks ∨ dayN d k = 0) ∧ ρ = [.val d, x]) (fun r => r = .bl false ∧ ∃ k, k < 91 ∧ dayN d k ≠ 0) (by
      rintro e ds ρ ⟨ks, x, hq, hk, hz, rfl⟩
      cases ks with
      | nil => cases hq
      | cons k ks =>
        rw [List.map_cons] at hq
        obtain ⟨rfl, rfl⟩ := List.cons.inj hq
        have k91 := hk k (List.mem_cons_self ..)
        have dk := di k k91
        refine ⟨_, rfl, ?_⟩
        by_cases z : dayN d k = 0
        · left
          refine ⟨[.val d, .val (.int k)], ?_, ks, _, rfl, fun r hr => hk r (List.mem_cons_of_mem _ hr), fun r hr => ?_, rfl⟩
          · rw [z] at dk
            rw [hd] at dk ⊢
            simp [apD, t_days_in, dk]
          · rcases hz r hr with h | h
            · rcases List.mem_cons.mp h with rfl | h
              · exact .inr z
              · exact .inl h
            · exact .inr h
        · right
          refine ⟨.bl false, ?_, rfl, k, k91, z⟩
          rw [hd] at dk z ⊢
          simp [apD, t_days_in, dk, z]) ((List.range 91).map fun k : Nat => D.int k) [.val d, .un] ⟨List.range 91, .un, rfl, fun k hk => List.mem_range.mp hk, fun k hk => .inl (List.mem_range.mpr hk), rfl⟩ with ⟨ρ', e, ks, x, hq, _, hz, rfl⟩ | ⟨x, e, rfl, hx⟩
  · cases ks with
    | cons _ _ => cases hq
    | nil =>
      refine ⟨true, ?_, (fun h => nomatch h), fun _ k hk => ?_⟩
      · rw [← nn] at e
        unfold m_never m_never_b
        simp [startD, itR1, e]
      · rcases hz k hk with h | h
        · cases h
        · exact h
  · refine ⟨false, ?_, fun _ => hx, (fun h => nomatch h)⟩
    rw [← nn] at e
    unfold m_never m_never_b
    simp [startD, itR1, e]
/-- the first moment from one on -/
structure Fst (x f : Int) : Prop where
  le : x ≤ f
  hl : hlW d mm hh mo f = true
  no : ∀ y, x ≤ y → y < f → hlW d mm hh mo y = false
omit F in
theorem fst_ex {x z : Int} (h : x ≤ z) (hz : hlW d mm hh mo z = true) : ∃ f, Fst (d := d) (mm := mm) (hh := hh) (mo := mo) x f ∧ f ≤ z := by
  obtain ⟨k, hk, hmin⟩ : ∃ k : Nat, hlW d mm hh mo (x + k) = true ∧ ∀ j : Nat, j < k → hlW d mm hh mo (x + j) = false := by
    obtain ⟨w, hw⟩ : ∃ w : Nat, z = x + w := ⟨(z - x).toNat, by omega⟩
    subst hw
    clear h
    induction w using Nat.strongRecOn with
    | _ w ih =>
      by_cases c : ∃ j : Nat, j < w ∧ hlW d mm hh mo (x + j) = true
      · obtain ⟨j, h1, h2⟩ := c
        exact ih j h1 h2
      · refine ⟨w, hz, fun j hj => ?_⟩
        cases q : hlW d mm hh mo (x + j) with
        | false => rfl
        | true => exact absurd ⟨j, hj, q⟩ c
  have hle : x + (k : Int) ≤ z := by
    apply Classical.byContradiction
    intro c
    have := hmin (z - x).toNat (by omega)
    rw [show x + ((z - x).toNat : Int) = z by omega, hz] at this
    cases this
  exact ⟨x + k, ⟨by omega, hk, fun y h1 h2 => by
    have := hmin (y - x).toNat (by omega)
    rwa [show x + ((y - x).toNat : Int) = y by omega] at this⟩, hle⟩
end
end DL
set_option maxRecDepth 100000
set_option exponentiation.threshold 2000
namespace DL
open PySem L2
section
variable {d : D} {mm hh mo : Int} {dm wm : D} (F : RowF d mm hh mo dm wm)
include F
/-- an open day -/
noncomputable def opn (d : D) (mo n : Int) : Bool := moT mo n && daT d n
/-- how a run goes on -/
structure Stp (x r f : Int) : Prop where
  lt : x < r
  le : r ≤ f
  shut : opn d mo (x / 1440) = false → r % 1440 = 0 ∧ (r / 1440 = f / 1440 ∨ mi (x / 1440) < mi (r / 1440))
  op : opn d mo (x / 1440) = true → r / 1440 = x / 1440 ∨ r % 1440 = 0 ∨ r / 1440 = f / 1440
theorem hl_opn {y : Int} (h : hlW d mm hh mo y = true) : moT mo (y / 1440) = true ∧ daT d (y / 1440) = true ∧ bt hh (y % 1440 / 60).toNat = true ∧ bt mm (y % 1440 % 60).toNat = true := by
  unfold hlW at h
  simpa [Bool.and_eq_true] using h
theorem stp_month {x f : Int} (hf : Fst (d := d) (mm := mm) (hh := hh) (mo := mo) x f) (z : moT mo (x / 1440) = false) : ∃ r, m_month_open [d, .int x] = some (.int r) ∧ Stp (d := d) (mo := mo) x r f := by
  obtain ⟨r, e, _, h⟩ := month_open_ok F x
  obtain ⟨h1, h2, h3, h4⟩ := h z
  obtain ⟨g1, g2, g3, g4⟩ := hl_opn F hf.hl
  have le : r ≤ f := by
    apply Classical.byContradiction
    intro c
    have := h4 (f / 1440) (by have := hf.le; omega) (by omega)
    rw [this] at g1
    cases g1
  refine ⟨r, e, h1, le, fun _ => ⟨h2, .inr ?_⟩, fun h => ?_⟩
  · have m := mi_mono (a := x / 1440) (b := r / 1440) (by omega)
    have ne : mi (x / 1440) ≠ mi (r / 1440) := by
      intro q
      have := (mi_inj q).2
      unfold moT at z h3
      rw [this, h3] at z
      cases z
    omega
  · unfold opn at h
    rw [z] at h
    cases h
theorem mi_400 (n : Int) : mi n < mi (n + 400) := by
  have m := mi_mono (a := n) (b := n + 400) (by omega)
  have ne : mi n ≠ mi (n + 400) := by
    intro q
    obtain ⟨q1, q2⟩ := mi_inj q
    have a := date_F1 n
    have b := date_F1 (n + 400)
    rw [← q1, ← q2] at b
    have := last_rng (yOf n) (m := mOf n)
    omega
  omega
theorem stp_day {x f : Int} (hf : Fst (d := d) (mm := mm) (hh := hh) (mo := mo) x f) (z : moT mo (x / 1440) = true) (z2 : daT d (x / 1440) = false) : ∃ r, m_day_open [d, .int x] = some (.int r) ∧ Stp (d := d) (mo := mo) x r f := by
  obtain ⟨r, e, _, h⟩ := day_open_ok F x
  obtain ⟨N, rfl, h1, h2, h3⟩ := h (by unfold shD; rw [z, z2]; rfl)
  obtain ⟨g1, g2, g3, g4⟩ := hl_opn F hf.hl
  have le : N ≤ f / 1440 := by
    apply Classical.byContradiction
    intro c
    have := h2 (f / 1440) (by have := hf.le; omega) (by omega)
    unfold shD at this
    rw [g1, g2] at this
    cases this
  have eN : 1440 * N / 1440 = N := by omega
  refine ⟨_, e, by omega, by omega, fun _ => ⟨by omega, ?_⟩, fun h => ?_⟩
  · rw [eN]
    rcases h3 with h3 | h3
    · cases zm : moT mo N with
      | true =>
        left
        have zd : daT d N = true := by
          unfold shD at h3
          rw [zm] at h3
          simpa using h3
        obtain ⟨y, y1, y2⟩ := open_day F zm zd
        apply Classical.byContradiction
        intro c
        have := hf.no y (by omega) (by omega)
        rw [y2] at this
        cases this
      | false =>
        right
        have m := mi_mono (a := x / 1440) (b := N) (by omega)
        have ne : mi (x / 1440) ≠ mi N := by
          intro q
          have := (mi_inj q).2
          unfold moT at z zm
          rw [this, zm] at z
          cases z
        omega
    · right
      rw [h3]
      exact mi_400 F _
  · unfold opn at h
    rw [z, z2] at h
    cases h
theorem stp_hour {x f : Int} (hf : Fst (d := d) (mm := mm) (hh := hh) (mo := mo) x f) (z : moT mo (x / 1440) = true) (z2 : daT d (x / 1440) = true) (z3 : bt hh (x % 1440 / 60).toNat = false) : ∃ r, m_hour_open [d, .int x] = some (.int r) ∧
    (1440 * (x / 1440 + 1) < r ∧ shutW d mm hh mo (1440 * (x / 1440 + 1)) ≠ some "hour" → Stp (d := d) (mo := mo) x (1440 * (x / 1440 + 1)) f) ∧
    (¬ (1440 * (x / 1440 + 1) < r ∧ shutW d mm hh mo (1440 * (x / 1440 + 1)) ≠ some "hour") → Stp (d := d) (mo := mo) x r f) := by
  obtain ⟨r, e, _, h⟩ := hour_open_ok F x
  obtain ⟨on, rfl, h1, h2, h3, h4⟩ := h z3
  obtain ⟨g1, g2, g3, g4⟩ := hl_opn F hf.hl
  have hop : opn d mo (x / 1440) = true := by unfold opn; rw [z, z2]; rfl
  -- no hour told before
  have no : x - x % 60 + 60 * on ≤ f := by
    apply Classical.byContradiction
    intro c
    have hx := hf.le
    by_cases j0 : f / 60 = x / 60
    · have : f % 1440 / 60 = x % 1440 / 60 := by omega
      rw [this, z3] at g3
      cases g3
    · have := h4 (f / 60 - x / 60) (by omega) (by omega)
      rw [show (x % 1440 / 60 + (f / 60 - x / 60)) % 24 = f % 1440 / 60 by omega, g3] at this
      cases this
  refine ⟨_, e, fun ⟨c1, _⟩ => ⟨by omega, by omega, (fun h => by rw [hop] at h; cases h), fun _ => .inr (.inl (by omega))⟩, fun c => ⟨by omega, no, (fun h => by rw [hop] at h; cases h), fun _ => ?_⟩⟩
  by_cases c1 : 1440 * (x / 1440 + 1) < x - x % 60 + 60 * on
  · right; right
    have sh : shutW d mm hh mo (1440 * (x / 1440 + 1)) = some "hour" := Classical.byContradiction fun q => c ⟨c1, q⟩
    unfold shutW at sh
    rw [show 1440 * (x / 1440 + 1) / 1440 = x / 1440 + 1 by omega] at sh
    have w1 : moT mo (x / 1440 + 1) = true := by
      cases q : moT mo (x / 1440 + 1) with
      | true => rfl
      | false =>
        rw [if_pos q] at sh
        exact absurd (Option.some.inj sh) (by decide +kernel)
    rw [if_neg (by rw [w1]; exact fun h => nomatch h)] at sh
    have w2 : daT d (x / 1440 + 1) = true := by
      cases q : daT d (x / 1440 + 1) with
      | true => rfl
      | false =>
        rw [if_pos q] at sh
        exact absurd (Option.some.inj sh) (by decide +kernel)
    obtain ⟨m, i2, b2⟩ := bt_some F.m0 F.m1
    have e1 : (x - x % 60 + 60 * on + (m : Int)) / 1440 = x / 1440 + 1 := by omega
    have e2 : (x - x % 60 + 60 * on + (m : Int)) % 1440 / 60 = (x % 1440 / 60 + on) % 24 := by omega
    have e3 : (x - x % 60 + 60 * on + (m : Int)) % 1440 % 60 = m := by omega
    have hy : hlW d mm hh mo (x - x % 60 + 60 * on + (m : Int)) = true := by
      unfold hlW
      rw [e1, e2, e3, w1, w2, h3, Int.toNat_natCast, b2]
      rfl
    apply Classical.byContradiction
    intro c
    have := hf.no _ (by omega) (show x - x % 60 + 60 * on + (m : Int) < f by omega)
    rw [hy] at this
    cases this
  · omega
theorem stp_minute {x f : Int} (hf : Fst (d := d) (mm := mm) (hh := hh) (mo := mo) x f) (z : moT mo (x / 1440) = true) (z2 : daT d (x / 1440) = true) (z3 : bt hh (x % 1440 / 60).toNat = true) (z4 : bt mm (x % 1440 % 60).toNat = false) : ∃ r, m_minute_open [d, .int x] = some (.int r) ∧
    (x + 60 - x % 1440 % 60 < r ∧ shutW d mm hh mo (x + 60 - x % 1440 % 60) ≠ some "minute" → Stp (d := d) (mo := mo) x (x + 60 - x % 1440 % 60) f) ∧
    (¬ (x + 60 - x % 1440 % 60 < r ∧ shutW d mm hh mo (x + 60 - x % 1440 % 60) ≠ some "minute") → Stp (d := d) (mo := mo) x r f) := by
  obtain ⟨on, e, h1, h2, h3, h4⟩ := minute_open_ok F x
  obtain ⟨g1, g2, g3, g4⟩ := hl_opn F hf.hl
  have hop : opn d mo (x / 1440) = true := by unfold opn; rw [z, z2]; rfl
  have on1 : 1 ≤ on := by
    apply Classical.byContradiction
    intro c
    have : on = 0 := by omega
    subst this
    rw [show (x + 0) % 60 = x % 1440 % 60 by omega, z4] at h3
    cases h3
  have no : x + on ≤ f := by
    apply Classical.byContradiction
    intro c
    have hx := hf.le
    have := h4 (f - x) (by omega) (by omega)
    rw [show (x + (f - x)) % 60 = f % 1440 % 60 by omega, g4] at this
    cases this
  refine ⟨_, e, fun ⟨c1, _⟩ => ⟨by omega, by omega, (fun h => by rw [hop] at h; cases h), fun _ => by omega⟩, fun c => ⟨by omega, no, (fun h => by rw [hop] at h; cases h), fun _ => ?_⟩⟩
  by_cases c1 : x + 60 - x % 1440 % 60 < x + on
  · right; right
    have sh : shutW d mm hh mo (x + 60 - x % 1440 % 60) = some "minute" := Classical.byContradiction fun q => c ⟨c1, q⟩
    unfold shutW at sh
    rw [show (x + 60 - x % 1440 % 60) / 1440 = (x + on) / 1440 by omega, show (x + 60 - x % 1440 % 60) % 1440 / 60 = (x + on) % 1440 / 60 by omega] at sh
    have w1 : moT mo ((x + on) / 1440) = true := by
      cases q : moT mo ((x + on) / 1440) with
      | true => rfl
      | false =>
        rw [if_pos q] at sh
        exact absurd (Option.some.inj sh) (by decide +kernel)
    rw [if_neg (by rw [w1]; exact fun h => nomatch h)] at sh
    have w2 : daT d ((x + on) / 1440) = true := by
      cases q : daT d ((x + on) / 1440) with
      | true => rfl
      | false =>
        rw [if_pos q] at sh
        exact absurd (Option.some.inj sh) (by decide +kernel)
    rw [if_neg (by rw [w2]; exact fun h => nomatch h)] at sh
    have w3 : bt hh ((x + on) % 1440 / 60).toNat = true := by
      cases q : bt hh ((x + on) % 1440 / 60).toNat with
      | true => rfl
      | false =>
        rw [if_pos q] at sh
        exact absurd (Option.some.inj sh) (by decide +kernel)
    have hy : hlW d mm hh mo (x + on) = true := by
      unfold hlW
      rw [show (x + on) % 1440 % 60 = (x + on) % 60 by omega, w1, w2, w3, h3]
      rfl
    have : f = x + on := by
      apply Classical.byContradiction
      intro c
      have := hf.no _ (by omega) (show x + on < f by omega)
      rw [hy] at this
      cases this
    rw [this]
  · omega
theorem open_ok {x : Int} {w : Str} (h : w = "month" ∨ w = "day" ∨ w = "hour" ∨ w = "minute") : m_open_again [d, .int x, .str w] = if w = "month" then m_month_open [d, .int x] else if w = "day" then m_day_open [d, .int x] else if w = "hour" then m_hour_open [d, .int x] else m_minute_open [d, .int x] := by
  have hd : ∃ fs, d = .ins 0 fs := ⟨_, F.eq⟩
  obtain ⟨fs, rfl⟩ := hd
  obtain ⟨r1, e1, _⟩ := month_open_ok F x
  obtain ⟨r2, e2, _⟩ := day_open_ok F x
  obtain ⟨r3, e3, _⟩ := hour_open_ok F x
  obtain ⟨r4, e4, _⟩ := minute_open_ok F x
  unfold m_open_again m_open_again_b
  by_cases c1 : w = "month"
  · simp [startD, apD, c1, e1]
  · by_cases c2 : w = "day"
    · rw [c2] at c1
      simp [startD, apD, c1, c2, e2]
    · by_cases c3 : w = "hour"
      · rw [c3] at c1 c2
        simp [startD, apD, c1, c2, c3, e3]
      · simp [startD, apD, c1, c2, c3, e4]
theorem run_end_ok {x f : Int} {w : Str} (hf : Fst (d := d) (mm := mm) (hh := hh) (mo := mo) x f) (h : shutW d mm hh mo x = some w) : ∃ r, m_run_end [d, .int x, .str w] = some (.int r) ∧ Stp (d := d) (mo := mo) x r f := by
  have pd := parted_ok x
  have i0 : ∀ a b c : D, L2.atI [a, b, c] 0 = some a := fun _ _ _ => rfl
  have i2 : ∀ a b c : D, L2.atI [a, b, c] 2 = some c := fun _ _ _ => rfl
  have so := shut_ok F
  have q1 : ¬ (("month" : Str) = "hour") := by decide +kernel
  have q2 : ¬ (("month" : Str) = "minute") := by decide +kernel
  have q3 : ¬ (("day" : Str) = "month") := by decide +kernel
  have q4 : ¬ (("day" : Str) = "hour") := by decide +kernel
  have q5 : ¬ (("day" : Str) = "minute") := by decide +kernel
  have q6 : ¬ (("hour" : Str) = "month") := by decide +kernel
  have q7 : ¬ (("hour" : Str) = "day") := by decide +kernel
  have q8 : ¬ (("minute" : Str) = "month") := by decide +kernel
  have q9 : ¬ (("minute" : Str) = "day") := by decide +kernel
  have qa : ¬ (("minute" : Str) = "hour") := by decide +kernel
  have nn : ∀ s, opNe .non (.str s) = some (.bl true) := fun _ => rfl
  have oo := fun w h => open_ok F (x := x) (w := w) h
  have e0 := F.eq
  have hd : ∃ fs, d = .ins 0 fs := ⟨_, e0⟩
  unfold shutW at h
  split at h
  · rename_i z
    cases h
    obtain ⟨r, e, s⟩ := stp_month F hf z
    refine ⟨r, ?_, s⟩
    have o := oo "month" (.inl rfl)
    rw [if_pos rfl, e] at o
    unfold m_run_end m_run_end_b
    simp [startD, apD, o, q1, q2]
  · rename_i z
    have z : moT mo (x / 1440) = true := by simpa using z
    split at h
    · rename_i z2
      cases h
      obtain ⟨r, e, s⟩ := stp_day F hf z z2
      refine ⟨r, ?_, s⟩
      have o := oo "day" (.inr (.inl rfl))
      rw [if_neg q3, if_pos rfl, e] at o
      unfold m_run_end m_run_end_b
      simp [startD, apD, o, q4, q5]
    · rename_i z2
      have z2 : daT d (x / 1440) = true := by simpa using z2
      split at h
      · rename_i z3
        cases h
        obtain ⟨r, e, s1, s2⟩ := stp_hour F hf z z2 z3
        have sh := so (1440 * (x / 1440 + 1))
        have o := oo "hour" (.inr (.inr (.inl rfl)))
        rw [if_neg q6, if_neg q7, if_pos rfl, e] at o
        unfold m_run_end m_run_end_b
        obtain ⟨fs, rfl⟩ := hd
        by_cases c1 : 1440 * (x / 1440 + 1) < r
        · cases c2 : shutW (.ins 0 fs) mm hh mo (1440 * (x / 1440 + 1)) with
          | none =>
            rw [c2] at sh s1
            exact ⟨_, by simp [startD, apD, o, opIx, pd, i0, c1, t_shut_by, sh, sD, nn], s1 ⟨c1, fun h => nomatch h⟩⟩
          | some w =>
            rw [c2] at sh s1 s2
            by_cases c3 : w = "hour"
            · exact ⟨_, by simp [startD, apD, o, opIx, pd, i0, c1, t_shut_by, sh, sD, c3], s2 (fun h => h.2 (congrArg some c3))⟩
            · exact ⟨_, by simp [startD, apD, o, opIx, pd, i0, c1, t_shut_by, sh, sD, c3], s1 ⟨c1, fun h => c3 (Option.some.inj h)⟩⟩
        · exact ⟨_, by simp [startD, apD, o, opIx, pd, i0, c1], s2 (fun h => c1 h.1)⟩
      · rename_i z3
        have z3 : bt hh (x % 1440 / 60).toNat = true := by simpa using z3
        split at h
        · rename_i z4
          cases h
          obtain ⟨r, e, s1, s2⟩ := stp_minute F hf z z2 z3 z4
          have sh := so (x + 60 - x % 1440 % 60)
          have o := oo "minute" (.inr (.inr (.inr rfl)))
          rw [if_neg q8, if_neg q9, if_neg qa, e] at o
          unfold m_run_end m_run_end_b
          obtain ⟨fs, rfl⟩ := hd
          generalize x % 1440 % 60 = M at *
          by_cases c1 : x + 60 - M < r
          · cases c2 : shutW (.ins 0 fs) mm hh mo (x + 60 - M) with
            | none =>
              rw [c2] at sh s1
              exact ⟨_, by simp [startD, apD, o, opIx, pd, i2, c1, t_shut_by, sh, sD, qa, nn], s1 ⟨c1, fun h => nomatch h⟩⟩
            | some w =>
              rw [c2] at sh s1 s2
              by_cases c3 : w = "minute"
              · exact ⟨_, by simp [startD, apD, o, opIx, pd, i2, c1, t_shut_by, sh, sD, c3, qa], s2 (fun h => h.2 (congrArg some c3))⟩
              · exact ⟨_, by simp [startD, apD, o, opIx, pd, i2, c1, t_shut_by, sh, sD, c3, qa], s1 ⟨c1, fun h => c3 (Option.some.inj h)⟩⟩
          · exact ⟨_, by simp [startD, apD, o, opIx, pd, i2, c1, qa], s2 (fun h => c1 h.1)⟩
        · cases h
end
end DL
set_option maxRecDepth 100000
set_option exponentiation.threshold 2000
namespace DL
open PySem L2
section
variable {d : D} {mm hh mo : Int} {dm wm : D} (F : RowF d mm hh mo dm wm)
include F
noncomputable def meas (x0 f x : Int) : Int := if x / 1440 = f / 1440 then f - x else 1440 + (mi (f / 1440) - mi (x / 1440)) + (if x / 1440 = x0 / 1440 then 1440 * (x0 / 1440 + 1) - x else 0)
theorem meas_dec {x0 f x r : Int} (hf : Fst (d := d) (mm := mm) (hh := hh) (mo := mo) x f) (h0 : x0 ≤ x) (hi : x / 1440 = x0 / 1440 ∨ x % 1440 = 0 ∨ x / 1440 = f / 1440) (s : Stp (d := d) (mo := mo) x r f) : meas x0 f r < meas x0 f x ∧ (r / 1440 = x0 / 1440 ∨ r % 1440 = 0 ∨ r / 1440 = f / 1440) := by
  have h1 := s.lt
  have h2 := s.le
  have m1 := mi_mono (a := x / 1440) (b := r / 1440) (by omega)
  have m2 := mi_mono (a := r / 1440) (b := f / 1440) (by omega)
  unfold meas
  by_cases c : x / 1440 = f / 1440
  · have c' : r / 1440 = f / 1440 := by omega
    rw [if_pos c, if_pos c']
    exact ⟨by omega, .inr (.inr c')⟩
  · rw [if_neg c]
    by_cases c2 : x / 1440 = x0 / 1440
    · rw [if_pos c2]
      by_cases c3 : r / 1440 = f / 1440
      · rw [if_pos c3]
        exact ⟨by omega, .inr (.inr c3)⟩
      · rw [if_neg c3]
        by_cases c4 : r / 1440 = x0 / 1440
        · rw [if_pos c4]
          exact ⟨by omega, .inl c4⟩
        · rw [if_neg c4]
          refine ⟨by omega, .inr (.inl ?_)⟩
          cases z : opn d mo (x / 1440) with
          | true => rcases s.op z with h | h | h <;> omega
          | false => exact (s.shut z).1
    · have x0' : x % 1440 = 0 := by omega
      rw [if_neg c2]
      have z : opn d mo (x / 1440) = false := by
        cases z : opn d mo (x / 1440) with
        | false => rfl
        | true =>
          unfold opn at z
          rw [Bool.and_eq_true] at z
          obtain ⟨y, y1, y2⟩ := open_day F z.1 z.2
          have := hf.le
          exfalso
          by_cases q : y < f
          · have := hf.no y (by omega) q
            rw [y2] at this
            cases this
          · omega
      obtain ⟨s1, s2⟩ := s.shut z
      refine ⟨?_, .inr (.inl s1)⟩
      by_cases c3 : r / 1440 = f / 1440
      · rw [if_pos c3]
        omega
      · rw [if_neg c3, if_neg (by omega)]
        omega
theorem next_from_ok (x : Int) : (∃ f ps, m_next_from [d, .int x] = some (.tup [.int f, .lst ps])) ∨ m_next_from [d, .int x] = some (.tup [.non, .lst []]) := by
  have so := shut_ok F
  obtain ⟨b, en, hn0, hn1⟩ := never_ok F
  have e0 := F.eq
  cases b with
  | true =>
    right
    unfold m_next_from m_next_from_b
    simp [startD, apD, en]
  | false =>
    left
    obtain ⟨k, hk, hne⟩ := hn0 rfl
    obtain ⟨n, n1, n2, n3, n4⟩ := some_day F hk hne (x / 1440)
    obtain ⟨z, z1, z2⟩ := open_day F n3 n4
    obtain ⟨f, hf, hfz⟩ := fst_ex (x := x) (z := z) (by omega) z2
    have mf := mi_mono (a := f / 1440) (b := n) (by omega)
    have mx : meas x f x ≤ 9000 := by
      unfold meas
      split
      · omega
      · rw [if_pos rfl]
        omega
    have hd : ∃ fs, d = .ins 0 fs := ⟨_, e0⟩
    obtain ⟨ρ', ew, ps, s5, rfl⟩ := while_ind (t := asB (dOp opNotN (dVar 4) (dC .non))) (B := (sSeq (sAsg (dCall 3 m_run_end (aCons (dVar 0) (aCons (dVar 3) (aCons (dVar 4) aNil)))) (tgN 5)) (sSeq (sApp 2 (dTup (aCons (dVar 3) (aCons (dOp opSub (dVar 5) (dC (.int 1))) (aCons (dVar 4) aNil))))) (sSeq (sAsg (dVar 5) (tgN 3)) (sAsg (dMeth 1 t_shut_by (dVar 0) (aCons (dVar 3) aNil)) (tgN 4))))))
      (fun j ρ => ∃ (y : Int) (ps : List D) (s5 : S3), ρ = [.val d, .val (.int x), .own ps, .val (.int y), .val (sD (shutW d mm hh mo y)), s5] ∧ x ≤ y ∧ Fst (d := d) (mm := mm) (hh := hh) (mo := mo) y f ∧ (y / 1440 = x / 1440 ∨ y % 1440 = 0 ∨ y / 1440 = f / 1440) ∧ meas x f y ≤ j ∧ ps.length + j ≤ 9000)
      (fun ρ => ∃ (ps : List D) (s5 : S3), ρ = [.val d, .val (.int x), .own ps, .val (.int f), .val .non, s5]) (by
        rintro j ρ ⟨y, ps, s5, rfl, h0, hf, hi, hm, hl⟩
        cases q : shutW d mm hh mo y with
        | none =>
          left
          have hy := shut_none.mp q
          have : y = f := by
            have := hf.le
            apply Classical.byContradiction
            intro c
            have := hf.no y (by omega) (by omega)
            rw [hy] at this
            cases this
          subst this
          exact ⟨rfl, ps, s5, rfl⟩
        | some w =>
          right
          obtain ⟨r, e, s⟩ := run_end_ok F hf q
          obtain ⟨d1, d2⟩ := meas_dec F hf h0 hi s
          have fr : Fst (d := d) (mm := mm) (hh := hh) (mo := mo) r f := ⟨s.le, hf.hl, fun y' a b => hf.no y' (by have := s.lt; omega) b⟩
          have pos : 0 ≤ meas x f r := by
            have m2 := mi_mono (a := r / 1440) (b := f / 1440) (by have := s.le; omega)
            have := s.le
            unfold meas
            split
            · omega
            · split <;> omega
          have sr := so r
          refine ⟨j - 1, [.val d, .val (.int x), .own (ps ++ [.tup [.int y, .int (r - 1), .str w]]), .val (.int r), .val (sD (shutW d mm hh mo r)), .val (.int r)], by omega, rfl, ?_, r, _, _, rfl, by have := s.lt; omega, fr, d2, by omega, by rw [List.length_append]; show ps.length + 1 + _ ≤ _; omega⟩
          have le : ps.length ≤ 100000 := by omega
          obtain ⟨fs, rfl⟩ := hd
          simp [sD, e, sApp, le, apD, t_shut_by, sr]) 9000 [.val d, .val (.int x), .own [], .val (.int x), .val (sD (shutW d mm hh mo x)), .un] 100000 ⟨x, [], .un, rfl, by omega, hf, .inl rfl, mx, by simp⟩ (by omega)
    have sx := so x
    refine ⟨f, ps, ?_⟩
    have ew' : sWhile 100000 (asB (dOp opNotN (dVar 4) (dC .non))) _ _ = _ := ew
    obtain ⟨fs, rfl⟩ := hd
    unfold m_next_from m_next_from_b
    simp [startD, apD, en, t_shut_by, sx, ew', sFrz, frzD]
end
end DL
set_option maxRecDepth 100000
set_option exponentiation.threshold 2000
namespace DL
open PySem L2
/-! ### a book at a moment -/
noncomputable def hB (M : Ms) (x : Int) : Bool := bt ((M (kdN (x / 1440)))[(dOf (x / 1440) - 1).toNat]?.getD 0) (x % 1440).toNat
def Hd (b : D) (n : Nat) (M : Ms) : Prop := ∀ m, n ≤ m → ∀ x : Int, bm (T_holds m) b [.int x] = some (.bl (hB M x))
theorem Hd.up {b : D} {n n' : Nat} {M : Ms} (h : Hd b n M) (l : n ≤ n') : Hd b n' M := fun m hm => h m (Nat.le_trans l hm)
theorem cell_at {M : Ms} (h : MsOk M) (x : Int) : ∃ a, (M (kdN (x / 1440)))[(dOf (x / 1440) - 1).toNat]? = some a ∧ 0 ≤ a ∧ a < 2 ^ 1440 := by
  have hk := kdN_lt (x / 1440)
  have hl := h.len _ hk
  have hd := (date_is (x / 1440)).d1
  have hm := (date_is (x / 1440)).dl
  rw [mon_kd] at hl
  simp only at hl
  have hi : (dOf (x / 1440) - 1).toNat < (M (kdN (x / 1440))).length := by omega
  refine ⟨(M (kdN (x / 1440)))[(dOf (x / 1440) - 1).toNat], List.getElem?_eq_getElem hi, h.rng _ hk _ (List.getElem_mem hi)⟩
theorem hB_zip {A B : Ms} {g : Int → Int → Int} {op : Bool → Bool → Bool} (a : MsOk A) (b : MsOk B) (hg : ∀ {x y : Int}, 0 ≤ x → 0 ≤ y → ∀ i, bt (g x y) i = op (bt x i) (bt y i)) (x : Int) : hB (zipM g A B) x = op (hB A x) (hB B x) := by
  obtain ⟨p, e1, p0, _⟩ := cell_at a x
  obtain ⟨q, e2, q0, _⟩ := cell_at b x
  unfold hB zipM
  rw [List.getElem?_zipWith, e1, e2]
  exact hg p0 q0 _
theorem bt_turn {x : Int} (h0 : 0 ≤ x) (h1 : x < 2 ^ 1440) {i : Nat} (hi : i < 1440) : bt (full - x) i = !bt x i := by
  obtain ⟨n, rfl⟩ := Int.eq_ofNat_of_zero_le h0
  have h1 : n < 2 ^ 1440 := by
    have c := PySem.W.kbt_cast 1440
    have : (n : Int) < ((2 ^ 1440 : Nat) : Int) := by rw [c]; exact h1
    exact Int.ofNat_lt.mp this
  have e : full - (n : Int) = ((2 ^ 1440 - (n + 1) : Nat) : Int) := by
    have c := PySem.W.kbt_cast 1440
    rw [Int.ofNat_sub (by omega), c]
    unfold full
    push_cast
    omega
  rw [e, bt_nat (by omega), bt_nat (by omega), Int.toNat_natCast, Int.toNat_natCast, Nat.testBit_two_pow_sub_succ h1]
  simp [hi]
theorem hB_turn {A : Ms} (a : MsOk A) (x : Int) : hB (turnM A) x = !hB A x := by
  obtain ⟨p, e1, p0, p1⟩ := cell_at a x
  unfold hB turnM
  rw [List.getElem?_map, e1]
  exact bt_turn p0 p1 (by omega)
theorem hB_zero (x : Int) : hB zeroM x = false := by
  obtain ⟨p, e1, p0, p1⟩ := cell_at zero_ok x
  unfold hB
  rw [e1]
  have := List.mem_of_getElem? e1
  unfold zeroM at this
  rw [(List.mem_replicate.mp this).2]
  exact bt_zero _
theorem hB_full (x : Int) : hB fullM x = true := by
  obtain ⟨p, e1, p0, p1⟩ := cell_at full_ok x
  unfold hB
  rw [e1]
  have := List.mem_of_getElem? e1
  unfold fullM at this
  rw [(List.mem_replicate.mp this).2]
  have q := bt_turn (x := 0) (by decide) (PySem.W.kbt_pos _) (i := (x % 1440).toNat) (by omega)
  rw [bt_zero] at q
  rw [show full - 0 = full by omega] at q
  exact q
theorem hB_less {A B : Ms} (a : MsOk A) (b : MsOk B) (x : Int) : hB (zipM lessI A B) x = (hB A x && !hB B x) := by
  have e : hB (zipM lessI A B) x = hB (zipM bA A (turnM B)) x := by
    unfold hB
    rw [← less_eq a b (kdN_lt _)]
    congr 2
    unfold zipM turnM
    rw [List.zipWith_map_right]
  rw [e, hB_zip a (turn_ok b) (op := fun p q => p && q) (fun hx hy i => bt_and hx hy i), hB_turn b]
theorem hd_none : Hd (.ins 8 []) 1 zeroM := fun m hm x => by
  obtain ⟨j, rfl⟩ : ∃ j, m = j + 1 := ⟨m - 1, by omega⟩
  rw [hB_zero]
  rfl
theorem row_cell {d : D} {t : Int} {k i : Nat} (hi : i < (mon k).2.1.toNat) : (rowM d t k)[i]? = some (t * bA (dayN d k / 2 ^ (1 + i)) 1) := by
  unfold rowM
  rw [List.getElem?_map, List.getElem?_range hi]
  rfl
theorem hd_of {d : D} {t : Int} (h : RowOk d) (ht : m_Row_times [d] = some (.int t)) : Hd (ofD d t) 2 (rowM d t) := fun m hm x => by
  obtain ⟨j, rfl⟩ : ∃ j, m = j + 1 + 1 := ⟨m - 2, by omega⟩
  obtain ⟨mm, hh, mo, dm, wm, F⟩ := h.f
  obtain ⟨t', et, t0, t1, tb⟩ := times_eq (dm := dm) (mo := mo) (wm := wm) (Int.le_of_lt F.m0) F.m1 (Int.le_of_lt F.h0) F.h1
  rw [← F.eq, ht] at et
  obtain rfl : t = t' := by injection et with et; injection et
  have hm := mon_kd (x / 1440)
  have hd1 := (date_is (x / 1440)).d1
  have hd2 := (date_is (x / 1440)).dl
  have e1 := row_cell (d := d) (t := t) (k := kdN (x / 1440)) (i := (dOf (x / 1440) - 1).toNat) (by rw [hm]; show _ < (lastM _ _).toNat; omega)
  have e2 : hB (rowM d t) x = hlW d mm hh mo x := by
    unfold hB
    rw [e1]
    show bt (t * bA (dayN d (kdN (x / 1440)) / 2 ^ (1 + (dOf (x / 1440) - 1).toNat)) 1) _ = _
    rw [show 1 + (dOf (x / 1440) - 1).toNat = (dOf (x / 1440)).toNat by omega]
    have b2 : bA _ _ = _ := bA_bt (dayN d (kdN (x / 1440))) (dOf (x / 1440)).toNat
    rw [b2]
    have tt := tb (x % 1440).toNat
    rw [show (x % 1440).toNat / 60 = (x % 1440 / 60).toNat by omega, show (x % 1440).toNat % 60 = (x % 1440 % 60).toNat by omega] at tt
    unfold hlW
    have dd : daT d (x / 1440) = bt (dayN d (kdN (x / 1440))) (dOf (x / 1440)).toNat := rfl
    cases z : bt (dayN d (kdN (x / 1440))) (dOf (x / 1440)).toNat with
    | false =>
      rw [dd, z, if_neg (fun h => nomatch h), Int.mul_zero, bt_zero]
      simp
    | true =>
      have mt : moT mo (x / 1440) = true := by
        have im : inMo (rowMo d) (mon (kdN (x / 1440))).1 := by
          apply Classical.byContradiction
          intro c
          unfold dayN at z
          rw [if_neg c, bt_zero] at z
          cases z
        have er : rowMo d = mo := by rw [F.eq]; rfl
        rw [er, hm] at im
        unfold inMo at im
        have := bA_bt mo (mOf (x / 1440)).toNat
        unfold moT
        cases z : bt mo (mOf (x / 1440)).toNat with
        | true => rfl
        | false =>
          rw [z] at this
          exact absurd this im
      rw [dd, z, if_pos rfl, Int.mul_one, tt, mt]
      simp
  rw [e2]
  have rh := row_holds_ok F x
  have hd : ∃ fs, d = .ins 0 fs := ⟨_, F.eq⟩
  obtain ⟨fs, rfl⟩ := hd
  have tz : T_holds (j + 1) 0 = some m_Row_holds := rfl
  show m_Of_holds (T_holds (j + 1)) [ofD (.ins 0 fs) t, .int x] = _
  unfold m_Of_holds m_Of_holds_b
  simp [startD, at_row, tz, rh]
theorem hB_sub {x : Int} : ∀ (ps : List Part) {A : Ms}, MsOk A → (∀ p ∈ ps, MsOk p.M) → hB A x = true → hB (foldM bO A ps) x = true
  | [], _, _, _, h => h
  | p :: ps, A, a, hp, h => by
    have hq := hp p (List.mem_cons_self ..)
    refine hB_sub ps (orM_ok a hq) (fun p h => hp p (List.mem_cons_of_mem _ h)) ?_
    rw [hB_zip a hq (op := fun p q => p || q) (fun hx hy i => bt_or hx hy i), h]
    rfl
theorem hB_sup {x : Int} : ∀ (ps : List Part) {A : Ms}, MsOk A → (∀ p ∈ ps, MsOk p.M) → hB A x = false → hB (foldM bA A ps) x = false
  | [], _, _, _, h => h
  | p :: ps, A, a, hp, h => by
    have hq := hp p (List.mem_cons_self ..)
    refine hB_sup ps (andM_ok a hq) (fun p h => hp p (List.mem_cons_of_mem _ h)) ?_
    rw [hB_zip a hq (op := fun p q => p && q) (fun hx hy i => bt_and hx hy i), h]
    rfl
theorem meth1 {α : Type} {tbl : Nat → Option (List D → Option α)} {b : D} {y : D} {r : α} (h : bm tbl b [y] = some r) : ∃ c fs, b = .ins c fs ∧ ((tbl c).bind fun M => M [.ins c fs, y]) = some r := by
  unfold bm at h
  split at h
  · exact ⟨_, _, rfl, h⟩
  · cases h
theorem hd_join {n : Nat} {ps : List Part} (hp : ∀ p ∈ ps, MsOk p.M ∧ Hd p.b n p.M) : Hd (.ins 10 [.tup (ps.map (·.b))]) (n + 1) (foldM bO zeroM ps) := fun m hm x => by
  obtain ⟨j, rfl⟩ : ∃ j, m = j + 1 := ⟨m - 1, by omega⟩
  show m_Joined_holds (T_holds j) [.ins 10 _, .int x] = _
  have hlf := for_out (T := tgN 2) (B := sIf (asB (dMeth 1 (T_holds j) (dVar 2) (aCons (dVar 1) aNil))) (sRet (dC (.bl true))) sNil)
    (fun ds ρ => ∃ (qs : List Part) (A : Ms) (s : S3), ds = qs.map (·.b) ∧ (∀ p ∈ qs, MsOk p.M ∧ Hd p.b n p.M) ∧ ρ = [.val (.ins 10 [.tup (ps.map (·.b))]), .val (.int x), s] ∧ MsOk A ∧ hB A x = false ∧ foldM bO A qs = foldM bO zeroM ps)
    (fun r => r = .bl true ∧ hB (foldM bO zeroM ps) x = true) (by
      rintro d ds ρ ⟨qs, A, s, hq, hP, rfl, hA, hz, hf⟩
      cases qs with
      | nil => cases hq
      | cons q qs =>
        rw [List.map_cons] at hq
        obtain ⟨rfl, rfl⟩ := List.cons.inj hq
        obtain ⟨q1, q2⟩ := hP q (List.mem_cons_self ..)
        obtain ⟨c, fs, ec, e⟩ := meth1 (q2 j (by omega) x)
        have hz' : hB (zipM bO A q.M) x = hB q.M x := by
          rw [hB_zip hA q1 (op := fun p q => p || q) (fun hx hy i => bt_or hx hy i), hz]
          rfl
        refine ⟨_, rfl, ?_⟩
        cases z : hB q.M x with
        | true =>
          right
          refine ⟨.bl true, ?_, rfl, ?_⟩
          · rw [z] at e
            rw [ec]
            simp [apD, e]
          · rw [← hf]
            exact hB_sub qs (orM_ok hA q1) (fun p h => (hP p (List.mem_cons_of_mem _ h)).1) (by rw [hz', z])
        | false =>
          left
          refine ⟨[.val (.ins 10 [.tup (ps.map (·.b))]), .val (.int x), .val q.b], ?_, qs, zipM bO A q.M, _, rfl, fun p h => hP p (List.mem_cons_of_mem _ h), rfl, orM_ok hA q1, by rw [hz', z], hf⟩
          rw [z] at e
          rw [ec]
          simp [apD, e]) (ps.map (·.b)) [.val (.ins 10 [.tup (ps.map (·.b))]), .val (.int x), .un] ⟨ps, zeroM, .un, rfl, hp, rfl, zero_ok, hB_zero x, rfl⟩
  rcases hlf with ⟨ρ', e, qs, A, s, hq, _, rfl, _, hz, hf⟩ | ⟨r, e, rfl, hx⟩
  · cases qs with
    | cons _ _ => cases hq
    | nil =>
      have hf' : A = foldM bO zeroM ps := hf
      rw [← hf', hz]
      unfold m_Joined_holds m_Joined_holds_b
      simp [startD, at_books, itE, e]
  · rw [hx]
    unfold m_Joined_holds m_Joined_holds_b
    simp [startD, at_books, itE, e]
theorem hd_meet {n : Nat} {ps : List Part} (hp : ∀ p ∈ ps, MsOk p.M ∧ Hd p.b n p.M) : Hd (.ins 11 [.tup (ps.map (·.b))]) (n + 1) (foldM bA fullM ps) := fun m hm x => by
  obtain ⟨j, rfl⟩ : ∃ j, m = j + 1 := ⟨m - 1, by omega⟩
  show m_Met_holds (T_holds j) [.ins 11 _, .int x] = _
  have hlf := for_out (T := tgN 2) (B := sIf (dNotT (asB (dMeth 1 (T_holds j) (dVar 2) (aCons (dVar 1) aNil)))) (sRet (dC (.bl false))) sNil)
    (fun ds ρ => ∃ (qs : List Part) (A : Ms) (s : S3), ds = qs.map (·.b) ∧ (∀ p ∈ qs, MsOk p.M ∧ Hd p.b n p.M) ∧ ρ = [.val (.ins 11 [.tup (ps.map (·.b))]), .val (.int x), s] ∧ MsOk A ∧ hB A x = true ∧ foldM bA A qs = foldM bA fullM ps)
    (fun r => r = .bl false ∧ hB (foldM bA fullM ps) x = false) (by
      rintro d ds ρ ⟨qs, A, s, hq, hP, rfl, hA, hz, hf⟩
      cases qs with
      | nil => cases hq
      | cons q qs =>
        rw [List.map_cons] at hq
        obtain ⟨rfl, rfl⟩ := List.cons.inj hq
        obtain ⟨q1, q2⟩ := hP q (List.mem_cons_self ..)
        obtain ⟨c, fs, ec, e⟩ := meth1 (q2 j (by omega) x)
        have hz' : hB (zipM bA A q.M) x = hB q.M x := by
          rw [hB_zip hA q1 (op := fun p q => p && q) (fun hx hy i => bt_and hx hy i), hz]
          rfl
        refine ⟨_, rfl, ?_⟩
        cases z : hB q.M x with
        | false =>
          right
          refine ⟨.bl false, ?_, rfl, ?_⟩
          · rw [z] at e
            rw [ec]
            simp [apD, e]
          · rw [← hf]
            exact hB_sup qs (andM_ok hA q1) (fun p h => (hP p (List.mem_cons_of_mem _ h)).1) (by rw [hz', z])
        | true =>
          left
          refine ⟨[.val (.ins 11 [.tup (ps.map (·.b))]), .val (.int x), .val q.b], ?_, qs, zipM bA A q.M, _, rfl, fun p h => hP p (List.mem_cons_of_mem _ h), rfl, andM_ok hA q1, by rw [hz', z], hf⟩
          rw [z] at e
          rw [ec]
          simp [apD, e]) (ps.map (·.b)) [.val (.ins 11 [.tup (ps.map (·.b))]), .val (.int x), .un] ⟨ps, fullM, .un, rfl, hp, rfl, full_ok, hB_full x, rfl⟩
  rcases hlf with ⟨ρ', e, qs, A, s, hq, _, rfl, _, hz, hf⟩ | ⟨r, e, rfl, hx⟩
  · cases qs with
    | cons _ _ => cases hq
    | nil =>
      have hf' : A = foldM bA fullM ps := hf
      rw [← hf', hz]
      unfold m_Met_holds m_Met_holds_b
      simp [startD, at_books, itE, e]
  · rw [hx]
    unfold m_Met_holds m_Met_holds_b
    simp [startD, at_books, itE, e]
theorem hd_less {n : Nat} {p q : Part} (hp : MsOk p.M ∧ Hd p.b n p.M) (hq : MsOk q.M ∧ Hd q.b n q.M) : Hd (.ins 12 [p.b, q.b]) (n + 1) (zipM lessI p.M q.M) := fun m hm x => by
  obtain ⟨j, rfl⟩ : ∃ j, m = j + 1 := ⟨m - 1, by omega⟩
  obtain ⟨c1, fs1, ec1, e1⟩ := meth1 (hp.2 j (by omega) x)
  obtain ⟨c2, fs2, ec2, e2⟩ := meth1 (hq.2 j (by omega) x)
  rw [hB_less hp.1 hq.1]
  show m_Less_holds (T_holds j) [.ins 12 [p.b, q.b], .int x] = _
  rw [ec1, ec2]
  unfold m_Less_holds m_Less_holds_b
  cases z : hB p.M x with
  | false =>
    rw [z] at e1
    simp [startD, at_one, at_other, e1]
  | true =>
    rw [z] at e1
    simp [startD, at_one, at_other, e1, e2]
theorem hd_turn {n : Nat} {p : Part} (hp : MsOk p.M ∧ Hd p.b n p.M) : Hd (.ins 13 [p.b]) (n + 1) (turnM p.M) := fun m hm x => by
  obtain ⟨j, rfl⟩ : ∃ j, m = j + 1 := ⟨m - 1, by omega⟩
  obtain ⟨c1, fs1, ec1, e1⟩ := meth1 (hp.2 j (by omega) x)
  rw [hB_turn hp.1]
  show m_Turned_holds (T_holds j) [.ins 13 [p.b], .int x] = _
  rw [ec1]
  unfold m_Turned_holds m_Turned_holds_b
  simp [startD, at_one, e1]
end DL
set_option maxRecDepth 100000
set_option exponentiation.threshold 2000
namespace DL
open PySem L2
/-! ### drawn trees -/
theorem lc_ex {T : TgD} {elt : DE} {ρ : Sl} {P : D → Prop} : ∀ (ds : List D), (∀ d ∈ ds, ∃ l y, T d = some l ∧ elt (apD ρ l) = some y ∧ P y) → ∃ ys, lcD T tTrue elt ρ ds = some ys ∧ ys.length = ds.length ∧ ∀ y ∈ ys, P y
  | [], _ => ⟨[], rfl, rfl, fun y hy => nomatch hy⟩
  | d :: ds, h => by
    obtain ⟨l, y, e1, e2, hy⟩ := h d (List.mem_cons_self ..)
    obtain ⟨ys, e3, e4, e5⟩ := lc_ex ds fun x hx => h x (List.mem_cons_of_mem _ hx)
    refine ⟨y :: ys, ?_, by simp [e4], fun z hz => ?_⟩
    · unfold lcD
      rw [e1]
      simp only [Option.bind_some, tTrue, e2, e3, Option.map_some]
    · rcases List.mem_cons.mp hz with rfl | hz
      · exact hy
      · exact e5 z hz
theorem ex_list {α β : Type} {f : α → β} {R : α → Prop} : ∀ {ys : List β}, (∀ y ∈ ys, ∃ q, y = f q ∧ R q) → ∃ qs : List α, ys = qs.map f ∧ ∀ q ∈ qs, R q
  | [], _ => ⟨[], rfl, fun q hq => nomatch hq⟩
  | y :: ys, h => by
    obtain ⟨q, rfl, hq⟩ := h y (List.mem_cons_self ..)
    obtain ⟨qs, rfl, h2⟩ := ex_list fun z hz => h z (List.mem_cons_of_mem _ hz)
    refine ⟨q :: qs, rfl, fun x hx => ?_⟩
    rcases List.mem_cons.mp hx with rfl | hx
    · exact hq
    · exact h2 x hx
def capT : Nat → Nat
  | 0 => 1
  | d + 1 => 1 + 3 * capT d
def capR : Nat → Nat
  | 0 => 1
  | d + 1 => 3 * capR d
/-- a drawn tree so deep at most -/
structure Drawn (d : Nat) (q : Kid) : Prop where
  tr : Tr (d + 1) q
  ta : q.p.ta ≤ capT d
  t0 : 1 ≤ q.p.ta
  de : q.p.de ≤ d + 1
  d0 : 1 ≤ q.p.de
  rs : q.rs.length ≤ capR d
  ho : Hd q.p.b (d + 2) q.p.M
theorem sum_le {α : Type} {f : α → Int} {c : Int} : ∀ {l : List α}, (∀ x ∈ l, f x ≤ c) → (l.map f).sum ≤ l.length * c
  | [], _ => by simp
  | x :: l, h => by
    have ih := sum_le fun y hy => h y (List.mem_cons_of_mem _ hy)
    have := h x (List.mem_cons_self ..)
    simp only [List.map_cons, List.sum_cons, List.length_cons]
    have e : ((l.length + 1 : Nat) : Int) * c = l.length * c + c := by rw [Int.natCast_add, Int.add_mul]; simp
    omega
theorem sum_leN {α : Type} {f : α → Nat} {c : Nat} : ∀ {l : List α}, (∀ x ∈ l, f x ≤ c) → (l.map f).sum ≤ l.length * c
  | [], _ => by simp
  | x :: l, h => by
    have ih := sum_leN fun y hy => h y (List.mem_cons_of_mem _ hy)
    have := h x (List.mem_cons_self ..)
    simp only [List.map_cons, List.sum_cons, List.length_cons, Nat.add_mul, Nat.one_mul]
    omega
theorem sum_pos {α : Type} {f : α → Int} : ∀ {l : List α}, (∀ x ∈ l, 0 ≤ f x) → 0 ≤ (l.map f).sum
  | [], _ => by simp
  | x :: l, h => by
    have ih := sum_pos fun y hy => h y (List.mem_cons_of_mem _ hy)
    have := h x (List.mem_cons_self ..)
    simp only [List.map_cons, List.sum_cons]
    omega
theorem maxI_le_all {c : Int} {ns : List Int} (h0 : 0 < ns.length) (h : ∀ x ∈ ns, x ≤ c) : maxI ns ≤ c := h _ (maxI_mem h0)
theorem kids_len {qs : List Kid} {c : Nat} (h : ∀ q ∈ qs, q.rs.length ≤ c) : ((qs.map (·.rs)).flatten).length ≤ qs.length * c := by
  rw [List.length_flatten, List.map_map]
  exact sum_leN h
theorem capT_le : ∀ d, d ≤ 2 → capT d ≤ 13 := by decide
theorem capR_le : ∀ d, d ≤ 2 → capR d ≤ 9 := by decide
section
variable {d : Nat} {qs : List Kid}
theorem kids_small (hd : d ≤ 1) (h : ∀ q ∈ qs, Drawn d q) (h0 : 0 < qs.length) (h3 : qs.length ≤ 3) : Small (qs.map (·.p)) ∧ 1 ≤ taS qs ∧ taS qs ≤ capT (d + 1) ∧ 1 ≤ deS qs ∧ deS qs ≤ d + 1 + 1 ∧ (qs.map fun q => q.rs.length).sum ≤ capR (d + 1) := by
  have a1 : ((qs.map (·.p)).map (·.ta)).sum ≤ qs.length * (capT d : Int) := by
    rw [List.map_map]
    exact sum_le fun q hq => (h q hq).ta
  have a0 : 0 ≤ ((qs.map (·.p)).map (·.ta)).sum := by
    rw [List.map_map]
    exact sum_pos fun q hq => by have := (h q hq).t0; show 0 ≤ q.p.ta; omega
  have a2 : (qs.length : Int) * (capT d : Int) ≤ 3 * (capT d : Int) := Int.mul_le_mul_of_nonneg_right (by omega) (by omega)
  have hl : 0 < ((qs.map (·.p)).map (·.de)).length := by simpa using h0
  have b1 : maxI ((qs.map (·.p)).map (·.de)) ≤ (d + 1 : Nat) := maxI_le_all hl fun x hx => by
    rw [List.map_map] at hx
    obtain ⟨q, hq, rfl⟩ := List.mem_map.mp hx
    exact (h q hq).de
  have b2 : 1 ≤ maxI ((qs.map (·.p)).map (·.de)) := by
    have := maxI_mem hl
    rw [List.map_map] at this
    obtain ⟨q, hq, e⟩ := List.mem_map.mp this
    have := (h q hq).d0
    rw [List.map_map, ← e]
    exact this
  have c1 : (qs.map fun q => q.rs.length).sum ≤ qs.length * capR d := sum_leN fun q hq => (h q hq).rs
  have c2 : qs.length * capR d ≤ 3 * capR d := Nat.mul_le_mul_right _ h3
  have e1 : capT d ≤ 4 := by
    have : ∀ d, d ≤ 1 → capT d ≤ 4 := by decide
    exact this d hd
  have e2 : capT (d + 1) = 1 + 3 * capT d := rfl
  have e3 : capR (d + 1) = 3 * capR d := rfl
  refine ⟨⟨by simpa using h0, by simp; omega, by omega, by omega⟩, by unfold taS; omega, by unfold taS; rw [e2]; omega, by unfold deS; omega, by unfold deS; omega, by omega⟩
theorem drawn_join (hd : d ≤ 1) (h : ∀ q ∈ qs, Drawn d q) (h0 : 0 < qs.length) (h3 : qs.length ≤ 3) : Drawn (d + 1) (joinK qs) := by
  obtain ⟨s, t0, t1, d0, d1, r⟩ := kids_small hd h h0 h3
  have := capR_le (d + 1) (by omega)
  refine ⟨tr_join (by omega) (fun q hq => (h q hq).tr) s (by omega), t1, t0, d1, d0, ?_, hd_join (fun p hp => by
    obtain ⟨q, hq, rfl⟩ := List.mem_map.mp hp
    exact ⟨(h q hq).tr.k.ok, (h q hq).ho⟩)⟩
  show ((qs.map (·.rs)).flatten).length ≤ _
  rw [List.length_flatten, List.map_map]
  exact r
theorem drawn_meet (hd : d ≤ 1) (h : ∀ q ∈ qs, Drawn d q) (h0 : 0 < qs.length) (h3 : qs.length ≤ 3) : Drawn (d + 1) (meetK qs) := by
  obtain ⟨s, t0, t1, d0, d1, r⟩ := kids_small hd h h0 h3
  have := capR_le (d + 1) (by omega)
  refine ⟨tr_meet (by omega) (fun q hq => (h q hq).tr) s (by omega), t1, t0, d1, d0, ?_, hd_meet (fun p hp => by
    obtain ⟨q, hq, rfl⟩ := List.mem_map.mp hp
    exact ⟨(h q hq).tr.k.ok, (h q hq).ho⟩)⟩
  show ((qs.map (·.rs)).flatten).length ≤ _
  rw [List.length_flatten, List.map_map]
  exact r
theorem drawn_less (hd : d ≤ 1) {x y : Kid} (hx : Drawn d x) (hy : Drawn d y) : Drawn (d + 1) (lessK x y) := by
  obtain ⟨s, t0, t1, d0, d1, r⟩ := kids_small (qs := [x, y]) hd (fun q hq => by
    simp only [List.mem_cons, List.not_mem_nil, or_false] at hq
    rcases hq with rfl | rfl
    · exact hx
    · exact hy) (by simp) (by simp)
  have := capR_le (d + 1) (by omega)
  simp only [List.map_cons, List.map_nil, List.sum_cons, List.sum_nil, taS, deS] at t0 t1 d0 d1 r
  have md : maxI [x.p.de, y.p.de] = if y.p.de > x.p.de then y.p.de else x.p.de := by
    have q : maxI [x.p.de, y.p.de] = max x.p.de y.p.de := rfl
    rw [q]
    split <;> omega
  refine ⟨tr_less (by omega) hx.tr hy.tr s (by omega), ?_, ?_, ?_, ?_, ?_, hd_less ⟨hx.tr.k.ok, hx.ho⟩ ⟨hy.tr.k.ok, hy.ho⟩⟩
  · show 1 + x.p.ta + y.p.ta ≤ _
    omega
  · show 1 ≤ 1 + x.p.ta + y.p.ta
    omega
  · show 1 + _ ≤ _
    rw [← md]
    omega
  · show 1 ≤ 1 + _
    rw [← md]
    omega
  · show (x.rs ++ y.rs).length ≤ _
    rw [List.length_append]
    omega
theorem drawn_turn (hd : d ≤ 1) {x : Kid} (hx : Drawn d x) : Drawn (d + 1) (turnK x) := by
  obtain ⟨s, t0, t1, d0, d1, r⟩ := kids_small (qs := [x]) hd (fun q hq => by
    simp only [List.mem_cons, List.not_mem_nil, or_false] at hq
    rw [hq]
    exact hx) (by simp) (by simp)
  have := capR_le (d + 1) (by omega)
  simp only [List.map_cons, List.map_nil, List.sum_cons, List.sum_nil, taS, deS] at t0 t1 d0 d1 r
  have md : maxI [x.p.de] = x.p.de := rfl
  rw [md] at d0 d1
  refine ⟨tr_turn (by omega) hx.tr s (by omega), ?_, ?_, ?_, ?_, ?_, hd_turn ⟨hx.tr.k.ok, hx.ho⟩⟩
  · show 1 + x.p.ta ≤ _
    omega
  · show 1 ≤ 1 + x.p.ta
    omega
  · show 1 + x.p.de ≤ _
    omega
  · show 1 ≤ 1 + x.p.de
    omega
  · show x.rs.length ≤ _
    omega
end
theorem drawn_up {d d' : Nat} {q : Kid} (h : Drawn d q) (l : d ≤ d') : Drawn d' q := by
  have m : ∀ {a b : Nat}, a ≤ b → capT a ≤ capT b ∧ capR a ≤ capR b := by
    intro a b hab
    induction hab with
    | refl => exact ⟨Nat.le_refl _, Nat.le_refl _⟩
    | step _ ih => exact ⟨Nat.le_trans ih.1 (by show _ ≤ 1 + 3 * _; omega), Nat.le_trans ih.2 (by show _ ≤ 3 * _; omega)⟩
  have := m l
  exact ⟨h.tr.up (by omega), by have := h.ta; omega, h.t0, by have := h.de; omega, h.d0, by have := h.rs; omega, h.ho.up (by omega)⟩
theorem drawn_none : Drawn 0 noneK := ⟨tr_none, by decide, by decide, by decide, by decide, by decide, hd_none.up (by decide)⟩
theorem drawn_row {r : D} {t : Int} (h : RowOk r) (ht : m_Row_times [r] = some (.int t)) (t0 : 0 ≤ t) (t1 : t < 2 ^ 1440) : Drawn 0 (rowK r t) := ⟨tr_row h ht t0 t1, by show (1 : Int) ≤ (1 : Nat); decide, by show (1 : Int) ≤ 1; decide, by show (1 : Int) ≤ _; decide, by show (1 : Int) ≤ 1; decide, by show 1 ≤ 1; decide, hd_of h ht⟩
end DL
set_option maxRecDepth 100000
set_option exponentiation.threshold 2000
namespace DL
open PySem L2
theorem words_of_tree {p : Int} (h0 : 2 ≤ p) (h1 : p < 9) : ∃ w : Str, L2.atI [D.str "join", .str "meet", .str "less", .str "turn", .str "join", .str "less", .str "turn"] (p - 2) = some (.str w) ∧ (w = "join" ∨ w = "meet" ∨ w = "less" ∨ w = "turn") := by
  rcases (by omega : p = 2 ∨ p = 3 ∨ p = 4 ∨ p = 5 ∨ p = 6 ∨ p = 7 ∨ p = 8) with rfl | rfl | rfl | rfl | rfl | rfl | rfl <;> exact ⟨_, rfl, by simp⟩
theorem many_of {a b c d : D} : (keyD (.str "join")).bind (fun k => findD [.inr "join", .inr "meet", .inr "less", .inr "turn"] [a, b, c, d] k) = some a ∧
    (keyD (.str "meet")).bind (fun k => findD [.inr "join", .inr "meet", .inr "less", .inr "turn"] [a, b, c, d] k) = some b ∧
    (keyD (.str "less")).bind (fun k => findD [.inr "join", .inr "meet", .inr "less", .inr "turn"] [a, b, c, d] k) = some c ∧
    (keyD (.str "turn")).bind (fun k => findD [.inr "join", .inr "meet", .inr "less", .inr "turn"] [a, b, c, d] k) = some d := by
  refine ⟨?_, ?_, ?_, ?_⟩ <;> rfl
theorem times_of {d : D} {t : Int} (h : RowOk d) (ht : m_Row_times [d] = some (.int t)) (ρ : Sl) {f : DE} (hf : f ρ = some d) : dMeth 0 t_times f aNil ρ = some (.int t) := by
  obtain ⟨mm, hh, mo, dm, wm, rfl, _⟩ := h.ex
  simp [hf, t_times, ht]
theorem law_tree_ok {ns : List Int} {mx : Bool} : ∀ (d : Nat), d ≤ 2 → ∀ (j n : Nat), d < j → (n + 1) * 4 ^ d ≤ 20000 → ∃ q, m__law_tree j [.scr ns, .int n, .int d, .bl mx] = some q.t ∧ Drawn d q := by
  intro d
  induction d with
  | zero =>
    intro _ j n hj hn
    obtain ⟨j, rfl, _⟩ := suc (n := 0) hj
    have hn : n ≤ 20000 := by omega
    obtain ⟨ds, e, hd⟩ := digits_ok (c := cellI ns (1 + 2 * n)) (mx := mx) (ss := [9, 3, 16]) (by decide) (by decide)
    obtain ⟨p0, _, rfl, a0, b0, p1, _, rfl, a1, b1, p2, _, rfl, a2, b2, hd⟩ := hd
    cases hd
    have c1 := cell_ok (ns := ns) (k := 1 + 2 * n) (by omega)
    have c2 := cell_ok (ns := ns) (k := 2 + 2 * n) (by omega)
    have i0 : L2.atI (intD [p0, p1, p2]) 0 = some (.int p0) := rfl
    have i2 : L2.atI (intD [p0, p1, p2]) 2 = some (.int p2) := rfl
    have ss : intD [9, 3, 16] = [.int 9, .int 3, .int 16] := rfl
    rw [ss] at e
    obtain ⟨r, er, hr⟩ := law_row_ok (c := cellI ns (2 + 2 * n)) (mx := mx)
    obtain ⟨t, et, t0, t1⟩ := hr.times
    have cc1 : ((1 + 2 * n : Nat) : Int) = 1 + 2 * (n : Int) := by omega
    have cc2 : ((2 + 2 * n : Nat) : Int) = 2 + 2 * (n : Int) := by omega
    rw [cc1] at c1
    rw [cc2] at c2
    generalize intD [p0, p1, p2] = dd at *
    by_cases z : p2 = 3
    · refine ⟨noneK, ?_, drawn_none⟩
      show runD 9 (m__law_tree_b (m__law_tree j)) _ = some (.tup [.str "none", .lst []])
      unfold m__law_tree_b
      simp [startD, apD, c1, e, opIx, i0, i2, z]
    · refine ⟨rowK r t, ?_, drawn_row hr et t0 t1⟩
      have tm := times_of hr et [.val (.scr ns), .val (.int n), .val (.int 0), .val (.bl mx), .val (.lst dd), .val r, .un, .un, .un] (f := dVar 5) rfl
      simp only [s_meth, s_var, List.getElem?_cons_succ, List.getElem?_cons_zero, Option.bind_some, s_nil, List.length_nil, if_true] at tm
      show runD 9 (m__law_tree_b (m__law_tree j)) _ = some (.tup [.str "row", .lst [r, .int t]])
      unfold m__law_tree_b
      simp [startD, apD, c1, c2, e, opIx, i0, i2, z, er, tm]
  | succ d ih =>
    intro hd2 j n hj hn
    obtain ⟨j, rfl, hj⟩ := suc hj
    have hp : (n + 1) * 4 ^ (d + 1) = 4 * (n + 1) * 4 ^ d := by rw [Nat.pow_succ, Nat.mul_comm (4 ^ d) 4, ← Nat.mul_assoc, Nat.mul_comm 4 (n + 1)]
    have hp1 : 1 ≤ 4 ^ d := Nat.one_le_pow _ _ (by omega)
    have hn4 : 4 * (n + 1) ≤ 20000 := by
      have := Nat.mul_le_mul_left (4 * (n + 1)) hp1
      omega
    obtain ⟨ds, e, hd⟩ := digits_ok (c := cellI ns (1 + 2 * n)) (mx := mx) (ss := [9, 3, 16]) (by decide) (by decide)
    obtain ⟨p0, _, rfl, a0, b0, p1, _, rfl, a1, b1, p2, _, rfl, a2, b2, hd⟩ := hd
    cases hd
    have c1 := cell_ok (ns := ns) (k := 1 + 2 * n) (by omega)
    have c2 := cell_ok (ns := ns) (k := 2 + 2 * n) (by omega)
    have i0 : L2.atI (intD [p0, p1, p2]) 0 = some (.int p0) := rfl
    have i1 : L2.atI (intD [p0, p1, p2]) 1 = some (.int p1) := rfl
    have i2 : L2.atI (intD [p0, p1, p2]) 2 = some (.int p2) := rfl
    have ss : intD [9, 3, 16] = [.int 9, .int 3, .int 16] := rfl
    rw [ss] at e
    obtain ⟨r, er, hr⟩ := law_row_ok (c := cellI ns (2 + 2 * n)) (mx := mx)
    obtain ⟨t, et, t0, t1⟩ := hr.times
    have cc1 : ((1 + 2 * n : Nat) : Int) = 1 + 2 * (n : Int) := by omega
    have cc2 : ((2 + 2 * n : Nat) : Int) = 2 + 2 * (n : Int) := by omega
    rw [cc1] at c1
    rw [cc2] at c2
    generalize intD [p0, p1, p2] = dd at *
    obtain ⟨D1, hD⟩ : ∃ D1 : Int, D1 = ((d + 1 : Nat) : Int) := ⟨_, rfl⟩
    have nz : ¬ D1 = 0 := by omega
    have dd1 : D1 - 1 = d := by omega
    rw [← hD]
    by_cases y : p0 < 2
    · by_cases z : p2 = 3
      · refine ⟨noneK, ?_, drawn_up drawn_none (by omega)⟩
        show runD 9 (m__law_tree_b (m__law_tree j)) _ = some (.tup [.str "none", .lst []])
        unfold m__law_tree_b
        simp [startD, apD, c1, e, opIx, i0, i2, z, y]
      · refine ⟨rowK r t, ?_, drawn_up (drawn_row hr et t0 t1) (by omega)⟩
        have tm := times_of hr et [.val (.scr ns), .val (.int n), .val (.int D1), .val (.bl mx), .val (.lst dd), .val r, .un, .un, .un] (f := dVar 5) rfl
        simp only [s_meth, s_var, List.getElem?_cons_succ, List.getElem?_cons_zero, Option.bind_some, s_nil, List.length_nil, if_true] at tm
        show runD 9 (m__law_tree_b (m__law_tree j)) _ = some (.tup [.str "row", .lst [r, .int t]])
        unfold m__law_tree_b
        simp [startD, apD, c1, c2, e, opIx, i0, i2, z, er, tm, y]
    · have kid : ∀ k : Nat, k < 3 → ∃ q, m__law_tree j [.scr ns, .int (3 * (n : Int) + 1 + k), .int d, .bl mx] = some q.t ∧ Drawn d q := fun k hk => by
        obtain ⟨q, e, h⟩ := ih (by omega) j (3 * n + 1 + k) (by omega) (by
          have : (3 * n + 1 + k + 1) * 4 ^ d ≤ 4 * (n + 1) * 4 ^ d := Nat.mul_le_mul_right _ (by omega)
          omega)
        rw [show ((3 * n + 1 + k : Nat) : Int) = 3 * (n : Int) + 1 + k by omega] at e
        exact ⟨q, e, h⟩
      have kids : ∀ (w : Str) (many : Int), 0 ≤ many → many ≤ 3 → ∃ qs : List Kid, lcD (tgN 8) tTrue (dCall 4 (m__law_tree j) (aCons (dVar 0) (aCons (dOp opAdd (dOp opAdd (dOp opMul (dC (.int 3)) (dVar 1)) (dC (.int 1))) (dVar 8)) (aCons (dOp opSub (dVar 2) (dC (.int 1))) (aCons (dVar 3) aNil)))))
          [.val (.scr ns), .val (.int n), .val (.int D1), .val (.bl mx), .val (.lst dd), .un, .val (.str w), .val (.int many), .un] (rngD 0 many.toNat) = some (qs.map (·.t)) ∧ (qs.length : Int) = many ∧ ∀ q ∈ qs, Drawn d q := by
        intro w many m0 m3
        obtain ⟨ys, e1, e2, e3⟩ := lc_ex (T := tgN 8) (elt := dCall 4 (m__law_tree j) (aCons (dVar 0) (aCons (dOp opAdd (dOp opAdd (dOp opMul (dC (.int 3)) (dVar 1)) (dC (.int 1))) (dVar 8)) (aCons (dOp opSub (dVar 2) (dC (.int 1))) (aCons (dVar 3) aNil)))))
          (ρ := [.val (.scr ns), .val (.int n), .val (.int D1), .val (.bl mx), .val (.lst dd), .un, .val (.str w), .val (.int many), .un]) (P := fun y => ∃ q : Kid, y = q.t ∧ Drawn d q) (rngD 0 many.toNat) (fun x hx => by
            obtain ⟨k, hk, rfl⟩ := mem_rng hx
            obtain ⟨q, e, h⟩ := kid k (by omega)
            exact ⟨_, q.t, rfl, by simp [apD, dd1, e], q, rfl, h⟩)
        obtain ⟨qs, rfl, h⟩ := ex_list e3
        refine ⟨qs, e1, ?_, h⟩
        rw [List.length_map, len_rng] at e2
        omega
      obtain ⟨w, ew, hw⟩ := words_of_tree (p := p0) (by omega) b0
      have fin : ∀ (many : Int) (qs : List Kid), 0 ≤ many → many ≤ 3 → (keyD (.str w)).bind (fun k => findD [.inr "join", .inr "meet", .inr "less", .inr "turn"] [.int (1 + p1), .int (1 + p1), .int 2, .int 1] k) = some (.int many) →
          lcD (tgN 8) tTrue (dCall 4 (m__law_tree j) (aCons (dVar 0) (aCons (dOp opAdd (dOp opAdd (dOp opMul (dC (.int 3)) (dVar 1)) (dC (.int 1))) (dVar 8)) (aCons (dOp opSub (dVar 2) (dC (.int 1))) (aCons (dVar 3) aNil)))))
          [.val (.scr ns), .val (.int n), .val (.int D1), .val (.bl mx), .val (.lst dd), .un, .val (.str w), .val (.int many), .un] (rngD 0 many.toNat) = some (qs.map (·.t)) →
          m__law_tree (j + 1) [.scr ns, .int n, .int D1, .bl mx] = some (.tup [.str w, .lst (qs.map (·.t))]) := by
        intro many qs m0 m3 hm hq
        have r1 : -4611686018427387904 ≤ many := by omega
        have r2 : many < 4611686018427387904 := by omega
        have r5 : many.toNat ≤ 100000 := by omega
        show runD 9 (m__law_tree_b (m__law_tree j)) _ = _
        unfold m__law_tree_b
        simp [startD, apD, c1, e, opIx, i0, i1, i2, y, nz, ew, dDct, opDix]
        rw [hm]
        have r6 : many ≤ 100000 := by omega
        simp [apD, oLc, itR1, r1, r2, r6, len_rng, hq]
      obtain ⟨M1, M2, M3, M4⟩ := many_of (a := .int (1 + p1)) (b := .int (1 + p1)) (c := .int 2) (d := .int 1)
      rcases hw with rfl | rfl | rfl | rfl
      · obtain ⟨qs, eq, hl, hq⟩ := kids "join" (1 + p1) (by omega) (by omega)
        exact ⟨joinK qs, fin _ _ (by omega) (by omega) M1 eq, drawn_join (by omega) hq (by omega) (by omega)⟩
      · obtain ⟨qs, eq, hl, hq⟩ := kids "meet" (1 + p1) (by omega) (by omega)
        exact ⟨meetK qs, fin _ _ (by omega) (by omega) M2 eq, drawn_meet (by omega) hq (by omega) (by omega)⟩
      · obtain ⟨qs, eq, hl, hq⟩ := kids "less" 2 (by omega) (by omega)
        obtain ⟨x, y, rfl⟩ : ∃ x y, qs = [x, y] := by
          match qs, hl with
          | [x, y], _ => exact ⟨x, y, rfl⟩
        exact ⟨lessK x y, fin _ _ (by omega) (by omega) M3 eq, drawn_less (by omega) (hq x (by simp)) (hq y (by simp))⟩
      · obtain ⟨qs, eq, hl, hq⟩ := kids "turn" 1 (by omega) (by omega)
        obtain ⟨x, rfl⟩ : ∃ x, qs = [x] := by
          match qs, hl with
          | [x], _ => exact ⟨x, rfl⟩
        exact ⟨turnK x, fin _ _ (by omega) (by omega) M4 eq, drawn_turn (by omega) (hq x (by simp))⟩
end DL
set_option maxRecDepth 100000
set_option exponentiation.threshold 2000
namespace DL
open PySem L2
/-! ### lists of whole numbers alike -/
theorem toPL_int : ∀ l : List Int, toP.toPL (intD l) = some (l.map PyData.int)
  | [] => rfl
  | x :: l => by
    show (match toP (.int x), toP.toPL (intD l) with
      | some p, some ps => some (p :: ps)
      | _, _ => none) = _
    rw [toPL_int l]
    rfl
theorem toP_int (l : List Int) : toP (.lst (intD l)) = some (.list (l.map PyData.int)) := by
  show (toP.toPL (intD l)).map PyData.list = _
  rw [toPL_int]
  rfl
theorem lay_int : ∀ l : List Int, PyData.canLayAll0 (l.map PyData.int) = true
  | [] => rfl
  | x :: l => by
    show (PyData.canLay0 (.int x) && PyData.canLayAll0 (l.map PyData.int)) = true
    rw [lay_int l]
    rfl
theorem depth_int : ∀ l : List Int, PyData.depthAll (l.map PyData.int) = 0
  | [] => rfl
  | x :: l => by
    show max (PyData.depth (.int x)) (PyData.depthAll (l.map PyData.int)) = 0
    rw [depth_int l]
    rfl
theorem shaped_int (l : List Int) : SeqAt.shaped (.list (l.map PyData.int)) = true := by
  have h1 := lay_int l
  have h2 := depth_int l
  have e1 : PyData.canLay0 (.list (l.map PyData.int)) = true := h1
  have e2 : PyData.depth (.list (l.map PyData.int)) = 1 := by
    show PyData.depthAll (l.map PyData.int) + 1 = 1
    rw [h2]
  show (PyData.canLay0 _ && decide (PyData.depth _ ≤ 64)) = true
  rw [e1, e2]
  rfl
theorem eqvAll_int : ∀ l : List Int, PyData.eqvAll (l.map PyData.int) (l.map PyData.int) = true
  | [] => rfl
  | x :: l => by
    show ((x == x) && PyData.eqvAll (l.map PyData.int) (l.map PyData.int)) = true
    rw [eqvAll_int l]
    simp
theorem eqv_int (l : List Int) : PyData.eqv (.list (l.map PyData.int)) (.list (l.map PyData.int)) = true := eqvAll_int l
theorem eqD_int (l : List Int) : eqD (.lst (intD l)) (.lst (intD l)) = some true := by
  show (match deepEq (.lst (intD l)) (.lst (intD l)) with
    | some b => some b
    | none => _) = _
  unfold deepEq
  rw [toP_int]
  simp only [shaped_int, eqv_int, Bool.and_self, if_true]
/-! ### told -/
theorem forT_skip {T : TgD} {t : DB} {F : DS} {i : Nat} (hT : ∀ d, T d = some [(i, d)]) : ∀ (ds : List D) (ρ : Sl), (∀ d ∈ ds, ∀ ρ : Sl, i < ρ.length → t (ρ.set i (.val d)) = some false) → i < ρ.length → ∃ x, forT T t F ds ρ = some (.nx (ρ.set i x))
  | [], ρ, _, hi => ⟨ρ[i], by rw [List.set_getElem_self]; rfl⟩
  | d :: ds, ρ, h, hi => by
    obtain ⟨x, e⟩ := forT_skip hT ds (ρ.set i (.val d)) (fun d hd => h d (List.mem_cons_of_mem _ hd)) (by rw [List.length_set]; exact hi)
    refine ⟨x, ?_⟩
    unfold forT
    rw [hT]
    have z := h d (List.mem_cons_self ..) ρ hi
    simp only [Option.bind_some]
    show (match t (ρ.set i (.val d)) with
      | some false => forT T t F ds (ρ.set i (.val d))
      | some true => _
      | none => none) = _
    rw [z]
    simp only
    rw [e, List.set_set]
theorem law_whole_ok (x : Int) : m__law_whole [.int x] = some (.bl true) := by
  unfold m__law_whole m__law_whole_b
  rfl
theorem told_ok {q : Kid} (h : Drawn 2 q) {k : Nat} (hk : k < 91) : m__law_told [q.p.b, q.t, .int k] = some (.bl true) := by
  have e1 := h.tr.m 8 (by decide) k hk
  have e2 := meth1 (h.tr.k.on 8 (by decide) k hk)
  obtain ⟨c, fs, ec, e2⟩ := e2
  have hl := h.tr.k.ok.len k hk
  have hm := month_ok hk
  have hf := forT_skip (T := tgN 5) (t := dNotT (asB (dCall 1 m__law_whole (aCons (dVar 5) aNil)))) (F := sRet (dC (.bl false))) (i := 5) (fun _ => rfl) (intD (q.p.M k))
  have hz : ∀ d ∈ intD (q.p.M k), ∀ ρ : Sl, 5 < ρ.length → (dNotT (asB (dCall 1 m__law_whole (aCons (dVar 5) aNil)))) (ρ.set 5 (.val d)) = some false := by
    intro d hd ρ hr
    obtain ⟨x, _, rfl⟩ := List.mem_map.mp hd
    have g : (ρ.set 5 (S3.val (.int x)))[5]? = some (.val (.int x)) := by rw [List.getElem?_set_self hr]
    simp [g, law_whole_ok]
  obtain ⟨P, tp, sh, ev⟩ : ∃ P, toP (.lst (intD (q.p.M k))) = some (.list P) ∧ SeqAt.shaped (.list P) = true ∧ PyData.eqv (.list P) (.list P) = true := ⟨_, toP_int _, shaped_int _, eqv_int _⟩
  rw [ec]
  generalize hL : q.p.M k = l at *
  obtain ⟨x, ef⟩ := hf [.val (.ins c fs), .val q.t, .val (.int k), .val (.lst (intD l)), .own (intD l), .un] hz (by show 5 < 6; decide)
  have efs : sForT 4 (tgN 5) (dNotT (asB (dCall 1 m__law_whole (aCons (dVar 5) aNil)))) (sRet (dC (.bl false))) [.val (.ins c fs), .val q.t, .val (.int k), .val (.lst (intD l)), .own (intD l), .un] = some (.nx [.val (.ins c fs), .val q.t, .val (.int k), .val (.lst (intD l)), .own (intD l), x]) := ef
  have li : isiB "list" (.b "list") = some true := rfl
  cases l with
  | nil =>
    exfalso
    have : ([] : List Int).length = 0 := rfl
    omega
  | cons y l =>
    have hl' : (intD (y :: l)).length ≤ 100000 := by
      show ((y :: l).map D.int).length ≤ _
      rw [List.length_map]
      omega
    have ix : ixN ((intD (y :: l)).length + 1) 0 = some 0 := by
      unfold ixN
      rw [if_pos (by decide), if_pos (by omega)]
      rfl
    have i0 : L2.atI (intD (y :: l) ++ [D.int 0]) 0 = some (.int y) := by
      unfold L2.atI
      rw [List.length_append]
      show (ixN ((intD (y :: l)).length + 1) 0).bind _ = _
      rw [ix]
      rfl
    unfold m__law_told m__law_told_b
    simp [startD, apD, e1, e2, dOwnIsi, li, dOwnCmp, tp, sh, ev, efs, sApp, hl', sSetI, dOwnIx, i0, ix]
end DL
set_option maxRecDepth 100000
set_option exponentiation.threshold 2000
namespace DL
open PySem L2
theorem atI_int {l : List Int} {p : Int} (h0 : 0 ≤ p) (h1 : p < l.length) : ∃ y, L2.atI (l.map D.int) p = some (.int y) := by
  have hn : p.toNat < l.length := by omega
  refine ⟨l[p.toNat], ?_⟩
  rw [atI_lit h0 (by simpa using h1)]
  simp [hn]
/-! ### moments -/
theorem moment_ok (c : Int) (mx : Bool) : ∃ x, m__law_moment [.int c, .bl mx] = some (.int x) := by
  obtain ⟨ds, e, hd⟩ := digits_ok (c := c) (mx := true) (ss := [2401, 4, 366, 3, 3, 1440]) (by decide) (by decide)
  obtain ⟨p0, _, rfl, a0, b0, p1, _, rfl, a1, b1, p2, _, rfl, a2, b2, p3, _, rfl, a3, b3, p4, _, rfl, a4, b4, p5, _, rfl, a5, b5, hd⟩ := hd
  cases hd
  simp only [intD, List.map_cons, List.map_nil] at e
  obtain ⟨y1, e1⟩ := atI_int (l := [0, 59, 365, p2]) (p := p1) a1 b1
  obtain ⟨y2, e2⟩ := atI_int (l := [0, 1439, p5]) (p := p4) a4 b4
  simp only [List.map_cons, List.map_nil] at e1 e2
  have i0 : L2.atI [D.int p0, .int p1, .int p2, .int p3, .int p4, .int p5] 0 = some (.int p0) := rfl
  have i1 : L2.atI [D.int p0, .int p1, .int p2, .int p3, .int p4, .int p5] 1 = some (.int p1) := rfl
  have i2 : L2.atI [D.int p0, .int p1, .int p2, .int p3, .int p4, .int p5] 2 = some (.int p2) := rfl
  have i3 : L2.atI [D.int p0, .int p1, .int p2, .int p3, .int p4, .int p5] 3 = some (.int p3) := rfl
  have i4 : L2.atI [D.int p0, .int p1, .int p2, .int p3, .int p4, .int p5] 4 = some (.int p4) := rfl
  have i5 : L2.atI [D.int p0, .int p1, .int p2, .int p3, .int p4, .int p5] 5 = some (.int p5) := rfl
  unfold m__law_moment m__law_moment_b
  cases mx with
  | true => simp [startD, apD, e, opIx, i0, i1, i2, i3, i4, i5, e1, e2]
  | false =>
    by_cases g : (1000000000000000000 : Int) ≤ (if c < 0 then -c else c)
    · simp [startD, apD, bAbs, g]
    · simp [startD, apD, bAbs, g, e, opIx, i0, i1, i2, i3, i4, i5, e1, e2]
/-! ### near moments -/
theorem near_ok {t : D} {rs : List D} (ht : TrR 8 t rs) (ho : ∀ d ∈ rs, RowOk d) (hl : rs.length ≤ 1000) (c : Int) (mx : Bool) : ∃ x, m__law_near [t, .int c, .bl mx] = some (.int x) := by
  obtain ⟨ds, e, hd⟩ := digits_ok (c := c) (mx := mx) (ss := [3, 13, 7]) (by decide) (by decide)
  obtain ⟨p0, _, rfl, a0, b0, p1, _, rfl, a1, b1, p2, _, rfl, a2, b2, hd⟩ := hd
  cases hd
  simp only [intD, List.map_cons, List.map_nil] at e
  obtain ⟨x, em⟩ := moment_ok (c / 273) mx
  have ht : m__law_rows 8 [t] = some (.lst rs) := ht
  have i0 : L2.atI [D.int p0, .int p1, .int p2] 0 = some (.int p0) := rfl
  have i1 : L2.atI [D.int p0, .int p1, .int p2] 1 = some (.int p1) := rfl
  have i2 : L2.atI [D.int p0, .int p1, .int p2] 2 = some (.int p2) := rfl
  have ez : opEq (.lst []) (.lst []) = some (.bl true) := congrArg (Option.map D.bl) (eqD_int [])
  cases rs with
  | nil =>
    refine ⟨x, ?_⟩
    unfold m__law_near m__law_near_b
    simp [startD, apD, e, em, ht, ez]
  | cons r rs =>
    have en : eqD (.lst (r :: rs)) (.lst []) = some false := by
      show (match deepEq (.lst (r :: rs)) (.lst []) with
        | some b => some b
        | none => lenNe (.lst (r :: rs)) (.lst [])) = _
      have er : ∃ fs, r = .ins 0 fs := by
        obtain ⟨mm, hh, mo, dm, wm, F⟩ := (ho r (List.mem_cons_self ..)).f
        exact ⟨_, F.eq⟩
      obtain ⟨fs, rfl⟩ := er
      rfl
    have en : opEq (.lst (r :: rs)) (.lst []) = some (.bl false) := congrArg (Option.map D.bl) en
    by_cases g : p0 = 1
    · subst g
      refine ⟨x, ?_⟩
      unfold m__law_near m__law_near_b
      simp [startD, apD, e, em, ht, en, opIx, i0]
    · have hn : (0 : Int) < ((rs.length : Int) + 1) := by omega
      have hr : ∃ d, L2.atI (r :: rs) (p1 % ((rs.length : Int) + 1)) = some d ∧ RowOk d := by
        have h1 := Int.emod_nonneg p1 (b := (rs.length : Int) + 1) (by omega)
        have h2 := Int.emod_lt_of_pos p1 hn
        have hi : (p1 % ((rs.length : Int) + 1)).toNat < (r :: rs).length := by
          show _ < rs.length + 1
          omega
        refine ⟨(r :: rs)[(p1 % ((rs.length : Int) + 1)).toNat], ?_, ho _ (List.getElem_mem hi)⟩
        rw [atI_lit h1 (by show _ < ((rs.length + 1 : Nat) : Int); omega)]
        exact List.getElem?_eq_getElem hi
      obtain ⟨d, ed, od⟩ := hr
      obtain ⟨mm, hh, mo, dm, wm, F⟩ := od.f
      rcases next_from_ok F x with ⟨f, ps, en'⟩ | en'
      · obtain ⟨y, ey⟩ := atI_int (l := [0, 0, 0, 1, -1, 60, 1440]) (p := p2) a2 b2
        simp only [List.map_cons, List.map_nil] at ey
        have j0 : L2.atI [D.int f, .lst ps] 0 = some (.int f) := rfl
        refine ⟨f + y, ?_⟩
        unfold m__law_near m__law_near_b
        simp [startD, apD, e, em, ht, en, opIx, i0, i1, i2, g, bLen, hn, ed, en', j0, ey, isNon]
      · have j0 : L2.atI [D.non, .lst []] 0 = some .non := rfl
        refine ⟨x, ?_⟩
        unfold m__law_near m__law_near_b
        simp [startD, apD, e, em, ht, en, opIx, i0, i1, g, bLen, hn, ed, en', j0, isNon]
theorem bit_ok {q : Kid} (h : Drawn 2 q) (x : Int) : m__law_bit [q.p.b, .int x] = some (.bl true) := by
  have hd := date_eq (x / 1440)
  have kk := kind_of_ok (y := yOf (x / 1440)) (m12 (x / 1440))
  obtain ⟨c, fs, ec, e2⟩ := meth1 (h.tr.k.on 8 (by decide) (kdN (x / 1440)) (kdN_lt _))
  obtain ⟨c', fs', ec', e3⟩ := meth1 (h.ho 8 (by decide) x)
  rw [ec] at ec'
  cases ec'
  obtain ⟨a, ea, a0, a1⟩ := cell_at h.tr.k.ok x
  have d1 := (date_is (x / 1440)).d1
  have hb : hB q.p.M x = bt a (x % 1440).toNat := by
    unfold hB
    rw [ea]
    rfl
  have ai : L2.atI (intD (q.p.M (kdN (x / 1440)))) (dOf (x / 1440) - 1) = some (.int a) := by
    have := atI_nat (xs := intD (q.p.M (kdN (x / 1440)))) (i := (dOf (x / 1440) - 1).toNat) (x := .int a) (by unfold intD; rw [List.getElem?_map, ea]; rfl)
    rwa [Int.toNat_of_nonneg (by omega)] at this
  have hk : ((kdN (x / 1440) : Nat) : Int) = kindN (yOf (x / 1440)) (mOf (x / 1440)) := rfl
  rw [← hk] at kk
  have b2 := bA_bt a (x % 1440).toNat
  rw [hb] at e3
  have m0 : 0 ≤ x % 1440 := by omega
  have bt1 : opEq (.bl true) (.bl true) = some (.bl true) := rfl
  have bt2 : opEq (.bl false) (.bl false) = some (.bl true) := rfl
  rw [ec]
  unfold m__law_bit m__law_bit_b
  cases z : bt a (x % 1440).toNat with
  | true =>
    rw [z] at b2 e3
    simp [startD, apD, hd, kk, e2, opIx, ai, m0, b2, e3, bt1, bt2]
  | false =>
    rw [z] at b2 e3
    simp [startD, apD, hd, kk, e2, opIx, ai, m0, b2, e3, bt1, bt2]
end DL
set_option maxRecDepth 100000
set_option exponentiation.threshold 2000
namespace DL
open PySem L2
structure RowT where
  d : D
  t : Int
structure RowT.Ok (r : RowT) : Prop where
  ok : RowOk r.d
  tm : m_Row_times [r.d] = some (.int r.t)
  t0 : 0 ≤ r.t
  t1 : r.t < 2 ^ 1440
theorem rows_t {rs : List D} (h : ∀ d ∈ rs, RowOk d) : ∃ qs : List RowT, rs = qs.map (·.d) ∧ ∀ q ∈ qs, q.Ok :=
  ex_list fun d hd => by
    obtain ⟨t, e, t0, t1⟩ := (h d hd).times
    exact ⟨⟨d, t⟩, rfl, ⟨h d hd, e, t0, t1⟩⟩
def RowT.k (r : RowT) : Kid := rowK r.d r.t
theorem RowT.Ok.tr {r : RowT} (h : r.Ok) : Tr 1 r.k := tr_row h.ok h.tm h.t0 h.t1
theorem lcD_map {α : Type} {T : TgD} {elt : DE} {ρ : Sl} {f g : α → D} : ∀ (as : List α), (∀ a ∈ as, ∃ l, T (f a) = some l ∧ elt (apD ρ l) = some (g a)) → lcD T tTrue elt ρ (as.map f) = some (as.map g)
  | [], _ => rfl
  | a :: as, h => by
    obtain ⟨l, e1, e2⟩ := h a (List.mem_cons_self ..)
    have ih := lcD_map as fun b hb => h b (List.mem_cons_of_mem _ hb)
    rw [List.map_cons]
    unfold lcD
    simp [e1, tTrue, e2, ih]
theorem len8 {α : Type} {l : List α} (h : l.length = 8) : ∃ a b c d e f g i, l = [a, b, c, d, e, f, g, i] := by
  match l, h with
  | [a, b, c, d, e, f, g, i], _ => exact ⟨a, b, c, d, e, f, g, i, rfl⟩
theorem rows_small {qs : List RowT} (h0 : 0 < qs.length) (h8 : qs.length ≤ 8) : Small ((qs.map RowT.k).map (·.p)) ∧ ((qs.map RowT.k).map fun q => q.rs.length).sum ≤ 1000 := by
  have e1 : (((qs.map RowT.k).map (·.p)).map (·.ta)).sum ≤ (qs.length : Int) * 1 := by
    rw [List.map_map, List.map_map]
    exact sum_le fun q _ => by show (1 : Int) ≤ 1; decide
  have e2 : maxI (((qs.map RowT.k).map (·.p)).map (·.de)) ≤ 1 := maxI_le_all (by simpa using h0) fun x hx => by
    rw [List.map_map, List.map_map] at hx
    obtain ⟨q, _, rfl⟩ := List.mem_map.mp hx
    show (1 : Int) ≤ 1
    decide
  have e3 : ((qs.map RowT.k).map fun q => q.rs.length).sum ≤ qs.length * 1 := by
    rw [List.map_map]
    exact sum_leN fun q _ => by show 1 ≤ 1; decide
  exact ⟨⟨by simpa using h0, by simpa using h8, by omega, by omega⟩, by omega⟩
theorem rows_parts {qs : List RowT} (h : ∀ q ∈ qs, q.Ok) : ∀ q ∈ qs.map RowT.k, Tr 1 q := fun q hq => by
  obtain ⟨r, hr, rfl⟩ := List.mem_map.mp hq
  exact (h r hr).tr
theorem eight_ok {ns : List Int} {k : Nat} (hk : k < 91) (mx : Bool) : m__law_eight [.scr ns, .int k, .bl mx] = some (.bl true) := by
  obtain ⟨rs, z1, l1, o1⟩ := lc_ex (T := tgN 5) (elt := dCall 2 m__law_row (aCons (dCall 2 m__law_cell_at (aCons (dVar 0) (aCons (dOp opAdd (dC (.int 40)) (dVar 5)) aNil))) (aCons (dVar 2) aNil))) (ρ := [.val (.scr ns), .val (.int k), .val (.bl mx), .un, .un, .un, .un]) (P := RowOk) (rngD 0 8) (fun x hx => by
    obtain ⟨j, hj, rfl⟩ := List.mem_map.mp hx
    have hj := List.mem_range.mp hj
    obtain ⟨y, ey, oy⟩ := law_row_ok (c := cellI ns (40 + j)) (mx := mx)
    have ce := cell_ok (ns := ns) (k := 40 + j) (by omega)
    rw [show ((40 + j : Nat) : Int) = 40 + (j : Int) by omega] at ce
    exact ⟨[(5, .int (0 + j))], y, rfl, by simp [apD, ce, ey], oy⟩)
  obtain ⟨qs, rfl, hq⟩ := rows_t o1
  have l8 : qs.length = 8 := by
    rw [List.length_map] at l1
    rw [l1]
    rfl
  have z2 := lcD_map (T := tgN 6) (elt := dTup (aCons (dC (.str "row")) (aCons (dO (oLst (aCons (dVar 6) (aCons (dMeth 0 t_times (dVar 6) aNil) aNil)))) aNil))) (ρ := [.val (.scr ns), .val (.int k), .val (.bl mx), .val (.lst (qs.map (·.d))), .un, .un, .un]) (f := fun r : RowT => r.d) (g := fun r => r.k.t) qs (fun r hr => by
    obtain ⟨mm, hh, mo, dm, wm, F⟩ := (hq r hr).ok.f
    have tm := (hq r hr).tm
    refine ⟨[(6, r.d)], rfl, ?_⟩
    show _ = some (D.tup [.str "row", .lst [r.d, .int r.t]])
    rw [F.eq] at tm ⊢
    simp [apD, t_times, tm])
  have z3 := lcD_map (T := tgN 6) (elt := dCall 1 (m__law_make 8) (aCons (dVar 6) aNil)) (ρ := [.val (.scr ns), .val (.int k), .val (.bl mx), .val (.lst (qs.map fun r => r.k.t)), .un, .un, .un]) (f := fun r : RowT => r.k.t) (g := fun r => r.k.p.b) qs (fun r hr => by
    have mk : m__law_make 8 [r.k.t] = some r.k.p.b := (hq r hr).tr.b 8 (by decide)
    refine ⟨[(6, r.k.t)], rfl, ?_⟩
    simp [apD, mk])
  obtain ⟨r0, r1, r2, r3, r4, r5, r6, r7, rfl⟩ := len8 l8
  obtain ⟨s8, n8⟩ := rows_small (qs := [r0, r1, r2, r3, r4, r5, r6, r7]) (by simp) (by simp)
  have hq7 : ∀ q ∈ [r0, r1, r2, r3, r4, r6, r7], q.Ok := fun q h => hq q (by
    simp only [List.mem_cons, List.not_mem_nil, or_false] at h ⊢
    rcases h with h | h | h | h | h | h | h <;> simp [h])
  obtain ⟨s7, n7⟩ := rows_small (qs := [r0, r1, r2, r3, r4, r6, r7]) (by simp) (by simp)
  have p8 := rows_parts hq
  have p7 := rows_parts hq7
  have t8 := tr_join (n := 1) (by decide) p8 s8 n8
  have t7 := tr_meet (n := 1) (by decide) p7 s7 n7
  have m8 := t8.m 8 (by decide) k hk
  have m7 := t7.m 8 (by decide) k hk
  have b8 := joined_made (n := 1) (by decide) (parts_of p8) s8
  have b7 := met_made (n := 1) (by decide) (parts_of p7) s7
  obtain ⟨c8, f8, ec8, e8⟩ := meth1 (t8.k.on 8 (by decide) k hk)
  obtain ⟨c7, f7, ec7, e7⟩ := meth1 (t7.k.on 8 (by decide) k hk)
  have q8 := eqD_int ((joinK ([r0, r1, r2, r3, r4, r5, r6, r7].map RowT.k)).p.M k)
  have q7 := eqD_int ((meetK ([r0, r1, r2, r3, r4, r6, r7].map RowT.k)).p.M k)
  generalize (joinK ([r0, r1, r2, r3, r4, r5, r6, r7].map RowT.k)).p.M k = L8 at *
  generalize (meetK ([r0, r1, r2, r3, r4, r6, r7].map RowT.k)).p.M k = L7 at *
  cases ec8
  cases ec7
  have n8' : opNe (.lst (intD L8)) (.lst (intD L8)) = some (.bl false) := congrArg (Option.map fun b => D.bl (!b)) q8
  have n7' : opEq (.lst (intD L7)) (.lst (intD L7)) = some (.bl true) := congrArg (Option.map D.bl) q7
  have m8 : m__law_masks 8 [.tup [.str "join", .lst [r0.k.t, r1.k.t, r2.k.t, r3.k.t, r4.k.t, r5.k.t, r6.k.t, r7.k.t]], .int k] = some (.lst (intD L8)) := m8
  have m7 : m__law_masks 8 [.tup [.str "meet", .lst [r0.k.t, r1.k.t, r2.k.t, r3.k.t, r4.k.t, r6.k.t, r7.k.t]], .int k] = some (.lst (intD L7)) := m7
  have b8 : i_Joined [.lst [r0.k.p.b, r1.k.p.b, r2.k.p.b, r3.k.p.b, r4.k.p.b, r5.k.p.b, r6.k.p.b, r7.k.p.b]] = some [.tup [r0.k.p.b, r1.k.p.b, r2.k.p.b, r3.k.p.b, r4.k.p.b, r5.k.p.b, r6.k.p.b, r7.k.p.b]] := b8
  have b7 : i_Met [.lst [r0.k.p.b, r1.k.p.b, r2.k.p.b, r3.k.p.b, r4.k.p.b, r6.k.p.b, r7.k.p.b]] = some [.tup [r0.k.p.b, r1.k.p.b, r2.k.p.b, r3.k.p.b, r4.k.p.b, r6.k.p.b, r7.k.p.b]] := b7
  have e8 : ((T_on_days 8 10).bind fun M => M [.ins 10 [.tup [r0.k.p.b, r1.k.p.b, r2.k.p.b, r3.k.p.b, r4.k.p.b, r5.k.p.b, r6.k.p.b, r7.k.p.b]], .int k]) = some (intD L8) := e8
  have e7 : ((T_on_days 8 11).bind fun M => M [.ins 11 [.tup [r0.k.p.b, r1.k.p.b, r2.k.p.b, r3.k.p.b, r4.k.p.b, r6.k.p.b, r7.k.p.b]], .int k]) = some (intD L7) := e7
  have len_r : (rngD 0 8).length = 8 := rfl
  simp only [List.map_cons, List.map_nil] at z1 z2 z3
  unfold m__law_eight m__law_eight_b
  generalize r0.k.t = t0 at *; generalize r1.k.t = t1 at *; generalize r2.k.t = t2 at *; generalize r3.k.t = t3 at *
  generalize r4.k.t = t4 at *; generalize r5.k.t = t5 at *; generalize r6.k.t = t6 at *; generalize r7.k.t = t7' at *
  generalize r0.k.p.b = u0 at *; generalize r1.k.p.b = u1 at *; generalize r2.k.p.b = u2 at *; generalize r3.k.p.b = u3 at *
  generalize r4.k.p.b = u4 at *; generalize r5.k.p.b = u5 at *; generalize r6.k.p.b = u6 at *; generalize r7.k.p.b = u7 at *
  have v1 : opSl (.lst [u0, u1, u2, u3, u4, u5, u6, u7]) none (some 5) = some (.lst [u0, u1, u2, u3, u4]) := rfl
  have v2 : opSl (.lst [u0, u1, u2, u3, u4, u5, u6, u7]) (some 6) none = some (.lst [u6, u7]) := rfl
  have v3 : opSl (.lst [t0, t1, t2, t3, t4, t5, t6, t7']) none (some 5) = some (.lst [t0, t1, t2, t3, t4]) := rfl
  have v4 : opSl (.lst [t0, t1, t2, t3, t4, t5, t6, t7']) (some 6) none = some (.lst [t6, t7']) := rfl
  have w1 : opAdd (.lst [u0, u1, u2, u3, u4]) (.lst [u6, u7]) = some (.lst [u0, u1, u2, u3, u4, u6, u7]) := rfl
  have w2 : opAdd (.lst [t0, t1, t2, t3, t4]) (.lst [t6, t7']) = some (.lst [t0, t1, t2, t3, t4, t6, t7']) := rfl
  simp [startD, apD, itR1, oLc, len_r, w1, w2, z1, z2, z3, itE, b8, b7, e8, e7, m8, m7, n8', n7', v1, v2, v3, v4]
end DL
set_option maxRecDepth 100000
set_option exponentiation.threshold 2000
namespace DL
open PySem L2
theorem mul_one_list {b : D} {n : Nat} (h : n ≤ 1000) {i : Int} (e : i = n) : opMul (.lst [b]) (.int i) = some (.lst (List.replicate n b)) := by
  subst e
  have t : (n : Int).toNat = n := by omega
  unfold opMul
  dsimp only
  rw [if_pos ⟨by omega, by omega, by simp; omega⟩, t]
  congr 2
  induction n with
  | zero => rfl
  | succ n ih => rw [List.replicate_succ, List.flatten_cons, ih (by omega) (by omega), List.replicate_succ]; rfl
theorem law_true (ns : List Int) (h : ns.length ≤ 63) : m_law [.scr ns] = some (.bl true) := by
  have c0 := cell_ok (ns := ns) (k := 0) (by decide)
  rw [show ((0 : Nat) : Int) = 0 from rfl] at c0
  obtain ⟨mx, hmx⟩ : ∃ mx : Bool, opEq (.int (cellI ns 0 % 2)) (.int 1) = some (.bl mx) := ⟨_, rfl⟩
  obtain ⟨q, et, dr⟩ := law_tree_ok (ns := ns) (mx := mx) 2 (by decide) 8 0 (by decide) (by decide)
  rw [show ((0 : Nat) : Int) = 0 from rfl, show ((2 : Nat) : Int) = 2 from rfl] at et
  obtain ⟨ds, e, hd⟩ := digits_ok (c := cellI ns 0 / 2) (mx := mx) (ss := [7, 7, 91, 91, 91, 91, 91, 91]) (by decide) (by decide)
  obtain ⟨p0, _, rfl, a0, b0, p1, _, rfl, a1, b1, p2, _, rfl, a2, b2, p3, _, rfl, a3, b3, p4, _, rfl, a4, b4, p5, _, rfl, a5, b5, p6, _, rfl, a6, b6, p7, _, rfl, a7, b7, hd⟩ := hd
  cases hd
  obtain ⟨n0, g0⟩ := Int.eq_ofNat_of_zero_le (a := 7 + p0) (by omega)
  obtain ⟨n1, g1⟩ := Int.eq_ofNat_of_zero_le (a := 84 + p1) (by omega)
  obtain ⟨n2, rfl⟩ := Int.eq_ofNat_of_zero_le a2
  obtain ⟨n3, rfl⟩ := Int.eq_ofNat_of_zero_le a3
  obtain ⟨n4, rfl⟩ := Int.eq_ofNat_of_zero_le a4
  obtain ⟨n5, rfl⟩ := Int.eq_ofNat_of_zero_le a5
  obtain ⟨n6, rfl⟩ := Int.eq_ofNat_of_zero_le a6
  obtain ⟨n7, rfl⟩ := Int.eq_ofNat_of_zero_le a7
  simp only [intD, List.map_cons, List.map_nil] at e
  have mk : m__law_make 8 [q.t] = some q.p.b := dr.tr.b 8 (by decide)
  have told : ∀ k : Nat, k < 91 → m__law_told [q.p.b, q.t, .int k] = some (.bl true) := fun k hk => told_ok dr hk
  have bit : ∀ x : Int, m__law_bit [q.p.b, .int x] = some (.bl true) := fun x => bit_ok dr x
  have near : ∀ c : Int, ∃ x, m__law_near [q.t, .int c, .bl mx] = some (.int x) := fun c => near_ok (dr.tr.r 8 (by decide)) dr.tr.ro (by have := dr.rs; have := capR_le 2 (by decide); omega) c mx
  have ei := eight_ok (ns := ns) (k := n4) (by omega) mx
  have t2 := told n2 (by omega)
  have hm := month_ok (k := n3) (by omega)
  have bo : m_Book_on_days [.ins 8 [], .int n3] = some (intD (zeroM n3)) := book_on (by omega)
  have ml := mul_one_list (b := .int 0) (n := (mon n3).2.1.toNat) (by omega) (i := (mon n3).2.1) (by omega)
  have zz : intD (zeroM n3) = List.replicate (mon n3).2.1.toNat (.int 0) := by
    unfold zeroM intD
    rw [List.map_replicate]
  have eq := eqD_int (zeroM n3)
  rw [zz] at bo eq
  have eq : opEq (.lst (List.replicate (mon n3).2.1.toNat (.int 0))) (.lst (List.replicate (mon n3).2.1.toNat (.int 0))) = some (.bl true) := congrArg (Option.map D.bl) eq
  have me := hm.1
  have i1 : L2.atI [D.int (mon n3).1, .int (mon n3).2.1, .int (mon n3).2.2] 1 = some (.int (mon n3).2.1) := rfl
  have tb : T_on_days 8 8 = some m_Book_on_days := rfl
  -- the kinds
  obtain ⟨ρ1, f1, ks, s6, hks, _, rfl⟩ := for_ind (T := tgN 6) (B := sIf (dNotT (asB (dCall 3 m__law_told (aCons (dVar 3) (aCons (dVar 2) (aCons (dVar 6) aNil)))))) (sRet (dC (.bl false))) sNil)
    (fun ds ρ => ∃ (ks : List Nat) (x : S3), ds = ks.map (fun k : Nat => D.int k) ∧ (∀ k ∈ ks, k < 91) ∧ ρ = [.val (.scr ns), .val (.bl mx), .val q.t, .val q.p.b, .val (.lst [.int p0, .int p1, .int n2, .int n3, .int n4, .int n5, .int n6, .int n7]), .val (.lst [.int n0, .int n1, .int n2, .int n3, .int n4, .int n5, .int n6, .int n7]), x, .un])
    (by
      rintro d ds ρ ⟨ks, x, hq, hk, rfl⟩
      cases ks with
      | nil => cases hq
      | cons k ks =>
        rw [List.map_cons] at hq
        obtain ⟨rfl, rfl⟩ := List.cons.inj hq
        have t := told k (hk k (List.mem_cons_self ..))
        exact ⟨_, _, rfl, by simp [apD, t]; rfl, ks, _, rfl, fun k h => hk k (List.mem_cons_of_mem _ h), rfl⟩)
    ([n0, n1, n2, n3, n4, n5, n6, n7, n0, n1].map fun k : Nat => D.int k) [.val (.scr ns), .val (.bl mx), .val q.t, .val q.p.b, .val (.lst [.int p0, .int p1, .int n2, .int n3, .int n4, .int n5, .int n6, .int n7]), .val (.lst [.int n0, .int n1, .int n2, .int n3, .int n4, .int n5, .int n6, .int n7]), .un, .un]
    ⟨_, .un, rfl, by simp; omega, rfl⟩
  cases ks with
  | cons _ _ => cases hks
  | nil =>
  obtain ⟨ρ2, f2, _, s7, rfl⟩ := for_ind (T := tgN 7) (B := sIf (dNotT (asB (dCall 2 m__law_bit (aCons (dVar 3) (aCons (dCall 3 m__law_near (aCons (dVar 2) (aCons (dCall 2 m__law_cell_at (aCons (dVar 0) (aCons (dOp opAdd (dC (.int 28)) (dVar 7)) aNil))) (aCons (dVar 1) aNil)))) aNil))))) (sRet (dC (.bl false))) sNil)
    (fun ds ρ => (∀ d ∈ ds, ∃ j : Nat, j < 10 ∧ d = .int j) ∧ ∃ (x : S3), ρ = [.val (.scr ns), .val (.bl mx), .val q.t, .val q.p.b, .val (.lst [.int p0, .int p1, .int n2, .int n3, .int n4, .int n5, .int n6, .int n7]), .val (.lst [.int n0, .int n1, .int n2, .int n3, .int n4, .int n5, .int n6, .int n7]), s6, x])
    (by
      rintro d ds ρ ⟨hk, x, rfl⟩
      obtain ⟨j, hj, rfl⟩ := hk d (List.mem_cons_self ..)
      have ce := cell_ok (ns := ns) (k := 28 + j) (by omega)
      rw [show ((28 + j : Nat) : Int) = 28 + (j : Int) by omega] at ce
      obtain ⟨y, ey⟩ := near (cellI ns (28 + j))
      exact ⟨_, _, rfl, by simp [apD, ce, ey, bit]; rfl, fun d h => hk d (List.mem_cons_of_mem _ h), _, rfl⟩)
    (rngD 0 10) [.val (.scr ns), .val (.bl mx), .val q.t, .val q.p.b, .val (.lst [.int p0, .int p1, .int n2, .int n3, .int n4, .int n5, .int n6, .int n7]), .val (.lst [.int n0, .int n1, .int n2, .int n3, .int n4, .int n5, .int n6, .int n7]), s6, .un]
    ⟨fun d hd => by
      obtain ⟨j, hj, rfl⟩ := List.mem_map.mp hd
      exact ⟨j, List.mem_range.mp hj, by simp⟩, .un, rfl⟩
  simp only [List.map_cons, List.map_nil] at f1
  have v1 : L2.atI [D.int p0, .int p1, .int n2, .int n3, .int n4, .int n5, .int n6, .int n7] 0 = some (.int p0) := rfl
  have v2 : L2.atI [D.int p0, .int p1, .int n2, .int n3, .int n4, .int n5, .int n6, .int n7] 1 = some (.int p1) := rfl
  have v3 : opSl (.lst [D.int p0, .int p1, .int n2, .int n3, .int n4, .int n5, .int n6, .int n7]) (some 2) none = some (.lst [.int n2, .int n3, .int n4, .int n5, .int n6, .int n7]) := rfl
  have v4 : opAdd (.lst [D.int n0, .int n1]) (.lst [D.int n2, .int n3, .int n4, .int n5, .int n6, .int n7]) = some (.lst [D.int n0, .int n1, D.int n2, .int n3, .int n4, .int n5, .int n6, .int n7]) := rfl
  have v5 : opSl (.lst [D.int n0, .int n1, .int n2, .int n3, .int n4, .int n5, .int n6, .int n7]) none (some 2) = some (.lst [.int n0, .int n1]) := rfl
  have v6 : opAdd (.lst [D.int n0, .int n1, .int n2, .int n3, .int n4, .int n5, .int n6, .int n7]) (.lst [D.int n0, .int n1]) = some (.lst [D.int n0, .int n1, .int n2, .int n3, .int n4, .int n5, .int n6, .int n7, D.int n0, .int n1]) := rfl
  have v7 : L2.atI [D.int n0, .int n1, .int n2, .int n3, .int n4, .int n5, .int n6, .int n7] 4 = some (.int n4) := rfl
  have v8 : L2.atI [D.int n0, .int n1, .int n2, .int n3, .int n4, .int n5, .int n6, .int n7] 2 = some (.int n2) := rfl
  have v9 : L2.atI [D.int n0, .int n1, .int n2, .int n3, .int n4, .int n5, .int n6, .int n7] 3 = some (.int n3) := rfl
  unfold m_law m_law_b
  simp [startD, apD, c0, hmx, et, mk, e, opIx, v1, v2, v3, g0, g1, v4, v5, v6, itE, f1, itR1, f2, v7, ei, v8, t2, v9, tb, bo, me, i1, ml, eq]
end DL
set_option maxRecDepth 100000
set_option maxHeartbeats 4000000
namespace DL
open PySem L2
abbrev faX : List He.Fa := fa1 ++ ([] ++ [])
abbrev xsX : List (PySem.W.Frag → Bool) := [] ++ (xs1 ++ [])
abbrev fnX : List He.DefD := [] ++ ([] ++ fn1)
theorem runX (w : World) : HandSHeadRun.RunEq R1 (PySem.W.view R1.prog [126]) (hkL as1 faX xsX fnX) (obL as1 faX xsX fnX) 30000 nm1 w := run_join (runA w) (run_join (runB w) (runC w))
theorem ev_X {K : PySem.W.Frag} {mg : Str → Option Value} (E : Ev faX xsX fnX K mg) : EV K mg := by
  refine ⟨fun f hf => E.fact f ?_, fun e he => E.ext e ?_, fun d hd => E.df d ?_, E.hg⟩
  · exact List.mem_append_left _ hf
  · exact List.mem_append_right _ (List.mem_append_left _ he)
  · exact List.mem_append_right _ (List.mem_append_right _ hd)
theorem Law_ok {K : PySem.W.Frag} {mg : Str → Option Value} (E : EV K mg) : ∃ fd, (∀ (s : Shared) (u : Value), BindsTo s fd ⟨[u], []⟩ [("_law_script", u)]) ∧ ∀ (P : Program) (w : World) (base : Heap), FnOk P w K mg base CX0 25 (He.ga K "law") fd ["_law_script"] (spD K (cB K) 1 m_law) := by
  obtain ⟨fd, F⟩ := E.d 0
  have b := FunD.bindsA (ps := ["_law_script"]) F (fun _ _ _ _ _ _ us hl => match us, hl with | [_], _ => rfl)
  exact ⟨fd, fun s u => b s [u] rfl, fun P w base => ok_m_law (dfun F) (C__law_cell_at := (C__law_cell_at E)) (C__law_tree := (C__law_tree E)) (C__law_make := (C__law_make E)) (C__law_digits := (C__law_digits E)) (C__law_told := (C__law_told E)) (C__law_bit := (C__law_bit E)) (C__law_near := (C__law_near E)) (C__law_eight := (C__law_eight E)) (C_month_at := (C_month_at E)) (M_on_days := (MT_on_days E 8)) (K_Book := (K_Book E)) (n_range := (E.free (E.f 25)))⟩
theorem start_law {K : PySem.W.Frag} {H : Hp} {a : Addr} {ns : List Int} (hl : ns.length ≤ 63) (hO : Only H) (hS : SqL K H a (ns.map V.int)) : spD K (cB K) 1 m_law [.ref a] H (fun v _ => v = .bl true) (fun _ _ _ => False) := by
  refine ⟨⟨H, fun _ => none, fun _ _ => none⟩, [.scr ns], .bl true, ⟨.refl _, (fun a t h => by cases h), (fun a i d h => by cases h), (fun a k w h => by cases h)⟩, ⟨_, [], rfl, ⟨a, rfl, hS⟩, rfl⟩, rfl, law_true ns hl, fun v G' H' g r => r⟩
end DL
open PySem PySem.W PySem.Calls PyProof.Rows
theorem PySem.Challenge.cw_fivefields_k63_on_days_holds : PySem.Challenge.rw_fivefields_k63_on_days.Holds := by
  w_on; o_law
  refine HandSHeadRun.head_any (r := OpenLaw.row PySem.Challenge.rw_fivefields_k63_on_days) (q := view (OpenLaw.row PySem.Challenge.rw_fivefields_k63_on_days).prog [126]) (H := DL.hkL DL.as1 DL.faX DL.xsX DL.fnX) (ob := DL.obL DL.as1 DL.faX DL.xsX DL.fnX) (M := 30000) (loose := DL.nm1) (d := HandSHeadRun.topDef (OpenLaw.row PySem.Challenge.rw_fivefields_k63_on_days).prog 126) (kwd := []) DL.obL_ok
    (by kernel_rfl) (fun s => by kernel_rfl) DL.runX (by kernel_rfl) (by kernel_rfl) (by kernel_rfl) (by rfl) (by first | assumption | decide +kernel) (by decide +kernel) ⟨rfl, rfl, rfl, rfl, rfl, by decide +kernel⟩ ?hw ?hc
  case hw => w_witness2
  case hc =>
    refine L2.walk_ofE (l := PySem.Challenge.rw_fivefields_k63_on_days) (n := 63) (k := 25) (x := "_law_script") (CX := L2.CX0) rfl (by decide) (by kernel_rfl) ⟨rfl, by decide, by decide⟩ ?F (fun _ _ _ _ z => z)
    intro w mg fa h Y G hmg0
    obtain ⟨K, KX, e⟩ := Y
    have E : DL.EV K mg := DL.ev_X (DL.ev_of KX G e)
    have hmg : mg ("law" : PySem.Str) = some (.ref fa) := by
      have e : (HandSHeadRun.topDef (OpenLaw.row PySem.Challenge.rw_fivefields_k63_on_days).prog 126).name = ("law" : PySem.Str) := by kernel_rfl
      rw [← e]
      exact hmg0
    have e1 := hmg.symm.trans (E.glo (x := "law") (E.f 0))
    cases e1
    obtain ⟨fd, hb, hF⟩ := DL.Law_ok E
    exact ⟨K, fd, _, KX, hb, fun H a ns hl hO hS => DL.start_law hl hO hS, fun base _ _ => hF _ w base⟩
