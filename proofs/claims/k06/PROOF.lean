import PyProof.Rows.All
import Wide.All
import OpenK.AllK
import Wide.FinOn
import HandS.ForMost
import HandS.Exc
import HandS.TryOnly
import HandS.ExcOwn
import HandS.WordsExc
import HandS.More
import KE.KDictKeyed
import KE.KeyNested
import HandS.Set
import HandS.Deep
import HandS.TupAny
import KE.SortData
import HandS.WordsDict
import HandS.SetFor
import HandS.Text
import HandS.Walk
import HandS.Zip
import PyProof.Draws
import PyProof.EnumMake
import HandS.Iter
import HandS.ForSpec
import HandS.IsInst
import PyProof.ReprRoads
import HandS.EndBits
import HandS.HeadHook1
import HandS.Style
import HandS.Rev
import HandS.ExcIs
import HandS.Dict
import KE.DataFind
import HandS.Head0
import HandS.Head1
import HandS.Head2
import HandS.Words
import HandS.HotCalls
import HandS.Codes
import PySem.Challenge.RW_primer_k06_texts_refused
set_option Elab.async false
set_option linter.all false
set_option maxRecDepth 100000
/-! The engine, part 1: data, owned objects, the state relation. -/
namespace Eng
open PySem PySem.Spec L2
open PyProof.Rows hiding St

abbrev D := PyData
abbrev Zs := Addr → Prop

mutual
/-- a value reads as a datum all of whose lists are frozen (in Z) -/
inductive Dz (Z : Zs) (K : PySem.W.Frag) (H : Hp) : D → V → Prop
  | non : Dz Z K H .none .non
  | bl (b : Bool) : Dz Z K H (.bool b) (.bl b)
  | int (i : Int) : Dz Z K H (.int i) (.int i)
  | str (x : Str) : Dz Z K H (.str x) (.str x)
  | lst {a : Addr} {xs : List V} {ds : List D} (z : Z a) (r : H a = some (.lst xs)) (h : DzA Z K H ds xs) : Dz Z K H (.list ds) (.ref a)
  | tup {a : Addr} {xs : List V} {ds : List D} (r : SqT K H a xs) (h : DzA Z K H ds xs) : Dz Z K H (.tuple ds) (.ref a)
inductive DzA (Z : Zs) (K : PySem.W.Frag) (H : Hp) : List D → List V → Prop
  | nil : DzA Z K H [] []
  | cons {d : D} {v : V} {ds : List D} {vs : List V} (h : Dz Z K H d v) (t : DzA Z K H ds vs) : DzA Z K H (d :: ds) (v :: vs)
end

/-- the script: a list of ints that is locked, or written -/
def SqS (K : PySem.W.Frag) (H : Hp) (a : Addr) (ns : List Int) : Prop :=
  (∃ ob, H a = some (.frz ob (.lst (ns.map V.int)))) ∨
    ∃ (o : Obj) (its : Array Value) (n : Nat), K.lookup a = some o ∧ o.cls = .type "list" ∧ o.dict = none ∧ o.data = .seq its n ∧ its.size ≤ sizeLine ∧ Vals (ns.map V.int) its.toList
theorem SqS.sq {K : PySem.W.Frag} {H : Hp} {a : Addr} {ns : List Int} (h : SqS K H a ns) : SqL K H a (ns.map V.int) := by
  rcases h with ⟨ob, h⟩ | h
  · exact .inl (.inr ⟨ob, h⟩)
  · exact .inr h
/-- what a change of the heap keeps of frozen data -/
structure Kp (Z : Zs) (K : PySem.W.Frag) (H : Hp) (Z' : Zs) (H' : Hp) : Prop where
  z : ∀ a, Z a → Z' a
  r : ∀ a xs, Z a → H a = some (.lst xs) → H' a = some (.lst xs)
  t : ∀ a xs, SqT K H a xs → SqT K H' a xs
  f : ∀ a ns, SqS K H a ns → SqS K H' a ns

section
variable {Z Z' : Zs} {K : PySem.W.Frag} {H H' : Hp}
mutual
theorem Dz.kp (k : Kp Z K H Z' H') : ∀ {d : D} {v : V}, Dz Z K H d v → Dz Z' K H' d v
  | .none, _, h => by cases h; exact .non
  | .bool _, _, h => by cases h; exact .bl _
  | .int _, _, h => by cases h; exact .int _
  | .str _, _, h => by cases h; exact .str _
  | .list ds, _, h => by
    cases h with
    | lst z r h => exact .lst (k.z _ z) (k.r _ _ z r) (DzA.kp k h)
  | .tuple ds, _, h => by
    cases h with
    | tup r h => exact .tup (k.t _ _ r) (DzA.kp k h)
  | .dict _, _, h => by cases h
theorem DzA.kp (k : Kp Z K H Z' H') : ∀ {ds : List D} {vs : List V}, DzA Z K H ds vs → DzA Z' K H' ds vs
  | [], _, h => by cases h; exact .nil
  | d :: ds, _, h => by
    cases h with
    | cons h t => exact .cons (Dz.kp k h) (DzA.kp k t)
end
mutual
theorem Dz.dp : ∀ {d : D} {v : V}, Dz Z K H d v → Dp K H v d
  | .none, _, h => by cases h; exact .non
  | .bool _, _, h => by cases h; exact .bl _
  | .int _, _, h => by cases h; exact .int _
  | .str _, _, h => by cases h; exact .str _
  | .list ds, _, h => by
    cases h with
    | lst z r h => exact .lst (.inl (.inl r)) (DzA.dp h)
  | .tuple ds, _, h => by
    cases h with
    | tup r h => exact .tup r (DzA.dp h)
  | .dict _, _, h => by cases h
theorem DzA.dp : ∀ {ds : List D} {vs : List V}, DzA Z K H ds vs → DpAll K H vs ds
  | [], _, h => by cases h; exact .nil
  | d :: ds, _, h => by
    cases h with
    | cons h t => exact .cons (Dz.dp h) (DzA.dp t)
end
theorem DzA.length : ∀ {ds : List D} {vs : List V}, DzA Z K H ds vs → vs.length = ds.length
  | _, _, .nil => rfl
  | _, _, .cons _ t => by rw [List.length_cons, List.length_cons, DzA.length t]
theorem DzA.append : ∀ {ds es : List D} {vs ws : List V}, DzA Z K H ds vs → DzA Z K H es ws → DzA Z K H (ds ++ es) (vs ++ ws)
  | _, _, _, _, .nil, h => h
  | _, _, _, _, .cons h t, h' => .cons h (DzA.append t h')
theorem DzA.get : ∀ {ds : List D} {vs : List V} {i : Nat} {d : D}, DzA Z K H ds vs → ds[i]? = some d → ∃ v, vs[i]? = some v ∧ Dz Z K H d v
  | _, _, _, _, .nil, e => by simp at e
  | _, _, 0, d, .cons h t, e => by
    have e' := Option.some.inj (show some _ = some d by simpa using e)
    subst e'
    exact ⟨_, rfl, h⟩
  | _, _, i + 1, d, .cons h t, e => by
    obtain ⟨v, h1, h2⟩ := DzA.get (i := i) t (by simpa using e)
    exact ⟨v, by simpa using h1, h2⟩
theorem DzA.take : ∀ {ds : List D} {vs : List V} (n : Nat), DzA Z K H ds vs → DzA Z K H (ds.take n) (vs.take n)
  | _, _, 0, _ => .nil
  | _, _, _ + 1, .nil => .nil
  | _, _, n + 1, .cons h t => .cons h (DzA.take n t)
theorem DzA.drop : ∀ {ds : List D} {vs : List V} (n : Nat), DzA Z K H ds vs → DzA Z K H (ds.drop n) (vs.drop n)
  | _, _, 0, h => h
  | _, _, _ + 1, .nil => .nil
  | _, _, n + 1, .cons h t => DzA.drop n t
theorem DzA.reverse : ∀ {ds : List D} {vs : List V}, DzA Z K H ds vs → DzA Z K H ds.reverse vs.reverse
  | _, _, .nil => .nil
  | _, _, .cons h t => by
    rw [List.reverse_cons, List.reverse_cons]
    exact DzA.append (DzA.reverse t) (.cons h .nil)
theorem DzA.set : ∀ {ds : List D} {vs : List V} {d : D} {v : V} (i : Nat), DzA Z K H ds vs → Dz Z K H d v → DzA Z K H (ds.set i d) (vs.set i v)
  | _, _, _, _, _, .nil, _ => .nil
  | _, _, _, _, 0, .cons _ t, h => .cons h t
  | _, _, _, _, i + 1, .cons h t, h' => .cons h (DzA.set i t h')
theorem DzA.dropLast : ∀ {ds : List D} {vs : List V}, DzA Z K H ds vs → DzA Z K H ds.dropLast vs.dropLast
  | _, _, .nil => .nil
  | _, _, .cons _ .nil => .nil
  | _, _, .cons h (.cons h' t) => .cons h (DzA.dropLast (.cons h' t))
theorem DzA.strs : ∀ {xs : List Str} {vs : List V}, DzA Z K H (xs.map PyData.str) vs → vs = xs.map V.str
  | [], _, h => by cases h; rfl
  | x :: xs, _, h => by
    cases h with
    | cons h t =>
      cases h
      rw [DzA.strs t]; rfl
theorem DzA.ints : ∀ {xs : List Int} {vs : List V}, DzA Z K H (xs.map PyData.int) vs → vs = xs.map V.int
  | [], _, h => by cases h; rfl
  | x :: xs, _, h => by
    cases h with
    | cons h t =>
      cases h
      rw [DzA.ints t]; rfl
theorem DzA.bls : ∀ {xs : List Bool} {vs : List V}, DzA Z K H (xs.map PyData.bool) vs → vs = xs.map V.bl
  | [], _, h => by cases h; rfl
  | x :: xs, _, h => by
    cases h with
    | cons h t =>
      cases h
      rw [DzA.bls t]; rfl
end

/-- the text of a set's entry -/
def txt (e : Int × Value) : Str := match e.2 with
  | .str x _ => x
  | _ => Str.empty
/-- at a stands a set of just the texts xs -/
def SetT (w : World) (h : Heap) (a : Addr) (xs : List Str) : Prop :=
  ∃ (o : Obj) (es : Array (Int × Value)) (ep : Nat) (t : SetTable), (h.get? a = some o ∧ o.ExactSet ∧ o.data = .set es ep t) ∧ (∀ e ∈ es.toList, ∃ x tk, e = (hashStr w x, Value.str x tk)) ∧
    (es.toList.map txt).Perm xs ∧ xs.Nodup ∧ (es.size < scanBound ∧ t.fits es.size = true ∧ Ris t.place.toList ∧ (w.params.followText "set-order" = true ∨ t.led = true))
/-- an object of the frame's own, its inner data frozen; a datum; an instance -/
inductive O where
  | val (d : D)
  | scr (ns : List Int)
  | set (xs : List Str)
  | lst (ds : List D)
  | dic (es : List (D × D))
  | ins (c : Nat) (fs : List (Str × O))
  | exn (c : Nat)

/-- at a stands an exception of the class C -/
def ExT (a C : Addr) (h : Heap) : Prop := ∃ o, h.get? a = some o ∧ o.cls = .ref C ∧ o.dict = none ∧ ∃ vs, o.data = .fields vs
/-- the key of a dict with nested tuples as keys -/
def nkey : D → Option NestedKey
  | .none => some .none
  | .int i => some (.num i)
  | .str x => some (.text x)
  | .tuple ds => (nkeys ds).map .tup
  | _ => none
where nkeys : List D → Option (List NestedKey)
  | [] => some []
  | d :: ds => match nkey d, nkeys ds with
    | some k, some ks => some (k :: ks)
    | _, _ => none

/-- what the context of a program gives -/
structure Gx where
  P : Program
  w : World
  K : PySem.W.Frag
  ca : Nat → Addr

/-- a dict with nested keys, by its own object alone -/
def NDict (G : Gx) (a : Addr) (xs : List (NestedKey × Addr × Value)) : Heap → Prop := fun h =>
  ∃ o es ep, h.get? a = some o ∧ o.ExactDict ∧ o.data = .dict es ep ∧ es.toList = xs.map (entryOfKey (nestedKind G.P G.w)) ∧ (xs.map (·.1)).Nodup ∧ (a == sysModules) = false ∧ xs.length ≤ sizeLine

def NEnt (Z : Zs) (K : PySem.W.Frag) (H : Hp) (x : NestedKey × Addr × Value) (e : D × D) : Prop :=
  nkey e.1 = some x.1 ∧ x.1.depth ≤ 8 ∧ Dz Z K H e.1 (.ref x.2.1) ∧ ∃ v, RelV v x.2.2 ∧ Dz Z K H e.2 v

mutual
/-- the object o stands at v; F: the addresses that it owns -/
inductive Ro (G : Gx) (Z : Zs) (H : Hp) : O → V → List Addr → Prop
  | val {d : D} {v : V} (h : Dz Z G.K H d v) : Ro G Z H (.val d) v []
  | scr {a : Addr} {ns : List Int} (h : SqS G.K H a ns) : Ro G Z H (.scr ns) (.ref a) []
  | set {a : Addr} {xs : List Str} (e : H a = some (.ext fun h => SetT G.w h a xs)) : Ro G Z H (.set xs) (.ref a) [a]
  | lst {a : Addr} {xs : List V} {ds : List D} (e : H a = some (.lst xs)) (h : DzA Z G.K H ds xs) : Ro G Z H (.lst ds) (.ref a) [a]
  | dic {a : Addr} {kvs : List (Key × V)} {es : List (D × D)} (e : H a = some (.dK kvs)) (hk : DzA Z G.K H (es.map (·.1)) (kvs.map fun p => kV p.1)) (hv : DzA Z G.K H (es.map (·.2)) (kvs.map (·.2)))
      (nd : (kvs.map (·.1)).Nodup) : Ro G Z H (.dic es) (.ref a) [a]
  | dct {a : Addr} {xs : List (NestedKey × Addr × Value)} {es : List (D × D)} (e : H a = some (.ext (NDict G a xs))) (hx : Paired (NEnt Z G.K H) xs es) (nd : (xs.map (·.1)).Nodup) (ne : xs ≠ []) : Ro G Z H (.dic es) (.ref a) [a]
  | ins {a dx : Addr} {c : Nat} {vs : List (Str × V)} {fs : List (Str × O)} {F : List Addr} (e : H a = some (.ins (G.ca c) dx vs)) (h : RoF G Z H fs vs F) : Ro G Z H (.ins c fs) (.ref a) (a :: F)
  | exn {a : Addr} {c : Nat} (e : H a = some (.ext (ExT a (G.ca c)))) : Ro G Z H (.exn c) (.ref a) [a]
inductive RoF (G : Gx) (Z : Zs) (H : Hp) : List (Str × O) → List (Str × V) → List Addr → Prop
  | nil : RoF G Z H [] [] []
  | cons {n : Str} {o : O} {v : V} {fs : List (Str × O)} {vs : List (Str × V)} {F F' : List Addr} (h : Ro G Z H o v F) (t : RoF G Z H fs vs F') : RoF G Z H ((n, o) :: fs) ((n, v) :: vs) (F ++ F')
end

section
variable {G : Gx} {Z Z' : Zs} {H H' : Hp}
mutual
theorem Ro.kp (k : Kp Z G.K H Z' H') : ∀ {o : O} {v : V} {F : List Addr}, Ro G Z H o v F → (∀ a ∈ F, ∀ u, H a = some u → H' a = some u) → Ro G Z' H' o v F
  | .val _, _, _, h, _ => by
    cases h with
    | val h => exact .val (h.kp k)
  | .scr _, _, _, h, _ => by
    cases h with
    | scr h => exact .scr (k.f _ _ h)
  | .set _, _, _, h, hf => by
    cases h with
    | set e => exact .set (hf _ (by simp) _ e)
  | .lst _, _, _, h, hf => by
    cases h with
    | lst e h => exact .lst (hf _ (by simp) _ e) (h.kp k)
  | .dic _, _, _, h, hf => by
    cases h with
    | dic e hk hv nd => exact .dic (hf _ (by simp) _ e) (hk.kp k) (hv.kp k) nd
    | dct e hx nd ne => exact .dct (hf _ (by simp) _ e) (Paired.mapP hx fun p q ⟨h1, h2, h3, v, h4, h5⟩ => ⟨h1, h2, h3.kp k, v, h4, h5.kp k⟩) nd ne
  | .ins _ fs, _, _, h, hf => by
    cases h with
    | ins e h => exact .ins (hf _ (by simp) _ e) (RoF.kp k h fun a ha => hf a (List.mem_cons_of_mem _ ha))
  | .exn _, _, _, h, hf => by
    cases h with
    | exn e => exact .exn (hf _ (by simp) _ e)
theorem RoF.kp (k : Kp Z G.K H Z' H') : ∀ {fs : List (Str × O)} {vs : List (Str × V)} {F : List Addr}, RoF G Z H fs vs F → (∀ a ∈ F, ∀ u, H a = some u → H' a = some u) → RoF G Z' H' fs vs F
  | [], _, _, h, _ => by cases h; exact .nil
  | (n, o) :: fs, _, _, h, hf => by
    cases h with
    | cons h t => exact .cons (Ro.kp k h fun a ha => hf a (List.mem_append_left _ ha)) (RoF.kp k t fun a ha => hf a (List.mem_append_right _ ha))
end
mutual
theorem Ro.mut : ∀ {o : O} {v : V} {F : List Addr}, Ro G Z H o v F → ∀ a ∈ F, Mut (H a)
  | .val _, _, _, h, a, ha => by
    cases h with
    | val h => cases ha
  | .scr _, _, _, h, a, ha => by
    cases h with
    | scr h => cases ha
  | .set _, _, _, h, a, ha => by
    cases h with
    | set e => rw [List.mem_singleton] at ha; subst ha; rw [e]; trivial
  | .lst _, _, _, h, a, ha => by
    cases h with
    | lst e h => rw [List.mem_singleton] at ha; subst ha; rw [e]; trivial
  | .dic _, _, _, h, a, ha => by
    cases h with
    | dic e hk hv nd => rw [List.mem_singleton] at ha; subst ha; rw [e]; trivial
    | dct e hx nd ne => rw [List.mem_singleton] at ha; subst ha; rw [e]; trivial
  | .ins _ fs, _, _, h, a, ha => by
    cases h with
    | ins e h =>
      rcases List.mem_cons.mp ha with q | ha
      · subst q; rw [e]; trivial
      · exact RoF.mut h a ha
  | .exn _, _, _, h, a, ha => by
    cases h with
    | exn e => rw [List.mem_singleton] at ha; subst ha; rw [e]; trivial
theorem RoF.mut : ∀ {fs : List (Str × O)} {vs : List (Str × V)} {F : List Addr}, RoF G Z H fs vs F → ∀ a ∈ F, Mut (H a)
  | [], _, _, h, a, ha => by cases h; cases ha
  | (n, o) :: fs, _, _, h, a, ha => by
    cases h with
    | cons h t =>
      rcases List.mem_append.mp ha with ha | ha
      · exact Ro.mut h a ha
      · exact RoF.mut t a ha
end
end

/-! ### steps -/
structure Step (Z : Zs) (L : List Addr) (H : Hp) (Z' : Zs) (M : List Addr) (H' : Hp) : Prop where
  keep : ∀ a o, H a = some o → a ∉ L → H' a = some o
  zmono : ∀ a, Z a → Z' a
  znew : ∀ a, Z' a → Z a ∨ a ∈ L ∨ H a = none
  lnew : ∀ a ∈ M, a ∈ L ∨ H a = none

section
variable {K : PySem.W.Frag} {Z Z1 Z2 : Zs} {H H1 H2 : Hp} {L M L1 M2 F : List Addr}
theorem Step.refl : Step Z L H Z L H := ⟨fun _ _ e _ => e, fun _ h => h, fun _ h => .inl h, fun _ h => .inl h⟩
theorem Step.sub (s : Step Z L H Z1 M H1) (h : ∀ a ∈ L1, a ∈ M) : Step Z L H Z1 L1 H1 := ⟨s.keep, s.zmono, s.znew, fun a ha => s.lnew a (h a ha)⟩
/-- a further step of a part; F stands aside -/
theorem Step.then (s : Step Z L H Z1 (F ++ L1) H1) (t : Step Z1 L1 H1 Z2 M2 H2) : Step Z L H Z2 (F ++ M2) H2 where
  keep := fun a o e hn => t.keep a o (s.keep a o e hn) fun hl => by
    rcases s.lnew a (List.mem_append_right _ hl) with q | q
    · exact hn q
    · rw [e] at q; cases q
  zmono := fun a h => t.zmono a (s.zmono a h)
  znew := fun a h => by
    have none_of : H1 a = none → a ∈ L ∨ H a = none := fun q => by
      by_cases hl : a ∈ L
      · exact .inl hl
      · cases e : H a with
        | none => exact .inr rfl
        | some o => rw [s.keep a o e hl] at q; cases q
    rcases t.znew a h with q | q | q
    · exact s.znew a q
    · exact .inr (s.lnew a (List.mem_append_right _ q))
    · exact .inr (none_of q)
  lnew := fun a h => by
    have none_of : H1 a = none → a ∈ L ∨ H a = none := fun q => by
      by_cases hl : a ∈ L
      · exact .inl hl
      · cases e : H a with
        | none => exact .inr rfl
        | some o => rw [s.keep a o e hl] at q; cases q
    rcases List.mem_append.mp h with h | h
    · exact s.lnew a (List.mem_append_left _ h)
    · rcases t.lnew a h with q | q
      · exact s.lnew a (List.mem_append_right _ q)
      · exact none_of q
theorem Step.trans (s : Step Z L H Z1 L1 H1) (t : Step Z1 L1 H1 Z2 M2 H2) : Step Z L H Z2 M2 H2 := Step.then (F := []) s t
/-- frozen data is kept -/
theorem Step.kp (s : Step Z L H Z1 M H1) (mu : ∀ a ∈ L, Mut (H a)) (dis : ∀ a ∈ L, ¬ Z a) : Kp Z K H Z1 H1 where
  z := s.zmono
  r := fun a xs z r => by
    have hn : a ∉ L := fun h => dis a h z
    exact s.keep _ _ r hn
  t := fun a xs r => by
    rcases r with (r | ⟨o, r⟩) | r
    · refine .inl (.inl (s.keep _ _ r fun h => ?_))
      have := mu a h
      rw [r] at this
      exact this
    · refine .inl (.inr ⟨o, s.keep _ _ r fun h => ?_⟩)
      have := mu a h
      rw [r] at this
      exact this
    · exact .inr r
  f := fun a ns r => by
    rcases r with ⟨ob, r⟩ | r
    · refine .inl ⟨ob, s.keep _ _ r fun h => ?_⟩
      have := mu a h
      rw [r] at this
      exact this
    · exact .inr r
end

/-! ### the slots -/
/-- a slot: unknown, or an object (pin: a parameter's own, not to be stored over) -/
abbrev Sl := Option (Bool × O)
abbrev En := List Sl

inductive RoS (G : Gx) (Z : Zs) (H : Hp) : En → St → List Addr → Prop
  | emp : RoS G Z H [] [] []
  | no {ρ : En} {σ : St} {x : Option V} {L : List Addr} (t : RoS G Z H ρ σ L) : RoS G Z H (none :: ρ) (x :: σ) L
  | yes {ρ : En} {σ : St} {p : Bool} {o : O} {v : V} {F L : List Addr} (h : Ro G Z H o v F) (t : RoS G Z H ρ σ L) : RoS G Z H (some (p, o) :: ρ) (some v :: σ) (F ++ L)

section
variable {G : Gx} {Z Z' : Zs} {H H' : Hp}
theorem RoS.kp (k : Kp Z G.K H Z' H') : ∀ {ρ : En} {σ : St} {L : List Addr}, RoS G Z H ρ σ L → (∀ a ∈ L, ∀ u, H a = some u → H' a = some u) → RoS G Z' H' ρ σ L
  | _, _, _, .emp, _ => .emp
  | _, _, _, .no t, hf => .no (RoS.kp k t hf)
  | _, _, _, .yes h t, hf => .yes (h.kp k fun a ha => hf a (List.mem_append_left _ ha)) (RoS.kp k t fun a ha => hf a (List.mem_append_right _ ha))
theorem RoS.mut : ∀ {ρ : En} {σ : St} {L : List Addr}, RoS G Z H ρ σ L → ∀ a ∈ L, Mut (H a)
  | _, _, _, .emp, _, h => by cases h
  | _, _, _, .no t, a, h => RoS.mut t a h
  | _, _, _, .yes h t, a, ha => by
    rcases List.mem_append.mp ha with ha | ha
    · exact h.mut a ha
    · exact RoS.mut t a ha
theorem RoS.length : ∀ {ρ : En} {σ : St} {L : List Addr}, RoS G Z H ρ σ L → ρ.length = σ.length
  | _, _, _, .emp => rfl
  | _, _, _, .no t => by rw [List.length_cons, List.length_cons, RoS.length t]
  | _, _, _, .yes _ t => by rw [List.length_cons, List.length_cons, RoS.length t]
/-- a slot is read: its object, and the rest -/
theorem RoS.get : ∀ {ρ : En} {σ : St} {L : List Addr} {i : Nat} {p : Bool} {o : O}, RoS G Z H ρ σ L → ρ[i]? = some (some (p, o)) → ∃ v F, σ[i]? = some (some v) ∧ Ro G Z H o v F ∧ (∀ a ∈ F, a ∈ L)
  | _, _, _, _, _, _, .emp, e => by simp at e
  | _, _, _, 0, _, _, .no t, e => by simp at e
  | _, _, _, i + 1, _, _, .no t, e => by
    obtain ⟨v, F, h1, h2, h3⟩ := RoS.get (i := i) t (by simpa using e)
    exact ⟨v, F, by simpa using h1, h2, h3⟩
  | _, _, _, 0, p, o, .yes h t, e => by
    simp only [List.getElem?_cons_zero, Option.some.injEq, Prod.mk.injEq] at e
    obtain ⟨rfl, rfl⟩ := e
    exact ⟨_, _, rfl, h, fun a ha => List.mem_append_left _ ha⟩
  | _, _, _, i + 1, _, _, .yes h t, e => by
    obtain ⟨v, F, h1, h2, h3⟩ := RoS.get (i := i) t (by simpa using e)
    exact ⟨v, F, by simpa using h1, h2, fun a ha => List.mem_append_right _ (h3 a ha)⟩
end

/-- the state: slots ρ at σ, in all L owned; pinned ones at their θ -/
structure Rep (θ : Nat → V) (G : Gx) (Z : Zs) (H : Hp) (ρ : En) (σ : St) (L : List Addr) : Prop where
  sl : RoS G Z H ρ σ L
  nd : L.Nodup
  dis : ∀ a ∈ L, ¬ Z a
  zd : ∀ a, Z a → H a ≠ none
  pn : ∀ i o, ρ[i]? = some (some (true, o)) → σ[i]? = some (some (θ i))
end Eng
/-! The engine, part 2: outcomes, operands, readings of expressions. -/
namespace Eng
open PySem PySem.Spec L2
open PyProof.Rows hiding St

inductive Out (α : Type) where
  | ok (a : α) (ρ : En)
  | exc (c : Nat) (ρ : En)
  | stuck
def Out.bind {α β : Type} : Out α → (α → En → Out β) → Out β
  | .ok a ρ, f => f a ρ
  | .exc c ρ, _ => .exc c ρ
  | .stuck, _ => .stuck
@[simp] theorem bind_ok {α β : Type} (a : α) (ρ : En) (f : α → En → Out β) : (Out.ok a ρ).bind f = f a ρ := rfl
@[simp] theorem bind_exc {α β : Type} (c : Nat) (ρ : En) (f : α → En → Out β) : (Out.exc c ρ : Out α).bind f = .exc c ρ := rfl
@[simp] theorem bind_stuck {α β : Type} (f : α → En → Out β) : (Out.stuck : Out α).bind f = .stuck := rfl

inductive Opd where
  | tmp (o : O)
  | nm (i : Nat)
abbrev ES := En → Out Opd
abbrev AS := En → Out (List Opd)
abbrev TS' := En → Out Bool

def slotO (ρ : En) (i : Nat) : Option O := match ρ[i]? with
  | some (some po) => some po.2
  | _ => none
def look (ρ : En) : Opd → Option O
  | .tmp o => some o
  | .nm i => slotO ρ i
def looks (ρ : En) : List Opd → Option (List O)
  | [] => some []
  | p :: ps => match look ρ p, looks ρ ps with
    | some o, some os => some (o :: os)
    | _, _ => none
/-- an answer that may be lacking -/
def put (ρ : En) : Option O → Out Opd
  | some o => .ok (.tmp o) ρ
  | none => .stuck

/-! ### operands that are held -/
inductive OpsOk (G : Gx) (Z : Zs) (H : Hp) (σ : L2.St) : List Opd → List V → List Addr → Prop
  | nil : OpsOk G Z H σ [] [] []
  | tmp {o : O} {v : V} {F F' : List Addr} {ps : List Opd} {vs : List V} (h : Ro G Z H o v F) (t : OpsOk G Z H σ ps vs F') : OpsOk G Z H σ (.tmp o :: ps) (v :: vs) (F ++ F')
  | nm {i : Nat} {v : V} {F' : List Addr} {ps : List Opd} {vs : List V} (h : σ[i]? = some (some v)) (t : OpsOk G Z H σ ps vs F') : OpsOk G Z H σ (.nm i :: ps) (v :: vs) F'
structure Held (G : Gx) (Z : Zs) (H : Hp) (σ : L2.St) (L : List Addr) (ps : List Opd) (vs : List V) (F : List Addr) : Prop where
  ok : OpsOk G Z H σ ps vs F
  nd : (F ++ L).Nodup
  dis : ∀ a ∈ F, ¬ Z a

section
variable {θ : Nat → V} {G : Gx} {Z Z1 Z2 : Zs} {H H1 H2 : Hp} {σ : L2.St} {L L1 L2' F F1 F2 : List Addr} {ps qs : List Opd} {vs ws : List V} {ρ ρ1 : En}
theorem OpsOk.kp (k : Kp Z1 G.K H1 Z2 H2) : ∀ {ps : List Opd} {vs : List V} {F : List Addr}, OpsOk G Z1 H1 σ ps vs F → (∀ a ∈ F, ∀ u, H1 a = some u → H2 a = some u) → OpsOk G Z2 H2 σ ps vs F
  | _, _, _, .nil, _ => .nil
  | _, _, _, .tmp h t, hf => .tmp (h.kp k fun a ha => hf a (List.mem_append_left _ ha)) (OpsOk.kp k t fun a ha => hf a (List.mem_append_right _ ha))
  | _, _, _, .nm h t, hf => .nm h (OpsOk.kp k t hf)
theorem OpsOk.mut : ∀ {ps : List Opd} {vs : List V} {F : List Addr}, OpsOk G Z H σ ps vs F → ∀ a ∈ F, Mut (H a)
  | _, _, _, .nil, _, h => by cases h
  | _, _, _, .tmp h t, a, ha => (List.mem_append.mp ha).elim (h.mut a) (OpsOk.mut t a)
  | _, _, _, .nm _ t, a, ha => OpsOk.mut t a ha
theorem OpsOk.append : ∀ {ps qs : List Opd} {vs ws : List V} {F F' : List Addr}, OpsOk G Z H σ ps vs F → OpsOk G Z H σ qs ws F' → OpsOk G Z H σ (ps ++ qs) (vs ++ ws) (F ++ F')
  | _, _, _, _, _, _, .nil, h => h
  | _, _, _, _, _, _, .tmp h t, h' => by
    rw [List.append_assoc]
    exact .tmp h (OpsOk.append t h')
  | _, _, _, _, _, _, .nm h t, h' => .nm h (OpsOk.append t h')
theorem mut_some {H : Hp} {a : Addr} (m : Mut (H a)) : H a ≠ none := fun e => by rw [e] at m; exact m
/-- held operands are held on when a part of the state has gone a step -/
theorem Held.carry (h : Held G Z1 H1 σ L1 ps vs F1) (r : Rep θ G Z1 H1 ρ1 σ L1) (s : Step Z1 L1 H1 Z2 (F2 ++ L2') H2) (nd : (F2 ++ L2').Nodup) : Held G Z2 H2 σ (F2 ++ L2') ps vs F1 := by
  have mu := h.ok.mut
  have nL : ∀ a ∈ F1, a ∉ L1 := fun a ha hl => (List.nodup_append.mp h.nd).2.2 a ha a hl rfl
  refine ⟨h.ok.kp (s.kp r.sl.mut r.dis) fun a ha u e => s.keep a u e (nL a ha), ?_, fun a ha z => ?_⟩
  · refine List.nodup_append.mpr ⟨(List.nodup_append.mp h.nd).1, nd, fun a ha b hb e => ?_⟩
    subst e
    rcases s.lnew a hb with q | q
    · exact nL a ha q
    · exact mut_some (mu a ha) q
  · rcases s.znew a z with q | q | q
    · exact h.dis a ha q
    · exact nL a ha q
    · exact mut_some (mu a ha) q
theorem Held.join (h1 : Held G Z H σ (F2 ++ L) ps vs F1) (h2 : Held G Z H σ L qs ws F2) : Held G Z H σ L (ps ++ qs) (vs ++ ws) (F1 ++ F2) :=
  ⟨h1.ok.append h2.ok, by rw [List.append_assoc]; exact h1.nd, fun a ha => (List.mem_append.mp ha).elim (h1.dis a) (h2.dis a)⟩
theorem Held.none (r : Rep θ G Z H ρ σ L) : Held G Z H σ L [] [] [] := ⟨.nil, r.nd, fun _ h => by cases h⟩
/-- it can be read -/
def Rb (G : Gx) (Z : Zs) (H : Hp) (o : O) (v : V) : Prop := ∃ F, Ro G Z H o v F
theorem slotO_some {ρ : En} {i : Nat} {o : O} (e : slotO ρ i = some o) : ∃ p, ρ[i]? = some (some (p, o)) := by
  unfold slotO at e
  split at e
  · rename_i po h
    cases e
    exact ⟨po.1, h⟩
  · cases e
theorem Rep.look (r : Rep θ G Z H ρ σ L) {i : Nat} {o : O} {v : V} (e : slotO ρ i = some o) (hv : σ[i]? = some (some v)) : Rb G Z H o v := by
  obtain ⟨p, e⟩ := slotO_some e
  obtain ⟨v', F, h1, h2, _⟩ := r.sl.get e
  rw [hv] at h1
  cases h1
  exact ⟨F, h2⟩
theorem OpsOk.looks (r : Rep θ G Z H ρ σ L) : ∀ {ps : List Opd} {vs : List V} {F : List Addr} {os : List O}, OpsOk G Z H σ ps vs F → looks ρ ps = some os → Paired (Rb G Z H) os vs
  | _, _, _, _, .nil, e => by
    cases e
    exact .nil
  | _, _, _, os, .tmp (ps := ps) h t, e => by
    unfold Eng.looks at e
    cases q : Eng.looks ρ ps with
    | none => rw [q] at e; simp [look] at e
    | some us =>
      rw [q] at e
      simp only [look, Option.some.injEq] at e
      subst e
      exact .cons ⟨_, h⟩ (OpsOk.looks r t q)
  | _, _, _, os, .nm (i := i) (ps := ps) h t, e => by
    unfold Eng.looks at e
    cases q : Eng.looks ρ ps with
    | none => rw [q] at e; cases q2 : slotO ρ i <;> simp [look, q2] at e
    | some us =>
      cases q2 : slotO ρ i with
      | none => simp [look, q2] at e
      | some o =>
        rw [q] at e
        simp only [look, q2, Option.some.injEq] at e
        subst e
        exact .cons (r.look q2 h) (OpsOk.looks r t q)
end

/-! ### an answer at a new object -/
structure Al (G : Gx) (Z : Zs) (H : Hp) (o : O) (v : V) (H' : Hp) (F : List Addr) : Prop where
  same : Same H H'
  ro : Ro G Z H' o v F
  nd : F.Nodup
  new : ∀ a ∈ F, H a = none
section
variable {θ : Nat → V} {G : Gx} {Z : Zs} {H H' : Hp} {σ : L2.St} {L F : List Addr} {ρ : En} {o : O} {v : V}
theorem same_kp {K : PySem.W.Frag} (s : Same H H') : Kp Z K H Z H' := ⟨fun _ h => h, fun a xs _ e => s _ _ e, fun a xs h => by
  rcases h with (e | ⟨o, e⟩) | e
  · exact .inl (.inl (s _ _ e))
  · exact .inl (.inr ⟨o, s _ _ e⟩)
  · exact .inr e, fun a ns h => by
  rcases h with ⟨ob, e⟩ | e
  · exact .inl ⟨ob, s _ _ e⟩
  · exact .inr e⟩
theorem Rep.same (r : Rep θ G Z H ρ σ L) (s : Same H H') : Rep θ G Z H' ρ σ L :=
  ⟨r.sl.kp (same_kp s) fun a _ u e => s a u e, r.nd, r.dis, fun a z e => by
    cases q : H a with
    | none => exact r.zd a z q
    | some o => (rw [s a o q] at e; cases e), r.pn⟩
theorem Al.rep (x : Al G Z H o v H' F) (r : Rep θ G Z H ρ σ L) : Rep θ G Z H' ρ σ L := r.same x.same
theorem Al.disj (x : Al G Z H o v H' F) (r : Rep θ G Z H ρ σ L) : (F ++ L).Nodup ∧ ∀ a ∈ F, ¬ Z a :=
  ⟨List.nodup_append.mpr ⟨x.nd, r.nd, fun a ha b hb e => by subst e; exact mut_some (r.sl.mut a hb) (x.new a ha)⟩, fun a ha z => r.zd a z (x.new a ha)⟩
theorem Al.held (x : Al G Z H o v H' F) (r : Rep θ G Z H ρ σ L) : Held G Z H' σ L [.tmp o] [v] F := by
  obtain ⟨h1, h2⟩ := x.disj r
  have h3 : OpsOk G Z H' σ [.tmp o] [v] (F ++ []) := .tmp x.ro .nil
  rw [List.append_nil] at h3
  exact ⟨h3, h1, h2⟩
theorem Al.step (x : Al G Z H o v H' F) : Step Z L H Z (F ++ L) H' :=
  ⟨fun a u e _ => x.same a u e, fun _ z => z, fun _ z => .inl z, fun a ha => (List.mem_append.mp ha).elim (fun h => .inr (x.new a h)) .inl⟩
theorem Al.val {d : D} {v : V} (h : Dz Z G.K H d v) : Al G Z H (.val d) v H [] := ⟨fun _ _ e => e, .val h, List.nodup_nil, fun _ h => by cases h⟩
theorem same_new {p : Addr} {o : HO} (h : H p = none) : Same H (upd H p o) := fun b x e => by
  rw [upd_ne (ne_of_none e h)]
  exact e
theorem Al.lst {ds : List D} {xs : List V} {p : Addr} (h : DzA Z G.K H ds xs) (np : H p = none) : Al G Z H (.lst ds) (.ref p) (upd H p (.lst xs)) [p] :=
  ⟨same_new np, .lst upd_same (h.kp (same_kp (same_new np))), by simp, fun a ha => by
    rw [List.mem_singleton] at ha
    rw [ha]; exact np⟩
theorem Al.tup {ds : List D} {xs : List V} {p : Addr} (h : DzA Z G.K H ds xs) (np : H p = none) : Al G Z H (.val (.tuple ds)) (.ref p) (upd H p (.tup xs)) [] :=
  ⟨same_new np, .val (.tup (.inl (.inl upd_same)) (h.kp (same_kp (same_new np)))), List.nodup_nil, fun _ h => by cases h⟩
end

/-! ### the readings -/
section
variable (X : Cx) (ca : Nat → Addr) (W : WX)
abbrev gx : Gx := ⟨X.prog, X.w, X.K, ca⟩
/-- what is wanted behind an expression; behind a list of them -/
def PoE (θ : Nat → V) (Z : Zs) (L : List Addr) (H : Hp) (σ : L2.St) (Q : VK) : Out Opd → Prop
  | .ok p ρ' => ∀ Z' H' L' F v, Rep θ (gx X ca) Z' H' ρ' σ L' → Held (gx X ca) Z' H' σ L' [p] [v] F → Step Z L H Z' (F ++ L') H' → Q v H'
  | .exc c ρ' => ∀ Z' H' L', Rep θ (gx X ca) Z' H' ρ' σ L' → Step Z L H Z' L' H' → W (.ref (ca c)) none σ H'
  | .stuck => False
def PoA (θ : Nat → V) (Z : Zs) (L : List Addr) (H : Hp) (σ : L2.St) (Q : List V → Hp → Prop) : Out (List Opd) → Prop
  | .ok ps ρ' => ∀ Z' H' L' F vs, Rep θ (gx X ca) Z' H' ρ' σ L' → Held (gx X ca) Z' H' σ L' ps vs F → Step Z L H Z' (F ++ L') H' → Q vs H'
  | .exc c ρ' => ∀ Z' H' L', Rep θ (gx X ca) Z' H' ρ' σ L' → Step Z L H Z' L' H' → W (.ref (ca c)) none σ H'
  | .stuck => False
def PoT (θ : Nat → V) (Z : Zs) (L : List Addr) (H : Hp) (σ : L2.St) (Q : Bool → Hp → Prop) : Out Bool → Prop
  | .ok b ρ' => ∀ Z' H' L', Rep θ (gx X ca) Z' H' ρ' σ L' → Step Z L H Z' L' H' → Q b H'
  | .exc c ρ' => ∀ Z' H' L', Rep θ (gx X ca) Z' H' ρ' σ L' → Step Z L H Z' L' H' → W (.ref (ca c)) none σ H'
  | .stuck => False
def RdE (f : ES) : TE := fun σ H Q => ∃ θ Z ρ L, Rep θ (gx X ca) Z H ρ σ L ∧ PoE X ca W θ Z L H σ Q (f ρ)
def RdA (f : AS) : TA := fun σ H Q => ∃ θ Z ρ L, Rep θ (gx X ca) Z H ρ σ L ∧ PoA X ca W θ Z L H σ Q (f ρ)
def RdT (f : TS') : TT := fun σ H Q => ∃ θ Z ρ L, Rep θ (gx X ca) Z H ρ σ L ∧ PoT X ca W θ Z L H σ Q (f ρ)
end

theorem PE.imp {X : Cx} {e : Expr} {t t' : TE} (h : PE X e t) (i : ∀ σ H Q, t' σ H Q → t σ H Q) : PE X e t' := ⟨fun pins s σ H Q I q => h.run pins s σ H Q I (i σ H Q q)⟩
theorem PT.imp {X : Cx} {e : Expr} {t t' : TT} (h : PT X e t) (i : ∀ σ H Q, t' σ H Q → t σ H Q) : PT X e t' := ⟨fun pins s σ H Q I q => h.run pins s σ H Q I (i σ H Q q)⟩
theorem PW.imp {X : Cx} {e : Expr} {t t' : TT} (h : PW X e t) (i : ∀ σ H Q, t' σ H Q → t σ H Q) : PW X e t' := ⟨fun wh pins s σ H Q I q => h.run wh pins s σ H Q I (i σ H Q q)⟩
theorem PA.imp {X : Cx} {es : List Expr} {t t' : TA} (h : PA X es t) (i : ∀ σ H Q, t' σ H Q → t σ H Q) : PA X es t' := ⟨fun pos pins s σ H Q I q => h.run pos pins s σ H Q I (i σ H Q q)⟩

/-! ### the combinators of expressions -/
def oNm (i : Nat) : ES := fun ρ => match slotO ρ i with
  | some _ => .ok (.nm i) ρ
  | none => .stuck
def oC (d : D) : ES := fun ρ => .ok (.tmp (.val d)) ρ
def oAs : List ES → AS
  | [] => fun ρ => .ok [] ρ
  | f :: fs => fun ρ => (f ρ).bind fun p ρ1 => (oAs fs ρ1).bind fun ps ρ2 => .ok (p :: ps) ρ2
/-- an operation on operands that are read -/
def oF (sem : List O → Option O) (as : AS) : ES := fun ρ => (as ρ).bind fun ps ρ1 => match looks ρ1 ps with
  | some os => put ρ1 (sem os)
  | none => .stuck
def two (sem : O → O → Option O) : List O → Option O
  | [a, b] => sem a b
  | _ => none
def one (sem : O → Option O) : List O → Option O
  | [a] => sem a
  | _ => none
/-- two operands -/
def o2 (sem : O → O → Option O) (a b : ES) : ES := oF (two sem) (oAs [a, b])

section
variable {X : Cx} {ca : Nat → Addr} {W : WX} {a b e : Expr} {es : List Expr} {f g : ES} {fs : AS} {pos : Pos}
theorem se_name {i : Nat} {x : Str} (hN : X.N[i]? = some x) (hv : Vis X.env.scope x) (hd : (x == ("__debug__" : Str)) = false) (hcd : (x == ("__classdict__" : Str)) = false) : PE X (.Name x pos) (RdE X ca W (oNm i)) :=
  PE.imp (pe_var hN hv hd hcd) fun σ H Q ⟨θ, Z, ρ, L, r, q⟩ => by
    unfold oNm at q
    cases e : slotO ρ i with
    | none => rw [e] at q; exact q.elim
    | some o =>
      rw [e] at q
      obtain ⟨p, e'⟩ := slotO_some e
      obtain ⟨v, F, h1, h2, _⟩ := r.sl.get e'
      exact ⟨v, h1, q Z H L [] v r ⟨.nm h1 .nil, r.nd, fun _ h => by cases h⟩ Step.refl⟩
theorem rd_const {d : D} {v : V} (h : ∀ Z H, Dz Z X.K H d v) : ∀ σ H Q, RdE X ca W (oC d) σ H Q → tC v σ H Q := fun σ H Q ⟨θ, Z, ρ, L, r, q⟩ =>
  q Z H L [] v r ((Al.val (G := gx X ca) (h Z H)).held r) Step.refl
theorem se_int {i : Int} {j : Nat} : PE X (.Constant (.int i) j pos) (RdE X ca W (oC (.int i))) := PE.imp pe_int (rd_const fun _ _ => .int i)
theorem se_bl {i : Bool} {j : Nat} : PE X (.Constant (.bool i) j pos) (RdE X ca W (oC (.bool i))) := PE.imp pe_bl (rd_const fun _ _ => .bl i)
theorem se_str {x : Str} {j : Nat} : PE X (.Constant (.str x) j pos) (RdE X ca W (oC (.str x))) := PE.imp pe_str (rd_const fun _ _ => .str x)
theorem se_non {j : Nat} : PE X (.Constant .none j pos) (RdE X ca W (oC .none)) := PE.imp pe_non (rd_const fun _ _ => .non)
/-- a module's constant -/
theorem se_glob {x : Str} {d : D} {v : V} {u : Value} (hg : Gl X x) (hm : X.mg x = some u) (r : RelV v u) (hd : (x == ("__debug__" : Str)) = false) (h : ∀ Z H, Dz Z X.K H d v) : PE X (.Name x pos) (RdE X ca W (oC d)) := PE.imp (pe_glob hg hm r hd) (rd_const h)

/-- one expression, then others -/
theorem seq2 {θ : Nat → V} {Z : Zs} {ρ : En} {L : List Addr} {σ : L2.St} {H : Hp} {Q : List V → Hp → Prop} {ta : TE} (r : Rep θ (gx X ca) Z H ρ σ L)
    (q : PoA X ca W θ Z L H σ Q ((f ρ).bind fun p ρ1 => (fs ρ1).bind fun ps ρ2 => .ok (p :: ps) ρ2)) (ha : ∀ Q', RdE X ca W f σ H Q' → ta σ H Q') : ta σ H fun x H1 => RdA X ca W fs σ H1 fun xs H2 => Q (x :: xs) H2 := by
  refine ha _ ⟨θ, Z, ρ, L, r, ?_⟩
  cases e : f ρ with
  | stuck => rw [e] at q; exact q
  | exc c ρ1 => rw [e] at q; exact q
  | ok p ρ1 =>
    rw [e] at q
    intro Z1 H1 L1 F1 v1 r1 h1 s1
    refine ⟨θ, Z1, ρ1, L1, r1, ?_⟩
    simp only [bind_ok] at q
    cases e2 : fs ρ1 with
    | stuck => rw [e2] at q; exact q
    | exc c ρ2 =>
      rw [e2] at q
      intro Z2 H2 L2 r2 s2
      exact q Z2 H2 L2 r2 ((s1.sub fun a h => List.mem_append_right _ h).trans s2)
    | ok ps ρ2 =>
      rw [e2] at q
      intro Z2 H2 L2 F2 vs r2 h2 s2
      have h3 := (h1.carry r1 s2 h2.nd).join h2
      exact q Z2 H2 L2 (F1 ++ F2) (v1 :: vs) r2 h3 (by rw [List.append_assoc]; exact s1.then s2)
theorem RdE.mono {σ : L2.St} {H : Hp} {Q Q' : VK} (h : RdE X ca W f σ H Q) (i : ∀ v H, Q v H → Q' v H) : RdE X ca W f σ H Q' := by
  obtain ⟨θ, Z, ρ, L, r, q⟩ := h
  refine ⟨θ, Z, ρ, L, r, ?_⟩
  cases e : f ρ with
  | stuck => rw [e] at q; exact q
  | exc c ρ1 => rw [e] at q; exact q
  | ok p ρ1 => rw [e] at q; exact fun Z1 H1 L1 F v r1 h1 s1 => i _ _ (q Z1 H1 L1 F v r1 h1 s1)
theorem rdA_one {σ : L2.St} {H : Hp} {Q : List V → Hp → Prop} (h : RdA X ca W (oAs [g]) σ H Q) : RdE X ca W g σ H fun y H1 => Q [y] H1 := by
  obtain ⟨θ, Z, ρ, L, r, q⟩ := h
  refine ⟨θ, Z, ρ, L, r, ?_⟩
  unfold oAs at q
  cases e : g ρ with
  | stuck => rw [e] at q; exact q
  | exc c ρ1 => rw [e] at q; exact q
  | ok p ρ1 => rw [e] at q; exact fun Z1 H1 L1 F v r1 h1 s1 => q Z1 H1 L1 F [v] r1 h1 s1
theorem sa_nil : PA X [] (RdA X ca W (oAs [])) := PA.imp pa_nil fun σ H Q ⟨θ, Z, ρ, L, r, q⟩ => q Z H L [] [] r (Held.none r) Step.refl
theorem sa_cons {fs : List ES} (ha : PE X e (RdE X ca W f)) (hr : PA X es (RdA X ca W (oAs fs))) (hs : starEach (e :: es) X.env = (false, eval e X.env) :: starEach es X.env) : PA X (e :: es) (RdA X ca W (oAs (f :: fs))) :=
  PA.imp (pa_cons ha hr hs) fun σ H Q ⟨θ, Z, ρ, L, r, q⟩ => seq2 (fs := oAs fs) r q fun _ h => h

/-- an operation's semantics on values -/
def RSem (sem : List O → Option O) : List V → Hp → VK → Prop := fun xs H Q =>
  ∃ Z os r, (∀ a, Z a → H a ≠ none) ∧ Paired (Rb (gx X ca) Z H) os xs ∧ sem os = some r ∧ ∀ v H' F, Al (gx X ca) Z H r v H' F → Q v H'
/-- what an operation's reading gives back to the whole -/
theorem fin_op {sem : List O → Option O} {θ : Nat → V} {Z : Zs} {L : List Addr} {H : Hp} {σ : L2.St} {Q : VK} {ps : List Opd} {ρ1 : En} {Z1 : Zs} {H1 : Hp} {L1 F : List Addr} {vs : List V}
    (q : PoE X ca W θ Z L H σ Q (match looks ρ1 ps with | some os => put ρ1 (sem os) | none => .stuck)) (r1 : Rep θ (gx X ca) Z1 H1 ρ1 σ L1) (h1 : Held (gx X ca) Z1 H1 σ L1 ps vs F) (s1 : Step Z L H Z1 (F ++ L1) H1) :
    RSem (X := X) (ca := ca) sem vs H1 Q := by
  cases e : looks ρ1 ps with
  | none => rw [e] at q; exact q.elim
  | some os =>
    rw [e] at q
    cases e2 : sem os with
    | none => simp only [e2, put] at q; exact q.elim
    | some o =>
      simp only [e2, put] at q
      refine ⟨Z1, os, o, r1.zd, h1.ok.looks r1 e, e2, fun v H' F' x => ?_⟩
      exact q Z1 H' L1 F' v (x.rep r1) (x.held r1) ((s1.sub fun a h => List.mem_append_right _ h).trans x.step)
theorem rd_oF {sem : List O → Option O} {σ : L2.St} {H : Hp} {Q : VK} (h : RdE X ca W (oF sem fs) σ H Q) : RdA X ca W fs σ H fun vs H1 => RSem (X := X) (ca := ca) sem vs H1 Q := by
  obtain ⟨θ, Z, ρ, L, r, q⟩ := h
  refine ⟨θ, Z, ρ, L, r, ?_⟩
  unfold oF at q
  cases e : fs ρ with
  | stuck => rw [e] at q; exact q
  | exc c ρ1 => rw [e] at q; exact q
  | ok ps ρ1 =>
    rw [e] at q
    intro Z1 H1 L1 F vs r1 h1 s1
    exact fin_op q r1 h1 s1
/-- binary operators -/
def BinS (X : Cx) (ca : Nat → Addr) (op : Value → Value → Sem Value) (sem : O → O → Option O) : Prop := OpR X op (fun x y H Q => RSem (X := X) (ca := ca) (two sem) [x, y] H Q)
theorem rd_o2 {sem : O → O → Option O} {σ : L2.St} {H : Hp} {Q : VK} (h : RdE X ca W (o2 sem f g) σ H Q) : tOp (fun x y H Q => RSem (X := X) (ca := ca) (two sem) [x, y] H Q) (RdE X ca W f) (RdE X ca W g) σ H Q := by
  obtain ⟨θ, Z, ρ, L, r, q⟩ := rd_oF h
  have h1 := seq2 (fs := oAs [g]) (ta := RdE X ca W f) (Q := fun vs H1 => RSem (X := X) (ca := ca) (two sem) vs H1 Q) r q (fun _ h => h)
  exact h1.mono fun v H1 h2 => rdA_one h2
theorem se_bin {sem : O → O → Option O} {op : Operator} (ho : BinS X ca (binaryOp op) sem) (ha : PE X a (RdE X ca W f)) (hb : PE X b (RdE X ca W g)) : PE X (.BinOp a op b pos) (RdE X ca W (o2 sem f g)) :=
  PE.imp (pe_op ho ha hb) fun _ _ _ h => rd_o2 h
theorem se_cmp {sem : O → O → Option O} {op : CmpOp} (ho : BinS X ca (compareOp op) sem) (ha : PE X a (RdE X ca W f)) (hb : PE X b (RdE X ca W g)) (hm : behindInMarks op b = false) : PE X (.Compare a [op] [b] pos) (RdE X ca W (o2 sem f g)) :=
  PE.imp (pe_cmpR ho ha hb hm) fun _ _ _ h => rd_o2 h
end
end Eng
set_option maxHeartbeats 1000000
/-! The engine, part 3: operators. -/
namespace Eng
open PySem PySem.Spec L2
open PyProof.Rows hiding St

/-! ### views -/
def O.list? : O → Option (List D)
  | .lst ds => some ds
  | .val (.list ds) => some ds
  | _ => none
def O.tup? : O → Option (List D)
  | .val (.tuple ds) => some ds
  | _ => none
def O.seq? : O → Option (List D)
  | .lst ds => some ds
  | .val (.list ds) => some ds
  | .val (.tuple ds) => some ds
  | _ => none
def O.view? : O → Option D
  | .lst ds => some (.list ds)
  | .val d => some d
  | _ => none
section
variable {G : Gx} {Z : Zs} {H : Hp} {o : O} {v : V} {ds : List D} {d : D}
theorem rb_list (h : Rb G Z H o v) (e : o.list? = some ds) : ∃ a xs, v = .ref a ∧ H a = some (.lst xs) ∧ DzA Z G.K H ds xs := by
  obtain ⟨F, h⟩ := h
  cases h with
  | lst e1 h1 => cases e; exact ⟨_, _, rfl, e1, h1⟩
  | val h1 =>
    cases h1 with
    | lst z r h => cases e; exact ⟨_, _, rfl, r, h⟩
    | _ => cases e
  | _ => cases e
theorem rb_tup (h : Rb G Z H o v) (e : o.tup? = some ds) : ∃ a xs, v = .ref a ∧ SqT G.K H a xs ∧ DzA Z G.K H ds xs := by
  obtain ⟨F, h⟩ := h
  cases h with
  | val h1 =>
    cases h1 with
    | tup r h => cases e; exact ⟨_, _, rfl, r, h⟩
    | _ => cases e
  | _ => cases e
theorem rb_seq (h : Rb G Z H o v) (e : o.seq? = some ds) : ∃ a xs, v = .ref a ∧ (SqL G.K H a xs ∨ SqT G.K H a xs) ∧ DzA Z G.K H ds xs := by
  obtain ⟨F, h⟩ := h
  cases h with
  | lst e1 h1 => cases e; exact ⟨_, _, rfl, .inl (.inl (.inl e1)), h1⟩
  | val h1 =>
    cases h1 with
    | lst z r h => cases e; exact ⟨_, _, rfl, .inl (.inl (.inl r)), h⟩
    | tup r h => cases e; exact ⟨_, _, rfl, .inr r, h⟩
    | _ => cases e
  | _ => cases e
theorem rb_view (h : Rb G Z H o v) (e : o.view? = some d) : Dp G.K H v d := by
  obtain ⟨F, h⟩ := h
  cases h with
  | lst e1 h1 => cases e; exact .lst (.inl (.inl e1)) h1.dp
  | val h1 => cases e; exact h1.dp
  | _ => cases e
theorem rb_val (h : Rb G Z H (.val d) v) : Dz Z G.K H d v := by
  obtain ⟨F, h⟩ := h
  cases h with
  | val h1 => exact h1
theorem rb_int {i : Int} (h : Rb G Z H (.val (.int i)) v) : v = .int i := by cases rb_val h; rfl
theorem rb_str {i : Str} (h : Rb G Z H (.val (.str i)) v) : v = .str i := by cases rb_val h; rfl
theorem rb_bl {i : Bool} (h : Rb G Z H (.val (.bool i)) v) : v = .bl i := by cases rb_val h; rfl
theorem rb_non (h : Rb G Z H (.val .none) v) : v = .non := by cases rb_val h; rfl
end
theorem pair2 {α β : Type} {R : α → β → Prop} {a b : α} {x y : β} (h : Paired R [a, b] [x, y]) : R a x ∧ R b y := by
  cases h with
  | cons h1 t =>
    cases t with
    | cons h2 t => exact ⟨h1, h2⟩
theorem pair1 {α β : Type} {R : α → β → Prop} {a : α} {x : β} (h : Paired R [a] [x]) : R a x := by
  cases h with
  | cons h1 t => exact h1
theorem two_some {sem : O → O → Option O} {os : List O} {r : O} (e : two sem os = some r) : ∃ a b, os = [a, b] ∧ sem a b = some r := by
  unfold two at e
  split at e
  · exact ⟨_, _, rfl, e⟩
  · cases e
theorem one_some {sem : O → Option O} {os : List O} {r : O} (e : one sem os = some r) : ∃ a, os = [a] ∧ sem a = some r := by
  unfold one at e
  split at e
  · exact ⟨_, rfl, e⟩
  · cases e
section
variable {X : Cx} {ca : Nat → Addr}
/-- the frame of a binary operator's proof -/
theorem binS_of {f : Value → Value → Sem Value} {sem : O → O → Option O}
    (h : ∀ (pins : List (Addr × Obj)) (s : Shared) (σ : L2.St) (H : Hp) (x y : V) (v u : Value) (Q : VK) (Z : Zs) (a b r : O), Inv X pins σ H s → RelV x v → RelV y u → Rb (gx X ca) Z H a x → Rb (gx X ca) Z H b y → sem a b = some r →
      (∀ v H' F, Al (gx X ca) Z H r v H' F → Q v H') → wpAny (model X.prog X.w) X.A (f v u) (EP X pins σ Q) X.xe s) : BinS X ca f sem := by
  intro pins s σ H x y v u Q I rx ry ⟨Z, os, r, zd, hp, e, q⟩
  obtain ⟨a, b, rfl, e⟩ := two_some e
  obtain ⟨h1, h2⟩ := pair2 hp
  exact h pins s σ H x y v u Q Z a b r I rx ry h1 h2 e q
end

/-! ### arithmetic -/
def addS : O → O → Option O
  | .val (.int i), .val (.int j) => some (.val (.int (i + j)))
  | .val (.str x), .val (.str y) => if x.length + y.length ≤ sizeLine then some (.val (.str (x ++ y))) else none
  | .val (.tuple xs), .val (.tuple ys) => if xs.length + ys.length ≤ sizeLine then some (.val (.tuple (xs ++ ys))) else none
  | .lst xs, .lst ys => if xs.length + ys.length ≤ sizeLine then some (.lst (xs ++ ys)) else none
  | .lst xs, .val (.list ys) => if xs.length + ys.length ≤ sizeLine then some (.lst (xs ++ ys)) else none
  | .val (.list xs), .lst ys => if xs.length + ys.length ≤ sizeLine then some (.lst (xs ++ ys)) else none
  | .val (.list xs), .val (.list ys) => if xs.length + ys.length ≤ sizeLine then some (.lst (xs ++ ys)) else none
  | _, _ => none
def intS (C : Int → Int → Prop) [∀ i j, Decidable (C i j)] (g : Int → Int → Int) : O → O → Option O
  | .val (.int i), .val (.int j) => if C i j then some (.val (.int (g i j))) else none
  | _, _ => none
def subS := intS (fun _ _ => True) fun i j => i - j
def mulS := intS (fun i j => (-(2 ^ 64) < i ∧ i < 2 ^ 64) ∨ (-(2 ^ 64) < j ∧ j < 2 ^ 64)) fun i j => i * j
def fdivS := intS (fun _ j => 0 < j ∧ j < 1073741824) fun i j => i / j
def modS := intS (fun _ j => 0 < j) fun i j => i % j
def powS := intS (fun i j => 0 ≤ j ∧ j ≤ 1000000 ∧ i.natAbs < 2 ^ 64) fun i j => i ^ j.toNat

section
variable {X : Cx} {ca : Nat → Addr}
theorem intS_ok {C : Int → Int → Prop} [∀ i j, Decidable (C i j)] {g : Int → Int → Int} {f : Value → Value → Sem Value} {C' : Int → Int → Prop} (h : OpR X f (rI C' fun i j => .int (g i j))) (hC : ∀ i j, C i j → C' i j) : BinS X ca f (intS C g) := binS_of fun pins s σ H x y v u Q Z a b r I rx ry ha hb e q => by
  unfold intS at e
  split at e
  · rename_i i j
    split at e
    · rename_i hc
      cases e
      cases rb_int ha
      cases rb_int hb
      exact h pins s σ H _ _ v u Q I rx ry ⟨i, j, rfl, rfl, hC i j hc, q _ _ [] (Al.val (.int _))⟩
    · cases e
  · cases e
theorem bin_sub : BinS X ca (binaryOp .Sub) subS := intS_ok (C' := fun _ _ => True) (fun pins s σ H x y v u Q I rx ry ⟨i, j, e1, e2, _, q⟩ => op_sub pins s σ H x y v u Q I rx ry ⟨i, j, e1, e2, q⟩) fun _ _ h => h
theorem bin_mul : BinS X ca (binaryOp .Mult) mulS := intS_ok op_mul fun _ _ h => h
theorem bin_fdiv : BinS X ca (binaryOp .FloorDiv) fdivS := intS_ok op_fdiv fun _ _ h => h
theorem bin_mod : BinS X ca (binaryOp .Mod) modS := intS_ok op_mod fun _ _ h => h
theorem bin_pow : BinS X ca (binaryOp .Pow) powS := intS_ok op_pow fun _ _ h => h
theorem DzA.nil_iff {Z : Zs} {K : PySem.W.Frag} {H : Hp} {ds : List D} {xs : List V} (h : DzA Z K H ds xs) (e : xs = []) : ds = [] := by
  subst e
  cases h
  rfl
theorem bin_add : BinS X ca (binaryOp .Add) addS := binS_of fun pins s σ H x y v u Q Z a b r I rx ry ha hb e q => by
  have lists : ∀ xs ys, a.list? = some xs → b.list? = some ys → (if xs.length + ys.length ≤ sizeLine then some (O.lst (xs ++ ys)) else none) = some r → wpAny (model X.prog X.w) X.A (binaryOp .Add v u) (EP X pins σ Q) X.xe s := fun xs ys e1 e2 e => by
    split at e
    · rename_i hc
      cases e
      obtain ⟨p, us, rfl, hp, dp⟩ := rb_list ha e1
      obtain ⟨p', ws, rfl, hp', dp'⟩ := rb_list hb e2
      exact op_cat pins s σ H _ _ v u Q I rx ry ⟨p, p', us, ws, rfl, rfl, hp, hp', by rw [dp.length, dp'.length]; exact hc, fun l nl => q _ _ _ (Al.lst (dp.append dp') nl)⟩
    · cases e
  unfold addS at e
  split at e
  · cases e
    cases rb_int ha
    cases rb_int hb
    exact op_add pins s σ H _ _ v u Q I rx ry ⟨_, _, rfl, rfl, q _ _ [] (Al.val (.int _))⟩
  · split at e
    · rename_i hc
      cases e
      cases rb_str ha
      cases rb_str hb
      exact op_add_str pins s σ H _ _ v u Q I rx ry ⟨_, _, rfl, rfl, hc, q _ _ [] (Al.val (.str _))⟩
    · cases e
  · split at e
    · rename_i xs ys hc
      cases e
      obtain ⟨p, us, rfl, hp, dp⟩ := rb_tup ha rfl
      obtain ⟨p', ws, rfl, hp', dp'⟩ := rb_tup hb rfl
      refine op_catA pins s σ H _ _ v u Q I rx ry ⟨p, p', us, ws, rfl, rfl, hp, hp', by rw [dp.length, dp'.length]; exact hc, fun e => ?_, fun _ e => ?_, fun _ _ l nl => q _ _ _ (Al.tup (dp.append dp') nl)⟩
      · cases dp.nil_iff e
        exact q _ _ [] (Al.val (.tup hp' dp'))
      · cases dp'.nil_iff e
        rw [List.append_nil] at q
        exact q _ _ [] (Al.val (.tup hp dp))
    · cases e
  · exact lists _ _ rfl rfl e
  · exact lists _ _ rfl rfl e
  · exact lists _ _ rfl rfl e
  · exact lists _ _ rfl rfl e
  · cases e
end

/-! ### comparisons -/
def isStrD : D → Bool
  | .str _ => true
  | _ => false
/-- == of data: two texts, or data that lies within the model's line -/
def eqD? (d e : D) : Option Bool := if (isStrD d && isStrD e || SeqAt.shaped d && SeqAt.shaped e) = true then some (PyData.eqv d e) else none
def eqS (a b : O) : Option O := match a.view?, b.view? with
  | some d, some e => (eqD? d e).map fun k => .val (.bool k)
  | _, _ => none
def neS (a b : O) : Option O := match a.view?, b.view? with
  | some d, some e => (eqD? d e).map fun k => .val (.bool (!k))
  | _, _ => none
def cmpS (p : Int → Int → Bool) (ps : List Nat → List Nat → Bool) : O → O → Option O
  | .val (.int i), .val (.int j) => some (.val (.bool (p i j)))
  | .val (.str i), .val (.str j) => some (.val (.bool (ps i.cps.toList j.cps.toList)))
  | _, _ => none
def ltS := cmpS (fun i j => decide (i < j)) fun i j => decide (i < j)
def leS := cmpS (fun i j => decide (i ≤ j)) fun i j => !decide (j < i)
def gtS := cmpS (fun i j => decide (j < i)) fun i j => decide (j < i)
def geS := cmpS (fun i j => decide (j ≤ i)) fun i j => !decide (i < j)
def isNoneO : O → Bool
  | .val .none => true
  | _ => false
def isS (a b : O) : Option O := if isNoneO b = true then some (.val (.bool (isNoneO a))) else none
def isnotS (a b : O) : Option O := if isNoneO b = true then some (.val (.bool (!isNoneO a))) else none
section
variable {X : Cx} {ca : Nat → Addr}
theorem eqv_str (x y : Str) : PyData.eqv (.str x) (.str y) = (x == y) := by simp [PyData.eqv]
theorem eqD_ok {d e : D} {k : Bool} (h : eqD? d e = some k) : (∃ x y, d = .str x ∧ e = .str y ∧ k = decide (x = y)) ∨ (SeqAt.shaped d = true ∧ SeqAt.shaped e = true ∧ k = PyData.eqv d e) := by
  unfold eqD? at h
  split at h
  · rename_i hc
    cases h
    rcases Bool.or_eq_true_iff.mp hc with hc | hc
    · left
      rw [Bool.and_eq_true] at hc
      cases d <;> cases e <;> simp [isStrD] at hc
      refine ⟨_, _, rfl, rfl, ?_⟩
      rw [eqv_str]
      exact Bool.beq_eq_decide_eq _ _
    · rw [Bool.and_eq_true] at hc
      exact .inr ⟨hc.1, hc.2, rfl⟩
  · cases h
theorem bin_eq (hu : X.A.units + 64 < cLine) : BinS X ca (compareOp .Eq) eqS := binS_of fun pins s σ H x y v u Q Z a b r I rx ry ha hb e q => by
  unfold eqS at e
  split at e
  · rename_i d d' e1 e2
    cases e3 : eqD? d d' with
    | none => rw [e3] at e; cases e
    | some k =>
      rw [e3] at e
      cases e
      have h1 := rb_view ha e1
      have h2 := rb_view hb e2
      rcases eqD_ok e3 with ⟨x', y', rfl, rfl, rfl⟩ | ⟨s1, s2, rfl⟩
      · cases h1
        cases h2
        refine op_eq pins s σ H _ _ v u Q I rx ry ⟨rfl, ?_⟩
        have hd : decide (V.str x' = V.str y') = decide (x' = y') := by
          by_cases h : x' = y'
          · subst h; simp
          · rw [decide_eq_false h, decide_eq_false fun e => h (V.str.inj e)]
        rw [hd]
        exact q _ _ [] (Al.val (.bl _))
      · exact op_eqD hu pins s σ H _ _ v u Q I rx ry ⟨_, _, h1, h2, s1, s2, q _ _ [] (Al.val (.bl _))⟩
  · cases e
theorem bin_ne (hu : X.A.units + 64 < cLine) : BinS X ca (compareOp .NotEq) neS := binS_of fun pins s σ H x y v u Q Z a b r I rx ry ha hb e q => by
  unfold neS at e
  split at e
  · rename_i d d' e1 e2
    cases e3 : eqD? d d' with
    | none => rw [e3] at e; cases e
    | some k =>
      rw [e3] at e
      cases e
      have h1 := rb_view ha e1
      have h2 := rb_view hb e2
      rcases eqD_ok e3 with ⟨x', y', rfl, rfl, rfl⟩ | ⟨s1, s2, rfl⟩
      · cases h1
        cases h2
        refine op_ne pins s σ H _ _ v u Q I rx ry ⟨rfl, ?_⟩
        have hd : decide (V.str x' = V.str y') = decide (x' = y') := by
          by_cases h : x' = y'
          · subst h; simp
          · rw [decide_eq_false h, decide_eq_false fun e => h (V.str.inj e)]
        rw [hd]
        exact q _ _ [] (Al.val (.bl _))
      · exact op_neD hu pins s σ H _ _ v u Q I rx ry ⟨_, _, h1, h2, s1, s2, q _ _ [] (Al.val (.bl _))⟩
  · cases e
theorem cmp_ok {p : Int → Int → Bool} {ps : List Nat → List Nat → Bool} {f : Value → Value → Sem Value} (h : OpR X f (rI0 fun i j => .bl (p i j)))
    (h' : OpR X f (fun x y H Q => ∃ i j, x = .str i ∧ y = .str j ∧ Q (.bl (ps i.cps.toList j.cps.toList)) H)) : BinS X ca f (cmpS p ps) := binS_of fun pins s σ H x y v u Q Z a b r I rx ry ha hb e q => by
  unfold cmpS at e
  split at e
  · cases e
    cases rb_int ha
    cases rb_int hb
    exact h pins s σ H _ _ v u Q I rx ry ⟨_, _, rfl, rfl, q _ _ [] (Al.val (.bl _))⟩
  · cases e
    cases rb_str ha
    cases rb_str hb
    exact h' pins s σ H _ _ v u Q I rx ry ⟨_, _, rfl, rfl, q _ _ [] (Al.val (.bl _))⟩
  · cases e
theorem bin_lt : BinS X ca (compareOp .Lt) ltS := cmp_ok op_lt op_lt_str
theorem bin_le : BinS X ca (compareOp .LtE) leS := cmp_ok op_le op_le_str
theorem bin_gt : BinS X ca (compareOp .Gt) gtS := cmp_ok op_gt op_gt_str
theorem isNone_rb {Z : Zs} {H : Hp} {o : O} {x : V} (h : Rb (gx X ca) Z H o x) : decide (x = .non) = isNoneO o := by
  obtain ⟨F, h⟩ := h
  cases h with
  | val h => cases h <;> simp [isNoneO]
  | _ => simp [isNoneO]
theorem isNone_val {o : O} (h : isNoneO o = true) : o = .val .none := by
  unfold isNoneO at h
  split at h
  · rfl
  · cases h
theorem bin_is : BinS X ca (compareOp .Is) isS := binS_of fun pins s σ H x y v u Q Z a b r I rx ry ha hb e q => by
  unfold isS at e
  split at e
  · rename_i hc
    cases e
    cases isNone_val hc
    cases rb_non hb
    refine op_isN pins s σ H _ _ v u Q I rx ry ⟨rfl, ?_⟩
    rw [isNone_rb ha]
    exact q _ _ [] (Al.val (.bl _))
  · cases e
end
end Eng
set_option maxHeartbeats 1000000
/-! The engine, part 4: dicts, in, items, slices. -/
namespace Eng
open PySem PySem.Spec L2
open PyProof.Rows hiding St

/-! ### dicts as lists of pairs -/
def keyOf : D → Option Key
  | .str x => some (.inr x)
  | .int i => some (.inl i)
  | _ => none
def nkOf (d : D) : Option NestedKey := match nkey d with
  | some (.tup ks) => if (NestedKey.tup ks).depth ≤ 8 then some (.tup ks) else none
  | _ => none
def dget (es : List (D × D)) (k : D) : Option D := (es.find? fun e => PyData.eqv e.1 k).map (·.2)
def dhas (es : List (D × D)) (k : D) : Bool := es.any fun e => PyData.eqv e.1 k
def dput (es : List (D × D)) (k v : D) : List (D × D) := if dhas es k = true then es.map (fun e => if PyData.eqv e.1 k = true then (e.1, v) else e) else es ++ [(k, v)]
/-- the key is of the dict's kind -/
def dOk (es : List (D × D)) (k : D) : Bool := ((keyOf k).isSome && es.all fun e => (keyOf e.1).isSome) || ((nkOf k).isSome && es.all fun e => (nkOf e.1).isSome)

section
variable {Z : Zs} {K : PySem.W.Frag} {H : Hp}
theorem key_dz {d : D} {κ : Key} (h : Dz Z K H d (kV κ)) : keyOf d = some κ := by
  cases κ with
  | inl i => cases h; rfl
  | inr x => cases h; rfl
theorem key_v {d : D} {v : V} {κ : Key} (h : Dz Z K H d v) (e : keyOf d = some κ) : v = kV κ := by
  cases h <;> simp [keyOf] at e
  · subst e; rfl
  · subst e; rfl
theorem eqv_key {a b : D} {κ κ' : Key} (h : keyOf a = some κ) (h' : keyOf b = some κ') : PyData.eqv a b = decide (κ = κ') := by
  cases a <;> simp [keyOf] at h <;> subst h <;> cases b <;> simp [keyOf] at h' <;> subst h' <;> simp [PyData.eqv] <;> exact Bool.beq_eq_decide_eq _ _
theorem nkey_ref {d : D} {κ : NestedKey} (e : nkOf d = some κ) : ∃ ds, d = .tuple ds := by
  unfold nkOf at e
  cases d with
  | tuple ds => exact ⟨ds, rfl⟩
  | _ => simp [nkey] at e
theorem keyOf_tup {d : D} {κ : NestedKey} (e : nkOf d = some κ) : keyOf d = none := by
  obtain ⟨ds, rfl⟩ := nkey_ref e
  rfl
theorem nkOf_some {d : D} {κ : NestedKey} (e : nkOf d = some κ) : nkey d = some κ ∧ κ.depth ≤ 8 := by
  unfold nkOf at e
  split at e
  · rename_i ks h
    split at e
    · rename_i hd
      cases e
      exact ⟨h, hd⟩
    · cases e
  · cases e
mutual
theorem nkey_eqv : ∀ {a b : D} {x y : NestedKey}, nkey a = some x → nkey b = some y → PyData.eqv a b = decide (x = y)
  | .none, b, x, y, h, h' => by
    simp [nkey] at h; subst h
    cases b <;> simp [nkey] at h'
    · subst h'; simp [PyData.eqv]
    · subst h'; simp [PyData.eqv]
    · subst h'; simp [PyData.eqv]
    · obtain ⟨ks, _, rfl⟩ := h'; simp [PyData.eqv]
  | .int i, b, x, y, h, h' => by
    simp [nkey] at h; subst h
    cases b <;> simp [nkey] at h'
    · subst h'; first | (simp [PyData.eqv]; done) | (simp [PyData.eqv]; exact Bool.beq_eq_decide_eq _ _)
    · subst h'; first | (simp [PyData.eqv]; done) | (simp [PyData.eqv]; exact Bool.beq_eq_decide_eq _ _)
    · subst h'; first | (simp [PyData.eqv]; done) | (simp [PyData.eqv]; exact Bool.beq_eq_decide_eq _ _)
    · obtain ⟨ks, _, rfl⟩ := h'; simp [PyData.eqv]
  | .str i, b, x, y, h, h' => by
    simp [nkey] at h; subst h
    cases b <;> simp [nkey] at h'
    · subst h'; first | (simp [PyData.eqv]; done) | (simp [PyData.eqv]; exact Bool.beq_eq_decide_eq _ _)
    · subst h'; first | (simp [PyData.eqv]; done) | (simp [PyData.eqv]; exact Bool.beq_eq_decide_eq _ _)
    · subst h'; first | (simp [PyData.eqv]; done) | (simp [PyData.eqv]; exact Bool.beq_eq_decide_eq _ _)
    · obtain ⟨ks, _, rfl⟩ := h'; simp [PyData.eqv]
  | .tuple ds, b, x, y, h, h' => by
    simp [nkey] at h
    obtain ⟨ks, hk, rfl⟩ := h
    cases b <;> simp [nkey] at h'
    · subst h'; simp [PyData.eqv]
    · subst h'; simp [PyData.eqv]
    · subst h'; simp [PyData.eqv]
    · obtain ⟨ks', hk', rfl⟩ := h'
      simp only [PyData.eqv, NestedKey.tup.injEq]
      exact nkeys_eqv hk hk'
  | .bool _, _, _, _, h, _ => by simp [nkey] at h
  | .list _, _, _, _, h, _ => by simp [nkey] at h
  | .dict _, _, _, _, h, _ => by simp [nkey] at h
theorem nkeys_eqv : ∀ {a b : List D} {x y : List NestedKey}, nkey.nkeys a = some x → nkey.nkeys b = some y → PyData.eqvAll a b = decide (x = y)
  | [], b, x, y, h, h' => by
    simp [nkey.nkeys] at h; subst h
    cases b with
    | nil => simp [nkey.nkeys] at h'; subst h'; simp [PyData.eqvAll]
    | cons d ds =>
      unfold nkey.nkeys at h'
      split at h'
      · cases h'; simp [PyData.eqvAll]
      · cases h'
  | c :: cs, b, x, y, h, h' => by
    unfold nkey.nkeys at h
    split at h
    · rename_i k ks h1 h2
      cases h
      cases b with
      | nil => simp [nkey.nkeys] at h'; subst h'; simp [PyData.eqvAll]
      | cons d ds =>
        unfold nkey.nkeys at h'
        split at h'
        · rename_i k' ks' h1' h2'
          cases h'
          simp only [PyData.eqvAll, nkey_eqv h1 h1', nkeys_eqv h2 h2', List.cons.injEq]
          by_cases e1 : k = k' <;> by_cases e2 : ks = ks' <;> simp [e1, e2]
        · cases h'
    · cases h
end
/-- a dict with plain keys, asked -/
theorem dget_val : ∀ {es : List (D × D)} {kvs : List (Key × V)} {k : D} {κ : Key}, DzA Z K H (es.map (·.1)) (kvs.map fun p => kV p.1) → DzA Z K H (es.map (·.2)) (kvs.map (·.2)) → keyOf k = some κ →
    (valV kvs κ).isSome = dhas es k ∧ ∀ d, dget es k = some d → ∃ v, valV kvs κ = some v ∧ Dz Z K H d v
  | [], [], _, _, _, _, _ => ⟨rfl, fun d e => by simp [dget] at e⟩
  | [], _ :: _, _, _, h, _, _ => by cases h
  | _ :: _, [], _, _, h, _, _ => by cases h
  | (a, b) :: es, (c, v) :: kvs, k, κ, h1, h2, hk => by
    cases h1 with
    | cons h1 t1 =>
      cases h2 with
      | cons h2 t2 =>
        have e1 : PyData.eqv a k = decide (c = κ) := eqv_key (key_dz h1) hk
        obtain ⟨i1, i2⟩ := dget_val t1 t2 hk
        by_cases e : c = κ
        · rw [valV_pos (p := (c, v)) e]
          refine ⟨by simp [dhas, e1, e], fun d q => ?_⟩
          simp [dget, e1, e] at q
          subst q
          exact ⟨v, rfl, h2⟩
        · rw [valV_neg (p := (c, v)) e]
          refine ⟨by rw [i1]; simp [dhas, e1, e], fun d q => ?_⟩
          refine i2 d ?_
          simpa [dget, e1, e] using q
theorem map_dput : ∀ {es : List (D × D)} {kvs : List (Key × V)} {k d : D} {κ : Key} {v : V}, DzA Z K H (es.map (·.1)) (kvs.map fun p => kV p.1) → DzA Z K H (es.map (·.2)) (kvs.map (·.2)) → keyOf k = some κ → Dz Z K H d v →
    DzA Z K H ((es.map fun e => if PyData.eqv e.1 k = true then (e.1, d) else e).map (·.1)) ((kvs.map fun kv => if kv.1 = κ then (kv.1, v) else kv).map fun p => kV p.1) ∧
    DzA Z K H ((es.map fun e => if PyData.eqv e.1 k = true then (e.1, d) else e).map (·.2)) ((kvs.map fun kv => if kv.1 = κ then (kv.1, v) else kv).map (·.2))
  | [], [], _, _, _, _, _, _, _, _ => ⟨.nil, .nil⟩
  | [], _ :: _, _, _, _, _, h, _, _, _ => by cases h
  | _ :: _, [], _, _, _, _, h, _, _, _ => by cases h
  | (a, b) :: es, (c, w) :: kvs, k, d, κ, v, h1, h2, hk, hd => by
    cases h1 with
    | cons h1 t1 =>
      cases h2 with
      | cons h2 t2 =>
        have e1 : PyData.eqv a k = decide (c = κ) := eqv_key (key_dz h1) hk
        obtain ⟨i1, i2⟩ := map_dput t1 t2 hk hd
        by_cases e : c = κ
        · simp only [List.map_cons, e1, e, decide_true, if_true]
          exact ⟨.cons (by rw [← e]; exact h1) i1, .cons hd i2⟩
        · simp only [List.map_cons, e1, e, decide_false, if_false, Bool.false_eq_true]
          exact ⟨.cons h1 i1, .cons h2 i2⟩
theorem dput_ok {es : List (D × D)} {kvs : List (Key × V)} {k d : D} {κ : Key} {v : V} (h1 : DzA Z K H (es.map (·.1)) (kvs.map fun p => kV p.1)) (h2 : DzA Z K H (es.map (·.2)) (kvs.map (·.2))) (hk : keyOf k = some κ) (hkv : Dz Z K H k (kV κ)) (hd : Dz Z K H d v) :
    DzA Z K H ((dput es k d).map (·.1)) ((putK kvs κ v).map fun p => kV p.1) ∧ DzA Z K H ((dput es k d).map (·.2)) ((putK kvs κ v).map (·.2)) := by
  have e := (dget_val h1 h2 hk).1
  unfold dput putK
  rw [valV_any, e]
  split
  · exact map_dput h1 h2 hk hd
  · rw [List.map_append, List.map_append, List.map_append, List.map_append]
    exact ⟨h1.append (.cons hkv .nil), h2.append (.cons hd .nil)⟩
/-- all keys plain, or none there -/
theorem all_key : ∀ {es : List (D × D)} {kvs : List (Key × V)}, DzA Z K H (es.map (·.1)) (kvs.map fun p => kV p.1) → (es.all fun e => (nkOf e.1).isSome) = true → es = [] ∧ kvs = []
  | [], [], _, _ => ⟨rfl, rfl⟩
  | [], _ :: _, h, _ => by cases h
  | (a, b) :: es, [], h, _ => by cases h
  | (a, b) :: es, (c, v) :: kvs, h, q => by
    cases h with
    | cons h t =>
      rw [List.all_cons, Bool.and_eq_true] at q
      obtain ⟨κ, e⟩ := Option.isSome_iff_exists.mp q.1
      have := keyOf_tup e
      rw [key_dz h] at this
      cases this
theorem all_nkey : ∀ {xs : List (NestedKey × Addr × Value)} {es : List (D × D)}, Paired (NEnt Z K H) xs es → (es.all fun e => (keyOf e.1).isSome) = true → xs = []
  | _, _, .nil, _ => rfl
  | _, (ek, ev) :: _, .cons h t, q => by
    rw [List.all_cons, Bool.and_eq_true] at q
    obtain ⟨h1, h2, h3, _⟩ := h
    replace h3 : Dz Z K H ek _ := h3
    replace q : (keyOf ek).isSome = true ∧ _ := q
    cases h3 with
    | lst => simp [keyOf] at q
    | tup => simp [keyOf] at q
/-- nested keys, asked -/
theorem dget_nk : ∀ {xs : List (NestedKey × Addr × Value)} {es : List (D × D)} {k : D} {κ : NestedKey}, Paired (NEnt Z K H) xs es → nkey k = some κ →
    (atKey xs κ).isSome = dhas es k ∧ ∀ d, dget es k = some d → ∃ p v, atKey xs κ = some p ∧ RelV v p.2 ∧ Dz Z K H d v
  | _, _, _, _, .nil, _ => ⟨rfl, fun d e => by simp [dget] at e⟩
  | x :: xs, e :: es, k, κ, .cons h t, hk => by
    obtain ⟨h1, h2, h3, v, h4, h5⟩ := h
    have e1 : PyData.eqv e.1 k = decide (x.1 = κ) := nkey_eqv h1 hk
    obtain ⟨i1, i2⟩ := dget_nk t hk
    by_cases q : x.1 = κ
    · refine ⟨by simp [atKey, dhas, e1, q], fun d q2 => ?_⟩
      simp [dget, e1, q] at q2
      subst q2
      exact ⟨x.2, v, by simp [atKey, q], h4, h5⟩
    · have ea : atKey (x :: xs) κ = atKey xs κ := by simp [atKey, q]
      rw [ea]
      refine ⟨by rw [i1]; simp [dhas, e1, q], fun d q2 => i2 d ?_⟩
      simpa [dget, e1, q] using q2
end

/-! ### from the abstract heap to the keys of the model -/
section
variable {X : Cx} {pins : List (Addr × Obj)} {σ : L2.St} {H : Hp} {s : Shared} {Z : Zs}
mutual
theorem nested_is (I : Inv X pins σ H s) : ∀ {d : D} {v : V} {u : Value} {κ : NestedKey}, Dz Z X.K H d v → RelV v u → nkey d = some κ → NestedIs s.heap κ u
  | .none, _, _, _, h, r, e => by
    simp [nkey] at e; subst e
    cases h; cases r
    exact .none
  | .int i, _, _, _, h, r, e => by
    simp [nkey] at e; subst e
    cases h
    obtain ⟨t, rfl⟩ := r
    exact .int i t
  | .str i, _, _, _, h, r, e => by
    simp [nkey] at e; subst e
    cases h
    obtain ⟨t, rfl⟩ := r
    exact .text i t
  | .tuple ds, _, _, _, h, r, e => by
    simp [nkey] at e
    obtain ⟨ks, hk, rfl⟩ := e
    cases h with
    | tup q h =>
      cases r
      obtain ⟨its, rv, ⟨o, ho, hc, n, hd⟩, _⟩ := I.tuple q
      exact .tup ho hc hd (nested_all I h rv hk)
  | .bool _, _, _, _, _, _, e => by simp [nkey] at e
  | .list _, _, _, _, _, _, e => by simp [nkey] at e
  | .dict _, _, _, _, _, _, e => by simp [nkey] at e
theorem nested_all (I : Inv X pins σ H s) : ∀ {ds : List D} {vs : List V} {us : List Value} {ks : List NestedKey}, DzA Z X.K H ds vs → Vals vs us → nkey.nkeys ds = some ks → NestedAll s.heap ks us
  | [], _, _, _, h, r, e => by
    simp [nkey.nkeys] at e; subst e
    cases h; cases r
    exact .nil
  | d :: ds, _, _, _, h, r, e => by
    unfold nkey.nkeys at e
    split at e
    · rename_i k ks h1 h2
      cases e
      cases h with
      | cons h t =>
        cases r with
        | cons r rr => exact .cons (nested_is I h r h1) (nested_all I t rr h2)
    · cases e
end
/-- a dict with nested keys stands there -/
theorem ndict_at (I : Inv X pins σ H s) {a : Addr} {xs : List (NestedKey × Addr × Value)} {es : List (D × D)} {G : Gx} (hP : G.P = X.prog) (hw : G.w = X.w) (e : H a = some (.ext (NDict G a xs))) (hx : Paired (NEnt Z X.K H) xs es) :
    s.heap.DictOfH (nestedKind X.prog X.w) a xs ∧ (a == sysModules) = false ∧ xs.length ≤ sizeLine := by
  obtain ⟨⟨o, ds, ep, h1, h2, h3, h4, h5, h6, h7⟩, _⟩ := I.hok a _ e
  rw [hP, hw] at h4
  refine ⟨⟨o, ds, ep, h1, h2, h3, h4, fun x hx' => ?_, h5⟩, h6, h7⟩
  obtain ⟨i, hi⟩ := List.mem_iff_getElem?.mp hx'
  have get : ∀ {xs : List (NestedKey × Addr × Value)} {es : List (D × D)} {i : Nat}, Paired (NEnt Z X.K H) xs es → xs[i]? = some x → ∃ e, NEnt Z X.K H x e := by
    intro xs es i h
    induction h generalizing i with
    | nil => intro e; simp at e
    | cons h t ih =>
      cases i with
      | zero => intro e; simp at e; subst e; exact ⟨_, h⟩
      | succ i => intro e; exact ih (by simpa using e)
  obtain ⟨e', q1, q2, q3, _⟩ := get hx hi
  exact ⟨nested_is I q3 rfl q1, q2⟩
/-- the empty dict, as one with nested keys -/
theorem ndict_nil (I : Inv X pins σ H s) {a : Addr} (e : H a = some (.dK [])) : s.heap.DictOfH (nestedKind X.prog X.w) a [] ∧ (a == sysModules) = false := by
  obtain ⟨_, h6, vs, rel, o, ds, ep, h1, h2, h3, h4, h5, h7⟩ := I.hok a _ e
  cases rel
  refine ⟨⟨o, ds, ep, h1, h2, h3, ?_, fun x hx => (by cases hx), List.nodup_nil⟩, h6⟩
  cases q : ds.toList with
  | nil => rfl
  | cons x r =>
    rw [q] at h5
    cases h5
end
end Eng
set_option maxHeartbeats 1000000
/-! The engine, part 5: in, items, slices, built-ins. -/
namespace Eng
open PySem PySem.Spec L2
open PyProof.Rows hiding St

/-! ### in -/
def hasS (a b : O) : Option Bool :=
  match b with
  | .dic es => match a with
    | .val k => if dOk es k = true then some (dhas es k) else none
    | _ => none
  | .val (.str z) => match a with
    | .val (.str x) => match x.cps.toList with
      | [c] => some (decide (c ∈ z.cps.toList))
      | _ => none
    | _ => none
  | b => match a.view?, b.seq? with
    | some d, some ds => if (isStrD d && ds.all isStrD || SeqAt.shaped d && SeqAt.shaped (.list ds)) = true then some (ds.any fun y => PyData.eqv y d) else none
    | _, _ => none
def inS (a b : O) : Option O := (hasS a b).map fun k => .val (.bool k)
def notinS (a b : O) : Option O := (hasS a b).map fun k => .val (.bool (!k))

section
variable {X : Cx} {ca : Nat → Addr} {pins : List (Addr × Obj)} {σ : L2.St} {H : Hp} {s : Shared} {Z : Zs}
theorem strs_flat : ∀ {ds : List D} {vs : List V}, DzA Z X.K H ds vs → (ds.all isStrD) = true → (vs.all flatV) = true ∧ ∀ (x : Str), (inV (.str x) vs = ds.any fun y => PyData.eqv y (.str x))
  | [], _, h, _ => by
    cases h
    exact ⟨rfl, fun _ => rfl⟩
  | d :: ds, _, h, q => by
    cases h with
    | cons h t =>
      rw [List.all_cons, Bool.and_eq_true] at q
      obtain ⟨i1, i2⟩ := strs_flat t q.2
      cases d <;> simp [isStrD] at q
      cases h
      refine ⟨by rw [List.all_cons, i1]; rfl, fun x => ?_⟩
      have := i2 x
      unfold inV at this ⊢
      rw [List.any_cons, List.any_cons, this, eqv_str]
      rfl
theorem d_in2 {Q : Value → Shared → Prop} {A : Around} {E : Value → Shared → Prop} (neg : Bool) {a : Addr} {y : V} {o : Option V} {u : Value} (hu : A.units + 1 < cLine) (I : Inv X pins σ H s) (g : DGet H a y o) (ry : RelV y u) (h : ∀ s', Inv X pins σ H s' → Q (.bool (if neg then !o.isSome else o.isSome)) s') :
    wpAny (model X.prog X.w) A (compareOp (if neg then .NotIn else .In) u (.ref a)) Q E s := by
  cases neg with
  | true => exact d_notIn hu I g ry h
  | false => exact d_in hu I g ry h
theorem k_in2 {Q : Value → Shared → Prop} {A : Around} {E : Value → Shared → Prop} (neg : Bool) {a b : Addr} {κ : NestedKey} {xs : List (NestedKey × Addr × Value)} (hu : A.units + 64 < cLine) (I : Inv X pins σ H s) (hm : s.heap.DictOfH (nestedKind X.prog X.w) a xs) (hd : (a == sysModules) = false)
    (hk : (nestedKind X.prog X.w).is s.heap κ b) (h : ∀ s', Inv X pins σ H s' → Q (.bool (if neg then !(atKey xs κ).isSome else (atKey xs κ).isSome)) s') :
    wpAny (model X.prog X.w) A (compareOp (if neg then .NotIn else .In) (.ref b) (.ref a)) Q E s := by
  have hr : (nestedKind X.prog X.w).room A.in1 := by
    show A.units + 1 + 8 < cLine
    omega
  cases neg with
  | true =>
    show wpAny _ _ (do return .bool (!(← contains (.ref a) (.ref b)))) Q E s
    exact wpAny_bind (wpAny_contains_heap hr hk hd hm (wpAny_pure (h _ (I.tok _))))
  | false => exact wpAny_in_heap hr hk hd hm (h _ (I.tok _))
theorem has_ok (neg : Bool) {a b : O} {x y : V} {v u : Value} {k : Bool} {Q : VK} (hu : X.A.units + 65 < cLine) (I : Inv X pins σ H s) (rx : RelV x v) (ry : RelV y u) (ha : Rb (gx X ca) Z H a x) (hb : Rb (gx X ca) Z H b y) (e : hasS a b = some k)
    (q : Q (.bl (if neg then !k else k)) H) : wpAny (model X.prog X.w) X.A (compareOp (if neg then .NotIn else .In) v u) (EP X pins σ Q) X.xe s := by
  have seqs : ∀ d ds, a.view? = some d → b.seq? = some ds → (if (isStrD d && ds.all isStrD || SeqAt.shaped d && SeqAt.shaped (.list ds)) = true then some (ds.any fun y => PyData.eqv y d) else none) = some k →
      wpAny (model X.prog X.w) X.A (compareOp (if neg then .NotIn else .In) v u) (EP X pins σ Q) X.xe s := fun d ds e1 e2 e => by
    split at e
    · rename_i hc
      cases e
      obtain ⟨p, us, rfl, hs, hd⟩ := rb_seq hb e2
      have hv := rb_view ha e1
      rcases Bool.or_eq_true_iff.mp hc with hc | hc
      · rw [Bool.and_eq_true] at hc
        obtain ⟨c1, c2⟩ := hc
        obtain ⟨z, rfl⟩ : ∃ z, d = .str z := by
          cases d with
          | str z => exact ⟨z, rfl⟩
          | _ => cases c1
        cases hv
        obtain ⟨f1, f2⟩ := strs_flat hd c2
        have fin := f2 z
        cases neg with
        | true => exact op_notIn_seq pins s σ H _ _ v u Q I rx ry ⟨p, us, rfl, hs, rfl, f1, by rw [if_pos rfl, fin]; exact q⟩
        | false => exact op_in_seq pins s σ H _ _ v u Q I rx ry ⟨p, us, rfl, hs, rfl, f1, by rw [if_neg (by decide), fin]; exact q⟩
      · rw [Bool.and_eq_true] at hc
        obtain ⟨as, r1⟩ := Dp.reads I d x v hv rx
        have cl : PyData.canLayAll0 ds = true := by
          have := SeqAt.canLay_of_shaped hc.2
          simpa [PyData.canLay0] using this
        rcases hs with hs | hs
        · obtain ⟨bs, r2⟩ := Dp.reads I (.list ds) _ u (.lst hs hd.dp) ry
          cases neg with
          | true => exact SeqAt.notIn_list_reads r2 r1 (SeqAt.canLay_of_shaped hc.2) (SeqAt.canLay_of_shaped hc.1) (room_in_shaped hc.1 hu) ⟨.bl _, H, I, rfl, q⟩
          | false => exact SeqAt.in_list_reads r2 r1 (SeqAt.canLay_of_shaped hc.2) (SeqAt.canLay_of_shaped hc.1) (room_in_shaped hc.1 hu) ⟨.bl _, H, I, rfl, q⟩
        · obtain ⟨bs, r2⟩ := Dp.reads I (.tuple ds) _ u (.tup hs hd.dp) ry
          cases neg with
          | true => exact SeqAt.notIn_tuple_reads r2 r1 cl (SeqAt.canLay_of_shaped hc.1) (room_in_shaped hc.1 hu) ⟨.bl _, H, I, rfl, q⟩
          | false => exact SeqAt.in_tuple_reads r2 r1 cl (SeqAt.canLay_of_shaped hc.1) (room_in_shaped hc.1 hu) ⟨.bl _, H, I, rfl, q⟩
    · cases e
  unfold hasS at e
  split at e
  · -- a dict
    rename_i es
    split at e
    · rename_i d
      split at e
      · rename_i hc
        cases e
        have hv := rb_val ha
        obtain ⟨F, hb⟩ := hb
        rcases Bool.or_eq_true_iff.mp hc with hc | hc
        · rw [Bool.and_eq_true] at hc
          obtain ⟨κ, hk⟩ := Option.isSome_iff_exists.mp hc.1
          cases hb with
          | dic e1 h1 h2 nd =>
            cases ry
            obtain rfl := key_v hv hk
            refine d_in2 neg (by omega) I (DGet.k (k := κ) e1) rx fun s' I' => ?_
            rw [(dget_val h1 h2 hk).1]
            exact ⟨.bl _, H, I', rfl, q⟩
          | dct e1 hx nd ne => exact absurd (all_nkey hx hc.2) ne
        · rw [Bool.and_eq_true] at hc
          obtain ⟨κ, hk⟩ := Option.isSome_iff_exists.mp hc.1
          obtain ⟨hk1, hk2⟩ := nkOf_some hk
          obtain ⟨ds, rfl⟩ := nkey_ref hk
          cases hv with
          | tup hq hds =>
            cases rx
            have his : (nestedKind X.prog X.w).is s.heap κ _ := ⟨nested_is I (.tup hq hds) rfl hk1, hk2⟩
            cases hb with
            | dic e1 h1 h2 nd =>
              cases ry
              obtain ⟨rfl, rfl⟩ := all_key h1 hc.2
              obtain ⟨m1, m2⟩ := ndict_nil I e1
              exact k_in2 neg (by omega) I m1 m2 his fun s' I' => ⟨.bl _, H, I', rfl, q⟩
            | dct e1 hx nd ne =>
              cases ry
              obtain ⟨m1, m2, _⟩ := ndict_at I rfl rfl e1 hx
              refine k_in2 neg (by omega) I m1 m2 his fun s' I' => ?_
              rw [(dget_nk hx hk1).1]
              exact ⟨.bl _, H, I', rfl, q⟩
      · cases e
    · cases e
  · -- a text
    rename_i z
    split at e
    · rename_i t
      split at e
      · rename_i c hc
        cases e
        cases rb_str ha
        cases rb_str hb
        have et : t = ⟨#[c]⟩ := TL.ext_tl hc
        subst et
        cases neg with
        | true => exact op_notIn_sign pins s σ H _ _ v u Q I rx ry ⟨c, z, rfl, rfl, q⟩
        | false => exact op_in_sign pins s σ H _ _ v u Q I rx ry ⟨c, z, rfl, rfl, q⟩
      · cases e
    · cases e
  · split at e
    · rename_i d ds e1 e2
      exact seqs d ds e1 e2 e
    · cases e
theorem bin_in (hu : X.A.units + 65 < cLine) : BinS X ca (compareOp .In) inS := binS_of fun pins s σ H x y v u Q Z a b r I rx ry ha hb e q => by
  unfold inS at e
  cases e2 : hasS a b with
  | none => rw [e2] at e; cases e
  | some k =>
    rw [e2] at e
    cases e
    exact has_ok false hu I rx ry ha hb e2 (q _ _ [] (Al.val (.bl _)))
theorem bin_notin (hu : X.A.units + 65 < cLine) : BinS X ca (compareOp .NotIn) notinS := binS_of fun pins s σ H x y v u Q Z a b r I rx ry ha hb e q => by
  unfold notinS at e
  cases e2 : hasS a b with
  | none => rw [e2] at e; cases e
  | some k =>
    rw [e2] at e
    cases e
    exact has_ok true hu I rx ry ha hb e2 (q _ _ [] (Al.val (.bl _)))
end

/-! ### items -/
def ixS : O → O → Option O
  | .scr ns, .val (.int i) => (atI ns i).map fun n => .val (.int n)
  | .val (.str z), .val (.int i) => if z.length ≤ sizeLine then (atI z.cps.toList i).map fun c => .val (.str ⟨#[c]⟩) else none
  | .dic es, .val k => if dOk es k = true then (dget es k).map .val else none
  | .lst ds, .val (.int i) => (atI ds i).map .val
  | .val (.list ds), .val (.int i) => (atI ds i).map .val
  | .val (.tuple ds), .val (.int i) => (atI ds i).map .val
  | _, _ => none
section
variable {X : Cx} {ca : Nat → Addr} {W : WX}
theorem DzA.atI {Z : Zs} {K : PySem.W.Frag} {H : Hp} {ds : List D} {vs : List V} {i : Int} {d : D} (h : DzA Z K H ds vs) (e : L2.atI ds i = some d) : ∃ v, L2.atI vs i = some v ∧ Dz Z K H d v := by
  unfold L2.atI at e ⊢
  rw [h.length]
  cases q : ixN ds.length i with
  | none => rw [q] at e; cases e
  | some j =>
    rw [q] at e
    exact h.get e
theorem atI_map {α β : Type} (f : α → β) (xs : List α) (i : Int) : L2.atI (xs.map f) i = (L2.atI xs i).map f := by
  unfold L2.atI
  rw [List.length_map]
  cases ixN xs.length i with
  | none => rfl
  | some j => simp
theorem ix_all (hu : X.A.units + 65 < cLine) : IxR X (fun x y H Q => RSem (X := X) (ca := ca) (two ixS) [x, y] H Q) := by
  intro value slice pins s σ H x y v u Q I rx ry ⟨Z, os, r, zd, hp, e0, q⟩ hs
  obtain ⟨a, b, rfl, e⟩ := two_some e0
  obtain ⟨ha, hb⟩ := pair2 hp
  unfold ixS at e
  split at e
  · rename_i ns i
    obtain ⟨F, ha⟩ := ha
    cases ha with
    | scr hq =>
      cases rb_int hb
      cases e2 : L2.atI ns i with
      | none => rw [e2] at e; cases e
      | some n =>
        rw [e2] at e
        cases e
        exact ix_list value slice pins s σ H _ _ v u Q I rx ry ⟨_, _, i, .int n, rfl, rfl, hq.sq, by rw [atI_map, e2]; rfl, q _ _ [] (Al.val (.int _))⟩ hs
  · rename_i z i
    split at e
    · rename_i hz
      cases rb_str ha
      cases rb_int hb
      cases e2 : L2.atI z.cps.toList i with
      | none => rw [e2] at e; cases e
      | some c =>
        rw [e2] at e
        cases e
        exact ix_str value slice pins s σ H _ _ v u Q I rx ry ⟨z, i, c, rfl, rfl, hz, e2, q _ _ [] (Al.val (.str _))⟩ hs
    · cases e
  · rename_i es k
    split at e
    · rename_i hc
      cases e2 : dget es k with
      | none => rw [e2] at e; cases e
      | some d =>
        rw [e2] at e
        cases e
        have hv := rb_val hb
        obtain ⟨F, ha⟩ := ha
        rcases Bool.or_eq_true_iff.mp hc with hc | hc
        · rw [Bool.and_eq_true] at hc
          obtain ⟨κ, hk⟩ := Option.isSome_iff_exists.mp hc.1
          cases ha with
          | dic e1 h1 h2 nd =>
            cases rx
            obtain rfl := key_v hv hk
            obtain ⟨w', hw, hd⟩ := (dget_val h1 h2 hk).2 d e2
            have g := DGet.k (k := κ) e1
            rw [hw] at g
            exact PyProof.Rows.tail_any (dict_typeIs I g) PySem.F.slot_dict_getitem.lookup (d_getItem (by omega) I g ry fun z s3 I3 rz => ⟨w', H, I3, rz, q _ _ [] (Al.val hd)⟩) hs
          | dct e1 hx nd ne => exact absurd (all_nkey hx hc.2) ne
        · rw [Bool.and_eq_true] at hc
          obtain ⟨κ, hk⟩ := Option.isSome_iff_exists.mp hc.1
          obtain ⟨hk1, hk2⟩ := nkOf_some hk
          obtain ⟨ds, rfl⟩ := nkey_ref hk
          cases hv with
          | tup hq hds =>
            cases ry
            have his : (nestedKind X.prog X.w).is s.heap κ _ := ⟨nested_is I (.tup hq hds) rfl hk1, hk2⟩
            cases ha with
            | dic e1 h1 h2 nd =>
              obtain ⟨rfl, rfl⟩ := all_key h1 hc.2
              cases e2
            | dct e1 hx nd ne =>
              cases rx
              obtain ⟨m1, m2, _⟩ := ndict_at I rfl rfl e1 hx
              obtain ⟨p, w', hp, rw', hd⟩ := (dget_nk hx hk1).2 d e2
              refine PyProof.Rows.tail_any m1.typeIs PySem.F.slot_dict_getitem.lookup (wpAny_getItem_heap (by show X.A.units + 1 + 8 < cLine; omega) his m1 hp ?_) hs
              exact ⟨w', H, I.tok _, rw', q _ _ [] (Al.val hd)⟩
    · cases e
  · rename_i ds i
    cases e2 : L2.atI ds i with
    | none => rw [e2] at e; cases e
    | some d =>
      rw [e2] at e
      cases e
      cases rb_int hb
      obtain ⟨p, xs, rfl, hp, hd⟩ := rb_list ha rfl
      obtain ⟨w', hw, hdw⟩ := hd.atI e2
      exact ix_list value slice pins s σ H _ _ v u Q I rx ry ⟨p, xs, i, w', rfl, rfl, .inl (.inl hp), hw, q _ _ [] (Al.val hdw)⟩ hs
  · rename_i ds i
    cases e2 : L2.atI ds i with
    | none => rw [e2] at e; cases e
    | some d =>
      rw [e2] at e
      cases e
      cases rb_int hb
      obtain ⟨p, xs, rfl, hp, hd⟩ := rb_list ha rfl
      obtain ⟨w', hw, hdw⟩ := hd.atI e2
      exact ix_list value slice pins s σ H _ _ v u Q I rx ry ⟨p, xs, i, w', rfl, rfl, .inl (.inl hp), hw, q _ _ [] (Al.val hdw)⟩ hs
  · rename_i ds i
    cases e2 : L2.atI ds i with
    | none => rw [e2] at e; cases e
    | some d =>
      rw [e2] at e
      cases e
      cases rb_int hb
      obtain ⟨p, xs, rfl, hp, hd⟩ := rb_tup ha rfl
      obtain ⟨w', hw, hdw⟩ := hd.atI e2
      exact ix_tup value slice pins s σ H _ _ v u Q I rx ry ⟨p, xs, i, w', rfl, rfl, hp, hw, q _ _ [] (Al.val hdw)⟩ hs
  · cases e
theorem se_ix {a b : Expr} {f g : ES} {pos : Pos} (hu : X.A.units + 65 < cLine) (ha : PE X a (RdE X ca W f)) (hb : PE X b (RdE X ca W g)) (hs : PlainIx b) : PE X (.Subscript a b pos) (RdE X ca W (o2 ixS f g)) :=
  PE.imp (pe_ix (ix_all hu) ha hb hs) fun _ _ _ h => rd_o2 h

/-! ### slices -/
def cutA {α : Type} (xs : List α) (lo hi : Option Int) : List α := (xs.drop (HT.sIx xs.length 0 lo)).take (HT.sIx xs.length xs.length hi - HT.sIx xs.length 0 lo)
def slS (lo hi : Option Int) : O → Option O
  | .val (.str z) => if z.length ≤ sizeLine then some (.val (.str (cutS z lo hi))) else none
  | .val (.tuple ds) => some (.val (.tuple (cutA ds lo hi)))
  | .lst ds => some (.lst (cutA ds lo hi))
  | .val (.list ds) => some (.lst (cutA ds lo hi))
  | .scr ns => some (.lst (cutA (ns.map PyData.int) lo hi))
  | _ => none
theorem dzA_ints {Z : Zs} {K : PySem.W.Frag} {H : Hp} : ∀ ns : List Int, DzA Z K H (ns.map PyData.int) (ns.map V.int)
  | [] => .nil
  | n :: ns => .cons (.int n) (dzA_ints ns)
theorem DzA.cut {Z : Zs} {K : PySem.W.Frag} {H : Hp} {ds : List D} {vs : List V} (h : DzA Z K H ds vs) (lo hi : Option Int) : DzA Z K H (cutA ds lo hi) (cutV vs lo hi) := by
  unfold cutA cutV
  rw [h.length]
  exact (h.drop _).take _
theorem sl_all {lo hi : Option Int} : SlR X (fun x l h H Q => l = lo ∧ h = hi ∧ RSem (X := X) (ca := ca) (one (slS lo hi)) [x] H Q) := by
  intro pins s σ H x v vl vu l h sl Q I rx his pl pu ⟨e1, e2, Z, os, r, zd, hp, e0, q⟩
  subst e1; subst e2
  obtain ⟨a, rfl, e⟩ := one_some e0
  have ha := pair1 hp
  unfold slS at e
  split at e
  · rename_i z
    split at e
    · rename_i hz
      cases e
      cases rb_str ha
      exact sl_str pins s σ H _ v vl vu l h sl Q I rx his pl pu ⟨z, rfl, hz, q _ _ [] (Al.val (.str _))⟩
    · cases e
  · rename_i ds
    cases e
    obtain ⟨p, xs, rfl, hp, hd⟩ := rb_tup ha rfl
    refine sl_tupA pins s σ H _ v vl vu l h sl Q I rx his pl pu ⟨p, xs, rfl, hp, fun hw => ?_, fun _ a' na => q _ _ [] (Al.tup (hd.cut l h) na)⟩
    have e : cutA ds l h = ds := by
      unfold cutA
      rw [← hd.length, hw.1, hw.2, hd.length, List.drop_zero, Nat.sub_zero, List.take_length]
    rw [e] at q
    exact q _ _ [] (Al.val (.tup hp hd))
  · rename_i ds
    cases e
    obtain ⟨p, xs, rfl, hp, hd⟩ := rb_list ha rfl
    exact sl_list pins s σ H _ v vl vu l h sl Q I rx his pl pu ⟨p, xs, rfl, .inl (.inl hp), fun a' na => q _ _ _ (Al.lst (hd.cut l h) na)⟩
  · rename_i ds
    cases e
    obtain ⟨p, xs, rfl, hp, hd⟩ := rb_list ha rfl
    exact sl_list pins s σ H _ v vl vu l h sl Q I rx his pl pu ⟨p, xs, rfl, .inl (.inl hp), fun a' na => q _ _ _ (Al.lst (hd.cut l h) na)⟩
  · rename_i ns
    cases e
    obtain ⟨F, hF⟩ := ha
    cases hF with
    | scr hq => exact sl_list pins s σ H _ v vl vu l h sl Q I rx his pl pu ⟨_, _, rfl, hq.sq, fun a' na => q _ _ _ (Al.lst ((dzA_ints ns).cut l h) na)⟩
  · cases e
end
end Eng
set_option maxHeartbeats 1000000
/-! The engine, part 6: calls of built-ins. -/
namespace Eng
open PySem PySem.Spec L2
open PyProof.Rows hiding St

/-! ### plain forms of the text -/
def notStar : Expr → Bool
  | .Starred _ _ => false
  | _ => true
theorem star_cons {e : Expr} {es : List Expr} {env : Env} (h : notStar e = true) : starEach (e :: es) env = (false, eval e env) :: starEach es env := by
  cases e <;> first | rfl | cases h
theorem star_plain {env : Env} {pos : Pos} : ∀ {es : List Expr}, (es.all notStar) = true → (backTo pos (starEach es env)).any (·.1) = false
  | [], _ => rfl
  | e :: es, h => by
    rw [List.all_cons, Bool.and_eq_true] at h
    rw [star_cons h.1]
    show (false || (backTo pos (starEach es env)).any (·.1)) = false
    rw [star_plain h.2]
    rfl
section
variable {X : Cx} {ca : Nat → Addr} {W : WX}
/-- a built-in's call on values -/
def CallS (X : Cx) (ca : Nat → Addr) (f : Value) (sem : List O → Option O) : Prop := CallR X f (fun xs H Q => RSem (X := X) (ca := ca) sem xs H Q)
theorem se_callB {sem : List O → Option O} {id : String} {x : Str} {e : Expr} {es : List Expr} {fs : AS} {p pos : Pos} (hc : CallS X ca (.builtin id) sem) (hg : Gl X x) (hm : X.mg x = none) (hv : bootBuiltins x = some (.builtin id)) (ha : PA X (e :: es) (RdA X ca W fs))
    (hn : x ≠ "__name__") (hdb : (x == ("__debug__" : Str)) = false) (hs : ((e :: es).all notStar) = true) : PE X (.Call (.Name x p) (e :: es) [] pos) (RdE X ca W (oF sem fs)) := by
  rw [List.all_cons, Bool.and_eq_true] at hs
  exact PE.imp (pe_callB hc hg hm hv ha hn hdb (star_cons hs.1) (star_plain hs.2)) fun _ _ _ h => rd_oF h
theorem se_callTy {sem : List O → Option O} {T : String} {x : Str} {e : Expr} {es : List Expr} {fs : AS} {p pos : Pos} (hc : CallS X ca (.type T) sem) (hg : Gl X x) (hm : X.mg x = none) (hv : bootBuiltins x = some (.type T)) (ha : PA X (e :: es) (RdA X ca W fs))
    (hn : x ≠ "__name__") (hdb : (x == ("__debug__" : Str)) = false) (hs : ((e :: es).all notStar) = true) : PE X (.Call (.Name x p) (e :: es) [] pos) (RdE X ca W (oF sem fs)) := by
  rw [List.all_cons, Bool.and_eq_true] at hs
  exact PE.imp (pe_callTy hc hg hm hv ha hn hdb (star_cons hs.1) (star_plain hs.2)) fun _ _ _ h => rd_oF h
theorem callS_of {f : Value} {sem : O → Option O}
    (h : ∀ (pins : List (Addr × Obj)) (s : Shared) (σ : L2.St) (H : Hp) (x : V) (v : Value) (Q : VK) (Z : Zs) (a r : O), Inv X pins σ H s → RelV x v → (∀ a, Z a → H a ≠ none) → Rb (gx X ca) Z H a x → sem a = some r →
      (∀ v H' F, Al (gx X ca) Z H r v H' F → Q v H') → wpAny (model X.prog X.w) X.A (call f [v]) (EP X pins σ Q) X.xe s) : CallS X ca f (one sem) := by
  intro pins s σ H xs us Q I r ⟨Z, os, o, zd, hp, e0, q⟩
  obtain ⟨a, rfl, e⟩ := one_some e0
  cases hp with
  | cons h1 t =>
    cases t
    cases r with
    | cons r1 rt =>
      cases rt
      exact h pins s σ H _ _ Q Z a o I r1 zd h1 e q
theorem vals1' {x : V} {v : Value} (r : RelV x v) : Vals [x] [v] := .cons r .nil

/-! ### len, list, tuple -/
def lenS : O → Option O
  | .val (.str z) => if z.length ≤ sizeLine then some (.val (.int z.length)) else none
  | .val (.list ds) => some (.val (.int ds.length))
  | .val (.tuple ds) => some (.val (.int ds.length))
  | .lst ds => some (.val (.int ds.length))
  | .scr ns => some (.val (.int ns.length))
  | .dic es => if (es.all fun e => (keyOf e.1).isSome) = true then some (.val (.int es.length)) else none
  | .set xs => some (.val (.int xs.length))
  | _ => none
theorem c_len : CallS X ca (.builtin "len") (one lenS) := callS_of fun pins s σ H x v Q Z a r I rx zd ha e q => by
  unfold lenS at e
  split at e
  · split at e
    · rename_i z hz
      cases e
      cases rb_str ha
      exact call_len_str pins s σ H _ _ Q I (vals1' rx) ⟨z, rfl, hz, q _ _ [] (Al.val (.int _))⟩
    · cases e
  · rename_i ds
    cases e
    obtain ⟨p, xs, rfl, hs, hd⟩ := rb_seq ha rfl
    rw [← hd.length] at q
    exact call_len_seq pins s σ H _ _ Q I (vals1' rx) ⟨p, xs, rfl, hs, q _ _ [] (Al.val (.int _))⟩
  · rename_i ds
    cases e
    obtain ⟨p, xs, rfl, hs, hd⟩ := rb_seq ha rfl
    rw [← hd.length] at q
    exact call_len_seq pins s σ H _ _ Q I (vals1' rx) ⟨p, xs, rfl, hs, q _ _ [] (Al.val (.int _))⟩
  · rename_i ds
    cases e
    obtain ⟨p, xs, rfl, hs, hd⟩ := rb_seq ha rfl
    rw [← hd.length] at q
    exact call_len_seq pins s σ H _ _ Q I (vals1' rx) ⟨p, xs, rfl, hs, q _ _ [] (Al.val (.int _))⟩
  · rename_i ns
    cases e
    obtain ⟨F, ha⟩ := ha
    cases ha with
    | scr hq =>
      have hl : (ns.map V.int).length = ns.length := List.length_map _
      rw [← hl] at q
      exact call_len_seq pins s σ H _ _ Q I (vals1' rx) ⟨_, _, rfl, .inl hq.sq, q _ _ [] (Al.val (.int _))⟩
  · split at e
    · rename_i es hc
      cases e
      obtain ⟨F, ha⟩ := ha
      cases ha with
      | dic e1 h1 h2 nd =>
        have hl := h1.length
        rw [List.length_map, List.length_map] at hl
        rw [← hl] at q
        exact call_lenD pins s σ H _ _ Q I (vals1' rx) ⟨_, _, rfl, e1, q _ _ [] (Al.val (.int _))⟩
      | dct e1 hx nd ne => exact absurd (all_nkey hx hc) ne
    · cases e
  · rename_i xs
    cases e
    obtain ⟨F, ha⟩ := ha
    cases ha with
    | set e1 =>
      obtain ⟨x, _⟩ := I.hok _ _ e1
      obtain ⟨o, es, ep, t, ⟨h1, h2, h3⟩, g, pm, nd, hb, hf, _⟩ := x
      cases rx
      have hl : es.size = xs.length := by
        have := pm.length_eq
        simpa using this
      have small : scanBound = 4096 := rfl
      refine call_len_set h1 h2 h3 hf (by omega) ⟨.int xs.length, H, I.tok _, ⟨_, by rw [hl]⟩, q _ _ [] (Al.val (.int _))⟩
  · cases e
def listS (o : O) : Option O := o.seq?.map .lst
def tupleS (o : O) : Option O := o.seq?.map fun ds => .val (.tuple ds)
theorem c_list : CallS X ca (.type "list") (one listS) := callS_of fun pins s σ H x v Q Z a r I rx zd ha e q => by
  unfold listS at e
  cases e1 : a.seq? with
  | none => rw [e1] at e; cases e
  | some ds =>
    rw [e1] at e
    cases e
    obtain ⟨p, xs, rfl, hs, hd⟩ := rb_seq ha e1
    exact call_list_of pins s σ H _ _ Q I (vals1' rx) ⟨p, xs, rfl, hs, fun l nl => q _ _ _ (Al.lst hd nl)⟩
theorem c_tuple : CallS X ca (.type "tuple") (one tupleS) := callS_of fun pins s σ H x v Q Z a r I rx zd ha e q => by
  unfold tupleS at e
  cases e1 : a.seq? with
  | none => rw [e1] at e; cases e
  | some ds =>
    rw [e1] at e
    cases e
    obtain ⟨p, xs, rfl, hs, hd⟩ := rb_seq ha e1
    refine call_tuple_of pins s σ H _ _ Q I (vals1' rx) ⟨p, xs, rfl, ?_⟩
    rcases hs with hs | hs
    · exact .inl ⟨hs, fun l nl => q _ _ _ (Al.tup hd nl)⟩
    · exact .inr ⟨hs, q _ _ [] (Al.val (.tup hs hd))⟩

/-! ### all, any, sum, max, min, str, int -/
def asBools : List D → Option (List Bool)
  | [] => some []
  | .bool b :: ds => (asBools ds).map (b :: ·)
  | _ :: _ => none
def asInts : List D → Option (List Int)
  | [] => some []
  | .int b :: ds => (asInts ds).map (b :: ·)
  | _ :: _ => none
theorem asBools_eq : ∀ {ds : List D} {bs : List Bool}, asBools ds = some bs → ds = bs.map PyData.bool
  | [], _, e => by cases e; rfl
  | d :: ds, bs, e => by
    cases d <;> simp [asBools] at e
    obtain ⟨cs, h, rfl⟩ := e
    rw [asBools_eq h]; rfl
@[simp] theorem asBools_map (bs : List Bool) : asBools (bs.map PyData.bool) = some bs := by
  induction bs with
  | nil => rfl
  | cons b bs ih => simp [asBools, ih]
@[simp] theorem asInts_map (bs : List Int) : asInts (bs.map PyData.int) = some bs := by
  induction bs with
  | nil => rfl
  | cons b bs ih => simp [asInts, ih]
def allS (o : O) : Option O := o.list?.bind fun ds => (asBools ds).map fun bs => .val (.bool (bs.all id))
def anyS (o : O) : Option O := o.list?.bind fun ds => (asBools ds).map fun bs => .val (.bool (bs.any id))
def sumS (o : O) : Option O := o.list?.bind fun ds => (asInts ds).map fun bs => .val (.int bs.sum)
theorem c_all (hc : X.calm = true) : CallS X ca (.builtin "all") (one allS) := callS_of fun pins s σ H x v Q Z a r I rx zd ha e q => by
  unfold allS at e
  cases e1 : a.list? with
  | none => rw [e1] at e; cases e
  | some ds =>
    rw [e1] at e
    cases e2 : asBools ds with
    | none => simp [e2] at e
    | some bs =>
      simp only [Option.bind_some, e2, Option.map_some, Option.some.injEq] at e
      subst e
      obtain ⟨p, xs, rfl, hs, hd⟩ := rb_list ha e1
      rw [asBools_eq e2] at hd
      rw [hd.bls] at hs
      exact cr_all hc pins s σ H _ _ Q I (vals1' rx) ⟨p, bs, rfl, .inl (.inl hs), q _ _ [] (Al.val (.bl _))⟩
def maxS : O → O → Option O
  | .val (.int i), .val (.int j) => some (.val (.int (if j > i then j else i)))
  | _, _ => none
def minS : O → O → Option O
  | .val (.int i), .val (.int j) => some (.val (.int (if j < i then j else i)))
  | _, _ => none
def strS : O → Option O
  | .val (.int i) => if i.natAbs.log2 < 1920 then some (.val (.str (Str.ofString (toString i)))) else none
  | _ => none
theorem c_str : CallS X ca (.type "str") (one strS) := callS_of fun pins s σ H x v Q Z a r I rx zd ha e q => by
  unfold strS at e
  split at e
  · split at e
    · rename_i i hi
      cases e
      cases rb_int ha
      exact call_str_int pins s σ H _ _ Q I (vals1' rx) ⟨i, rfl, hi, q _ _ [] (Al.val (.str _))⟩
    · cases e
  · cases e
def intS' : O → Option O
  | .val (.str x) => if x.length ≤ 640 then (PySem.intText? x).map fun n => .val (.int n) else none
  | .val (.int i) => some (.val (.int i))
  | .val (.bool k) => some (.val (.int (if k then 1 else 0)))
  | _ => none
theorem c_int : CallS X ca (.type "int") (one intS') := callS_of fun pins s σ H x v Q Z a r I rx zd ha e q => by
  unfold intS' at e
  split at e
  · split at e
    · rename_i z hz
      cases e2 : PySem.intText? z with
      | none => rw [e2] at e; cases e
      | some n =>
        rw [e2] at e
        cases e
        cases rb_str ha
        exact call_int_str pins s σ H _ _ Q I (vals1' rx) ⟨z, n, rfl, e2, hz, q _ _ [] (Al.val (.int _))⟩
    · cases e
  · cases e
    cases rb_int ha
    exact call_int1 pins s σ H _ _ Q I (vals1' rx) (.inl ⟨_, rfl, q _ _ [] (Al.val (.int _))⟩)
  · cases e
    cases rb_bl ha
    exact call_int1 pins s σ H _ _ Q I (vals1' rx) (.inr ⟨_, rfl, q _ _ [] (Al.val (.int _))⟩)
  · cases e
end

/-! ### sorted -/
def sortD (ds : List D) : List D := ds.mergeSort (PySem.W.dataLe false fun d => d)
def isTupNE : D → Bool
  | .tuple (_ :: _) => true
  | _ => false
def noTup : D → Bool
  | .tuple _ => false
  | .none => false
  | _ => true
def sortOk (ds : List D) : Bool := (ds.all fun d => ds.all fun e => PySem.W.alike d e) && (ds.all isTupNE || ds.all noTup) && (ds.all fun d => decide (d.depth ≤ 32)) && decide (ds.length ≤ sizeLine)
theorem sortOk_alike {ds : List D} (h : sortOk ds = true) : PySem.W.AllAlike ds := by
  unfold sortOk at h
  simp only [Bool.and_eq_true] at h
  intro d hd e he
  exact List.all_eq_true.mp (List.all_eq_true.mp h.1.1.1 d hd) e he
theorem sortOk_able {ds : List D} (h : sortOk ds = true) : PySem.W.Sortable ds := by
  unfold sortOk at h
  simp only [Bool.and_eq_true, Bool.or_eq_true] at h
  rcases h.1.1.2 with h | h
  · refine .inl fun d hd => ?_
    have := List.all_eq_true.mp h d hd
    cases d with
    | tuple xs =>
      cases xs with
      | nil => cases this
      | cons x r => exact ⟨x, r, rfl⟩
    | _ => cases this
  · refine .inr fun d hd => ?_
    have := List.all_eq_true.mp h d hd
    cases d with
    | tuple xs => cases this
    | none => cases this
    | _ => exact ⟨(by intro e; cases e), fun xs e => by cases e⟩
theorem sortOk_depth {ds : List D} (h : sortOk ds = true) : ∀ d ∈ ds, d.depth ≤ 32 := by
  unfold sortOk at h
  simp only [Bool.and_eq_true] at h
  exact fun d hd => of_decide_eq_true (List.all_eq_true.mp h.1.2 d hd)
theorem sortOk_len {ds : List D} (h : sortOk ds = true) : ds.length ≤ sizeLine := by
  unfold sortOk at h
  simp only [Bool.and_eq_true] at h
  exact of_decide_eq_true h.2
section
variable {X : Cx} {ca : Nat → Addr} {pins : List (Addr × Obj)} {σ : L2.St} {H : Hp} {s : Shared} {Z : Zs} {Q : VK}
mutual
theorem Dz.reads (I : Inv X pins σ H s) : ∀ {d : D} {v : V} {u : Value}, Dz Z X.K H d v → RelV v u → ∃ as, Reads s.heap u d as ∧ ∀ a ∈ as, a < s.heap.objs.size
  | .none, _, _, h, r => by
    cases h; cases r
    exact ⟨_, Reads.none, fun _ h => by cases h⟩
  | .bool b, _, _, h, r => by
    cases h; cases r
    exact ⟨_, Reads.bool b, fun _ h => by cases h⟩
  | .int i, _, _, h, r => by
    cases h
    obtain ⟨t, rfl⟩ := r
    exact ⟨_, Reads.int i t, fun _ h => by cases h⟩
  | .str x, _, _, h, r => by
    cases h
    obtain ⟨t, rfl⟩ := r
    exact ⟨_, Reads.str x t, fun _ h => by cases h⟩
  | .list ds, _, _, h, r => by
    cases h with
    | lst z hs ha =>
      cases r
      obtain ⟨its, rv, ⟨o, n, ho, hc, _, hd⟩, _⟩ := I.list (.inl (.inl hs))
      obtain ⟨as, hr, hb⟩ := DzA.reads I ha rv
      refine ⟨_, Reads.list ho hc hd hr, fun a ha => ?_⟩
      rcases List.mem_cons.mp ha with rfl | ha
      · exact Heap.lt_size ho
      · exact hb a ha
  | .tuple ds, _, _, h, r => by
    cases h with
    | tup hs ha =>
      cases r
      obtain ⟨its, rv, ⟨o, ho, hc, n, hd⟩, _⟩ := I.tuple hs
      obtain ⟨as, hr, hb⟩ := DzA.reads I ha rv
      exact ⟨_, Reads.tuple ho hc hd hr, hb⟩
  | .dict _, _, _, h, _ => by cases h
theorem DzA.reads (I : Inv X pins σ H s) : ∀ {ds : List D} {vs : List V} {us : List Value}, DzA Z X.K H ds vs → Vals vs us → ∃ as, ReadsAll s.heap us ds as ∧ ∀ a ∈ as, a < s.heap.objs.size
  | [], _, _, h, r => by
    cases h; cases r
    exact ⟨_, ReadsAll.nil, fun _ h => by cases h⟩
  | d :: ds, _, _, h, r => by
    cases h with
    | cons h1 h2 =>
      cases r with
      | cons r1 r2 =>
        obtain ⟨as, q1, b1⟩ := Dz.reads I h1 r1
        obtain ⟨bs, q2, b2⟩ := DzA.reads I h2 r2
        exact ⟨_, ReadsAll.cons q1 q2, fun a ha => (List.mem_append.mp ha).elim (b1 a) (b2 a)⟩
end
theorem each_of : ∀ {ds : List D} {vs : List V} {us : List Value}, DzA Z X.K H ds vs → Vals vs us → PySem.W.EachIs (fun u (b : D × V) => RelV b.2 u ∧ Dz Z X.K H b.1 b.2) us (ds.zip vs)
  | [], _, _, h, r => by
    cases h; cases r
    exact .nil
  | d :: ds, _, _, h, r => by
    cases h with
    | cons h1 h2 =>
      cases r with
      | cons r1 r2 => exact .cons ⟨r1, h1⟩ (each_of h2 r2)
theorem of_each : ∀ {bs : List (D × V)} {us : List Value}, PySem.W.EachIs (fun u (b : D × V) => RelV b.2 u ∧ Dz Z X.K H b.1 b.2) us bs → DzA Z X.K H (bs.map (·.1)) (bs.map (·.2)) ∧ Vals (bs.map (·.2)) us
  | [], _, h => by
    cases h
    exact ⟨.nil, .nil⟩
  | b :: bs, _, h => by
    cases h with
    | cons h t =>
      obtain ⟨i1, i2⟩ := of_each t
      exact ⟨.cons h.2 i1, .cons h.1 i2⟩
theorem zip_fst : ∀ {ds : List D} {vs : List V}, DzA Z X.K H ds vs → (ds.zip vs).map Prod.fst = ds
  | [], _, h => by cases h; rfl
  | d :: ds, _, h => by
    cases h with
    | cons h t =>
      show d :: (ds.zip _).map Prod.fst = d :: ds
      rw [zip_fst t]
/-- sorted of what can be gathered into a list -/
theorem sorted_src {a : Addr} (I : Inv X pins σ H s) (hu : X.A.units + 65 < cLine) (P : List D → Prop) (hok : ∀ ds, P ds → sortOk ds = true)
    (col : ∀ (E : Value → Shared → Prop) (Q' : List Value → Shared → Prop), (∀ s' out ds xs, Inv X pins σ H s' → P ds → DzA Z X.K H ds xs → Vals xs out → Q' out s') → wpAny (model X.prog X.w) X.A.in1 (collect (.ref a)) Q' E s)
    (q : ∀ ds vs p, P ds → H p = none → DzA Z X.K H (sortD ds) vs → Q (.ref p) (upd H p (.lst vs))) : wpAny (model X.prog X.w) X.A (call (.builtin "sorted") [.ref a]) (EP X pins σ Q) X.xe s := by
  refine Calls.call_function_entry PyProof.Rows.kind_sorted PyProof.Rows.plain_sorted PyProof.Rows.entry_sorted (PyProof.Rows.args_sorted1 _) ?_
  unfold Builtin.«sorted»
  refine wpAny_bind (m := checkCount "sorted" 1 1 _) (wpAny_pure ?_)
  refine wpAny_bind (col _ _ fun s1 out ds xs I1 hP hd r => ?_)
  have ok := hok ds hP
  have hlen : out.length = ds.length := by rw [← r.length, hd.length]
  refine wpAny_bind (wpAny_newList ?_ (by rw [hlen]; exact sortOk_len ok))
  have hoL : (s1.heap.push (seqObj "list" out.toArray 0)).get? s1.heap.objs.size = some (seqObj "list" out.toArray 0) := Heap.get?_push_size _ rfl
  have ez := zip_fst hd
  have er : ∀ {ds : List D} {xs : List V} {us : List Value}, DzA Z X.K H ds xs → Vals xs us → PySem.W.EachIs (fun v (b : D × V) => ∃ as, Reads (s1.heap.push (seqObj "list" out.toArray 0)) v b.1 as ∧ s1.heap.objs.size ∉ as) us (ds.zip xs) := by
    intro ds
    induction ds with
    | nil =>
      intro xs us h r
      cases h; cases r
      exact .nil
    | cons d ds ih =>
      intro xs us h r
      cases h with
      | cons h t =>
        cases r with
        | cons r rr =>
          refine .cons ?_ (ih t rr)
          obtain ⟨as, h1, h2⟩ := h.reads I1 r
          exact ⟨as, PyProof.Rows.Reads.keeps (fun _ _ e => Heap.get?_push_of_some _ e) h1, fun hm => absurd (h2 _ hm) (Nat.lt_irrefl _)⟩
  refine wpAny_bind (wpAny_holding (PySem.W.list_sort_data (s := { s1 with heap := s1.heap.push (seqObj "list" out.toArray 0) }) (vs := out) (enc := Prod.fst) (bs := ds.zip xs) (n := 0) hoL (each_of hd r) (er hd r) (by rw [ez]; exact sortOk_alike ok) (by rw [ez]; exact sortOk_able ok)
    (by rw [List.length_zip, hd.length, Nat.min_self]; exact sortOk_len ok) (fun b hb => ?_) fun out' hl he => ?_))
  · have hm : b.1 ∈ ds := by
      rw [← ez]
      exact List.mem_map.mpr ⟨b, hb, rfl⟩
    have := sortOk_depth ok _ hm
    show X.A.units + 1 + 1 + b.1.depth < cLine
    omega
  · obtain ⟨i1, i2⟩ := of_each he
    have e1 : ((ds.zip xs).mergeSort (PySem.W.dataLe false Prod.fst)).map (·.1) = sortD ds := by
      unfold sortD
      have := PySem.W.sort_maps (r := PySem.W.dataLe false Prod.fst) (s := PySem.W.dataLe false fun d => d) (Prod.fst : D × V → D) (l := ds.zip xs) fun _ _ _ _ => rfl
      rw [ez] at this
      exact this
    rw [e1] at i1
    obtain ⟨c, hc⟩ := PyProof.Rows.sortedHeap_at (vs := out) (out := out'.toArray) hoL
    have hz : (((ds.zip xs).mergeSort (PySem.W.dataLe false Prod.fst)).map (·.2)).length ≤ sizeLine := by
      rw [i1.length]
      unfold sortD
      rw [List.length_mergeSort]
      exact sortOk_len ok
    refine wpAny_pure ⟨_, rfl, .ref s1.heap.objs.size, upd H s1.heap.objs.size (.lst _), I1.laid (t' := s1.toks) (fun b u e => ?_) (Nat.le_refl _) ⟨hz, out', c, i2, hc⟩, rfl, q ds _ _ hP (I1.hok.fresh (Nat.le_refl _)) i1⟩
    have hb : b < s1.heap.objs.size := Heap.lt_size e
    show (sortedHeap (s1.heap.push (seqObj "list" out.toArray 0)) s1.heap.objs.size out out'.toArray).get? b = some u
    rw [PyProof.Rows.sortedHeap_old (Nat.ne_of_lt hb) (by rw [size_push']; exact Nat.lt_succ_of_lt hb)]
    exact Heap.get?_push_of_some _ e
theorem sortOk_perm {xs ys : List Str} (p : ys.Perm xs) (h : sortOk (xs.map PyData.str) = true) : sortOk (ys.map PyData.str) = true := by
  unfold sortOk at h ⊢
  simp only [Bool.and_eq_true, Bool.or_eq_true, List.all_eq_true, decide_eq_true_eq] at h ⊢
  have m : ∀ d, d ∈ ys.map PyData.str → d ∈ xs.map PyData.str := fun d hd => (p.map _).mem_iff.mp hd
  exact ⟨⟨⟨fun d hd e he => h.1.1.1 d (m d hd) e (m e he), h.1.1.2.imp (fun q d hd => q d (m d hd)) fun q d hd => q d (m d hd)⟩, fun d hd => h.1.2 d (m d hd)⟩, by rw [List.length_map, p.length_eq, ← List.length_map (f := PyData.str)]; exact h.2⟩
/-- two lists in order of the same items are one -/
theorem one_order {α : Type} {le : α → α → Prop} (anti : ∀ a b, le a b → le b a → a = b) : ∀ {l m : List α}, l.Perm m → l.Pairwise le → m.Pairwise le → l = m
  | [], m, p, _, _ => (List.nil_perm.mp p).symm ▸ rfl
  | a :: l, [], p, _, _ => by cases p.length_eq
  | a :: l, b :: m, p, h1, h2 => by
    rw [List.pairwise_cons] at h1 h2
    have e : a = b := by
      rcases List.mem_cons.mp (p.mem_iff.mp List.mem_cons_self) with e | ha
      · exact e
      · rcases List.mem_cons.mp (p.mem_iff.mpr (List.mem_cons_self (a := b) (l := m))) with e | hb
        · exact e.symm
        · exact anti a b (h1.1 b hb) (h2.1 a ha)
    subst e
    rw [one_order anti ((List.perm_cons a).mp p) h1.2 h2.2]
/-- the order of texts -/
def leT (x y : Str) : Bool := decide (x.cps.toList ≤ y.cps.toList)
theorem sortD_strs (xs : List Str) : sortD (xs.map PyData.str) = (xs.mergeSort leT).map PyData.str := by
  unfold sortD
  refine (PySem.W.sort_maps (r := leT) (s := PySem.W.dataLe false fun d => d) PyData.str fun a _ b _ => ?_).symm
  have := congrFun (congrFun (PySem.W.dataLe_str (fun x : Str => x)) a) b
  exact this.symm
theorem leT_trans (a b c : Str) (h1 : leT a b = true) (h2 : leT b c = true) : leT a c = true := by
  unfold leT at *
  simp only [decide_eq_true_eq] at *
  exact List.le_trans h1 h2
theorem leT_total (a b : Str) : (leT a b || leT b a) = true := by
  unfold leT
  simp only [Bool.or_eq_true, decide_eq_true_eq]
  exact List.le_total _ _
theorem leT_anti (a b : Str) (h1 : leT a b = true) (h2 : leT b a = true) : a = b := by
  unfold leT at *
  simp only [decide_eq_true_eq] at *
  exact TL.ext_tl (List.le_antisymm h1 h2)
theorem sortT_pairwise (xs : List Str) : (xs.mergeSort leT).Pairwise (fun a b => leT a b = true) := List.pairwise_mergeSort leT_trans leT_total xs
theorem sortD_perm {xs ys : List Str} (p : ys.Perm xs) : sortD (ys.map PyData.str) = sortD (xs.map PyData.str) := by
  rw [sortD_strs, sortD_strs, one_order leT_anti (((List.mergeSort_perm ys leT).trans p).trans (List.mergeSort_perm xs leT).symm) (sortT_pairwise ys) (sortT_pairwise xs)]
/-- gathered: a list, a tuple, a dict with plain keys -/
def sortS (o : O) : Option O := match o with
  | .dic es => if ((es.all fun e => (keyOf e.1).isSome) && sortOk (es.map (·.1))) = true then some (.lst (sortD (es.map (·.1)))) else none
  | .set xs => if sortOk (xs.map PyData.str) = true then some (.lst (sortD (xs.map PyData.str))) else none
  | o => match o.seq? with
    | some ds => if sortOk ds = true then some (.lst (sortD ds)) else none
    | none => none
theorem c_sorted (hcalm : X.calm = true) (hu : X.A.units + 65 < cLine) : CallS X ca (.builtin "sorted") (one sortS) := callS_of fun pins s σ H x v Q Z a r I rx zd ha e q => by
  have seqs : ∀ ds, a.seq? = some ds → (if sortOk ds = true then some (O.lst (sortD ds)) else none) = some r → wpAny (model X.prog X.w) X.A (call (.builtin "sorted") [v]) (EP X pins σ Q) X.xe s := fun ds e1 e => by
    split at e
    · rename_i hok
      cases e
      obtain ⟨p, xs, rfl, hs, hd⟩ := rb_seq ha e1
      cases rx
      refine sorted_src (Z := Z) I hu (fun ds' => ds' = ds) (fun ds' e => by rw [e]; exact hok) (fun E Q' hQ => ?_) fun ds' vs l e nl hv => ?_
      · rcases hs with hs | hs
        · obtain ⟨its, rv, ⟨o, n, ho, hc, hdn, hdd⟩, hz⟩ := I.list hs
          exact wpAny_collect_seq p (.inl rfl) ho hc hdd (fun h' k => hQ _ _ ds xs (I.kept (t' := s.toks) k) rfl hd rv) (by rw [List.size_toArray, ← rv.length]; exact hz)
        · obtain ⟨its, rv, ⟨o, ho, hc, n, hdd⟩, hz⟩ := I.tuple hs
          exact wpAny_collect_seq p (.inr rfl) ho hc hdd (fun h' k => hQ _ _ ds xs (I.kept (t' := s.toks) k) rfl hd rv) (by rw [List.size_toArray, ← rv.length]; exact hz)
      · subst e
        have h1 : DzA Z (gx X ca).K (upd H l (.lst vs)) (sortD ds') vs := hv.kp (same_kp (same_new nl))
        exact q _ _ _ (Al.lst (G := gx X ca) hv nl)
    · cases e
  unfold sortS at e
  split at e
  · rename_i es
    split at e
    · rename_i hc
      rw [Bool.and_eq_true] at hc
      cases e
      obtain ⟨F, ha⟩ := ha
      cases ha with
      | dct e1 hx nd ne => exact absurd (all_nkey hx hc.1) ne
      | dic e1 h1 h2 nd =>
        cases rx
        rename_i p kvs
        obtain ⟨z, lo, vs, rel, dd⟩ := dk_of I.hok e1
        obtain ⟨ep, hat⟩ := dd.dictAt
        refine sorted_src (Z := Z) I hu (fun ds' => ds' = es.map (·.1)) (fun ds' e => by rw [e]; exact hc.2) (fun E Q' hQ => ?_) fun ds' ws l e nl hv => ?_
        · refine PySem.W.kdu_collect (A := X.A.in1) (PySem.W.kdl_dict (knd := mixKind X.prog X.w) (kvs := vs) (ep := ep) lo) (I.ok.hd hcalm) hat (by rw [← rel.length]; exact z) fun h' tk acc hk hacc => ?_
          refine hQ _ _ (es.map (·.1)) (kvs.map fun p => kV p.1) (I.kept hk) rfl h1 ?_
          -- the keys' values
          have hl : acc.toList.length = kvs.length := by rw [Array.length_toList, hacc.1, rel.length]
          have main : ∀ (n : Nat) (us : List Value) (ks : List (Key × V)), us.length = ks.length → (∀ (j : Nat) (v : Value), us[j]? = some v → ∃ p, ks[j]? = some p ∧ keyIs p.1 v = true) → Vals (ks.map fun p => kV p.1) us := by
            intro n us
            induction us with
            | nil =>
              intro ks hl _
              cases ks with
              | nil => exact .nil
              | cons _ _ => cases hl
            | cons u us ih =>
              intro ks hl h
              cases ks with
              | nil => cases hl
              | cons p ks =>
                refine .cons ?_ (ih ks (by simpa using hl) fun j v e => h (j + 1) v (by simpa using e))
                obtain ⟨p', e1, e2⟩ := h 0 u rfl
                simp only [List.getElem?_cons_zero, Option.some.injEq] at e1
                subst e1
                rcases keyIs_shape e2 with ⟨i, t, ek, ev⟩ | ⟨y, t, ek, ev⟩
                · show RelV (kV p.1) u
                  rw [ek]; exact ⟨t, ev⟩
                · show RelV (kV p.1) u
                  rw [ek]; exact ⟨t, ev⟩
          refine main 0 acc.toList kvs hl fun j v e => ?_
          obtain ⟨k, x, e1, e2⟩ := hacc.2 j v (by rw [← Array.getElem?_toList]; exact e)
          have hk' := rel.keys
          have e3 : (vs.map (·.1))[j]? = some k := by rw [List.getElem?_map, e1]; rfl
          rw [← hk', List.getElem?_map] at e3
          cases e4 : kvs[j]? with
          | none => rw [e4] at e3; cases e3
          | some p' =>
            rw [e4] at e3
            cases e3
            exact ⟨p', rfl, e2⟩
        · subst e
          exact q _ _ _ (Al.lst (G := gx X ca) hv nl)
    · cases e
  · rename_i xs
    split at e
    · rename_i hok
      cases e
      obtain ⟨F, ha⟩ := ha
      cases ha with
      | set e1 =>
        obtain ⟨x, _⟩ := I.hok _ _ e1
        obtain ⟨o, es, ep, t, ⟨h1, h2, h3⟩, g, pm, nd, hb, hf, hr, hl⟩ := x
        cases rx
        refine sorted_src (Z := Z) I hu (fun ds' => ∃ ys : List Str, ds' = ys.map PyData.str ∧ ys.Perm xs) (fun ds' ⟨ys, e, p⟩ => by rw [e]; exact sortOk_perm p hok) (fun E Q' hQ => ?_) fun ds' ws l ⟨ys, e, p⟩ nl hv => ?_
        · refine collect_set (A := X.A.in1) (I.ok.hd hcalm) ⟨o, h1, h2.1, h3⟩ hf hb hr hl fun s' out k1 _ g1 o1 pm2 => ?_
          obtain ⟨ys, hys, hp⟩ : ∃ ys : List Str, StrsAre out ys ∧ ys.Perm xs := by
            have key : ∀ out : List Value, (∀ v ∈ out, ∃ x tk, v = Value.str x tk) → StrsAre out (out.map fun v => txt (0, v)) := by
              intro out
              induction out with
              | nil => intro _; exact .nil
              | cons v r ih =>
                intro h
                obtain ⟨x, tk, rfl⟩ := h v List.mem_cons_self
                exact .cons x tk (ih fun v hv => h v (List.mem_cons_of_mem _ hv))
            refine ⟨out.map fun v => txt (0, v), key out fun v hv => ?_, ?_⟩
            · obtain ⟨e, he, q⟩ := List.mem_map.mp (pm2.mem_iff.mp hv)
              obtain ⟨x, tk, rfl⟩ := g e he
              exact ⟨x, tk, q.symm⟩
            · refine (pm2.map _).trans ?_
              rw [List.map_map]
              exact pm
          have I1 : Inv X pins σ H s' := I.call' (ch := []) o1 (Un.kept k1) (I.hok.kept k1) (by rw [g1]; exact I.bare) (fun _ z => nomatch z)
          refine hQ s' out _ _ I1 ⟨ys, rfl, hp⟩ ?_ (vals_of_strs hys)
          have dz : ∀ ys : List Str, DzA Z X.K H (ys.map PyData.str) (ys.map V.str) := by
            intro ys
            induction ys with
            | nil => exact .nil
            | cons y ys ih => exact .cons (.str y) ih
          exact dz ys
        · subst e
          rw [sortD_perm p] at hv
          exact q _ _ _ (Al.lst (G := gx X ca) hv nl)
    · cases e
  · split at e
    · rename_i ds e1
      exact seqs ds e1 e
    · cases e
end
end Eng
set_option maxHeartbeats 3200000
/-! The engine, part 7: sets of texts: set(xs) of a list or a tuple of texts, its length, sorted. -/
namespace Eng
open PySem PySem.Spec L2
open PyProof.Rows hiding St

/-- a text put to those that have been met -/
def addT (xs : List Str) (k : Str) : List Str := if k ∈ xs then xs else xs ++ [k]
/-- the texts met, each once -/
def metT (ys : List Str) : List Str := ys.foldl addT []
theorem addT_nodup {xs : List Str} {k : Str} (h : xs.Nodup) : (addT xs k).Nodup := by
  unfold addT
  split
  · exact h
  · rename_i hk
    exact List.nodup_append.mpr ⟨h, by simp, fun a ha b hb e => by
      rw [List.mem_singleton] at hb
      subst hb
      subst e
      exact hk ha⟩
theorem mem_addT {xs : List Str} {k j : Str} : j ∈ addT xs k ↔ j ∈ xs ∨ j = k := by
  unfold addT
  split
  · rename_i hk
    exact ⟨.inl, fun h => h.elim id fun e => e ▸ hk⟩
  · rw [List.mem_append, List.mem_singleton]
theorem foldT_nodup : ∀ (ys xs : List Str), xs.Nodup → (ys.foldl addT xs).Nodup
  | [], _, h => h
  | _ :: ys, _, h => foldT_nodup ys _ (addT_nodup h)
theorem mem_foldT : ∀ (ys xs : List Str) {j : Str}, j ∈ ys.foldl addT xs ↔ j ∈ xs ∨ j ∈ ys
  | [], xs, j => by simp
  | y :: ys, xs, j => by
    rw [List.foldl_cons, mem_foldT ys, mem_addT, List.mem_cons, or_assoc]
theorem metT_nodup (ys : List Str) : (metT ys).Nodup := foldT_nodup ys [] List.nodup_nil
theorem mem_metT {ys : List Str} {j : Str} : j ∈ metT ys ↔ j ∈ ys := by
  unfold metT
  rw [mem_foldT]
  simp
theorem addT_len (xs : List Str) (k : Str) : (addT xs k).length ≤ xs.length + 1 := by
  unfold addT
  split
  · omega
  · simp
theorem foldT_len : ∀ (ys xs : List Str), (ys.foldl addT xs).length ≤ xs.length + ys.length
  | [], _ => Nat.le_refl _
  | y :: ys, xs => by
    have h1 := foldT_len ys (addT xs y)
    have h2 := addT_len xs y
    rw [List.foldl_cons, List.length_cons]
    omega
theorem metT_len (ys : List Str) : (metT ys).length ≤ ys.length := by
  have := foldT_len ys []
  simpa [metT] using this

section
variable {P : Program} {w : World} {A : Around} {E : Value → Shared → Prop} {s : Shared} {a : Addr} {xs : List Str}
theorem SetT.at {h h' : Heap} (x : SetT w h a xs) (k : ∀ o, h.get? a = some o → h'.get? a = some o) : SetT w h' a xs := by
  obtain ⟨o, es, ep, t, ⟨h1, h2⟩, r⟩ := x
  exact ⟨o, es, ep, t, ⟨k o h1, h2⟩, r⟩
theorem SetT.elems {l : List (Int × Value)} (g : ∀ e ∈ l, ∃ x tk, e = (hashStr w x, Value.str x tk)) : ElemsOf (PySem.strKind P w) l := fun e he => by
  obtain ⟨x, tk, rfl⟩ := g e he
  exact ⟨⟨x, strKind_is P w x tk, rfl⟩, rfl⟩
theorem txt_is {l : List (Int × Value)} (g : ∀ e ∈ l, ∃ x tk, e = (hashStr w x, Value.str x tk)) {e : Int × Value} (he : e ∈ l) (k : Str) : (PySem.strKind P w).is k e.2 = true ↔ txt e = k := by
  obtain ⟨x, tk, rfl⟩ := g e he
  show Value.isStrOf k (.str x tk) = true ↔ x = k
  constructor
  · intro h
    obtain ⟨t, e⟩ := Value.isStrOf_shape h
    injection e
  · rintro rfl
    exact strKind_is P w x tk
/-- the table is laid down, and laid anew where it is too full -/
theorem lay_down {gw : Bool → Sem Unit} (hg : ∀ (b : Bool) (s₁ : Shared) (Q' : Unit → Shared → Prop), Q' () s₁ → wpAny (model P w) A (gw b) Q' E s₁) {o : Obj} {es es1 : Array (Int × Value)} {ep : Nat} {t t2 : SetTable} {ys : List Str} {wd : Bool} {R : Option Bool → Shared → Prop}
    (ho : s.heap.get? a = some o) (hx : o.ExactSet) (hd : o.data = .set es ep t) (g : ∀ e ∈ es1.toList, ∃ x tk, e = (hashStr w x, Value.str x tk)) (pm : (es1.toList.map txt).Perm ys) (nd : ys.Nodup)
    (hb : es1.size < scanBound) (hf : t2.fits es1.size = true) (hr : Ris t2.place.toList) (hl : w.params.followText "set-order" = true ∨ t2.led = true)
    (hR : ∀ h', Heap.SameBut a s.heap h' → SetT w h' a ys → R (some true) { s with heap := h' }) :
    wpAny (model P w) A (do
      storeSet a es1 t2
      if (!wd && t2.tooFull) = true then do
        gw (relayAll t2 es1 (SetTable.grown es1.size)).2.2
        storeSet a (relayAll t2 es1 (SetTable.grown es1.size)).1 (relayAll t2 es1 (SetTable.grown es1.size)).2.1
        pure (some true)
      else pure (some true)) R E s := by
  have one := store_at (es' := es1) (t' := t2) ho hd
  have sb := Heap.SameBut.update s.heap a (Obj.putSet es1 t2)
  refine wpAny_bind (wpAny_storeSet_of ho hd ?_ (fits_of_scanBound hb))
  by_cases full : (!wd && t2.tooFull) = true
  · rw [if_pos full]
    have q1 := relayAll_perm t2 es1 (SetTable.grown es1.size)
    have q2 := relayAll_fits t2 es1 (SetTable.grown es1.size)
    have q3 := relayAll_ris t2 es1 (SetTable.grown es1.size)
    have q4 := relayAll_led t2 es1 (SetTable.grown es1.size)
    revert q1 q2 q3 q4
    generalize relayAll t2 es1 (SetTable.grown es1.size) = T
    obtain ⟨es2, t3, gave⟩ := T
    intro q1 q2 q3 q4
    simp only at q1 q2 q3 q4 ⊢
    have len : es2.size = es1.size := by simpa using q1.length_eq
    refine wpAny_bind (hg _ _ _ (wpAny_bind (wpAny_storeSet_of one rfl (wpAny_pure (hR _ (sb.trans (Heap.SameBut.update _ a _)) ?_)) (fits_of_scanBound (by rw [len]; exact hb)))))
    exact ⟨_, es2, _, t3, ⟨store_at one rfl, hx, rfl⟩, fun e he => g e (q1.mem_iff.mp he), (q1.map txt).trans pm, nd, by rw [len]; exact hb, q2, q3, hl.imp id fun z => by rw [q4]; exact z⟩
  · rw [if_neg full]
    exact wpAny_pure (hR _ sb ⟨_, es1, _, t2, ⟨one, hx, rfl⟩, g, pm, nd, hb, hf, hr, hl⟩)
/-- one more text -/
theorem add_one {k : Str} {tk : Tok} {Q : Bool → Shared → Prop} (x : SetT w s.heap a xs) (room : xs.length + 1 < scanBound) (hQ : ∀ b h', Heap.SameBut a s.heap h' → SetT w h' a (addT xs k) → Q b { s with heap := h' }) :
    wpAny (model P w) A (setAddHashed a (.str k tk) ((PySem.strKind P w).hash k)) Q E s := by
  have x0 := x
  obtain ⟨o, es, ep, t, ⟨ho, hx, hd⟩, g, pm, nd, hb, hf, hr, hl⟩ := x
  have el : ElemsOf (PySem.strKind P w) es.toList := SetT.elems g
  have sc : (Value.str k tk).scannable = true := rfl
  unfold setAddHashed setAddHashedIn
  refine wpAny_holding (wpAny_bind (wpAny_setState_of ho hd hf ?_))
  simp only [byScan_of sc hb el, ↓reduceIte]
  unfold setAddByScan
  refine wpAny_bind (wpAny_bind (wpAny_rule (wpAny_bind (wpAny_setScan_of (strKind_is P w k tk) ho hd hf el ?_))))
  cases hit : List.findIdx? (fun e => (PySem.strKind P w).is k e.2) es.toList with
  | some j =>
    obtain ⟨hj, pj, _⟩ := List.findIdx?_eq_some_iff_getElem.mp hit
    have hm : k ∈ xs := pm.mem_iff.mp (List.mem_map.mpr ⟨_, List.getElem_mem hj, (txt_is g (List.getElem_mem hj) k).mp pj⟩)
    have same : addT xs k = xs := if_pos hm
    refine wpAny_pure (wpAny_pure (hQ _ s.heap (Heap.SameBut.refl a s.heap) ?_))
    rw [same]
    exact x0
  | none =>
    have hn : k ∉ xs := fun h => by
      obtain ⟨e, he, q⟩ := List.mem_map.mp (pm.mem_iff.mpr h)
      have := List.findIdx?_eq_none_iff.mp hit e he
      rw [(txt_is (P := P) g he k).mpr q] at this
      cases this
    have more : addT xs k = xs ++ [k] := if_neg hn
    have nd' := addT_nodup (k := k) nd
    have gw : ∀ (b : Bool) {s₁ : Shared} {Q' : Unit → Shared → Prop}, Q' () s₁ → wpAny (model P w) A (match b with
        | true => rule "set.scan.the-table-gave-way"
        | false => pure ()) Q' E s₁ := fun b s₁ Q' q => by
      cases b
      · exact wpAny_pure q
      · exact wpAny_rule q
    have p1 := layNew_perm t es ((PySem.strKind P w).hash k) (.str k tk)
    have p2 := layNew_fits t es ((PySem.strKind P w).hash k) (.str k tk)
    have p3 := layNew_ris t es ((PySem.strKind P w).hash k) (.str k tk) hr
    have p4 := layNew_led t es ((PySem.strKind P w).hash k) (.str k tk)
    dsimp only
    revert p1 p2 p3 p4
    generalize layNew t es ((PySem.strKind P w).hash k) (.str k tk) = T
    obtain ⟨es1, t1, wd, gave⟩ := T
    intro p1 p2 p3 p4
    simp only at p1 p2 p3 p4 ⊢
    rw [Array.toList_push] at p1
    have g1 : ∀ e ∈ es1.toList, ∃ x tk, e = (hashStr w x, Value.str x tk) := fun e he => by
      rcases List.mem_append.mp (p1.mem_iff.mp he) with z | z
      · exact g e z
      · rw [List.mem_singleton] at z
        exact ⟨k, tk, z⟩
    have pm1 : (es1.toList.map txt).Perm (addT xs k) := by
      rw [more]
      refine (p1.map txt).trans ?_
      rw [List.map_append]
      exact pm.append (List.Perm.refl _)
    have len : es1.size = es.size + 1 := by
      have := p1.length_eq
      simpa using this
    have len0 : es.size = xs.length := by
      have := pm.length_eq
      simpa using this
    have hb1 : es1.size < scanBound := by rw [len, len0]; exact room
    have hl1 : w.params.followText "set-order" = true ∨ t1.led = true := hl.imp id fun z => by rw [p4]; exact z
    refine wpAny_bind (gw _ ?_)
    split
    · refine wpAny_bind ?_
      rw [hashByValue_scannable 8 sc]
      refine wpAny_pure (lay_down ?_ ho hx hd g1 pm1 nd' hb1 ?_ ?_ ?_ fun h' sb r => by dsimp only; exact wpAny_pure (hQ _ h' sb r))
      · intro b s₁ Q' q
        cases b
        · exact wpAny_pure q
        · exact wpAny_rule q
      · first
          | (split <;> first
              | exact p2
              | exact SetTable.fits_plain_off p2)
          | exact p2
      · first
          | (split <;> exact p3)
          | exact p3
      · first
          | (split <;> exact hl1)
          | exact hl1
    · refine wpAny_bind (wpAny_pure ?_)
      simp only [↓reduceIte]
      refine lay_down ?_ ho hx hd g1 pm1 nd' hb1 p2 p3 hl1 fun h' sb r => by dsimp only; exact wpAny_pure (hQ _ h' sb r)
      intro b s₁ Q' q
      cases b
      · exact wpAny_pure q
      · exact wpAny_rule q
end
end Eng
set_option maxHeartbeats 3200000
/-! The engine, part 8: set(xs), len, sorted. -/
namespace Eng
open PySem PySem.Spec L2
open PyProof.Rows hiding St

theorem text_at : ∀ {us : List Value} {xs : List Str}, StrsAre us xs → ∀ {i : Nat} {v : Value}, us[i]? = some v → ∃ k t, xs[i]? = some k ∧ v = .str k t
  | _, _, .nil, _, _, h => by simp at h
  | _, _, .cons n t r, 0, v, h => by
    simp only [List.getElem?_cons_zero, Option.some.injEq] at h
    exact ⟨n, t, rfl, h.symm⟩
  | _, _, .cons n t r, i + 1, v, h => text_at r (i := i) (by simpa using h)
/-- a new, empty set -/
def noSet (w : World) : Obj := { cls := .type "set", dict := none, data := .set #[] 0 (.fresh 0 0 (!w.params.followText "set-order")) }
theorem SetT.empty {w : World} {h : Heap} {a : Addr} (e : h.get? a = some (noSet w)) : SetT w h a [] :=
  ⟨_, #[], 0, _, ⟨e, ⟨rfl, rfl, rfl⟩, rfl⟩, fun e he => (by cases he), List.Perm.refl _, List.nodup_nil, by decide, rfl, List.Pairwise.nil, by
    show _ ∨ (!w.params.followText "set-order") = true
    cases w.params.followText "set-order"
    · exact .inr rfl
    · exact .inl rfl⟩
section
variable {P : Program} {w : World} {A : Around} {E : Value → Shared → Prop} {s : Shared}
/-- the texts that an iterator gives are put in -/
theorem fill_set {I : Addr} {fp wr : List Addr} {G : Array GenState → Array GenState → Prop} {n : Nat} {Pv : Nat → Value → Prop} {St : Nat → Shared → Prop} {R : Result → Shared → Prop}
    (W : WalksS P w A.in1 I fp wr G n Pv St) (S : Addr) (hS : S ∉ fp) (ys : List Str) (hn : n = ys.length) (hb : ys.length + 1 < scanBound) (hv : ∀ i v, Pv i v → ∃ k t, ys[i]? = some k ∧ v = .str k t) :
    ∀ (left i : Nat) (s : Shared), n - i = left → i ≤ n → St i s → SetT w s.heap S (metT (ys.take i)) →
      (∀ s', Moved (S :: wr) G s s' → SetT w s'.heap S (metT ys) → R (.ok (.ret .none)) s') → codeAny (model P w) A (.builtin "set.update.loop" ⟨[.ref S, .ref I], []⟩) R s := by
  have out : S ∉ wr := fun h => hS (W.sub _ h)
  have more : ∀ b ∈ wr, b ∈ S :: wr := fun b hb => List.mem_cons_of_mem _ hb
  intro left
  induction left with
  | zero =>
    intro i s hl hi st x hR
    obtain rfl : i = n := by omega
    refine codeAny_builtin F.entry_set_update_loop ?_
    rw [Around.under_plainId F.plain_set_update_loop _]
    show wpAny _ A.in1 (pyNext (.ref I) >>= _) _ _ s
    refine wpAny_bind (W.done s _ _ st fun s' m => wpAny_pure (hR s' (m.mono more) ?_))
    rw [List.take_of_length_le (Nat.le_of_eq hn.symm)] at x
    exact x.at fun o e => m.heap S o out e
  | succ left ih =>
    intro i s hl hi st x hR
    have lt : i < n := by omega
    refine codeAny_builtin F.entry_set_update_loop ?_
    rw [Around.under_plainId F.plain_set_update_loop _]
    show wpAny _ A.in1 (pyNext (.ref I) >>= _) _ _ s
    refine wpAny_bind (W.item i s _ _ lt st fun v s1 hP st1 m => ?_)
    obtain ⟨k, t, hk, rfl⟩ := hv i v hP
    have x1 : SetT w s1.heap S (metT (ys.take i)) := x.at fun o e => m.heap S o out e
    show wpAny _ A.in1 (holding [Value.str k t] (setAdd S (.str k t)) >>= _) _ _ s1
    refine wpAny_bind (wpAny_holding ?_)
    unfold setAdd
    refine wpAny_holding (wpAny_bind ((PySem.strKind P w).pyHash (strKind_is P w k t) ?_))
    have room : (metT (ys.take i)).length + 1 < scanBound := by
      have h1 := metT_len (ys.take i)
      have h2 : (ys.take i).length ≤ ys.length := by rw [List.length_take]; omega
      omega
    refine add_one (s := { s1 with toks := s1.toks + 1 }) x1 room fun b h' sb x2 => ?_
    have e : addT (metT (ys.take i)) k = metT (ys.take (i + 1)) := by
      rw [List.take_add_one, hk]
      show _ = metT (ys.take i ++ [k])
      unfold metT
      rw [List.foldl_append]
      rfl
    rw [e] at x2
    refine wpAny_pure ⟨plainId_quiet F.plain_set_update_loop _, ih (i + 1) _ (by omega) lt (W.frame _ s1 _ _ st1 (Nat.le_succ _) fun c hc o q => ?_) x2 fun s2 m2 x3 => hR s2 (Moved.trans W.gtrans ((m.mono more).then_heap (Nat.le_succ _) fun c o hc q => ?_) m2) x3⟩
    · exact (sb.2 c fun z => hS (z ▸ hc)).trans q
    · exact (sb.2 c fun z => hc (z ▸ List.mem_cons_self)).trans q
/-- set.__new__ -/
theorem new_set (x : Value) {Q₁ : Value → Shared → Prop} (h : Q₁ (.ref s.heap.objs.size) { s with heap := s.heap.push (noSet w) }) : codeAny (model P w) A (.call (.builtin "set.__new__") ⟨[.type "set", x], []⟩) (wants Q₁ E) s :=
  code_set_led1 x h

theorem call_set_list {l : Addr} {items : Array Value} (ys : List Str) {Q : Value → Shared → Prop} (hh : A.handled = none) (hl : s.heap.IsList l items) (hi : StrsAre items.toList ys) (hb : ys.length + 1 < scanBound)
    (h : ∀ (h' : Heap) (tk : Nat), SetT w h' s.heap.objs.size (metT ys) → (∀ b o, s.heap.get? b = some o → h'.get? b = some o) → Q (.ref s.heap.objs.size) { s with heap := h', toks := tk }) :
    wpAny (model P w) A (call (.type "set") [.ref l]) Q E s := by
  have size : items.size = ys.length := by rw [← Array.length_toList]; exact StrsAre.len_eq hi
  obtain ⟨c, tl, hmro⟩ := F.called_set.mro
  have hmade := F.called_set.made
  have hsub := F.called_set.sub
  refine wpAny_call (codeAny_of_tree ?_)
  show wpAny _ _ (callAny (.type "set") _) _ _ _
  refine wpAny_pure ⟨Code.quiet_builtin _ (by decide +kernel), codeAny_builtin F.entry_type_call ?_⟩
  rw [Around.under_plain (weight_type_call_type "set" [.ref l] []) rfl]
  have h1 := F.called_set.notType
  have h2 := F.called_set.canCreate
  have hct := F.typeCall_set_1 (.ref l)
  repeat (any_goals (first | assumption | wp_step))
  refine codeAny_mono (new_set (.ref l) (E := E) (Q₁ := fun obj s₁ => obj = .ref s.heap.objs.size ∧ s₁ = { s with heap := s.heap.push (noSet w) }) ⟨rfl, rfl⟩) fun r s₁ hr => ?_
  cases r with
  | error e => exact hr
  | ok fl =>
    cases fl with
    | ret obj =>
      obtain ⟨rfl, rfl⟩ := hr
      have at0 : (s.heap.push (noSet w)).get? s.heap.objs.size = some (noSet w) := Heap.get?_push_size _ rfl
      have ty : Shared.TypeIs { s with heap := s.heap.push (noSet w) } (.ref s.heap.objs.size) "set" := ⟨_, at0, rfl⟩
      have hli := F.called_set.init.lookup
      have hbi := F.called_set.init.bind (.ref s.heap.objs.size)
      repeat (any_goals (first | assumption | wp_step))
      refine codeAny_mono (codeAny_call_builtin (R := wants (fun r s₂ => r = .none ∧ ∃ h' tk, s₂ = { s with heap := h', toks := tk } ∧ SetT w h' s.heap.objs.size (metT ys) ∧ ∀ b o, s.heap.get? b = some o → h'.get? b = some o) E)
        F.called_set.init.plain F.entry_set_init (check_set_init_1 ty ?_)) fun r₂ s₂ hr₂ => ?_
      · obtain ⟨⟨ocls, odict, odata, oslots⟩, hol, hcl, nl, hdl⟩ := hl
        simp only at hcl hdl
        subst hcl
        subst hdl
        have hol' := Heap.get?_push_of_some (h := s.heap) (noSet w) hol
        have hsls := F.sub_list_set
        have hslf := F.sub_list_frozenset
        have hne : (Value.type "list" == Value.type "dict") = false := by decide
        have hl1 : (s.heap.push (noSet w)).IsList l items := ⟨_, hol', rfl, nl, rfl⟩
        unfold Builtin.«set.__init__» noKeywords Builtin.Frozenset.updateFrom
        generalize hPI : pyIter = PI
        wp_walk
        subst hPI
        refine wpAny_pyIter_list hl1 (wpAny_bind (wpAny_runValue ?_))
        have old : l < s.heap.objs.size := Heap.lt_size hol
        have top : (s.heap.push (noSet w)).objs.size = s.heap.objs.size + 1 := Heap.size_push ..
        have hh3 : A.in1.in1.in1.handled = none := by simp [hh]
        have part : l ≠ (s.heap.push (noSet w)).objs.size := by rw [top]; exact Nat.ne_of_lt (Nat.lt_succ_of_lt old)
        have apart : s.heap.objs.size ∉ [(s.heap.push (noSet w)).objs.size, l] := by
          rw [top]
          intro hm
          rcases List.mem_cons.mp hm with q | q
          · exact Nat.ne_of_lt (Nat.lt_succ_self _) q
          · exact Nat.ne_of_gt old (List.mem_singleton.mp q)
        refine fill_set ((Walks.list hh3 _ l part items).toS) s.heap.objs.size apart ys size hb (fun i v hv => text_at hi (by rw [Array.getElem?_toList]; exact hv)) (items.size - 0) 0 _ (by omega) (Nat.zero_le _) ⟨⟨_, Heap.get?_push_size _ rfl, rfl, rfl⟩, hl1.push _⟩ ?zero ?last
        case zero => exact SetT.empty (Heap.get?_push_of_some _ at0)
        case last =>
          intro s' m x
          obtain ⟨h', g', d', tk', os'⟩ := s'
          obtain rfl : g' = s.gens := m.gens
          obtain rfl : d' = s.drawn := m.drawn
          obtain rfl : os' = s.os := m.os
          refine wpAny_pure (wpAny_pure ⟨rfl, h', tk', rfl, x, fun b o e => ?_⟩)
          have lt := Heap.lt_size e
          refine m.heap b o (fun hm => ?_) (Heap.get?_push_of_some _ (Heap.get?_push_of_some _ e))
          rcases List.mem_cons.mp hm with q | q
          · exact Nat.ne_of_lt lt q
          · rw [List.mem_singleton, top] at q
            exact Nat.ne_of_lt (Nat.lt_succ_of_lt lt) q
      · cases r₂ with
        | error e => exact hr₂
        | ok fl₂ =>
          cases fl₂ with
          | ret r =>
            obtain ⟨rfl, h', tk, rfl, x, keep⟩ := hr₂
            repeat (any_goals (first | assumption | wp_step))
            exact h _ _ x keep
          | _ => exact hr₂.elim
    | _ => exact hr.elim

end
end Eng
set_option maxHeartbeats 3200000
/-! The engine, part 8: set(xs), len, sorted. -/
namespace Eng
open PySem PySem.Spec L2
open PyProof.Rows hiding St

section
variable {P : Program} {w : World} {A : Around} {E : Value → Shared → Prop} {s : Shared}
theorem call_set_tuple {l : Addr} {items : Array Value} (ys : List Str) {Q : Value → Shared → Prop} (hh : A.handled = none) (hl : s.heap.IsTuple l items) (hi : StrsAre items.toList ys) (hb : ys.length + 1 < scanBound)
    (h : ∀ (h' : Heap) (tk : Nat), SetT w h' s.heap.objs.size (metT ys) → (∀ b o, s.heap.get? b = some o → h'.get? b = some o) → Q (.ref s.heap.objs.size) { s with heap := h', toks := tk }) :
    wpAny (model P w) A (call (.type "set") [.ref l]) Q E s := by
  have size : items.size = ys.length := by rw [← Array.length_toList]; exact StrsAre.len_eq hi
  obtain ⟨c, tl, hmro⟩ := F.called_set.mro
  have hmade := F.called_set.made
  have hsub := F.called_set.sub
  refine wpAny_call (codeAny_of_tree ?_)
  show wpAny _ _ (callAny (.type "set") _) _ _ _
  refine wpAny_pure ⟨Code.quiet_builtin _ (by decide +kernel), codeAny_builtin F.entry_type_call ?_⟩
  rw [Around.under_plain (weight_type_call_type "set" [.ref l] []) rfl]
  have h1 := F.called_set.notType
  have h2 := F.called_set.canCreate
  have hct := F.typeCall_set_1 (.ref l)
  repeat (any_goals (first | assumption | wp_step))
  refine codeAny_mono (new_set (.ref l) (E := E) (Q₁ := fun obj s₁ => obj = .ref s.heap.objs.size ∧ s₁ = { s with heap := s.heap.push (noSet w) }) ⟨rfl, rfl⟩) fun r s₁ hr => ?_
  cases r with
  | error e => exact hr
  | ok fl =>
    cases fl with
    | ret obj =>
      obtain ⟨rfl, rfl⟩ := hr
      have at0 : (s.heap.push (noSet w)).get? s.heap.objs.size = some (noSet w) := Heap.get?_push_size _ rfl
      have ty : Shared.TypeIs { s with heap := s.heap.push (noSet w) } (.ref s.heap.objs.size) "set" := ⟨_, at0, rfl⟩
      have hli := F.called_set.init.lookup
      have hbi := F.called_set.init.bind (.ref s.heap.objs.size)
      repeat (any_goals (first | assumption | wp_step))
      refine codeAny_mono (codeAny_call_builtin (R := wants (fun r s₂ => r = .none ∧ ∃ h' tk, s₂ = { s with heap := h', toks := tk } ∧ SetT w h' s.heap.objs.size (metT ys) ∧ ∀ b o, s.heap.get? b = some o → h'.get? b = some o) E)
        F.called_set.init.plain F.entry_set_init (check_set_init_1 ty ?_)) fun r₂ s₂ hr₂ => ?_
      · obtain ⟨⟨ocls, odict, odata, oslots⟩, hol, hcl, nl, hdl⟩ := hl
        simp only at hcl hdl
        subst hcl
        subst hdl
        have hol' := Heap.get?_push_of_some (h := s.heap) (noSet w) hol
        have hsls := F.sub_tuple_set
        have hslf := F.sub_tuple_frozenset
        have hne : (Value.type "tuple" == Value.type "dict") = false := by decide
        have hl1 : (s.heap.push (noSet w)).IsTuple l items := ⟨_, hol', rfl, nl, rfl⟩
        unfold Builtin.«set.__init__» noKeywords Builtin.Frozenset.updateFrom
        generalize hPI : pyIter = PI
        wp_walk
        subst hPI
        refine wpAny_pyIter_tuple hl1 (wpAny_bind (wpAny_runValue ?_))
        have old : l < s.heap.objs.size := Heap.lt_size hol
        have top : (s.heap.push (noSet w)).objs.size = s.heap.objs.size + 1 := Heap.size_push ..
        have hh3 : A.in1.in1.in1.handled = none := by simp [hh]
        have part : l ≠ (s.heap.push (noSet w)).objs.size := by rw [top]; exact Nat.ne_of_lt (Nat.lt_succ_of_lt old)
        have apart : s.heap.objs.size ∉ [(s.heap.push (noSet w)).objs.size, l] := by
          rw [top]
          intro hm
          rcases List.mem_cons.mp hm with q | q
          · exact Nat.ne_of_lt (Nat.lt_succ_self _) q
          · exact Nat.ne_of_gt old (List.mem_singleton.mp q)
        refine fill_set ((Walks.tuple hh3 _ l part items).toS) s.heap.objs.size apart ys size hb (fun i v hv => text_at hi (by rw [Array.getElem?_toList]; exact hv)) (items.size - 0) 0 _ (by omega) (Nat.zero_le _) ⟨⟨_, Heap.get?_push_size _ rfl, rfl, rfl⟩, hl1.push _⟩ ?zero ?last
        case zero => exact SetT.empty (Heap.get?_push_of_some _ at0)
        case last =>
          intro s' m x
          obtain ⟨h', g', d', tk', os'⟩ := s'
          obtain rfl : g' = s.gens := m.gens
          obtain rfl : d' = s.drawn := m.drawn
          obtain rfl : os' = s.os := m.os
          refine wpAny_pure (wpAny_pure ⟨rfl, h', tk', rfl, x, fun b o e => ?_⟩)
          have lt := Heap.lt_size e
          refine m.heap b o (fun hm => ?_) (Heap.get?_push_of_some _ (Heap.get?_push_of_some _ e))
          rcases List.mem_cons.mp hm with q | q
          · exact Nat.ne_of_lt lt q
          · rw [List.mem_singleton, top] at q
            exact Nat.ne_of_lt (Nat.lt_succ_of_lt lt) q
      · cases r₂ with
        | error e => exact hr₂
        | ok fl₂ =>
          cases fl₂ with
          | ret r =>
            obtain ⟨rfl, h', tk, rfl, x, keep⟩ := hr₂
            repeat (any_goals (first | assumption | wp_step))
            exact h _ _ x keep
          | _ => exact hr₂.elim
    | _ => exact hr.elim
end
end Eng
set_option maxHeartbeats 1000000
/-! The engine, part 9: slots that change, values handed over, displays, tests. -/
namespace Eng
open PySem PySem.Spec L2
open PyProof.Rows hiding St

/-! ### one slot of the state -/
inductive RoSl (G : Gx) (Z : Zs) (H : Hp) : Sl → Option V → List Addr → Prop
  | no {x : Option V} : RoSl G Z H none x []
  | yes {p : Bool} {o : O} {v : V} {F : List Addr} (h : Ro G Z H o v F) : RoSl G Z H (some (p, o)) (some v) F
section
variable {G : Gx} {Z : Zs} {H : Hp}
theorem RoS.split : ∀ {ρ : En} {σ : L2.St} {L : List Addr} {i : Nat} {sl : Sl}, RoS G Z H ρ σ L → ρ[i]? = some sl → ∃ L1 F L2 x, L = L1 ++ (F ++ L2) ∧ σ[i]? = some x ∧ RoSl G Z H sl x F ∧
    ∀ {Z' : Zs} {H' : Hp} {sl' : Sl} {x' : Option V} {F' : List Addr}, Kp Z G.K H Z' H' → (∀ a ∈ L1 ++ L2, ∀ u, H a = some u → H' a = some u) → RoSl G Z' H' sl' x' F' → RoS G Z' H' (ρ.set i sl') (σ.set i x') (L1 ++ (F' ++ L2))
  | _, _, _, _, _, .emp, e => by simp at e
  | _, _, _, 0, sl, .no (x := x) (L := L) t, e => by
    simp only [List.getElem?_cons_zero, Option.some.injEq] at e
    subst e
    refine ⟨[], [], L, x, rfl, rfl, .no, fun {Z' H' sl' x' F'} k hk r => ?_⟩
    have t' := t.kp k hk
    cases r with
    | no => exact .no t'
    | yes h => show RoS G Z' H' _ _ (F' ++ L); exact .yes h t'
  | _, _, _, 0, sl, .yes (v := v) (F := F) (L := L) h t, e => by
    simp only [List.getElem?_cons_zero, Option.some.injEq] at e
    subst e
    refine ⟨[], F, L, some v, rfl, rfl, .yes h, fun {Z' H' sl' x' F'} k hk r => ?_⟩
    have t' := t.kp k hk
    cases r with
    | no => exact .no t'
    | yes h => show RoS G Z' H' _ _ (F' ++ L); exact .yes h t'
  | _, _, _, i + 1, sl, .no t, e => by
    obtain ⟨L1, F, L2, x, rfl, e2, h, put⟩ := RoS.split (i := i) t (by simpa using e)
    exact ⟨L1, F, L2, x, rfl, by simpa using e2, h, fun k hk r => .no (put k hk r)⟩
  | _, _, _, i + 1, sl, .yes (F := F0) h0 t, e => by
    obtain ⟨L1, F, L2, x, rfl, e2, h, put⟩ := RoS.split (i := i) t (by simpa using e)
    refine ⟨F0 ++ L1, F, L2, x, by rw [List.append_assoc], by simpa using e2, h, fun k hk r => ?_⟩
    rw [List.append_assoc]
    refine .yes (h0.kp k fun a ha => hk a ?_) (put k (fun a ha => hk a ?_) r)
    · rw [List.append_assoc]; exact List.mem_append_left _ ha
    · rw [List.append_assoc]; exact List.mem_append_right _ ha
end

section
variable {θ : Nat → V} {G : Gx} {Z : Zs} {H : Hp} {ρ : En} {σ : L2.St} {L : List Addr} {i : Nat} {sl : Sl}
/-- a slot is stored anew: L1, L2 stand aside -/
theorem Rep.put (r : Rep θ G Z H ρ σ L) (e : ρ[i]? = some sl) : ∃ L1 F L2 x, L = L1 ++ (F ++ L2) ∧ σ[i]? = some x ∧ RoSl G Z H sl x F ∧
    ∀ {Z' : Zs} {H' : Hp} {sl' : Sl} {x' : Option V} {F' : List Addr}, Kp Z G.K H Z' H' → (∀ a ∈ L1 ++ L2, ∀ u, H a = some u → H' a = some u) → RoSl G Z' H' sl' x' F' → F'.Nodup → (∀ a ∈ F', a ∉ L1 ++ L2) → (∀ a ∈ F', ¬ Z' a) → (∀ a ∈ L1 ++ L2, ¬ Z' a) →
      (∀ a, Z' a → H' a ≠ none) → (∀ o, sl' = some (true, o) → x' = some (θ i)) → Rep θ G Z' H' (ρ.set i sl') (σ.set i x') (L1 ++ (F' ++ L2)) := by
  obtain ⟨L1, F, L2, x, rfl, e2, h, put⟩ := r.sl.split e
  refine ⟨L1, F, L2, x, rfl, e2, h, fun {Z' H' sl' x' F'} k hk rs ndF nF zF zL zd hp => ⟨put k hk rs, ?_, fun a ha => ?_, zd, fun j o ej => ?_⟩⟩
  · have n := List.nodup_append.mp r.nd
    have n2 := List.nodup_append.mp n.2.1
    refine List.nodup_append.mpr ⟨n.1, List.nodup_append.mpr ⟨ndF, n2.2.1, fun a ha b hb q => nF a ha (List.mem_append_right _ (q ▸ hb))⟩, fun a ha b hb q => ?_⟩
    rcases List.mem_append.mp hb with hb | hb
    · exact nF b hb (List.mem_append_left _ (q ▸ ha))
    · exact n.2.2 a ha b (List.mem_append_right _ hb) q
  · rcases List.mem_append.mp ha with ha | ha
    · exact zL a (List.mem_append_left _ ha)
    · rcases List.mem_append.mp ha with ha | ha
      · exact zF a ha
      · exact zL a (List.mem_append_right _ ha)
  · by_cases q : i = j
    · subst q
      have li : i < ρ.length := (List.getElem?_eq_some_iff.mp e).1
      have ls : i < σ.length := (List.getElem?_eq_some_iff.mp e2).1
      rw [List.getElem?_set_self li] at ej
      rw [List.getElem?_set_self ls, hp o (Option.some.inj ej)]
    · rw [List.getElem?_set_ne q] at ej ⊢
      exact r.pn j o ej
theorem Kp.refl {K : PySem.W.Frag} : Kp Z K H Z H := ⟨fun _ h => h, fun _ _ _ h => h, fun _ _ h => h, fun _ _ h => h⟩
theorem set_back {α : Type} {l : List α} {i : Nat} {x : α} (e : l[i]? = some x) : l.set i x = l := by
  obtain ⟨h, e⟩ := List.getElem?_eq_some_iff.mp e
  rw [← e]
  exact List.set_getElem_self h
end

/-! ### a name's list is frozen; operands handed over -/
def frz (ρ : En) (i : Nat) : En := match ρ[i]? with
  | some (some (p, .lst ds)) => ρ.set i (some (p, .val (.list ds)))
  | _ => ρ
/-- an operand is handed over -/
def take (ρ : En) : Opd → Option (O × En)
  | .tmp o => some (o, ρ)
  | .nm i => match slotO ρ i with
    | some (.val d) => some (.val d, ρ)
    | some (.scr ns) => some (.scr ns, ρ)
    | some (.lst ds) => some (.val (.list ds), frz ρ i)
    | _ => none
/-- .. as a datum -/
def give (ρ : En) (p : Opd) : Option (D × En) := match take ρ p with
  | some (.val d, ρ') => some (d, ρ')
  | some (.lst ds, ρ') => some (.list ds, ρ')
  | _ => none
def gives (ρ : En) : List Opd → Option (List D × En)
  | [] => some ([], ρ)
  | p :: ps => match give ρ p with
    | some (d, ρ1) => match gives ρ1 ps with
      | some (ds, ρ2) => some (d :: ds, ρ2)
      | none => none
    | none => none

section
variable {θ : Nat → V} {G : Gx} {Z Z1 Z2 : Zs} {H H1 H2 : Hp} {σ : L2.St} {L L1 L2' F F1 F2 : List Addr} {ps qs : List Opd} {vs ws : List V} {ρ ρ1 : En} {v : V} {i : Nat}
theorem Held.carryM (h : Held G Z1 H1 σ L1 ps vs F1) (mu : ∀ a ∈ L1, Mut (H1 a)) (dz : ∀ a ∈ L1, ¬ Z1 a) (s : Step Z1 L1 H1 Z2 L2' H2) (nd : L2'.Nodup) : Held G Z2 H2 σ L2' ps vs F1 := by
  have mF := h.ok.mut
  have nL : ∀ a ∈ F1, a ∉ L1 := fun a ha hl => (List.nodup_append.mp h.nd).2.2 a ha a hl rfl
  refine ⟨h.ok.kp (s.kp mu dz) fun a ha u e => s.keep a u e (nL a ha), List.nodup_append.mpr ⟨(List.nodup_append.mp h.nd).1, nd, fun a ha b hb e => ?_⟩, fun a ha z => ?_⟩
  · subst e
    rcases s.lnew a hb with q | q
    · exact nL a ha q
    · exact mut_some (mF a ha) q
  · rcases s.znew a z with q | q | q
    · exact h.dis a ha q
    · exact nL a ha q
    · exact mut_some (mF a ha) q
/-- more is frozen -/
def ZAdd (Z : Zs) (a : Addr) : Zs := fun b => Z b ∨ b = a
theorem kp_add {K : PySem.W.Frag} {a : Addr} : Kp Z K H (ZAdd Z a) H := ⟨fun _ h => .inl h, fun _ _ _ h => h, fun _ _ h => h, fun _ _ h => h⟩
theorem step_add {a : Addr} (h : a ∈ L) (hs : ∀ b ∈ L1, b ∈ L) : Step Z L H (ZAdd Z a) L1 H := ⟨fun _ _ e _ => e, fun _ z => .inl z, fun b z => by
  rcases z with z | z
  · exact .inl z
  · exact .inr (.inl (z ▸ h)), fun b hb => .inl (hs b hb)⟩
theorem Ro.single {ds : List D} (h : Ro G Z H (.lst ds) v F) : ∃ a xs, v = .ref a ∧ F = [a] ∧ H a = some (.lst xs) ∧ DzA Z G.K H ds xs := by
  cases h with
  | lst e h => exact ⟨_, _, rfl, rfl, e, h⟩
theorem frz_eq {p : Bool} {ds : List D} (e : ρ[i]? = some (some (p, .lst ds))) : frz ρ i = ρ.set i (some (p, .val (.list ds))) := by
  unfold frz
  rw [e]
theorem Rep.frz (r : Rep θ G Z H ρ σ L) {p : Bool} {ds : List D} (e : ρ[i]? = some (some (p, .lst ds))) : ∃ Z' L' v, σ[i]? = some (some v) ∧ Rep θ G Z' H (ρ.set i (some (p, .val (.list ds)))) σ L' ∧ Dz Z' G.K H (.list ds) v ∧ Step Z L H Z' L' H ∧ ∀ b ∈ L', b ∈ L := by
  obtain ⟨L1, F, L2, x, rfl, e2, h, put⟩ := r.put e
  cases h with
  | yes h =>
    obtain ⟨a, xs, rfl, rfl, ea, dz⟩ := h.single
    have n := List.nodup_append.mp r.nd
    have n2 := List.nodup_append.mp n.2.1
    have ha : a ∈ L1 ++ ([a] ++ L2) := List.mem_append_right _ (List.mem_append_left _ List.mem_cons_self)
    have dz' : Dz (ZAdd Z a) G.K H (.list ds) (.ref a) := .lst (.inr rfl) ea (dz.kp kp_add)
    have sub : ∀ b ∈ L1 ++ ([] ++ L2), b ∈ L1 ++ ([a] ++ L2) := fun b hb => by
      rcases List.mem_append.mp hb with hb | hb
      · exact List.mem_append_left _ hb
      · exact List.mem_append_right _ (List.mem_append_right _ hb)
    have nA : ∀ b ∈ L1 ++ L2, b ≠ a := fun b hb q => by
      subst q
      rcases List.mem_append.mp hb with hb | hb
      · exact n.2.2 b hb b (List.mem_append_left _ List.mem_cons_self) rfl
      · exact n2.2.2 b List.mem_cons_self b hb rfl
    have rp := put (Z' := ZAdd Z a) (H' := H) (sl' := some (p, .val (.list ds))) (x' := some (.ref a)) (F' := []) kp_add (fun _ _ _ q => q) (.yes (.val dz')) List.nodup_nil (fun _ q => by cases q) (fun _ q => by cases q)
      (fun b hb z => by
        rcases z with z | z
        · exact r.dis b (sub b (by simpa using hb)) z
        · exact nA b hb z)
      (fun b z => by
        rcases z with z | z
        · exact r.zd b z
        · subst z; rw [ea]; intro q; cases q)
      (fun o q => by
        cases q
        have := r.pn i _ e
        rw [e2] at this
        exact Option.some.inj this)
    rw [set_back e2] at rp
    exact ⟨ZAdd Z a, _, _, e2, rp, dz', step_add ha sub, sub⟩
theorem Held.one (h : Held G Z H σ L [.tmp o] [v] F) : Ro G Z H o v F := by
  have h1 := h.ok
  cases h1 with
  | tmp h5 t5 =>
    cases t5
    rw [List.append_nil]
    exact h5
theorem Held.nm {j : Nat} (h : Held G Z H σ L [.nm j] [v] F) : F = [] ∧ σ[j]? = some (some v) := by
  have h1 := h.ok
  cases h1 with
  | nm h5 t5 =>
    cases t5
    exact ⟨rfl, h5⟩
theorem Held.tmp {o : O} (h : Ro G Z H o v F) (nd : (F ++ L).Nodup) (dis : ∀ a ∈ F, ¬ Z a) : Held G Z H σ L [.tmp o] [v] F := by
  have h3 : OpsOk G Z H σ [.tmp o] [v] (F ++ []) := .tmp h .nil
  rw [List.append_nil] at h3
  exact ⟨h3, nd, dis⟩
/-- an operand is handed over -/
theorem take_ok {p : Opd} {o : O} {ρ' : En} (r : Rep θ G Z H ρ σ L) (h : Held G Z H σ L [p] [v] F) (e : take ρ p = some (o, ρ')) :
    ∃ Z' L' F', Rep θ G Z' H ρ' σ L' ∧ Held G Z' H σ L' [.tmp o] [v] F' ∧ Step Z (F ++ L) H Z' (F' ++ L') H := by
  cases p with
  | tmp o' =>
    simp only [take, Option.some.injEq, Prod.mk.injEq] at e
    obtain ⟨rfl, rfl⟩ := e
    exact ⟨Z, L, F, r, h, Step.refl⟩
  | nm j =>
    obtain ⟨rfl, hv⟩ := h.nm
    simp only [take] at e
    split at e
    · rename_i d e1
      cases e
      obtain ⟨F0, h0⟩ := r.look e1 hv
      cases h0 with
      | val h0 => exact ⟨Z, L, [], r, .tmp (.val h0) r.nd (fun _ q => by cases q), Step.refl⟩
    · rename_i ns e1
      cases e
      obtain ⟨F0, h0⟩ := r.look e1 hv
      cases h0 with
      | scr h0 => exact ⟨Z, L, [], r, .tmp (.scr h0) r.nd (fun _ q => by cases q), Step.refl⟩
    · rename_i ds e1
      cases e
      obtain ⟨p, e1⟩ := slotO_some e1
      obtain ⟨Z', L', v', q1, q2, q3, q4, _⟩ := r.frz e1
      rw [hv] at q1
      cases q1
      rw [frz_eq e1]
      exact ⟨Z', L', [], q2, .tmp (.val q3) q2.nd (fun _ q => by cases q), q4⟩
    · cases e
theorem tmp_frz {ds : List D} (r : Rep θ G Z H ρ σ L) (h : Held G Z H σ L [.tmp (.lst ds)] [v] F) : ∃ Z', Rep θ G Z' H ρ σ L ∧ Dz Z' G.K H (.list ds) v ∧ Step Z (F ++ L) H Z' L H := by
  obtain ⟨a, xs, rfl, rfl, ea, dz⟩ := h.one.single
  have nL : a ∉ L := fun hl => (List.nodup_append.mp h.nd).2.2 a List.mem_cons_self a hl rfl
  refine ⟨ZAdd Z a, ⟨r.sl.kp kp_add fun _ _ _ q => q, r.nd, fun b hb z => ?_, fun b z => ?_, r.pn⟩, .lst (.inr rfl) ea (dz.kp kp_add), step_add (by simp) fun b hb => List.mem_append_right _ hb⟩
  · rcases z with z | z
    · exact r.dis b hb z
    · subst z; exact nL hb
  · rcases z with z | z
    · exact r.zd b z
    · subst z; rw [ea]; intro q; cases q
theorem give_ok {p : Opd} {d : D} {ρ' : En} (r : Rep θ G Z H ρ σ L) (h : Held G Z H σ L [p] [v] F) (e : give ρ p = some (d, ρ')) :
    ∃ Z' L', Rep θ G Z' H ρ' σ L' ∧ Dz Z' G.K H d v ∧ Step Z (F ++ L) H Z' L' H := by
  unfold give at e
  split at e
  · rename_i d' ρ1 e1
    cases e
    obtain ⟨Z', L', F', r1, h1, s1⟩ := take_ok r h e1
    have h2 := h1.one
    cases h2 with
    | val h2 => exact ⟨Z', L', r1, h2, s1⟩
  · rename_i ds ρ1 e1
    cases e
    obtain ⟨Z', L', F', r1, h1, s1⟩ := take_ok r h e1
    obtain ⟨Z2, r2, d2, s2⟩ := tmp_frz r1 h1
    exact ⟨Z2, L', r2, d2, s1.trans s2⟩
  · cases e
theorem OpsOk.cons_split {p : Opd} (h : OpsOk G Z H σ (p :: ps) (v :: vs) F) : ∃ F1 F2, F = F1 ++ F2 ∧ OpsOk G Z H σ [p] [v] F1 ∧ OpsOk G Z H σ ps vs F2 := by
  cases h with
  | tmp h t => exact ⟨_, _, rfl, by have h3 : OpsOk G Z H σ [.tmp _] [v] (_ ++ []) := .tmp h .nil
                                    rw [List.append_nil] at h3
                                    exact h3, t⟩
  | nm h t => exact ⟨[], _, rfl, .nm h .nil, t⟩
theorem Held.mut (h : Held G Z H σ L ps vs F) (r : Rep θ G Z H ρ σ L) : (∀ a ∈ F ++ L, Mut (H a)) ∧ ∀ a ∈ F ++ L, ¬ Z a :=
  ⟨fun a ha => (List.mem_append.mp ha).elim (h.ok.mut a) (r.sl.mut a), fun a ha => (List.mem_append.mp ha).elim (h.dis a) (r.dis a)⟩
theorem gives_ok : ∀ {ps : List Opd} {vs : List V} {ds : List D} {ρ ρ' : En} {Z : Zs} {L F : List Addr}, Rep θ G Z H ρ σ L → Held G Z H σ L ps vs F → gives ρ ps = some (ds, ρ') →
    ∃ Z' L', Rep θ G Z' H ρ' σ L' ∧ DzA Z' G.K H ds vs ∧ Step Z (F ++ L) H Z' L' H
  | [], vs, ds, ρ, ρ', Z, L, F, r, h, e => by
    simp only [gives, Option.some.injEq, Prod.mk.injEq] at e
    obtain ⟨rfl, rfl⟩ := e
    have h1 := h.ok
    cases h1
    exact ⟨Z, L, r, .nil, Step.refl⟩
  | p :: ps, vs, ds, ρ, ρ', Z, L, F, r, h, e => by
    unfold gives at e
    split at e
    · rename_i d ρ1 e1
      split at e
      · rename_i ds' ρ2 e2
        cases e
        have ho := h.ok
        cases vs with
        | nil => cases ho
        | cons v vs =>
          obtain ⟨F1, F2, rfl, o1, o2⟩ := ho.cons_split
          have nd := h.nd
          rw [List.append_assoc] at nd
          have n1 := List.nodup_append.mp nd
          have n2 := List.nodup_append.mp n1.2.1
          have h1 : Held G Z H σ L [p] [v] F1 := ⟨o1, List.nodup_append.mpr ⟨n1.1, r.nd, fun a ha b hb => n1.2.2 a ha b (List.mem_append_right _ hb)⟩, fun a ha => h.dis a (List.mem_append_left _ ha)⟩
          have h2 : Held G Z H σ (F1 ++ L) ps vs F2 := ⟨o2, List.nodup_append.mpr ⟨n2.1, h1.nd, fun a ha b hb q => (List.mem_append.mp hb).elim (fun hb => n1.2.2 b hb a (List.mem_append_left _ ha) q.symm) (fun hb => n2.2.2 a ha b hb q)⟩, fun a ha => h.dis a (List.mem_append_right _ ha)⟩
          obtain ⟨Z1, L1, r1, d1, s1⟩ := give_ok r h1 e1
          obtain ⟨mu, dz⟩ := h1.mut r
          have h3 := h2.carryM mu dz s1 r1.nd
          obtain ⟨Z2, L2, r2, d2, s2⟩ := gives_ok r1 h3 e2
          obtain ⟨mu3, dz3⟩ := h3.mut r1
          have s1' : Step Z (F1 ++ F2 ++ L) H Z1 (F2 ++ L1) H := ⟨fun a o q _ => q, s1.zmono, fun a z => by
            rcases s1.znew a z with q | q | q
            · exact .inl q
            · exact .inr (.inl ((List.mem_append.mp q).elim (fun q => List.mem_append_left _ (List.mem_append_left _ q)) (fun q => List.mem_append_right _ q)))
            · exact .inr (.inr q), fun a ha => by
            rcases List.mem_append.mp ha with ha | ha
            · exact .inl (List.mem_append_left _ (List.mem_append_right _ ha))
            · rcases s1.lnew a ha with q | q
              · exact .inl ((List.mem_append.mp q).elim (fun q => List.mem_append_left _ (List.mem_append_left _ q)) (fun q => List.mem_append_right _ q))
              · exact .inr q⟩
          exact ⟨Z2, L2, r2, .cons (d1.kp (s2.kp mu3 dz3)) d2, s1'.trans s2⟩
      · cases e
    · cases e
end
end Eng
set_option maxHeartbeats 1000000
/-! The engine, part 10: displays, tests, values by truth, slices, methods that tell. -/
namespace Eng
open PySem PySem.Spec L2
open PyProof.Rows hiding St

section
variable {X : Cx} {ca : Nat → Addr} {W : WX} {f g h : ES} {fs : AS} {t u : TS'}
theorem RdA.mono {σ : L2.St} {H : Hp} {Q Q' : List V → Hp → Prop} (h : RdA X ca W fs σ H Q) (i : ∀ v H, Q v H → Q' v H) : RdA X ca W fs σ H Q' := by
  obtain ⟨θ, Z, ρ, L, r, q⟩ := h
  refine ⟨θ, Z, ρ, L, r, ?_⟩
  cases e : fs ρ with
  | stuck => rw [e] at q; exact q
  | exc c ρ1 => rw [e] at q; exact q
  | ok p ρ1 => rw [e] at q; exact fun Z1 H1 L1 F v r1 h1 s1 => i _ _ (q Z1 H1 L1 F v r1 h1 s1)
theorem RdT.mono {σ : L2.St} {H : Hp} {Q Q' : Bool → Hp → Prop} (h : RdT X ca W t σ H Q) (i : ∀ v H, Q v H → Q' v H) : RdT X ca W t σ H Q' := by
  obtain ⟨θ, Z, ρ, L, r, q⟩ := h
  refine ⟨θ, Z, ρ, L, r, ?_⟩
  cases e : t ρ with
  | stuck => rw [e] at q; exact q
  | exc c ρ1 => rw [e] at q; exact q
  | ok p ρ1 => rw [e] at q; exact fun Z1 H1 L1 r1 s1 => i _ _ (q Z1 H1 L1 r1 s1)
variable {θ : Nat → V} {Z Z1 : Zs} {L L1 F : List Addr} {H H1 : Hp} {σ : L2.St} {ρ ρ1 : En}
theorem PoE.step {Q : VK} {o : Out Opd} (q : PoE X ca W θ Z L H σ Q o) (s : Step Z L H Z1 L1 H1) : PoE X ca W θ Z1 L1 H1 σ Q o := by
  cases o with
  | stuck => exact q
  | exc c ρ1 => exact fun Z' H' L' r s' => q Z' H' L' r (s.trans s')
  | ok p ρ1 => exact fun Z' H' L' F v r h s' => q Z' H' L' F v r h (s.trans s')
theorem PoT.step {Q : Bool → Hp → Prop} {o : Out Bool} (q : PoT X ca W θ Z L H σ Q o) (s : Step Z L H Z1 L1 H1) : PoT X ca W θ Z1 L1 H1 σ Q o := by
  cases o with
  | stuck => exact q
  | exc c ρ1 => exact fun Z' H' L' r s' => q Z' H' L' r (s.trans s')
  | ok p ρ1 => exact fun Z' H' L' r s' => q Z' H' L' r (s.trans s')
theorem PoA.step {Q : List V → Hp → Prop} {o : Out (List Opd)} (q : PoA X ca W θ Z L H σ Q o) (s : Step Z L H Z1 L1 H1) : PoA X ca W θ Z1 L1 H1 σ Q o := by
  cases o with
  | stuck => exact q
  | exc c ρ1 => exact fun Z' H' L' r s' => q Z' H' L' r (s.trans s')
  | ok p ρ1 => exact fun Z' H' L' F v r h s' => q Z' H' L' F v r h (s.trans s')
/-- an expression, then what comes behind -/
theorem rd_bindE {α : Type} {k : Opd → En → Out α} {P : Out α → Prop} {Q : VK} (r : Rep θ (gx X ca) Z H ρ σ L) (hs : P .stuck → False) (hx : ∀ c ρ', P (.exc c ρ') → ∀ Z' H' L', Rep θ (gx X ca) Z' H' ρ' σ L' → Step Z L H Z' L' H' → W (.ref (ca c)) none σ H')
    (q : P ((f ρ).bind k)) (go : ∀ p ρ1 Z1 H1 L1 F v, P (k p ρ1) → Rep θ (gx X ca) Z1 H1 ρ1 σ L1 → Held (gx X ca) Z1 H1 σ L1 [p] [v] F → Step Z L H Z1 (F ++ L1) H1 → Q v H1) : RdE X ca W f σ H Q := by
  refine ⟨θ, Z, ρ, L, r, ?_⟩
  cases e : f ρ with
  | stuck => rw [e] at q; exact (hs q).elim
  | exc c ρ1 => rw [e] at q; exact hx c ρ1 q
  | ok p ρ1 => rw [e] at q; exact fun Z1 H1 L1 F v r1 h1 s1 => go p ρ1 Z1 H1 L1 F v q r1 h1 s1
theorem rd_bindT {α : Type} {k : Bool → En → Out α} {P : Out α → Prop} {Q : Bool → Hp → Prop} (r : Rep θ (gx X ca) Z H ρ σ L) (hs : P .stuck → False) (hx : ∀ c ρ', P (.exc c ρ') → ∀ Z' H' L', Rep θ (gx X ca) Z' H' ρ' σ L' → Step Z L H Z' L' H' → W (.ref (ca c)) none σ H')
    (q : P ((t ρ).bind k)) (go : ∀ b ρ1 Z1 H1 L1, P (k b ρ1) → Rep θ (gx X ca) Z1 H1 ρ1 σ L1 → Step Z L H Z1 L1 H1 → Q b H1) : RdT X ca W t σ H Q := by
  refine ⟨θ, Z, ρ, L, r, ?_⟩
  cases e : t ρ with
  | stuck => rw [e] at q; exact (hs q).elim
  | exc c ρ1 => rw [e] at q; exact hx c ρ1 q
  | ok b ρ1 => rw [e] at q; exact fun Z1 H1 L1 r1 s1 => go b ρ1 Z1 H1 L1 q r1 s1

/-! ### displays -/
def fin1 (k : List D → Option O) (as : AS) : ES := fun ρ => (as ρ).bind fun ps ρ1 => match gives ρ1 ps with
  | some (ds, ρ2) => put ρ2 (k ds)
  | none => .stuck
def oLst (as : AS) : ES := fin1 (fun ds => if ds.length ≤ 1000 then some (.lst ds) else none) as
def oTup (as : AS) : ES := fin1 (fun ds => if ds.length ≤ 1000 then some (.val (.tuple ds)) else none) as
def oDic0 : ES := fun ρ => .ok (.tmp (.dic [])) ρ
theorem rd_fin1 {k : List D → Option O} {Q : VK} (h : RdE X ca W (fin1 k fs) σ H Q) : RdA X ca W fs σ H fun vs H1 => ∃ Z ds o, (∀ a, Z a → H1 a ≠ none) ∧ DzA Z X.K H1 ds vs ∧ k ds = some o ∧ ∀ v H' F, Al (gx X ca) Z H1 o v H' F → Q v H' := by
  obtain ⟨θ, Z, ρ, L, r, q⟩ := h
  refine ⟨θ, Z, ρ, L, r, ?_⟩
  unfold fin1 at q
  cases e : fs ρ with
  | stuck => rw [e] at q; exact q
  | exc c ρ1 => rw [e] at q; exact q
  | ok ps ρ1 =>
    rw [e] at q
    simp only [bind_ok] at q
    intro Z1 H1 L1 F vs r1 h1 s1
    cases e2 : gives ρ1 ps with
    | none => rw [e2] at q; exact q.elim
    | some dr =>
      obtain ⟨ds, ρ2⟩ := dr
      rw [e2] at q
      obtain ⟨Z2, L2, r2, d2, s2⟩ := gives_ok r1 h1 e2
      cases e3 : k ds with
      | none => simp only [e3, Eng.put] at q; exact q.elim
      | some o =>
        simp only [e3, Eng.put] at q
        exact ⟨Z2, ds, o, r2.zd, d2, e3, fun v H' F' x => q Z2 H' L2 F' v (x.rep r2) (x.held r2) ((s1.trans s2).trans x.step)⟩
theorem se_lst {es : List Expr} {pos : Pos} (ha : PA X es (RdA X ca W fs)) : PE X (.List es pos) (RdE X ca W (oLst fs)) := PE.imp (pe_lst ha) fun σ H Q h => (rd_fin1 h).mono fun vs H1 ⟨Z, ds, o, zd, dz, e, q⟩ => by
  split at e
  · rename_i hc
    cases e
    exact ⟨by rw [dz.length]; exact Nat.le_trans hc (by decide), fun p np => q _ _ _ (Al.lst (G := gx X ca) dz np)⟩
  · cases e
theorem se_tup {es : List Expr} {k : Nat} {pos : Pos} (ha : PA X es (RdA X ca W fs)) : PE X (.Tuple es k pos) (RdE X ca W (oTup fs)) := PE.imp (pe_tup ha) fun σ H Q h => (rd_fin1 h).mono fun vs H1 ⟨Z, ds, o, zd, dz, e, q⟩ => by
  split at e
  · rename_i hc
    cases e
    exact ⟨by rw [dz.length]; exact Nat.le_trans hc (by decide), fun p np => q _ _ _ (Al.tup (G := gx X ca) dz np)⟩
  · cases e
theorem Al.dic0 {p : Addr} (np : H p = none) : Al (gx X ca) Z H (.dic []) (.ref p) (upd H p (.dK [])) [p] :=
  ⟨same_new np, .dic upd_same .nil .nil List.nodup_nil, by simp, fun a ha => by
    rw [List.mem_singleton] at ha
    rw [ha]; exact np⟩
theorem se_dic0 {pos : Pos} : PE X (.Dict [] [] pos) (RdE X ca W oDic0) := PE.imp pe_dnewK fun σ H Q ⟨θ, Z, ρ, L, r, q⟩ => fun p np => by
  have x := Al.dic0 (X := X) (ca := ca) (Z := Z) np
  exact q Z _ L [p] _ (x.rep r) (x.held r) x.step

/-! ### tests -/
def tV (f : ES) : TS' := fun ρ => (f ρ).bind fun p ρ1 => match look ρ1 p with
  | some (.val (.bool b)) => .ok b ρ1
  | _ => .stuck
def tNotC (t : TS') : TS' := fun ρ => (t ρ).bind fun b ρ1 => .ok (!b) ρ1
def tAndC (t u : TS') : TS' := fun ρ => (t ρ).bind fun b ρ1 => if b = true then u ρ1 else .ok false ρ1
def tOrC (t u : TS') : TS' := fun ρ => (t ρ).bind fun b ρ1 => if b = true then .ok true ρ1 else u ρ1
def oT (t : TS') : ES := fun ρ => (t ρ).bind fun b ρ1 => .ok (.tmp (.val (.bool b))) ρ1
def oNot (f : ES) : ES := oT (tNotC (tV f))
def oAnd (f g : ES) : ES := fun ρ => (tV f ρ).bind fun b ρ1 => if b = true then g ρ1 else .ok (.tmp (.val (.bool false))) ρ1
def oOr (f g : ES) : ES := fun ρ => (tV f ρ).bind fun b ρ1 => if b = true then .ok (.tmp (.val (.bool true))) ρ1 else g ρ1
def oIf (t : TS') (f g : ES) : ES := fun ρ => (t ρ).bind fun b ρ1 => if b = true then f ρ1 else g ρ1
theorem look_ok {p : Opd} {o : O} {v : V} (r : Rep θ (gx X ca) Z H ρ σ L) (h : Held (gx X ca) Z H σ L [p] [v] F) (e : look ρ p = some o) : Rb (gx X ca) Z H o v := by
  have := h.ok.looks r (os := [o]) (by simp [looks, e])
  exact pair1 this
theorem out_tV (o : Out Opd) (P : Out Bool → Prop) (hs : P .stuck → False) (q : P (o.bind fun p ρ1 => match look ρ1 p with | some (.val (.bool b)) => .ok b ρ1 | _ => .stuck)) :
    (∃ p ρ1 b, o = .ok p ρ1 ∧ look ρ1 p = some (.val (.bool b)) ∧ P (.ok b ρ1)) ∨ ∃ c ρ1, o = .exc c ρ1 ∧ P (.exc c ρ1) := by
  cases o with
  | stuck => exact (hs q).elim
  | exc c ρ1 => exact .inr ⟨c, ρ1, rfl, q⟩
  | ok p ρ1 =>
    simp only [bind_ok] at q
    split at q
    · rename_i b e
      exact .inl ⟨p, ρ1, b, rfl, e, q⟩
    · exact (hs q).elim
theorem rd_tV {Q : Bool → Hp → Prop} (h : RdT X ca W (tV f) σ H Q) : RdE X ca W f σ H fun x H1 => ∃ k, x = .bl k ∧ Q k H1 := by
  obtain ⟨θ, Z, ρ, L, r, q⟩ := h
  refine ⟨θ, Z, ρ, L, r, ?_⟩
  rcases out_tV (f ρ) (PoT X ca W θ Z L H σ Q) (fun h => h) q with ⟨p, ρ1, b, e, e2, q⟩ | ⟨c, ρ1, e, q⟩
  · rw [e]
    intro Z1 H1 L1 F v r1 h1 s1
    exact ⟨b, rb_bl (look_ok r1 h1 e2), q Z1 H1 L1 r1 (s1.sub fun a h => List.mem_append_right _ h)⟩
  · rw [e]; exact q
theorem st_val {e : Expr} (h : PE X e (RdE X ca W f)) (he : ∀ whole, isTrue e X.env whole = (do let v ← whole; standAt e.pos; holding [v] (truthy v))) : PT X e (RdT X ca W (tV f)) := PT.imp (pt_val h he) fun σ H Q h => rd_tV h
theorem st_cmp {a b : Expr} {pos : Pos} {sem : O → O → Option O} {op : CmpOp} (ho : BinS X ca (compareOp op) sem) (ha : PE X a (RdE X ca W f)) (hb : PE X b (RdE X ca W g)) (hm : behindInMarks op b = false) : PT X (.Compare a [op] [b] pos) (RdT X ca W (tV (o2 sem f g))) :=
  PT.imp (pt_cmpR ho ha hb hm) fun σ H Q h => rd_o2 (rd_tV h)
theorem st_not {a : Expr} {pos : Pos} (h : PT X a (RdT X ca W t)) : PT X (.UnaryOp .Not a pos) (RdT X ca W (tNotC t)) := PT.imp (pt_not h) fun σ H Q ⟨θ, Z, ρ, L, r, q⟩ =>
  rd_bindT (P := PoT X ca W θ Z L H σ Q) r (fun h => h) (fun c ρ' h => h) q fun b ρ1 Z1 H1 L1 q r1 s1 => q Z1 H1 L1 r1 s1
theorem st_and1 {a : Expr} {pos : Pos} (h : PT X a (RdT X ca W t)) : PW X (.BoolOp .And [a] pos) (RdT X ca W t) := pw_and1 h
theorem st_or1 {a : Expr} {pos : Pos} (h : PT X a (RdT X ca W t)) : PW X (.BoolOp .Or [a] pos) (RdT X ca W t) := pw_or1 h
theorem st_and {a b : Expr} {rest : List Expr} {pos : Pos} (ha : PT X a (RdT X ca W t)) (hb : PW X (.BoolOp .And (b :: rest) pos) (RdT X ca W u)) : PW X (.BoolOp .And (a :: b :: rest) pos) (RdT X ca W (tAndC t u)) :=
  PW.imp (pw_and ha hb) fun σ H Q ⟨θ, Z, ρ, L, r, q⟩ => rd_bindT (P := PoT X ca W θ Z L H σ Q) r (fun h => h) (fun c ρ' h => h) q fun b ρ1 Z1 H1 L1 q r1 s1 => by
    cases b with
    | true => exact ⟨θ, Z1, ρ1, L1, r1, PoT.step (by simpa using q) s1⟩
    | false => exact (show PoT X ca W θ Z L H σ Q (.ok false ρ1) by simpa using q) Z1 H1 L1 r1 s1
theorem st_or {a b : Expr} {rest : List Expr} {pos : Pos} (ha : PT X a (RdT X ca W t)) (hb : PW X (.BoolOp .Or (b :: rest) pos) (RdT X ca W u)) : PW X (.BoolOp .Or (a :: b :: rest) pos) (RdT X ca W (tOrC t u)) :=
  PW.imp (pw_or ha hb) fun σ H Q ⟨θ, Z, ρ, L, r, q⟩ => rd_bindT (P := PoT X ca W θ Z L H σ Q) r (fun h => h) (fun c ρ' h => h) q fun b ρ1 Z1 H1 L1 q r1 s1 => by
    cases b with
    | true => exact (show PoT X ca W θ Z L H σ Q (.ok true ρ1) by simpa using q) Z1 H1 L1 r1 s1
    | false => exact ⟨θ, Z1, ρ1, L1, r1, PoT.step (by simpa using q) s1⟩
theorem fin_bool {Q : VK} {b : Bool} (q : PoE X ca W θ Z L H σ Q (.ok (.tmp (.val (.bool b))) ρ1)) (r1 : Rep θ (gx X ca) Z1 H1 ρ1 σ L1) (s1 : Step Z L H Z1 L1 H1) : Q (.bl b) H1 :=
  q Z1 H1 L1 [] (.bl b) r1 ((Al.val (G := gx X ca) (.bl b)).held r1) s1
theorem se_one {op : BoolOp} {a : Expr} {pos : Pos} (h : PE X a (RdE X ca W f)) : PE X (.BoolOp op [a] pos) (RdE X ca W f) := pe_one h
theorem se_and {a b : Expr} {rest : List Expr} {pos : Pos} (ha : PE X a (RdE X ca W f)) (hb : PE X (.BoolOp .And (b :: rest) pos) (RdE X ca W g)) : PE X (.BoolOp .And (a :: b :: rest) pos) (RdE X ca W (oAnd f g)) :=
  PE.imp (pe_and ha hb) fun σ H Q ⟨θ, Z, ρ, L, r, q⟩ => by
    refine rd_tV (f := f) (rd_bindT (P := PoE X ca W θ Z L H σ Q) r (fun h => h) (fun c ρ' h => h) q fun b ρ1 Z1 H1 L1 q r1 s1 => ?_)
    cases b with
    | true => exact ⟨θ, Z1, ρ1, L1, r1, PoE.step (by simpa using q) s1⟩
    | false => exact fin_bool (by simpa using q) r1 s1
theorem se_or {a b : Expr} {rest : List Expr} {pos : Pos} (ha : PE X a (RdE X ca W f)) (hb : PE X (.BoolOp .Or (b :: rest) pos) (RdE X ca W g)) : PE X (.BoolOp .Or (a :: b :: rest) pos) (RdE X ca W (oOr f g)) :=
  PE.imp (pe_or ha hb) fun σ H Q ⟨θ, Z, ρ, L, r, q⟩ => by
    refine rd_tV (f := f) (rd_bindT (P := PoE X ca W θ Z L H σ Q) r (fun h => h) (fun c ρ' h => h) q fun b ρ1 Z1 H1 L1 q r1 s1 => ?_)
    cases b with
    | true => exact fin_bool (by simpa using q) r1 s1
    | false => exact ⟨θ, Z1, ρ1, L1, r1, PoE.step (by simpa using q) s1⟩
/-! ### one operand -/
def o1 (sem : O → Option O) (f : ES) : ES := oF (one sem) (oAs [f])
theorem rd_o1 {sem : O → Option O} {Q : VK} (h : RdE X ca W (o1 sem f) σ H Q) : RdE X ca W f σ H fun x H1 => RSem (X := X) (ca := ca) (one sem) [x] H1 Q := rdA_one (rd_oF h)
def negS : O → Option O
  | .val (.int i) => some (.val (.int (-i)))
  | _ => none
theorem rsem1 {sem : O → Option O} {x : V} {Q : VK} (h : RSem (X := X) (ca := ca) (one sem) [x] H Q) : ∃ Z a o, (∀ a, Z a → H a ≠ none) ∧ Rb (gx X ca) Z H a x ∧ sem a = some o ∧ ∀ v H' F, Al (gx X ca) Z H o v H' F → Q v H' := by
  obtain ⟨Z, os, o, zd, hp, e, q⟩ := h
  obtain ⟨a, rfl, e⟩ := one_some e
  exact ⟨Z, a, o, zd, pair1 hp, e, q⟩
theorem se_neg {a : Expr} {pos : Pos} (h : PE X a (RdE X ca W f)) : PE X (.UnaryOp .USub a pos) (RdE X ca W (o1 negS f)) := PE.imp (pe_un un_neg h) fun σ H Q h => (rd_o1 h).mono fun x H1 h => by
  obtain ⟨Z, a, o, zd, ha, e, q⟩ := rsem1 h
  unfold negS at e
  split at e
  · cases e
    cases rb_int ha
    exact ⟨_, rfl, q _ _ [] (Al.val (.int _))⟩
  · cases e

/-! ### slices -/
abbrev OS := En → Out (Option Int)
def oNoPart : OS := fun ρ => .ok none ρ
def oPart (f : ES) : OS := fun ρ => (f ρ).bind fun p ρ1 => match look ρ1 p with
  | some (.val (.int i)) => .ok (some i) ρ1
  | _ => .stuck
def oSl (f : ES) (lo hi : OS) : ES := fun ρ => (f ρ).bind fun p ρ1 => (lo ρ1).bind fun l ρ2 => (hi ρ2).bind fun h ρ3 => match look ρ3 p with
  | some o => put ρ3 (slS l h o)
  | none => .stuck
def PoO (θ : Nat → V) (Z : Zs) (L : List Addr) (H : Hp) (σ : L2.St) (Q : Option Int → Hp → Prop) : Out (Option Int) → Prop
  | .ok b ρ' => ∀ Z' H' L', Rep θ (gx X ca) Z' H' ρ' σ L' → Step Z L H Z' L' H' → Q b H'
  | .exc c ρ' => ∀ Z' H' L', Rep θ (gx X ca) Z' H' ρ' σ L' → Step Z L H Z' L' H' → W (.ref (ca c)) none σ H'
  | .stuck => False
def RdO (X : Cx) (ca : Nat → Addr) (W : WX) (f : OS) : TO := fun σ H Q => ∃ θ Z ρ L, Rep θ (gx X ca) Z H ρ σ L ∧ PoO (X := X) (ca := ca) (W := W) θ Z L H σ Q (f ρ)
theorem PO.imp {e : Option Expr} {t t' : TO} (h : PO X e t) (i : ∀ σ H Q, t' σ H Q → t σ H Q) : PO X e t' := ⟨fun pins s σ H Q I q => h.run pins s σ H Q I (i σ H Q q)⟩
theorem so_none : PO X none (RdO X ca W oNoPart) := PO.imp po_none fun σ H Q ⟨θ, Z, ρ, L, r, q⟩ => q Z H L r Step.refl
theorem so_some {e : Expr} (h : PE X e (RdE X ca W f)) : PO X (some e) (RdO X ca W (oPart f)) := PO.imp (po_some h) fun σ H Q ⟨θ, Z, ρ, L, r, q⟩ =>
  rd_bindE (P := PoO (X := X) (ca := ca) (W := W) θ Z L H σ Q) r (fun h => h) (fun c ρ' h => h) q fun p ρ1 Z1 H1 L1 F v q r1 h1 s1 => by
    split at q
    · rename_i i e
      exact ⟨i, rb_int (look_ok r1 h1 e), q Z1 H1 L1 r1 (s1.sub fun a h => List.mem_append_right _ h)⟩
    · exact q.elim
theorem sl_any : SlR X (fun x l h H Q => RSem (X := X) (ca := ca) (one (slS l h)) [x] H Q) := fun pins s σ H x v vl vu lo hi sl Q I rx hs pl pu q =>
  sl_all (lo := lo) (hi := hi) pins s σ H x v vl vu lo hi sl Q I rx hs pl pu ⟨rfl, rfl, q⟩
/-- a part, while F is held aside -/
theorem rd_part {p : Opd} {v : V} {lo : OS} {k : Option Int → En → Out Opd} {Q : VK} {Q1 : Option Int → Hp → Prop} {Z0 : Zs} {L0 : List Addr} {H0 : Hp} (r : Rep θ (gx X ca) Z H ρ σ L) (h : Held (gx X ca) Z H σ L [p] [v] F) (s : Step Z0 L0 H0 Z (F ++ L) H)
    (q : PoE X ca W θ Z0 L0 H0 σ Q ((lo ρ).bind k)) (go : ∀ b ρ1 Z1 H1 L1, PoE X ca W θ Z0 L0 H0 σ Q (k b ρ1) → Rep θ (gx X ca) Z1 H1 ρ1 σ L1 → Held (gx X ca) Z1 H1 σ L1 [p] [v] F → Step Z0 L0 H0 Z1 (F ++ L1) H1 → Q1 b H1) : RdO X ca W lo σ H Q1 := by
  refine ⟨θ, Z, ρ, L, r, ?_⟩
  cases e : lo ρ with
  | stuck => rw [e] at q; exact q
  | exc c ρ1 => rw [e] at q; exact fun Z' H' L' r' s' => q Z' H' L' r' ((s.sub fun a h => List.mem_append_right _ h).trans s')
  | ok b ρ1 =>
    rw [e] at q
    intro Z1 H1 L1 r1 s1
    exact go b ρ1 Z1 H1 L1 q r1 (h.carryM r.sl.mut r.dis s1 r1.nd) (s.then s1)
theorem se_slice {e : Expr} {a b : Option Expr} {lo hi : OS} {p2 pos : Pos} (he : PE X e (RdE X ca W f)) (hl : PO X a (RdO X ca W lo)) (hu : PO X b (RdO X ca W hi)) : PE X (.Subscript e (.Slice a b none p2) pos) (RdE X ca W (oSl f lo hi)) :=
  PE.imp (pe_slice (sl_any (ca := ca)) he hl hu) fun σ H Q ⟨θ, Z, ρ, L, r, q⟩ => rd_bindE (P := PoE X ca W θ Z L H σ Q) r (fun h => h) (fun c ρ' h => h) q fun p ρ1 Z1 H1 L1 F v q r1 h1 s1 =>
    rd_part r1 h1 s1 q fun l ρ2 Z2 H2 L2 q r2 h2 s2 => rd_part r2 h2 s2 q fun h ρ3 Z3 H3 L3 q r3 h3 s3 => by
      split at q
      · rename_i o e
        cases e3 : slS l h o with
        | none => simp only [e3, Eng.put] at q; exact q.elim
        | some o' =>
          simp only [e3, Eng.put] at q
          exact ⟨Z3, [o], o', r3.zd, .cons (look_ok r3 h3 e) .nil, e3, fun v H' F' x => q Z3 H' L3 F' v (x.rep r3) (x.held r3) ((s3.sub fun a h => List.mem_append_right _ h).trans x.step)⟩
      · exact q.elim

/-! ### a text's methods -/
def asStrs : List D → Option (List Str)
  | [] => some []
  | .str b :: ds => (asStrs ds).map (b :: ·)
  | _ :: _ => none
theorem asStrs_eq : ∀ {ds : List D} {bs : List Str}, asStrs ds = some bs → ds = bs.map PyData.str
  | [], bs, e => by simp only [asStrs, Option.some.injEq] at e; subst e; rfl
  | .str b :: ds, bs, e => by
    simp only [asStrs, Option.map_eq_some_iff] at e
    obtain ⟨cs, e1, rfl⟩ := e
    rw [asStrs_eq e1]; rfl
  | .none :: _, _, e => by cases e
  | .bool _ :: _, _, e => by cases e
  | .int _ :: _, _, e => by cases e
  | .list _ :: _, _, e => by cases e
  | .tuple _ :: _, _, e => by cases e
  | .dict _ :: _, _, e => by cases e
@[simp] theorem asStrs_map (bs : List Str) : asStrs (bs.map PyData.str) = some bs := by
  induction bs with
  | nil => rfl
  | cons b bs ih => simp [asStrs, ih]
def joinS (a : Str) (o : O) : Option O := o.seq?.bind fun ds => (asStrs ds).bind fun ys => if (ys.map (·.length)).sum + ys.length * a.length ≤ 16777216 then some (.val (.str (Txt.join a ys))) else none
def splitS (a : Str) : O → Option O
  | .val (.str b) => if (b.length == 0) = false ∧ a.length + 2 ≤ sizeLine then some (.lst ((Txt.split a b).map PyData.str)) else none
  | _ => none
def oM1 (sem : Str → O → Option O) (f g : ES) : ES := fun ρ => (f ρ).bind fun p ρ1 => match look ρ1 p with
  | some (.val (.str a)) => (g ρ1).bind fun p2 ρ2 => match look ρ2 p2 with
    | some o => put ρ2 (sem a o)
    | none => .stuck
  | _ => .stuck
theorem rd_m1 {sem : Str → O → Option O} {r : V → List V → Hp → VK → Prop} {Q : VK} (hr : ∀ (a : Str) (y : V) (H : Hp) (Q : VK) (Z : Zs) (b o : O), Rb (gx X ca) Z H b y → sem a b = some o → (∀ v H' F, Al (gx X ca) Z H o v H' F → Q v H') → r (.str a) [y] H Q)
    (q : RdE X ca W (oM1 sem f g) σ H Q) : tM1 r (RdE X ca W f) (RdE X ca W g) σ H Q := by
  obtain ⟨θ, Z, ρ, L, rr, q⟩ := q
  refine rd_bindE (P := PoE X ca W θ Z L H σ Q) rr (fun h => h) (fun c ρ' h => h) q fun p ρ1 Z1 H1 L1 F v q r1 h1 s1 => ?_
  have s1' := s1.sub fun a h => List.mem_append_right _ h
  split at q
  · rename_i a e
    have ev := rb_str (look_ok r1 h1 e)
    subst ev
    refine ⟨⟨a, rfl⟩, rd_bindE (P := PoE X ca W θ Z1 L1 H1 σ Q) r1 (fun h => h) (fun c ρ' h => h) (q.step s1') fun p2 ρ2 Z2 H2 L2 F2 y q r2 h2 s2 => ?_⟩
    split at q
    · rename_i o e2
      cases e3 : sem a o with
      | none => simp only [e3, Eng.put] at q; exact q.elim
      | some o' =>
        simp only [e3, Eng.put] at q
        exact hr a y H2 Q Z2 o o' (look_ok r2 h2 e2) e3 fun v H' F' x => q Z2 H' L2 F' v (x.rep r2) (x.held r2) ((s2.sub fun a h => List.mem_append_right _ h).trans x.step)
    · exact q.elim
  · exact q.elim
theorem se_join {o e : Expr} {apos pos : Pos} (ho : PE X o (RdE X ca W f)) (he : PE X e (RdE X ca W g)) (hs : starEach [e] X.env = [(false, eval e X.env)]) (hbase : attributeBase o "join" X.env (eval o X.env) = eval o X.env) (hline : (apos.endLine == pos.line) = true) :
    PE X (.Call (.Attribute o "join" apos) [e] [] pos) (RdE X ca W (oM1 joinS f g)) := PE.imp (pe_join ho he hs hbase hline) fun σ H Q h => rd_m1 (fun a y H Q Z b o hb e q => by
  unfold joinS at e
  cases e1 : b.seq? with
  | none => rw [e1] at e; cases e
  | some ds =>
    rw [e1] at e
    simp only [Option.bind_some] at e
    cases e2 : asStrs ds with
    | none => rw [e2] at e; cases e
    | some ys =>
      rw [e2] at e
      simp only [Option.bind_some] at e
      split at e
      · rename_i hc
        cases e
        obtain ⟨p, xs, rfl, hq, dz⟩ := rb_seq hb e1
        rw [asStrs_eq e2] at dz
        rw [dz.strs] at hq
        exact ⟨a, p, ys, rfl, rfl, hq, hc, q _ _ [] (Al.val (.str _))⟩
      · cases e) h
theorem dza_strs {Z : Zs} {K : PySem.W.Frag} {H : Hp} : ∀ ys : List Str, DzA Z K H (ys.map PyData.str) (ys.map V.str)
  | [] => .nil
  | y :: ys => .cons (.str y) (dza_strs ys)
theorem se_split {o e : Expr} {apos pos : Pos} (ho : PE X o (RdE X ca W f)) (he : PE X e (RdE X ca W g)) (hs : starEach [e] X.env = [(false, eval e X.env)]) (hbase : attributeBase o "split" X.env (eval o X.env) = eval o X.env) (hline : (apos.endLine == pos.line) = true) :
    PE X (.Call (.Attribute o "split" apos) [e] [] pos) (RdE X ca W (oM1 splitS f g)) := PE.imp (pe_split ho he hs hbase hline) fun σ H Q h => rd_m1 (fun a y H Q Z b o hb e q => by
  unfold splitS at e
  split at e
  · split at e
    · rename_i hc
      cases e
      cases rb_str hb
      exact ⟨a, _, rfl, rfl, hc.1, hc.2, fun p np => q _ _ _ (Al.lst (G := gx X ca) (dza_strs _) np)⟩
    · cases e
  · cases e) h
end
end Eng
set_option maxHeartbeats 1000000
/-! The engine, part 11: statements: blocks, stores to names, what a slot's object becomes. -/
namespace Eng
open PySem PySem.Spec L2
open PyProof.Rows hiding St

inductive SOut where
  | nx (ρ : En)
  | rt (o : O) (ρ : En)
  | bk (ρ : En)
  | ct (ρ : En)
  | exc (c : Nat) (ρ : En)
  | stuck
abbrev SS := En → SOut
def Out.bindS {α : Type} : Out α → (α → En → SOut) → SOut
  | .ok a ρ, f => f a ρ
  | .exc c ρ, _ => .exc c ρ
  | .stuck, _ => .stuck
@[simp] theorem bindS_ok {α : Type} (a : α) (ρ : En) (f : α → En → SOut) : (Out.ok a ρ).bindS f = f a ρ := rfl
@[simp] theorem bindS_exc {α : Type} (c : Nat) (ρ : En) (f : α → En → SOut) : (Out.exc c ρ : Out α).bindS f = .exc c ρ := rfl
@[simp] theorem bindS_stuck {α : Type} (f : α → En → SOut) : (Out.stuck : Out α).bindS f = .stuck := rfl
def SOut.then : SOut → SS → SOut
  | .nx ρ, f => f ρ
  | o, _ => o
@[simp] theorem then_nx (ρ : En) (f : SS) : (SOut.nx ρ).then f = f ρ := rfl
@[simp] theorem then_rt (o : O) (ρ : En) (f : SS) : (SOut.rt o ρ).then f = .rt o ρ := rfl
@[simp] theorem then_bk (ρ : En) (f : SS) : (SOut.bk ρ).then f = .bk ρ := rfl
@[simp] theorem then_ct (ρ : En) (f : SS) : (SOut.ct ρ).then f = .ct ρ := rfl
@[simp] theorem then_exc (c : Nat) (ρ : En) (f : SS) : (SOut.exc c ρ).then f = .exc c ρ := rfl
@[simp] theorem then_stuck (f : SS) : (SOut.stuck).then f = .stuck := rfl

section
variable (X : Cx) (ca : Nat → Addr) (W : WX)
def PoS (θ : Nat → V) (Z : Zs) (L : List Addr) (H : Hp) (D : Ends) : SOut → Prop
  | .nx ρ' => ∀ Z' H' L' σ', Rep θ (gx X ca) Z' H' ρ' σ' L' → Step Z L H Z' L' H' → D.nx σ' H'
  | .bk ρ' => ∀ Z' H' L' σ', Rep θ (gx X ca) Z' H' ρ' σ' L' → Step Z L H Z' L' H' → D.bk σ' H'
  | .ct ρ' => ∀ Z' H' L' σ', Rep θ (gx X ca) Z' H' ρ' σ' L' → Step Z L H Z' L' H' → D.ct σ' H'
  | .rt o ρ' => ∀ Z' H' L' F v σ', Rep θ (gx X ca) Z' H' ρ' σ' L' → Held (gx X ca) Z' H' σ' L' [.tmp o] [v] F → Step Z L H Z' (F ++ L') H' → D.rt v H'
  | .exc c ρ' => ∀ Z' H' L' σ', Rep θ (gx X ca) Z' H' ρ' σ' L' → Step Z L H Z' L' H' → W (.ref (ca c)) none σ' H'
  | .stuck => False
def RdS (f : SS) : TS := fun D σ H => ∃ θ Z ρ L, Rep θ (gx X ca) Z H ρ σ L ∧ PoS X ca W θ Z L H D (f ρ)
end
theorem PS.imp {X : Cx} {st : Stmt} {t t' : TS} (h : PS X st t) (i : ∀ D σ H, t' D σ H → t D σ H) : PS X st t' := ⟨fun pins s σ H D I q => h.run pins s σ H D I (i D σ H q)⟩
theorem PSs.imp {X : Cx} {st : List Stmt} {t t' : TS} (h : PSs X st t) (i : ∀ D σ H, t' D σ H → t D σ H) : PSs X st t' := ⟨fun pins s σ H D I q => h.run pins s σ H D I (i D σ H q)⟩

section
variable {X : Cx} {ca : Nat → Addr} {W : WX} {f g : ES} {b c : SS} {t : TS'} {G : Gx}
variable {θ : Nat → V} {Z Z1 : Zs} {L L1 F : List Addr} {H H1 : Hp} {σ : L2.St} {ρ ρ1 : En} {D : Ends}
theorem PoS.step {o : SOut} (q : PoS X ca W θ Z L H D o) (s : Step Z L H Z1 L1 H1) : PoS X ca W θ Z1 L1 H1 D o := by
  cases o with
  | stuck => exact q
  | exc c ρ1 => exact fun Z' H' L' σ' r s' => q Z' H' L' σ' r (s.trans s')
  | nx ρ1 => exact fun Z' H' L' σ' r s' => q Z' H' L' σ' r (s.trans s')
  | bk ρ1 => exact fun Z' H' L' σ' r s' => q Z' H' L' σ' r (s.trans s')
  | ct ρ1 => exact fun Z' H' L' σ' r s' => q Z' H' L' σ' r (s.trans s')
  | rt o ρ1 => exact fun Z' H' L' F v σ' r h s' => q Z' H' L' F v σ' r h (s.trans s')
/-- an expression, then a statement's rest -/
theorem rd_ES {k : Opd → En → SOut} {Q : VK} (r : Rep θ (gx X ca) Z H ρ σ L) (q : PoS X ca W θ Z L H D ((f ρ).bindS k))
    (go : ∀ p ρ1 Z1 H1 L1 F v, PoS X ca W θ Z L H D (k p ρ1) → Rep θ (gx X ca) Z1 H1 ρ1 σ L1 → Held (gx X ca) Z1 H1 σ L1 [p] [v] F → Step Z L H Z1 (F ++ L1) H1 → Q v H1) : RdE X ca W f σ H Q := by
  refine ⟨θ, Z, ρ, L, r, ?_⟩
  cases e : f ρ with
  | stuck => rw [e] at q; exact q.elim
  | exc c ρ1 => rw [e] at q; exact fun Z' H' L' r' s' => q Z' H' L' σ r' s'
  | ok p ρ1 => rw [e] at q; exact fun Z1 H1 L1 F v r1 h1 s1 => go p ρ1 Z1 H1 L1 F v q r1 h1 s1
theorem rd_TS {k : Bool → En → SOut} {Q : Bool → Hp → Prop} (r : Rep θ (gx X ca) Z H ρ σ L) (q : PoS X ca W θ Z L H D ((t ρ).bindS k))
    (go : ∀ b ρ1 Z1 H1 L1, PoS X ca W θ Z L H D (k b ρ1) → Rep θ (gx X ca) Z1 H1 ρ1 σ L1 → Step Z L H Z1 L1 H1 → Q b H1) : RdT X ca W t σ H Q := by
  refine ⟨θ, Z, ρ, L, r, ?_⟩
  cases e : t ρ with
  | stuck => rw [e] at q; exact q.elim
  | exc c ρ1 => rw [e] at q; exact fun Z' H' L' r' s' => q Z' H' L' σ r' s'
  | ok p ρ1 => rw [e] at q; exact fun Z1 H1 L1 r1 s1 => go p ρ1 Z1 H1 L1 q r1 s1
/-! ### blocks -/
def sNil : SS := fun ρ => .nx ρ
def sSeq (b c : SS) : SS := fun ρ => (b ρ).then c
def sExpr (f : ES) : SS := fun ρ => (f ρ).bindS fun _ ρ1 => .nx ρ1
def sIf (t : TS') (b c : SS) : SS := fun ρ => (t ρ).bindS fun k ρ1 => if k = true then b ρ1 else c ρ1
def sBreak : SS := fun ρ => .bk ρ
def sCont : SS := fun ρ => .ct ρ
/-- what is handed back: a name's own object goes along -/
def giveUp (ρ : En) : Opd → Option (O × En)
  | .tmp o => some (o, ρ)
  | .nm i => match ρ[i]? with
    | some (some (_, .val d)) => some (.val d, ρ)
    | some (some (_, .scr ns)) => some (.scr ns, ρ)
    | some (some (false, o)) => some (o, ρ.set i none)
    | some (some (true, .lst ds)) => some (.val (.list ds), frz ρ i)
    | _ => none
def sRet (f : ES) : SS := fun ρ => (f ρ).bindS fun p ρ1 => match giveUp ρ1 p with
  | some (o, ρ2) => .rt o ρ2
  | none => .stuck
def sRetN : SS := fun ρ => .rt (.val .none) ρ
variable {st : Stmt} {sts rest : List Stmt} {e : Expr} {pos : Pos}
theorem ss_nil : PSs X [] (RdS X ca W sNil) := PSs.imp pss_nil fun D σ H ⟨θ, Z, ρ, L, r, q⟩ => q Z H L σ r Step.refl
theorem ss_cons (h1 : PS X st (RdS X ca W b)) (h2 : PSs X rest (RdS X ca W c)) : PSs X (st :: rest) (RdS X ca W (sSeq b c)) := PSs.imp (pss_cons h1 h2) fun D σ H ⟨θ, Z, ρ, L, r, q⟩ => by
  refine ⟨θ, Z, ρ, L, r, ?_⟩
  unfold sSeq at q
  cases e : b ρ with
  | nx ρ1 =>
    rw [e] at q
    exact fun Z1 H1 L1 σ1 r1 s1 => ⟨θ, Z1, ρ1, L1, r1, PoS.step q s1⟩
  | rt o ρ1 => rw [e] at q; exact q
  | bk ρ1 => rw [e] at q; exact q
  | ct ρ1 => rw [e] at q; exact q
  | exc c ρ1 => rw [e] at q; exact q
  | stuck => rw [e] at q; exact q
theorem ss_one (h1 : PS X st (RdS X ca W b)) : PSs X [st] (RdS X ca W b) := pss_one h1
theorem ss_expr (he : PE X e (RdE X ca W f)) (hs : swapsWith e none pos.line X.env = pure false) : PS X (.Expr e pos) (RdS X ca W (sExpr f)) := PS.imp (ps_expr he hs) fun D σ H ⟨θ, Z, ρ, L, r, q⟩ =>
  rd_ES r q fun p ρ1 Z1 H1 L1 F v q r1 h1 s1 => q Z1 H1 L1 σ r1 (s1.sub fun a h => List.mem_append_right _ h)
theorem ss_if {cd : Expr} {as bs : List Stmt} (hc : PT X cd (RdT X ca W t)) (ha : PSs X as (RdS X ca W b)) (hb : PSs X bs (RdS X ca W c)) : PS X (.If cd as bs pos) (RdS X ca W (sIf t b c)) := PS.imp (ps_if hc ha hb) fun D σ H ⟨θ, Z, ρ, L, r, q⟩ =>
  rd_TS r q fun k ρ1 Z1 H1 L1 q r1 s1 => by
    cases k with
    | true => exact ⟨θ, Z1, ρ1, L1, r1, PoS.step (by simpa using q) s1⟩
    | false => exact ⟨θ, Z1, ρ1, L1, r1, PoS.step (by simpa using q) s1⟩

/-! ### a slot's object is lifted out, and comes back -/
theorem Rep.lift (r : Rep θ G Z H ρ σ L) {i : Nat} {p : Bool} {o : O} (e : ρ[i]? = some (some (p, o))) :
    ∃ F L' v, σ[i]? = some (some v) ∧ Ro G Z H o v F ∧ Rep θ G Z H (ρ.set i none) σ L' ∧ (F ++ L').Nodup ∧ (∀ a ∈ F, ¬ Z a) ∧ (∀ a, a ∈ F ++ L' ↔ a ∈ L) ∧ (p = true → v = θ i) := by
  obtain ⟨L1, F, L2, x, rfl, e2, h, put⟩ := r.put e
  cases h with
  | yes h =>
    rename_i v0
    have n := List.nodup_append.mp r.nd
    have n2 := List.nodup_append.mp n.2.1
    have rp := put (Z' := Z) (H' := H) (sl' := none) (x' := some v0) (F' := []) Kp.refl (fun _ _ _ q => q) .no List.nodup_nil (fun _ q => by cases q) (fun _ q => by cases q)
      (fun b hb => r.dis b ((List.mem_append.mp hb).elim (fun h => List.mem_append_left _ h) fun h => List.mem_append_right _ (List.mem_append_right _ h))) r.zd (fun o q => by cases q)
    rw [set_back e2] at rp
    refine ⟨F, L1 ++ ([] ++ L2), _, e2, h, rp, ?_, fun a ha => r.dis a (List.mem_append_right _ (List.mem_append_left _ ha)), fun a => ?_, fun hp => ?_⟩
    · have h3 := rp.nd
      refine List.nodup_append.mpr ⟨n2.1, h3, fun a ha b hb q => ?_⟩
      subst q
      rcases List.mem_append.mp hb with hb | hb
      · exact n.2.2 a hb a (List.mem_append_left _ ha) rfl
      · exact n2.2.2 a ha a (by simpa using hb) rfl
    · simp only [List.mem_append, List.nil_append]
      constructor
      · rintro (h | h | h)
        · exact .inr (.inl h)
        · exact .inl h
        · exact .inr (.inr h)
      · rintro (h | h | h)
        · exact .inr (.inl h)
        · exact .inl h
        · exact .inr (.inr h)
    · subst hp
      have := r.pn i o e
      rw [e2] at this
      exact Option.some.inj (Option.some.inj this)
theorem Rep.back (r : Rep θ G Z H ρ σ L) {i : Nat} {p : Bool} {o : O} {v : V} (e : ρ[i]? = some none) (hv : σ[i]? = some (some v)) (h : Ro G Z H o v F) (nd : (F ++ L).Nodup) (dis : ∀ a ∈ F, ¬ Z a) (hp : p = true → v = θ i) :
    ∃ L', Rep θ G Z H (ρ.set i (some (p, o))) σ L' ∧ ∀ a, a ∈ L' ↔ a ∈ F ++ L := by
  obtain ⟨L1, F0, L2, x, rfl, e2, h0, put⟩ := r.put e
  cases h0
  have n := List.nodup_append.mp nd
  have rp := put (Z' := Z) (H' := H) (sl' := some (p, o)) (x' := some v) (F' := F) Kp.refl (fun _ _ _ q => q) (.yes h) n.1 (fun a ha q => n.2.2 a ha a (by simpa using q) rfl) dis
    (fun b hb => r.dis b (by simpa using hb)) r.zd (fun o' q => by
      simp only [Option.some.injEq, Prod.mk.injEq] at q
      rw [hp q.1])
  rw [set_back hv] at rp
  refine ⟨_, rp, fun a => ?_⟩
  simp only [List.mem_append, List.nil_append]
  constructor
  · rintro (h | h | h)
    · exact .inr (.inl h)
    · exact .inl h
    · exact .inr (.inr h)
  · rintro (h | h | h)
    · exact .inr (.inl h)
    · exact .inl h
    · exact .inr (.inr h)
/-- what stands aside stays -/
theorem Ro.aside {Z' : Zs} {H' : Hp} {L' M : List Addr} {o : O} {v : V} (h : Ro G Z H o v F) (mu : ∀ a ∈ L, Mut (H a)) (dz : ∀ a ∈ L, ¬ Z a) (nd : (F ++ L).Nodup) (dis : ∀ a ∈ F, ¬ Z a) (s : Step Z L H Z' M H') (ndM : M.Nodup) :
    Ro G Z' H' o v F ∧ (F ++ M).Nodup ∧ ∀ a ∈ F, ¬ Z' a := by
  have n := List.nodup_append.mp nd
  have mF := h.mut
  refine ⟨h.kp (s.kp mu dz) fun a ha u e => s.keep a u e fun hl => n.2.2 a ha a hl rfl, List.nodup_append.mpr ⟨n.1, ndM, fun a ha b hb e => ?_⟩, fun a ha z => ?_⟩
  · subst e
    rcases s.lnew a hb with q | q
    · exact n.2.2 a ha a q rfl
    · exact mut_some (mF a ha) q
  · rcases s.znew a z with q | q | q
    · exact dis a ha q
    · exact n.2.2 a ha a q rfl
    · exact mut_some (mF a ha) q

/-! ### a store to a name -/
def setE (i : Nat) (o : O) (ρ : En) : Option En := match ρ[i]? with
  | some (some (true, _)) => none
  | some _ => some (ρ.set i (some (false, o)))
  | none => none
theorem setE_ok {i : Nat} {o : O} {ρ' : En} {v : V} (r : Rep θ G Z H ρ σ L) (h : Held G Z H σ L [.tmp o] [v] F) (e : setE i o ρ = some ρ') : ∃ L', Rep θ G Z H ρ' (σ.set i (some v)) L' ∧ ∀ a ∈ L', a ∈ F ++ L := by
  have hr := h.one
  have n := List.nodup_append.mp h.nd
  have gen : ∀ sl, ρ[i]? = some sl → ∃ L', Rep θ G Z H (ρ.set i (some (false, o))) (σ.set i (some v)) L' ∧ ∀ a ∈ L', a ∈ F ++ L := fun sl e1 => by
    obtain ⟨L1, F0, L2, x, rfl, e2, h0, put⟩ := r.put e1
    have sub : ∀ a, a ∈ L1 ++ L2 → a ∈ L1 ++ (F0 ++ L2) := fun a ha => (List.mem_append.mp ha).elim (fun h => List.mem_append_left _ h) fun h => List.mem_append_right _ (List.mem_append_right _ h)
    have rp := put (Z' := Z) (H' := H) (sl' := some (false, o)) (x' := some v) (F' := F) Kp.refl (fun _ _ _ q => q) (.yes hr) n.1 (fun a ha q => n.2.2 a ha a (sub a q) rfl) h.dis
      (fun b hb => r.dis b (sub b hb)) r.zd (fun o' q => by cases q)
    refine ⟨_, rp, fun a ha => ?_⟩
    rcases List.mem_append.mp ha with ha | ha
    · exact List.mem_append_right _ (List.mem_append_left _ ha)
    · rcases List.mem_append.mp ha with ha | ha
      · exact List.mem_append_left _ ha
      · exact List.mem_append_right _ (List.mem_append_right _ (List.mem_append_right _ ha))
  unfold setE at e
  split at e
  · cases e
  · rename_i sl _ e1
    cases e
    exact gen _ e1
  · cases e
/-- what a name gets: a copy of a frozen thing, or the thing itself -/
def takeM (ρ : En) (p : Opd) : Option (O × En) := match take ρ p with
  | some x => some x
  | none => giveUp ρ p
theorem giveUp_ok {p : Opd} {o : O} {ρ' : En} {v : V} (r : Rep θ G Z H ρ σ L) (h : Held G Z H σ L [p] [v] F) (e : giveUp ρ p = some (o, ρ')) :
    ∃ Z' L' F', Rep θ G Z' H ρ' σ L' ∧ Held G Z' H σ L' [.tmp o] [v] F' ∧ Step Z (F ++ L) H Z' (F' ++ L') H := by
  cases p with
  | tmp o' =>
    simp only [giveUp, Option.some.injEq, Prod.mk.injEq] at e
    obtain ⟨rfl, rfl⟩ := e
    exact ⟨Z, L, F, r, h, Step.refl⟩
  | nm j =>
    obtain ⟨rfl, hv⟩ := h.nm
    simp only [giveUp] at e
    split at e
    · rename_i b d e1
      cases e
      obtain ⟨v', F0, h1, h0, _⟩ := r.sl.get e1
      rw [hv] at h1; cases h1
      cases h0 with
      | val h0 => exact ⟨Z, L, [], r, .tmp (.val h0) r.nd (fun _ q => by cases q), Step.refl⟩
    · rename_i b d e1
      cases e
      obtain ⟨v', F0, h1, h0, _⟩ := r.sl.get e1
      rw [hv] at h1; cases h1
      cases h0 with
      | scr h0 => exact ⟨Z, L, [], r, .tmp (.scr h0) r.nd (fun _ q => by cases q), Step.refl⟩
    · rename_i o' _ _ e1
      cases e
      obtain ⟨F0, L', v', h1, h2, h3, h4, h5, h6, _⟩ := r.lift e1
      rw [hv] at h1; cases h1
      exact ⟨Z, L', F0, h3, .tmp h2 h4 h5, ⟨fun _ _ e _ => e, fun _ h => h, fun _ h => .inl h, fun a ha => .inl (by simpa using (h6 a).mp ha)⟩⟩
    · rename_i ds e1
      cases e
      obtain ⟨Z', L', v', q1, q2, q3, q4, _⟩ := r.frz e1
      rw [hv] at q1
      cases q1
      rw [frz_eq e1]
      exact ⟨Z', L', [], q2, .tmp (.val q3) q2.nd (fun _ q => by cases q), q4⟩
    · cases e
theorem takeM_ok {p : Opd} {o : O} {ρ' : En} {v : V} (r : Rep θ G Z H ρ σ L) (h : Held G Z H σ L [p] [v] F) (e : takeM ρ p = some (o, ρ')) :
    ∃ Z' L' F', Rep θ G Z' H ρ' σ L' ∧ Held G Z' H σ L' [.tmp o] [v] F' ∧ Step Z (F ++ L) H Z' (F' ++ L') H := by
  unfold takeM at e
  split at e
  · rename_i x e1
    cases e
    exact take_ok r h e1
  · exact giveUp_ok r h e
def stoE (i : Nat) (ρ : En) (p : Opd) : SOut := match takeM ρ p with
  | some (o, ρ1) => match setE i o ρ1 with
    | some ρ2 => .nx ρ2
    | none => .stuck
  | none => .stuck
def sAsg (i : Nat) (f : ES) : SS := fun ρ => (f ρ).bindS fun p ρ1 => stoE i ρ1 p
theorem stoE_ok {i : Nat} {p : Opd} {v : V} {Z0 : Zs} {L0 : List Addr} {H0 : Hp} (r : Rep θ (gx X ca) Z H ρ σ L) (h : Held (gx X ca) Z H σ L [p] [v] F) (s : Step Z0 L0 H0 Z (F ++ L) H) (q : PoS X ca W θ Z0 L0 H0 D (stoE i ρ p)) : D.nx (σ.set i (some v)) H := by
  unfold stoE at q
  split at q
  · rename_i o ρ1 e1
    split at q
    · rename_i ρ2 e2
      obtain ⟨Z', L', F', r1, h1, s1⟩ := takeM_ok r h e1
      obtain ⟨L2, r2, sub⟩ := setE_ok r1 h1 e2
      exact q Z' H L2 _ r2 ((s.trans s1).sub sub)
    · exact q.elim
  · exact q.elim
theorem ss_asg {i : Nat} {x : Str} {pos' : Pos} (hN : X.N.Nodup) (hi : X.N[i]? = some x) (hx : Loc X.env.scope x) (he : PE X e (RdE X ca W f)) (hs : swapsWith e (some (.Name x pos')) pos.line X.env = pure false) (hf : X.fn x = true ∨ X.env.scope.names.lookup x = some .local) :
    PS X (.Assign [.Name x pos'] e pos) (RdS X ca W (sAsg i f)) := PS.imp (ps_set hN hi hx he hs hf) fun D σ H ⟨θ, Z, ρ, L, r, q⟩ =>
  rd_ES r q fun p ρ1 Z1 H1 L1 F v q r1 h1 s1 => stoE_ok r1 h1 s1 q
theorem ss_ret (he : PE X e (RdE X ca W f)) : PS X (.Return (some e) pos) (RdS X ca W (sRet f)) := PS.imp (ps_ret he) fun D σ H ⟨θ, Z, ρ, L, r, q⟩ =>
  rd_ES r q fun p ρ1 Z1 H1 L1 F v q r1 h1 s1 => by
    split at q
    · rename_i o ρ2 e1
      obtain ⟨Z', L', F', r2, h2, s2⟩ := giveUp_ok r1 h1 e1
      exact q Z' H1 L' F' v σ r2 h2 (s1.trans s2)
    · exact q.elim
/-! ### a slot's object is written -/
def own1 : O → Bool
  | .lst _ => true
  | .dic _ => true
  | .set _ => true
  | _ => false
theorem kp_upd {K : PySem.W.Frag} {l : Addr} {u : HO} (mu : Mut (H l)) (nz : ¬ Z l) : Kp Z K H Z (upd H l u) where
  z := fun _ h => h
  r := fun a xs z e => by
    rw [upd_ne (show a ≠ l from fun q => nz (q ▸ z))]
    exact e
  t := fun a xs r => by
    have ne : ∀ v, H a = some v → ¬ Mut (some v) → a ≠ l := fun v e nm q => by subst q; rw [e] at mu; exact nm mu
    rcases r with (r | ⟨o, r⟩) | r
    · exact .inl (.inl (by rw [upd_ne (ne _ r fun h => h)]; exact r))
    · exact .inl (.inr ⟨o, by rw [upd_ne (ne _ r fun h => h)]; exact r⟩)
    · exact .inr r
  f := fun a ns r => by
    have ne : ∀ v, H a = some v → ¬ Mut (some v) → a ≠ l := fun v e nm q => by subst q; rw [e] at mu; exact nm mu
    rcases r with ⟨ob, r⟩ | r
    · exact .inl ⟨ob, by rw [upd_ne (ne _ r fun h => h)]; exact r⟩
    · exact .inr r
theorem Ro.own1 {o : O} {v : V} (h : Ro G Z H o v F) (e : Eng.own1 o = true) : ∃ l, v = .ref l ∧ F = [l] := by
  cases h with
  | lst => exact ⟨_, rfl, rfl⟩
  | dic => exact ⟨_, rfl, rfl⟩
  | dct => exact ⟨_, rfl, rfl⟩
  | set => exact ⟨_, rfl, rfl⟩
  | _ => cases e
theorem Rep.wr (r : Rep θ G Z H ρ σ L) {i : Nat} {p : Bool} {o : O} (e : ρ[i]? = some (some (p, o))) (ho : own1 o = true) : ∃ l, σ[i]? = some (some (.ref l)) ∧ Ro G Z H o (.ref l) [l] ∧ l ∈ L ∧ (¬ Z l) ∧
    ∀ o' u', Ro G Z (upd H l u') o' (.ref l) [l] → Rep θ G Z (upd H l u') (ρ.set i (some (p, o'))) σ L ∧ Step Z L H Z L (upd H l u') := by
  obtain ⟨L1, F, L2, x, rfl, e2, h, put⟩ := r.put e
  cases h with
  | yes h =>
    obtain ⟨l, rfl, rfl⟩ := h.own1 ho
    have hl : l ∈ L1 ++ ([l] ++ L2) := List.mem_append_right _ (List.mem_append_left _ List.mem_cons_self)
    have nz : ¬ Z l := r.dis l hl
    have mu : Mut (H l) := h.mut l List.mem_cons_self
    refine ⟨l, e2, h, hl, nz, fun o' u' h' => ?_⟩
    have n := List.nodup_append.mp r.nd
    have n2 := List.nodup_append.mp n.2.1
    have nl : ∀ a, a ∈ L1 ++ L2 → a ≠ l := fun a ha q => by
      subst q
      rcases List.mem_append.mp ha with ha | ha
      · exact n.2.2 a ha a (List.mem_append_left _ List.mem_cons_self) rfl
      · exact n2.2.2 a List.mem_cons_self a ha rfl
    have rp := put (Z' := Z) (H' := upd H l u') (sl' := some (p, o')) (x' := some (.ref l)) (F' := [l]) (kp_upd mu nz) (fun a ha u q => by rw [upd_ne (nl a ha)]; exact q) (.yes h') (by simp)
      (fun a ha q => by rw [List.mem_singleton] at ha; subst ha; exact nl a q rfl) (fun a ha => by rw [List.mem_singleton] at ha; subst ha; exact nz)
      (fun b hb => r.dis b ((List.mem_append.mp hb).elim (fun h => List.mem_append_left _ h) fun h => List.mem_append_right _ (List.mem_append_right _ h)))
      (fun a z q => by
        by_cases hal : a = l
        · subst hal; exact nz z
        · rw [upd_ne hal] at q; exact r.zd a z q)
      (fun o'' q => by
        simp only [Option.some.injEq, Prod.mk.injEq] at q
        have hp := r.pn i o (by rw [e, q.1])
        rw [e2] at hp
        exact Option.some.inj hp)
    rw [set_back e2] at rp
    exact ⟨rp, ⟨fun a u e hn => by rw [upd_ne (show a ≠ l from fun q => hn (q ▸ hl))]; exact e, fun _ z => z, fun _ z => .inl z, fun _ h => .inl h⟩⟩
theorem Ro.lst_of {ds : List Eng.D} {l : Addr} (h : Ro G Z H (.lst ds) (.ref l) F) : ∃ xs, H l = some (.lst xs) ∧ DzA Z G.K H ds xs := by
  cases h with
  | lst e h => exact ⟨_, e, h⟩
end
end Eng
set_option maxHeartbeats 1000000
/-! The engine, part 12: objects that change: methods of lists, stores to items, tuples unpacked. -/
namespace Eng
open PySem PySem.Spec L2
open PyProof.Rows hiding St

/-- the object at slot i is changed -/
def mutE (sem : O → Option (O × D)) (i : Nat) (ρ : En) : Out Opd := match ρ[i]? with
  | some (some (p, o)) => match sem o with
    | some (o', res) => .ok (.tmp (.val res)) (ρ.set i (some (p, o')))
    | none => .stuck
  | _ => .stuck
def isLstO : O → Bool
  | .lst _ => true
  | _ => false
def oMutA (sem : O → List D → Option (O × D)) (i : Nat) (as : AS) : ES := fun ρ => match slotO ρ i with
  | some o0 => if isLstO o0 = true then (as ρ).bind fun ps ρ1 => match gives ρ1 ps with
      | some (ds, ρ2) => mutE (fun o => sem o ds) i ρ2
      | none => .stuck
    else .stuck
  | none => .stuck
def oMut0 (sem : O → Option (O × D)) (i : Nat) : ES := fun ρ => match slotO ρ i with
  | some o0 => if isLstO o0 = true then mutE sem i ρ else .stuck
  | none => .stuck
section
variable {X : Cx} {ca : Nat → Addr} {W : WX} {f g : ES} {as : AS} {G : Gx}
variable {θ : Nat → V} {Z Z1 : Zs} {L L1 F : List Addr} {H H1 : Hp} {σ : L2.St} {ρ ρ1 : En} {Dn : Ends}
/-- what a method's reading asks of its rule -/
def MutR (X : Cx) (ca : Nat → Addr) (sem : O → List D → Option (O × D)) (r : V → List V → Hp → VK → Prop) : Prop :=
  ∀ (l : Addr) (o o' : O) (res : D) (ds : List D) (ys : List V) (H : Hp) (Q : VK) (Z : Zs), Ro (gx X ca) Z H o (.ref l) [l] → ¬ Z l → DzA Z X.K H ds ys → sem o ds = some (o', res) →
    (∀ w u', Ro (gx X ca) Z (upd H l u') o' (.ref l) [l] → Dz Z X.K (upd H l u') res w → Q w (upd H l u')) → r (.ref l) ys H Q
theorem isLst_ty {o : O} {v : V} (h : Rb (gx X ca) Z H o v) (e : isLstO o = true) : tyV X.K "list" v H := by
  obtain ⟨F, h⟩ := h
  cases h with
  | lst e1 h1 => exact .inl ⟨rfl, _, .inl (.inl e1)⟩
  | _ => cases e
theorem rd_mut {sem : O → List D → Option (O × D)} {i : Nat} {r : V → List V → Hp → VK → Prop} (hs : ∀ o ds x, sem o ds = some x → own1 o = true) (hr : MutR X ca sem r) {Q : VK} (q : RdE X ca W (oMutA sem i as) σ H Q) :
    tBM X.K "list" r (RdE X ca W (oNm i)) (RdA X ca W as) σ H Q := by
  obtain ⟨θ, Z, ρ, L, rr, q⟩ := q
  unfold oMutA at q
  cases e0 : slotO ρ i with
  | none => rw [e0] at q; exact q.elim
  | some o0 =>
    rw [e0] at q
    by_cases hl : isLstO o0 = true
    · simp only [hl, if_true] at q
      refine ⟨θ, Z, ρ, L, rr, ?_⟩
      unfold oNm
      rw [e0]
      intro Z1 H1 L1 F v r1 h1 s1
      obtain ⟨rfl, hv⟩ := h1.nm
      refine ⟨isLst_ty (r1.look e0 hv) hl, θ, Z1, ρ, L1, r1, ?_⟩
      cases ea : as ρ with
      | stuck => rw [ea] at q; exact q
      | exc c ρ1 => rw [ea] at q; exact fun Z' H' L' r' s' => q Z' H' L' r' (s1.trans s')
      | ok ps ρ1 =>
        rw [ea] at q
        simp only [bind_ok] at q
        intro Z2 H2 L2 F2 vs r2 h2 s2
        cases eg : gives ρ1 ps with
        | none => rw [eg] at q; exact q.elim
        | some x =>
          obtain ⟨ds, ρ2⟩ := x
          rw [eg] at q
          simp only at q
          obtain ⟨Z3, L3, r3, d3, s3⟩ := gives_ok r2 h2 eg
          unfold mutE at q
          split at q
          · rename_i p o e3
            split at q
            · rename_i o' res e4
              obtain ⟨l, w1, w2, w3, w4, w5⟩ := r3.wr e3 (hs _ _ _ e4)
              rw [hv] at w1
              cases w1
              refine hr l o o' res ds vs H2 Q Z3 w2 w4 d3 e4 fun w u' ro' dz' => ?_
              obtain ⟨r4, s4⟩ := w5 o' u' ro'
              exact q Z3 _ L3 [] w r4 (.tmp (.val dz') r4.nd (fun _ q => by cases q)) (((s1.trans s2).trans s3).trans s4)
            · exact q.elim
          · exact q.elim
    · simp only [hl, if_false, Bool.false_eq_true] at q
      exact q.elim
/-! ### the methods of lists -/
def appS : O → List D → Option (O × D)
  | .lst ds, [d] => if ds.length < sizeLine then some (.lst (ds ++ [d]), .none) else none
  | _, _ => none
theorem kp_l {l : Addr} {o : O} {u : HO} (h : Ro G Z H o (.ref l) [l]) (nz : ¬ Z l) : Kp Z G.K H Z (upd H l u) := kp_upd (h.mut l List.mem_cons_self) nz
theorem Ro.lst_new {ds : List D} {xs : List V} {l : Addr} {o : O} (h : Ro G Z H o (.ref l) [l]) (nz : ¬ Z l) (d : DzA Z G.K H ds xs) : Ro G Z (upd H l (.lst xs)) (.lst ds) (.ref l) [l] := .lst upd_same (d.kp (kp_l h nz))
theorem mut_app : MutR X ca appS rAppend := by
  intro l o o' res ds ys H Q Z hr nz hd e q
  unfold appS at e
  split at e
  · split at e
    · rename_i xs d hz
      cases e
      obtain ⟨us, hl, dz⟩ := hr.lst_of
      cases hd with
      | cons h1 t =>
        cases t
        exact ⟨l, us, _, rfl, rfl, hl, by rw [dz.length]; exact hz, q _ _ (Ro.lst_new hr nz (dz.append (.cons h1 .nil))) .non⟩
    · cases e
  · cases e
end
end Eng
set_option maxHeartbeats 1000000
/-! The engine, part 13: extend by a list or a tuple; stores to items; tuples unpacked. -/
namespace Eng
open PySem PySem.Spec L2
open PyProof.Rows hiding St

section
variable {X : Cx}
/-! ### stores to items -/
def setS : O → D → D → Option O
  | .lst ds, .int i, d => match ixN ds.length i with
    | some j => some (.lst (ds.set j d))
    | none => none
  | .dic es, k, d => if dOk es k = true ∧ es.length < sizeLine then some (.dic (dput es k d)) else none
  | _, _, _ => none
variable {ca : Nat → Addr} {W : WX} {f g : ES} {as : AS} {G : Gx}
variable {θ : Nat → V} {Z Z1 : Zs} {L L1 F : List Addr} {H H1 : Hp} {σ : L2.St} {ρ ρ1 : En} {Dn : Ends}
theorem setS_own {o o' : O} {k d : D} (e : setS o k d = some o') : own1 o = true := by
  unfold setS at e
  split at e
  · rfl
  · rfl
  · cases e
def SetV (X : Cx) (ca : Nat → Addr) : TSet := fun o i v H Q => ∃ Z l ob k d o', o = .ref l ∧ Ro (gx X ca) Z H ob (.ref l) [l] ∧ ¬ Z l ∧ Dz Z X.K H k i ∧ Dz Z X.K H d v ∧ setS ob k d = some o' ∧ ∀ u', Ro (gx X ca) Z (upd H l u') o' (.ref l) [l] → Q (upd H l u')
theorem atKey_any {xs : List (NestedKey × Addr × Value)} {κ : NestedKey} : (atKey xs κ).isSome = xs.any fun x => decide (x.1 = κ) := by
  induction xs with
  | nil => rfl
  | cons x xs ih =>
    by_cases q : x.1 = κ
    · simp [atKey, q]
    · rw [List.any_cons, decide_eq_false q, Bool.false_or, ← ih]
      simp [atKey, q]
theorem nent_put {K : PySem.W.Frag} {κ : NestedKey} {b : Addr} {k d : D} {v : V} {r : Value} (hκ : nkey k = some κ) (hd : κ.depth ≤ 8) (hb : Dz Z K H k (.ref b)) (hv : Dz Z K H d v) (rv : RelV v r) : ∀ {xs : List (NestedKey × Addr × Value)} {es : List (D × D)}, Paired (NEnt Z K H) xs es →
    Paired (NEnt Z K H) (xs.map (putAt κ r)) (es.map fun e => if PyData.eqv e.1 k = true then (e.1, d) else e)
  | _, _, .nil => .nil
  | x :: xs, e :: es, .cons h t => by
    refine .cons ?_ (nent_put hκ hd hb hv rv t)
    obtain ⟨h1, h2, h3, w, h4, h5⟩ := h
    have e1 : PyData.eqv e.1 k = decide (x.1 = κ) := nkey_eqv h1 hκ
    unfold putAt
    by_cases q : x.1 = κ
    · simp only [e1, q, decide_true, if_true]
      exact ⟨by rw [← q]; exact h1, by rw [← q]; exact h2, h3, v, rv, hv⟩
    · simp only [e1, q, decide_false, if_false, Bool.false_eq_true]
      exact ⟨h1, h2, h3, w, h4, h5⟩
theorem nent_store {K : PySem.W.Frag} {κ : NestedKey} {b : Addr} {k d : D} {v : V} {r : Value} (hκ : nkey k = some κ) (hd : κ.depth ≤ 8) (hb : Dz Z K H k (.ref b)) (hv : Dz Z K H d v) (rv : RelV v r) {xs : List (NestedKey × Addr × Value)} {es : List (D × D)} (p : Paired (NEnt Z K H) xs es) :
    Paired (NEnt Z K H) (storedH xs κ b r) (dput es k d) := by
  unfold storedH dput
  rw [(dget_nk p hκ).1]
  split
  · exact nent_put hκ hd hb hv rv p
  · have : ∀ {xs : List (NestedKey × Addr × Value)} {es : List (D × D)}, Paired (NEnt Z K H) xs es → Paired (NEnt Z K H) (xs ++ [(κ, b, r)]) (es ++ [(k, d)]) := by
      intro xs es p
      induction p with
      | nil => exact .cons ⟨hκ, hd, hb, v, rv, hv⟩ .nil
      | cons h t ih => exact .cons h ih
    exact this p
theorem ndict_ok {P : Program} {w : World} {K : PySem.W.Frag} {H' : Hp} {h' : Heap} {a : Addr} {xs : List (NestedKey × Addr × Value)} (G : Gx) (hP : G.P = P) (hw : G.w = w) (dd : h'.DictOfH (nestedKind P w) a xs) (hd : (a == sysModules) = false) (hz : xs.length ≤ sizeLine) : ObjOk P w H' h' a (.ext (NDict G a xs)) := by
  obtain ⟨o, es, ep, h1, h2, h3, h4, _, h5⟩ := dd
  refine ⟨⟨o, es, ep, h1, h2, h3, by rw [hP, hw]; exact h4, h5, hd, hz⟩, ⟨o, h1⟩, fun g1 g2 ⟨o', es', ep', q1, q2⟩ k => ⟨o', es', ep', k _ q1, q2⟩⟩
theorem len_dput (es : List (D × D)) (k d : D) : (dput es k d).length ≤ es.length + 1 := by
  unfold dput
  split
  · simp
  · simp
theorem storedH_keys {xs : List (NestedKey × Addr × Value)} {κ : NestedKey} {b : Addr} {r : Value} (nd : (xs.map (·.1)).Nodup) : ((storedH xs κ b r).map (·.1)).Nodup := by
  unfold storedH
  by_cases q : (atKey xs κ).isSome = true
  · rw [if_pos q, List.map_map]
    have : ((fun x : NestedKey × Addr × Value => x.1) ∘ putAt κ r) = fun x => x.1 := by
      funext x
      unfold putAt
      simp only [Function.comp]
      split <;> rfl
    rw [this]
    exact nd
  · rw [if_neg q, List.map_append]
    rw [atKey_any] at q
    refine List.nodup_append.mpr ⟨nd, by simp, fun a ha c hc e => ?_⟩
    simp only [List.map_cons, List.map_nil, List.mem_singleton] at hc
    subst hc
    subst e
    obtain ⟨x, hx, ex⟩ := List.mem_map.mp ha
    exact q (List.any_eq_true.mpr ⟨x, hx, by simp [ex]⟩)
theorem storedH_ne {xs : List (NestedKey × Addr × Value)} {κ : NestedKey} {b : Addr} {r : Value} : storedH xs κ b r ≠ [] := by
  unfold storedH
  split
  · rename_i h
    cases xs with
    | nil => simp [atKey] at h
    | cons x xs => simp
  · simp
theorem putK_nd {kvs : List (Key × V)} {k : Key} {v : V} (nd : (kvs.map (·.1)).Nodup) : ((putK kvs k v).map (·.1)).Nodup := by
  cases q : valV kvs k with
  | none => exact nd_putK v nd q
  | some w =>
    unfold putK
    rw [if_pos (by rw [valV_any, q]; rfl), List.map_map]
    have : ((fun x : Key × V => x.1) ∘ fun kv => if kv.1 = k then (kv.1, v) else kv) = fun x => x.1 := by
      funext x
      simp only [Function.comp]
      split <;> rfl
    rw [this]
    exact nd
theorem set_all (hu : X.A.units + 65 < cLine) : PSet X (SetV X ca) := by
  intro pins s σ H o i v ov iv u Q I ro ri rv ⟨Z, l, ob, k, d, o', e1, hr, nz, hk, hd, e, q⟩
  subst e1
  have mu : Mut (H l) := hr.mut l List.mem_cons_self
  have kp : ∀ u', Kp Z X.K H Z (upd H l u') := fun u' => kp_l (G := gx X ca) hr nz
  have hro := ro
  cases ro
  cases ob with
  | lst ds =>
    cases k with
    | int j =>
      simp only [setS] at e
      split at e
      · rename_i j' hj
        cases e
        obtain ⟨xs, hl, dz⟩ := hr.lst_of
        cases hk
        exact set_list pins s σ H _ _ v _ iv u Q I hro ri rv ⟨l, xs, j, j', rfl, rfl, hl, by rw [dz.length]; exact hj, q _ (Ro.lst_new (G := gx X ca) hr nz (dz.set _ hd))⟩
      · cases e
    | _ => simp [setS] at e
  | dic es =>
    simp only [setS] at e
    split at e
    · rename_i hc
      cases e
      obtain ⟨hc, hsz⟩ := hc
      rcases Bool.or_eq_true_iff.mp hc with hc | hc
      · rw [Bool.and_eq_true] at hc
        obtain ⟨κ, hκ⟩ := Option.isSome_iff_exists.mp hc.1
        cases hr with
        | dic e1 h1 h2 nd =>
          rename_i kvs
          obtain rfl := key_v hk hκ
          have hl := h1.length
          rw [List.length_map, List.length_map] at hl
          refine d_setItem (by omega) I (DPut.k (k := κ) (v := v) e1 (by omega)) ri rv fun s' I' => ⟨_, I', q _ ?_⟩
          obtain ⟨p1, p2⟩ := dput_ok h1 h2 hκ hk hd
          exact .dic upd_same (p1.kp (kp _)) (p2.kp (kp _)) (putK_nd nd)
        | dct e1 hx nd ne => exact absurd (all_nkey hx hc.2) ne
      · rw [Bool.and_eq_true] at hc
        obtain ⟨κ, hκ⟩ := Option.isSome_iff_exists.mp hc.1
        obtain ⟨hκ1, hκ2⟩ := nkOf_some hκ
        obtain ⟨ts, rfl⟩ := nkey_ref hκ
        cases hk with
        | tup hq hts =>
          rename_i b ws
          cases ri
          have hb : Dz Z X.K H (.tuple ts) (.ref b) := .tup hq hts
          have his : (nestedKind X.prog X.w).is s.heap κ b := ⟨nested_is I hb rfl hκ1, hκ2⟩
          have go : ∀ xs, s.heap.DictOfH (nestedKind X.prog X.w) l xs → (l == sysModules) = false → xs.length = es.length → Paired (NEnt Z X.K H) xs es → (xs.map (·.1)).Nodup →
              wpAny (model X.prog X.w) X.A (setItem (.ref l) (.ref b) u) (fun _ s' => ∃ H', Inv X pins σ H' s' ∧ Q H') X.xe s := fun xs hm hs hlen hx nd => by
            have hst : (storedH xs κ b u).length ≤ sizeLine := by
              have := Paired.length (nent_store hκ1 hκ2 hb hd rv hx)
              have h2 := len_dput es (.tuple ts) d
              omega
            refine wpAny_setItem_heap (hsz := by omega) (show X.A.units + 1 + 8 < cLine by omega) his hm fun h' hm' sb => ?_
            have he : ∃ q, h'.get? l = some q := let ⟨q, _, _, hq, _⟩ := hm'; ⟨q, hq⟩
            refine ⟨_, d_write I mu sb he (ndict_ok (K := X.K) (gx X ca) rfl rfl hm' hs hst), q _ ?_⟩
            have hp := nent_store hκ1 hκ2 hb hd rv hx
            exact .dct upd_same (Paired.mapP hp fun p q ⟨h1, h2, h3, v, h4, h5⟩ => ⟨h1, h2, h3.kp (kp _), v, h4, h5.kp (kp _)⟩) (storedH_keys nd) storedH_ne
          cases hr with
          | dic e1 h1 h2 nd =>
            obtain ⟨rfl, rfl⟩ := all_key h1 hc.2
            obtain ⟨m1, m2⟩ := ndict_nil I e1
            exact go [] m1 m2 rfl .nil List.nodup_nil
          | dct e1 hx nd ne =>
            obtain ⟨m1, m2, _⟩ := ndict_at I rfl rfl e1 hx
            exact go _ m1 m2 (Paired.length hx) hx nd
    · cases e
  | _ => simp [setS] at e
end
end Eng
set_option maxHeartbeats 1000000
/-! The engine, part 14: stores to items as statements, tuples unpacked, extend, loops. -/
namespace Eng
open PySem PySem.Spec L2
open PyProof.Rows hiding St

section
variable {X : Cx} {ca : Nat → Addr} {W : WX} {f g : ES} {as : AS} {G : Gx} {b : SS} {t : TS'}
variable {θ : Nat → V} {Z Z1 : Zs} {L L1 F : List Addr} {H H1 : Hp} {σ : L2.St} {ρ ρ1 : En} {Dn : Ends}
/-! ### x[k] = e -/
def putAtE (i : Nat) (ρ : En) (pd pk : Opd) : SOut := match give ρ pd with
  | some (d, ρ1) => match give ρ1 pk with
    | some (k, ρ2) => match ρ2[i]? with
      | some (some (p, o)) => match setS o k d with
        | some o' => .nx (ρ2.set i (some (p, o')))
        | none => .stuck
      | _ => .stuck
    | none => .stuck
  | none => .stuck
def sPut (i : Nat) (fk fv : ES) : SS := fun ρ => (fv ρ).bindS fun pd ρ1 => match slotO ρ1 i with
  | some _ => (fk ρ1).bindS fun pk ρ2 => putAtE i ρ2 pd pk
  | none => .stuck
theorem Held.two {p1 p2 : Opd} {v1 v2 : V} (h : Held G Z H σ L [p1, p2] [v1, v2] F) : ∃ F1 F2, F = F1 ++ F2 ∧ Held G Z H σ (F2 ++ L) [p1] [v1] F1 ∧ Held G Z H σ L [p2] [v2] F2 := by
  obtain ⟨F1, F2, rfl, h1, h2⟩ := h.ok.cons_split
  have n := List.nodup_append.mp h.nd
  have n2 := List.nodup_append.mp n.1
  refine ⟨F1, F2, rfl, ⟨h1, by rw [← List.append_assoc]; exact h.nd, fun a ha => h.dis a (List.mem_append_left _ ha)⟩, ⟨h2, List.nodup_append.mpr ⟨n2.2.1, n.2.1, fun a ha b hb => n.2.2 a (List.mem_append_right _ ha) b hb⟩, fun a ha => h.dis a (List.mem_append_right _ ha)⟩⟩
theorem give_two {p1 p2 : Opd} {v1 v2 : V} {d1 d2 : D} {ρ1 ρ2 : En} (r : Rep θ G Z H ρ σ L) (h : Held G Z H σ L [p1, p2] [v1, v2] F) (e1 : give ρ p1 = some (d1, ρ1)) (e2 : give ρ1 p2 = some (d2, ρ2)) :
    ∃ Z' L', Rep θ G Z' H ρ2 σ L' ∧ Dz Z' G.K H d1 v1 ∧ Dz Z' G.K H d2 v2 ∧ Step Z (F ++ L) H Z' L' H := by
  obtain ⟨Z', L', r', d', s'⟩ := gives_ok (ds := [d1, d2]) (ρ' := ρ2) r h (by simp [gives, e1, e2])
  cases d' with
  | cons q1 t =>
    cases t with
    | cons q2 t => exact ⟨Z', L', r', q1, q2, s'⟩
theorem ss_put {ie e : Expr} {i : Nat} {x : Str} {px pos' pos : Pos} (hu : X.A.units + 65 < cLine) (hN : X.N[i]? = some x) (hv : Vis X.env.scope x) (hd : (x == ("__debug__" : Str)) = false) (hcd : (x == ("__classdict__" : Str)) = false)
    (hi : PE X ie (RdE X ca W f)) (he : PE X e (RdE X ca W g)) (hsw : swapsWithSole [.Subscript (.Name x px) ie pos'] e pos.line X.env = pure false) (hw : swappedStores [.Subscript (.Name x px) ie pos'] e X.env = pure none)
    (h1 : (assignEach [.Subscript (.Name x px) ie pos'] X.env).map (·.2) = [assign (.Subscript (.Name x px) ie pos') X.env])
    (ha : ∀ v, assign (.Subscript (.Name x px) ie pos') X.env v = (do
      let ov ← holding [v] (eval (.Name x px) X.env)
      let iv ← holding [v, ov] (eval ie X.env)
      standAt pos'
      holding [v, ov, iv] (setItem ov iv v)
      release [v, ov, iv] [])) : PS X (.Assign [.Subscript (.Name x px) ie pos'] e pos) (RdS X ca W (sPut i f g)) :=
  PS.imp (ps_asg he (pg_sub (se_name (ca := ca) (W := W) (i := i) hN hv hd hcd) hi (set_all (ca := ca) hu) ha) hsw hw h1) fun D σ H ⟨θ, Z, ρ, L, r, q⟩ =>
    rd_ES r q fun pd ρ1 Z1 H1 L1 F1 vd q r1 h1 s1 => by
      cases e0 : slotO ρ1 i with
      | none => rw [e0] at q; exact q.elim
      | some o0 =>
        rw [e0] at q
        simp only at q
        refine ⟨θ, Z1, ρ1, L1, r1, ?_⟩
        unfold oNm
        rw [e0]
        intro Z2 H2 L2 F2 v r2 h2 s2
        obtain ⟨rfl, hv2⟩ := h2.nm
        have s2' : Step Z1 L1 H1 Z2 L2 H2 := s2
        have hd2 := h1.carryM r1.sl.mut r1.dis s2' r2.nd
        have s12 : Step Z L H Z2 (F1 ++ L2) H2 := s1.then s2'
        refine ⟨θ, Z2, ρ1, L2, r2, ?_⟩
        cases ek : f ρ1 with
        | stuck => rw [ek] at q; exact q
        | exc c ρ2 => rw [ek] at q; exact fun Z' H' L' r' s' => q Z' H' L' σ r' ((s12.sub fun a h => List.mem_append_right _ h).trans s')
        | ok pk ρ2 =>
          rw [ek] at q
          simp only [bindS_ok] at q
          intro Z3 H3 L3 F3 vk r3 h3 s3
          have hd3 := (hd2.carry r2 s3 h3.nd).join h3
          have s13 : Step Z L H Z3 ((F1 ++ F3) ++ L3) H3 := by rw [List.append_assoc]; exact s12.then s3
          unfold putAtE at q
          split at q
          · rename_i d ρ3 e1
            split at q
            · rename_i k ρ4 e2
              split at q
              · rename_i p o e3
                split at q
                · rename_i o' e4
                  obtain ⟨Z4, L4, r4, d4, k4, s4⟩ := give_two r3 hd3 e1 e2
                  obtain ⟨l, w1, w2, w3, w4, w5⟩ := r4.wr e3 (setS_own e4)
                  rw [hv2] at w1
                  cases w1
                  refine ⟨Z4, l, o, k, d, o', rfl, w2, w4, k4, d4, e4, fun u' ro' => ?_⟩
                  obtain ⟨r5, s5⟩ := w5 o' u' ro'
                  exact q Z4 _ L4 σ r5 ((s13.trans s4).trans s5)
                · exact q.elim
              · exact q.elim
            · exact q.elim
          · exact q.elim

/-! ### x.extend(e) -/
def oExt (i : Nat) (f : ES) : ES := fun ρ => match slotO ρ i with
  | some o0 => if isLstO o0 = true then (f ρ).bind fun p ρ1 => match look ρ1 p with
      | some o1 => match o1.seq? with
        | some zs => mutE (fun o => match o with
          | .lst ds => if ds.length + zs.length ≤ sizeLine then some (.lst (ds ++ zs), .none) else none
          | _ => none) i ρ1
        | none => .stuck
      | none => .stuck
    else .stuck
  | none => .stuck
end
end Eng
set_option maxHeartbeats 1000000
/-! zip of a list and a tuple. -/
namespace ZM
open PySem PySem.Spec PyProof.Rows RZ
section
variable {prog : Program} {w : World} {A : Around} {E : Value → Shared → Prop} {s : Shared}
end
section
variable {prog : Program} {w : World} {A : Around} {E : Value → Shared → Prop} {s : Shared}
end
end ZM
namespace ZM
open PySem PySem.Spec PyProof.Rows L2 RZ
def ItzM (K : PySem.W.Frag) (a b : Addr) : It :=
  ⟨fun i H => ∃ (xs ys : List V) (x y : V), SqL K H a xs ∧ SqT K H b ys ∧ xs[i]? = some x ∧ ys[i]? = some y,
    fun i H v H' => ∃ T x y, v = .ref T ∧ H T = none ∧ H' = upd H T (.tup [x, y]) ∧ (∀ xs, SqL K H a xs → xs[i]? = some x) ∧ ∀ ys, SqT K H b ys → ys[i]? = some y,
    fun i H => ∃ xs ys : List V, SqL K H a xs ∧ SqT K H b ys ∧ (xs.length ≤ i ∨ ys.length ≤ i)⟩
end ZM
set_option maxHeartbeats 1000000
/-! enumerate of a tuple. -/
namespace ZE
open PySem PySem.Spec PyProof.Rows RZ
open AutoSeq1 (wpAny_loadPart')
section
variable {prog : Program} {w : World} {A : Around} {E : Value → Shared → Prop} {s : Shared}
end
end ZE
namespace ZE
open PySem PySem.Spec PyProof.Rows L2 RZ
/-- the tuple at a, each item in a new pair -/
def IteT (K : PySem.W.Frag) (a : Addr) : It :=
  ⟨fun i H => ∃ (xs : List V) (x : V), SqT K H a xs ∧ xs[i]? = some x, fun i H v H' => ∃ T x, v = .ref T ∧ H T = none ∧ H' = upd H T (.tup [.int (i : Nat), x]) ∧ ∀ xs, SqT K H a xs → xs[i]? = some x, fun i H => ∃ xs : List V, SqT K H a xs ∧ xs.length = i⟩
end ZE
set_option maxHeartbeats 1000000
/-! The engine, part 15: what is walked; targets; for. -/
namespace Eng
open PySem PySem.Spec L2
open PyProof.Rows hiding St

section
variable {X : Cx} {ca : Nat → Addr} {W : WX} {f g : ES} {as : AS} {G : Gx} {b : SS} {t : TS'}
variable {θ θ' : Nat → V} {Z Z1 Z0 Z' : Zs} {L L1 L0 L' F : List Addr} {H H1 H0 H' : Hp} {σ σ' : L2.St} {ρ ρ1 ρ' : En} {Dn : Ends}
/-! ### names forgotten -/
def dropE1 (i : Nat) (ρ : En) : En := match ρ[i]? with
  | some (some (false, _)) => ρ.set i none
  | _ => ρ
def dropE : List Nat → En → En
  | [], ρ => ρ
  | i :: is, ρ => dropE is (dropE1 i ρ)
theorem Rep.drop1 (r : Rep θ G Z H ρ σ L) (i : Nat) : ∃ L', Rep θ G Z H (dropE1 i ρ) σ L' ∧ ∀ a ∈ L', a ∈ L := by
  unfold dropE1
  split
  · rename_i o e
    obtain ⟨F, L', v, _, _, r', _, _, h, _⟩ := r.lift e
    exact ⟨L', r', fun a ha => (h a).mp (List.mem_append_right _ ha)⟩
  · exact ⟨L, r, fun _ h => h⟩
theorem Rep.drop : ∀ (is : List Nat) {ρ : En} {L : List Addr}, Rep θ G Z H ρ σ L → ∃ L', Rep θ G Z H (dropE is ρ) σ L' ∧ ∀ a ∈ L', a ∈ L
  | [], _, L, r => ⟨L, r, fun _ h => h⟩
  | i :: is, _, _, r => by
    obtain ⟨L1, r1, h1⟩ := r.drop1 i
    obtain ⟨L2, r2, h2⟩ := Rep.drop is r1
    exact ⟨L2, r2, fun a h => h1 a (h2 a h)⟩

/-! ### targets -/
inductive Tgt where
  | nm (i : Nat)
  | tup (is : List Nat)
def setDs : List Nat → List D → En → Option En
  | [], [], ρ => some ρ
  | i :: is, d :: ds, ρ => match setE i (.val d) ρ with
    | some ρ1 => setDs is ds ρ1
    | none => none
  | _, _, _ => none
def Tgt.put : Tgt → D → En → Option En
  | .nm i, d, ρ => setE i (.val d) ρ
  | .tup is, .tuple ds, ρ => setDs is ds ρ
  | _, _, _ => none
def Tgt.slots : Tgt → List Nat
  | .nm i => [i]
  | .tup is => is
/-- the slots but these are as they were -/
def Agr (is : List Nat) (σ σ' : L2.St) : Prop := σ'.length = σ.length ∧ ∀ i, i ∉ is → σ'[i]? = σ[i]?
theorem Agr.set {i : Nat} {is : List Nat} {x : Option V} (h : i ∈ is) : Agr is σ (σ.set i x) := ⟨by simp, fun j hj => List.getElem?_set_ne (show i ≠ j from fun e => hj (e ▸ h))⟩
theorem Agr.trans {is : List Nat} {σ1 σ2 σ3 : L2.St} (h1 : Agr is σ1 σ2) (h2 : Agr is σ2 σ3) : Agr is σ1 σ3 := ⟨h2.1.trans h1.1, fun i hi => (h2.2 i hi).trans (h1.2 i hi)⟩
theorem Agr.mono {is js : List Nat} {σ1 σ2 : L2.St} (h1 : Agr is σ1 σ2) (h : ∀ i ∈ is, i ∈ js) : Agr js σ1 σ2 := ⟨h1.1, fun i hi => h1.2 i fun q => hi (h i q)⟩
def tgR (X : Cx) (ca : Nat → Addr) (T : Tgt) : TG := fun v σ H Q => ∃ θ Z ρ L d ρ', Rep θ (gx X ca) Z H ρ σ L ∧ Dz Z X.K H d v ∧ T.put d ρ = some ρ' ∧ ∀ σ' L', Rep θ (gx X ca) Z H ρ' σ' L' → (∀ a ∈ L', a ∈ L) → Agr T.slots σ σ' → Q σ' H
def tgsR (X : Cx) (ca : Nat → Addr) (is : List Nat) : TGs := fun vs σ H Q => ∃ θ Z ρ L ds ρ', Rep θ (gx X ca) Z H ρ σ L ∧ DzA Z X.K H ds vs ∧ setDs is ds ρ = some ρ' ∧ ∀ σ' L', Rep θ (gx X ca) Z H ρ' σ' L' → (∀ a ∈ L', a ∈ L) → Agr is σ σ' → Q σ' H
theorem PG.imp {tg : Expr} {t t' : TG} (h : PG X tg t) (i : ∀ v σ H Q, t' v σ H Q → t v σ H Q) : PG X tg t' := ⟨fun pins s σ H v u Q I r q => h.run pins s σ H v u Q I r (i v σ H Q q)⟩
theorem PGs.imp {tg : List Expr} {t t' : TGs} (h : PGs X tg t) (i : ∀ v σ H Q, t' v σ H Q → t v σ H Q) : PGs X tg t' := ⟨fun pins s σ H v u Q I r q => h.run pins s σ H v u Q I r (i v σ H Q q)⟩
theorem setE_val {i : Nat} {d : D} {v : V} (r : Rep θ G Z H ρ σ L) (h : Dz Z G.K H d v) (e : setE i (.val d) ρ = some ρ') : ∃ L', Rep θ G Z H ρ' (σ.set i (some v)) L' ∧ ∀ a ∈ L', a ∈ L := by
  obtain ⟨L', r', h'⟩ := setE_ok (F := []) r (.tmp (.val h) r.nd (fun _ q => by cases q)) e
  exact ⟨L', r', fun a ha => by simpa using h' a ha⟩
theorem sg_name {i : Nat} {x : Str} {pos : Pos} (hN : X.N.Nodup) (hi : X.N[i]? = some x) (hx : Loc X.env.scope x) (hf : X.fn x = true ∨ X.env.scope.names.lookup x = some .local) : PG X (.Name x pos) (tgR X ca (.nm i)) :=
  PG.imp (pg_name hN hi hx hf) fun v σ H Q ⟨θ, Z, ρ, L, d, ρ', r, hd, e, q⟩ => by
    obtain ⟨L', r', h'⟩ := setE_val r hd e
    exact q _ L' r' h' (Agr.set (by simp [Tgt.slots]))
theorem sg_nil : PGs X [] (tgsR X ca []) := PGs.imp pgs_nil fun vs σ H Q ⟨θ, Z, ρ, L, ds, ρ', r, hd, e, q⟩ => by
  cases hd with
  | nil =>
    cases e
    exact ⟨rfl, q σ L r (fun _ h => h) ⟨rfl, fun _ _ => rfl⟩⟩
  | cons => cases e
theorem sg_cons {es : List Expr} {i : Nat} {is : List Nat} {x : Str} {pos : Pos} (h1 : PG X (.Name x pos) (gName i)) (h2 : PGs X es (tgsR X ca is)) (hs : (assignEach (.Name x pos :: es) X.env).map (·.2) = assign (.Name x pos) X.env :: (assignEach es X.env).map (·.2)) :
    PGs X (.Name x pos :: es) (tgsR X ca (i :: is)) := PGs.imp (pgs_cons h1 h2 hs) fun vs σ H Q ⟨θ, Z, ρ, L, ds, ρ', r, hd, e, q⟩ => by
  cases hd with
  | nil => cases e
  | cons hd ht =>
    unfold setDs at e
    split at e
    · rename_i ρ1 e1
      obtain ⟨L1, r1, h1⟩ := setE_val r hd e1
      exact ⟨_, _, rfl, θ, Z, ρ1, L1, _, ρ', r1, ht, e, fun σ' L' r' h' ag => q σ' L' r' (fun a ha => h1 a (h' a ha)) ((Agr.set List.mem_cons_self).trans (ag.mono fun j hj => List.mem_cons_of_mem _ hj))⟩
    · cases e
theorem sg_tup {es : List Expr} {k : Nat} {is : List Nat} {pos : Pos} (hc : X.calm = true) (h : PGs X es (tgsR X ca is)) (hn : (assignEach es X.env).length = is.length) (hst : (assignEach es X.env).findIdx? (·.1) = none) : PG X (.Tuple es k pos) (tgR X ca (.tup is)) :=
  PG.imp (pg_tup hc h hn hst) fun v σ H Q ⟨θ, Z, ρ, L, d, ρ', r, hd, e, q⟩ => by
    cases d with
    | tuple ds =>
      cases hd with
      | tup hq hds =>
        refine ⟨_, _, rfl, hq, ?_, θ, Z, ρ, L, ds, ρ', r, hds, e, q⟩
        have len : ∀ {is : List Nat} {ds : List D} {ρ : En}, setDs is ds ρ = some ρ' → ds.length = is.length := by
          intro is
          induction is with
          | nil =>
            intro ds ρ e
            cases ds with
            | nil => rfl
            | cons => cases e
          | cons i is ih =>
            intro ds ρ e
            cases ds with
            | nil => cases e
            | cons d ds =>
              unfold setDs at e
              split at e
              · rw [List.length_cons, List.length_cons, ih e]
              · cases e
        rw [hds.length]
        exact len e
    | _ => cases e

/-! ### what is walked -/
def signs (z : Str) : List D := z.cps.toList.map fun c => .str ⟨#[c]⟩
def zipD : List D → List D → List D
  | d :: ds, e :: es => .tuple [d, e] :: zipD ds es
  | _, _ => []
def enumD : Nat → List D → List D
  | _, [] => []
  | k, d :: ds => .tuple [.int (k : Nat), d] :: enumD (k + 1) ds
def rng (lo : Int) (n : Nat) : List D := (List.range n).map fun k => .int (lo + (k : Nat))
abbrev IS := En → Out (Option Nat × List D)
/-- where the items come from -/
inductive Src (G : Gx) (Z : Zs) (H : Hp) (ρ : En) (σ : L2.St) (L : List Addr) : It → List D → Option Nat → List Addr → Prop
  | frz {a : Addr} {xs : List V} {ds : List D} (z : Z a) (e : H a = some (.lst xs)) (h : DzA Z G.K H ds xs) : Src G Z H ρ σ L (Itl G.K a) ds none []
  | tup {a : Addr} {xs : List V} {ds : List D} (e : SqT G.K H a xs) (h : DzA Z G.K H ds xs) : Src G Z H ρ σ L (Itt G.K a) ds none []
  | slot {j : Nat} {p : Bool} {a : Addr} {ds : List D} (e : ρ[j]? = some (some (p, .lst ds))) (h : σ[j]? = some (some (.ref a))) : Src G Z H ρ σ L (Itl G.K a) ds (some j) []
  | aside {a : Addr} {ds : List D} {F : List Addr} (h : Ro G Z H (.lst ds) (.ref a) F) (nd : (F ++ L).Nodup) (dis : ∀ a ∈ F, ¬ Z a) : Src G Z H ρ σ L (Itl G.K a) ds none F
  | rng {lo : Int} {n : Nat} : Src G Z H ρ σ L (Itr lo n) (rng lo n) none []
  | str {z : Str} : Src G Z H ρ σ L (Its z) (signs z) none []
  | zip {a b : Addr} {xs ys : List V} {ds es : List D} (z : Z a) (e : H a = some (.lst xs)) (h : DzA Z G.K H ds xs) (e2 : SqT G.K H b ys) (h2 : DzA Z G.K H es ys) : Src G Z H ρ σ L (ZM.ItzM G.K a b) (zipD ds es) none []
  | enumT {a : Addr} {xs : List V} {ds : List D} (e : SqT G.K H a xs) (h : DzA Z G.K H ds xs) : Src G Z H ρ σ L (ZE.IteT G.K a) (enumD 0 ds) none []
/-- the walk through the turns -/
structure Wlk (θ : Nat → V) (G : Gx) (chk : En → Prop) (J : It) (ds : List D) (Ok : Zs → Hp → En → List Addr → Prop) : Prop where
  go : ∀ {Z H ρ σ L M} (i : Nat), i < ds.length → Rep θ G Z H ρ σ L → Ok Z H ρ M → J.go i H
  stop : ∀ {Z H ρ σ L M}, Rep θ G Z H ρ σ L → Ok Z H ρ M → J.stop ds.length H
  yld : ∀ {Z H ρ σ L M} (i : Nat) (d : D) (x : V) (H' : Hp), ds[i]? = some d → Rep θ G Z H ρ σ L → Ok Z H ρ M → J.yld i H x H' → Same H H' ∧ Dz Z G.K H' d x
  step : ∀ {Z H ρ M Z' H' ρ' M'}, (∀ a ∈ M, Mut (H a)) → (∀ a ∈ M, ¬ Z a) → Ok Z H ρ M → Step Z M H Z' M' H' → M'.Nodup → chk ρ' → Ok Z' H' ρ' M'
def chkE : Option (Nat × List D) → En → Prop
  | none, _ => True
  | some (j, ds), ρ => ρ[j]? = some (some (true, .lst ds))
theorem ok_list {K : PySem.W.Frag} {a : Addr} {xs : List V} {ds : List D} (e : SqL K H a xs) (h : DzA Z K H ds xs) : (∀ i, i < ds.length → (Itl K a).go i H) ∧ (Itl K a).stop ds.length H ∧ ∀ i d x H', ds[i]? = some d → (Itl K a).yld i H x H' → H' = H ∧ Dz Z K H d x := by
  refine ⟨fun i hi => ?_, ⟨xs, e, Nat.le_of_eq h.length⟩, fun i d x H' hd y => ?_⟩
  · have : i < xs.length := by rw [h.length]; exact hi
    exact ⟨xs, xs[i], e, by simp [this]⟩
  · obtain ⟨v, hv, dv⟩ := h.get hd
    have := y.2 xs e
    rw [hv] at this
    cases this
    exact ⟨y.1, dv⟩
theorem ok_tup {K : PySem.W.Frag} {a : Addr} {xs : List V} {ds : List D} (e : SqT K H a xs) (h : DzA Z K H ds xs) : (∀ i, i < ds.length → (Itt K a).go i H) ∧ (Itt K a).stop ds.length H ∧ ∀ i d x H', ds[i]? = some d → (Itt K a).yld i H x H' → H' = H ∧ Dz Z K H d x := by
  refine ⟨fun i hi => ?_, ⟨xs, e, Nat.le_of_eq h.length⟩, fun i d x H' hd y => ?_⟩
  · have : i < xs.length := by rw [h.length]; exact hi
    exact ⟨xs, xs[i], e, by simp [this]⟩
  · obtain ⟨v, hv, dv⟩ := h.get hd
    have := y.2 xs e
    rw [hv] at this
    cases this
    exact ⟨y.1, dv⟩
theorem Rep.kp (r : Rep θ G Z H ρ σ L) (s : Step Z L H Z' L' H') : Kp Z G.K H Z' H' := s.kp r.sl.mut r.dis
theorem zipD_get : ∀ {ds es : List D} {i : Nat} {d : D}, (zipD ds es)[i]? = some d → ∃ a b, ds[i]? = some a ∧ es[i]? = some b ∧ d = .tuple [a, b]
  | [], _, _, _, h => by simp [zipD] at h
  | _ :: _, [], _, _, h => by simp [zipD] at h
  | a :: ds, b :: es, 0, d, h => by
    simp only [zipD, List.getElem?_cons_zero, Option.some.injEq] at h
    exact ⟨a, b, rfl, rfl, h.symm⟩
  | a :: ds, b :: es, i + 1, d, h => by
    simp only [zipD, List.getElem?_cons_succ] at h
    simpa using zipD_get h
theorem zipD_len : ∀ {ds es : List D}, (zipD ds es).length = min ds.length es.length
  | [], _ => by simp [zipD]
  | _ :: _, [] => by simp [zipD]
  | a :: ds, b :: es => by
    simp only [zipD, List.length_cons, zipD_len (ds := ds) (es := es)]
    omega
theorem ok_zip {K : PySem.W.Frag} {a b : Addr} {xs ys : List V} {ds es : List D} (e : SqL K H a xs) (h : DzA Z K H ds xs) (e2 : SqT K H b ys) (h2 : DzA Z K H es ys) : (∀ i, i < (zipD ds es).length → (ZM.ItzM K a b).go i H) ∧ (ZM.ItzM K a b).stop (zipD ds es).length H ∧
    ∀ i d x H', (zipD ds es)[i]? = some d → (ZM.ItzM K a b).yld i H x H' → Same H H' ∧ Dz Z K H' d x := by
  have l1 := h.length
  have l2 := h2.length
  refine ⟨fun i hi => ?_, ⟨xs, ys, e, e2, ?_⟩, fun i d x H' hd y => ?_⟩
  · rw [zipD_len] at hi
    have i1 : i < xs.length := by omega
    have i2 : i < ys.length := by omega
    exact ⟨xs, ys, xs[i], ys[i], e, e2, by simp [i1], by simp [i2]⟩
  · rw [zipD_len]
    omega
  · obtain ⟨p, q, hp, hq, rfl⟩ := zipD_get hd
    obtain ⟨v, hv, dv⟩ := h.get hp
    obtain ⟨w, hw, dw⟩ := h2.get hq
    obtain ⟨T, x', y', rfl, hn, rfl, gx, gy⟩ := y
    have := gx xs e
    rw [hv] at this
    cases this
    have := gy ys e2
    rw [hw] at this
    cases this
    have same : Same H (upd H T (.tup [v, w])) := same_new hn
    exact ⟨same, .tup (.inl (.inl upd_same)) ((DzA.cons dv (.cons dw .nil)).kp (same_kp same))⟩
theorem enumD_len : ∀ {k : Nat} {ds : List D}, (enumD k ds).length = ds.length
  | _, [] => rfl
  | k, _ :: ds => congrArg (· + 1) (enumD_len (k := k + 1) (ds := ds))
theorem enumD_get : ∀ {k : Nat} {ds : List D} {i : Nat} {d : D}, (enumD k ds)[i]? = some d → ∃ a, ds[i]? = some a ∧ d = .tuple [.int ((k + i : Nat) : Int), a]
  | _, [], _, _, h => by simp [enumD] at h
  | k, a :: ds, 0, d, h => by
    simp only [enumD, List.getElem?_cons_zero, Option.some.injEq] at h
    exact ⟨a, rfl, h.symm⟩
  | k, a :: ds, i + 1, d, h => by
    simp only [enumD, List.getElem?_cons_succ] at h
    obtain ⟨b, h1, h2⟩ := enumD_get h
    exact ⟨b, by simpa using h1, by rw [h2, show k + 1 + i = k + (i + 1) by omega]⟩
theorem ok_enumT {K : PySem.W.Frag} {a : Addr} {xs : List V} {ds : List D} (e : SqT K H a xs) (h : DzA Z K H ds xs) : (∀ i, i < (enumD 0 ds).length → (ZE.IteT K a).go i H) ∧ (ZE.IteT K a).stop (enumD 0 ds).length H ∧
    ∀ i d x H', (enumD 0 ds)[i]? = some d → (ZE.IteT K a).yld i H x H' → Same H H' ∧ Dz Z K H' d x := by
  have l1 := h.length
  refine ⟨fun i hi => ?_, ⟨xs, e, ?_⟩, fun i d x H' hd y => ?_⟩
  · rw [enumD_len] at hi
    have i1 : i < xs.length := by omega
    exact ⟨xs, xs[i], e, by simp [i1]⟩
  · rw [enumD_len]
    omega
  · obtain ⟨b, hb, rfl⟩ := enumD_get hd
    obtain ⟨v, hv, dv⟩ := h.get hb
    obtain ⟨T, x', rfl, hn, rfl, gx⟩ := y
    have := gx xs e
    rw [hv] at this
    cases this
    have same : Same H (upd H T (.tup [.int (i : Nat), v])) := same_new hn
    rw [Nat.zero_add]
    exact ⟨same, .tup (.inl (.inl upd_same)) ((DzA.cons (.int _) (.cons dv .nil)).kp (same_kp same))⟩
/-- the walks, but by a name -/
theorem Src.walk {J : It} {ds : List D} (s : Src G Z H ρ σ L J ds none F) : ∃ Ok, Wlk θ G (chkE none) J ds Ok ∧ Ok Z H ρ L := by
  generalize hj : (none : Option Nat) = jo at s
  cases s with
  | frz z e h =>
    rename_i a xs
    refine ⟨fun Z H ρ L => Z a ∧ H a = some (.lst xs) ∧ DzA Z G.K H ds xs, ⟨fun i hi r k => (ok_list (.inl (.inl k.2.1)) k.2.2).1 i hi, fun r k => (ok_list (.inl (.inl k.2.1)) k.2.2).2.1, fun i d x H' hd r k y => ?_, fun mu dz k s _ _ => ?_⟩, z, e, h⟩
    · obtain ⟨rfl, q⟩ := (ok_list (.inl (.inl k.2.1)) k.2.2).2.2 i d x H' hd y
      exact ⟨fun _ _ e => e, q⟩
    · have kp := s.kp (K := G.K) mu dz
      exact ⟨kp.z _ k.1, kp.r _ _ k.1 k.2.1, k.2.2.kp kp⟩
  | tup e h =>
    rename_i a xs
    refine ⟨fun Z H ρ L => SqT G.K H a xs ∧ DzA Z G.K H ds xs, ⟨fun i hi r k => (ok_tup k.1 k.2).1 i hi, fun r k => (ok_tup k.1 k.2).2.1, fun i d x H' hd r k y => ?_, fun mu dz k s _ _ => ?_⟩, e, h⟩
    · obtain ⟨rfl, q⟩ := (ok_tup k.1 k.2).2.2 i d x H' hd y
      exact ⟨fun _ _ e => e, q⟩
    · have kp := s.kp (K := G.K) mu dz
      exact ⟨kp.t _ _ k.1, k.2.kp kp⟩
  | slot => cases hj
  | aside h nd dis =>
    rename_i a
    refine ⟨fun Z H ρ L => Ro G Z H (.lst ds) (.ref a) F ∧ (F ++ L).Nodup ∧ ∀ a ∈ F, ¬ Z a, ⟨fun i hi r k => ?_, fun r k => ?_, fun i d x H' hd r k y => ?_, fun mu dz k s nM _ => ?_⟩, h, nd, dis⟩
    · obtain ⟨xs, e, q⟩ := k.1.lst_of
      exact (ok_list (.inl (.inl e)) q).1 i hi
    · obtain ⟨xs, e, q⟩ := k.1.lst_of
      exact (ok_list (.inl (.inl e)) q).2.1
    · obtain ⟨xs, e, q⟩ := k.1.lst_of
      obtain ⟨rfl, q⟩ := (ok_list (.inl (.inl e)) q).2.2 i d x H' hd y
      exact ⟨fun _ _ e => e, q⟩
    · exact k.1.aside (L' := []) mu dz k.2.1 k.2.2 s nM
  | rng =>
    rename_i lo n
    have hl : (Eng.rng lo n).length = n := by simp [Eng.rng]
    refine ⟨fun _ _ _ _ => True, ⟨fun i hi r k => ?_, fun r k => ?_, fun i d x H' hd r k y => ?_, fun _ _ _ _ _ _ => trivial⟩, trivial⟩
    · rw [hl] at hi; exact hi
    · rw [hl]; exact Nat.le_refl _
    · obtain ⟨rfl, rfl⟩ := y
      have hi : i < n := by
        have := (List.getElem?_eq_some_iff.mp hd).1
        rw [hl] at this; exact this
      have : d = .int (lo + (i : Nat)) := by
        unfold Eng.rng at hd
        rw [List.getElem?_map, List.getElem?_range hi] at hd
        cases hd
        rfl
      subst this
      exact ⟨fun _ _ e => e, .int _⟩
  | str =>
    rename_i z
    have hl : (signs z).length = z.cps.size := by simp [signs]
    refine ⟨fun _ _ _ _ => True, ⟨fun i hi r k => ?_, fun r k => ?_, fun i d x H' hd r k y => ?_, fun _ _ _ _ _ _ => trivial⟩, trivial⟩
    · rw [hl] at hi; exact hi
    · rw [hl]; exact Nat.le_refl _
    · obtain ⟨rfl, c, hc, rfl⟩ := y
      have : d = .str ⟨#[c]⟩ := by
        unfold signs at hd
        rw [List.getElem?_map] at hd
        have : z.cps.toList[i]? = some c := by rw [Array.getElem?_toList]; exact hc
        rw [this] at hd
        cases hd
        rfl
      subst this
      exact ⟨fun _ _ e => e, .str _⟩
  | enumT e h =>
    rename_i a xs ds
    refine ⟨fun Z H ρ L => SqT G.K H a xs ∧ DzA Z G.K H ds xs, ⟨fun i hi r k => (ok_enumT k.1 k.2).1 i hi, fun r k => (ok_enumT k.1 k.2).2.1, fun i d x H' hd r k y => (ok_enumT k.1 k.2).2.2 i d x H' hd y, fun mu dz k s _ _ => ?_⟩, e, h⟩
    have kp := s.kp (K := G.K) mu dz
    exact ⟨kp.t _ _ k.1, k.2.kp kp⟩
  | zip z e h e2 h2 =>
    rename_i a b xs ys ds es
    refine ⟨fun Z H ρ L => Z a ∧ H a = some (.lst xs) ∧ DzA Z G.K H ds xs ∧ SqT G.K H b ys ∧ DzA Z G.K H es ys, ⟨fun i hi r k => (ok_zip (.inl (.inl k.2.1)) k.2.2.1 k.2.2.2.1 k.2.2.2.2).1 i hi, fun r k => (ok_zip (.inl (.inl k.2.1)) k.2.2.1 k.2.2.2.1 k.2.2.2.2).2.1, fun i d x H' hd r k y => (ok_zip (.inl (.inl k.2.1)) k.2.2.1 k.2.2.2.1 k.2.2.2.2).2.2 i d x H' hd y, fun mu dz k s _ _ => ?_⟩, z, e, h, e2, h2⟩
    have kp := s.kp (K := G.K) mu dz
    exact ⟨kp.z _ k.1, kp.r _ _ k.1 k.2.1, k.2.2.1.kp kp, kp.t _ _ k.2.2.2.1, k.2.2.2.2.kp kp⟩
/-- a walk by a name that is pinned meanwhile -/
theorem wlk_slot {j : Nat} {a : Addr} {ds : List D} (hθ : θ j = .ref a) : Wlk θ G (chkE (some (j, ds))) (Itl G.K a) ds (fun _ _ ρ _ => ρ[j]? = some (some (true, .lst ds))) := by
  have get : ∀ {Z H ρ σ L}, Rep θ G Z H ρ σ L → ρ[j]? = some (some (true, .lst ds)) → ∃ xs, H a = some (.lst xs) ∧ DzA Z G.K H ds xs := fun r e => by
    obtain ⟨v, F, h1, h2, _⟩ := r.sl.get e
    have := r.pn j _ e
    rw [h1, hθ] at this
    cases this
    exact h2.lst_of
  refine ⟨fun i hi r k => ?_, fun r k => ?_, fun i d x H' hd r k y => ?_, fun _ _ _ _ _ k => k⟩
  · obtain ⟨xs, e, q⟩ := get r k
    exact (ok_list (.inl (.inl e)) q).1 i hi
  · obtain ⟨xs, e, q⟩ := get r k
    exact (ok_list (.inl (.inl e)) q).2.1
  · obtain ⟨xs, e, q⟩ := get r k
    obtain ⟨rfl, q⟩ := (ok_list (.inl (.inl e)) q).2.2 i d x H' hd y
    exact ⟨fun _ _ e => e, q⟩

/-! ### for -/
open Classical in
noncomputable def forL (c : Option (Nat × List D)) (T : Tgt) (fg : List Nat) (b : SS) : List D → SS
  | [], ρ => .nx ρ
  | d :: ds, ρ => match T.put d ρ with
    | none => .stuck
    | some ρ1 => match b ρ1 with
      | .nx ρ2 => if chkE c (dropE fg ρ2) then forL c T fg b ds (dropE fg ρ2) else .stuck
      | .ct ρ2 => if chkE c (dropE fg ρ2) then forL c T fg b ds (dropE fg ρ2) else .stuck
      | .bk ρ2 => .nx (dropE fg ρ2)
      | o => o
theorem Wlk.for {c : Option (Nat × List D)} {T : Tgt} {fg : List Nat} {J : It} {ds : List D} {Ok : Zs → Hp → En → List Addr → Prop} (w : Wlk θ (gx X ca) (chkE c) J ds Ok) (r : Rep θ (gx X ca) Z H ρ σ L) (k : Ok Z H ρ L) (s : Step Z0 L0 H0 Z L H)
    (q : PoS X ca W θ Z0 L0 H0 Dn (forL c T fg b ds ρ)) :
    ∃ W' : Nat → Nat → L2.St → Hp → Prop, (∃ m, W' 0 m σ H) ∧ ∀ i m σ H, W' i m σ H →
      (J.stop i H ∧ Dn.nx σ H) ∨ (J.go i H ∧ ∃ N : L2.St → Hp → Prop, (∀ σ' H', N σ' H' → ∃ m', m' < m ∧ W' (i + 1) m' σ' H') ∧ ∀ x H', J.yld i H x H' → tgR X ca T x σ H' fun σ2 H2 => RdS X ca W b { Dn with nx := N, ct := N, bk := Dn.nx } σ2 H2) := by
  let inv : Nat → L2.St → Hp → Prop := fun i σ H => i ≤ ds.length ∧ ∃ Z ρ L, Rep θ (gx X ca) Z H ρ σ L ∧ Ok Z H ρ L ∧ Step Z0 L0 H0 Z L H ∧ PoS X ca W θ Z0 L0 H0 Dn (forL c T fg b (ds.drop i) ρ)
  refine ⟨fun i m σ H => m = ds.length - i ∧ inv i σ H, ⟨_, rfl, Nat.zero_le _, Z, ρ, L, r, k, s, q⟩, ?_⟩
  rintro i m σ H ⟨rfl, hi, Z, ρ, L, r, k, s, q⟩
  by_cases hlt : i < ds.length
  · refine .inr ⟨w.go i hlt r k, inv (i + 1), fun σ' H' p' => ⟨ds.length - (i + 1), by omega, rfl, p'⟩, fun x H' y => ?_⟩
    have hd : ds[i]? = some ds[i] := by simp [hlt]
    rw [List.drop_eq_getElem_cons hlt] at q
    obtain ⟨same, dz⟩ := w.yld i ds[i] x H' hd r k y
    unfold forL at q
    cases e1 : T.put ds[i] ρ with
    | none => rw [e1] at q; exact q.elim
    | some ρ1 =>
      rw [e1] at q
      simp only at q
      have s0 : Step Z L H Z L H' := ⟨fun a o e _ => same a o e, fun _ h => h, fun _ h => .inl h, fun _ h => .inl h⟩
      refine ⟨θ, Z, ρ, L, ds[i], ρ1, r.same same, dz, e1, fun σ1 L1 r1 sub _ => ⟨θ, Z, ρ1, L1, r1, ?_⟩⟩
      have s1 : Step Z0 L0 H0 Z L1 H' := (s.trans s0).sub sub
      have turn : ∀ ρ2 Z2 H2 L2 σ2, PoS X ca W θ Z0 L0 H0 Dn (open Classical in if chkE c (dropE fg ρ2) then forL c T fg b (ds.drop (i + 1)) (dropE fg ρ2) else .stuck) → Rep θ (gx X ca) Z2 H2 ρ2 σ2 L2 → Step Z L1 H' Z2 L2 H2 → inv (i + 1) σ2 H2 := fun ρ2 Z2 H2 L2 σ2 q r2 s2 => by
        obtain ⟨L3, r3, h3⟩ := r2.drop fg
        split at q
        · rename_i hc
          refine ⟨hlt, Z2, _, L3, r3, w.step r.sl.mut r.dis k (((s0.trans (Step.refl.sub sub)).trans s2).sub h3) r3.nd hc, (s1.trans s2).sub h3, q⟩
        · exact q.elim
      cases eb : b ρ1 with
      | stuck => rw [eb] at q; exact q
      | nx ρ2 => rw [eb] at q; exact fun Z2 H2 L2 σ2 r2 s2 => turn ρ2 Z2 H2 L2 σ2 q r2 s2
      | ct ρ2 => rw [eb] at q; exact fun Z2 H2 L2 σ2 r2 s2 => turn ρ2 Z2 H2 L2 σ2 q r2 s2
      | bk ρ2 =>
        rw [eb] at q
        intro Z2 H2 L2 σ2 r2 s2
        obtain ⟨L3, r3, h3⟩ := r2.drop fg
        exact q Z2 H2 L3 σ2 r3 ((s1.trans s2).sub h3)
      | rt o ρ2 => rw [eb] at q; exact fun Z2 H2 L2 F v σ2 r2 h2 s2 => q Z2 H2 L2 F v σ2 r2 h2 (s1.trans s2)
      | exc c ρ2 => rw [eb] at q; exact fun Z2 H2 L2 σ2 r2 s2 => q Z2 H2 L2 σ2 r2 (s1.trans s2)
  · have e : i = ds.length := by omega
    subst e
    rw [List.drop_length] at q
    exact .inl ⟨w.stop r k, q Z H L σ r s⟩
end
end Eng
set_option maxHeartbeats 1000000
/-! The engine, part 16: iterables read; for and while as statements. -/
namespace Eng
open PySem PySem.Spec L2
open PyProof.Rows hiding St

section
variable {X : Cx} {ca : Nat → Addr} {W : WX} {f g : ES} {as : AS} {G : Gx} {b : SS} {t : TS'} {it : IS}
variable {θ θ' : Nat → V} {Z Z1 Z0 Z' : Zs} {L L1 L0 L' F : List Addr} {H H1 H0 H' : Hp} {σ σ' : L2.St} {ρ ρ1 ρ' : En} {Dn : Ends}
/-! ### iterables -/
def PoI (X : Cx) (ca : Nat → Addr) (W : WX) (θ : Nat → V) (Z : Zs) (L : List Addr) (H : Hp) (σ : L2.St) (R : It → Hp → Prop) : Out (Option Nat × List D) → Prop
  | .ok (j, ds) ρ' => ∀ Z' H' L' F J, Rep θ (gx X ca) Z' H' ρ' σ L' → Step Z L H Z' (F ++ L') H' → Src (gx X ca) Z' H' ρ' σ L' J ds j F → ds.length ≤ sizeLine → R J H'
  | .exc c ρ' => ∀ Z' H' L', Rep θ (gx X ca) Z' H' ρ' σ L' → Step Z L H Z' L' H' → W (.ref (ca c)) none σ H'
  | .stuck => False
def RdI (X : Cx) (ca : Nat → Addr) (W : WX) (f : IS) : TI := fun σ H R => ∃ θ Z ρ L, Rep θ (gx X ca) Z H ρ σ L ∧ PoI X ca W θ Z L H σ R (f ρ)
def itemsD : D → Option (List D)
  | .list ds => some ds
  | .tuple ds => some ds
  | .str z => if z.length ≤ sizeLine then some (signs z) else none
  | _ => none
def itSeq (ρ : En) : Opd → Out (Option Nat × List D)
  | .tmp (.lst ds) => .ok (none, ds) ρ
  | .tmp (.val d) => match itemsD d with
    | some ds => .ok (none, ds) ρ
    | none => .stuck
  | .nm j => match ρ[j]? with
    | some (some (_, .lst ds)) => .ok (some j, ds) ρ
    | some (some (_, .val d)) => match itemsD d with
      | some ds => .ok (none, ds) ρ
      | none => .stuck
    | _ => .stuck
  | _ => .stuck
def iSeq (f : ES) : IS := fun ρ => (f ρ).bind fun p ρ1 => itSeq ρ1 p
/-- by values -/
inductive SrcV (K : PySem.W.Frag) (H : Hp) : V → It → Nat → Prop
  | lst {a : Addr} {xs : List V} (e : SqL K H a xs) : SrcV K H (.ref a) (Itl K a) xs.length
  | tup {a : Addr} {xs : List V} (e : SqT K H a xs) : SrcV K H (.ref a) (Itt K a) xs.length
  | str {z : Str} (h : z.length ≤ sizeLine) : SrcV K H (.str z) (Its z) z.length
theorem pi_any {tg e : Expr} {te : TE} (he : PE X e te) : PI X tg e (fun σ H R => te σ H fun x H1 => ∃ J n, SrcV X.K H1 x J n ∧ (n ≤ sizeLine → R J H1)) := by
  refine ⟨fun pins s σ H R I h => ?_⟩
  refine thn (he.run pins s σ H _ I h) fun v s1 ⟨x, H1, I1, r1, J, n, sr, q⟩ => ?_
  cases sr with
  | lst e =>
    cases r1
    obtain ⟨its, rv, pl, hz⟩ := I1.list e
    exact wpAny_pyIter_list pl.isList (pi_one (tk := s1.toks) I1 _ (turn_list _ _) ⟨_, Heap.get?_push_size _ rfl, rfl, rfl⟩ (q hz))
  | tup e =>
    cases r1
    obtain ⟨its, rv, pl, hz⟩ := I1.tuple e
    exact wpAny_pyIter_tuple pl (pi_one (tk := s1.toks) I1 _ (turn_tuple _ _) ⟨_, Heap.get?_push_size _ rfl, rfl, rfl⟩ (q hz))
  | str hz =>
    rename_i z
    obtain ⟨t, rfl⟩ := r1
    cases ha : z.cps.all (· < 128)
    · exact wpAny_pyIter_wide ha (pi_one (tk := s1.toks) I1 _ (turn_str _ z t "str_iterator" (.inr rfl)) ⟨_, Heap.get?_push_size _ rfl, rfl, rfl⟩ (q hz))
    · exact wpAny_pyIter_ascii ha (pi_one (tk := s1.toks) I1 _ (turn_str _ z t "str_ascii_iterator" (.inl rfl)) ⟨_, Heap.get?_push_size _ rfl, rfl, rfl⟩ (q hz))
theorem PI.imp {tg e : Expr} {t t' : TI} (h : PI X tg e t) (i : ∀ σ H R, t' σ H R → t σ H R) : PI X tg e t' := ⟨fun pins s σ H R I q => h.run pins s σ H R I (i σ H R q)⟩
theorem src_val {d : D} {ds : List D} {v : V} (h : Dz Z G.K H d v) (e : itemsD d = some ds) : ∃ J n, SrcV G.K H v J n ∧ n = ds.length ∧ Src G Z H ρ σ L J ds none [] := by
  unfold itemsD at e
  split at e
  · cases e
    cases h with
    | lst z r h => exact ⟨_, _, .lst (.inl (.inl r)), h.length, .frz z r h⟩
  · cases e
    cases h with
    | tup r h => exact ⟨_, _, .tup r, h.length, .tup r h⟩
  · split at e
    · rename_i z hz
      cases e
      cases h
      exact ⟨_, _, .str hz, by simp [signs, Str.length], .str⟩
    · cases e
  · cases e
theorem si_seq {tg e : Expr} (he : PE X e (RdE X ca W f)) : PI X tg e (RdI X ca W (iSeq f)) := PI.imp (pi_any he) fun σ H R ⟨θ, Z, ρ, L, r, q⟩ => by
  refine ⟨θ, Z, ρ, L, r, ?_⟩
  unfold iSeq at q
  cases e1 : f ρ with
  | stuck => rw [e1] at q; exact q
  | exc c ρ1 => rw [e1] at q; exact q
  | ok p ρ1 =>
    rw [e1] at q
    simp only [bind_ok] at q
    intro Z1 H1 L1 F v r1 h1 s1
    cases p with
    | tmp o =>
      cases o with
      | lst ds =>
        have ho := h1.one
        obtain ⟨a, xs, rfl, rfl, ea, dz⟩ := ho.single
        refine ⟨_, _, .lst (.inl (.inl ea)), fun hz => ?_⟩
        rw [dz.length] at hz
        exact q Z1 H1 L1 _ _ r1 s1 (.aside ho h1.nd h1.dis) hz
      | val d =>
        unfold itSeq at q
        simp only at q
        split at q
        · rename_i ds e2
          have ho := h1.one
          cases ho with
          | val hd =>
            obtain ⟨J, n, sv, rfl, sr⟩ := src_val (ρ := ρ1) (σ := σ) (L := L1) hd e2
            exact ⟨J, _, sv, fun hz => q Z1 H1 L1 [] J r1 (s1.sub fun a h => List.mem_append_right _ h) sr hz⟩
        · exact q.elim
      | _ => exact q.elim
    | nm j =>
      obtain ⟨rfl, hv⟩ := h1.nm
      unfold itSeq at q
      simp only at q
      split at q
      · rename_i pn ds e2
        obtain ⟨v', F', k1, k2, _⟩ := r1.sl.get e2
        rw [hv] at k1
        cases k1
        obtain ⟨a, xs, rfl, _, ea, dz⟩ := k2.single
        refine ⟨_, _, .lst (.inl (.inl ea)), fun hz => ?_⟩
        rw [dz.length] at hz
        exact q Z1 H1 L1 [] _ r1 s1 (.slot e2 hv) hz
      · rename_i pn d e2
        split at q
        · rename_i ds e3
          obtain ⟨v', F', k1, k2, _⟩ := r1.sl.get e2
          rw [hv] at k1
          cases k1
          cases k2 with
          | val hd =>
            obtain ⟨J, n, sv, rfl, sr⟩ := src_val (ρ := ρ1) (σ := σ) (L := L1) hd e3
            exact ⟨J, _, sv, fun hz => q Z1 H1 L1 [] J r1 s1 sr hz⟩
        · exact q.elim
      · exact q.elim
def iRng1 (as : AS) : IS := fun ρ => (as ρ).bind fun ps ρ1 => match looks ρ1 ps with
      | some [.val (.int j)] => if j ≤ 1000000 ∧ -(2 ^ 62) ≤ j then .ok (none, rng 0 j.toNat) ρ1 else .stuck
      | _ => .stuck
def iRng2 (as : AS) : IS := fun ρ => (as ρ).bind fun ps ρ1 => match looks ρ1 ps with
      | some [.val (.int i), .val (.int j)] => if -1000000 ≤ i ∧ i ≤ 1000000 ∧ -1000000 ≤ j ∧ j ≤ 1000000 then .ok (none, rng i (j - i).toNat) ρ1 else .stuck
      | _ => .stuck
theorem rng_len (lo : Int) (n : Nat) : (rng lo n).length = n := by simp [rng]
theorem million : (2000000 : Nat) ≤ sizeLine := by decide
theorem paired_two {α β : Type} {R : α → β → Prop} {a c : α} {ys : List β} (h : Paired R [a, c] ys) : ∃ x y, ys = [x, y] ∧ R a x ∧ R c y := by
  cases h with
  | cons h1 t =>
    cases t with
    | cons h2 t =>
      cases t
      exact ⟨_, _, rfl, h1, h2⟩
theorem paired_one {α β : Type} {R : α → β → Prop} {a : α} {ys : List β} (h : Paired R [a] ys) : ∃ x, ys = [x] ∧ R a x := by
  cases h with
  | cons h1 t =>
    cases t
    exact ⟨_, rfl, h1⟩
theorem si_rng1 {tg a : Expr} {p pos : Pos} (hg : Gl X "range") (hm : X.mg "range" = none) (ha : PA X [a] (RdA X ca W as)) (hs : starEach [a] X.env = [(false, eval a X.env)]) : PI X tg (.Call (.Name "range" p) [a] [] pos) (RdI X ca W (iRng1 as)) := PI.imp (pi_range1 hg hm ha hs) fun σ H R ⟨θ, Z, ρ, L, r, q⟩ => by
  refine ⟨θ, Z, ρ, L, r, ?_⟩
  unfold iRng1 at q
  cases e1 : as ρ with
  | stuck => rw [e1] at q; exact q
  | exc c ρ1 => rw [e1] at q; exact q
  | ok ps ρ1 =>
    rw [e1] at q
    simp only [bind_ok] at q
    intro Z1 H1 L1 F vs r1 h1 s1
    split at q
    · rename_i j e2
      split at q
      · rename_i hj
        obtain ⟨x, rfl, hx⟩ := paired_one (h1.ok.looks r1 e2)
        cases rb_int hx
        exact ⟨j, rfl, hj.2, by omega, q Z1 H1 L1 [] _ r1 (s1.sub fun a h => List.mem_append_right _ h) .rng (by rw [rng_len]; have := million; omega)⟩
      · exact q.elim
    · exact q.elim
theorem si_rng2 {tg a c : Expr} {p pos : Pos} (hg : Gl X "range") (hm : X.mg "range" = none) (ha : PA X [a, c] (RdA X ca W as)) (hs : starEach [a, c] X.env = [(false, eval a X.env), (false, eval c X.env)]) (hs2 : starEach [c] X.env = [(false, eval c X.env)]) :
    PI X tg (.Call (.Name "range" p) [a, c] [] pos) (RdI X ca W (iRng2 as)) := PI.imp (pi_range2 hg hm ha hs hs2) fun σ H R ⟨θ, Z, ρ, L, r, q⟩ => by
  refine ⟨θ, Z, ρ, L, r, ?_⟩
  unfold iRng2 at q
  cases e1 : as ρ with
  | stuck => rw [e1] at q; exact q
  | exc c ρ1 => rw [e1] at q; exact q
  | ok ps ρ1 =>
    rw [e1] at q
    simp only [bind_ok] at q
    intro Z1 H1 L1 F vs r1 h1 s1
    split at q
    · rename_i i j e2
      split at q
      · rename_i hj
        obtain ⟨x, y, rfl, hx, hy⟩ := paired_two (h1.ok.looks r1 e2)
        cases rb_int hx
        cases rb_int hy
        exact ⟨i, j, rfl, ⟨by omega, by omega, by omega, by omega⟩, q Z1 H1 L1 [] _ r1 (s1.sub fun a h => List.mem_append_right _ h) .rng (by rw [rng_len]; have := million; omega)⟩
      · exact q.elim
    · exact q.elim

def iZip (f g : ES) : IS := fun ρ => (oAs [f, g] ρ).bind fun ps ρ1 => match gives ρ1 ps with
  | some ([.list ds, .tuple es], ρ2) => if (zipD ds es).length ≤ sizeLine then .ok (none, zipD ds es) ρ2 else .stuck
  | _ => .stuck
/-! ### pins -/
def unpin (j : Nat) (ρ : En) : En := match ρ[j]? with
  | some (some (_, o)) => ρ.set j (some (false, o))
  | _ => ρ
def unpS (j : Nat) : SOut → SOut
  | .nx ρ => .nx (unpin j ρ)
  | .bk ρ => .bk (unpin j ρ)
  | .ct ρ => .ct (unpin j ρ)
  | .rt o ρ => .rt o (unpin j ρ)
  | .exc c ρ => .exc c (unpin j ρ)
  | .stuck => .stuck
theorem RoS.congr : ∀ {ρ ρ' : En} {σ : L2.St} {L : List Addr}, RoS G Z H ρ σ L → ρ'.map (Option.map (·.2)) = ρ.map (Option.map (·.2)) → RoS G Z H ρ' σ L
  | _, [], _, _, .emp, _ => .emp
  | _, _ :: _, _, _, .emp, e => by cases e
  | _, [], _, _, .no t, e => by cases e
  | _, sl :: ρ', _, _, .no t, e => by
    simp only [List.map_cons, List.cons.injEq, Option.map_none, Option.map_eq_none_iff] at e
    obtain ⟨rfl, e⟩ := e
    exact .no (RoS.congr t e)
  | _, [], _, _, .yes h t, e => by cases e
  | _, sl :: ρ', _, _, .yes h t, e => by
    simp only [List.map_cons, List.cons.injEq, Option.map_some, Option.map_eq_some_iff] at e
    obtain ⟨⟨⟨p, o⟩, rfl, rfl⟩, e⟩ := e
    exact .yes h (RoS.congr t e)
theorem map_pin {j : Nat} {p p' : Bool} {o : O} {ρ : En} (e : ρ[j]? = some (some (p, o))) : (ρ.set j (some (p', o))).map (Option.map (·.2)) = ρ.map (Option.map (·.2)) := by
  rw [List.map_set]
  refine set_back ?_
  rw [List.getElem?_map, e]
  rfl
theorem unpin_map (j : Nat) (ρ : En) : (unpin j ρ).map (Option.map (·.2)) = ρ.map (Option.map (·.2)) := by
  unfold unpin
  split
  · rename_i p' o e
    exact map_pin e
  · rfl
theorem unpin_get {j i : Nat} {ρ : En} {o : O} (e : (unpin j ρ)[i]? = some (some (true, o))) : i ≠ j ∧ ρ[i]? = some (some (true, o)) := by
  unfold unpin at e
  split at e
  · rename_i p' o' e'
    by_cases h : i = j
    · subst h
      have li := (List.getElem?_eq_some_iff.mp e').1
      rw [List.getElem?_set_self li] at e
      cases e
    · rw [List.getElem?_set_ne (Ne.symm h)] at e
      exact ⟨h, e⟩
  · rename_i hn
    by_cases h : i = j
    · subst h
      exact absurd e (hn true o)
    · exact ⟨h, e⟩
/-- the pin is taken off -/
theorem Rep.unpin {j : Nat} (r : Rep θ' G Z H ρ σ L) (h : ∀ i, i ≠ j → θ' i = θ i) : Rep θ G Z H (Eng.unpin j ρ) σ L := by
  refine ⟨r.sl.congr (unpin_map j ρ), r.nd, r.dis, r.zd, fun i o e => ?_⟩
  obtain ⟨hi, e'⟩ := unpin_get e
  rw [r.pn i o e', h i hi]
/-- a pin is put on -/
theorem Rep.pinOn {j : Nat} {p : Bool} {o : O} {v : V} (r : Rep θ G Z H ρ σ L) (e : ρ[j]? = some (some (p, o))) (hv : σ[j]? = some (some v)) : Rep (fun i => if i = j then v else θ i) G Z H (ρ.set j (some (true, o))) σ L := by
  refine ⟨r.sl.congr (map_pin e), r.nd, r.dis, r.zd, fun i o' e' => ?_⟩
  by_cases h : i = j
  · subst h
    simp only [if_true]
    exact hv
  · rw [List.getElem?_set_ne (Ne.symm h)] at e'
    simp only [h, if_false]
    exact r.pn i o' e'
theorem PoS.unpin {j : Nat} {o : SOut} (q : PoS X ca W θ Z L H Dn (unpS j o)) (h : ∀ i, i ≠ j → θ' i = θ i) : PoS X ca W θ' Z L H Dn o := by
  cases o with
  | stuck => exact q
  | exc c ρ1 => exact fun Z' H' L' σ' r s => q Z' H' L' σ' (r.unpin h) s
  | nx ρ1 => exact fun Z' H' L' σ' r s => q Z' H' L' σ' (r.unpin h) s
  | bk ρ1 => exact fun Z' H' L' σ' r s => q Z' H' L' σ' (r.unpin h) s
  | ct ρ1 => exact fun Z' H' L' σ' r s => q Z' H' L' σ' (r.unpin h) s
  | rt o ρ1 => exact fun Z' H' L' F v σ' r hh s => q Z' H' L' F v σ' (r.unpin h) hh s

/-! ### for -/
noncomputable def forW (T : Tgt) (fg : List Nat) (b : SS) (x : Option Nat × List D) (ρ : En) : SOut := match x with
  | (none, ds) => forL none T fg b ds ρ
  | (some j, ds) => match ρ[j]? with
    | some (some (true, _)) => forL (some (j, ds)) T fg b ds ρ
    | some (some (false, o)) => unpS j (forL (some (j, ds)) T fg b ds (ρ.set j (some (true, o))))
    | _ => .stuck
noncomputable def sFor (it : IS) (T : Tgt) (fg : List Nat) (b : SS) : SS := fun ρ => (it ρ).bindS fun x ρ1 => forW T fg b x ρ1
theorem ss_for {tg iter : Expr} {body : List Stmt} {T : Tgt} {fg : List Nat} {pos : Pos} (hp : PassesOwn (model X.prog X.w) X.A X.env X.xe) (hc : X.calm = true) (hi : PI X tg iter (RdI X ca W it)) (hg : PG X tg (tgR X ca T)) (hb : PSs X body (RdS X ca W b))
    (hs : ∀ x, foldedSetIterable iter X.env x = pure x) : PS X (.For tg iter body [] pos) (RdS X ca W (sFor it T fg b)) :=
  PS.imp (ps_for hp hc hi hg hb hs) fun Dn σ H ⟨θ, Z, ρ, L, r, q⟩ => by
    refine ⟨θ, Z, ρ, L, r, ?_⟩
    unfold sFor at q
    cases e1 : it ρ with
    | stuck => rw [e1] at q; exact q
    | exc c ρ1 => rw [e1] at q; exact fun Z' H' L' r' s' => q Z' H' L' σ r' s'
    | ok x ρ1 =>
      rw [e1] at q
      obtain ⟨j, ds⟩ := x
      simp only [bindS_ok] at q
      intro Z1 H1 L1 F J r1 s1 sr hz
      cases j with
      | none =>
        obtain ⟨Ok, w, k⟩ := sr.walk (θ := θ)
        exact w.for r1 k (s1.sub fun a h => List.mem_append_right _ h) q
      | some j =>
        cases sr with
        | slot e h =>
          rename_i p a
          unfold forW at q
          simp only at q
          rw [e] at q
          cases p with
          | true =>
            simp only at q
            have hθ := r1.pn j _ e
            rw [h] at hθ
            exact (wlk_slot (Option.some.inj (Option.some.inj hθ)).symm).for r1 e s1 q
          | false =>
            simp only at q
            have r2 := r1.pinOn e h
            have q2 := PoS.unpin (θ' := fun i => if i = j then V.ref a else θ i) q fun i hi => by simp [hi]
            have lj := (List.getElem?_eq_some_iff.mp e).1
            exact (wlk_slot (θ := fun i => if i = j then V.ref a else θ i) (by simp)).for r2 (by rw [List.getElem?_set_self lj]) s1 q2

/-! ### while -/
end
end Eng
set_option maxHeartbeats 1000000
/-! The engine, part 17: a def as a function of objects; its calls. -/
namespace Eng
open PySem PySem.Spec L2
open PyProof.Rows hiding St

/-! ### a def's promise where no text is being told -/
structure EFn (P : Program) (w : World) (K : PySem.W.Frag) (mg : Str → Option Value) (base : Heap) (k : Nat) (f : Addr) (fd : FuncData) (ps : List Str) (sp : Sp) : Prop where
  len : ∀ vs H Q E, sp vs H Q E → vs.length = ps.length
  go : ∀ (A : Around) (outer : List Env) (s : Shared) (H : Hp) (args : Args) (us : List Value) (vs : List V) (Q : VK) (E : XK), A.guards = some [] → Room k A → Env0 P w K mg base A outer s H → BindsTo s fd args (ps.zip us) → Vals vs us → sp vs H Q E →
    codeAny (model P w) A (.call (.ref f) args) (CR (L2.CX P w) outer P w H s Q E) s
theorem EFn.mono {P : Program} {w : World} {K : PySem.W.Frag} {mg : Str → Option Value} {base : Heap} {j k : Nat} {f : Addr} {fd : FuncData} {ps : List Str} {sp : Sp} (F : EFn P w K mg base j f fd ps sp) (h : j ≤ k) : EFn P w K mg base k f fd ps sp :=
  ⟨F.len, fun A outer s H args us vs Q E hg hr => F.go A outer s H args us vs Q E hg (hr.mono h)⟩
theorem EFn.imp {P : Program} {w : World} {K : PySem.W.Frag} {mg : Str → Option Value} {base : Heap} {k : Nat} {f : Addr} {fd : FuncData} {ps : List Str} {sp sp' : Sp} (F : EFn P w K mg base k f fd ps sp) (h : ∀ vs H Q E, sp' vs H Q E → sp vs H Q E) : EFn P w K mg base k f fd ps sp' :=
  ⟨fun vs H Q E q => F.len vs H Q E (h vs H Q E q), fun A outer s H args us vs Q E hg hr e b r q => F.go A outer s H args us vs Q E hg hr e b r (h vs H Q E q)⟩
theorem deeper_guards (A : Around) (env : Env) : (A.deeper env).guards = A.guards := by
  obtain ⟨_, _, _, _, _⟩ := A
  rfl
theorem efn_of {P : Program} {w : World} {K : PySem.W.Frag} {mg : Str → Option Value} {base : Heap} {x qual : Str} {st : Stmt} {f : Addr} {fd : FuncData} {N ps : List Str} {k : Nat} {sp : Sp} (F : Fun K x qual st f fd) (S : FnScope N ps (defScope st)) (len : ∀ vs H Q E, sp vs H Q E → vs.length = ps.length)
    (body : ∀ (cdv : Value) (A : Around) (outer : List Env) (s : Shared) (H : Hp) (vs : List V) (Q : VK) (E : XK), A.guards = some [] → Room k (A.deeper (envOfC qual (defScope st) s.heap.objs.size f cdv)) → sp vs H Q E →
      ∃ t, PSs (cxOf (L2.CX P w) P w K mg base N qual (defScope st) f cdv A outer s H E) (defBody st) t ∧ t { nx := fun _ H' => Q .non H', rt := Q } (L2.start N vs) H) : EFn P w K mg base (k + 1) f fd ps sp := by
  obtain ⟨oc, od, kV, doc, pm, an, cdv, ct, osl, rfl, lk, cd⟩ := F.ex
  refine ⟨len, fun A outer s H args us vs Q E hg hr e0 hb rv hsp => ?_⟩
  have keepB : ∀ b o, base.get? b = some o → s.heap.get? b = some o := fun b o e => (e0.bs b o e).1
  have inK : K.In s.heap := e0.mod.kin.keeps keepB
  have kinds : ∀ y ∈ ps.zip us, (defScope st).names.lookup y.1 = some .local ∨ ((defScope st).names.lookup y.1 = some .cell ∧ ((cellsFrom (s.heap.objs.size + 1) (defScope st).names []).lookup y.1).isSome = true) := by
    rintro ⟨n, u⟩ hy
    exact (S.par n (List.of_mem_zip hy).1).imp id fun q => ⟨q, PySem.W.cellsFrom_some _ _ _ (.inl q)⟩
  refine codeAny_call_function hr.depth (inK f _ lk) rfl S.co S.gen rfl (PySem.W.codeRec_of inK cd) (hb _ _ _ _ ?_)
  refine wpAny_newFunctionEnv_cells S.kind kinds fun env he s1 x => ?_
  subst he
  refine ⟨(e0.mod.nolimit.keeps keepB).keeps x.toInCall.keep, codeAny_func ?_⟩
  obtain ⟨t, ht, q⟩ := body cdv A outer s H vs Q E hg (hr.deeper _) hsp
  have I0 := inv_start (CX := L2.CX P w) (E := E) S hr.hd e0 (len _ _ _ _ hsp) rv x
  refine wpAny_mono (ht.run [] s1 (L2.start N vs) H _ I0 q) (fun fl s' h => ?_) fun e s' h => h
  cases fl with
  | ret u =>
    obtain ⟨v, σ', H', J, r, q⟩ := h
    exact ⟨v, H', J.os, J.bare, J.base, J.hok, r, q⟩
  | next =>
    obtain ⟨σ', H', J, q⟩ := h
    exact ⟨.non, H', J.os, J.bare, J.base, J.hok, rfl, q⟩
  | brk =>
    obtain ⟨_, _, _, q⟩ := h
    exact q.elim
  | cont =>
    obtain ⟨_, _, _, q⟩ := h
    exact q.elim
section
variable {X : Cx} {k : Nat} {f : Addr} {fd : FuncData} {ps : List Str} {sp : Sp} {x : Str} {p pos : Pos} {e : Expr} {es : List Expr} {t : TA} {W : WX}
theorem efn_run {pins : List (Addr × Obj)} {σ : L2.St} {H : Hp} {s : Shared} {Q : VK} {us : List Value} {vs : List V} (F : EFn X.prog X.w X.K X.mg X.base k f fd ps sp) (hg : X.A.guards = some []) (hr : Room k X.A) (hb : Binds X.K fd ps []) (tk : Takes X W)
    (I : Inv X pins σ H s) (r : Vals vs us) (h : sp vs H Q (WE W σ)) : wpAny (model X.prog X.w) X.A (call (.ref f) us) (EP X pins σ Q) X.xe s := by
  have b := hb s us I.kIn
  rw [List.append_nil] at b
  refine wpAny_call (codeAny_mono (F.go X.A X.stack s H ⟨us, []⟩ us vs Q (WE W σ) hg hr I.env0 (b (by rw [← r.length]; exact F.len vs H Q _ h)) r h) fun res s' q => ?_)
  cases res with
  | error e => exact passAt tk σ pins H s e s' I q
  | ok fl =>
    cases fl with
    | ret u => exact I.after q
    | next => exact q.elim
    | brk => exact q.elim
    | cont => exact q.elim
theorem pe_callE (F : EFn X.prog X.w X.K X.mg X.base k f fd ps sp) (hG : X.A.guards = some []) (hr : Room k X.A) (hg : Gl X x) (hm : X.mg x = some (.ref f)) (hk : PySem.W.keepIn X.K (.ref f) = true) (hb : Binds X.K fd ps []) (tk : Takes X W) (ha : PA X (e :: es) t)
    (hdb : (x == ("__debug__" : Str)) = false) (hs : ((e :: es).all notStar) = true) : PE X (.Call (.Name x p) (e :: es) [] pos) (fun σ H Q => t σ H fun vs H1 => sp vs H1 Q (WE W σ)) := by
  rw [List.all_cons, Bool.and_eq_true] at hs
  refine ⟨fun pins s σ H Q I h => wpAny_Call_Name_kw (ld_glob I hg hm ?_ hdb)⟩
  exact PySem.W.callWith_K (h₀ := X.base) I.ok.mod.kin hk (thn (ha.run pos pins s σ H _ I h) fun us s1 ⟨vs, H1, I1, r, q⟩ => ⟨I1.kIn, efn_run F hG hr hb tk I1 r q⟩) (star_cons hs.1) (star_plain hs.2)
end

/-! ### a def as a function of objects -/
inductive FOut where
  | ret (o : O) (fin : List O)
  | exc (c : Nat) (fin : List O)
  | stuck
abbrev FSem := List O → FOut
def O.own : O → Bool
  | .lst _ => true
  | .dic _ => true
  | .set _ => true
  | .ins _ _ => true
  | .exn _ => true
  | _ => false
inductive ArgsOk (G : Gx) (Z : Zs) (H : Hp) : List O → List V → List Addr → Prop
  | nil : ArgsOk G Z H [] [] []
  | cons {o : O} {v : V} {F F' : List Addr} {os : List O} {vs : List V} (h : Ro G Z H o v F) (t : ArgsOk G Z H os vs F') : ArgsOk G Z H (o :: os) (v :: vs) (F ++ F')
inductive FinOk (G : Gx) (Z : Zs) (H : Hp) : List O → List O → List V → List Addr → Prop
  | nil : FinOk G Z H [] [] [] []
  | val {o x : O} {v : V} {F' : List Addr} {os fin : List O} {vs : List V} (ho : o.own = false) (t : FinOk G Z H os fin vs F') : FinOk G Z H (o :: os) (x :: fin) (v :: vs) F'
  | own {o x : O} {v : V} {F F' : List Addr} {os fin : List O} {vs : List V} (ho : o.own = true) (h : Ro G Z H x v F) (t : FinOk G Z H os fin vs F') : FinOk G Z H (o :: os) (x :: fin) (v :: vs) (F ++ F')
def PoF (G : Gx) (Z : Zs) (F : List Addr) (H : Hp) (os : List O) (vs : List V) (Q : VK) (E : XK) : FOut → Prop
  | .ret o fin => ∀ Z' H' F' Fo v, FinOk G Z' H' os fin vs F' → Ro G Z' H' o v Fo → (Fo ++ F').Nodup → (∀ a ∈ Fo ++ F', ¬ Z' a) → (∀ a, Z' a → H' a ≠ none) → Step Z F H Z' (Fo ++ F') H' → Q v H'
  | .exc c fin => ∀ Z' H' F', FinOk G Z' H' os fin vs F' → F'.Nodup → (∀ a ∈ F', ¬ Z' a) → (∀ a, Z' a → H' a ≠ none) → Step Z F H Z' F' H' → E (.ref (G.ca c)) none H'
  | .stuck => False
/-- the promise: as the function tells -/
def spF (G : Gx) (n : Nat) (g : FSem) : Sp := fun vs H Q E => ∃ Z os F, vs.length = n ∧ ArgsOk G Z H os vs F ∧ F.Nodup ∧ (∀ a ∈ F, ¬ Z a) ∧ (∀ a, Z a → H a ≠ none) ∧ PoF G Z F H os vs Q E (g os)
def startE (n : Nat) (os : List O) : En := os.map (fun o => some (o.own, o)) ++ List.replicate (n - os.length) none
def fins : List O → En → Option (List O)
  | [], _ => some []
  | o :: os, sl :: ρ => if o.own = true then match sl with
      | some (true, x) => match fins os ρ with
        | some r => some (x :: r)
        | none => none
      | _ => none
    else match fins os ρ with
      | some r => some (o :: r)
      | none => none
  | _ :: _, [] => none
def runF (n : Nat) (b : SS) : FSem := fun os => match b (startE n os) with
  | .nx ρ => match fins os ρ with
    | some fin => .ret (.val .none) fin
    | none => .stuck
  | .rt o ρ => match fins os ρ with
    | some fin => .ret o fin
    | none => .stuck
  | .exc c ρ => match fins os ρ with
    | some fin => .exc c fin
    | none => .stuck
  | _ => .stuck
section
variable {G : Gx} {Z Z' : Zs} {H H' : Hp} {L F : List Addr} {os fin : List O} {vs : List V} {ρ : En} {σ : L2.St} {θ : Nat → V}
theorem ArgsOk.length : ∀ {os : List O} {vs : List V} {F : List Addr}, ArgsOk G Z H os vs F → vs.length = os.length
  | _, _, _, .nil => rfl
  | _, _, _, .cons _ t => by rw [List.length_cons, List.length_cons, ArgsOk.length t]
theorem start_ros (N : List Str) : ∀ {os : List O} {vs : List V} {F : List Addr}, ArgsOk G Z H os vs F → ∀ m, RoS G Z H (os.map (fun o => some (o.own, o)) ++ List.replicate m none) (vs.map some ++ List.replicate m none) F
  | _, _, _, .nil, 0 => .emp
  | _, _, _, .nil, m + 1 => by
    show RoS G Z H (none :: List.replicate m none) (none :: List.replicate m none) []
    exact .no (start_ros N .nil m)
  | _, _, _, .cons h t, m => by
    have := start_ros N t m
    simp only [List.map_cons, List.cons_append]
    exact .yes h this
theorem start_rep (N : List Str) (a : ArgsOk G Z H os vs F) (nd : F.Nodup) (dis : ∀ a ∈ F, ¬ Z a) (zd : ∀ a, Z a → H a ≠ none) : Rep (fun i => vs.getD i .non) G Z H (startE N.length os) (L2.start N vs) F := by
  unfold startE L2.start
  have hl := a.length
  refine ⟨by rw [hl]; exact start_ros N a _, nd, dis, zd, fun i o e => ?_⟩
  by_cases hi : i < os.length
  · have hv : i < vs.length := by omega
    rw [List.getElem?_append_left (by simpa using hv), List.getElem?_map]
    simp [hv]
  · rw [List.getElem?_append_right (by simpa using hi), List.getElem?_replicate] at e
    split at e <;> cases e
theorem fins_ok : ∀ {os : List O} {ρ : En} {fin : List O} {σ : L2.St} {L : List Addr} {vs : List V}, RoS G Z H ρ σ L → vs.length = os.length → fins os ρ = some fin → L.Nodup → (∀ a ∈ L, ¬ Z a) → (∀ i o, ρ[i]? = some (some (true, o)) → i < os.length → σ[i]? = some (vs[i]?)) →
    ∃ F', FinOk G Z H os fin vs F' ∧ F'.Nodup ∧ (∀ a ∈ F', a ∈ L)
  | [], ρ, fin, σ, L, vs, _, hl, e, _, _, _ => by
    cases vs with
    | cons => simp at hl
    | nil =>
      simp only [fins, Option.some.injEq] at e
      subst e
      exact ⟨[], .nil, List.nodup_nil, fun _ h => by cases h⟩
  | o :: os, ρ, fin, σ, L, [], _, hl, _, _, _, _ => by simp at hl
  | o :: os, ρ, fin, σ, L, v :: vs, r, hl, e, nd, dis, hp => by
    cases r with
    | emp => simp [fins] at e
    | no t =>
      unfold fins at e
      split at e
      · cases e
      · rename_i ho
        split at e
        · rename_i r' e'
          cases e
          obtain ⟨F', h1, h2, h3⟩ := fins_ok (vs := vs) t (by simpa using hl) e' nd dis fun i o hi hlt => by simpa using hp (i + 1) o (by simpa using hi) (by simpa using hlt)
          exact ⟨F', .val (by simpa using ho) h1, h2, h3⟩
        · cases e
    | yes h t =>
      rename_i p o' v' F0 L0
      have n := List.nodup_append.mp nd
      unfold fins at e
      split at e
      · rename_i ho
        cases p with
        | false => cases e
        | true =>
          simp only at e
          split at e
          · rename_i r' e'
            cases e
            obtain ⟨F', h1, h2, h3⟩ := fins_ok (vs := vs) t (by simpa using hl) e' n.2.1 (fun a ha => dis a (List.mem_append_right _ ha)) fun i o hi hlt => by simpa using hp (i + 1) o (by simpa using hi) (by simpa using hlt)
            have hv := hp 0 o' (by simp) (by simp)
            simp only [List.getElem?_cons_zero, Option.some.injEq] at hv
            subst hv
            refine ⟨_, .own ho h h1, List.nodup_append.mpr ⟨n.1, h2, fun a ha c hc => n.2.2 a ha c (h3 c hc)⟩, fun a ha => ?_⟩
            exact (List.mem_append.mp ha).elim (fun h => List.mem_append_left _ h) fun h => List.mem_append_right _ (h3 a h)
          · cases e
      · rename_i ho
        split at e
        · rename_i r' e'
          cases e
          obtain ⟨F', h1, h2, h3⟩ := fins_ok (vs := vs) t (by simpa using hl) e' n.2.1 (fun a ha => dis a (List.mem_append_right _ ha)) fun i o hi hlt => by simpa using hp (i + 1) o (by simpa using hi) (by simpa using hlt)
          exact ⟨F', .val (by simpa using ho) h1, h2, fun a ha => List.mem_append_right _ (h3 a ha)⟩
        · cases e
theorem fins_rep {N : List Str} (r : Rep (fun i => vs.getD i .non) G Z H ρ σ L) (hl : vs.length = os.length) (e : fins os ρ = some fin) : ∃ F', FinOk G Z H os fin vs F' ∧ F'.Nodup ∧ (∀ a ∈ F', a ∈ L) :=
  fins_ok r.sl hl e r.nd r.dis fun i o hi hlt => by
    have := r.pn i o hi
    rw [this]
    have hv : i < vs.length := by omega
    simp [hv]
end
/-- THE RULE: a def by its body's reading -/
theorem efn_body {P : Program} {w : World} {K : PySem.W.Frag} {mg : Str → Option Value} {base : Heap} {ca : Nat → Addr} {x qual : Str} {st : Stmt} {f : Addr} {fd : FuncData} {N ps : List Str} {k : Nat} {b : SS} (F : Fun K x qual st f fd) (S : FnScope N ps (defScope st))
    (body : ∀ (cdv : Value) (A : Around) (outer : List Env) (s : Shared) (H : Hp) (E : XK), A.guards = some [] → Room k (A.deeper (envOfC qual (defScope st) s.heap.objs.size f cdv)) →
      PSs (cxOf (L2.CX P w) P w K mg base N qual (defScope st) f cdv A outer s H E) (defBody st) (RdS (cxOf (L2.CX P w) P w K mg base N qual (defScope st) f cdv A outer s H E) ca (fun cls d _ H => E cls d H) b)) :
    EFn P w K mg base (k + 1) f fd ps (spF ⟨P, w, K, ca⟩ ps.length (runF N.length b)) := by
  refine efn_of F S (fun vs H Q E ⟨_, _, _, h, _⟩ => h) fun cdv A outer s H vs Q E hg hr ⟨Z, os, F0, hl, ha, nd, dis, zd, q⟩ => ⟨_, body cdv A outer s H E hg hr, fun i => vs.getD i .non, Z, startE N.length os, F0, start_rep N ha nd dis zd, ?_⟩
  have hlen := ha.length
  unfold runF at q
  cases e : b (startE N.length os) with
  | stuck => rw [e] at q; exact q
  | bk ρ => rw [e] at q; exact q.elim
  | ct ρ => rw [e] at q; exact q.elim
  | nx ρ =>
    rw [e] at q
    intro Z' H' L' σ' r s
    simp only at q
    split at q
    · rename_i fin e2
      obtain ⟨F', h1, h2, h3⟩ := fins_rep (N := N) r hlen e2
      exact q Z' H' F' [] .non h1 (.val .non) h2 (fun a ha => r.dis a (h3 a ha)) r.zd (s.sub h3)
    · exact q.elim
  | rt o ρ =>
    rw [e] at q
    intro Z' H' L' Fo v σ' r hh s
    simp only at q
    split at q
    · rename_i fin e2
      obtain ⟨F', h1, h2, h3⟩ := fins_rep (N := N) r hlen e2
      have n := List.nodup_append.mp hh.nd
      have sub : ∀ a ∈ Fo ++ F', a ∈ Fo ++ L' := fun a ha => (List.mem_append.mp ha).elim (fun h => List.mem_append_left _ h) fun h => List.mem_append_right _ (h3 a h)
      exact q Z' H' F' Fo v h1 hh.one (List.nodup_append.mpr ⟨n.1, h2, fun a ha c hc => n.2.2 a ha c (h3 c hc)⟩) (fun a ha => (List.mem_append.mp ha).elim (hh.dis a) fun h => r.dis a (h3 a h)) r.zd (s.sub sub)
    · exact q.elim
  | exc c ρ =>
    rw [e] at q
    intro Z' H' L' σ' r s
    simp only at q
    split at q
    · rename_i fin e2
      obtain ⟨F', h1, h2, h3⟩ := fins_rep (N := N) r hlen e2
      exact q Z' H' F' h1 h2 (fun a ha => r.dis a (h3 a ha)) r.zd (s.sub h3)
    · exact q.elim
end Eng
set_option maxHeartbeats 1000000
/-! The engine, part 18: calls read; raise; try. -/
namespace Eng
open PySem PySem.Spec L2
open PyProof.Rows hiding St

/-! ### arguments lifted out of their names -/
def lift1 (ρ : En) : Opd → Option (O × Option Bool × En)
  | .tmp o => some (o, none, ρ)
  | .nm i => match ρ[i]? with
    | some (some (p, o)) => if o.own = true then some (o, some p, ρ.set i none) else some (o, none, ρ)
    | _ => none
def lift (ρ : En) : List Opd → Option (List O × List (Option Bool) × En)
  | [] => some ([], [], ρ)
  | p :: ps => match lift1 ρ p with
    | some (o, b, ρ1) => match lift ρ1 ps with
      | some (os, bs, ρ2) => some (o :: os, b :: bs, ρ2)
      | none => none
    | none => none
def backs : List Opd → List (Option Bool) → List O → En → En
  | .nm i :: ps, some p :: bs, x :: fin, ρ => (backs ps bs fin ρ).set i (some (p, x))
  | _ :: ps, _ :: bs, _ :: fin, ρ => backs ps bs fin ρ
  | _, _, _, ρ => ρ
def callE (g : FSem) (ρ : En) (ps : List Opd) : Out Opd := match lift ρ ps with
  | some (os, bs, ρ1) => match g os with
    | .ret o fin => .ok (.tmp o) (backs ps bs fin ρ1)
    | .exc c fin => .exc c (backs ps bs fin ρ1)
    | .stuck => .stuck
  | none => .stuck
def oCall (g : FSem) (as : AS) : ES := fun ρ => (as ρ).bind fun ps ρ1 => callE g ρ1 ps
section
variable {X : Cx} {ca : Nat → Addr} {W : WX} {f g : ES} {as : AS} {G : Gx} {b : SS} {t : TS'} {it : IS}
variable {θ θ' : Nat → V} {Z Z1 Z0 Z' : Zs} {L L1 L0 L' F F0 : List Addr} {H H1 H0 H' : Hp} {σ σ' : L2.St} {ρ ρ1 ρ' : En} {Dn : Ends}
theorem lift1_none {p : Opd} {o : O} {bb : Option Bool} {i : Nat} (e : lift1 ρ p = some (o, bb, ρ1)) (h : ρ[i]? = some none) : ρ1[i]? = some none := by
  cases p with
  | tmp o' =>
    simp only [lift1, Option.some.injEq, Prod.mk.injEq] at e
    rw [← e.2.2]; exact h
  | nm j =>
    simp only [lift1] at e
    split at e
    · rename_i p' o' e'
      split at e
      · simp only [Option.some.injEq, Prod.mk.injEq] at e
        rw [← e.2.2]
        by_cases hj : j = i
        · subst hj; rw [h] at e'; cases e'
        · rw [List.getElem?_set_ne hj]; exact h
      · simp only [Option.some.injEq, Prod.mk.injEq] at e
        rw [← e.2.2]; exact h
    · cases e
theorem lift_none : ∀ {ps : List Opd} {os : List O} {bs : List (Option Bool)} {ρ ρ2 : En} {i : Nat}, lift ρ ps = some (os, bs, ρ2) → ρ[i]? = some none → ρ2[i]? = some none ∧ ∀ fin ρ3, ρ3[i]? = some none → (backs ps bs fin ρ3)[i]? = some none
  | [], _, _, ρ, ρ2, i, e, h => by
    simp only [lift, Option.some.injEq, Prod.mk.injEq] at e
    obtain ⟨rfl, rfl, rfl⟩ := e
    exact ⟨h, fun fin ρ3 h3 => by simpa [backs] using h3⟩
  | p :: ps, os, bs, ρ, ρ2, i, e, h => by
    unfold lift at e
    split at e
    · rename_i o bb ρ1 e1
      split at e
      · rename_i os' bs' ρ2' e2
        simp only [Option.some.injEq, Prod.mk.injEq] at e
        obtain ⟨rfl, rfl, rfl⟩ := e
        have h1 := lift1_none e1 h
        obtain ⟨k1, k2⟩ := lift_none e2 h1
        refine ⟨k1, fun fin ρ3 h3 => ?_⟩
        cases fin with
        | nil => cases p <;> cases bb <;> simpa [backs] using h3
        | cons x fin =>
          cases p with
          | tmp o' => cases bb <;> simpa [backs] using k2 fin ρ3 h3
          | nm j =>
            cases bb with
            | none => simpa [backs] using k2 fin ρ3 h3
            | some p' =>
              simp only [backs]
              by_cases hj : j = i
              · subst hj
                simp only [lift1, h] at e1
                cases e1
              · rw [List.getElem?_set_ne hj]
                exact k2 fin ρ3 h3
      · cases e
    · cases e
/-- the arguments as a callee gets them, and how they come back -/
theorem call_args : ∀ {ps : List Opd} {vs : List V} {F : List Addr} {ρ ρ2 : En} {L : List Addr} {os : List O} {bs : List (Option Bool)}, Rep θ G Z H ρ σ L → Held G Z H σ L ps vs F → lift ρ ps = some (os, bs, ρ2) →
    ∃ FA L2, Rep θ G Z H ρ2 σ L2 ∧ ArgsOk G Z H os vs FA ∧ (FA ++ L2).Nodup ∧ (∀ a ∈ FA, ¬ Z a) ∧ (∀ a, a ∈ FA ++ L2 → a ∈ F ++ L) ∧
      ∀ Z' H' fin F', Rep θ G Z' H' ρ2 σ L2 → FinOk G Z' H' os fin vs F' → (F' ++ L2).Nodup → (∀ a ∈ F', ¬ Z' a) → ∃ L3, Rep θ G Z' H' (backs ps bs fin ρ2) σ L3 ∧ ∀ a ∈ L3, a ∈ F' ++ L2
  | [], vs, F, ρ, ρ2, L, os, bs, r, h, e => by
    simp only [lift, Option.some.injEq, Prod.mk.injEq] at e
    obtain ⟨rfl, rfl, rfl⟩ := e
    have ho := h.ok
    cases ho
    exact ⟨[], L, r, .nil, r.nd, (fun _ q => by cases q), fun a ha => ha, fun Z' H' fin F' r' hf nd _ => by
      cases hf
      exact ⟨L, by simpa [backs] using r', fun a ha => ha⟩⟩
  | p :: ps, vs, F, ρ, ρ2, L, os, bs, r, h, e => by
    unfold lift at e
    split at e
    · rename_i o bb ρ1 e1
      split at e
      · rename_i os' bs' ρ2' e2
        simp only [Option.some.injEq, Prod.mk.injEq] at e
        obtain ⟨rfl, rfl, rfl⟩ := e
        have ho := h.ok
        cases vs with
        | nil => cases ho
        | cons v vs =>
          obtain ⟨F1, F2, rfl, o1, o2⟩ := ho.cons_split
          have nd := h.nd
          rw [List.append_assoc] at nd
          have n1 := List.nodup_append.mp nd
          have n2 := List.nodup_append.mp n1.2.1
          cases p with
          | tmp o' =>
            simp only [lift1, Option.some.injEq, Prod.mk.injEq] at e1
            obtain ⟨rfl, rfl, rfl⟩ := e1
            have h2 : Held G Z H σ L ps vs F2 := ⟨o2, n1.2.1, fun a ha => h.dis a (List.mem_append_right _ ha)⟩
            obtain ⟨FA, L2, r2, ha, ndA, disA, sub, bk⟩ := call_args r h2 e2
            have hr : Ro G Z H o' v F1 := by
              cases o1 with
              | tmp h5 t5 =>
                cases t5
                rw [List.append_nil]; exact h5
            have nA := List.nodup_append.mp ndA
            refine ⟨F1 ++ FA, L2, r2, .cons hr ha, ?_, fun a ha => (List.mem_append.mp ha).elim (fun q => h.dis a (List.mem_append_left _ q)) (disA a), fun a ha => ?_, fun Z' H' fin F' r' hf nd' dis' => ?_⟩
            · rw [List.append_assoc]
              refine List.nodup_append.mpr ⟨n1.1, ndA, fun a ha c hc q => ?_⟩
              subst q
              exact n1.2.2 a ha a (sub a hc) rfl
            · rw [List.append_assoc] at ha ⊢
              exact (List.mem_append.mp ha).elim (fun q => List.mem_append_left _ q) fun q => List.mem_append_right _ (sub a q)
            · cases hf with
              | val hv hf =>
                obtain ⟨L3, r3, s3⟩ := bk Z' H' _ _ r' hf nd' dis'
                exact ⟨L3, by simpa [backs] using r3, s3⟩
              | own hv hx hf =>
                rw [List.append_assoc] at nd'
                have m := List.nodup_append.mp nd'
                obtain ⟨L3, r3, s3⟩ := bk Z' H' _ _ r' hf m.2.1 (fun a ha => dis' a (List.mem_append_right _ ha))
                exact ⟨L3, by simpa [backs] using r3, fun a ha => by rw [List.append_assoc]; exact List.mem_append_right _ (s3 a ha)⟩
          | nm j =>
            have hj : F1 = [] ∧ σ[j]? = some (some v) := by
              cases o1 with
              | nm h5 t5 => cases t5; exact ⟨rfl, h5⟩
            obtain ⟨rfl, hv⟩ := hj
            simp only [lift1] at e1
            split at e1
            · rename_i pn ob eb
              split at e1
              · rename_i hown
                simp only [Option.some.injEq, Prod.mk.injEq] at e1
                obtain ⟨rfl, rfl, rfl⟩ := e1
                obtain ⟨Fi, Li, vi, k1, k2, k3, k4, k5, k6, k7⟩ := r.lift eb
                rw [hv] at k1
                cases k1
                have nn := List.nodup_append.mp n1.2.1
                have inL : ∀ a, a ∈ Li → a ∈ L := fun a ha => (k6 a).mp (List.mem_append_right _ ha)
                have h2 : Held G Z H σ Li ps vs F2 := ⟨o2, List.nodup_append.mpr ⟨nn.1, k3.nd, fun a ha c hc => nn.2.2 a ha c (inL c hc)⟩, fun a ha => h.dis a (by simpa using ha)⟩
                obtain ⟨FA, L2, r2, ha, ndA, disA, sub, bk⟩ := call_args k3 h2 e2
                have kk := List.nodup_append.mp k4
                have hne : ∀ a ∈ Fi, a ∉ FA ++ L2 := fun a ha hc => by
                  rcases List.mem_append.mp (sub a hc) with q | q
                  · exact nn.2.2 a q a ((k6 a).mp (List.mem_append_left _ ha)) rfl
                  · exact kk.2.2 a ha a q rfl
                refine ⟨Fi ++ FA, L2, r2, .cons k2 ha, ?_, fun a ha => (List.mem_append.mp ha).elim (k5 a) (disA a), fun a ha => ?_, fun Z' H' fin F' r' hf nd' dis' => ?_⟩
                · rw [List.append_assoc]
                  exact List.nodup_append.mpr ⟨kk.1, ndA, fun a ha c hc q => hne a ha (q ▸ hc)⟩
                · rw [List.append_assoc] at ha
                  rw [List.nil_append]
                  rcases List.mem_append.mp ha with q | q
                  · exact List.mem_append_right _ ((k6 a).mp (List.mem_append_left _ q))
                  · exact (List.mem_append.mp (sub a q)).elim (fun q => List.mem_append_left _ q) fun q => List.mem_append_right _ (inL a q)
                · cases hf with
                  | val hv' hf => rw [hown] at hv'; cases hv'
                  | own hv' hx hf =>
                    rw [List.append_assoc] at nd'
                    have m := List.nodup_append.mp nd'
                    obtain ⟨L3, r3, s3⟩ := bk Z' H' _ _ r' hf m.2.1 (fun a ha => dis' a (List.mem_append_right _ ha))
                    have lj := (List.getElem?_eq_some_iff.mp eb).1
                    have hn := (lift_none e2 (i := j) (by rw [List.getElem?_set_self lj]))
                    have hn2 := fun fin => hn.2 fin _ hn.1
                    obtain ⟨L4, r4, s4⟩ := r3.back (i := j) (p := pn) (hn2 _) hv hx (List.nodup_append.mpr ⟨m.1, r3.nd, fun a ha c hc q => m.2.2 a ha c (s3 c hc) q⟩) (fun a ha => dis' a (List.mem_append_left _ ha)) k7
                    refine ⟨L4, by simpa [backs] using r4, fun a ha => ?_⟩
                    rw [List.append_assoc]
                    exact (List.mem_append.mp ((s4 a).mp ha)).elim (fun q => List.mem_append_left _ q) fun q => List.mem_append_right _ (s3 a q)
              · rename_i hown
                simp only [Option.some.injEq, Prod.mk.injEq] at e1
                obtain ⟨rfl, rfl, rfl⟩ := e1
                have h2 : Held G Z H σ L ps vs F2 := ⟨o2, n1.2.1, fun a ha => h.dis a (by simpa using ha)⟩
                obtain ⟨FA, L2, r2, ha, ndA, disA, sub, bk⟩ := call_args r h2 e2
                obtain ⟨vi, Fi, k1, k2, _⟩ := r.sl.get eb
                rw [hv] at k1
                cases k1
                have hr : Ro G Z H ob v [] := by
                  cases k2 with
                  | val q => exact .val q
                  | scr q => exact .scr q
                  | _ => exact absurd rfl hown
                refine ⟨[] ++ FA, L2, r2, .cons hr ha, by simpa using ndA, fun a ha => disA a (by simpa using ha), fun a ha => sub a (by simpa using ha), fun Z' H' fin F' r' hf nd' dis' => ?_⟩
                cases hf with
                | val hv' hf =>
                  obtain ⟨L3, r3, s3⟩ := bk Z' H' _ _ r' hf nd' dis'
                  exact ⟨L3, by simpa [backs] using r3, s3⟩
                | own hv' hx hf => exact absurd hv' hown
            · cases e1
      · cases e
    · cases e
theorem Rep.aside (r : Rep θ G Z H ρ σ L) {F M : List Addr} (mu : ∀ a ∈ F, Mut (H a)) (nd : (F ++ L).Nodup) (dz : ∀ a ∈ F, ¬ Z a) (s : Step Z F H Z' M H') (zd : ∀ a, Z' a → H' a ≠ none) : Rep θ G Z' H' ρ σ L := by
  have n := List.nodup_append.mp nd
  have mL := r.sl.mut
  have nF : ∀ a ∈ L, a ∉ F := fun a ha hf => n.2.2 a hf a ha rfl
  refine ⟨r.sl.kp (s.kp mu dz) fun a ha u e => s.keep a u e (nF a ha), r.nd, fun a ha z => ?_, zd, r.pn⟩
  rcases s.znew a z with q | q | q
  · exact r.dis a ha q
  · exact nF a ha q
  · exact mut_some (mL a ha) q
theorem ArgsOk.mut : ∀ {os : List O} {vs : List V} {F : List Addr}, ArgsOk G Z H os vs F → ∀ a ∈ F, Mut (H a)
  | _, _, _, .nil, _, h => by cases h
  | _, _, _, .cons h t, a, ha => (List.mem_append.mp ha).elim (h.mut a) (ArgsOk.mut t a)
/-- a call's answer -/
theorem rd_call {fn : FSem} {n : Nat} {Q : VK} (q : RdE X ca W (oCall fn as) σ H Q) (hn : ∀ σ H Q, RdA X ca W as σ H Q → RdA X ca W as σ H fun vs H' => vs.length = n ∧ Q vs H') : RdA X ca W as σ H fun vs H1 => spF (gx X ca) n fn vs H1 Q (WE W σ) := by
  have key : RdA X ca W as σ H fun vs H1 => vs.length = n → spF (gx X ca) n fn vs H1 Q (WE W σ) := by
    obtain ⟨θ, Z, ρ, L, r, q⟩ := q
    refine ⟨θ, Z, ρ, L, r, ?_⟩
    unfold oCall at q
    cases e1 : as ρ with
    | stuck => rw [e1] at q; exact q
    | exc c ρ1 => rw [e1] at q; exact q
    | ok ps ρ1 =>
      rw [e1] at q
      simp only [bind_ok] at q
      intro Z1 H1 L1 F vs r1 h1 s1 hl
      unfold callE at q
      cases e2 : lift ρ1 ps with
      | none => rw [e2] at q; exact q.elim
      | some x =>
        obtain ⟨os, bs, ρ2⟩ := x
        rw [e2] at q
        simp only at q
        obtain ⟨FA, L2, r2, ha, ndA, disA, sub, bk⟩ := call_args r1 h1 e2
        have nA := List.nodup_append.mp ndA
        have muA := ha.mut
        refine ⟨Z1, os, FA, hl, ha, nA.1, disA, r2.zd, ?_⟩
        -- behind the call
        have beh : ∀ {Z' H' M}, Step Z1 FA H1 Z' M H' → M.Nodup → (∀ a, Z' a → H' a ≠ none) → Rep θ (gx X ca) Z' H' ρ2 σ L2 ∧ (M ++ L2).Nodup ∧ Step Z L H Z' (M ++ L2) H' := fun {Z' H' M} s nM zd => by
          have rr := r2.aside muA ndA disA s zd
          refine ⟨rr, List.nodup_append.mpr ⟨nM, r2.nd, fun a ha c hc q => ?_⟩, ?_⟩
          · subst q
            rcases s.lnew a ha with q | q
            · exact nA.2.2 a q a hc rfl
            · exact mut_some (r2.sl.mut a hc) q
          · have sA : Step Z L H Z1 (L2 ++ FA) H1 := s1.sub fun a ha => sub a ((List.mem_append.mp ha).elim (fun q => List.mem_append_right _ q) fun q => List.mem_append_left _ q)
            exact (sA.then s).sub fun a ha => (List.mem_append.mp ha).elim (fun q => List.mem_append_right _ q) fun q => List.mem_append_left _ q
        cases e3 : fn os with
        | stuck => rw [e3] at q; exact q
        | ret o fin =>
          rw [e3] at q
          intro Z' H' F' Fo v hf ho nd dis zd s
          have n := List.nodup_append.mp nd
          obtain ⟨rr, ndM, st⟩ := beh s nd zd
          rw [List.append_assoc] at ndM
          have m := List.nodup_append.mp ndM
          obtain ⟨L3, r3, s3⟩ := bk Z' H' fin F' rr hf m.2.1 fun a ha => dis a (List.mem_append_right _ ha)
          refine q Z' H' L3 Fo v r3 (.tmp ho (List.nodup_append.mpr ⟨n.1, r3.nd, fun a ha c hc => m.2.2 a ha c (s3 c hc)⟩) fun a ha => dis a (List.mem_append_left _ ha)) (st.sub fun a ha => ?_)
          rw [List.append_assoc]
          exact (List.mem_append.mp ha).elim (fun q => List.mem_append_left _ q) fun q => List.mem_append_right _ (s3 a q)
        | exc c fin =>
          rw [e3] at q
          intro Z' H' F' hf nd dis zd s
          obtain ⟨rr, ndM, st⟩ := beh s nd zd
          obtain ⟨L3, r3, s3⟩ := bk Z' H' fin F' rr hf ndM dis
          exact q Z' H' L3 r3 (st.sub s3)
  exact (hn _ _ _ key).mono fun vs H' ⟨h1, h2⟩ => h2 h1
theorem rdA_len : ∀ {fs : List ES} {σ : L2.St} {H : Hp} {Q : List V → Hp → Prop}, RdA X ca W (oAs fs) σ H Q → RdA X ca W (oAs fs) σ H fun vs H' => vs.length = fs.length ∧ Q vs H' := by
  intro fs σ H Q ⟨θ, Z, ρ, L, r, q⟩
  have len : ∀ {fs : List ES} {ρ ρ1 : En} {ps : List Opd}, oAs fs ρ = .ok ps ρ1 → ps.length = fs.length := by
    intro fs
    induction fs with
    | nil => intro ρ ρ1 ps e; cases e; rfl
    | cons f fs ih =>
      intro ρ ρ1 ps e
      unfold oAs at e
      cases e1 : f ρ with
      | stuck => rw [e1] at e; cases e
      | exc => rw [e1] at e; cases e
      | ok p ρ2 =>
        rw [e1] at e
        simp only [bind_ok] at e
        cases e2 : oAs fs ρ2 with
        | stuck => rw [e2] at e; cases e
        | exc => rw [e2] at e; cases e
        | ok ps' ρ3 =>
          rw [e2] at e
          cases e
          rw [List.length_cons, List.length_cons, ih e2]
  have olen : ∀ {ps : List Opd} {vs : List V} {H : Hp} {Z : Zs} {F : List Addr}, OpsOk (gx X ca) Z H σ ps vs F → vs.length = ps.length := by
    intro ps vs H Z F h
    induction h with
    | nil => rfl
    | tmp _ _ ih => rw [List.length_cons, List.length_cons, ih]
    | nm _ _ ih => rw [List.length_cons, List.length_cons, ih]
  refine ⟨θ, Z, ρ, L, r, ?_⟩
  cases e : oAs fs ρ with
  | stuck => rw [e] at q; exact q
  | exc c ρ1 => rw [e] at q; exact q
  | ok ps ρ1 =>
    rw [e] at q
    exact fun Z' H' L' F vs r' h' s' => ⟨(olen h'.ok).trans (len e), q Z' H' L' F vs r' h' s'⟩
theorem se_call {fn : FSem} {k : Nat} {fa : Addr} {fd : FuncData} {ps : List Str} {x : Str} {p pos : Pos} {e : Expr} {es : List Expr} {fs : List ES} (Fn : EFn X.prog X.w X.K X.mg X.base k fa fd ps (spF (gx X ca) fs.length fn)) (hG : X.A.guards = some []) (hr : Room k X.A) (hm : X.mg x = some (.ref fa)) (hk : PySem.W.keepIn X.K (.ref fa) = true)
    (hb : Binds X.K fd ps []) (tk : Takes X W) (hg : Gl X x) (ha : PA X (e :: es) (RdA X ca W (oAs fs))) (hdb : (x == ("__debug__" : Str)) = false) (hs : ((e :: es).all notStar) = true) : PE X (.Call (.Name x p) (e :: es) [] pos) (RdE X ca W (oCall fn (oAs fs))) :=
  PE.imp (pe_callE Fn hG hr hg hm hk hb tk ha hdb hs) fun σ H Q h => rd_call h fun _ _ _ h => rdA_len h

/-! ### raise -/
def sRaise (c : Nat) : SS := fun ρ => .exc c ρ
theorem ss_raise {C : Addr} {c : Nat} {x m : Str} {j : Nat} {p p2 pos pos' : Pos} {bmB : List Value} {B newId initId : String} (hC : ca c = C) (hc : X.calm = true) (tk : Takes X W) (Fx : ExcBaseFacts B newId initId bmB) (q : PySem.W.excIn X.K C bmB newId = true) (gC : X.mg x = some (.ref C)) (kC : PySem.W.keepIn X.K (.ref C) = true)
    (r : Raises X (.ref C)) (hg : Gl X x) (hdb : (x == ("__debug__" : Str)) = false) : PS X (.Raise (some (.Call (.Name x p) [.Constant (.str m) j p2] [] pos')) none pos) (RdS X ca W (sRaise c)) :=
  PS.imp (ps_raise hc tk (pmk_own Fx q gC kC r hg hdb)) fun D σ H ⟨θ, Z, ρ, L, rr, qq⟩ => by
    subst hC
    exact qq Z H L σ rr Step.refl
end
end Eng
set_option maxHeartbeats 1000000
/-! The engine, part 19: list comprehensions. -/
namespace Eng
open PySem PySem.Spec L2
open PyProof.Rows hiding St

/-- what is wanted between two turns of a comprehension -/
def lcC (c : Option (Nat × List D)) (own : List Nat) (ρ : En) : Prop := chkE c ρ ∧ ∀ i ∈ own, ρ[i]? = some none
open Classical in
noncomputable def lcL (c : Option (Nat × List D)) (T : Tgt) (t : TS') (f : ES) (own : List Nat) : List D → List D → En → Out (List D)
  | [], acc, ρ => .ok acc ρ
  | d :: ds, acc, ρ => match T.put d ρ with
    | none => .stuck
    | some ρ1 => match t ρ1 with
      | .ok b ρ2 => if b = true then match f ρ2 with
          | .ok p ρ3 => match give ρ3 p with
            | some (e, ρ4) => if lcC c own (dropE own ρ4) then lcL c T t f own ds (acc ++ [e]) (dropE own ρ4) else .stuck
            | none => .stuck
          | _ => .stuck
        else if lcC c own (dropE own ρ2) then lcL c T t f own ds acc (dropE own ρ2) else .stuck
      | _ => .stuck
/-- the names of the block hold what they held -/
def rest1 (ρ0 : En) (i : Nat) (ρ : En) : En := match ρ0[i]? with
  | some (some (false, .val d)) => ρ.set i (some (false, .val d))
  | _ => ρ
def restE (ρ0 : En) : List Nat → En → En
  | [], ρ => ρ
  | i :: is, ρ => match ρ[i]? with
    | some none => restE ρ0 is (rest1 ρ0 i ρ)
    | _ => restE ρ0 is ρ
open Classical in
noncomputable def lcW (c : Option (Nat × List D)) (T : Tgt) (t : TS') (f : ES) (own : List Nat) (ds : List D) (ρ : En) : Out (List D) :=
  if lcC c own (dropE own ρ) then match lcL c T t f own ds [] (dropE own ρ) with
    | .ok acc ρ2 => .ok acc (restE ρ own ρ2)
    | _ => .stuck
  else .stuck
noncomputable def lcE (T : Tgt) (t : TS') (f : ES) (own : List Nat) (x : Option Nat × List D) (ρ : En) : Out Opd := match x with
  | (none, ds) => (lcW none T t f own ds ρ).bind fun acc ρ2 => .ok (.tmp (.lst acc)) ρ2
  | (some j, ds) => match ρ[j]? with
    | some (some (true, _)) => (lcW (some (j, ds)) T t f own ds ρ).bind fun acc ρ2 => .ok (.tmp (.lst acc)) ρ2
    | some (some (false, o)) => (lcW (some (j, ds)) T t f own ds (ρ.set j (some (true, o)))).bind fun acc ρ2 => .ok (.tmp (.lst acc)) (unpin j ρ2)
    | _ => .stuck
noncomputable def oLc (it : IS) (T : Tgt) (t : TS') (f : ES) (own : List Nat) : ES := fun ρ => (it ρ).bind fun x ρ1 => lcE T t f own x ρ1
def tTrue : TS' := fun ρ => .ok true ρ
abbrev WF : WX := fun _ _ _ _ => False
section
variable {X : Cx} {ca : Nat → Addr} {W : WX} {f g : ES} {as : AS} {G : Gx} {b : SS} {t : TS'} {it : IS}
variable {θ θ' : Nat → V} {Z Z1 Z0 Z' : Zs} {L L1 L0 L' F F0 : List Addr} {H H1 H0 H' : Hp} {σ σ' : L2.St} {ρ ρ1 ρ' : En} {Dn : Ends}
theorem PTs.imp {es : List Expr} {t t' : TT} (h : PTs X es t) (i : ∀ σ H Q, t' σ H Q → t σ H Q) : PTs X es t' := ⟨fun pins s σ H Q I q => h.run pins s σ H Q I (i σ H Q q)⟩
theorem st_yes : PTs X [] (RdT X ca W tTrue) := PTs.imp pts_nil fun σ H Q ⟨θ, Z, ρ, L, r, q⟩ => q Z H L r Step.refl
theorem st_ifone {c : Expr} (h : PT X c (RdT X ca W t)) : PTs X [c] (RdT X ca W t) := pts_one h
theorem wipe_eq {own : List Nat} (h : Agr own σ σ') : wipe σ' own = wipe σ own := by
  refine List.ext_getElem? fun i => ?_
  by_cases hi : i ∈ own
  · have l1 : (wipe σ' own)[i]? = (wipe σ own)[i]? ∨ True := .inr trivial
    have key : ∀ {σ : L2.St}, (wipe σ own)[i]? = if i < σ.length then some none else none := fun {σ} => by
      cases e : (wipe σ own)[i]? with
      | none =>
        have := List.getElem?_eq_none_iff.mp e
        rw [wipe_length] at this
        rw [if_neg (by omega)]
      | some x =>
        have lt := (List.getElem?_eq_some_iff.mp e).1
        rw [wipe_length] at lt
        rw [if_pos lt]
        cases x with
        | none => rfl
        | some v => exact absurd hi (wipe_some e).2
    rw [key, key, h.1]
  · rw [wipe_out hi, wipe_out hi, h.2 i hi]
theorem RoS.agree : ∀ {ρ : En} {σ σ' : L2.St} {L : List Addr}, RoS G Z H ρ σ L → σ'.length = σ.length → (∀ (i : Nat) (po : Bool × O), ρ[i]? = some (some po) → σ'[i]? = σ[i]?) → RoS G Z H ρ σ' L
  | _, _, [], _, .emp, _, _ => .emp
  | _, _, _ :: _, _, .emp, hl, _ => by simp at hl
  | _, _, [], _, .no t, hl, _ => by simp at hl
  | _, _, y :: σ', _, .no t, hl, h => .no (RoS.agree t (by simpa using hl) fun i po e => by simpa using h (i + 1) po (by simpa using e))
  | _, _, [], _, .yes _ t, hl, _ => by simp at hl
  | _, _, y :: σ', _, .yes hr t, hl, h => by
    have h0 := h 0 _ rfl
    simp only [List.getElem?_cons_zero, Option.some.injEq] at h0
    subst h0
    exact .yes hr (RoS.agree t (by simpa using hl) fun i po e => by simpa using h (i + 1) po (by simpa using e))
theorem Rep.agree {own : List Nat} (r : Rep θ G Z H ρ σ L) (h : Agr own σ σ') (hn : ∀ i ∈ own, ρ[i]? = some none) : Rep θ G Z H ρ σ' L := by
  have key : ∀ (i : Nat) (po : Bool × O), ρ[i]? = some (some po) → σ'[i]? = σ[i]? := fun i po e => h.2 i fun hi => by
    rw [hn i hi] at e
    cases e
  exact ⟨r.sl.agree h.1 key, r.nd, r.dis, r.zd, fun i o e => by rw [key i _ e]; exact r.pn i o e⟩
theorem wipe_agr (own : List Nat) : Agr own σ (wipe σ own) := ⟨wipe_length _ _, fun i hi => wipe_out hi⟩
theorem Agr.symm {is : List Nat} (h : Agr is σ σ') : Agr is σ' σ := ⟨h.1.symm, fun i hi => (h.2 i hi).symm⟩
theorem Rep.upd {a : Addr} {u : HO} (r : Rep θ G Z H ρ σ L) (mu : Mut (H a)) (hL : a ∉ L) (nz : ¬ Z a) : Rep θ G Z (L2.upd H a u) ρ σ L :=
  ⟨r.sl.kp (kp_upd mu nz) fun b hb v e => by rw [upd_ne (show b ≠ a from fun q => hL (q ▸ hb))]; exact e, r.nd, r.dis, fun b z => by rw [upd_ne (show b ≠ a from fun q => nz (q ▸ z))]; exact r.zd b z, r.pn⟩
theorem Rep.rest {ρ0 : En} (hd : ∀ (i : Nat) (d : D), ρ0[i]? = some (some (false, .val d)) → ∃ v, σ[i]? = some (some v) ∧ Dz Z G.K H d v) : ∀ (own : List Nat) {ρ : En} {L : List Addr}, Rep θ G Z H ρ σ L → ∃ L', Rep θ G Z H (restE ρ0 own ρ) σ L' ∧ ∀ a, a ∈ L' → a ∈ L
  | [], _, L, r => ⟨L, r, fun _ h => h⟩
  | i :: is, ρ, L, r => by
    unfold restE
    split
    · rename_i e
      unfold rest1
      split
      · rename_i d e0
        obtain ⟨v, hv, dz⟩ := hd i d e0
        obtain ⟨L1, r1, h1⟩ := r.back (i := i) (p := false) (F := []) e hv (.val dz) r.nd (fun _ q => by cases q) (fun q => by cases q)
        obtain ⟨L2, r2, h2⟩ := Rep.rest hd is r1
        exact ⟨L2, r2, fun a ha => by simpa using (h1 a).mp (h2 a ha)⟩
      · exact Rep.rest hd is r
    · exact Rep.rest hd is r
/-- the turns of a comprehension -/
theorem lc_turns {c : Option (Nat × List D)} {T : Tgt} {own : List Nat} {J : It} {ds : List D} {Ok : Zs → Hp → En → List Addr → Prop} {accF : List D} {ρF : En} {Da : Addr} {Qd : Hp → Prop} (hT : ∀ i ∈ T.slots, i ∈ own) (w : Wlk θ (gx X ca) (chkE c) J ds Ok)
    (r : Rep θ (gx X ca) Z H ρ σ L) (k : Ok Z H ρ L) (hz : ds.length ≤ sizeLine) (hD : H Da = none) (e : lcW c T t f own ds ρ = .ok accF ρF)
    (fin : ∀ Z' H' L' xs, Rep θ (gx X ca) Z' H' ρF σ L' → H' Da = some (.lst xs) → DzA Z' X.K H' accF xs → Da ∉ L' → ¬ Z' Da → Step Z L H Z' (Da :: L') H' → Qd H') :
    ∃ W' : Nat → Nat → Hp → Prop, (∃ m, W' 0 m (L2.upd H Da (.lst []))) ∧ ∀ i m H, W' i m H → (J.stop i H ∧ Qd H) ∨ (J.go i H ∧ ∃ Nx : Hp → Prop, (∀ H', Nx H' → ∃ m', m' < m ∧ W' (i + 1) m' H') ∧ ∀ x H', J.yld i H x H' →
      tgR X ca T x (wipe σ own) H' fun σ2 H2 => wipe σ2 own = wipe σ own ∧ RdT X ca WF t σ2 H2 fun b H3 => if b = true then RdE X ca WF f σ2 H3 fun y H4 => ∃ acc, H4 Da = some (.lst acc) ∧ acc.length < sizeLine ∧ Nx (L2.upd H4 Da (.lst (acc ++ [y]))) else Nx H3) := by
  unfold lcW at e
  split at e
  · rename_i hc0
    cases eL : lcL c T t f own ds [] (dropE own ρ) with
    | stuck => rw [eL] at e; cases e
    | exc => rw [eL] at e; cases e
    | ok acc1 ρ2 =>
      rw [eL] at e
      simp only [Out.ok.injEq] at e
      obtain ⟨rfl, rfl⟩ := e
      -- the word between two turns
      let inv : Nat → Hp → Prop := fun i H2 => i ≤ ds.length ∧ ∃ Z2 ρ2' M2 acc xs, Rep θ (gx X ca) Z2 H2 ρ2' (wipe σ own) M2 ∧ (∀ i ∈ own, ρ2'[i]? = some none) ∧ Ok Z2 H2 ρ2' (Da :: M2) ∧ Da ∉ M2 ∧ (¬ Z2 Da) ∧ H2 Da = some (.lst xs) ∧ DzA Z2 X.K H2 acc xs ∧ acc.length ≤ i ∧
        Step Z L H Z2 (Da :: M2) H2 ∧ lcL c T t f own (ds.drop i) acc ρ2' = .ok acc1 ρ2
      refine ⟨fun i m H2 => m = ds.length - i ∧ inv i H2, ?_, ?_⟩
      · obtain ⟨L1, r1, h1⟩ := r.drop own
        have r2 : Rep θ (gx X ca) Z H (dropE own ρ) (wipe σ own) L1 := r1.agree (wipe_agr own) hc0.2
        have nDL : Da ∉ L := fun h => mut_some (r.sl.mut Da h) hD
        have nDZ : ¬ Z Da := fun h => r.zd Da h hD
        have same : Same H (L2.upd H Da (.lst [])) := same_new hD
        have s0 : Step Z L H Z (Da :: L1) (L2.upd H Da (.lst [])) := ⟨fun a o e _ => same a o e, fun _ h => h, fun _ h => .inl h, fun a ha => (List.mem_cons.mp ha).elim (fun h => .inr (h ▸ hD)) fun h => .inl (h1 a h)⟩
        have nd1 : (Da :: L1).Nodup := List.nodup_cons.mpr ⟨fun h => nDL (h1 Da h), r2.nd⟩
        exact ⟨_, rfl, Nat.zero_le _, Z, dropE own ρ, L1, [], [], r2.same same, hc0.2, w.step r.sl.mut r.dis k s0 nd1 hc0.1, fun h => nDL (h1 Da h), nDZ, upd_same, .nil, Nat.zero_le _, s0, eL⟩
      · rintro i m H2 ⟨rfl, hi, Z2, ρ3, M2, acc, xs, r2, hn, k2, nDL, nDZ, hDa, dz, hl, s2, e2⟩
        by_cases hlt : i < ds.length
        · refine .inr ⟨w.go i hlt r2 k2, inv (i + 1), fun H' p' => ⟨ds.length - (i + 1), by omega, rfl, p'⟩, fun x H3 y => ?_⟩
          have hd : ds[i]? = some ds[i] := by simp [hlt]
          rw [List.drop_eq_getElem_cons hlt] at e2
          obtain ⟨same, dx⟩ := w.yld i ds[i] x H3 hd r2 k2 y
          unfold lcL at e2
          cases e3 : T.put ds[i] ρ3 with
          | none => rw [e3] at e2; cases e2
          | some ρ4 =>
            rw [e3] at e2
            simp only at e2
            have r3 := r2.same same
            refine ⟨θ, Z2, ρ3, M2, ds[i], ρ4, r3, dx, e3, fun σ4 L4 r4 sub ag => ?_⟩
            have agO : Agr own (wipe σ own) σ4 := ag.mono hT
            have hw : wipe σ4 own = wipe σ own := by
              rw [wipe_eq agO, wipe_eq (wipe_agr own)]
            refine ⟨hw, θ, Z2, ρ4, L4, r4, ?_⟩
            have hDa3 : H3 Da = some (.lst xs) := same _ _ hDa
            have nD4 : Da ∉ L4 := fun h => nDL (sub Da h)
            have ro4 : Ro (gx X ca) Z2 H3 (.lst acc) (.ref Da) [Da] := .lst hDa3 (dz.kp (same_kp same))
            have nd4 : ([Da] ++ L4).Nodup := List.nodup_cons.mpr ⟨nD4, r4.nd⟩
            have s4 : Step Z2 M2 H2 Z2 L4 H3 := ⟨fun a o e _ => same a o e, fun _ h => h, fun _ h => .inl h, fun a ha => .inl (sub a ha)⟩
            -- a turn's end
            have turn : ∀ {Z5 H5 L5 ρ5 acc5 xs5 u}, Step Z2 M2 H2 Z5 L5 H5 → Rep θ (gx X ca) Z5 (L2.upd H5 Da u) ρ5 σ4 L5 → Da ∉ L5 → ¬ Z5 Da → u = .lst xs5 → DzA Z5 X.K (L2.upd H5 Da u) acc5 xs5 → acc5.length ≤ i + 1 →
                (open Classical in if lcC c own (dropE own ρ5) then lcL c T t f own (ds.drop (i + 1)) acc5 (dropE own ρ5) else .stuck) = .ok acc1 ρ2 → inv (i + 1) (L2.upd H5 Da u) := fun {Z5 H5 L5 ρ5 acc5 xs5 u} s5 r5 nD5 nZ5 hu dz5 hl5 e5 => by
              subst hu
              split at e5
              · rename_i hc5
                obtain ⟨L6, r6, h6⟩ := r5.drop own
                have r7 := r6.agree agO.symm hc5.2
                have st : Step Z2 (Da :: M2) H2 Z5 (Da :: L6) (L2.upd H5 Da (.lst xs5)) := ⟨fun a o e hna => by
                  rw [List.mem_cons, not_or] at hna
                  rw [upd_ne hna.1]
                  exact s5.keep a o e hna.2, s5.zmono, fun a z => (s5.znew a z).imp_right fun q => q.imp_left fun q => List.mem_cons_of_mem _ q, fun a ha => (List.mem_cons.mp ha).elim (fun q => .inl (by rw [q]; exact List.mem_cons_self)) fun q => (s5.lnew a (h6 a q)).imp_left fun q => List.mem_cons_of_mem _ q⟩
                have mu2 : ∀ a ∈ Da :: M2, Mut (H2 a) := fun a ha => (List.mem_cons.mp ha).elim (fun q => by rw [q, hDa]; trivial) (r2.sl.mut a)
                have dis2 : ∀ a ∈ Da :: M2, ¬ Z2 a := fun a ha => (List.mem_cons.mp ha).elim (fun q => q ▸ nDZ) (r2.dis a)
                exact ⟨hlt, Z5, _, L6, acc5, xs5, r7, hc5.2, w.step mu2 dis2 k2 st (List.nodup_cons.mpr ⟨fun h => nD5 (h6 Da h), r7.nd⟩) hc5.1, fun h => nD5 (h6 Da h), nZ5, upd_same, dz5, hl5, s2.trans st, e5⟩
              · cases e5
            cases e6 : t ρ4 with
            | stuck => rw [e6] at e2; cases e2
            | exc => rw [e6] at e2; cases e2
            | ok bb ρ5 =>
              rw [e6] at e2
              simp only at e2
              intro Z5 H5 L5 r5 s5
              obtain ⟨ro5, nd5, di5⟩ := ro4.aside (L' := []) r4.sl.mut r4.dis nd4 (fun a ha => by rw [List.mem_singleton] at ha; rw [ha]; exact nDZ) s5 r5.nd
              have nD5 : Da ∉ L5 := (List.nodup_cons.mp nd5).1
              cases bb with
              | false =>
                simp only [Bool.false_eq_true, if_false] at e2 ⊢
                obtain ⟨xs5, hx5, dz5⟩ := ro5.lst_of
                have same5 : L2.upd H5 Da (.lst xs5) = H5 := by
                  funext a
                  by_cases q : a = Da
                  · rw [q, upd_same, hx5]
                  · rw [upd_ne q]
                have := turn (u := .lst xs5) (s4.trans s5) (by rw [same5]; exact r5) nD5 (di5 Da List.mem_cons_self) rfl (by rw [same5]; exact dz5) (by omega) e2
                rw [same5] at this
                exact this
              | true =>
                simp only [if_true] at e2 ⊢
                refine ⟨θ, Z5, ρ5, L5, r5, ?_⟩
                cases e7 : f ρ5 with
                | stuck => rw [e7] at e2; cases e2
                | exc => rw [e7] at e2; cases e2
                | ok p ρ6 =>
                  rw [e7] at e2
                  simp only at e2
                  intro Z6 H6 L6 F6 v r6 h6 s6
                  obtain ⟨ro6, nd6, di6⟩ := ro5.aside (L' := []) r5.sl.mut r5.dis nd5 di5 s6 h6.nd
                  cases e8 : give ρ6 p with
                  | none => rw [e8] at e2; cases e2
                  | some y =>
                    obtain ⟨dy, ρ7⟩ := y
                    rw [e8] at e2
                    simp only at e2
                    obtain ⟨Z7, L7, r7, d7, s7⟩ := give_ok r6 h6 e8
                    obtain ⟨mu6, dz6⟩ := h6.mut r6
                    obtain ⟨ro7, nd7, di7⟩ := ro6.aside (L' := []) mu6 dz6 nd6 di6 s7 r7.nd
                    obtain ⟨xs7, hx7, dz7⟩ := ro7.lst_of
                    have nD7 : Da ∉ L7 := (List.nodup_cons.mp nd7).1
                    have nZ7 := di7 Da List.mem_cons_self
                    have mu7 : Mut (H6 Da) := by rw [hx7]; trivial
                    refine ⟨xs7, hx7, by rw [dz7.length]; omega, ?_⟩
                    exact turn (u := .lst (xs7 ++ [v])) (acc5 := acc ++ [dy]) (((s4.trans s5).trans s6).trans s7) (r7.upd mu7 nD7 nZ7) nD7 nZ7 rfl ((dz7.append (.cons d7 .nil)).kp (kp_upd mu7 nZ7)) (by simp; omega) e2
        · have ei : i = ds.length := by omega
          subst ei
          rw [List.drop_length] at e2
          simp only [lcL, Out.ok.injEq] at e2
          obtain ⟨rfl, rfl⟩ := e2
          refine .inl ⟨w.stop r2 k2, ?_⟩
          have r8 := r2.agree (wipe_agr own).symm hn
          have kp : Kp Z (gx X ca).K H Z2 H2 := s2.kp r.sl.mut r.dis
          obtain ⟨L9, r9, h9⟩ := Rep.rest (ρ0 := ρ) (fun i d e0 => by
            obtain ⟨v, F, q1, q2, _⟩ := r.sl.get e0
            cases q2 with
            | val q2 => exact ⟨v, q1, q2.kp kp⟩) own r8
          exact fin Z2 H2 L9 xs r9 hDa dz (fun h => nDL (h9 Da h)) nDZ (s2.sub fun a ha => (List.mem_cons.mp ha).elim (fun q => by rw [q]; exact List.mem_cons_self) fun q => List.mem_cons_of_mem _ (h9 a q))
  · cases e
theorem rd_lc {T : Tgt} {own : List Nat} {Q : VK} (hT : ∀ i ∈ T.slots, i ∈ own) (q : RdE X ca W (oLc it T t f own) σ H Q) : tLc (RdI X ca W it) (tgR X ca T) (RdT X ca WF t) (RdE X ca WF f) own σ H Q := by
  obtain ⟨θ, Z, ρ, L, r, q⟩ := q
  refine ⟨θ, Z, ρ, L, r, ?_⟩
  unfold oLc at q
  cases e1 : it ρ with
  | stuck => rw [e1] at q; exact q
  | exc c ρ1 => rw [e1] at q; exact q
  | ok x ρ1 =>
    obtain ⟨j, ds⟩ := x
    rw [e1] at q
    simp only [bind_ok] at q
    intro Z1 H1 L1 F J r1 s1 sr hz Da hD
    have done : ∀ {Z' H' L' xs acc ρ2} (θ2 : Nat → V), PoE X ca W θ Z L H σ Q (.ok (.tmp (.lst acc)) ρ2) → Rep θ (gx X ca) Z' H' ρ2 σ L' → H' Da = some (.lst xs) → DzA Z' X.K H' acc xs → Da ∉ L' → ¬ Z' Da → Step Z1 L1 H1 Z' (Da :: L') H' → Q (.ref Da) H' := fun {Z' H' L' xs acc ρ2} θ2 q r2 h2 dz nL nZ s2 =>
      q Z' H' L' [Da] _ r2 (.tmp (.lst h2 dz) (List.nodup_cons.mpr ⟨nL, r2.nd⟩) (fun a ha => by rw [List.mem_singleton] at ha; rw [ha]; exact nZ)) ((s1.sub fun a h => List.mem_append_right _ h).trans s2)
    unfold lcE at q
    cases j with
    | none =>
      simp only at q
      obtain ⟨Ok, w, k⟩ := sr.walk (θ := θ)
      cases e2 : lcW none T t f own ds ρ1 with
      | stuck => rw [e2] at q; exact q.elim
      | exc c ρ2 =>
        unfold lcW at e2
        split at e2
        · split at e2 <;> cases e2
        · cases e2
      | ok acc ρ2 =>
        rw [e2] at q
        exact lc_turns hT w r1 k hz hD e2 fun Z' H' L' xs r2 h2 dz nL nZ s2 => done θ q r2 h2 dz nL nZ s2
    | some j =>
      cases sr with
      | slot e h =>
        rename_i p a
        simp only at q
        rw [e] at q
        cases p with
        | true =>
          simp only at q
          have hθ := r1.pn j _ e
          rw [h] at hθ
          cases e2 : lcW (some (j, ds)) T t f own ds ρ1 with
          | stuck => rw [e2] at q; exact q.elim
          | exc c ρ2 =>
            unfold lcW at e2
            split at e2
            · split at e2 <;> cases e2
            · cases e2
          | ok acc ρ2 =>
            rw [e2] at q
            exact lc_turns hT (wlk_slot (Option.some.inj (Option.some.inj hθ)).symm) r1 e hz hD e2 fun Z' H' L' xs r2 h2 dz nL nZ s2 => done θ q r2 h2 dz nL nZ s2
        | false =>
          simp only at q
          have r2 := r1.pinOn e h
          have lj := (List.getElem?_eq_some_iff.mp e).1
          cases e2 : lcW (some (j, ds)) T t f own ds (ρ1.set j (some (true, .lst ds))) with
          | stuck => rw [e2] at q; exact q.elim
          | exc c ρ2 =>
            unfold lcW at e2
            split at e2
            · split at e2 <;> cases e2
            · cases e2
          | ok acc ρ2 =>
            rw [e2] at q
            exact lc_turns hT (wlk_slot (θ := fun i => if i = j then V.ref a else θ i) (by simp)) r2 (by rw [List.getElem?_set_self lj]) hz hD e2 fun Z' H' L' xs r3 h3 dz nL nZ s3 => done θ q (r3.unpin fun i hi => by simp [hi]) h3 dz nL nZ s3
theorem se_lc {elt tg iter : Expr} {ifs : List Expr} {scope : Scope} {own : List (Str × Nat)} {T : Tgt} {pos : Pos} (hT : ∀ i ∈ T.slots, i ∈ own.map (·.2)) (hc : X.calm = true) (hN : X.N.Nodup) (hi : PI X tg iter (RdI X ca W it)) (ok : BlkOk X.N X.env.scope scope own)
    (hg : ∀ (s : Shared) (H : Hp) (C : Addr) (cl : List (Str × Addr)) (fp : List Addr), PG (X.blk s H scope (compEnvC scope cl C X.env) fp) tg (tgR (X.blk s H scope (compEnvC scope cl C X.env) fp) ca T))
    (ht : ∀ (s : Shared) (H : Hp) (C : Addr) (cl : List (Str × Addr)) (fp : List Addr), PTs (X.blk s H scope (compEnvC scope cl C X.env) fp) ifs (RdT (X.blk s H scope (compEnvC scope cl C X.env) fp) ca WF t))
    (he : ∀ (s : Shared) (H : Hp) (C : Addr) (cl : List (Str × Addr)) (fp : List Addr), PE (X.blk s H scope (compEnvC scope cl C X.env) fp) elt (RdE (X.blk s H scope (compEnvC scope cl C X.env) fp) ca WF f)) (hs : ∀ x, foldedSetIterable iter X.env x = pure x) :
    PE X (.ListComp elt [⟨tg, iter, ifs, 0⟩] scope pos) (RdE X ca W (oLc it T t f (own.map (·.2)))) :=
  PE.imp (pe_lc hc hN hi ok hg ht he hs) fun σ H Q q => rd_lc hT q
end
end Eng
set_option maxHeartbeats 1000000
/-! The engine, part 20: chained comparisons, isinstance, repr, callees by name. -/
namespace Eng
open PySem PySem.Spec L2
open PyProof.Rows hiding St

section
variable {X : Cx} {ca : Nat → Addr} {W : WX} {f g h : ES} {as : AS} {G : Gx} {b : SS} {t : TS'} {it : IS}
variable {θ θ' : Nat → V} {Z Z1 Z0 Z' : Zs} {L L1 L0 L' F F0 : List Addr} {H H1 H0 H' : Hp} {σ σ' : L2.St} {ρ ρ1 ρ' : En} {Dn : Ends}
/-! ### a < b < c -/
def oChain (s1 s2 : O → O → Option O) (f g h : ES) : ES := fun ρ => (f ρ).bind fun p ρ1 => (g ρ1).bind fun q ρ2 => match looks ρ2 [p, q] with
  | some [x, y] => match s1 x y with
    | some (.val (.bool k)) => if k = true then (h ρ2).bind fun r ρ3 => match looks ρ3 [q, r] with
        | some [y', z] => put ρ3 (s2 y' z)
        | _ => .stuck
      else .ok (.tmp (.val (.bool false))) ρ2
    | _ => .stuck
  | _ => .stuck
theorem rd_chain {s1 s2 : O → O → Option O} {Q : VK} (hq : RdE X ca W (oChain s1 s2 f g h) σ H Q) :
    tChain (fun x y H Q => RSem (X := X) (ca := ca) (two s1) [x, y] H Q) (fun x y H Q => RSem (X := X) (ca := ca) (two s2) [x, y] H Q) (RdE X ca W f) (RdE X ca W g) (RdE X ca W h) σ H Q := by
  obtain ⟨θ, Z, ρ, L, r, q⟩ := hq
  unfold oChain at q
  refine ⟨θ, Z, ρ, L, r, ?_⟩
  cases e1 : f ρ with
  | stuck => rw [e1] at q; exact q
  | exc c ρ1 => rw [e1] at q; exact q
  | ok p ρ1 =>
    rw [e1] at q
    simp only [bind_ok] at q
    intro Z1 H1 L1 F1 v1 r1 h1 s1'
    refine ⟨θ, Z1, ρ1, L1, r1, ?_⟩
    cases e2 : g ρ1 with
    | stuck => rw [e2] at q; exact q
    | exc c ρ2 => rw [e2] at q; exact fun Z' H' L' r' s' => q Z' H' L' r' ((s1'.sub fun a h => List.mem_append_right _ h).trans s')
    | ok qq ρ2 =>
      rw [e2] at q
      simp only [bind_ok] at q
      intro Z2 H2 L2 F2 v2 r2 h2 s2'
      have h12 := (h1.carry r1 s2' h2.nd).join h2
      have s12 : Step Z L H Z2 ((F1 ++ F2) ++ L2) H2 := by rw [List.append_assoc]; exact s1'.then s2'
      split at q
      · rename_i x y e3
        split at q
        · rename_i k e4
          refine ⟨Z2, [x, y], .val (.bool k), r2.zd, h12.ok.looks r2 e3, e4, fun v H' F' al => ?_⟩
          have hv : v = .bl k ∧ H' = H' := by
            have := al.ro
            cases this with
            | val hd => cases hd; exact ⟨rfl, rfl⟩
          obtain ⟨rfl, _⟩ := hv
          refine ⟨k, rfl, ?_⟩
          have r3 := r2.same al.same
          have st : Step Z L H Z2 L2 H' := (s12.trans ⟨fun a o e _ => al.same a o e, fun _ h => h, fun _ h => .inl h, fun _ h => .inl h⟩).sub fun a h => List.mem_append_right _ h
          cases k with
          | false =>
            simp only [Bool.false_eq_true, if_false] at q ⊢
            exact q Z2 H' L2 [] (.bl false) r3 (.tmp (.val (.bl false)) r3.nd (fun _ q => by cases q)) st
          | true =>
            simp only [if_true] at q ⊢
            have h2' : Held (gx X ca) Z2 H' σ L2 [qq] [v2] F2 := ⟨h2.ok.kp (same_kp al.same) fun a _ u e => al.same a u e, h2.nd, h2.dis⟩
            have st2 : Step Z L H Z2 (F2 ++ L2) H' := (s12.trans ⟨fun a o e _ => al.same a o e, fun _ h => h, fun _ h => .inl h, fun _ h => .inl h⟩).sub fun a h => by rw [List.append_assoc]; exact List.mem_append_right _ h
            refine ⟨θ, Z2, ρ2, L2, r3, ?_⟩
            cases e5 : h ρ2 with
            | stuck => rw [e5] at q; exact q
            | exc c ρ3 => rw [e5] at q; exact fun Z' H'' L' r' s' => q Z' H'' L' r' (st.trans s')
            | ok rr ρ3 =>
              rw [e5] at q
              simp only [bind_ok] at q
              intro Z3 H3 L3 F3 v3 r4 h4 s4
              have h24 := (h2'.carry r3 s4 h4.nd).join h4
              have s24 : Step Z L H Z3 ((F2 ++ F3) ++ L3) H3 := by rw [List.append_assoc]; exact st2.then s4
              split at q
              · rename_i y' z e6
                cases e7 : s2 y' z with
                | none => rw [e7] at q; exact q.elim
                | some o =>
                  rw [e7] at q
                  exact ⟨Z3, [y', z], o, r4.zd, h24.ok.looks r4 e6, e7, fun v H'' F' al => q Z3 H'' L3 F' v (al.rep r4) (al.held r4) ((s24.sub fun a h => List.mem_append_right _ h).trans al.step)⟩
              · exact q.elim
        · exact q.elim
      · exact q.elim
theorem se_chain {a c d : Expr} {s1 s2 : O → O → Option O} {op op' : CmpOp} {pos : Pos} (ho : BinS X ca (compareOp op) s1) (ho' : BinS X ca (compareOp op') s2) (ha : PE X a (RdE X ca W f)) (hb : PE X c (RdE X ca W g)) (hc : PE X d (RdE X ca W h)) (hm : lastMarks [op, op'] [c, d] = false) :
    PE X (.Compare a [op, op'] [c, d] pos) (RdE X ca W (oChain s1 s2 f g h)) := PE.imp (pe_chain ho ho' ha hb hc hm) fun σ H Q q => rd_chain q
theorem st_chain {a c d : Expr} {s1 s2 : O → O → Option O} {op op' : CmpOp} {pos : Pos} (ho : BinS X ca (compareOp op) s1) (ho' : BinS X ca (compareOp op') s2) (ha : PE X a (RdE X ca W f)) (hb : PE X c (RdE X ca W g)) (hc : PE X d (RdE X ca W h)) (hm : lastMarks [op, op'] [c, d] = false) :
    PT X (.Compare a [op, op'] [c, d] pos) (RdT X ca W (tV (oChain s1 s2 f g h))) := PT.imp (pt_chain ho ho' ha hb hc hm) fun σ H Q q => rd_chain (rd_tV q)

/-! ### isinstance -/
def kindO : O → Option String
  | .val .none => some "NoneType"
  | .val (.bool _) => some "bool"
  | .val (.int _) => some "int"
  | .val (.str _) => some "str"
  | .val (.list _) => some "list"
  | .val (.tuple _) => some "tuple"
  | .lst _ => some "list"
  | _ => none
def isiB (k T : String) : Bool := k == T || (k == "bool" && T == "int")
def kinds5 : List String := ["bool", "int", "str", "list", "tuple"]
def kinds6 : List String := "NoneType" :: kinds5
def isiS (T : String) (o : O) : Option O := (kindO o).map fun k => .val (.bool (isiB k T))
theorem isi_table {K : PySem.W.Frag} : ∀ k ∈ kinds6, ∀ T ∈ kinds5, PySem.W.kitOne K (.type k) (.type T) = some (isiB k T) := by
  have h : (kinds6.all fun k => kinds5.all fun T => decide (kitB k T = some (isiB k T))) = true := by decide +kernel
  intro k hk T hT
  exact kit_ty (of_decide_eq_true (List.all_eq_true.mp (List.all_eq_true.mp h k hk) T hT))
theorem kind_tup {K : PySem.W.Frag} {a : Addr} {xs : List V} (r : SqT K H a xs) : TyX K H (.ref a) (.type "tuple") := by
  rcases r with (r | ⟨o, r⟩) | ⟨o, its, n, r, hc, _⟩
  · exact .base (.tup r)
  · exact .fTuple r
  · exact .kTuple r hc
theorem kind_ty {o : O} {k : String} {v : V} (hr : Rb G Z H o v) (e : kindO o = some k) : k ∈ kinds6 ∧ TyX G.K H v (.type k) := by
  obtain ⟨F, hr⟩ := hr
  cases hr with
  | val h =>
    cases h with
    | non => cases e; exact ⟨by decide, .base .non⟩
    | bl => cases e; exact ⟨by decide, .base (.bl _)⟩
    | int => cases e; exact ⟨by decide, .base (.int _)⟩
    | str => cases e; exact ⟨by decide, .base (.str _)⟩
    | lst z r h => cases e; exact ⟨by decide, .base (.lst r)⟩
    | tup r h => cases e; exact ⟨by decide, kind_tup r⟩
  | lst e1 h1 => cases e; exact ⟨by decide, .base (.lst e1)⟩
  | _ => cases e
theorem se_isi {e : Expr} {T : String} {x : Str} {p p2 pos : Pos} (hT : T ∈ kinds5) (he : PE X e (RdE X ca W f)) (hg : Gl X "isinstance") (hm : X.mg "isinstance" = none) (hg2 : Gl X x) (hm2 : X.mg x = none) (hv : bootBuiltins x = some (.type T)) (hn : x ≠ "__name__") (hd : (x == ("__debug__" : Str)) = false) (hs : notStar e = true) :
    PE X (.Call (.Name "isinstance" p) [e, .Name x p2] [] pos) (RdE X ca W (o1 (isiS T) f)) := by
  have h1 : PA X [e, .Name x p2] (tCons (RdE X ca W f) (tCons (tC (.ty T)) tNil)) := pa_cons he (pa_cons (pe_bltn hg2 hm2 hv rfl hn hd) pa_nil (star_cons rfl)) (star_cons hs)
  refine PE.imp (pe_callB (call_isi (X := X)) hg hm (by decide +kernel) h1 (by decide) (by decide) (star_cons hs) (star_plain (by rfl))) fun σ H Q q => (rd_o1 q).mono fun v H1 h => ?_
  obtain ⟨Z, a, o, zd, ha, e1, q⟩ := rsem1 h
  unfold isiS at e1
  cases e2 : kindO a with
  | none => rw [e2] at e1; cases e1
  | some k =>
    rw [e2] at e1
    cases e1
    obtain ⟨hk, ty⟩ := kind_ty ha e2
    exact ⟨v, .ty T, .type k, .type T, isiB k T, rfl, .ty T, ty, isi_table k hk T hT, q _ _ [] (Al.val (.bl _))⟩

/-! ### repr -/
def reprS (o : O) : Option O := match o.view? with
  | some d => if d.showable = true ∧ d.hasDict = false ∧ d.depth ≤ 32 ∧ d.shown.length ≤ sizeLine then some (.val (.str d.shown)) else none
  | none => none
theorem c_repr (hG : X.A.guards = some []) (hu : X.A.units + 65 < cLine) : CallS X ca (.builtin "repr") (one reprS) := callS_of fun pins s σ H x v Q Z a r I rx zd ha e q => by
  unfold reprS at e
  split at e
  · rename_i d e1
    split at e
    · rename_i hc
      cases e
      have hd := rb_view ha e1
      obtain ⟨as, rd⟩ := Dp.reads I d x v hd rx
      have fin := q (.str d.shown) H [] (Al.val (.str _))
      cases hd with
      | non =>
        cases rx
        simp only [PyData.shown] at fin
        exact PySem.P.repr_of_none ⟨.str _, H, I.tok _, ⟨_, rfl⟩, fin⟩
      | bl b =>
        cases rx
        simp only [PyData.shown] at fin
        exact PySem.P.repr_of_bool ⟨.str _, H, I.tok _, ⟨_, rfl⟩, by cases b <;> exact fin⟩
      | int i =>
        obtain ⟨t, rfl⟩ := rx
        have hz : i.natAbs.log2 < 1920 := by simpa [PyData.showable] using hc.1
        simp only [PyData.shown] at fin
        exact PySem.P.repr_of_int hz ⟨.str _, H, I.tok _, ⟨_, rfl⟩, fin⟩
      | str x =>
        obtain ⟨t, rfl⟩ := rx
        have hz := hc.2.2.2
        simp only [PyData.shown] at fin hz
        exact PySem.P.repr_of_str (hsz := hz) ⟨.str _, H, I.tok _, ⟨_, rfl⟩, fin⟩
      | lst hq hall =>
        cases rx
        exact repr_of_reads' (hsz := hc.2.2.2) rd hc.1 (fun h' => by rw [hc.2.1] at h'; cases h') hG (by omega) (fun _ _ e => e) fun h' u tk k => ⟨.str _, H, I.kept k, ⟨u, rfl⟩, fin⟩
      | tup hq hall =>
        cases rx
        exact repr_of_reads' (hsz := hc.2.2.2) rd hc.1 (fun h' => by rw [hc.2.1] at h'; cases h') hG (by omega) (fun _ _ e => e) fun h' u tk k => ⟨.str _, H, I.kept k, ⟨u, rfl⟩, fin⟩
    · cases e
  · cases e
end
end Eng
set_option maxHeartbeats 1000000
/-! The engine, part 21: rules as the printer names them. -/
namespace Eng
open PySem PySem.Spec L2
open PyProof.Rows hiding St

/-- a def that may be called by its name -/
structure Callee (P : Program) (w : World) (K : PySem.W.Frag) (mg : Str → Option Value) (base : Heap) (ca : Nat → Addr) (k : Nat) (x : Str) (n : Nat) (g : FSem) : Prop where
  ex : ∃ f fd ps, ps.length = n ∧ EFn P w K mg base k f fd ps (spF ⟨P, w, K, ca⟩ n g) ∧ mg x = some (.ref f) ∧ PySem.W.keepIn K (.ref f) = true ∧ Binds K fd ps []
theorem Callee.mono {P : Program} {w : World} {K : PySem.W.Frag} {mg : Str → Option Value} {base : Heap} {ca : Nat → Addr} {j k : Nat} {x : Str} {n : Nat} {g : FSem} (c : Callee P w K mg base ca j x n g) (h : j ≤ k) : Callee P w K mg base ca k x n g := by
  obtain ⟨f, fd, ps, h1, h2, h3⟩ := c.ex
  exact ⟨f, fd, ps, h1, h2.mono h, h3⟩
/-- the names of the built-ins are the built-ins' own -/
structure Blt (mg : Str → Option Value) : Prop where
  len : mg "len" = none
  range : mg "range" = none
  sorted : mg "sorted" = none
  set : mg "set" = none
  tuple : mg "tuple" = none
  list : mg "list" = none
  all : mg "all" = none
  any : mg "any" = none
  sum : mg "sum" = none
  max : mg "max" = none
  min : mg "min" = none
  str : mg "str" = none
  int : mg "int" = none
  dict : mg "dict" = none
  repr : mg "repr" = none
  isi : mg "isinstance" = none
  zip : mg "zip" = none
  enum : mg "enumerate" = none
  rev : mg "reversed" = none
  bool : mg "bool" = none
theorem bb_len : bootBuiltins "len" = some (.builtin "len") := by decide +kernel
theorem bb_sorted : bootBuiltins "sorted" = some (.builtin "sorted") := by decide +kernel
theorem bb_all : bootBuiltins "all" = some (.builtin "all") := by decide +kernel
theorem bb_repr : bootBuiltins "repr" = some (.builtin "repr") := by decide +kernel
theorem bb_set : bootBuiltins "set" = some (.type "set") := by decide +kernel
theorem bb_list : bootBuiltins "list" = some (.type "list") := by decide +kernel
theorem bb_tuple : bootBuiltins "tuple" = some (.type "tuple") := by decide +kernel
theorem bb_str : bootBuiltins "str" = some (.type "str") := by decide +kernel
theorem bb_int : bootBuiltins "int" = some (.type "int") := by decide +kernel
theorem hu65 {k : Nat} {A : Around} (hr : Room k A) : A.units + 65 < cLine := by have := hr.un; omega
theorem hu64 {k : Nat} {A : Around} (hr : Room k A) : A.units + 64 < cLine := by have := hr.un; omega
section
variable {X : Cx} {ca : Nat → Addr} {W : WX} {f g h : ES} {fs : AS} {p pos apos px : Pos} {e : Expr} {es : List Expr} {k i : Nat} {x : Str}
theorem se_n (i : Nat) {x : Str} (hN : X.N[i]? = some x) (hv : Vis X.env.scope x) (hd : (x == ("__debug__" : Str)) = false) (hcd : (x == ("__classdict__" : Str)) = false) : PE X (.Name x pos) (RdE X ca W (oNm i)) := se_name hN hv hd hcd
theorem sa_c {gs : List ES} (hs : notStar e = true) (ha : PE X e (RdE X ca W f)) (hr : PA X es (RdA X ca W (oAs gs))) : PA X (e :: es) (RdA X ca W (oAs (f :: gs))) := sa_cons ha hr (star_cons hs)
theorem se_c {fn : FSem} {gs : List ES} {n : Nat} (C : Callee X.prog X.w X.K X.mg X.base ca k x n fn) (hG : X.A.guards = some []) (hr : Room k X.A) (tk : Takes X W) (hn : gs.length = n) (hg : Gl X x) (hdb : (x == ("__debug__" : Str)) = false) (hs : ((e :: es).all notStar) = true) (ha : PA X (e :: es) (RdA X ca W (oAs gs))) :
    PE X (.Call (.Name x p) (e :: es) [] pos) (RdE X ca W (oCall fn (oAs gs))) := by
  obtain ⟨fa, fd, ps, h1, h2, h3, h4, h5⟩ := C.ex
  subst hn
  exact se_call (k := k) h2 hG hr h3 h4 h5 tk hg ha hdb hs
theorem se_len (B : Blt X.mg) (hg : Gl X "len") (hs : notStar e = true) (he : PE X e (RdE X ca W f)) : PE X (.Call (.Name "len" p) [e] [] pos) (RdE X ca W (o1 lenS f)) := se_callB c_len hg B.len bb_len (sa_c hs he sa_nil) (by decide) (by decide) (by simp [hs])
theorem se_all (hc : X.calm = true) (B : Blt X.mg) (hg : Gl X "all") (hs : notStar e = true) (he : PE X e (RdE X ca W f)) : PE X (.Call (.Name "all" p) [e] [] pos) (RdE X ca W (o1 allS f)) := se_callB (c_all hc) hg B.all bb_all (sa_c hs he sa_nil) (by decide) (by decide) (by simp [hs])
theorem se_sorted (hc : X.calm = true) (hr : Room k X.A) (B : Blt X.mg) (hg : Gl X "sorted") (hs : notStar e = true) (he : PE X e (RdE X ca W f)) : PE X (.Call (.Name "sorted" p) [e] [] pos) (RdE X ca W (o1 sortS f)) := se_callB (c_sorted hc (hu65 hr)) hg B.sorted bb_sorted (sa_c hs he sa_nil) (by decide) (by decide) (by simp [hs])
theorem se_repr (hG : X.A.guards = some []) (hr : Room k X.A) (B : Blt X.mg) (hg : Gl X "repr") (hs : notStar e = true) (he : PE X e (RdE X ca W f)) : PE X (.Call (.Name "repr" p) [e] [] pos) (RdE X ca W (o1 reprS f)) := se_callB (c_repr hG (hu65 hr)) hg B.repr bb_repr (sa_c hs he sa_nil) (by decide) (by decide) (by simp [hs])
theorem se_list (B : Blt X.mg) (hg : Gl X "list") (hs : notStar e = true) (he : PE X e (RdE X ca W f)) : PE X (.Call (.Name "list" p) [e] [] pos) (RdE X ca W (o1 listS f)) := se_callTy c_list hg B.list bb_list (sa_c hs he sa_nil) (by decide) (by decide) (by simp [hs])
theorem se_tuple (B : Blt X.mg) (hg : Gl X "tuple") (hs : notStar e = true) (he : PE X e (RdE X ca W f)) : PE X (.Call (.Name "tuple" p) [e] [] pos) (RdE X ca W (o1 tupleS f)) := se_callTy c_tuple hg B.tuple bb_tuple (sa_c hs he sa_nil) (by decide) (by decide) (by simp [hs])
theorem se_strC (B : Blt X.mg) (hg : Gl X "str") (hs : notStar e = true) (he : PE X e (RdE X ca W f)) : PE X (.Call (.Name "str" p) [e] [] pos) (RdE X ca W (o1 strS f)) := se_callTy c_str hg B.str bb_str (sa_c hs he sa_nil) (by decide) (by decide) (by simp [hs])
theorem se_intC (B : Blt X.mg) (hg : Gl X "int") (hs : notStar e = true) (he : PE X e (RdE X ca W f)) : PE X (.Call (.Name "int" p) [e] [] pos) (RdE X ca W (o1 intS' f)) := se_callTy c_int hg B.int bb_int (sa_c hs he sa_nil) (by decide) (by decide) (by simp [hs])
/-! ### methods -/
theorem se_app {e : Expr} {j : Nat} (hN : X.N[j]? = some x) (hv : Vis X.env.scope x) (hd : (x == ("__debug__" : Str)) = false) (hcd : (x == ("__classdict__" : Str)) = false) (he : PE X e (RdE X ca W f)) (hs : notStar e = true)
    (hbase : attributeBase (.Name x px) "append" X.env (eval (.Name x px) X.env) = eval (.Name x px) X.env) (hline : (apos.endLine == pos.line) = true)
    (hfew : ((backTo pos (starEach [e] X.env)).all (fun x => !x.1) && (backToKw pos (keywordEach [] X.env)).all (fun x => x.1.isSome) && decide ([e].length + ([] : List Keyword).length + (if ([] : List Keyword).isEmpty then 0 else 1) < 30)) = true) :
    PE X (.Call (.Attribute (.Name x px) "append" apos) [e] [] pos) (RdE X ca W (oMutA appS j (oAs [f]))) :=
  PE.imp (pe_bm PySem.F.plainAttrs_list PySem.F.slot_list_append PySem.F.type_list_append mt_append (se_n j hN hv hd hcd) (sa_c hs he sa_nil) hbase hfew hline (star_cons hs) (star_plain rfl)) fun σ H Q q => rd_mut (fun o ds x e => by
    unfold appS at e
    split at e
    · rfl
    · cases e) mut_app q
/-! ### set(xs) -/
def setC (o : O) : Option O := o.seq?.bind fun ds => (asStrs ds).bind fun ys => if ys.length + 1 < scanBound then some (.set (metT ys)) else none
theorem strs_are : ∀ {ys : List Str} {us : List Value}, Vals (ys.map V.str) us → StrsAre us ys
  | [], _, .nil => .nil
  | y :: ys, _, .cons r t => by
    obtain ⟨tk, rfl⟩ := r
    exact .cons y tk (strs_are t)
theorem c_set (hc : X.calm = true) : CallS X ca (.type "set") (one setC) := callS_of fun pins s σ H x v Q Z a r I rx zd ha e q => by
  unfold setC at e
  cases e1 : a.seq? with
  | none => rw [e1] at e; cases e
  | some ds =>
    rw [e1] at e
    simp only [Option.bind_some] at e
    cases e2 : asStrs ds with
    | none => rw [e2] at e; cases e
    | some ys =>
      rw [e2] at e
      simp only [Option.bind_some] at e
      split at e
      · rename_i hb
        cases e
        obtain ⟨p, xs, rfl, hs, hd⟩ := rb_seq ha e1
        rw [asStrs_eq e2] at hd
        have hx := hd.strs
        subst hx
        cases rx
        have fin : ∀ (h' : Heap) (tk : Nat), SetT X.w h' s.heap.objs.size (metT ys) → (∀ b o, s.heap.get? b = some o → h'.get? b = some o) → EP X pins σ Q (.ref s.heap.objs.size) { s with heap := h', toks := tk } := fun h' tk hst keep => by
          have hn : H s.heap.objs.size = none := I.hok.fresh (Nat.le_refl _)
          have hst2 := hst
          obtain ⟨ob, es, ep, t, ⟨ho, _⟩, _⟩ := hst2
          have ok : ObjOk X.prog X.w (upd H s.heap.objs.size (.ext fun h => SetT X.w h s.heap.objs.size (metT ys))) h' s.heap.objs.size (.ext fun h => SetT X.w h s.heap.objs.size (metT ys)) := ⟨hst, ⟨ob, ho⟩, fun h1 h2 hx k => hx.at k⟩
          refine ⟨.ref s.heap.objs.size, _, I.laid (t' := tk) keep (Nat.le_refl _) ok, rfl, q _ _ [s.heap.objs.size] ⟨same_new hn, .set upd_same, by simp, fun a ha => by
            rw [List.mem_singleton] at ha
            rw [ha]; exact hn⟩⟩
        rcases hs with hs | hs
        · obtain ⟨its, rv, pl, hz⟩ := I.list hs
          exact call_set_list ys (I.ok.hd hc) pl.isList (strs_are rv) hb fin
        · obtain ⟨its, rv, pl, hz⟩ := I.tuple hs
          exact call_set_tuple ys (I.ok.hd hc) pl (strs_are rv) hb fin
      · cases e
theorem se_setC (hc : X.calm = true) (hr : Room k X.A) (B : Blt X.mg) (hg : Gl X "set") (hs : notStar e = true) (he : PE X e (RdE X ca W f)) : PE X (.Call (.Name "set" p) [e] [] pos) (RdE X ca W (o1 setC f)) := se_callTy (c_set hc) hg B.set bb_set (sa_c hs he sa_nil) (by decide) (by decide) (by simp [hs])

/-! ### a, b = e -/
def sUnp (T : Tgt) (f : ES) : SS := fun ρ => (f ρ).bindS fun p ρ1 => match give ρ1 p with
  | some (d, ρ2) => match T.put d ρ2 with
    | some ρ3 => .nx ρ3
    | none => .stuck
  | none => .stuck
end
end Eng
set_option maxHeartbeats 1000000
/-! The engine, part 22: the end of a law. -/
namespace Eng
open PySem PySem.Spec L2
open PyProof.Rows hiding St

/-- the law's def is called with the script -/
theorem law_run {P : Program} {w : World} {K : PySem.W.Frag} {mg mb : Str → Option Value} {ca : Nat → Addr} {k : Nat} {fa a : Addr} {fd : FuncData} {x : Str} {g : FSem} {s1 : Shared} {us : List Value} {ns : List Int} {fin : List O}
    (inK : K.In s1.heap) (nG : s1.heap.Ns mainGlobals mg) (nB : s1.heap.Ns builtinsNs mb) (bB : ∀ y : Str, y ≠ "__name__" → mb y = bootBuiltins y) (lim : s1.heap.NoLimit) (gens : s1.gens = #[])
    (at_ : s1.heap.get? a = some { cls := .type "list", data := .seq us.toArray }) (hints : IntsAre us ns) (few : ns.length ≤ sizeLine) (room : Room k callerA)
    (F : ∀ base : Heap, K.In base → base.Ns mainGlobals mg → EFn P w K mg base k fa fd [x] (spF ⟨P, w, K, ca⟩ 1 g)) (binds : ∀ (s : Shared) (u : Value), BindsTo s fd ⟨[u], []⟩ [(x, u)]) (ans : g [.scr ns] = .ret (.val (.bool true)) fin) :
    codeAny (model P w) callerA (.call (.ref fa) ⟨[.ref a], []⟩) (fun r s' => r = .ok (.ret (.bool true)) ∧ OldK s1.heap s'.heap ∧ s'.os = s1.os ∧ AllBare s'.gens) s1 := by
  have rel := vals_ints hints
  have lenU := hints.length
  let ob : Obj := { cls := .type "list", data := .seq us.toArray }
  let H : Hp := fun b => if b = a ∧ K.lookup a = none then some (.frz ob (.lst (ns.map V.int))) else none
  have only : ∀ b u, H b = some u → b = a ∧ K.lookup a = none ∧ u = .frz ob (.lst (ns.map V.int)) := fun b u e => by
    by_cases hb : b = a ∧ K.lookup a = none
    · have e2 : (if b = a ∧ K.lookup a = none then some (HO.frz ob (.lst (ns.map V.int))) else none) = some u := e
      rw [if_pos hb] at e2
      cases e2
      exact ⟨hb.1, hb.2, rfl⟩
    · have e2 : (if b = a ∧ K.lookup a = none then some (HO.frz ob (.lst (ns.map V.int))) else none) = some u := e
      rw [if_neg hb] at e2
      cases e2
  have free : ∀ b, (b = a → K.lookup a ≠ none) → H b = none := fun b hb => by
    cases q : H b with
    | none => rfl
    | some u => exact absurd (only b u q).2.1 (hb (only b u q).1)
  have scr : SqS K H a ns := by
    cases q : K.lookup a with
    | none => exact .inl ⟨ob, if_pos ⟨rfl, q⟩⟩
    | some o =>
      have e := inK a o q
      rw [at_] at e
      cases e
      exact .inr ⟨_, us.toArray, _, q, rfl, rfl, rfl, by rw [List.size_toArray, lenU]; exact few, by simpa using rel⟩
  have hok : HOk P w H s1.heap := fun b u e => by
    obtain ⟨rfl, _, rfl⟩ := only b u e
    exact ⟨at_, by rw [List.length_map]; exact few, us, _, rel, at_⟩
  have notD : ∀ {b : Addr} {o : Obj} {es : Array DictEntry} {ep : Nat}, s1.heap.get? b = some o → o.data = .dict es ep → H b = none := fun {b o es ep} e d => free b fun hb => by
    subst hb
    rw [at_] at e
    cases e
    cases d
  have nsB : ∀ {b : Addr} {m : Str → Option Value}, s1.heap.Ns b m → (hidT s1.heap H).Ns b m := fun {b m} ⟨o, es, ep, e, d, r⟩ => ⟨o, es, ep, hidT_get e (notD e d), d, r⟩
  have inB : K.In (hidT s1.heap H) := fun b o e => hidT_get (inK b o e) (free b fun hb => by rw [← hb, e]; intro q; cases q)
  have md : Mod K mg (hidT s1.heap H) := ⟨inB, nsB nG, ⟨mb, nsB nB, bB⟩, let ⟨mc, h1, h2⟩ := lim; ⟨mc, nsB h1, h2⟩⟩
  have env0 : Env0 P w K mg (hidT s1.heap H) callerA [] s1 H := ⟨rfl, md, fun b o e => of_hidT e, Nat.le_of_eq (hidT_size s1.heap H), trivial, fun b hb => absurd (show b ∈ ([] : List Addr) from hb) (by simp), hok, .of_eq gens⟩
  have sp : spF ⟨P, w, K, ca⟩ 1 g [.ref a] H (fun v _ => v = .bl true) (fun _ _ _ => False) := by
    refine ⟨fun _ => False, [.scr ns], [] ++ [], rfl, .cons (.scr scr) .nil, List.nodup_nil, fun _ h => by simp at h, fun _ h => h.elim, ?_⟩
    rw [ans]
    intro Z' H' F' Fo v _ ro _ _ _ _
    cases ro with
    | val hd => cases hd; rfl
  refine codeAny_mono ((F _ inB (nsB nG)).go callerA [] s1 H ⟨[.ref a], []⟩ [.ref a] [.ref a] _ _ rfl room env0 (binds s1 (.ref a)) (.cons rfl .nil) sp) fun r s' h => ?_
  cases r with
  | error e =>
    obtain ⟨_, _, _, _, _, _, _, _, _, _, _, _, z⟩ := h
    exact z.elim
  | ok fl =>
    cases fl with
    | next => exact h.elim
    | brk => exact h.elim
    | cont => exact h.elim
    | ret u =>
      obtain ⟨v, H', os, bare, un, hok', rv, q⟩ := h
      have q2 : v = .bl true := q
      subst q2
      have ru : u = Value.bool true := rv
      subst ru
      refine ⟨rfl, OldK.of_keep fun b o e => ?_, os, bare⟩
      cases qb : H b with
      | none => exact un.keep b o e qb (fun z => absurd (show b ∈ ([] : List Addr) from z) (by simp)) (by simp)
      | some u =>
        obtain ⟨_, _, rfl⟩ := only b u qb
        obtain ⟨k1, _⟩ := hok b _ qb
        obtain ⟨k2, _⟩ := hok' b _ (un.frzs b ob _ qb)
        rw [e] at k1
        cases k1
        exact k2
theorem _root_.L2.Fun.binds1 {K : PySem.W.Frag} {x qual p : Str} {st : Stmt} {f : Addr} {fd : FuncData} (F : Fun K x qual st f fd)
    (h : ∀ (kV doc pm : Value) (an : Option Addr) (cdv ct : Value) (us : List Value), us.length = 1 → bindArgs (PySem.W.fnOf x qual (defArgs st) (defBody st) (defScope st) .none kV doc pm an cdv ct) ⟨us, []⟩ = pure ([p].zip us)) : ∀ (s : Shared) (u : Value), BindsTo s fd ⟨[u], []⟩ [(p, u)] := fun s u => by
  obtain ⟨oc, od, kV, doc, pm, an, cdv, ct, osl, rfl, lk, cd⟩ := F.ex
  exact .of_eq (h kV doc pm an cdv ct [u] rfl)
/-- the end: from the head's facts to the law's walk -/
theorem walk_law {l : PySem.W.OpenLaw} {n k : Nat} {q : Program} {loose : List Str} {XP : (Str → Option Value) → Heap → Prop} {YP : World → Heap → Prop} {d : DefRec} {x : Str} {g : FSem} (hn : l.most = some n) (hn2 : n ≤ sizeLine) (hdf : d.params.defaults = []) (hr : Room k callerA)
    (F : ∀ (w : World) (mg : Str → Option Value) (fa : Addr) (h : Heap), YP w h → h.Ns mainGlobals mg → mg d.name = some (.ref fa) →
      ∃ (K : PySem.W.Frag) (fd : FuncData) (ca : Nat → Addr), K.In h ∧ (∀ (s : Shared) (u : Value), BindsTo s fd ⟨[u], []⟩ [(x, u)]) ∧ ∀ base : Heap, K.In base → base.Ns mainGlobals mg → EFn l.prog w K mg base k fa fd [x] (spF ⟨l.prog, w, K, ca⟩ 1 g))
    (ans : ∀ ns : List Int, ns.length ≤ n → ∃ fin, g [.scr ns] = .ret (.val (.bool true)) fin) : PySem.W.WalkO q loose XP YP l.row.toRowW d [] (fun f vs => PySem.call f vs) := by
  refine Att.attach_callB hn hdf fun w s0 s1 mg mb fa o pm cd doc a us ns G Y ho hd hcd hmg hobj hints hlen hbits hg => ?_
  obtain ⟨K, fd, ca, inK, hb, hF⟩ := F w mg fa _ Y G.T.g hmg
  obtain ⟨fin, e⟩ := ans ns hlen
  exact law_run inK G.T.g G.T.b G.T.builtins G.T.nolimit hg hobj hints (Nat.le_trans hlen hn2) hr hF hb e
end Eng
set_option maxHeartbeats 1000000
/-! The engine, part 23: x[::-1]. -/
namespace HT
open PySem PySem.Spec PyProof.Rows
section
variable {prog : Program} {w : World} {A : Around} {E : Value → Shared → Prop} {s : Shared}
end
end HT
namespace Eng
open PySem PySem.Spec L2
open PyProof.Rows hiding St
section
variable {X : Cx} {ca : Nat → Addr} {W : WX} {f : ES}
def revO : O → Option O
  | .val (.tuple ds) => some (.val (.tuple ds.reverse))
  | .lst ds => some (.lst ds.reverse)
  | .val (.list ds) => some (.lst ds.reverse)
  | _ => none
/-! ### is True -/
def isB : O → O → Option O
  | .val (.bool a), .val (.bool b) => some (.val (.bool (decide (a = b))))
  | _, _ => none
def isnotB : O → O → Option O
  | .val (.bool a), .val (.bool b) => some (.val (.bool (!decide (a = b))))
  | _, _ => none
end
end Eng
set_option maxHeartbeats 1000000
/-! The engine, part 24: list(reversed(x)), tuple(reversed(x)), x a list. -/
namespace RL
open PySem PySem.Spec PyProof.Rows RT
section
variable {prog : Program} {w : World} {A : Around} {E : Value → Shared → Prop} {s : Shared} {R : Result → Shared → Prop} {it l S : Addr} {items : Array Value}
end
end RL
namespace Eng
open PySem PySem.Spec L2
open PyProof.Rows hiding St
section
variable {X : Cx} {ca : Nat → Addr} {W : WX} {f : ES}
def listRevS (o : O) : Option O := o.list?.map fun ds => .lst ds.reverse
end
end Eng
set_option maxHeartbeats 1000000
/-! The engine, part 25: a call that is never met. -/
namespace Eng
open PySem PySem.Spec L2
open PyProof.Rows hiding St
end Eng
set_option maxHeartbeats 1000000
/-! The engine, part 26: try .. except C as n, the exception kept as an object. -/
namespace Eng
open PySem PySem.Spec L2
open PyProof.Rows hiding St
section
variable {X : Cx} {pins : List (Addr × Obj)} {σ : L2.St} {H : Hp} {s : Shared}
/-- a thing of the heap that is told from now on -/
theorem inv_told {a : Addr} {o : HO} (I : Inv X pins σ H s) (na : H a = none) (n0 : ∀ ob, X.s_0.heap.get? a = some ob → a ∈ X.ex) (nl : a ≠ X.env.locals) (nc : ∀ v, ¬ s.heap.IsCell a v) (np : ∀ p ∈ X.pn ++ pins, p.1 ≠ a)
    (ok : ObjOk X.prog X.w (upd H a o) s.heap a o) : Inv X pins σ (upd H a o) s := by
  have off : ∀ {b : Addr} {u : HO}, H b = some u → upd H a o b = some u := fun {b u} e => by
    rw [upd_ne (fun q => by rw [q, na] at e; cases e)]
    exact e
  have offn : ∀ {b : Addr}, b ≠ a → H b = none → upd H a o b = none := fun hb e => by rw [upd_ne hb]; exact e
  have B := I.base
  exact
    { ok := I.ok
      os := I.os
      bare := I.bare
      base :=
        { keep := B.keep
          slot := B.slot
          free := fun b ob e n hx => offn (fun q => hx (q ▸ n0 ob (q ▸ e))) (B.free b ob e n hx)
          there := B.there
          tups := fun b xs e => off (B.tups b xs e)
          frzs := fun b ob u e => off (B.frzs b ob u e)
          tbls := fun b ps e => by
            obtain ⟨more, q⟩ := B.tbls b ps e
            exact ⟨more, off q⟩ }
      loc := I.loc
      cell := I.cell
      free := offn (Ne.symm nl) I.free
      freeC := fun x c e => offn (fun q => by
        obtain ⟨v, hv⟩ := I.cell x c e
        exact nc v (q ▸ hv)) (I.freeC x c e)
      pin := fun p hp => by
        obtain ⟨p1, p2, p3⟩ := I.pin p hp
        exact ⟨p1, offn (np p hp) p2, p3⟩
      hok := fun b u e => by
        by_cases hb : b = a
        · subst hb
          rw [upd_same] at e
          cases e
          exact ok
        · rw [upd_ne hb] at e
          exact (I.hok b u e).stay (fun _ _ _ q => q) (fun _ q => off q) fun _ _ q => off q
      len := I.len }
theorem inv_inSuite (a : Addr) (I : Inv X pins σ H s) : Inv (X.suite a (X.pn ++ pins)) [] σ H s :=
  { ok := I.ok.suite a (X.pn ++ pins), os := I.os, bare := I.bare, base := I.base, loc := I.loc, cell := I.cell, free := I.free, freeC := I.freeC, pin := fun p hp => I.pin p (by simpa using hp), hok := I.hok, len := I.len }
theorem inv_offSuite {a : Addr} {more : List (Addr × Obj)} (ok : X.Ok) (I : Inv (X.suite a (X.pn ++ pins)) more σ H s) : Inv X pins σ H s :=
  { ok := ok, os := I.os, bare := I.bare, base := I.base, loc := I.loc, cell := I.cell, free := I.free, freeC := I.freeC, pin := fun p hp => I.pin p (List.mem_append_left _ hp), hok := I.hok, len := I.len }
end
/-- what 'except c as n' wishes: n's slot is i; the suite finds the exception told -/
def wHold (K : PySem.W.Frag) (c : Value) (i : Nat) (ts : Addr → Addr → TS) (Wout : WX) (D : Ends) : WX := fun cls d σ H =>
  ∃ b, PySem.W.exmOne K cls c = some b ∧ (b = false → Wout cls d σ H) ∧ (b = true → d = none ∧ ∃ C, cls = .ref C ∧ ∀ a, H a = none →
    ts a C ⟨fun σ' H' => D.nx (σ'.set i none) H', D.rt, fun σ' H' => D.bk (σ'.set i none) H', fun σ' H' => D.ct (σ'.set i none) H'⟩ (σ.set i (some (.ref a))) (upd H a (.ext (ExT a C))))
section
variable {X : Cx} {x n : Str} {c : Value} {i : Nat} {body suite : List Stmt} {b₀ : Stmt} {np pos pos' : Pos} {tb : WX → TS} {ts : Addr → Addr → TS} {Wout : WX}
/-- an exception out of the body: caught, or passed on -/
theorem catch_hold {pins : List (Addr × Obj)} {D : Ends} {u : Value} {s1 : Shared} {xe : Value → Shared → Prop} (ok : X.Ok) (hs : X.stack = X.env :: X.outer) (hf : X.env.frame = some X.env.locals) (hN : X.N.Nodup) (hi : X.N[i]? = some n) (hln : X.env.kindOf n = some .local) (hc : Names X x c) (tk : Takes X Wout)
    (hsu : ∀ (a C : Addr) (pn : List (Addr × Obj)), PSs (X.suite a pn) (b₀ :: suite) (ts a C)) (q : XE (X.tr (X.pn ++ pins) xe) (wHold X.K c i ts Wout D) u s1) :
    wpAny (model X.prog X.w) X.A (noteFrame u X.env) (fun _ s2 => wpAny (model X.prog X.w) X.A (setFlight u none)
      (fun _ s3 => wpAny (model X.prog X.w) X.A (handleBy u X.env [.ExceptHandler (some (.Name x np)) (some n) (b₀ :: suite) pos']) (SP X pins D) X.xe s3) X.xe s2) X.xe s1 := by
  obtain ⟨a, B, s0, pins0, σ1, H1, cls, d, rfl, J0, ground, up0, sky, na, os, ag, b, eb, hno, hyes⟩ := q
  have J : Inv X pins σ1 H1 s0 := J0.ofTry ok
  have fr : X.A.frames = some (X.env :: X.outer) := ok.frames.trans (congrArg some hs)
  refine Sky.land (B := B) (L := X.env.locals) (Z := Zc cls d) Zc.steady fr hf (hs ▸ sky) fun g1 fly1 up1 => ?_
  -- the exception is no frame, and was not there
  have offFr : a ∉ frs (X.env :: X.outer) := by
    intro hm
    obtain ⟨oe, vs, e1, _, e2⟩ := fly1.there
    obtain ⟨_, o2, e3, e4⟩ := fly1.2.2.1.mem hm
    rw [e1] at e3
    cases e3
    exact e4 vs e2
  have offL : a ≠ X.env.locals := fun z => offFr (List.mem_filterMap.mpr ⟨X.env, .head _, z ▸ hf⟩)
  have new0 : ∀ ob, s0.heap.get? a = some ob → False := fun ob e => by
    have := ground a ob e (by rw [show (X.tr (X.pn ++ pins) xe).stack = X.env :: X.outer from hs]; exact offFr)
    rw [fly1.2.1] at this
    cases this
  have J1 : Inv X pins σ1 H1 { s1 with heap := g1 } := J.landed ground fly1.1 (up0.trans up1) os ag
  obtain ⟨o1, vs1, at1, z1, dt1⟩ := fly1.there
  have look1 : PySem.W.Looks (model X.prog X.w) g1 (typeOf (.ref a)) cls := fun _ _ _ _ k w => wpAny_typeOf_ref (k a o1 at1) (z1.1.symm ▸ w)
  have match1 := PySem.W.exm_one (M := model X.prog X.w) J1.kIn look1 eb
  refine wpAny_handleBy_cons (codeAny_handlers_test ?_) (fun z => by cases z)
  have class1 : ∀ {Q E : Value → Shared → Prop}, Q c { s1 with heap := g1 } → wpAny (model X.prog X.w) (X.A.mark (some (.ref a))) (eval (.Name x np) X.env) Q E { s1 with heap := g1 } := by
    intro Q E w
    have S1 := inv_inSuite a J1
    rcases hc with ⟨hg, hd, hm | ⟨hm, hv, hnn⟩⟩
    · exact ld_glob (X := X.suite a (X.pn ++ pins)) S1 hg hm w hd
    · exact ld_blt (X := X.suite a (X.pn ++ pins)) S1 hg hm hv w hnn hd
  refine class1 (match1.here ?_)
  cases b with
  | false =>
    refine wpAny_handleBy_nil ?_
    obtain ⟨_, _, _, o2, vs2, T, oT, tv, e1, _, e2, e3, _⟩ := id fly1
    unfold PySem.passOn
    refine wpAny_bind (wpAny_field e1 e2 e3 ?_)
    rw [if_neg (by simp : ¬ (Value.ref T == Value.none) = true)]
    have away : wpAny (model X.prog X.w) X.A (setFlight (.ref a) X.env.frame) (fun _ s4 => wpAny (model X.prog X.w) X.A (throw (.ref a) : Sem Flow) (SP X pins D) X.xe s4) X.xe { s1 with heap := g1 } := by
      rw [hf]
      refine HandSPX.setFlight_upZ fly1 fun g2 held2 up2 => ?_
      refine wpAny_throw (tk _ _ ⟨a, B, s0, pins, σ1, H1, cls, d, rfl, J, ground, (up0.trans up1).trans up2, .inr (.inr (hs.symm ▸ held2)), na, os, ag, hno rfl⟩)
    first
      | exact wpAny_bind (wpAny_pure (wpAny_bind away))
      | exact wpAny_bind away
  | true =>
    obtain ⟨rfl, C, rfl, go⟩ := hyes rfl
    refine codeAny_handlers_suite_as (HandSPX.lands_againZ fly1 fun g2 fly2 up2 => ?_)
    have J2 : Inv X pins σ1 H1 { s1 with heap := g2 } := J.landed ground fly2.1 ((up0.trans up1).trans up2) os ag
    obtain ⟨o2, vs2, at2, z2, dt2⟩ := fly2.there
    have ext2 : ObjOk X.prog X.w (upd H1 a (.ext (ExT a C))) g2 a (.ext (ExT a C)) :=
      ⟨⟨o2, at2, z2.1, z2.2, vs2, dt2⟩, ⟨o2, at2⟩, fun h h' ⟨o, e1, e2⟩ k => ⟨o, k o e1, e2⟩⟩
    have J3 : Inv X pins σ1 (upd H1 a (.ext (ExT a C))) { s1 with heap := g2 } := by
      refine inv_told J2 na (fun ob e => ?_) offL (fun v hv => ?_) (fun p hp hpa => ?_) ext2
      · refine Classical.byContradiction fun hx => ?_
        obtain ⟨o', e'⟩ := J.base.there a ob e hx
        exact new0 o' e'
      · obtain ⟨oc, e1, e2⟩ := hv
        rw [at2] at e1
        cases e1
        rw [dt2] at e2
        cases e2
      · exact new0 p.2 (hpa ▸ (J.pin p hp).1)
    refine store_ok (X := X.suite a (X.pn ++ pins)) (v := .ref a) (inv_inSuite a J3) hN hi (.inl hln) rfl (fun s5 S5 => ?_) (.inr hln)
    refine wpAny_mono ((hsu a C (X.pn ++ pins)).run [] s5 _ _ _ S5 (go a na)) (fun fl s6 w => ?_) fun _ _ z => z.elim
    have leave : ∀ {σ6 : L2.St} {H6 : Hp} {Q : Shared → Prop}, Inv (X.suite a (X.pn ++ pins)) [] σ6 H6 s6 → (∀ s7, Inv X pins (σ6.set i none) H6 s7 → Q s7) →
        wpAny (model X.prog X.w) X.A (do bindName X.env n .none; unbindBehindTheSuite X.env n pos') (fun _ s7 => Q s7) X.xe s6 := fun S6 k => gone_ok (inv_offSuite ok S6) hN hi hln k
    cases fl with
    | next =>
      obtain ⟨_, _, S6, w⟩ := w
      exact leave S6 fun _ J7 => ⟨_, _, J7, w⟩
    | brk =>
      obtain ⟨_, _, S6, w⟩ := w
      exact leave S6 fun _ J7 => ⟨_, _, J7, w⟩
    | cont =>
      obtain ⟨_, _, S6, w⟩ := w
      exact leave S6 fun _ J7 => ⟨_, _, J7, w⟩
    | ret v =>
      obtain ⟨_, _, _, S6, r, w⟩ := w
      exact leave S6 fun _ J7 => ⟨_, _, _, J7, r, w⟩
theorem ps_try_hold (hs : X.stack = X.env :: X.outer) (hf : X.env.frame = some X.env.locals) (hN : X.N.Nodup) (hi : X.N[i]? = some n) (hln : X.env.kindOf n = some .local) (hc : Names X x c) (tk : Takes X Wout)
    (hb : ∀ (W : WX) (pn : List (Addr × Obj)) (xe : Value → Shared → Prop), Takes (X.tr pn xe) W → PassesOwn (model X.prog X.w) X.A X.env xe → PSs (X.tr pn xe) body (tb W))
    (hsu : ∀ (a C : Addr) (pn : List (Addr × Obj)), PSs (X.suite a pn) (b₀ :: suite) (ts a C)) :
    PS X (.Try body [.ExceptHandler (some (.Name x np)) (some n) (b₀ :: suite) pos'] [] [] pos) (fun D σ H => tb (wHold X.K c i ts Wout D) D σ H) := by
  constructor
  intro pins s σ H D I h
  have ok := I.ok
  apply wpAny_Try_except
  have run1 := (hb (wHold X.K c i ts Wout D) (X.pn ++ pins) _ (fun u s1 q => catch_hold (np := np) (pos' := pos') ok hs hf hN hi hln hc tk hsu q) PassesOwn.looking).run [] s σ H D (I.toTry _) h
  refine wpAny_mono run1 (fun fl s1 w => ?_) fun _ _ z => z
  cases fl with
  | next =>
    obtain ⟨_, _, T1, w⟩ := w
    exact wpAny_execs_nil ⟨_, _, T1.ofTry ok, w⟩
  | brk =>
    obtain ⟨_, _, T1, w⟩ := w
    exact ⟨_, _, T1.ofTry ok, w⟩
  | cont =>
    obtain ⟨_, _, T1, w⟩ := w
    exact ⟨_, _, T1.ofTry ok, w⟩
  | ret v =>
    obtain ⟨_, _, _, T1, r, w⟩ := w
    exact ⟨_, _, _, T1.ofTry ok, r, w⟩
end
end Eng
set_option maxHeartbeats 1000000
/-! The engine, part 27: the program's exceptions: what is known of their classes; isinstance; try. -/
namespace Eng
open PySem PySem.Spec L2
open PyProof.Rows hiding St
/-- the classes by their numbers -/
def clN : Nat → Str
  | 0 => "PrimerError" | 1 => "NoText" | 2 => "Unfit" | 3 => "Unknown" | 4 => "Unlearnt" | 5 => "TooMany" | 6 => "Lacking" | 7 => "NoRow" | 8 => "NoDeed" | 9 => "Shelf" | _ => "Desk"
/-- whether class c is class j, or below it (cl: those that the text has) -/
def subC (cl : List Nat) (j c : Nat) : Option Bool := if cl.contains c = true then some (j == 0 || c == j) else none
structure Xf (K : PySem.W.Frag) (mg : Str → Option Value) (ca : Nat → Addr) (cl : List Nat) : Prop where
  g : ∀ c ∈ cl, mg (clN c) = some (.ref (ca c))
  x : ∀ c ∈ cl, PySem.W.excIn K (ca c) [.type "ValueError", .type "Exception", .type "BaseException", .type "object"] "ValueError.__new__" = true ∧ PySem.W.keepIn K (.ref (ca c)) = true ∧ PySem.W.subIn K (.ref (ca c)) (.type "BaseException") = some true ∧ PySem.W.typeIn K (.ref (ca c)) = some (.type "type")
  e : ∀ c ∈ cl, ExcC K (ca c)
  m : ∀ c ∈ cl, ∀ j ∈ cl, PySem.W.exmOne K (.ref (ca c)) (.ref (ca j)) = some (j == 0 || c == j)
  k : ∀ c ∈ cl, ∀ j ∈ cl, PySem.W.kitOne K (.ref (ca c)) (.ref (ca j)) = some (j == 0 || c == j)
  v : ∀ c ∈ cl, PySem.W.kitOne K (.ref (ca c)) (.type "ValueError") = some true
  n : mg "ValueError" = none
theorem subC_some {cl : List Nat} {j c : Nat} {b : Bool} (h : subC cl j c = some b) : c ∈ cl ∧ b = (j == 0 || c == j) := by
  unfold subC at h
  split at h
  · rename_i hc
    cases h
    exact ⟨by simpa using hc, rfl⟩
  · cases h
theorem bb_ve : bootBuiltins "ValueError" = some (.type "ValueError") := by decide +kernel
theorem bb_isi : bootBuiltins "isinstance" = some (.builtin "isinstance") := by decide +kernel
theorem hGs {A : Around} {v : Option Value} (h : A.guards = some []) : (A.mark v).guards = some [] := h
section
variable {X : Cx} {ca : Nat → Addr} {W : WX} {f : ES} {cl : List Nat}
theorem ext_inst {pins : List (Addr × Obj)} {s : Shared} {σ : L2.St} {H : Hp} {a C : Addr} (I : Inv X pins σ H s) (h : H a = some (.ext (ExT a C))) : ∃ oe, PySem.W.InstAt s.heap a oe C none := by
  obtain ⟨⟨o, e1, e2, e3, vs, e4⟩, _⟩ := I.hok a _ h
  obtain ⟨oc, od, dt, osl⟩ := o
  dsimp only at e2 e3 e4
  subst e2 e3 e4
  exact ⟨_, e1, rfl, rfl, trivial⟩
/-- isinstance(e, C), e told -/
def rIsX (K : PySem.W.Frag) : List V → Hp → VK → Prop := fun xs H Q => ∃ (a C : Addr) (t : V) (tv : Value) (b : Bool), xs = [.ref a, t] ∧ H a = some (.ext (ExT a C)) ∧ ExcC K C ∧ (∀ u, RelV t u → u = tv) ∧ PySem.W.kitOne K (.ref C) tv = some b ∧ Q (.bl b) H
theorem call_isX : CallR X (.builtin "isinstance") (rIsX X.K) := by
  intro pins s σ H xs us Q I r ⟨a, C, t, tv, b, ex, ha, ec, ht, eb, q⟩
  subst ex
  cases r with
  | cons r1 r2 =>
    cases r2 with
    | cons r2 r3 =>
      cases r3
      cases r1
      cases ht _ r2
      obtain ⟨oe, ia⟩ := ext_inst I ha
      exact PySem.W.kia_one (PySem.W.handS_kitx_exc ec.hg ec.hk ec.hs ec.hd ec.ha ec.hn ec.ht ec.hm) I.kIn ia eb (by intro z; cases z) fun tk => ⟨.bl b, H, I.kept (t' := tk) (fun _ _ w => w), rfl, q⟩
/-- isinstance of an exception: a class of the text (j), ValueError, a tuple of classes -/
def isxS (cl : List Nat) (j : Nat) : O → Option O
  | .exn c => (subC cl j c).map fun b => .val (.bool b)
  | _ => none
def isvS (cl : List Nat) : O → Option O
  | .exn c => if cl.contains c = true then some (.val (.bool true)) else none
  | _ => none
variable {e : Expr} {p p2 pos : Pos} {x : Str}
theorem rb_exn {Z : Zs} {H : Hp} {c : Nat} {v : V} (h : Rb (gx X ca) Z H (.exn c) v) : ∃ a, v = .ref a ∧ H a = some (.ext (ExT a (ca c))) := by
  obtain ⟨F, h⟩ := h
  cases h with
  | exn e => exact ⟨_, rfl, e⟩
theorem se_isX (F : Xf X.K X.mg ca cl) (j : Nat) (hj : j ∈ cl) (he : PE X e (RdE X ca W f)) (hg : Gl X "isinstance") (hm : X.mg "isinstance" = none) (hg2 : Gl X (clN j)) (hd : (clN j == ("__debug__" : Str)) = false) (hs : notStar e = true) :
    PE X (.Call (.Name "isinstance" p) [e, .Name (clN j) p2] [] pos) (RdE X ca W (o1 (isxS cl j) f)) := by
  have h1 : PA X [e, .Name (clN j) p2] (tCons (RdE X ca W f) (tCons (tC (.ref (ca j))) tNil)) := pa_cons he (pa_cons (pe_glob hg2 (F.g j hj) rfl hd) pa_nil (star_cons rfl)) (star_cons hs)
  refine PE.imp (pe_callB (call_isX (X := X)) hg hm bb_isi h1 (by decide) (by decide) (star_cons hs) (star_plain (by rfl))) fun σ H Q q => (rd_o1 q).mono fun v H1 h => ?_
  obtain ⟨Z, a, o, zd, ha, e1, q⟩ := rsem1 h
  unfold isxS at e1
  split at e1
  · rename_i c
    cases e2 : subC cl j c with
    | none => rw [e2] at e1; cases e1
    | some b =>
      rw [e2] at e1
      cases e1
      obtain ⟨hc, rfl⟩ := subC_some e2
      obtain ⟨a', rfl, h3⟩ := rb_exn ha
      exact ⟨a', ca c, .ref (ca j), .ref (ca j), _, rfl, h3, F.e c hc, fun u r => r, F.k c hc j hj, q _ _ [] (Al.val (.bl _))⟩
  · cases e1
theorem se_isV (F : Xf X.K X.mg ca cl) (he : PE X e (RdE X ca W f)) (hg : Gl X "isinstance") (hm : X.mg "isinstance" = none) (hg2 : Gl X "ValueError") (hs : notStar e = true) :
    PE X (.Call (.Name "isinstance" p) [e, .Name "ValueError" p2] [] pos) (RdE X ca W (o1 (isvS cl) f)) := by
  have h1 : PA X [e, .Name "ValueError" p2] (tCons (RdE X ca W f) (tCons (tC (.ty "ValueError")) tNil)) := pa_cons he (pa_cons (pe_bltn hg2 F.n bb_ve rfl (by decide) (by decide)) pa_nil (star_cons rfl)) (star_cons hs)
  refine PE.imp (pe_callB (call_isX (X := X)) hg hm bb_isi h1 (by decide) (by decide) (star_cons hs) (star_plain (by rfl))) fun σ H Q q => (rd_o1 q).mono fun v H1 h => ?_
  obtain ⟨Z, a, o, zd, ha, e1, q⟩ := rsem1 h
  unfold isvS at e1
  split at e1
  · rename_i c
    split at e1
    · rename_i hc
      cases e1
      have hc : c ∈ cl := by simpa using hc
      obtain ⟨a', rfl, h3⟩ := rb_exn ha
      exact ⟨a', ca c, .ty "ValueError", .type "ValueError", _, rfl, h3, F.e c hc, fun u r => r, F.v c hc, q _ _ [] (Al.val (.bl _))⟩
    · cases e1
  · cases e1
end

/-! ### try -/
/-- the name of an except clause goes -/
def gone (i : Nat) : SOut → SOut
  | .nx ρ => .nx (ρ.set i none)
  | .bk ρ => .bk (ρ.set i none)
  | .ct ρ => .ct (ρ.set i none)
  | .rt o ρ => .rt o ρ
  | _ => .stuck
def sTry (cl : List Nat) (j i : Nat) (b s : SS) : SS := fun ρ => match b ρ with
  | .exc c ρ1 => match subC cl j c with
    | some true => match setE i (.exn c) ρ1 with
      | some ρ2 => gone i (s ρ2)
      | none => .stuck
    | some false => .exc c ρ1
    | none => .stuck
  | o => o
section
variable {X : Cx} {ca : Nat → Addr} {W : WX} {b s : SS} {cl : List Nat} {i j : Nat} {θ : Nat → V} {G : Gx} {Z : Zs} {H : Hp} {σ : L2.St} {L : List Addr} {ρ : En}
theorem rep_gone (r : Rep θ G Z H ρ σ L) (i : Nat) : ∃ L', Rep θ G Z H (ρ.set i none) (σ.set i none) L' ∧ ∀ a ∈ L', a ∈ L := by
  cases e : ρ[i]? with
  | none =>
    refine ⟨L, ?_, fun _ h => h⟩
    have h1 := List.getElem?_eq_none_iff.mp e
    have h2 := r.sl.length
    rw [List.set_eq_of_length_le h1, List.set_eq_of_length_le (by omega)]
    exact r
  | some sl =>
    obtain ⟨L1, F, L2, x, rfl, e2, _, put⟩ := r.put e
    have rp := put (Z' := Z) (H' := H) (sl' := none) (x' := none) (F' := []) Kp.refl (fun _ _ _ q => q) .no List.nodup_nil (fun _ q => by cases q) (fun _ q => by cases q)
      (fun c hc => r.dis c ((List.mem_append.mp hc).elim (List.mem_append_left _) fun h => List.mem_append_right _ (List.mem_append_right _ h))) r.zd (fun o q => by cases q)
    refine ⟨_, rp, fun a ha => ?_⟩
    simp only [List.mem_append, List.nil_append] at ha ⊢
    exact ha.elim .inl fun h => .inr (.inr h)
variable {x n : Str} {body suite : List Stmt} {b₀ : Stmt} {np pos pos' : Pos}
theorem ss_try (F : Xf X.K X.mg ca cl) (hj : j ∈ cl) (hs : X.stack = X.env :: X.outer) (hf : X.env.frame = some X.env.locals) (hN : X.N.Nodup) (hi : X.N[i]? = some n) (hln : X.env.kindOf n = some .local) (hg : Gl X (clN j)) (hd : (clN j == ("__debug__" : Str)) = false) (tk : Takes X W)
    (hb : ∀ (W' : WX) (pn : List (Addr × Obj)) (xe : Value → Shared → Prop), Takes (X.tr pn xe) W' → PassesOwn (model X.prog X.w) X.A X.env xe → PSs (X.tr pn xe) body (RdS (X.tr pn xe) ca W' b))
    (hsu : ∀ (a : Addr) (pn : List (Addr × Obj)), PSs (X.suite a pn) (b₀ :: suite) (RdS (X.suite a pn) ca WF s)) :
    PS X (.Try body [.ExceptHandler (some (.Name (clN j) np)) (some n) (b₀ :: suite) pos'] [] [] pos) (RdS X ca W (sTry cl j i b s)) := by
  refine PS.imp (ps_try_hold (c := .ref (ca j)) (tb := fun W' => RdS X ca W' b) (ts := fun _ _ => RdS X ca WF s) hs hf hN hi hln ⟨hg, hd, .inl (F.g j hj)⟩ tk hb fun a C pn => hsu a pn) fun D σ H ⟨θ, Z, ρ, L, r, q⟩ => ⟨θ, Z, ρ, L, r, ?_⟩
  unfold sTry at q
  cases e : b ρ with
  | stuck => rw [e] at q; exact q
  | nx ρ1 => rw [e] at q; exact q
  | rt o ρ1 => rw [e] at q; exact q
  | bk ρ1 => rw [e] at q; exact q
  | ct ρ1 => rw [e] at q; exact q
  | exc c ρ1 =>
    rw [e] at q
    intro Z1 H1 L1 σ1 r1 s1
    simp only at q
    cases e2 : subC cl j c with
    | none => rw [e2] at q; exact q.elim
    | some k =>
      rw [e2] at q
      obtain ⟨hc, hk⟩ := subC_some e2
      refine ⟨k, by rw [hk]; exact F.m c hc j hj, fun z => ?_, fun z => ?_⟩
      · subst z
        exact q Z1 H1 L1 σ1 r1 s1
      · subst z
        refine ⟨rfl, ca c, rfl, fun a na => ?_⟩
        have al : Al (gx X ca) Z1 H1 (.exn c) (.ref a) (upd H1 a (.ext (ExT a (ca c)))) [a] := ⟨same_new na, .exn upd_same, by simp, fun a' h => by rw [List.mem_singleton] at h; rw [h]; exact na⟩
        have r2 := al.rep r1
        have s2 : Step Z1 L1 H1 Z1 ([a] ++ L1) (upd H1 a (.ext (ExT a (ca c)))) := al.step
        simp only at q
        cases e3 : setE i (.exn c) ρ1 with
        | none => rw [e3] at q; exact q.elim
        | some ρ2 =>
          rw [e3] at q
          obtain ⟨L3, r3, sub3⟩ := setE_ok r2 (al.held r1) e3
          have s3 := s1.trans (s2.sub (L1 := L3) sub3)
          refine ⟨θ, Z1, ρ2, L3, r3, ?_⟩
          simp only at q
          cases e4 : s ρ2 with
          | stuck => rw [e4] at q; exact q.elim
          | exc c' ρ3 => rw [e4] at q; exact q.elim
          | nx ρ3 =>
            rw [e4] at q
            intro Z4 H4 L4 σ4 r4 s4
            obtain ⟨L5, r5, sub5⟩ := rep_gone r4 i
            exact q Z4 H4 L5 _ r5 ((s3.trans s4).sub sub5)
          | bk ρ3 =>
            rw [e4] at q
            intro Z4 H4 L4 σ4 r4 s4
            obtain ⟨L5, r5, sub5⟩ := rep_gone r4 i
            exact q Z4 H4 L5 _ r5 ((s3.trans s4).sub sub5)
          | ct ρ3 =>
            rw [e4] at q
            intro Z4 H4 L4 σ4 r4 s4
            obtain ⟨L5, r5, sub5⟩ := rep_gone r4 i
            exact q Z4 H4 L5 _ r5 ((s3.trans s4).sub sub5)
          | rt o ρ3 =>
            rw [e4] at q
            intro Z4 H4 L4 F4 v4 σ4 r4 h4 s4
            exact q Z4 H4 L4 F4 v4 σ4 r4 h4 (s3.trans s4)
end
end Eng
set_option maxHeartbeats 1000000
/-! The engine, part 28: xs.index(y), xs.count(y), xs.insert(i, y), dict(pairs), d.pop(k). -/
namespace Eng
open PySem PySem.Spec L2
open PyProof.Rows hiding St
/-! ### methods that only read -/
/-- a method of a list that reads: the list's operand, one argument -/
def oRd (sem : O → O → Option O) (f g : ES) : ES := fun ρ => (f ρ).bind fun p ρ1 => match look ρ1 p with
  | some o0 => if o0.list?.isSome = true then (g ρ1).bind fun q ρ2 => match looks ρ2 [p, q] with
      | some os => put ρ2 (two sem os)
      | none => .stuck
    else .stuck
  | none => .stuck
section
variable {X : Cx} {ca : Nat → Addr} {W : WX} {f g : ES} {σ : L2.St} {H : Hp}
variable {o e : Expr} {apos pos : Pos} {k : Nat}
/-! ### xs.insert(i, y) -/
/-! ### dict(pairs) -/
/-! ### d.pop(k) -/
end
end Eng
set_option maxHeartbeats 1000000
/-! The engine, part 29: raise by the classes' facts; these facts at the head. -/
namespace Eng
open PySem PySem.Spec L2
open PyProof.Rows hiding St
section
variable {X : Cx} {ca : Nat → Addr} {W : WX} {cl : List Nat}
theorem ss_raiseX {m : Str} {j0 : Nat} {p p2 pos pos' : Pos} (F : Xf X.K X.mg ca cl) (j : Nat) (hj : j ∈ cl) (hc : X.calm = true) (tk : Takes X W) (hg : Gl X (clN j)) (hd : (clN j == ("__debug__" : Str)) = false) :
    PS X (.Raise (some (.Call (.Name (clN j) p) [.Constant (.str m) j0 p2] [] pos')) none pos) (RdS X ca W (sRaise j)) :=
  ss_raise rfl hc tk PySem.F.excBase_ValueError (F.x j hj).1 (F.g j hj) (F.x j hj).2.1 (raises_own (F.x j hj).2.2.1 (F.x j hj).2.2.2) hg hd
end
/-- a class of exceptions, looked at -/
def excB (K : PySem.W.Frag) (C : Addr) : Bool :=
  He.eqO (PySem.W.findIn K (.ref C) "__getattribute__") (some (some (.builtin "BaseException.__getattribute__"))) && (He.eqO (PySem.W.findIn K (.ref C) "__getattr__") (some none) && (decide (PySem.W.subIn K (.ref C) (.type "BaseException") = some true) &&
    (PySem.W.hasDictIn K C && (He.eqO (PySem.W.findIn K (.ref C) "__class__") (some (some (.builtin "object.__class__"))) && (He.eqO (PySem.W.specialIn K (.builtin "object.__class__") "__get__") (some (some (.builtin "getset_descriptor.__get__"))) &&
      (decide (PySem.W.takesIn K (.builtin "object.__class__") = some true) && decide (PySem.W.mroIn K C (.type "object") = some true)))))))
theorem excB_ok {K : PySem.W.Frag} {C : Addr} (h : excB K C = true) : ExcC K C := by
  unfold excB at h
  obtain ⟨h1, h⟩ := He.ba h
  obtain ⟨h2, h⟩ := He.ba h
  obtain ⟨h3, h⟩ := He.ba h
  obtain ⟨h4, h⟩ := He.ba h
  obtain ⟨h5, h⟩ := He.ba h
  obtain ⟨h6, h⟩ := He.ba h
  obtain ⟨h7, h8⟩ := He.ba h
  exact ⟨He.eqO_ok h1, He.eqO_ok h2, of_decide_eq_true h3, h4, He.eqO_ok h5, He.eqO_ok h6, of_decide_eq_true h7, of_decide_eq_true h8⟩
def caOf (K : PySem.W.Frag) (c : Nat) : Addr := He.ga K (clN c)
def veL : List Value := [.type "ValueError", .type "Exception", .type "BaseException", .type "object"]
def oneB (K : PySem.W.Frag) (C : Addr) : Bool := PySem.W.excIn K C veL "ValueError.__new__" && (PySem.W.keepIn K (.ref C) && (decide (PySem.W.subIn K (.ref C) (.type "BaseException") = some true) && decide (PySem.W.typeIn K (.ref C) = some (.type "type"))))
def clB (cl : List Nat) (K : PySem.W.Frag) : Bool :=
  (cl.all fun c => He.eqO (PySem.W.nsIn K mainGlobals (clN c)) (some (some (.ref (caOf K c)))) && (oneB K (caOf K c) && (excB K (caOf K c) && (decide (PySem.W.kitOne K (.ref (caOf K c)) (.type "ValueError") = some true) &&
    cl.all fun j => decide (PySem.W.exmOne K (.ref (caOf K c)) (.ref (caOf K j)) = some (j == 0 || c == j)) && decide (PySem.W.kitOne K (.ref (caOf K c)) (.ref (caOf K j)) = some (j == 0 || c == j)))))) &&
  He.eqO (PySem.W.nsIn K mainGlobals "ValueError") (some none)
theorem clB_ok {cl : List Nat} {K : PySem.W.Frag} {h : Heap} {mg : Str → Option Value} (X : K.In h) (G : h.Ns mainGlobals mg) (b : clB cl K = true) : Xf K mg (caOf K) cl := by
  unfold clB at b
  obtain ⟨b1, b2⟩ := He.ba b
  have all : ∀ c ∈ cl, He.eqO (PySem.W.nsIn K mainGlobals (clN c)) (some (some (.ref (caOf K c)))) = true ∧ oneB K (caOf K c) = true ∧ excB K (caOf K c) = true ∧ PySem.W.kitOne K (.ref (caOf K c)) (.type "ValueError") = some true ∧
      ∀ j ∈ cl, PySem.W.exmOne K (.ref (caOf K c)) (.ref (caOf K j)) = some (j == 0 || c == j) ∧ PySem.W.kitOne K (.ref (caOf K c)) (.ref (caOf K j)) = some (j == 0 || c == j) := fun c hc => by
    obtain ⟨g1, g⟩ := He.ba (List.all_eq_true.mp b1 c hc)
    obtain ⟨g2, g⟩ := He.ba g
    obtain ⟨g3, g⟩ := He.ba g
    obtain ⟨g4, g5⟩ := He.ba g
    exact ⟨g1, g2, g3, of_decide_eq_true g4, fun j hj => by
      obtain ⟨k1, k2⟩ := He.ba (List.all_eq_true.mp g5 j hj)
      exact ⟨of_decide_eq_true k1, of_decide_eq_true k2⟩⟩
  exact
    { g := fun c hc => PySem.W.mg_of X G (He.eqO_ok (all c hc).1)
      x := fun c hc => by
        have := (all c hc).2.1
        unfold oneB at this
        obtain ⟨c1, c⟩ := He.ba this
        obtain ⟨c2, c⟩ := He.ba c
        obtain ⟨c3, c4⟩ := He.ba c
        exact ⟨c1, c2, of_decide_eq_true c3, of_decide_eq_true c4⟩
      e := fun c hc => excB_ok (all c hc).2.2.1
      m := fun c hc j hj => ((all c hc).2.2.2.2 j hj).1
      k := fun c hc j hj => ((all c hc).2.2.2.2 j hj).2
      v := fun c hc => (all c hc).2.2.2.1
      n := PySem.W.mg_none_of X G (He.eqO_ok b2) }
/-! ### a hook with one more look -/
def obsM (n : Nat) (fa : List He.Fa) (fn : List He.FnD) (ex : PySem.W.Frag → Bool) (g : Addr → Option Obj) : He.Al × Bool := (He.obsG n fa fn g, ex (He.frG g (He.asG g n)))
def SaysM (fa : List He.Fa) (fn : List He.FnD) (ex : PySem.W.Frag → Bool) (K : PySem.W.Frag) : Prop := He.SaysE fa fn K ∧ ex K = true
def hookM (n : Nat) (fa : List He.Fa) (fn : List He.FnD) (ex : PySem.W.Frag → Bool) : PySem.W.Hook where
  α := He.Al × Bool
  obs := fun s => obsM n fa fn ex s.heap.get?
  val := fun _ => (He.valE fn, true)
  says := fun _ h => ∃ K : PySem.W.Frag, K.In h ∧ SaysM fa fn ex K
  of := fun _ _ e => ⟨_, He.frG_in, (Prod.mk.inj e).1, (Prod.mk.inj e).2⟩
  keeps := fun _ _ _ ⟨K, hK, c⟩ k => ⟨K, PySem.W.Frag.In.keeps hK k, c⟩
theorem obsM_eq {n : Nat} {fa : List He.Fa} {fn : List He.FnD} {ex : PySem.W.Frag → Bool} {g : Addr → Option Obj} {s : Shared} (h : ∀ a, g a = s.heap.get? a) : obsM n fa fn ex g = (hookM n fa fn ex).obs s := by
  have e : g = s.heap.get? := funext h
  rw [e]
  rfl
end Eng
set_option maxHeartbeats 1000000
/-! The engine, part 30: list(reversed(t)), tuple(reversed(t)), t a tuple. -/
namespace RL
open PySem PySem.Spec PyProof.Rows RT
section
variable {prog : Program} {w : World} {A : Around} {E : Value → Shared → Prop} {s : Shared} {R : Result → Shared → Prop} {it t S : Addr} {items : Array Value}
end
end RL
namespace Eng
open PySem PySem.Spec L2
open PyProof.Rows hiding St
section
variable {X : Cx} {ca : Nat → Addr} {W : WX} {f : ES}
/-- the items of a tuple, reversed -/
def listRvT : O → Option O
  | .val (.tuple ds) => some (.lst ds.reverse)
  | _ => none
def tupRvT : O → Option O
  | .val (.tuple ds) => some (.val (.tuple ds.reverse))
  | _ => none
end
end Eng
/-! The engine, part 31: a thing that a call tells anew, read, and then changed within. -/
namespace Eng
open PySem PySem.Spec L2
open PyProof.Rows hiding St

/-! ### data without lists -/
mutual
def lfD : D → Bool
  | .list _ => false
  | .tuple ds => lfA ds
  | .dict _ => false
  | _ => true
def lfA : List D → Bool
  | [] => true
  | d :: ds => lfD d && lfA ds
end
/-- what is kept of tuples, of the script -/
structure Tk (K : PySem.W.Frag) (H H' : Hp) : Prop where
  t : ∀ a xs, SqT K H a xs → SqT K H' a xs
  f : ∀ a ns, SqS K H a ns → SqS K H' a ns
section
variable {Z Z' : Zs} {K : PySem.W.Frag} {H H' : Hp} {G : Gx}
mutual
theorem Dz.free (k : Tk K H H') : ∀ {d : D} {v : V}, lfD d = true → Dz Z K H d v → Dz Z' K H' d v
  | .none, _, _, h => by cases h; exact .non
  | .bool _, _, _, h => by cases h; exact .bl _
  | .int _, _, _, h => by cases h; exact .int _
  | .str _, _, _, h => by cases h; exact .str _
  | .list _, _, e, h => by simp [lfD] at e
  | .tuple ds, _, e, h => by
    cases h with
    | tup r h => exact .tup (k.t _ _ r) (DzA.free k (by simpa [lfD] using e) h)
  | .dict _, _, e, h => by cases h
theorem DzA.free (k : Tk K H H') : ∀ {ds : List D} {vs : List V}, lfA ds = true → DzA Z K H ds vs → DzA Z' K H' ds vs
  | [], _, _, h => by cases h; exact .nil
  | d :: ds, _, e, h => by
    cases h with
    | cons h t =>
      have e2 : lfD d = true ∧ lfA ds = true := by simpa [lfA] using e
      exact .cons (Dz.free k e2.1 h) (DzA.free k e2.2 t)
end
def lfO : O → Bool
  | .val d => lfD d
  | .scr _ => true
  | .lst ds => lfA ds
  | .set _ => true
  | .dic es => lfA (es.map (·.1)) && lfA (es.map (·.2))
  | _ => false
theorem Ro.free {F : List Addr} {v : V} (k : Tk G.K H H') : ∀ {o : O}, lfO o = true → Ro G Z H o v F → (∀ a ∈ F, ∀ u, H a = some u → H' a = some u) → Ro G Z' H' o v F := by
  intro o e h hf
  cases h with
  | val h => exact .val (h.free k (by simpa [lfO] using e))
  | scr h => exact .scr (k.f _ _ h)
  | set e1 => exact .set (hf _ (by simp) _ e1)
  | lst e1 h => exact .lst (hf _ (by simp) _ e1) (h.free k (by simpa [lfO] using e))
  | dic e1 hk hv nd =>
    rename_i a kvs es
    have e2 : lfA (es.map (·.1)) = true ∧ lfA (es.map (·.2)) = true := by simpa [lfO] using e
    exact .dic (hf _ (by simp) _ e1) (hk.free k e2.1) (hv.free k e2.2) nd
  | dct e1 hx nd ne =>
    rename_i a xs es
    have e2 : lfA (es.map (·.1)) = true ∧ lfA (es.map (·.2)) = true := by simpa [lfO] using e
    have key : ∀ {xs : List (NestedKey × Addr × Value)} {es : List (D × D)}, Paired (NEnt Z G.K H) xs es → lfA (es.map (·.1)) = true → lfA (es.map (·.2)) = true → Paired (NEnt Z' G.K H') xs es := by
      intro xs es p
      induction p with
      | nil => intro _ _; exact .nil
      | cons h t ih =>
        intro a1 a2
        simp only [List.map_cons, lfA, Bool.and_eq_true] at a1 a2
        obtain ⟨h1, h2, h3, w, h4, h5⟩ := h
        exact .cons ⟨h1, h2, h3.free k a1.1, w, h4, h5.free k a2.1⟩ (ih a1.2 a2.2)
    exact .dct (hf _ (by simp) _ e1) (key hx e2.1 e2.2) nd ne
  | ins => simp [lfO] at e
  | exn => simp [lfO] at e
/-- slot by slot -/
theorem RoS.slots : ∀ {ρ : En} {σ : L2.St} {L : List Addr}, RoS G Z H ρ σ L → (∀ (j : Nat) (p : Bool) (o : O) (v : V) (F : List Addr), ρ[j]? = some (some (p, o)) → σ[j]? = some (some v) → Ro G Z H o v F → (∀ a ∈ F, a ∈ L) → Ro G Z' H' o v F) → RoS G Z' H' ρ σ L
  | _, _, _, .emp, _ => .emp
  | _, _, _, .no t, h => .no (RoS.slots t fun j p o v F e1 e2 h1 h2 => h (j + 1) p o v F (by simpa using e1) (by simpa using e2) h1 h2)
  | _, _, _, .yes h1 t, h => .yes (h 0 _ _ _ _ rfl rfl h1 fun a ha => List.mem_append_left _ ha) (RoS.slots t fun j p o v F e1 e2 h1 h2 => h (j + 1) p o v F (by simpa using e1) (by simpa using e2) h1 fun a ha => List.mem_append_right _ (h2 a ha))
end

/-! ### the slots that are known without lists -/
def strip1 : Sl → Sl
  | some (p, .val d) => if lfD d = true then some (p, .val d) else none
  | some (p, .scr ns) => some (p, .scr ns)
  | _ => none
def strip (ρ : En) : En := ρ.map strip1
section
variable {X : Cx} {ca : Nat → Addr} {W : WX} {G : Gx} {f : ES} {mid rest : SS}
variable {θ θ' : Nat → V} {Z Z' Z0 : Zs} {L L' L0 F : List Addr} {H H' H0 : Hp} {σ σ' : L2.St} {ρ ρ' : En} {Dn : Ends}
theorem RoS.strip : ∀ {ρ : En} {σ : L2.St} {L : List Addr}, RoS G Z H ρ σ L → RoS G (fun _ => False) H (Eng.strip ρ) σ []
  | _, _, _, .emp => .emp
  | _, _, _, .no t => .no (RoS.strip t)
  | _, _, _, .yes (p := p) (o := o) h t => by
    have t' := RoS.strip t
    have tk : Tk G.K H H := ⟨fun _ _ h => h, fun _ _ h => h⟩
    show RoS G _ H (strip1 (some (p, o)) :: Eng.strip _) _ []
    cases h with
    | val h =>
      unfold strip1
      simp only
      split
      · rename_i e
        exact .yes (F := []) (.val (h.free tk e)) t'
      · exact .no t'
    | scr h => exact .yes (F := []) (.scr h) t'
    | _ => exact .no t'
theorem strip_get {j : Nat} {p : Bool} {o : O} (e : (Eng.strip ρ)[j]? = some (some (p, o))) : ρ[j]? = some (some (p, o)) := by
  unfold Eng.strip at e
  rw [List.getElem?_map] at e
  cases q : ρ[j]? with
  | none => rw [q] at e; cases e
  | some sl =>
    rw [q] at e
    simp only [Option.map_some, Option.some.injEq] at e
    cases sl with
    | none => cases e
    | some po =>
      obtain ⟨p', o'⟩ := po
      cases o' with
      | val d =>
        simp only [strip1] at e
        split at e
        · exact congrArg some e
        · cases e
      | scr ns => exact congrArg some e
      | _ => cases e
theorem Rep.strip (r : Rep θ G Z H ρ σ L) : Rep θ G (fun _ => False) H (Eng.strip ρ) σ [] :=
  ⟨r.sl.strip, List.nodup_nil, fun _ h => (by cases h), fun _ h => h.elim, fun i o e => r.pn i o (strip_get e)⟩
/-! ### pins -/
def pinsE : List Nat → En → Option En
  | [], ρ => some ρ
  | j :: js, ρ => match ρ[j]? with
    | some (some (_, .val d)) => pinsE js (ρ.set j (some (true, .val d)))
    | _ => none
def unpins : List Nat → SOut → SOut
  | [], o => o
  | j :: js, o => unpS j (unpins js o)
/-! ### a block's first part, then what is told of the rest -/
def PoK (X : Cx) (ca : Nat → Addr) (W : WX) (θ : Nat → V) (Z : Zs) (L : List Addr) (H : Hp) (D : Ends) (K : L2.St → Hp → Prop) (T : En → Zs → List Addr → L2.St → Hp → Prop) : SOut → Prop
  | .nx ρ' => ∀ Z' H' L' σ', Rep θ (gx X ca) Z' H' ρ' σ' L' → Step Z L H Z' L' H' → K σ' H'
  | o => PoS X ca W θ Z L H D o
theorem PoK.step {D : Ends} {K : L2.St → Hp → Prop} {T : En → Zs → List Addr → L2.St → Hp → Prop} {o : SOut} {Z1 : Zs} {L1 : List Addr} {H1 : Hp} (q : PoK X ca W θ Z L H D K T o) (s : Step Z L H Z1 L1 H1) : PoK X ca W θ Z1 L1 H1 D K T o := by
  cases o with
  | nx ρ1 => exact fun Z' H' L' σ' r s' => q Z' H' L' σ' r (s.trans s')
  | stuck => exact (show PoS X ca W θ Z L H D .stuck from q).step s
  | exc c ρ1 => exact (show PoS X ca W θ Z L H D (.exc c ρ1) from q).step s
  | bk ρ1 => exact (show PoS X ca W θ Z L H D (.bk ρ1) from q).step s
  | ct ρ1 => exact (show PoS X ca W θ Z L H D (.ct ρ1) from q).step s
  | rt o ρ1 => exact (show PoS X ca W θ Z L H D (.rt o ρ1) from q).step s
/-! ### thawed -/
/-- what stands is changed at lists of T alone -/
def Chg (T : Zs) (H H' : Hp) : Prop := ∀ a o, H a = some o → ¬ (T a ∧ ∃ xs, o = .lst xs) → H' a = some o
theorem Chg.refl {T : Zs} : Chg T H H := fun _ _ e _ => e
theorem Chg.upd {T : Zs} {l : Addr} {xs : List V} {u : HO} (hl : T l) (e : H l = some (.lst xs)) : Chg T H (upd H l u) := fun a o ea hn => by
  have : a ≠ l := fun q => by
    subst q
    rw [e] at ea
    cases ea
    exact hn ⟨hl, _, rfl⟩
  rw [upd_ne this]
  exact ea
theorem Chg.tk {T : Zs} {K : PySem.W.Frag} (c : Chg T H H') : Tk K H H' where
  t := fun a xs r => by
    rcases r with (r | ⟨o, r⟩) | r
    · exact .inl (.inl (c _ _ r fun ⟨_, xs, e⟩ => by cases e))
    · exact .inl (.inr ⟨o, c _ _ r fun ⟨_, xs, e⟩ => by cases e⟩)
    · exact .inr r
  f := fun a ns r => by
    rcases r with ⟨o, r⟩ | r
    · exact .inl ⟨o, c _ _ r fun ⟨_, xs, e⟩ => by cases e⟩
    · exact .inr r
/-- slots are forgotten -/
def noneE : List Nat → En → En
  | [], ρ => ρ
  | i :: is, ρ => noneE is (ρ.set i none)
theorem Rep.noneE : ∀ {is : List Nat} {ρ : En} {L : List Addr}, Rep θ G Z H ρ σ L → ∃ L', Rep θ G Z H (Eng.noneE is ρ) σ L' ∧ ∀ a ∈ L', a ∈ L
  | [], _, L, r => ⟨L, r, fun _ h => h⟩
  | i :: is, ρ, L, r => by
    unfold Eng.noneE
    have one : ∃ L', Rep θ G Z H (ρ.set i none) σ L' ∧ ∀ a ∈ L', a ∈ L := by
      cases e : ρ[i]? with
      | none => exact ⟨L, by rw [List.set_eq_of_length_le (by rw [List.getElem?_eq_none_iff] at e; exact e)]; exact r, fun _ h => h⟩
      | some sl =>
        cases sl with
        | none =>
          have : ρ.set i none = ρ := by
            apply List.ext_getElem? fun k => ?_
            by_cases q : i = k
            · subst q; rw [List.getElem?_set_self (List.getElem?_eq_some_iff.mp e).1, e]
            · rw [List.getElem?_set_ne q]
          exact ⟨L, by rw [this]; exact r, fun _ h => h⟩
        | some po =>
          obtain ⟨p, o⟩ := po
          obtain ⟨F, L', v, _, _, r', _, _, h, _⟩ := r.lift e
          exact ⟨L', r', fun a ha => (h a).mp (List.mem_append_right _ ha)⟩
    obtain ⟨L1, r1, h1⟩ := one
    obtain ⟨L2, r2, h2⟩ := Rep.noneE (is := is) r1
    exact ⟨L2, r2, fun a ha => h1 a (h2 a ha)⟩
end
end Eng
/-! The engine, part 32: x = f(..), looked at, then changed within (its own lists are new). -/
namespace Eng
open PySem PySem.Spec L2
open PyProof.Rows hiding St

section
variable {X : Cx} {ca : Nat → Addr} {W : WX} {G : Gx} {f : ES} {mid rest : SS}
variable {θ θ' : Nat → V} {Z Z' Z0 : Zs} {L L' L0 F : List Addr} {H H' H0 : Hp} {σ σ' : L2.St} {ρ ρ' : En} {Dn : Ends}
end
end Eng
/-! The engine, part 33: the changing statements: x.clear(); x.append(["a"]), x[0].append("b"); for y in x: y.clear(). -/
namespace Eng
open PySem PySem.Spec L2
open PyProof.Rows hiding St
section
variable {X : Cx} {ca : Nat → Addr} {W : WX} {rest : SS}
/-! ### x.clear() -/
/-! ### x.append([a]); x[0].append(b) -/
/-! ### for y in x: y.clear(); x.clear() -/
end
end Eng
/-! The engine, part 34: f(..).append(y); list(d.values()). -/
namespace Eng
open PySem PySem.Spec L2
open PyProof.Rows hiding St
section
variable {X : Cx} {ca : Nat → Addr} {W : WX} {rest : SS} {f g : ES}
/-! ### f(..).append(y) -/
def oAppT (f g : ES) : ES := fun ρ => (f ρ).bind fun p ρ1 => match p with
  | .tmp (.lst ds) => (g ρ1).bind fun p2 ρ2 => match give ρ2 p2 with
    | some (_, ρ3) => if ds.length < sizeLine then .ok (.tmp (.val .none)) ρ3 else .stuck
    | none => .stuck
  | _ => .stuck
/-! ### list(d.values()) -/
end
end Eng
/-! The engine, part 35: names frozen, names dropped, ahead of statements. -/
namespace Eng
open PySem PySem.Spec L2
open PyProof.Rows hiding St
section
variable {X : Cx} {ca : Nat → Addr} {W : WX} {b : SS} {sts : List Stmt}
def sFrz (j : Nat) (b : SS) : SS := fun ρ => b (frz ρ j)
def sDrp (is : List Nat) (b : SS) : SS := fun ρ => b (dropE is ρ)
end
end Eng
set_option maxHeartbeats 1000000
/-! The engine, part 36: xs * k, xs a list. -/
namespace Eng
open PySem PySem.Spec L2
open PyProof.Rows hiding St
def repS : O → O → Option O
  | .lst xs, .val (.int k) => if 0 ≤ k ∧ k < 1000000 ∧ xs.length * k.toNat ≤ sizeLine then some (.lst (List.replicate k.toNat xs).flatten) else none
  | _, _ => none
section
variable {X : Cx} {ca : Nat → Addr}
theorem dza_rep {Z : Zs} {K : PySem.W.Frag} {H : Hp} {xs : List D} {us : List V} (h : DzA Z K H xs us) : ∀ n : Nat, DzA Z K H (List.replicate n xs).flatten (List.replicate n us).flatten
  | 0 => .nil
  | n + 1 => by
    rw [List.replicate_succ, List.replicate_succ, List.flatten_cons, List.flatten_cons]
    exact h.append (dza_rep h n)
theorem bin_rep : BinS X ca (binaryOp .Mult) repS := binS_of fun pins s σ H x y v u Q Z a b r I rx ry ha hb e q => by
  unfold repS at e
  split at e
  · split at e
    · rename_i xs k hc
      cases e
      obtain ⟨p, us, rfl, hp, dp⟩ := rb_list ha rfl
      cases rb_int hb
      exact op_rep pins s σ H _ _ v u Q I rx ry ⟨p, k, us, rfl, rfl, hp, by omega, by omega, by rw [dp.length]; exact hc.2.2, fun l nl => q _ _ _ (Al.lst (dza_rep dp _) nl)⟩
    · cases e
  · cases e
end
end Eng
set_option maxHeartbeats 1000000
/-! The engine, part 37: objects of own classes: fields read and stored. -/
namespace Eng
open PySem PySem.Spec L2
open PyProof.Rows hiding St
def fput (f : Str) (o : O) : List (Str × O) → List (Str × O)
  | [] => [(f, o)]
  | (g, x) :: r => if g = f then (g, o) :: r else (g, x) :: fput f o r
section
variable {G : Gx} {Z Z' : Zs} {H H' : Hp} {m : Str}
theorem look_cons {α : Type} (m n : Str) (x : α) (l : List (Str × α)) : ((n, x) :: l).lookup m = if n = m then some x else l.lookup m := by
  by_cases e : n = m
  · subst e; simp [List.lookup]
  · have : (m == n) = false := by simpa using fun q => e q.symm
    simp [List.lookup, this, e]
theorem RoF.look : ∀ {fs : List (Str × O)} {vs : List (Str × V)} {F : List Addr}, RoF G Z H fs vs F → (fs.lookup m = none → vs.lookup m = none) ∧ ∀ o, fs.lookup m = some o → ∃ v F', vs.lookup m = some v ∧ Ro G Z H o v F' ∧ ∀ a ∈ F', a ∈ F
  | _, _, _, .nil => ⟨fun _ => rfl, fun _ e => by cases e⟩
  | _, _, _, .cons (n := n) (o := o0) (v := v0) (fs := fs) (vs := vs) h t => by
    obtain ⟨i1, i2⟩ := RoF.look t
    rw [look_cons, look_cons]
    by_cases e : n = m
    · rw [if_pos e, if_pos e]
      exact ⟨fun q => (by cases q), fun o q => by cases q; exact ⟨_, _, rfl, h, fun a ha => List.mem_append_left _ ha⟩⟩
    · rw [if_neg e, if_neg e]
      refine ⟨i1, fun o q => ?_⟩
      obtain ⟨v, F', a1, a2, a3⟩ := i2 o q
      exact ⟨v, F', a1, a2, fun a ha => List.mem_append_right _ (a3 a ha)⟩
theorem RoF.length : ∀ {fs : List (Str × O)} {vs : List (Str × V)} {F : List Addr}, RoF G Z H fs vs F → vs.length = fs.length
  | _, _, _, .nil => rfl
  | _, _, _, .cons _ t => by rw [List.length_cons, List.length_cons, RoF.length t]
/-- a field is stored -/
theorem RoF.put {o : O} {y : V} {Fo : List Addr} (kp : Kp Z G.K H Z' H') (ho : Ro G Z' H' o y Fo) : ∀ {fs : List (Str × O)} {vs : List (Str × V)} {F : List Addr}, RoF G Z H fs vs F → (∀ a ∈ F, ∀ u, H a = some u → H' a = some u) →
    ∃ F', RoF G Z' H' (fput m o fs) (putF m y vs) F' ∧ (∀ a ∈ F', a ∈ Fo ∨ a ∈ F) ∧ ((Fo ++ F).Nodup → F'.Nodup)
  | _, _, _, .nil, _ => ⟨Fo ++ [], .cons ho .nil, fun a ha => by simpa using ha, fun nd => by simpa using nd⟩
  | _, _, _, .cons (n := n) (o := o0) (v := v0) (fs := fs) (vs := vs) (F := F1) (F' := F2) h t, hk => by
    show ∃ F', RoF G Z' H' (if n = m then (n, o) :: fs else (n, o0) :: fput m o fs) (if n = m then (n, y) :: vs else (n, v0) :: putF m y vs) F' ∧ _
    by_cases e : n = m
    · rw [if_pos e, if_pos e]
      refine ⟨Fo ++ F2, .cons ho (t.kp kp fun a ha => hk a (List.mem_append_right _ ha)), fun a ha => ?_, fun nd => ?_⟩
      · exact (List.mem_append.mp ha).elim .inl fun q => .inr (List.mem_append_right _ q)
      · have n1 := List.nodup_append.mp nd
        have n2 := List.nodup_append.mp n1.2.1
        exact List.nodup_append.mpr ⟨n1.1, n2.2.1, fun a ha b hb => n1.2.2 a ha b (List.mem_append_right _ hb)⟩
    · rw [if_neg e, if_neg e]
      obtain ⟨F', r, sub, ndp⟩ := RoF.put kp ho t fun a ha => hk a (List.mem_append_right _ ha)
      refine ⟨F1 ++ F', .cons (h.kp kp fun a ha => hk a (List.mem_append_left _ ha)) r, fun a ha => ?_, fun nd => ?_⟩
      · rcases List.mem_append.mp ha with q | q
        · exact .inr (List.mem_append_left _ q)
        · exact (sub a q).elim .inl fun q => .inr (List.mem_append_right _ q)
      · have n1 := List.nodup_append.mp nd
        have n2 := List.nodup_append.mp n1.2.1
        have n3 : (Fo ++ F2).Nodup := List.nodup_append.mpr ⟨n1.1, n2.2.1, fun a ha b hb => n1.2.2 a ha b (List.mem_append_right _ hb)⟩
        refine List.nodup_append.mpr ⟨n2.1, ndp n3, fun a ha b hb q => ?_⟩
        subst q
        rcases sub a hb with q | q
        · exact n1.2.2 a q a (List.mem_append_left _ ha) rfl
        · exact n2.2.2 a ha a q rfl
end
/-- a field that is data -/
def oFld (c i : Nat) (m : Str) : ES := fun ρ => match ρ[i]? with
  | some (some (_, .ins c' fs)) => if c' = c then match fs.lookup m with
      | some (.val d) => .ok (.tmp (.val d)) ρ
      | _ => .stuck
    else .stuck
  | _ => .stuck
/-- a field is stored -/
def sFld (c i : Nat) (m : Str) (g : ES) : SS := fun ρ => (g ρ).bindS fun p ρ1 => match giveUp ρ1 p with
  | some (o, ρ2) => match ρ2[i]? with
    | some (some (b, .ins c' fs)) => if c' = c ∧ fs.length < 900 then .nx (ρ2.set i (some (b, .ins c' (fput m o fs)))) else .stuck
    | _ => .stuck
  | none => .stuck
section
variable {X : Cx} {ca : Nat → Addr} {W : WX} {c i : Nat} {m x : Str} {p pos pos' : Pos} {g : ES} {value : Expr}
end
end Eng
set_option maxHeartbeats 1000000
/-! The engine, part 38: fields stored. -/
namespace Eng
open PySem PySem.Spec L2
open PyProof.Rows hiding St
section
variable {X : Cx} {ca : Nat → Addr} {W : WX} {c i : Nat} {m x : Str} {p pos pos' : Pos} {g : ES} {value : Expr}
variable {θ : Nat → V} {G : Gx} {Z : Zs} {H : Hp} {ρ : En} {σ : L2.St} {L : List Addr}
end
end Eng
set_option maxHeartbeats 1000000
/-! The engine, part 39: methods called. -/
namespace Eng
open PySem PySem.Spec L2
open PyProof.Rows hiding St
section
variable {X : Cx} {ca : Nat → Addr} {W : WX} {as : AS} {θ : Nat → V} {Z : Zs} {L : List Addr} {H : Hp} {σ : L2.St} {ρ : En}
end
/-- a method of a class -/
structure CalleeM (P : Program) (w : World) (K : PySem.W.Frag) (mg : Str → Option Value) (base : Heap) (ca : Nat → Addr) (k c : Nat) (m : Str) (n : Nat) (g : FSem) : Prop where
  ex : ∃ f fd ps, ps.length = n ∧ EFn P w K mg base k f fd ps (spF ⟨P, w, K, ca⟩ n g) ∧ Meth K (ca c) m f ∧ Binds K fd ps []
theorem CalleeM.mono {P : Program} {w : World} {K : PySem.W.Frag} {mg : Str → Option Value} {base : Heap} {ca : Nat → Addr} {j k c : Nat} {m : Str} {n : Nat} {g : FSem} (C : CalleeM P w K mg base ca j c m n g) (h : j ≤ k) : CalleeM P w K mg base ca k c m n g := by
  obtain ⟨f, fd, ps, h1, h2, h3⟩ := C.ex
  exact ⟨f, fd, ps, h1, h2.mono h, h3⟩
/-- a method called on the object in a slot -/
def oMeth (c i : Nat) (m : Str) (fn : FSem) (gs : List ES) : ES := fun ρ => match ρ[i]? with
  | some (some (_, .ins c' fs)) => if c' = c ∧ fs.lookup m = none then oCall fn (oAs (oNm i :: gs)) ρ else .stuck
  | _ => .stuck
section
variable {X : Cx} {ca : Nat → Addr} {W : WX} {c i k n : Nat} {m x : Str} {p pos apos : Pos} {fn : FSem} {gs : List ES} {e : Expr} {es : List Expr}
end
end Eng
set_option maxHeartbeats 1000000
/-! The engine, part 40: objects made. -/
namespace Eng
open PySem PySem.Spec L2
open PyProof.Rows hiding St
/-- a class that can be made without arguments -/
structure CalleeN (P : Program) (w : World) (K : PySem.W.Frag) (mg : Str → Option Value) (base : Heap) (ca : Nat → Addr) (k c : Nat) (g : FSem) : Prop where
  ex : ∃ f fd ps, ps.length = 1 ∧ EFn P w K mg base k f fd ps (spF ⟨P, w, K, ca⟩ 1 g) ∧ Mk K (ca c) f ∧ Binds K fd ps [] ∧ mg (clN c) = some (.ref (ca c))
theorem CalleeN.mono {P : Program} {w : World} {K : PySem.W.Frag} {mg : Str → Option Value} {base : Heap} {ca : Nat → Addr} {j k c : Nat} {g : FSem} (C : CalleeN P w K mg base ca j c g) (h : j ≤ k) : CalleeN P w K mg base ca k c g := by
  obtain ⟨f, fd, ps, h1, h2, h3⟩ := C.ex
  exact ⟨f, fd, ps, h1, h2.mono h, h3⟩
def oMake (c : Nat) (fn : FSem) : ES := fun ρ => match fn [.ins c []] with
  | .ret (.val .none) [x] => .ok (.tmp x) ρ
  | _ => .stuck
section
variable {X : Cx} {ca : Nat → Addr} {W : WX} {c k : Nat} {x : Str} {p pos : Pos} {fn : FSem}
end
end Eng
set_option maxHeartbeats 1000000
/-! The engine, part 41: a field that is a list. -/
namespace Eng
open PySem PySem.Spec L2
open PyProof.Rows hiding St
section
variable {G : Gx} {Z : Zs} {H : Hp} {m : Str} {ds : List D}
end
section
variable {X : Cx} {ca : Nat → Addr} {W : WX} {c i : Nat} {m m2 x : Str} {p p1 p2 pos : Pos} {θ : Nat → V} {G : Gx} {Z : Zs} {H : Hp} {ρ : En} {σ : L2.St} {L : List Addr}
/-! ### rules -/
/-- an operation on a field's thing -/
def oFldU (sem : O → Option O) (c i : Nat) (m : Str) : ES := fun ρ => match ρ[i]? with
  | some (some (_, .ins c' fs)) => if c' = c then match fs.lookup m with
      | some o => put ρ (sem o)
      | none => .stuck
    else .stuck
  | _ => .stuck
/-- self.m.append(self.m2), self.m.pop() -/
def sFldApp (c i : Nat) (m m2 : Str) : SS := fun ρ => match ρ[i]? with
  | some (some (b, .ins c' fs)) => if c' = c then match fs.lookup m, fs.lookup m2 with
      | some (.lst ds), some (.val d) => if ds.length < sizeLine then .nx (ρ.set i (some (b, .ins c' (fput m (.lst (ds ++ [d])) fs)))) else .stuck
      | _, _ => .stuck
    else .stuck
  | _ => .stuck
def oFldPop (c i : Nat) (m : Str) : ES := fun ρ => match ρ[i]? with
  | some (some (b, .ins c' fs)) => if c' = c then match fs.lookup m with
      | some (.lst ds) => match ds[ds.length - 1]? with
        | some d => .ok (.tmp (.val d)) (ρ.set i (some (b, .ins c' (fput m (.lst ds.dropLast) fs))))
        | none => .stuck
      | _ => .stuck
    else .stuck
  | _ => .stuck
end
end Eng
set_option maxHeartbeats 1000000
/-! The engine, part 42: an empty list field as a test; a class's own makers. -/
namespace Eng
open PySem PySem.Spec L2
open PyProof.Rows hiding St
section
variable {X : Cx} {ca : Nat → Addr} {W : WX} {c i : Nat} {m x : Str} {p p1 p2 pos : Pos}
end
end Eng
set_option maxHeartbeats 1000000
/-! The engine, part 43: a method called on the object in an object's only field. -/
namespace Eng
open PySem PySem.Spec L2
open PyProof.Rows hiding St
section
variable {X : Cx} {ca : Nat → Addr} {W : WX} {c c2 i k n : Nat} {m mm x : Str} {p pos apos fpos : Pos} {fn : FSem} {gs : List ES} {e : Expr} {es : List Expr}
end
end Eng
set_option maxHeartbeats 1000000
/-! The engine, part 44: a module's constant that is a tuple of texts. -/
namespace Eng
open PySem PySem.Spec L2
open PyProof.Rows hiding St
end Eng
set_option maxHeartbeats 1000000
/-! The engine, part 45: a def called while an exception is handled. -/
namespace Eng
open PySem PySem.Spec L2
open PyProof.Rows hiding St
structure EFnH (P : Program) (w : World) (K : PySem.W.Frag) (mg : Str → Option Value) (base : Heap) (k : Nat) (f : Addr) (fd : FuncData) (ps : List Str) (sp : Sp) : Prop where
  len : ∀ vs H Q E, sp vs H Q E → vs.length = ps.length
  go : ∀ (A : Around) (outer : List Env) (s : Shared) (H : Hp) (args : Args) (us : List Value) (vs : List V) (Q : VK) (E : XK), A.guards = some [] → L2H.RoomH k A → Env0 P w K mg base A outer s H → BindsTo s fd args (ps.zip us) → Vals vs us → sp vs H Q E →
    codeAny (model P w) A (.call (.ref f) args) (CR (L2.CX P w) outer P w H s Q E) s
theorem EFnH.mono {P : Program} {w : World} {K : PySem.W.Frag} {mg : Str → Option Value} {base : Heap} {j k : Nat} {f : Addr} {fd : FuncData} {ps : List Str} {sp : Sp} (F : EFnH P w K mg base j f fd ps sp) (h : j ≤ k) : EFnH P w K mg base k f fd ps sp :=
  ⟨F.len, fun A outer s H args us vs Q E hg hr => F.go A outer s H args us vs Q E hg (hr.mono h)⟩
/-- a thing of the base is out of the reach of what is told -/
theorem pin_base {P : Program} {w : World} {K : PySem.W.Frag} {mg : Str → Option Value} {base : Heap} {A : Around} {outer : List Env} {s : Shared} {H : Hp} {f : Addr} {o : Obj} (e0 : Env0 P w K mg base A outer s H) (lk : K.lookup f = some o) (hc : ∀ v, o.data ≠ .cell v) : L2H.PinOk outer H s (f, o) := by
  have hb := e0.mod.kin f _ lk
  have hn : f ∉ frs outer := fun hm => by
    have := (e0.funs.mem hm).1
    rw [hb] at this
    cases this
  exact ⟨(e0.bs f o hb).1, (e0.bs f o hb).2, hn, hc⟩
theorem efn_ofH {P : Program} {w : World} {K : PySem.W.Frag} {mg : Str → Option Value} {base : Heap} {x qual : Str} {st : Stmt} {f : Addr} {fd : FuncData} {N ps : List Str} {k : Nat} {sp : Sp} (F : Fun K x qual st f fd) (S : FnScope N ps (defScope st)) (len : ∀ vs H Q E, sp vs H Q E → vs.length = ps.length)
    (body : ∀ (cdv : Value) (A : Around) (outer : List Env) (s : Shared) (H : Hp) (vs : List V) (Q : VK) (E : XK) (p : Addr × Obj), A.guards = some [] → L2H.RoomH k (A.deeper (envOfC qual (defScope st) s.heap.objs.size f cdv)) → sp vs H Q E →
      ∃ t, PSs (L2H.cxH (L2.CX P w) P w K mg base N qual (defScope st) f cdv A outer s H E p) (defBody st) t ∧ t { nx := fun _ H' => Q .non H', rt := Q } (L2.start N vs) H) : EFnH P w K mg base (k + 1) f fd ps sp := by
  obtain ⟨oc, od, kV, doc, pm, an, cdv, ct, osl, rfl, lk, cd⟩ := F.ex
  refine ⟨len, fun A outer s H args us vs Q E hg hr e0 hb rv hsp => ?_⟩
  have keepB : ∀ b o, base.get? b = some o → s.heap.get? b = some o := fun b o e => (e0.bs b o e).1
  have inK : K.In s.heap := e0.mod.kin.keeps keepB
  have kinds : ∀ y ∈ ps.zip us, (defScope st).names.lookup y.1 = some .local ∨ ((defScope st).names.lookup y.1 = some .cell ∧ ((cellsFrom (s.heap.objs.size + 1) (defScope st).names []).lookup y.1).isSome = true) := by
    rintro ⟨n, u⟩ hy
    exact (S.par n (List.of_mem_zip hy).1).imp id fun q => ⟨q, PySem.W.cellsFrom_some _ _ _ (.inl q)⟩
  have pin := pin_base e0 lk (fun v q => by cases q)
  refine codeAny_call_function hr.depth (inK f _ lk) rfl S.co S.gen rfl (PySem.W.codeRec_of inK cd) (hb _ _ _ _ ?_)
  refine wpAny_newFunctionEnv_cells S.kind kinds fun env he s1 x => ?_
  subst he
  refine ⟨(e0.mod.nolimit.keeps keepB).keeps x.toInCall.keep, codeAny_func ?_⟩
  obtain ⟨t, ht, q⟩ := body cdv A outer s H vs Q E _ hg (hr.deeper _) hsp
  have I0 := L2H.inv_startH (CX := L2.CX P w) (E := E) S pin e0 (len _ _ _ _ hsp) rv x
  refine wpAny_mono (ht.run [] s1 (L2.start N vs) H _ I0 q) (fun fl s' h => ?_) fun e s' h => h
  cases fl with
  | ret u =>
    obtain ⟨v, σ', H', J, r, q⟩ := h
    exact ⟨v, H', J.os, J.bare, J.base, J.hok, r, q⟩
  | next =>
    obtain ⟨σ', H', J, q⟩ := h
    exact ⟨.non, H', J.os, J.bare, J.base, J.hok, rfl, q⟩
  | brk =>
    obtain ⟨_, _, _, q⟩ := h
    exact q.elim
  | cont =>
    obtain ⟨_, _, _, q⟩ := h
    exact q.elim
section
variable {X : Cx} {k : Nat} {f : Addr} {fd : FuncData} {ps : List Str} {sp : Sp} {x : Str} {p pos : Pos} {e : Expr} {es : List Expr} {t : TA} {W : WX}
theorem efnH_run {pins : List (Addr × Obj)} {σ : L2.St} {H : Hp} {s : Shared} {Q : VK} {us : List Value} {vs : List V} (F : EFnH X.prog X.w X.K X.mg X.base k f fd ps sp) (hg : X.A.guards = some []) (hr : L2H.RoomH k X.A) (hb : Binds X.K fd ps []) (tk : Takes X W)
    (I : Inv X pins σ H s) (r : Vals vs us) (h : sp vs H Q (WE W σ)) : wpAny (model X.prog X.w) X.A (call (.ref f) us) (EP X pins σ Q) X.xe s := by
  have b := hb s us I.kIn
  rw [List.append_nil] at b
  refine wpAny_call (codeAny_mono (F.go X.A X.stack s H ⟨us, []⟩ us vs Q (WE W σ) hg hr I.env0 (b (by rw [← r.length]; exact F.len vs H Q _ h)) r h) fun res s' q => ?_)
  cases res with
  | error e => exact passAt tk σ pins H s e s' I q
  | ok fl =>
    cases fl with
    | ret u => exact I.after q
    | next => exact q.elim
    | brk => exact q.elim
    | cont => exact q.elim
theorem pe_callEH (F : EFnH X.prog X.w X.K X.mg X.base k f fd ps sp) (hG : X.A.guards = some []) (hr : L2H.RoomH k X.A) (hg : Gl X x) (hm : X.mg x = some (.ref f)) (hk : PySem.W.keepIn X.K (.ref f) = true) (hb : Binds X.K fd ps []) (tk : Takes X W) (ha : PA X (e :: es) t)
    (hdb : (x == ("__debug__" : Str)) = false) (hs : ((e :: es).all notStar) = true) : PE X (.Call (.Name x p) (e :: es) [] pos) (fun σ H Q => t σ H fun vs H1 => sp vs H1 Q (WE W σ)) := by
  rw [List.all_cons, Bool.and_eq_true] at hs
  refine ⟨fun pins s σ H Q I h => wpAny_Call_Name_kw (ld_glob I hg hm ?_ hdb)⟩
  exact PySem.W.callWith_K (h₀ := X.base) I.ok.mod.kin hk (thn (ha.run pos pins s σ H _ I h) fun us s1 ⟨vs, H1, I1, r, q⟩ => ⟨I1.kIn, efnH_run F hG hr hb tk I1 r q⟩) (star_cons hs.1) (star_plain hs.2)
end
/-- the rule of a def by its body's reading -/
theorem efn_bodyH {P : Program} {w : World} {K : PySem.W.Frag} {mg : Str → Option Value} {base : Heap} {ca : Nat → Addr} {x qual : Str} {st : Stmt} {f : Addr} {fd : FuncData} {N ps : List Str} {k : Nat} {b : SS} (F : Fun K x qual st f fd) (S : FnScope N ps (defScope st))
    (body : ∀ (cdv : Value) (A : Around) (outer : List Env) (s : Shared) (H : Hp) (E : XK) (p : Addr × Obj), A.guards = some [] → L2H.RoomH k (A.deeper (envOfC qual (defScope st) s.heap.objs.size f cdv)) →
      PSs (L2H.cxH (L2.CX P w) P w K mg base N qual (defScope st) f cdv A outer s H E p) (defBody st) (RdS (L2H.cxH (L2.CX P w) P w K mg base N qual (defScope st) f cdv A outer s H E p) ca (fun cls d _ H => E cls d H) b)) :
    EFnH P w K mg base (k + 1) f fd ps (spF ⟨P, w, K, ca⟩ ps.length (runF N.length b)) := by
  refine efn_ofH F S (fun vs H Q E ⟨_, _, _, h, _⟩ => h) fun cdv A outer s H vs Q E p hg hr ⟨Z, os, F0, hl, ha, nd, dis, zd, q⟩ => ⟨_, body cdv A outer s H E p hg hr, fun i => vs.getD i .non, Z, startE N.length os, F0, start_rep N ha nd dis zd, ?_⟩
  have hlen := ha.length
  unfold runF at q
  cases e : b (startE N.length os) with
  | stuck => rw [e] at q; exact q
  | bk ρ => rw [e] at q; exact q.elim
  | ct ρ => rw [e] at q; exact q.elim
  | nx ρ =>
    rw [e] at q
    intro Z' H' L' σ' r s
    simp only at q
    split at q
    · rename_i fin e2
      obtain ⟨F', h1, h2, h3⟩ := fins_rep (N := N) r hlen e2
      exact q Z' H' F' [] .non h1 (.val .non) h2 (fun a ha => r.dis a (h3 a ha)) r.zd (s.sub h3)
    · exact q.elim
  | rt o ρ =>
    rw [e] at q
    intro Z' H' L' Fo v σ' r hh s
    simp only at q
    split at q
    · rename_i fin e2
      obtain ⟨F', h1, h2, h3⟩ := fins_rep (N := N) r hlen e2
      have n := List.nodup_append.mp hh.nd
      have sub : ∀ a ∈ Fo ++ F', a ∈ Fo ++ L' := fun a ha => (List.mem_append.mp ha).elim (fun h => List.mem_append_left _ h) fun h => List.mem_append_right _ (h3 a h)
      exact q Z' H' F' Fo v h1 hh.one (List.nodup_append.mpr ⟨n.1, h2, fun a ha c hc => n.2.2 a ha c (h3 c hc)⟩) (fun a ha => (List.mem_append.mp ha).elim (hh.dis a) fun h => r.dis a (h3 a h)) r.zd (s.sub sub)
    · exact q.elim
  | exc c ρ =>
    rw [e] at q
    intro Z' H' L' σ' r s
    simp only at q
    split at q
    · rename_i fin e2
      obtain ⟨F', h1, h2, h3⟩ := fins_rep (N := N) r hlen e2
      exact q Z' H' F' h1 h2 (fun a ha => r.dis a (h3 a ha)) r.zd (s.sub h3)
    · exact q.elim
structure CalleeH (P : Program) (w : World) (K : PySem.W.Frag) (mg : Str → Option Value) (base : Heap) (ca : Nat → Addr) (k : Nat) (x : Str) (n : Nat) (g : FSem) : Prop where
  ex : ∃ f fd ps, ps.length = n ∧ EFnH P w K mg base k f fd ps (spF ⟨P, w, K, ca⟩ n g) ∧ mg x = some (.ref f) ∧ PySem.W.keepIn K (.ref f) = true ∧ Binds K fd ps []
theorem CalleeH.mono {P : Program} {w : World} {K : PySem.W.Frag} {mg : Str → Option Value} {base : Heap} {ca : Nat → Addr} {j k : Nat} {x : Str} {n : Nat} {g : FSem} (c : CalleeH P w K mg base ca j x n g) (h : j ≤ k) : CalleeH P w K mg base ca k x n g := by
  obtain ⟨f, fd, ps, h1, h2, h3⟩ := c.ex
  exact ⟨f, fd, ps, h1, h2.mono h, h3⟩
theorem roomHs {k : Nat} {A : Around} {v : Option Value} (hr : Room k A) : L2H.RoomH k (A.mark v) := ⟨hr.dp, hr.un⟩
section
variable {X : Cx} {ca : Nat → Addr} {W : WX} {p pos : Pos} {e : Expr} {es : List Expr} {k : Nat} {x : Str}
theorem se_cH {fn : FSem} {gs : List ES} {n : Nat} (C : CalleeH X.prog X.w X.K X.mg X.base ca k x n fn) (hG : X.A.guards = some []) (hr : L2H.RoomH k X.A) (tk : Takes X W) (hn : gs.length = n) (hg : Gl X x) (hdb : (x == ("__debug__" : Str)) = false) (hs : ((e :: es).all notStar) = true) (ha : PA X (e :: es) (RdA X ca W (oAs gs))) :
    PE X (.Call (.Name x p) (e :: es) [] pos) (RdE X ca W (oCall fn (oAs gs))) := by
  obtain ⟨fa, fd, ps, h1, h2, h3, h4, h5⟩ := C.ex
  subst hn
  exact PE.imp (pe_callEH h2 hG hr hg h3 h4 h5 tk ha hdb hs) fun σ H Q h => rd_call h fun _ _ _ h => rdA_len h
end
end Eng
set_option maxHeartbeats 1000000
/-! The engine, part 46: xs[:1:-1]. -/
namespace Eng
open PySem PySem.Spec L2
open PyProof.Rows hiding St
theorem down_rev (n : Nat) (items : Array Value) (hn : items.size = n + 2) : (sliceRange ((n : Int) + 1) 1 (-1)).filterMap (items[·]?) = (items.toList.drop 2).reverse := by
  have h := pick_run items 2 n
  have e0 : (items.toList.drop 2).take n = items.toList.drop 2 := List.take_of_length_le (by rw [List.length_drop, Array.length_toList, hn]; omega)
  rw [e0] at h
  rw [← h, ← List.filterMap_reverse]
  congr 1
  unfold sliceRange
  have h1 : ¬ ((-1 : Int) > 0) := by decide
  by_cases hz : (n : Int) + 1 > 1
  · have e : ((n : Int) + 1 - 1 - -1 - 1) / (- -1) = (n : Int) := by
      rw [show (- -1 : Int) = 1 by decide, Int.ediv_one]
      omega
    simp only [h1, if_false, hz, if_true, e, Int.toNat_natCast]
    rw [← List.map_reverse, ← PySem.W.krv_range, List.map_map]
    apply List.map_congr_left
    intro k hk
    have := List.mem_range.mp hk
    show _ = 2 + (n - 1 - k)
    omega
  · have e : n = 0 := by omega
    subst e
    simp
theorem down_pick (items : Array Value) : slicePick items none (some 1) (some (-1)) = (items.toList.drop 2).reverse.toArray := by
  unfold slicePick
  by_cases h2 : 2 ≤ items.size
  · obtain ⟨n, hn⟩ : ∃ n, items.size = n + 2 := ⟨items.size - 2, by omega⟩
    have e : sliceBounds none (some 1) (some (-1)) items.size = ((n : Int) + 1, 1, -1) := by
      rw [hn]
      simp only [sliceBounds, Option.getD_some]
      have a1 : ((n + 2 : Nat) : Int) - 1 = (n : Int) + 1 := by omega
      have a2 : min (1 : Int) ((n : Int) + 1) = 1 := by omega
      simp [a1, a2]
      omega
    rw [e]
    simp only
    rw [down_rev n items hn]
  · have hd : items.toList.drop 2 = [] := List.drop_eq_nil_of_le (by rw [Array.length_toList]; omega)
    rw [hd]
    have : items.size = 0 ∨ items.size = 1 := by omega
    rcases this with h | h <;> rw [h]
    · rfl
    · rfl
def tDownL (K : PySem.W.Frag) (te : TE) : TE := fun σ H Q => te σ H fun x H1 => ∃ a xs, x = .ref a ∧ SqL K H1 a xs ∧ ∀ p, H1 p = none → Q (.ref p) (upd H1 p (.lst (xs.drop 2).reverse))
section
variable {X : Cx} {ca : Nat → Addr} {W : WX} {f : ES}
theorem pe_downL {e : Expr} {te : TE} {k j : Nat} {p1 p2 p3 p4 pos : Pos} (he : PE X e te) : PE X (.Subscript e (.Slice none (some (.Constant (.int 1) j p4)) (some (.UnaryOp .USub (.Constant (.int 1) k p1) p2)) p3) pos) (tDownL X.K te) := by
  refine ⟨fun pins s σ H Q I h => ?_⟩
  refine PyProof.Rows.Subscript_ (thn (he.run pins s σ H _ I h) fun v s1 ⟨x, H1, I1, r1, a, xs, ex, hx, q⟩ => ?_)
  subst ex
  cases r1
  have hst : PO X (some (.UnaryOp .USub (.Constant (.int 1) k p1) p2)) (tPart (tUn (rU fun i => .int (-i)) (tC (.int 1)))) := po_some (pe_un un_neg pe_int)
  have hup : PO X (some (.Constant (.int 1) j p4)) (tPart (tC (.int 1))) := po_some pe_int
  refine wpAny_Slice (thn (po_none.run pins s1 σ H1 (fun o H2 => o = none ∧ H2 = H1) I1 ⟨rfl, rfl⟩) fun vl s2 ⟨l, H2, I2, pl, el, e2⟩ => ?_)
  subst el e2
  refine thn (hup.run pins s2 σ H2 (fun o H3 => o = some 1 ∧ H3 = H2) I2 ⟨1, rfl, rfl, rfl⟩) fun vu s3 ⟨u, H3, I3, pu, eu, e3⟩ => ?_
  subst eu e3
  refine thn (hst.run pins s3 σ H3 (fun o H4 => o = some (-1) ∧ H4 = H3) I3 ⟨1, rfl, -1, rfl, rfl, rfl⟩) fun vs s4 ⟨o, H4, I4, ps, eo, e4⟩ => ?_
  subst eo e4
  have I5 : Inv X pins σ H4 { s4 with heap := s4.heap.push { cls := .type "slice", data := .fields #[vl, vu, vs] } } := I4.kept (t' := s4.toks) fun b ob q => Heap.get?_push_of_some _ q
  obtain ⟨its, r, ht, hz⟩ := I5.list hx
  have hlen := r.length
  show wpAny (model X.prog X.w) X.A (subscriptTail e (.Slice none (some (.Constant (.int 1) j p4)) (some (.UnaryOp .USub (.Constant (.int 1) k p1) p2)) p3) (.ref a) (.ref s4.heap.objs.size)) (EP X pins σ Q) X.xe { s4 with heap := s4.heap.push { cls := .type "slice", data := .fields #[vl, vu, vs] } }
  refine PyProof.Rows.tail_any (ops := [.ref a, .ref s4.heap.objs.size]) ht.isList.typeIs (PySem.slot_list_getitem.lookup) ?_ (by with_unfolding_all rfl)
  refine wpAny_getItem_list_slice ht.isList (Heap.IsSliceOf.new _ vl vu vs) pl pu ps (by decide) ?_ (by rw [List.size_toArray]; omega)
  rw [down_pick]
  refine ⟨.ref _, _, I5.laid (t' := s4.toks) (o := .lst (xs.drop 2).reverse) (fun b ob q => Heap.get?_push_of_some _ q) (Nat.le_refl _) ?_, rfl, q _ (I5.hok.fresh (Nat.le_refl _))⟩
  exact ⟨by rw [List.length_reverse, List.length_drop]; omega, _, 0, (r.drop 2).reverse, Heap.get?_push_size _ rfl⟩
def downO : O → Option O
  | .lst ds => some (.lst (ds.drop 2).reverse)
  | .val (.list ds) => some (.lst (ds.drop 2).reverse)
  | _ => none
theorem se_down {e : Expr} {k j : Nat} {p1 p2 p3 p4 pos : Pos} (he : PE X e (RdE X ca W f)) : PE X (.Subscript e (.Slice none (some (.Constant (.int 1) j p4)) (some (.UnaryOp .USub (.Constant (.int 1) k p1) p2)) p3) pos) (RdE X ca W (o1 downO f)) := PE.imp (pe_downL he) fun σ H Q h => (rd_o1 h).mono fun x H1 h => by
  obtain ⟨Z, a, o, zd, ha, e, q⟩ := rsem1 h
  unfold downO at e
  split at e
  · cases e
    obtain ⟨p, xs, rfl, hp, hd⟩ := rb_list ha rfl
    exact ⟨p, xs, rfl, .inl (.inl hp), fun a' na => q _ _ _ (Al.lst (DzA.drop _ hd).reverse na)⟩
  · cases e
    obtain ⟨p, xs, rfl, hp, hd⟩ := rb_list ha rfl
    exact ⟨p, xs, rfl, .inl (.inl hp), fun a' na => q _ _ _ (Al.lst (DzA.drop _ hd).reverse na)⟩
  · cases e
end
end Eng
set_option maxHeartbeats 1000000
/-! The engine, part 47: a list comprehension that lets an exception out. -/
namespace Eng
open PySem PySem.Spec L2
open PyProof.Rows hiding St
section
variable {M : Model} {A : Around} {E : Value → Shared → Prop} {s : Shared}
theorem note_same {Q : Unit → Shared → Prop} {u : Value} {ce env : Env} (h : ce.frame = env.frame) (k : wpAny M A (noteFrame u env) Q E s) : wpAny M A (noteFrame u ce) Q E s := by
  have e : noteFrame u ce = noteFrame u env := by
    unfold noteFrame PySem.frameOf
    rw [h]
  rw [e]
  exact k
/-- noted anew, whoever has noted it -/
theorem note_held {B : Heap} {env : Env} {outer : List Env} {e L C : Addr} {Z : Obj → Prop} {Q : Unit → Shared → Prop} (hZ : HandSPX.Steady Z) (hfr : A.frames = some (env :: outer)) (hf : env.frame = some L) (hh : HandSPX.HeldZ B (env :: outer) e Z C s.heap)
    (k : ∀ h', HandSPX.HeldZ B (env :: outer) e Z L h' → s.heap.UpToSlots h' → Q () { s with heap := h' }) : wpAny M A (noteFrame (.ref e) env) Q E s := by
  obtain ⟨g1, g2, g3, g4⟩ := hh
  by_cases hc : C = L
  · subst hc
    exact HandSPX.againZ hf g4 (k s.heap ⟨g1, g2, g3, g4⟩ (Heap.UpToSlots.refl _))
  obtain ⟨oe, vs, T, oT, ts, he, hz, hd, h1, hnT, hTe, hT, hdT, h3⟩ := g4
  unfold noteFrame
  simp only [hf]
  refine wpAny_bind (wpAny_field he hd h1 ?_)
  rw [if_pos (by simp : (Value.ref T != Value.none) = true)]
  refine wpAny_bind (wpAny_field hT hdT h3 ?_)
  rw [if_neg (by simp [rawInt]; exact fun q => hc (Int.ofNat_inj.mp q) : ¬ (rawInt C == rawInt L) = true)]
  refine wpAny_bind (wpAny_setField hT hdT (Array.getElem?_eq_some_iff.mp h3).1 ?_)
  have far : ∀ b, b ≠ T → (s.heap.update T (Obj.mapFields (·.setIfInBounds 3 Value.none))).get? b = s.heap.get? b := fun b hb => Heap.get?_update_other _ _ (Ne.symm hb)
  have notT : ∀ b o, s.heap.get? b = some o → (∀ vs, o.data ≠ .fields vs) → b ≠ T := fun b o hb hnf q => by
    subst q
    rw [hT] at hb
    cases hb
    exact hnf ts hdT
  refine HandSPX.wpAny_entryZ hZ hfr (g3.of_keeps fun b o hb hnf => ⟨o, (far b (notT b o hb hnf)).trans hb, rfl⟩) hf ((far e (Ne.symm hTe)).trans he) (fun b o hb => (far b fun q => by subst q; rw [hnT] at hb; cases hb).trans (g1 b o hb)) g2 hd (Array.getElem?_eq_some_iff.mp h1).1 hz fun h' hN => ?_
  obtain ⟨x1, x2, x3, x4⟩ := hN
  exact k h' ⟨x1, g2, x2, x3⟩ fun b o hb hnf => x4 b o ((far b (notT b o hb hnf)).trans hb) hnf
/-- how the block ends -/
def endC (M : Model) (A : Around) (E : Value → Shared → Prop) (Q : Value → Shared → Prop) (acc : Value) (ce : Env) (r : Result) (s' : Shared) : Prop := match r with
  | .ok _ => ∃ m, s'.heap.Ns ce.locals m ∧ ∀ h', Heap.SameBut ce.locals s'.heap h' → Q acc { s' with heap := h' }
  | .error x => ∃ m, s'.heap.Ns ce.locals m ∧ ∀ h' m', h'.Ns ce.locals m' → Heap.SameBut ce.locals s'.heap h' → wpAny M A (passOn "comprehension.variables-let-go" x ce : Sem Value) (fun _ _ => False) E { s' with heap := h' }
theorem comp_raise {env : Env} {e : Expr} {scope : Scope} {pos : Pos} {newAcc first : Sem Value} {g : Comprehension} {gs : List Comprehension} {cl : List (Str × Addr)} {Q : Value → Shared → Prop}
    (c1 : clausesOf e = g :: gs) (c2 : ∀ x, foldedSetIterable g.iter env x = pure x) (c3 : closureFor scope env = pure cl) (c4 : scope.kind = .function) (c5 : ∀ x ∈ scope.names, x.2 = .local → scope.names.lookup x.1 = some .local)
    (k : wpAny M A first (fun x s1 => wpAny M A (pyIter x) (fun it s2 => wpAny M A newAcc (fun acc s3 => wpAny M A (newFunctionEnv scope env.globals cl [] env.qual none .none (some env)) (fun ce s4 => codeAny M A (.compStart e 0 it acc { ce with scope := relabel scope env }) (endC M A E Q acc { ce with scope := relabel scope env }) s4) E s3) E s2) E s1) E s) :
    wpAny M A (comprehension e scope env pos newAcc false first none) Q E s := by
  unfold comprehension
  rw [c3, c1]
  refine wpAny_bind (wpAny_mono k (fun x s1 k1 => ?_) fun _ _ z => z)
  refine wpAny_bind (wpAny_standAt (wpAny_bind (wpAny_of_eq (c2 x) ?_)))
  refine wpAny_bind (wpAny_holding (wpAny_mono k1 (fun it s2 k2 => ?_) fun _ _ z => z))
  refine wpAny_standIf (wpAny_bind (wpAny_mono k2 (fun acc s3 k3 => ?_) fun _ _ z => z))
  refine wpAny_bind (wpAny_pure (wpAny_bind (wpAny_mono k3 (fun ce s4 k4 => ?_) fun _ _ z => z)))
  dsimp only
  have loc : ∀ x ∈ (scope.names.filter fun x => (x.2 == .local || x.2 == .cell) && x.1 != (".0" : Str)).reverse, x.2 = .local → Env.kindOf { ce with scope := relabel scope env } x.1 = some .local := fun x hx hl =>
    lookup_relabel_local (c5 x (List.mem_filter.mp (List.mem_reverse.mp hx)).1 hl)
  refine wpAny_holding (wpAny_bind (wpAny_attempt (wpAny_holding (wpAny_run (codeAny_mono k4 fun r s' kr => ?_)))))
  cases r with
  | ok f =>
    obtain ⟨m, hn, kr⟩ := kr
    exact wpAny_bind (wpAny_holding (wpAny_comp_letGo (cenv := { ce with scope := relabel scope env }) c4 _ s' m loc hn fun h' m' _ sb => wpAny_pure (kr h' sb)))
  | error x =>
    obtain ⟨m, hn, kr⟩ := kr
    exact wpAny_bind (wpAny_holding (wpAny_comp_letGo (cenv := { ce with scope := relabel scope env }) c4 _ s' m loc hn fun h' m' hn' sb => wpAny_mono (kr h' m' hn' sb) (fun _ _ f => f.elim) fun _ _ y => y))
end
/-! ### heaps but for one thing -/
theorem frames_swap {h1 h' B : Heap} {C : Addr} {f : Obj → Obj} (sb : Heap.SameBut C h1 h') : ∀ {l : List Env}, h1.FunFrames B l → C ∉ frs l → h'.FunFrames (B.update C f) l
  | [], _, _ => trivial
  | env :: l, ⟨hk, ⟨L, o, hf, hn, ho, hd⟩, hr⟩, hC => by
    have e : frs (env :: l) = L :: frs l := by
      unfold frs
      rw [List.filterMap_cons, hf]
    rw [e, List.mem_cons, not_or] at hC
    exact ⟨hk, ⟨L, o, hf, (Heap.get?_update_other _ _ hC.1).trans hn, (sb.2 L (Ne.symm hC.1)).trans ho, hd⟩, frames_swap sb hr hC.2⟩
section
variable {X : Cx} {pins : List (Addr × Obj)} {σ : L2.St} {H3 : Hp} {s3 : Shared} {scope : Scope} {cl : List (Str × Addr)} {fp : List Addr} {Q : Value → Shared → Prop} {D : Addr} {Wo : WX}
/-- what leaves the block is in the def's air -/
theorem takes_blk (ok : X.Ok) (hs : X.stack = X.env :: X.outer) (hf : X.env.frame = some X.env.locals) (tk : Takes X Wo) (I3 : Inv X pins σ H3 s3) (f3 : ∀ b ∈ fp, FpOk X pins H3 b) {ce : Env} (hce : ce = compEnvC scope cl s3.heap.objs.size X.env) :
    Takes ((X.blk s3 H3 scope ce fp).tr [] (notedBy (model X.prog X.w) X.A ce fun u s'' => endC (model X.prog X.w) X.A X.xe Q (.ref D) ce (.error u) s'')) (fun cls d _ H => Wo cls d σ H) := by
  have hC : ce.locals = s3.heap.objs.size := by rw [hce]; rfl
  have hfe : ce.frame = X.env.frame := by rw [hce]; rfl
  intro u s' ⟨a, B, sI, pb, σb, H', cls, d, eu, J, nb, up, sky, na, os, ag, w⟩
  subst eu
  have fr : X.A.frames = some (X.env :: X.outer) := ok.frames.trans (congrArg some hs)
  have sky : Sky B (X.env :: X.outer) a (Zc cls d) ce.locals s'.heap := hs ▸ sky
  show wpAny _ _ (noteFrame (.ref a) ce) _ _ _
  refine note_same hfe ?_
  have land : ∀ h1, HandSPX.HeldZ B (X.env :: X.outer) a (Zc cls d) X.env.locals h1 → s'.heap.UpToSlots h1 → endC (model X.prog X.w) X.A X.xe Q (.ref D) ce (.error (.ref a)) { s' with heap := h1 } := fun h1 hh up1 => by
    obtain ⟨g1, g2, g3, g4⟩ := hh
    have J1 := J.landed (s' := { s' with heap := h1 }) nb g1 (up.trans up1) os ag
    obtain ⟨m, hn, _⟩ := J1.loc
    refine ⟨m, hn, fun h' m' hn' sb => ?_⟩
    obtain ⟨oC, es, ep, hoC, hdC, _⟩ := hn'
    have nfr : ce.locals ∉ frs X.stack := fun hm => by
      have f := I3.fpOk (H' := fun _ => none) (b := s3.heap.objs.size) (Nat.le_refl _) rfl
      rw [hC] at hm
      rcases List.mem_cons.mp (I3.stkSub _ hm) with z | z
      · exact f.2.1 z
      · exact f.2.2.1 z
    have nC : H' ce.locals = none := J.free
    obtain ⟨m0, hn0, _⟩ := J.loc
    obtain ⟨o0, _, _, ho0, _⟩ := hn0
    have ho0 : sI.heap.get? ce.locals = some o0 := ho0
    have bC : B.get? ce.locals = some o0 := nb _ _ ho0 nfr
    have live : oC.isFreed = false := Obj.isFreed_of_dict hdC
    have gI : (sI.heap.update ce.locals fun _ => oC).get? ce.locals = some oC := Heap.get?_update_self _ ho0 live
    have gB : (B.update ce.locals fun _ => oC).get? ce.locals = some oC := Heap.get?_update_self _ bC live
    have oI : ∀ b, b ≠ ce.locals → (sI.heap.update ce.locals fun _ => oC).get? b = sI.heap.get? b := fun b hb => Heap.get?_update_other _ _ (Ne.symm hb)
    have oB : ∀ b, b ≠ ce.locals → (B.update ce.locals fun _ => oC).get? b = B.get? b := fun b hb => Heap.get?_update_other _ _ (Ne.symm hb)
    -- the def's own state, without the exception
    have I7 : Inv X pins σ H' sI := I3.call' (ch := fp) J.os J.base J.hok J.bare fun b hb => ⟨(f3 b hb).2.2.2.1, (f3 b hb).2.1, (f3 b hb).2.2.2.2.1, (f3 b hb).2.2.2.2.2⟩
    obtain ⟨q0, q1, q2, q3, q4, q5⟩ := I3.fpOk (H' := H') (b := s3.heap.objs.size) (Nat.le_refl _) (hC ▸ nC)
    rw [← hC] at q0 q1 q2 q3 q4 q5
    have I8 : Inv X pins σ H' { sI with heap := sI.heap.update ce.locals fun _ => oC } := I7.turned (t' := sI.toks) (fun b o hb e => (oI b hb).trans e) q0 q1 q3 q4 q5
    obtain ⟨oe, vs, T, oT, ts, he, hz, hd, h1', hnT, hTe, hT, hdT, h3⟩ := g4
    have aC : a ≠ ce.locals := fun z => by rw [z, bC] at g2; cases g2
    have TC : T ≠ ce.locals := fun z => by rw [z, bC] at hnT; cases hnT
    have held : HandSPX.HeldZ (B.update ce.locals fun _ => oC) (X.env :: X.outer) a (Zc cls d) X.env.locals h' := by
      refine ⟨fun b o e => ?_, (oB a aC).trans g2, frames_swap sb g3 (hs ▸ nfr), oe, vs, T, oT, ts, (sb.2 a aC).trans he, hz, hd, h1', (oB T TC).trans hnT, hTe, (sb.2 T TC).trans hT, hdT, h3⟩
      by_cases hb : b = ce.locals
      · subst hb
        rw [gB] at e
        cases e
        exact hoC
      · rw [oB b hb] at e
        exact (sb.2 b hb).trans (g1 b o e)
    have he' : h'.get? a = some oe := (sb.2 a aC).trans he
    have away : wpAny (model X.prog X.w) X.A (setFlight (.ref a) ce.frame) (fun _ s4 => wpAny (model X.prog X.w) X.A (throw (.ref a) : Sem Value) (fun _ _ => False) X.xe s4) X.xe { s' with heap := h' } := by
      rw [hfe, hf]
      refine HandSPX.setFlight_onZ held fun h2 held2 up2 => wpAny_throw (tk _ _ ⟨a, B.update ce.locals fun _ => oC, { sI with heap := sI.heap.update ce.locals fun _ => oC }, pins, σ, H', cls, d, rfl, I8, fun b o e hb => ?_, fun b o e hnf => ?_, .inr (.inr (hs.symm ▸ held2)), na, os, ag, w⟩)
      · have e : (sI.heap.update ce.locals fun _ => oC).get? b = some o := e
        by_cases hbc : b = ce.locals
        · subst hbc
          rw [gI] at e
          cases e
          exact gB
        · rw [oI b hbc] at e
          exact (oB b hbc).trans (nb b o e hb)
      · have e : (sI.heap.update ce.locals fun _ => oC).get? b = some o := e
        by_cases hbc : b = ce.locals
        · subst hbc
          rw [gI] at e
          cases e
          exact up2 _ _ hoC hnf
        · rw [oI b hbc] at e
          obtain ⟨sl, e1⟩ := (up.trans up1) b o e hnf
          exact up2 b { o with slots := sl } ((sb.2 b hbc).trans e1) hnf
    unfold PySem.passOn
    refine wpAny_bind (wpAny_field he' hd h1' ?_)
    rw [if_neg (by simp : ¬ (Value.ref T == Value.none) = true)]
    first
      | exact wpAny_bind (wpAny_pure (wpAny_bind away))
      | exact wpAny_bind away
  rcases sky with ⟨k1, k2, k3, oe, vs, k4, k5, k6, k7⟩ | fl | hd
  · exact HandSPX.look_newZ Zc.steady fr k3 hf k4 k1 k2 k6 k7 k5 land
  · exact HandSPX.looks_onZ Zc.steady fr hf fl land
  · exact note_held Zc.steady fr hf hd land
end
end Eng
set_option maxHeartbeats 1000000
/-! The engine, part 48: the comprehension's walk, with exceptions. -/
namespace Eng
open PySem PySem.Spec L2
open PyProof.Rows hiding St
section
variable {X : Cx}
abbrev bX (X : Cx) (s : Shared) (H : Hp) (scope : Scope) (ce : Env) (fp : List Addr) (xe : Value → Shared → Prop) : Cx := (X.blk s H scope ce fp).tr [] xe
def tLcX (wi : TI) (g : TG) (tt : TT) (te : WX → TE) (Wo : WX) (vs : List Nat) : TE := fun σ H Q => wi σ H fun J H1 => ∀ D, H1 D = none → ∃ W : Nat → Nat → Hp → Prop, (∃ m, W 0 m (upd H1 D (.lst []))) ∧ ∀ i m H, W i m H →
  (J.stop i H ∧ Q (.ref D) H) ∨ (J.go i H ∧ ∃ Nx : Hp → Prop, (∀ H', Nx H' → ∃ m', m' < m ∧ W (i + 1) m' H') ∧ ∀ x H', J.yld i H x H' → g x (wipe σ vs) H' fun σ2 H2 => wipe σ2 vs = wipe σ vs ∧ tt σ2 H2 fun b H3 =>
    if b = true then te (fun cls d _ H => Wo cls d σ H) σ2 H3 fun y H4 => ∃ acc, H4 D = some (.lst acc) ∧ acc.length < sizeLine ∧ Nx (upd H4 D (.lst (acc ++ [y]))) else Nx H3)
theorem pe_lcX {elt tg iter : Expr} {ifs : List Expr} {scope : Scope} {own : List (Str × Nat)} {pos : Pos} {wi : TI} {g : TG} {tt : TT} {te : WX → TE} {Wo : WX} (calm : X.calm = true) (nd : X.N.Nodup) (hs : X.stack = X.env :: X.outer) (hf : X.env.frame = some X.env.locals) (tk : Takes X Wo)
    (hi : PI X tg iter wi) (bk : BlkOk X.N X.env.scope scope own)
    (hg : ∀ (s : Shared) (H : Hp) (C : Addr) (cl : List (Str × Addr)) (fp : List Addr) (xe : Value → Shared → Prop), PG (bX X s H scope (compEnvC scope cl C X.env) fp xe) tg g)
    (ht : ∀ (s : Shared) (H : Hp) (C : Addr) (cl : List (Str × Addr)) (fp : List Addr) (xe : Value → Shared → Prop), PTs (bX X s H scope (compEnvC scope cl C X.env) fp xe) ifs tt)
    (he : ∀ (s : Shared) (H : Hp) (C : Addr) (cl : List (Str × Addr)) (fp : List Addr) (xe : Value → Shared → Prop) (W' : WX), Takes (bX X s H scope (compEnvC scope cl C X.env) fp xe) W' → PE (bX X s H scope (compEnvC scope cl C X.env) fp xe) elt (te W'))
    (hfold : ∀ x, foldedSetIterable iter X.env x = pure x) :
    PE X (.ListComp elt [⟨tg, iter, ifs, 0⟩] scope pos) (tLcX wi g tt te Wo (own.map (·.2))) := by
  refine ⟨fun pins s0 σ H0 Q I h => ?_⟩
  rw [eval_ListComp]
  have cells : ∀ y ∈ scope.names, y.2 = .free → ∃ c, X.env.cells.lookup y.1 = some c := fun y hy e => (bk.free y hy e).elim (fun q => I.ok.has _ (.inl q)) fun q => I.ok.has _ (.inr q)
  refine comp_raise rfl hfold (closure_ok cells) bk.kind (fun y hy e => by rw [bk.uniq y hy, e]) (thn (hi.run pins s0 σ H0 _ I h) fun xv s1 hx => thn hx fun itv s2 h2 => ?_)
  obtain ⟨it, fp, tn, J, H2, e, I2, T, at2, ok2, q⟩ := h2
  subst e
  refine wpAny_newObj_type (newEnv_comp ?_) (by show 0 ≤ sizeLine; decide)
  generalize hD : s2.heap.objs.size = D
  have dn : H2 D = none := I2.hok.fresh (Nat.le_of_eq hD)
  obtain ⟨W, ⟨m0, w0⟩, turn⟩ := q D dn
  generalize hs3 : ({ s2 with heap := s2.heap.push { cls := .type "list", data := .seq ([] : List Value).toArray } } : Shared) = s3
  have h3 : s3.heap = s2.heap.push { cls := .type "list", data := .seq ([] : List Value).toArray } := by rw [← hs3]
  have I3 : Inv X pins σ (upd H2 D (.lst [])) s3 := by
    rw [← hs3]
    exact I2.laid (t' := s2.toks) (fun b o e => Heap.get?_push_of_some _ e) (Nat.le_of_eq hD) ⟨Nat.zero_le _, [], 0, .nil, hD ▸ Heap.get?_push_size _ rfl⟩
  have lt2 : ∀ b ∈ fp, b < s2.heap.objs.size := fun b hb => (T.obj _ _ at2 b hb).elim fun o e => Heap.lt_size e.1
  have ok3 : ∀ b ∈ fp, FpOk X pins (upd H2 D (.lst [])) b ∧ b < s3.heap.objs.size := fun b hb => by
    have lt := lt2 b hb
    exact ⟨⟨(upd_ne (by rw [← hD]; exact Nat.ne_of_lt lt)).trans (ok2 b hb).1, (ok2 b hb).2⟩, by rw [h3, Heap.size_push]; exact Nat.lt_succ_of_lt lt⟩
  have at3 : tn 0 s3.heap := T.keep _ _ _ at2 fun b _ o e => h3 ▸ Heap.get?_push_of_some _ e
  have I4 := block_start I3 bk nd ok3
  generalize hcl : cellsFrom (s3.heap.objs.size + 1) scope.names (cloFrom X.env.cells scope.names []) = cl at I4
  generalize hce : compEnvC scope cl s3.heap.objs.size X.env = ce at I4
  have cL : ce.locals = s3.heap.objs.size := by rw [← hce]; rfl
  generalize hH3 : upd H2 D (.lst []) = H3 at I3 I4 w0 ok3
  generalize hs4 : ({ s3 with heap := pushCells (s3.heap.push { cls := .type "dict", data := .dict #[] }) scope.names } : Shared) = s4 at I4
  have at4 : tn 0 s4.heap := T.keep _ _ _ at3 fun b _ o e => by rw [← hs4]; exact pushCells_keeps _ _ _ _ (Heap.get?_push_of_some _ e)
  obtain ⟨R, hR⟩ : ∃ R : Result → Shared → Prop, R = endC (model X.prog X.w) X.A X.xe (EP X pins σ Q) (.ref D) ce := ⟨_, rfl⟩
  obtain ⟨xe, hxe⟩ : ∃ xe : Value → Shared → Prop, xe = notedBy (model X.prog X.w) X.A ce (fun u s'' => R (.error u) s'') := ⟨_, rfl⟩
  have tkb : Takes (bX X s3 H3 scope ce fp xe) (fun cls d _ H => Wo cls d σ H) := by
    rw [hxe, hR]
    exact takes_blk (Q := EP X pins σ Q) I.ok hs hf tk I3 (fun b hb => (ok3 b hb).1) hce.symm
  have pg := hg s3 H3 s3.heap.objs.size cl fp xe
  have pt := ht s3 H3 s3.heap.objs.size cl fp xe
  have pe := he s3 H3 s3.heap.objs.size cl fp xe (fun cls d _ H => Wo cls d σ H)
  rw [hce] at pg pt pe
  have pe := pe tkb
  have J4 : Inv (bX X s3 H3 scope ce fp xe) [] (wipe σ (own.map (·.2))) H3 s4 := I4.toTry xe
  have off : ∀ b ∈ fp, H3 b = none := fun b hb => (ok3 b hb).1.1
  have fpo : ∀ {σ' : L2.St} {H' : Hp} {s' : Shared}, Inv (bX X s3 H3 scope ce fp xe) [] σ' H' s' → (∀ b ∈ fp, H' b = none) → ∀ b ∈ fp, FpOk (bX X s3 H3 scope ce fp xe) [] H' b := fun {σ' H' s'} K n b hb =>
    ⟨n b hb, (K.ok.exf b hb).1, K.ok.exfs b hb, .inl hb, (K.ok.exf b hb).2, fun p hp => absurd (show p ∈ ([] : List (Addr × Obj)) ++ [] from hp) (by simp)⟩
  show codeAny (model X.prog X.w) X.A (.compStart (.ListComp elt [⟨tg, iter, ifs, 0⟩] scope pos) 0 (.ref it) (.ref D) (compEnvC scope cl s3.heap.objs.size X.env)) (endC (model X.prog X.w) X.A X.xe (EP X pins σ Q) (.ref D) (compEnvC scope cl s3.heap.objs.size X.env)) s4
  rw [hce]
  have loop : codeAny (model X.prog X.w) X.A (.compLoop (.ListComp elt [⟨tg, iter, ifs, 0⟩] scope pos) 0 (.ref it) (.ref D) ce) R s4 := by
    refine compLoop_any (fun n t => ∃ i K, Inv (bX X s3 H3 scope ce fp xe) [] (wipe σ (own.map (·.2))) K t ∧ tn i t.heap ∧ (∀ b ∈ fp, K b = none) ∧ W i n K) ?_ m0 ⟨0, H3, J4, at4, off, w0⟩
    rintro n s5 ⟨i, H5, I5, at5, n5, w5⟩
    rw [← hxe]
    rcases turn i n H5 w5 with ⟨stop, qq⟩ | ⟨go, Nx, less, step⟩
    · refine wpAny_mono (T.done (bX X s3 H3 scope ce fp xe) rfl rfl rfl calm i [] s5 _ H5 xe I5 (fpo I5 n5) at5 stop) (fun r s6 ⟨hr, I6⟩ => ?_) fun _ _ z => z
      subst hr
      have I7 : Inv X pins σ H5 s6 := I3.call' (ch := fp) I6.os I6.base I6.hok I6.bare fun b hb => ⟨(ok3 b hb).1.2.2.2.1, (ok3 b hb).1.2.1, (ok3 b hb).1.2.2.2.2.1, (ok3 b hb).1.2.2.2.2.2⟩
      have nC : H5 s3.heap.objs.size = none := cL ▸ (show H5 ce.locals = none from I6.free)
      obtain ⟨m, hn, _⟩ := I6.loc
      rw [hR]
      refine ⟨m, hn, fun h7 sb => ?_⟩
      obtain ⟨f0, f1, _, f3, f4, f5⟩ := I3.fpOk (H' := H5) (b := s3.heap.objs.size) (Nat.le_refl _) nC
      rw [← cL] at f0 f1 f3 f4 f5
      exact ⟨.ref D, H5, I7.turned (t' := s6.toks) (fun b o hb e => (sb.2 b hb).trans e) f0 f1 f3 f4 f5, rfl, qq⟩
    · refine wpAny_mono (T.item (bX X s3 H3 scope ce fp xe) rfl rfl rfl calm i [] s5 _ H5 xe I5 (fpo I5 n5) at5 go) (fun r s6 ⟨u, hr, h6⟩ => ?_) fun _ _ z => z
      subst hr
      refine wpAny_mono h6 (fun _ s7 ⟨x, H7, I7, r7, y7, at7, n7⟩ => ?_) fun _ _ z => z
      have K7 := I7.pinned (fpo I7 n7) (T.obj _ _ at7)
      refine wpAny_mono (pg.run _ s7 _ H7 x u _ K7 r7 (step x H7 y7)) (fun _ s8 ⟨σ8, H8, I8, e8, q8⟩ => ?_) fun _ _ z => z
      refine wpAny_mono (pt.run _ s8 σ8 H8 _ I8 q8) (fun b s9 ⟨H9, I9, q9⟩ => ?_) fun _ _ z => z
      have fin : ∀ {t : Shared} {K : Hp}, Inv (bX X s3 H3 scope ce fp xe) ([] ++ pinsAt fp s7.heap) σ8 K t → Nx K → ∃ m, m < n ∧ ∃ i K, Inv (bX X s3 H3 scope ce fp xe) [] (wipe σ (own.map (·.2))) K t ∧ tn i t.heap ∧ (∀ b ∈ fp, K b = none) ∧ W i m K := fun {t K} V nx => by
        obtain ⟨m', lt, w'⟩ := less K nx
        have still : ∀ b ∈ fp, ∀ o, s7.heap.get? b = some o → t.heap.get? b = some o ∧ K b = none := fun b hb o e => by
          have z := V.pin (b, o) (List.mem_append_right _ (List.mem_append_right _ (mem_pinsAt hb e)))
          exact ⟨z.1, z.2.1⟩
        refine ⟨m', lt, i + 1, K, (V.unpinned (pins := [])).weak (by rw [← e8, wipe_length]) (fun j v e => (wipe_some (e8.symm ▸ e)).1), T.keep _ _ _ at7 fun b hb o e => (still b hb o e).1, fun b hb => ?_, w'⟩
        obtain ⟨o, e, _⟩ := T.obj _ _ at7 b hb
        exact (still b hb o e).2
      cases b with
      | false =>
        simp only [Bool.false_eq_true, if_false] at q9 ⊢
        exact fin I9 q9
      | true =>
        simp only [if_true] at q9 ⊢
        refine wpAny_mono (pe.run _ s9 σ8 H9 _ I9 q9) (fun z s10 ⟨yv, H10, I10, r10, acc, d10, z10, nx⟩ => ?_) fun _ _ z => z
        exact app_ok (X := bX X s3 H3 scope ce fp xe) I10 d10 z10 r10 fun s11 I11 => fin I11 nx
  rw [← hR]
  exact codeAny_compStart_list loop (T.self X.A 0 _ _ _ at4 loop)
end
end Eng
set_option maxHeartbeats 1000000
/-! The engine, part 49: list comprehensions whose element may raise. -/
namespace Eng
open PySem PySem.Spec L2
open PyProof.Rows hiding St
open Classical in
noncomputable def lcLX (c : Option (Nat × List D)) (T : Tgt) (t : TS') (f : ES) (own : List Nat) : List D → List D → En → Out (List D)
  | [], acc, ρ => .ok acc ρ
  | d :: ds, acc, ρ => match T.put d ρ with
    | none => .stuck
    | some ρ1 => match t ρ1 with
      | .ok b ρ2 => if b = true then match f ρ2 with
          | .ok p ρ3 => match give ρ3 p with
            | some (e, ρ4) => if lcC c own (dropE own ρ4) then lcLX c T t f own ds (acc ++ [e]) (dropE own ρ4) else .stuck
            | none => .stuck
          | .exc k ρ3 => if ∀ i ∈ own, (dropE own ρ3)[i]? = some none then .exc k (dropE own ρ3) else .stuck
          | .stuck => .stuck
        else if lcC c own (dropE own ρ2) then lcLX c T t f own ds acc (dropE own ρ2) else .stuck
      | _ => .stuck
open Classical in
noncomputable def lcWX (c : Option (Nat × List D)) (T : Tgt) (t : TS') (f : ES) (own : List Nat) (ds : List D) (ρ : En) : Out (List D) :=
  if lcC c own (dropE own ρ) then match lcLX c T t f own ds [] (dropE own ρ) with
    | .ok acc ρ2 => .ok acc (restE ρ own ρ2)
    | .exc k ρ2 => .exc k ρ2
    | .stuck => .stuck
  else .stuck
noncomputable def lcEX (T : Tgt) (t : TS') (f : ES) (own : List Nat) (x : Option Nat × List D) (ρ : En) : Out Opd := match x with
  | (none, ds) => (lcWX none T t f own ds ρ).bind fun acc ρ2 => .ok (.tmp (.lst acc)) ρ2
  | (some j, ds) => match ρ[j]? with
    | some (some (true, _)) => (lcWX (some (j, ds)) T t f own ds ρ).bind fun acc ρ2 => .ok (.tmp (.lst acc)) ρ2
    | some (some (false, o)) => match lcWX (some (j, ds)) T t f own ds (ρ.set j (some (true, o))) with
      | .ok acc ρ2 => .ok (.tmp (.lst acc)) (unpin j ρ2)
      | .exc k ρ2 => .exc k (unpin j ρ2)
      | .stuck => .stuck
    | _ => .stuck
noncomputable def oLcX (it : IS) (T : Tgt) (t : TS') (f : ES) (own : List Nat) : ES := fun ρ => (it ρ).bind fun x ρ1 => lcEX T t f own x ρ1
section
variable {X : Cx} {ca : Nat → Addr} {W : WX} {f g : ES} {as : AS} {G : Gx} {b : SS} {t : TS'} {it : IS}
variable {θ θ' : Nat → V} {Z Z1 Z0 Z' : Zs} {L L1 L0 L' F F0 : List Addr} {H H1 H0 H' : Hp} {σ σ' : L2.St} {ρ ρ1 ρ' : En} {Dn : Ends}
/-- what is laid beside is not in the way -/
theorem stepD {M : List Addr} {Da : Addr} (s : Step Z M H Z' L' H') : Step Z (Da :: M) H Z' L' H' :=
  ⟨fun a o e hna => s.keep a o e fun q => hna (List.mem_cons_of_mem _ q), s.zmono, fun a z => (s.znew a z).imp_right fun q => q.imp_left fun q => List.mem_cons_of_mem _ q, fun a ha => (s.lnew a ha).imp_left fun q => List.mem_cons_of_mem _ q⟩
theorem lc_turnsX {c : Option (Nat × List D)} {T : Tgt} {own : List Nat} {J : It} {ds : List D} {Ok : Zs → Hp → En → List Addr → Prop} {R : Out (List D)} {Da : Addr} {Qd : Hp → Prop} (hT : ∀ i ∈ T.slots, i ∈ own) (w : Wlk θ (gx X ca) (chkE c) J ds Ok)
    (r : Rep θ (gx X ca) Z H ρ σ L) (k : Ok Z H ρ L) (hz : ds.length ≤ sizeLine) (hD : H Da = none) (e : lcWX c T t f own ds ρ = R) (ns : R ≠ .stuck)
    (finx : ∀ k ρF, R = .exc k ρF → ∀ Z' H' L', Rep θ (gx X ca) Z' H' ρF σ L' → Step Z L H Z' L' H' → W (.ref (ca k)) none σ H')
    (fin : ∀ accF ρF, R = .ok accF ρF → ∀ Z' H' L' xs, Rep θ (gx X ca) Z' H' ρF σ L' → H' Da = some (.lst xs) → DzA Z' X.K H' accF xs → Da ∉ L' → ¬ Z' Da → Step Z L H Z' (Da :: L') H' → Qd H') :
    ∃ W' : Nat → Nat → Hp → Prop, (∃ m, W' 0 m (L2.upd H Da (.lst []))) ∧ ∀ i m H, W' i m H → (J.stop i H ∧ Qd H) ∨ (J.go i H ∧ ∃ Nx : Hp → Prop, (∀ H', Nx H' → ∃ m', m' < m ∧ W' (i + 1) m' H') ∧ ∀ x H', J.yld i H x H' →
      tgR X ca T x (wipe σ own) H' fun σ2 H2 => wipe σ2 own = wipe σ own ∧ RdT X ca WF t σ2 H2 fun b H3 => if b = true then RdE X ca (fun cls d _ H => W cls d σ H) f σ2 H3 fun y H4 => ∃ acc, H4 Da = some (.lst acc) ∧ acc.length < sizeLine ∧ Nx (L2.upd H4 Da (.lst (acc ++ [y]))) else Nx H3) := by
  unfold lcWX at e
  split at e
  · rename_i hc0
    generalize eL : lcLX c T t f own ds [] (dropE own ρ) = R0 at e
    have nR : R0 ≠ .stuck := fun q => by rw [q] at e; exact ns e.symm
    ·
      -- the word between two turns
      let inv : Nat → Hp → Prop := fun i H2 => i ≤ ds.length ∧ ∃ Z2 ρ2' M2 acc xs, Rep θ (gx X ca) Z2 H2 ρ2' (wipe σ own) M2 ∧ (∀ i ∈ own, ρ2'[i]? = some none) ∧ Ok Z2 H2 ρ2' (Da :: M2) ∧ Da ∉ M2 ∧ (¬ Z2 Da) ∧ H2 Da = some (.lst xs) ∧ DzA Z2 X.K H2 acc xs ∧ acc.length ≤ i ∧
        Step Z L H Z2 (Da :: M2) H2 ∧ lcLX c T t f own (ds.drop i) acc ρ2' = R0
      refine ⟨fun i m H2 => m = ds.length - i ∧ inv i H2, ?_, ?_⟩
      · obtain ⟨L1, r1, h1⟩ := r.drop own
        have r2 : Rep θ (gx X ca) Z H (dropE own ρ) (wipe σ own) L1 := r1.agree (wipe_agr own) hc0.2
        have nDL : Da ∉ L := fun h => mut_some (r.sl.mut Da h) hD
        have nDZ : ¬ Z Da := fun h => r.zd Da h hD
        have same : Same H (L2.upd H Da (.lst [])) := same_new hD
        have s0 : Step Z L H Z (Da :: L1) (L2.upd H Da (.lst [])) := ⟨fun a o e _ => same a o e, fun _ h => h, fun _ h => .inl h, fun a ha => (List.mem_cons.mp ha).elim (fun h => .inr (h ▸ hD)) fun h => .inl (h1 a h)⟩
        have nd1 : (Da :: L1).Nodup := List.nodup_cons.mpr ⟨fun h => nDL (h1 Da h), r2.nd⟩
        exact ⟨_, rfl, Nat.zero_le _, Z, dropE own ρ, L1, [], [], r2.same same, hc0.2, w.step r.sl.mut r.dis k s0 nd1 hc0.1, fun h => nDL (h1 Da h), nDZ, upd_same, .nil, Nat.zero_le _, s0, eL⟩
      · rintro i m H2 ⟨rfl, hi, Z2, ρ3, M2, acc, xs, r2, hn, k2, nDL, nDZ, hDa, dz, hl, s2, e2⟩
        by_cases hlt : i < ds.length
        · refine .inr ⟨w.go i hlt r2 k2, inv (i + 1), fun H' p' => ⟨ds.length - (i + 1), by omega, rfl, p'⟩, fun x H3 y => ?_⟩
          have hd : ds[i]? = some ds[i] := by simp [hlt]
          rw [List.drop_eq_getElem_cons hlt] at e2
          obtain ⟨same, dx⟩ := w.yld i ds[i] x H3 hd r2 k2 y
          unfold lcLX at e2
          cases e3 : T.put ds[i] ρ3 with
          | none => rw [e3] at e2; exact (nR e2.symm).elim
          | some ρ4 =>
            rw [e3] at e2
            simp only at e2
            have r3 := r2.same same
            refine ⟨θ, Z2, ρ3, M2, ds[i], ρ4, r3, dx, e3, fun σ4 L4 r4 sub ag => ?_⟩
            have agO : Agr own (wipe σ own) σ4 := ag.mono hT
            have hw : wipe σ4 own = wipe σ own := by
              rw [wipe_eq agO, wipe_eq (wipe_agr own)]
            refine ⟨hw, θ, Z2, ρ4, L4, r4, ?_⟩
            have hDa3 : H3 Da = some (.lst xs) := same _ _ hDa
            have nD4 : Da ∉ L4 := fun h => nDL (sub Da h)
            have ro4 : Ro (gx X ca) Z2 H3 (.lst acc) (.ref Da) [Da] := .lst hDa3 (dz.kp (same_kp same))
            have nd4 : ([Da] ++ L4).Nodup := List.nodup_cons.mpr ⟨nD4, r4.nd⟩
            have s4 : Step Z2 M2 H2 Z2 L4 H3 := ⟨fun a o e _ => same a o e, fun _ h => h, fun _ h => .inl h, fun a ha => .inl (sub a ha)⟩
            -- a turn's end
            have turn : ∀ {Z5 H5 L5 ρ5 acc5 xs5 u}, Step Z2 M2 H2 Z5 L5 H5 → Rep θ (gx X ca) Z5 (L2.upd H5 Da u) ρ5 σ4 L5 → Da ∉ L5 → ¬ Z5 Da → u = .lst xs5 → DzA Z5 X.K (L2.upd H5 Da u) acc5 xs5 → acc5.length ≤ i + 1 →
                (open Classical in if lcC c own (dropE own ρ5) then lcLX c T t f own (ds.drop (i + 1)) acc5 (dropE own ρ5) else .stuck) = R0 → inv (i + 1) (L2.upd H5 Da u) := fun {Z5 H5 L5 ρ5 acc5 xs5 u} s5 r5 nD5 nZ5 hu dz5 hl5 e5 => by
              subst hu
              split at e5
              · rename_i hc5
                obtain ⟨L6, r6, h6⟩ := r5.drop own
                have r7 := r6.agree agO.symm hc5.2
                have st : Step Z2 (Da :: M2) H2 Z5 (Da :: L6) (L2.upd H5 Da (.lst xs5)) := ⟨fun a o e hna => by
                  rw [List.mem_cons, not_or] at hna
                  rw [upd_ne hna.1]
                  exact s5.keep a o e hna.2, s5.zmono, fun a z => (s5.znew a z).imp_right fun q => q.imp_left fun q => List.mem_cons_of_mem _ q, fun a ha => (List.mem_cons.mp ha).elim (fun q => .inl (by rw [q]; exact List.mem_cons_self)) fun q => (s5.lnew a (h6 a q)).imp_left fun q => List.mem_cons_of_mem _ q⟩
                have mu2 : ∀ a ∈ Da :: M2, Mut (H2 a) := fun a ha => (List.mem_cons.mp ha).elim (fun q => by rw [q, hDa]; trivial) (r2.sl.mut a)
                have dis2 : ∀ a ∈ Da :: M2, ¬ Z2 a := fun a ha => (List.mem_cons.mp ha).elim (fun q => q ▸ nDZ) (r2.dis a)
                exact ⟨hlt, Z5, _, L6, acc5, xs5, r7, hc5.2, w.step mu2 dis2 k2 st (List.nodup_cons.mpr ⟨fun h => nD5 (h6 Da h), r7.nd⟩) hc5.1, fun h => nD5 (h6 Da h), nZ5, upd_same, dz5, hl5, s2.trans st, e5⟩
              · exact (nR e5.symm).elim
            cases e6 : t ρ4 with
            | stuck => rw [e6] at e2; exact (nR e2.symm).elim
            | exc => rw [e6] at e2; exact (nR e2.symm).elim
            | ok bb ρ5 =>
              rw [e6] at e2
              simp only at e2
              intro Z5 H5 L5 r5 s5
              obtain ⟨ro5, nd5, di5⟩ := ro4.aside (L' := []) r4.sl.mut r4.dis nd4 (fun a ha => by rw [List.mem_singleton] at ha; rw [ha]; exact nDZ) s5 r5.nd
              have nD5 : Da ∉ L5 := (List.nodup_cons.mp nd5).1
              cases bb with
              | false =>
                simp only [Bool.false_eq_true, if_false] at e2 ⊢
                obtain ⟨xs5, hx5, dz5⟩ := ro5.lst_of
                have same5 : L2.upd H5 Da (.lst xs5) = H5 := by
                  funext a
                  by_cases q : a = Da
                  · rw [q, upd_same, hx5]
                  · rw [upd_ne q]
                have := turn (u := .lst xs5) (s4.trans s5) (by rw [same5]; exact r5) nD5 (di5 Da List.mem_cons_self) rfl (by rw [same5]; exact dz5) (by omega) e2
                rw [same5] at this
                exact this
              | true =>
                simp only [if_true] at e2 ⊢
                refine ⟨θ, Z5, ρ5, L5, r5, ?_⟩
                cases e7 : f ρ5 with
                | stuck => rw [e7] at e2; exact (nR e2.symm).elim
                | exc kx ρ6 =>
                  rw [e7] at e2
                  simp only at e2
                  split at e2
                  · rename_i hn6
                    intro Z6 H6 L6 r6 s6
                    obtain ⟨L7, r7, h7⟩ := r6.drop own
                    have r8 := r7.agree (agO.symm.trans (wipe_agr own).symm) hn6
                    rw [← e2] at e
                    refine finx kx _ e.symm Z6 H6 L7 r8 ?_
                    have s46 : Step Z2 M2 H2 Z6 L6 H6 := (s4.trans s5).trans s6
                    exact s2.trans ((stepD s46).sub fun a ha => h7 a ha)
                  · exact (nR e2.symm).elim
                | ok p ρ6 =>
                  rw [e7] at e2
                  simp only at e2
                  intro Z6 H6 L6 F6 v r6 h6 s6
                  obtain ⟨ro6, nd6, di6⟩ := ro5.aside (L' := []) r5.sl.mut r5.dis nd5 di5 s6 h6.nd
                  cases e8 : give ρ6 p with
                  | none => rw [e8] at e2; exact (nR e2.symm).elim
                  | some y =>
                    obtain ⟨dy, ρ7⟩ := y
                    rw [e8] at e2
                    simp only at e2
                    obtain ⟨Z7, L7, r7, d7, s7⟩ := give_ok r6 h6 e8
                    obtain ⟨mu6, dz6⟩ := h6.mut r6
                    obtain ⟨ro7, nd7, di7⟩ := ro6.aside (L' := []) mu6 dz6 nd6 di6 s7 r7.nd
                    obtain ⟨xs7, hx7, dz7⟩ := ro7.lst_of
                    have nD7 : Da ∉ L7 := (List.nodup_cons.mp nd7).1
                    have nZ7 := di7 Da List.mem_cons_self
                    have mu7 : Mut (H6 Da) := by rw [hx7]; trivial
                    refine ⟨xs7, hx7, by rw [dz7.length]; omega, ?_⟩
                    exact turn (u := .lst (xs7 ++ [v])) (acc5 := acc ++ [dy]) (((s4.trans s5).trans s6).trans s7) (r7.upd mu7 nD7 nZ7) nD7 nZ7 rfl ((dz7.append (.cons d7 .nil)).kp (kp_upd mu7 nZ7)) (by simp; omega) e2
        · have ei : i = ds.length := by omega
          subst ei
          rw [List.drop_length] at e2
          simp only [lcLX] at e2
          rw [← e2] at e
          simp only at e
          refine .inl ⟨w.stop r2 k2, ?_⟩
          have r8 := r2.agree (wipe_agr own).symm hn
          have kp : Kp Z (gx X ca).K H Z2 H2 := s2.kp r.sl.mut r.dis
          obtain ⟨L9, r9, h9⟩ := Rep.rest (ρ0 := ρ) (fun i d e0 => by
            obtain ⟨v, F, q1, q2, _⟩ := r.sl.get e0
            cases q2 with
            | val q2 => exact ⟨v, q1, q2.kp kp⟩) own r8
          exact fin acc _ e.symm Z2 H2 L9 xs r9 hDa dz (fun h => nDL (h9 Da h)) nDZ (s2.sub fun a ha => (List.mem_cons.mp ha).elim (fun q => by rw [q]; exact List.mem_cons_self) fun q => List.mem_cons_of_mem _ (h9 a q))
  · exact (ns e.symm).elim
theorem rd_lcX {T : Tgt} {own : List Nat} {Q : VK} (hT : ∀ i ∈ T.slots, i ∈ own) (q : RdE X ca W (oLcX it T t f own) σ H Q) : tLcX (RdI X ca W it) (tgR X ca T) (RdT X ca WF t) (fun W' => RdE X ca W' f) W own σ H Q := by
  obtain ⟨θ, Z, ρ, L, r, q⟩ := q
  refine ⟨θ, Z, ρ, L, r, ?_⟩
  unfold oLcX at q
  cases e1 : it ρ with
  | stuck => rw [e1] at q; exact q
  | exc c ρ1 => rw [e1] at q; exact q
  | ok x ρ1 =>
    obtain ⟨j, ds⟩ := x
    rw [e1] at q
    simp only [bind_ok] at q
    intro Z1 H1 L1 F J r1 s1 sr hz Da hD
    have done : ∀ {Z' H' L' xs acc ρ2} (θ2 : Nat → V), PoE X ca W θ Z L H σ Q (.ok (.tmp (.lst acc)) ρ2) → Rep θ (gx X ca) Z' H' ρ2 σ L' → H' Da = some (.lst xs) → DzA Z' X.K H' acc xs → Da ∉ L' → ¬ Z' Da → Step Z1 L1 H1 Z' (Da :: L') H' → Q (.ref Da) H' := fun {Z' H' L' xs acc ρ2} θ2 q r2 h2 dz nL nZ s2 =>
      q Z' H' L' [Da] _ r2 (.tmp (.lst h2 dz) (List.nodup_cons.mpr ⟨nL, r2.nd⟩) (fun a ha => by rw [List.mem_singleton] at ha; rw [ha]; exact nZ)) ((s1.sub fun a h => List.mem_append_right _ h).trans s2)
    have donx : ∀ {Z' H' L' k ρ2}, PoE X ca W θ Z L H σ Q (.exc k ρ2) → Rep θ (gx X ca) Z' H' ρ2 σ L' → Step Z1 L1 H1 Z' L' H' → W (.ref (ca k)) none σ H' := fun {Z' H' L' k ρ2} q r2 s2 =>
      q Z' H' L' r2 ((s1.sub fun a h => List.mem_append_right _ h).trans s2)
    unfold lcEX at q
    cases j with
    | none =>
      simp only at q
      obtain ⟨Ok, w, k⟩ := sr.walk (θ := θ)
      generalize e2 : lcWX none T t f own ds ρ1 = R at q
      refine lc_turnsX (W := W) hT w r1 k hz hD e2 (fun z => by rw [z] at q; exact q) (fun k ρF z Z' H' L' r2 s2 => ?_) fun accF ρF z Z' H' L' xs r2 h2 dz nL nZ s2 => ?_
      · rw [z] at q; exact donx q r2 s2
      · rw [z] at q; exact done θ q r2 h2 dz nL nZ s2
    | some j =>
      cases sr with
      | slot e h =>
        rename_i p a
        simp only at q
        rw [e] at q
        cases p with
        | true =>
          simp only at q
          have hθ := r1.pn j _ e
          rw [h] at hθ
          generalize e2 : lcWX (some (j, ds)) T t f own ds ρ1 = R at q
          refine lc_turnsX (W := W) hT (wlk_slot (Option.some.inj (Option.some.inj hθ)).symm) r1 e hz hD e2 (fun z => by rw [z] at q; exact q) (fun k ρF z Z' H' L' r2 s2 => ?_) fun accF ρF z Z' H' L' xs r2 h2 dz nL nZ s2 => ?_
          · rw [z] at q; exact donx q r2 s2
          · rw [z] at q; exact done θ q r2 h2 dz nL nZ s2
        | false =>
          simp only at q
          have r2 := r1.pinOn e h
          have lj := (List.getElem?_eq_some_iff.mp e).1
          generalize e2 : lcWX (some (j, ds)) T t f own ds (ρ1.set j (some (true, .lst ds))) = R at q
          refine lc_turnsX (W := W) hT (wlk_slot (θ := fun i => if i = j then V.ref a else θ i) (by simp)) r2 (by rw [List.getElem?_set_self lj]) hz hD e2 (fun z => by rw [z] at q; exact q) (fun k ρF z Z' H' L' r3 s3 => ?_) fun accF ρF z Z' H' L' xs r3 h3 dz nL nZ s3 => ?_
          · rw [z] at q; exact donx q (r3.unpin fun i hi => by simp [hi]) s3
          · rw [z] at q; exact done θ q (r3.unpin fun i hi => by simp [hi]) h3 dz nL nZ s3
theorem se_lcX {elt tg iter : Expr} {ifs : List Expr} {scope : Scope} {own : List (Str × Nat)} {T : Tgt} {pos : Pos} (hT : ∀ i ∈ T.slots, i ∈ own.map (·.2)) (hc : X.calm = true) (hN : X.N.Nodup) (hst : X.stack = X.env :: X.outer) (hf : X.env.frame = some X.env.locals) (tk : Takes X W) (hi : PI X tg iter (RdI X ca W it)) (ok : BlkOk X.N X.env.scope scope own)
    (hg : ∀ (s : Shared) (H : Hp) (C : Addr) (cl : List (Str × Addr)) (fp : List Addr) (xe : Value → Shared → Prop), PG (bX X s H scope (compEnvC scope cl C X.env) fp xe) tg (tgR (bX X s H scope (compEnvC scope cl C X.env) fp xe) ca T))
    (ht : ∀ (s : Shared) (H : Hp) (C : Addr) (cl : List (Str × Addr)) (fp : List Addr) (xe : Value → Shared → Prop), PTs (bX X s H scope (compEnvC scope cl C X.env) fp xe) ifs (RdT (bX X s H scope (compEnvC scope cl C X.env) fp xe) ca WF t))
    (he : ∀ (s : Shared) (H : Hp) (C : Addr) (cl : List (Str × Addr)) (fp : List Addr) (xe : Value → Shared → Prop) (W' : WX), Takes (bX X s H scope (compEnvC scope cl C X.env) fp xe) W' → PE (bX X s H scope (compEnvC scope cl C X.env) fp xe) elt (RdE (bX X s H scope (compEnvC scope cl C X.env) fp xe) ca W' f)) (hs : ∀ x, foldedSetIterable iter X.env x = pure x) :
    PE X (.ListComp elt [⟨tg, iter, ifs, 0⟩] scope pos) (RdE X ca W (oLcX it T t f (own.map (·.2)))) :=
  PE.imp (pe_lcX hc hN hst hf tk hi ok hg ht he hs) fun σ H Q q => rd_lcX hT q
end
end Eng
/-! The readings of the program's and the laws' defs (printed by wip/gen.py). -/
namespace Eng
open PySem PySem.Spec L2
open PyProof.Rows hiding St
/-- is_stem(text): 0 text 1 sign -/
noncomputable def c_is_stem_1 : ES :=
  oLc (iSeq (oNm 0)) (.nm 1) (tTrue) (o2 inS (oNm 1) (oC (.str "abcdefghijklmnopqrstuvwxyz"))) [1]
noncomputable def b_is_stem : SS :=
  (sRet (oAnd (oChain leS leS (oC (.int 1)) (o1 lenS (oNm 0)) (oC (.int 8))) (o1 allS (c_is_stem_1))))
noncomputable def f_is_stem : FSem := runF 2 b_is_stem
/-- is_number(text): 0 text 1 sign -/
noncomputable def c_is_number_1 : ES :=
  oLc (iSeq (oNm 0)) (.nm 1) (tTrue) (o2 inS (oNm 1) (oC (.str "0123456789"))) [1]
noncomputable def b_is_number : SS :=
  (sSeq (sIf (tOrC (tNotC (tV (oChain leS leS (oC (.int 1)) (o1 lenS (oNm 0)) (oC (.int 2))))) (tNotC (tV (o1 allS (c_is_number_1)))))
    (sRet (oC (.bool false)))
    sNil)
  (sRet (oAnd (o2 neS (o2 ixS (oNm 0) (oC (.int 0))) (oC (.str "0"))) (o2 neS (oNm 0) (oC (.str "1"))))))
noncomputable def f_is_number : FSem := runF 2 b_is_number
/-- is_word(text): 0 text 1 parts -/
noncomputable def b_is_word : SS :=
  (sSeq (sAsg 1 (oM1 splitS (oNm 0) (oC (.str "/"))))
  (sSeq (sIf (tNotC (tV (oCall f_is_stem (oAs [o2 ixS (oNm 1) (oC (.int 0))]))))
    (sRet (oC (.bool false)))
    sNil)
  (sRet (oOr (o2 eqS (o1 lenS (oNm 1)) (oC (.int 1))) (oAnd (o2 eqS (o1 lenS (oNm 1)) (oC (.int 2))) (oCall f_is_number (oAs [o2 ixS (oNm 1) (oC (.int 1))])))))))
noncomputable def f_is_word : FSem := runF 2 b_is_word
/-- _law_mix(_law_cell_here, _law_k): 0 _law_cell_here 1 _law_k 2 _law_by -/
noncomputable def b_l_mix : SS :=
  (sSeq (sAsg 2 (o2 addS (o2 addS (o2 mulS (o2 addS (o2 modS (oNm 0) (o2 powS (oC (.int 10)) (oC (.int 15)))) (oC (.int 1))) (oC (.int 48271))) (o2 mulS (o2 mulS (oNm 1) (oNm 1)) (oC (.int 16807)))) (o2 mulS (oNm 1) (oC (.int 7919)))))
  (sRet (o2 modS (o2 mulS (o2 modS (oNm 2) (oC (.int 2147483647))) (oC (.int 69621))) (oC (.int 2147483629)))))
noncomputable def f_l_mix : FSem := runF 3 b_l_mix
/-- _law_cell(_law_script, _law_k): 0 _law_script 1 _law_k 2 _law_seed -/
noncomputable def b_l_cell : SS :=
  (sSeq (sIf (tV (o2 ltS (oNm 1) (o1 lenS (oNm 0))))
    (sRet (o2 ixS (oNm 0) (oNm 1)))
    sNil)
  (sSeq (sAsg 2 (oC (.int 0)))
  (sSeq (sIf (tV (o2 gtS (o1 lenS (oNm 0)) (oC (.int 0))))
    (sAsg 2 (o2 ixS (oNm 0) (o2 modS (oNm 1) (o1 lenS (oNm 0)))))
    sNil)
  (sRet (o2 addS (o2 mulS (oC (.int 2)) (oCall f_l_mix (oAs [oNm 2, oNm 1]))) (oC (.int 1)))))))
noncomputable def f_l_cell : FSem := runF 3 b_l_cell
/-- _law_drawn(_law_cell_here, _law_many): 0 _law_cell_here 1 _law_many 2 _law_found 3 _law_left 4 _law_k -/
noncomputable def w_l_drawn_1 : SS :=
  (sIf (tV (o2 eqS (o2 modS (oNm 0) (oC (.int 2))) (oC (.int 0))))
      (sSeq (sExpr (oMutA appS 2 (oAs [o2 modS (oNm 3) (oC (.int 64))])))
      (sAsg 3 (o2 fdivS (oNm 3) (oC (.int 64)))))
      (sExpr (oMutA appS 2 (oAs [o2 modS (o2 fdivS (oCall f_l_mix (oAs [oNm 0, oNm 4])) (oC (.int 7))) (oC (.int 4096))]))))
noncomputable def b_l_drawn : SS :=
  (sSeq (sAsg 2 (oLst (oAs [])))
  (sSeq (sAsg 3 (o2 fdivS (oNm 0) (oC (.int 2))))
  (sSeq (sFor (iRng1 (oAs [oNm 1])) (.nm 4) [4]
    w_l_drawn_1)
  (sRet (oNm 2)))))
noncomputable def f_l_drawn : FSem := runF 5 b_l_drawn
/-- _law_name(_law_drawn_here, _law_names_here): 0 _law_drawn_here 1 _law_names_here 2 _law_letters 3 _law_name_here 4 _law_spare 5 _law_stem 6 _law_k 7 _law_one -/
noncomputable def c_l_name_1 : ES :=
  oLc (iRng1 (oAs [o2 addS (oC (.int 1)) (o2 modS (o2 ixS (oNm 0) (oC (.int 0))) (oC (.int 8)))])) (.nm 6) (tTrue) (o2 ixS (oNm 2) (o2 modS (o2 ixS (oNm 0) (o2 addS (oC (.int 4)) (oNm 6))) (oC (.int 26)))) [6]
noncomputable def c_l_name_2 : ES :=
  oLc (iRng1 (oAs [oC (.int 40)])) (.nm 6) (tTrue) (o2 addS (o2 ixS (oNm 2) (o2 fdivS (oNm 6) (oC (.int 26)))) (o2 ixS (oNm 2) (o2 modS (oNm 6) (oC (.int 26))))) [6]
noncomputable def c_l_name_3 : ES :=
  oLc (iSeq (oNm 4)) (.nm 7) (tV (o2 notinS (oNm 7) (oNm 1))) (oNm 7) [7]
noncomputable def b_l_name : SS :=
  (sSeq (sAsg 2 (oC (.str "abcdefghijklmnopqrstuvwxyz")))
  (sSeq (sAsg 3 (oM1 joinS (oC (.str "")) (c_l_name_1)))
  (sSeq (sIf (tV (o2 gtS (o1 lenS (oNm 1)) (oC (.int 0))))
    (sSeq (sAsg 5 (o2 ixS (oM1 splitS (o2 ixS (oNm 1) (o2 modS (o2 ixS (oNm 0) (oC (.int 1))) (o1 lenS (oNm 1)))) (oC (.str "/"))) (oC (.int 0))))
    (sSeq (sIf (tV (o2 eqS (o2 modS (o2 ixS (oNm 0) (oC (.int 2))) (oC (.int 4))) (oC (.int 1))))
      (sAsg 3 (oSl (o2 addS (oNm 5) (oNm 3)) oNoPart (oPart (oC (.int 8)))))
      sNil)
    (sIf (tV (o2 eqS (o2 modS (o2 ixS (oNm 0) (oC (.int 2))) (oC (.int 4))) (oC (.int 2))))
      (sAsg 3 (o2 addS (o2 addS (oNm 5) (oC (.str "/"))) (o1 strS (o2 addS (oC (.int 2)) (o2 modS (o2 ixS (oNm 0) (oC (.int 3))) (oC (.int 98)))))))
      sNil)))
    sNil)
  (sSeq (sAsg 4 (o2 addS (oLst (oAs [oNm 3])) (c_l_name_2)))
  (sRet (o2 ixS (c_l_name_3) (oC (.int 0))))))))
noncomputable def f_l_name : FSem := runF 8 b_l_name
/-- _law_names(_law_script, _law_base, _law_many): 0 _law_script 1 _law_base 2 _law_many 3 _law_names_here 4 _law_k -/
noncomputable def w_l_names_1 : SS :=
  (sExpr (oMutA appS 3 (oAs [oCall f_l_name (oAs [oCall f_l_drawn (oAs [oCall f_l_cell (oAs [oNm 0, o2 addS (oNm 1) (oNm 4)]), oC (.int 12)]), oNm 3])])))
noncomputable def b_l_names : SS :=
  (sSeq (sAsg 3 (oLst (oAs [])))
  (sSeq (sFor (iRng1 (oAs [oNm 2])) (.nm 4) [4]
    w_l_names_1)
  (sRet (oNm 3))))
noncomputable def f_l_names : FSem := runF 5 b_l_names
/-- _law_told(_law_drawn_here, _law_names_here): 0 _law_drawn_here 1 _law_names_here 2 _law_top 3 _law_told_here 4 _law_k 5 _law_one -/
noncomputable def w_l_told_1 : SS :=
  (sSeq (sAsg 5 (o2 ixS (oNm 1) (o2 modS (o2 ixS (oNm 0) (o2 addS (oC (.int 3)) (oNm 4))) (oNm 2))))
    (sIf (tV (o2 notinS (oNm 5) (oNm 3)))
      (sExpr (oMutA appS 3 (oAs [oNm 5])))
      sNil))
noncomputable def b_l_told : SS :=
  (sSeq (sAsg 2 (o1 lenS (oNm 1)))
  (sSeq (sIf (tAndC (tV (o2 gtS (o2 modS (o2 ixS (oNm 0) (oC (.int 2))) (oC (.int 3))) (oC (.int 0)))) (tV (o2 gtS (o2 modS (o2 ixS (oNm 0) (oC (.int 0))) (o1 lenS (oNm 1))) (oC (.int 0)))))
    (sAsg 2 (o2 modS (o2 ixS (oNm 0) (oC (.int 0))) (o1 lenS (oNm 1))))
    sNil)
  (sSeq (sAsg 3 (oLst (oAs [])))
  (sSeq (sFor (iRng1 (oAs [o2 ixS (oLst (oAs [oC (.int 0), oC (.int 0), oC (.int 1), oC (.int 1), oC (.int 1), oC (.int 2), oC (.int 2), oC (.int 2), oC (.int 3), oC (.int 8)])) (o2 modS (o2 ixS (oNm 0) (oC (.int 1))) (oC (.int 10)))])) (.nm 4) [4, 5]
    w_l_told_1)
  (sRet (o1 tupleS (oNm 3)))))))
noncomputable def f_l_told : FSem := runF 6 b_l_told
/-- _law_book(_law_script, _law_base, _law_names_here, _law_many): 0 _law_script 1 _law_base 2 _law_names_here 3 _law_many 4 _law_rows 5 _law_met 6 _law_k 7 _law_drawn_here 8 _law_row 9 _law_key -/
noncomputable def w_l_book_1 : SS :=
  (sSeq (sAsg 7 (oCall f_l_drawn (oAs [oCall f_l_cell (oAs [oNm 0, o2 addS (oNm 1) (oNm 6)]), oC (.int 11)])))
    (sSeq (sAsg 8 (oTup (oAs [o2 ixS (oNm 2) (o2 modS (o2 ixS (oNm 7) (oC (.int 0))) (o1 lenS (oNm 2))), oCall f_l_told (oAs [oNm 7, oNm 2])])))
    (sSeq (sAsg 9 (oTup (oAs [o2 ixS (oNm 8) (oC (.int 0)), o1 tupleS (o1 sortS (o2 ixS (oNm 8) (oC (.int 1))))])))
    (sIf (tV (o2 notinS (oNm 9) (oNm 5)))
      (sSeq (sPut 5 (oNm 9) (oC (.bool true)))
      (sExpr (oMutA appS 4 (oAs [oNm 8]))))
      sNil))))
noncomputable def b_l_book : SS :=
  (sSeq (sAsg 4 (oLst (oAs [])))
  (sSeq (sAsg 5 (oDic0))
  (sSeq (sFor (iRng1 (oAs [oNm 3])) (.nm 6) [6, 7, 8, 9]
    w_l_book_1)
  (sRet (o1 tupleS (oNm 4))))))
noncomputable def f_l_book : FSem := runF 10 b_l_book
/-- _law_made(_law_script): 0 _law_script 1 _law_drawn_here 2 _law_names_here -/
noncomputable def b_l_made : SS :=
  (sSeq (sAsg 1 (oCall f_l_drawn (oAs [oCall f_l_cell (oAs [oNm 0, oC (.int 0)]), oC (.int 4)])))
  (sSeq (sAsg 2 (oCall f_l_names (oAs [oNm 0, oC (.int 1), o2 addS (oC (.int 1)) (o2 modS (o2 ixS (oNm 1) (oC (.int 0))) (oC (.int 14)))])))
  (sRet (oCall f_l_book (oAs [oNm 0, oC (.int 20), oNm 2, o2 modS (o2 ixS (oNm 1) (oC (.int 1))) (oC (.int 41))])))))
noncomputable def f_l_made : FSem := runF 3 b_l_made
/-- is_row(word, told): 0 word 1 told 2 one -/
noncomputable def c_is_row_1 : ES :=
  oLc (iSeq (oNm 1)) (.nm 2) (tTrue) (oCall f_is_word (oAs [oNm 2])) [2]
noncomputable def b_is_row : SS :=
  (sSeq (sIf (tOrC (tNotC (tV (oCall f_is_word (oAs [oNm 0])))) (tOrC (tV (o2 gtS (o1 lenS (oNm 1)) (oC (.int 8)))) (tV (o2 ltS (o1 lenS (o1 setC (oNm 1))) (o1 lenS (oNm 1))))))
    (sRet (oC (.bool false)))
    sNil)
  (sRet (o1 allS (c_is_row_1))))
noncomputable def f_is_row : FSem := runF 3 b_is_row
/-- fits(book): 0 book 1 seen 2 word 3 told 4 key -/
noncomputable def w_fits_1 : SS :=
  (sSeq (sAsg 4 (oTup (oAs [oNm 2, o1 tupleS (o1 sortS (oNm 3))])))
    (sSeq (sIf (tOrC (tNotC (tV (oCall f_is_row (oAs [oNm 2, oNm 3])))) (tV (o2 inS (oNm 4) (oNm 1))))
      (sRet (oC (.bool false)))
      sNil)
    (sPut 1 (oNm 4) (oC (.bool true)))))
noncomputable def b_fits : SS :=
  (sSeq (sIf (tV (o2 gtS (o1 lenS (oNm 0)) (oC (.int 60))))
    (sRet (oC (.bool false)))
    sNil)
  (sSeq (sAsg 1 (oDic0))
  (sSeq (sFor (iSeq (oNm 0)) (.tup [2, 3]) [2, 3, 4]
    w_fits_1)
  (sRet (oC (.bool true))))))
noncomputable def f_fits : FSem := runF 5 b_fits
/-- fitted(book): 0 book -/
noncomputable def b_fitted : SS :=
  (sSeq (sIf (tNotC (tV (oCall f_fits (oAs [oNm 0]))))
    (sRaise 2)
    sNil)
  (sRet (oNm 0)))
noncomputable def f_fitted : FSem := runF 1 b_fitted
/-- _law_is_word(_law_text): 0 _law_text 1 _law_stem 2 _law_tail 3 _law_sign 4 _law_number -/
noncomputable def c_l_is_word_1 : ES :=
  oLc (iRng2 (oAs [oC (.int 2), oC (.int 100)])) (.nm 4) (tTrue) (o2 addS (oC (.str "/")) (o1 strS (oNm 4))) [4]
noncomputable def c_l_is_word_2 : ES :=
  oLc (iSeq (oNm 1)) (.nm 3) (tTrue) (oChain leS leS (oC (.str "a")) (oNm 3) (oC (.str "z"))) [3]
noncomputable def b_l_is_word : SS :=
  (sSeq (sAsg 1 (o2 ixS (oM1 splitS (oNm 0) (oC (.str "/"))) (oC (.int 0))))
  (sSeq (sAsg 2 (oSl (oNm 0) (oPart (o1 lenS (oNm 1))) oNoPart))
  (sSeq (sIf (tOrC (tV (o2 ltS (o1 lenS (oNm 1)) (oC (.int 1)))) (tV (o2 gtS (o1 lenS (oNm 1)) (oC (.int 8)))))
    (sRet (oC (.bool false)))
    sNil)
  (sSeq (sIf (tAndC (tV (o2 neS (oNm 2) (oC (.str "")))) (tV (o2 notinS (oNm 2) (c_l_is_word_1))))
    (sRet (oC (.bool false)))
    sNil)
  (sRet (o1 allS (c_l_is_word_2)))))))
noncomputable def f_l_is_word : FSem := runF 5 b_l_is_word
/-- _law_fit(_law_book_here): 0 _law_book_here 1 _law_seen 2 _law_word 3 _law_told_here 4 _law_key 5 _law_one -/
noncomputable def c_l_fit_1 : ES :=
  oLc (iSeq (o2 addS (oTup (oAs [oNm 2])) (oNm 3))) (.nm 5) (tTrue) (oCall f_l_is_word (oAs [oNm 5])) [5]
noncomputable def w_l_fit_1 : SS :=
  (sSeq (sAsg 4 (oTup (oAs [oNm 2, o1 sortS (oNm 3)])))
    (sSeq (sIf (tOrC (tV (o2 inS (oNm 4) (oNm 1))) (tOrC (tV (o2 gtS (o1 lenS (oNm 3)) (oC (.int 8)))) (tV (o2 neS (o1 lenS (o1 setC (oNm 3))) (o1 lenS (oNm 3))))))
      (sRet (oC (.bool false)))
      sNil)
    (sSeq (sIf (tNotC (tV (o1 allS (c_l_fit_1))))
      (sRet (oC (.bool false)))
      sNil)
    (sExpr (oMutA appS 1 (oAs [oNm 4]))))))
noncomputable def b_l_fit : SS :=
  (sSeq (sAsg 1 (oLst (oAs [])))
  (sSeq (sFor (iSeq (oNm 0)) (.tup [2, 3]) [2, 3, 4]
    w_l_fit_1)
  (sRet (o2 leS (o1 lenS (oNm 0)) (oC (.int 60))))))
noncomputable def f_l_fit : FSem := runF 6 b_l_fit
/-- _law_only(_law_kinds_here, _law_place): 0 _law_kinds_here 1 _law_place 2 _law_k -/
noncomputable def c_l_only_1 : ES :=
  oLc (iRng1 (oAs [oC (.int 10)])) (.nm 2) (tTrue) (oOr (o2 ltS (oNm 2) (oC (.int 2))) (o2 eqS (oNm 2) (oNm 1))) [2]
noncomputable def b_l_only : SS :=
  (sRet (o2 eqS (oNm 0) (c_l_only_1)))
noncomputable def f_l_only : FSem := runF 3 b_l_only
/-- read_row(text): 0 text 1 words 2 word -/
noncomputable def c_read_row_1 : ES :=
  oLc (iSeq (oSl (oNm 1) (oPart (oC (.int 2))) oNoPart)) (.nm 2) (tTrue) (oCall f_is_word (oAs [oNm 2])) [2]
noncomputable def b_read_row : SS :=
  (sSeq (sAsg 1 (oM1 splitS (oNm 0) (oC (.str " "))))
  (sSeq (sIf (tOrC (tV (o2 ltS (o1 lenS (oNm 1)) (oC (.int 3)))) (tOrC (tV (o2 neS (o2 ixS (oNm 1) (oC (.int 1))) (oC (.str "=")))) (tNotC (tV (oCall f_is_word (oAs [o2 ixS (oNm 1) (oC (.int 0))]))))))
    (sRaise 1)
    sNil)
  (sSeq (sIf (tV (o2 eqS (oSl (oNm 1) (oPart (oC (.int 2))) oNoPart) (oLst (oAs [oC (.str "*")]))))
    (sRet (oTup (oAs [o2 ixS (oNm 1) (oC (.int 0)), oTup (oAs [])])))
    sNil)
  (sSeq (sIf (tNotC (tV (o1 allS (c_read_row_1))))
    (sRaise 1)
    sNil)
  (sRet (oTup (oAs [o2 ixS (oNm 1) (oC (.int 0)), o1 tupleS (oSl (oNm 1) (oPart (oC (.int 2))) oNoPart)])))))))
noncomputable def f_read_row : FSem := runF 3 b_read_row
/-- _law_is_word(_law_text_here): 0 _law_text_here 1 _law_stem 2 _law_tail 3 _law_sign 4 _law_number -/
noncomputable def c_l_is_word_2_1 : ES :=
  oLc (iRng2 (oAs [oC (.int 2), oC (.int 100)])) (.nm 4) (tTrue) (o2 addS (oC (.str "/")) (o1 strS (oNm 4))) [4]
noncomputable def c_l_is_word_2_2 : ES :=
  oLc (iSeq (oNm 1)) (.nm 3) (tTrue) (oChain leS leS (oC (.str "a")) (oNm 3) (oC (.str "z"))) [3]
noncomputable def b_l_is_word_2 : SS :=
  (sSeq (sAsg 1 (o2 ixS (oM1 splitS (oNm 0) (oC (.str "/"))) (oC (.int 0))))
  (sSeq (sAsg 2 (oSl (oNm 0) (oPart (o1 lenS (oNm 1))) oNoPart))
  (sSeq (sIf (tOrC (tV (o2 ltS (o1 lenS (oNm 1)) (oC (.int 1)))) (tV (o2 gtS (o1 lenS (oNm 1)) (oC (.int 8)))))
    (sRet (oC (.bool false)))
    sNil)
  (sSeq (sIf (tAndC (tV (o2 neS (oNm 2) (oC (.str "")))) (tV (o2 notinS (oNm 2) (c_l_is_word_2_1))))
    (sRet (oC (.bool false)))
    sNil)
  (sRet (o1 allS (c_l_is_word_2_2)))))))
noncomputable def f_l_is_word_2 : FSem := runF 5 b_l_is_word_2
/-- _law_fit(_law_book_here): 0 _law_book_here 1 _law_seen 2 _law_word 3 _law_told_here 4 _law_key 5 _law_one -/
noncomputable def c_l_fit_2_1 : ES :=
  oLc (iSeq (o2 addS (oTup (oAs [oNm 2])) (oNm 3))) (.nm 5) (tTrue) (oCall f_l_is_word_2 (oAs [oNm 5])) [5]
noncomputable def w_l_fit_2_1 : SS :=
  (sSeq (sAsg 4 (oTup (oAs [oNm 2, o1 sortS (oNm 3)])))
    (sSeq (sIf (tOrC (tV (o2 inS (oNm 4) (oNm 1))) (tOrC (tV (o2 gtS (o1 lenS (oNm 3)) (oC (.int 8)))) (tV (o2 neS (o1 lenS (o1 setC (oNm 3))) (o1 lenS (oNm 3))))))
      (sRet (oC (.bool false)))
      sNil)
    (sSeq (sIf (tNotC (tV (o1 allS (c_l_fit_2_1))))
      (sRet (oC (.bool false)))
      sNil)
    (sExpr (oMutA appS 1 (oAs [oNm 4]))))))
noncomputable def b_l_fit_2 : SS :=
  (sSeq (sAsg 1 (oLst (oAs [])))
  (sSeq (sFor (iSeq (oNm 0)) (.tup [2, 3]) [2, 3, 4]
    w_l_fit_2_1)
  (sRet (o2 leS (o1 lenS (oNm 0)) (oC (.int 60))))))
noncomputable def f_l_fit_2 : FSem := runF 6 b_l_fit_2
/-- _law_text(_law_book_here): 0 _law_book_here 1 _law_rows 2 _law_word 3 _law_told_here -/
noncomputable def w_l_text_2_1 : SS :=
  (sExpr (oMutA appS 1 (oAs [o2 addS (o2 addS (oNm 2) (oC (.str " = "))) (oM1 joinS (oC (.str " ")) (o2 addS (o1 listS (oNm 3)) (o2 repS (oLst (oAs [oC (.str "*")])) (o1 intS' (o2 eqS (oNm 3) (oTup (oAs [])))))))])))
noncomputable def b_l_text_2 : SS :=
  (sSeq (sAsg 1 (oLst (oAs [])))
  (sSeq (sFor (iSeq (oNm 0)) (.tup [2, 3]) [2, 3]
    w_l_text_2_1)
  (sRet (oM1 joinS (oC (.str "\n")) (oNm 1)))))
noncomputable def f_l_text_2 : FSem := runF 4 b_l_text_2
/-- _law_read(_law_text_here): 0 _law_text_here 1 _law_rows 2 _law_row 3 _law_words 4 _law_told_here 5 _law_one -/
noncomputable def c_l_read_1 : ES :=
  oLc (iSeq (oNm 4)) (.nm 5) (tTrue) (oCall f_l_is_word_2 (oAs [oNm 5])) [5]
noncomputable def w_l_read_1 : SS :=
  (sSeq (sAsg 3 (oM1 splitS (oNm 2) (oC (.str " "))))
    (sSeq (sIf (tOrC (tV (o2 ltS (o1 lenS (oNm 3)) (oC (.int 3)))) (tOrC (tV (o2 neS (o2 ixS (oNm 3) (oC (.int 1))) (oC (.str "=")))) (tNotC (tV (oCall f_l_is_word_2 (oAs [o2 ixS (oNm 3) (oC (.int 0))]))))))
      (sRet (oC .none))
      sNil)
    (sSeq (sAsg 4 (o1 tupleS (oSl (oNm 3) (oPart (oC (.int 2))) oNoPart)))
    (sSeq (sIf (tV (o2 eqS (oNm 4) (oTup (oAs [oC (.str "*")]))))
      (sAsg 4 (oTup (oAs [])))
      sNil)
    (sSeq (sIf (tNotC (tV (o1 allS (c_l_read_1))))
      (sRet (oC .none))
      sNil)
    (sExpr (oMutA appS 1 (oAs [oTup (oAs [o2 ixS (oNm 3) (oC (.int 0)), oNm 4])]))))))))
noncomputable def b_l_read : SS :=
  (sSeq (sAsg 1 (oLst (oAs [])))
  (sSeq (sFor (iSeq (oM1 splitS (oNm 0) (oC (.str "\n")))) (.nm 2) [2, 3, 4]
    w_l_read_1)
  (sRet (o1 tupleS (oNm 1)))))
noncomputable def f_l_read : FSem := runF 6 b_l_read
/-- _law_bent_words(_law_drawn_here, _law_words): 0 _law_drawn_here 1 _law_words 2 _law_at 3 _law_some 4 _law_way 5 _law_word -/
noncomputable def b_l_bent_words : SS :=
  (sSeq (sAsg 2 (o2 modS (o2 ixS (oNm 0) (oC (.int 2))) (o1 lenS (oNm 1))))
  (sSeq (sAsg 3 (oLst (oAs [oC (.str "*"), oC (.str "="), oC (.str ""), oC (.str "a"), oC (.str "bank/2"), oC (.str "bank/1"), oC (.str "Bank"), oC (.str "abcdefghi"), oC (.str "a/100"), oC (.str "a/"), oC (.str "/3"), oC (.str "=="), oC (.str "a=")])))
  (sSeq (sAsg 3 (o2 addS (oNm 3) (oLst (oAs [oC (.str "**"), oC (.str "a/02")]))))
  (sSeq (sAsg 3 (o2 addS (oNm 3) (oLst (oAs [oC (.str "-"), oC (.str "none"), oC (.str "a.b"), oC (.str "7"), oC (.str "a/2/2")]))))
  (sSeq (sAsg 4 (o2 modS (o2 ixS (oNm 0) (oC (.int 1))) (oC (.int 4))))
  (sSeq (sIf (tV (o2 eqS (oNm 4) (oC (.int 0))))
    (sRet (o2 addS (oSl (oNm 1) oNoPart (oPart (oNm 2))) (oSl (oNm 1) (oPart (o2 addS (oNm 2) (oC (.int 1)))) oNoPart)))
    sNil)
  (sSeq (sIf (tV (o2 eqS (oNm 4) (oC (.int 1))))
    (sRet (o2 addS (o2 addS (oSl (oNm 1) oNoPart (oPart (oNm 2))) (oLst (oAs [o2 ixS (oNm 1) (oNm 2)]))) (oSl (oNm 1) (oPart (oNm 2)) oNoPart)))
    sNil)
  (sSeq (sAsg 5 (o2 ixS (oNm 3) (o2 modS (o2 ixS (oNm 0) (oC (.int 3))) (o1 lenS (oNm 3)))))
  (sRet (o2 addS (o2 addS (oSl (oNm 1) oNoPart (oPart (oNm 2))) (oLst (oAs [oNm 5]))) (oSl (oNm 1) (oPart (o2 subS (o2 addS (oNm 2) (oC (.int 1))) (o2 modS (oNm 4) (oC (.int 2))))) oNoPart)))))))))))
noncomputable def f_l_bent_words : FSem := runF 6 b_l_bent_words
/-- _law_due(_law_text_here): 0 _law_text_here -/
noncomputable def b_l_due : SS :=
  (sSeq (sIf (tV (o2 eqS (oNm 0) (oC (.str ""))))
    (sRet (oTup (oAs [])))
    sNil)
  (sRet (oCall f_l_read (oAs [oNm 0]))))
noncomputable def f_l_due : FSem := runF 1 b_l_due
end Eng
/-! The readings of the program's and the laws' defs (printed by wip/gen.py). -/
namespace Eng
open PySem PySem.Spec L2
open PyProof.Rows hiding St
end Eng
/-! The readings of the program's and the laws' defs (printed by wip/gen.py). -/
namespace Eng
open PySem PySem.Spec L2
open PyProof.Rows hiding St
/-- _law_kinds(_law_e): 0 _law_e -/
noncomputable def b_l_kinds_3 : SS :=
  (sRet (oLst (oAs [o1 (isxS [0, 1, 2, 3, 4, 5, 6, 7, 8] 0) (oNm 0), o1 (isvS [0, 1, 2, 3, 4, 5, 6, 7, 8]) (oNm 0), o1 (isxS [0, 1, 2, 3, 4, 5, 6, 7, 8] 1) (oNm 0), o1 (isxS [0, 1, 2, 3, 4, 5, 6, 7, 8] 2) (oNm 0), o1 (isxS [0, 1, 2, 3, 4, 5, 6, 7, 8] 3) (oNm 0), o1 (isxS [0, 1, 2, 3, 4, 5, 6, 7, 8] 4) (oNm 0), o1 (isxS [0, 1, 2, 3, 4, 5, 6, 7, 8] 5) (oNm 0), o1 (isxS [0, 1, 2, 3, 4, 5, 6, 7, 8] 6) (oNm 0), o1 (isxS [0, 1, 2, 3, 4, 5, 6, 7, 8] 7) (oNm 0), o1 (isxS [0, 1, 2, 3, 4, 5, 6, 7, 8] 8) (oNm 0)])))
noncomputable def f_l_kinds_3 : FSem := runF 1 b_l_kinds_3
end Eng
/-! The readings of the program's and the laws' defs (printed by wip/gen.py). -/
namespace Eng
open PySem PySem.Spec L2
open PyProof.Rows hiding St
end Eng
/-! The readings of the program's and the laws' defs (printed by wip/gen.py). -/
namespace Eng
open PySem PySem.Spec L2
open PyProof.Rows hiding St
end Eng
/-! The readings of the program's and the laws' defs (printed by wip/gen.py). -/
namespace Eng
open PySem PySem.Spec L2
open PyProof.Rows hiding St
end Eng
/-! The readings of the program's and the laws' defs (printed by wip/gen.py). -/
namespace Eng
open PySem PySem.Spec L2
open PyProof.Rows hiding St
end Eng
/-! The readings of the program's and the laws' defs (printed by wip/gen.py). -/
namespace Eng
open PySem PySem.Spec L2
open PyProof.Rows hiding St
/-- _law_bent(_law_drawn_here, _law_text_here): 0 _law_drawn_here 1 _law_text_here 2 _law_rows 3 _law_at 4 _law_way 5 _law_place 6 _law_sign 7 _law_rest 8 _law_signs 9 _law_k 10 _law_words -/
noncomputable def w_l_bent_1 : SS :=
  (sExpr (oMutA appS 2 (oAs [o2 addS (o2 addS (o2 addS (oC (.str "zz")) (o2 ixS (oNm 8) (o2 fdivS (oNm 9) (oC (.int 8))))) (o2 ixS (oNm 8) (o2 modS (oNm 9) (oC (.int 8))))) (oC (.str " = *"))])))
noncomputable def b_l_bent : SS :=
  (sSeq (sAsg 2 (oM1 splitS (oNm 1) (oC (.str "\n"))))
  (sSeq (sAsg 3 (o2 modS (o2 fdivS (o2 ixS (oNm 0) (oC (.int 1))) (oC (.int 4))) (o1 lenS (oNm 2))))
  (sSeq (sAsg 4 (o2 modS (o2 ixS (oNm 0) (oC (.int 0))) (oC (.int 11))))
  (sSeq (sIf (tV (o2 eqS (oNm 4) (oC (.int 9))))
    (sRet (oM1 joinS (oC (.str "\n")) (o2 addS (o2 addS (oSl (oNm 2) oNoPart (oPart (oNm 3))) (oLst (oAs [oC (.str "q = a b c d e f g h i")]))) (oSl (oNm 2) (oPart (oNm 3)) oNoPart))))
    sNil)
  (sSeq (sIf (tV (o2 eqS (oNm 4) (oC (.int 10))))
    (sSeq (sAsg 8 (oC (.str "abcdefgh")))
    (sSeq (sFor (iRng1 (oAs [o2 subS (oC (.int 61)) (o1 lenS (oNm 2))])) (.nm 9) [9]
      w_l_bent_1)
    (sRet (oM1 joinS (oC (.str "\n")) (oNm 2)))))
    sNil)
  (sSeq (sIf (tV (o2 eqS (oNm 4) (oC (.int 0))))
    (sRet (oM1 joinS (oC (.str "\n")) (o2 addS (oSl (oNm 2) oNoPart (oPart (oNm 3))) (oSl (oNm 2) (oPart (o2 addS (oNm 3) (oC (.int 1)))) oNoPart))))
    sNil)
  (sSeq (sIf (tV (o2 eqS (oNm 4) (oC (.int 1))))
    (sRet (oM1 joinS (oC (.str "\n")) (o2 addS (oNm 2) (oLst (oAs [o2 ixS (oNm 2) (oNm 3)])))))
    sNil)
  (sSeq (sIf (tV (o2 eqS (oNm 4) (oC (.int 2))))
    (sSeq (sAsg 10 (oM1 splitS (o2 ixS (oNm 2) (oNm 3)) (oC (.str " "))))
    (sRet (oM1 joinS (oC (.str "\n")) (o2 addS (oLst (oAs [oM1 joinS (oC (.str " ")) (o2 addS (oSl (oNm 10) oNoPart (oPart (oC (.int 2)))) (o1 downO (oNm 10)))])) (oNm 2)))))
    sNil)
  (sSeq (sIf (tV (o2 eqS (oNm 4) (oC (.int 3))))
    (sRet (oM1 joinS (oC (.str "\n")) (o2 addS (oSl (oNm 2) (oPart (oNm 3)) oNoPart) (oSl (oNm 2) oNoPart (oPart (oNm 3))))))
    sNil)
  (sSeq (sIf (tV (o2 ltS (oNm 4) (oC (.int 7))))
    (sSeq (sAsg 10 (oCall f_l_bent_words (oAs [oNm 0, oM1 splitS (o2 ixS (oNm 2) (oNm 3)) (oC (.str " "))])))
    (sRet (oM1 joinS (oC (.str "\n")) (o2 addS (o2 addS (oSl (oNm 2) oNoPart (oPart (oNm 3))) (oLst (oAs [oM1 joinS (oC (.str " ")) (oNm 10)]))) (oSl (oNm 2) (oPart (o2 addS (oNm 3) (oC (.int 1)))) oNoPart)))))
    sNil)
  (sSeq (sAsg 5 (o2 modS (o2 addS (o2 mulS (o2 ixS (oNm 0) (oC (.int 2))) (oC (.int 64))) (o2 ixS (oNm 0) (oC (.int 3)))) (o2 addS (o1 lenS (oNm 1)) (oC (.int 1)))))
  (sSeq (sAsg 6 (o2 ixS (oC (.str " \n=*/aZ29-")) (o2 modS (o2 ixS (oNm 0) (oC (.int 1))) (oC (.int 10)))))
  (sSeq (sIf (tV (o2 eqS (o2 modS (o2 ixS (oNm 0) (oC (.int 4))) (oC (.int 3))) (oC (.int 0))))
    (sAsg 6 (oC (.str "")))
    sNil)
  (sSeq (sAsg 7 (oSl (oNm 1) (oPart (o2 addS (oNm 5) (o2 modS (o2 ixS (oNm 0) (oC (.int 4))) (oC (.int 2))))) oNoPart))
  (sRet (o2 addS (o2 addS (oSl (oNm 1) oNoPart (oPart (oNm 5))) (oNm 6)) (oNm 7)))))))))))))))))
noncomputable def f_l_bent : FSem := runF 11 b_l_bent
end Eng
/-! The readings of the program's and the laws' defs (printed by wip/gen.py). -/
namespace Eng
open PySem PySem.Spec L2
open PyProof.Rows hiding St
/-- read(text): 0 text 1 row -/
noncomputable def c_read_2_1 : ES :=
  oLcX (iSeq (oM1 splitS (oNm 0) (oC (.str "\n")))) (.nm 1) (tTrue) (oCall f_read_row (oAs [oNm 1])) [1]
noncomputable def b_read_2 : SS :=
  (sSeq (sIf (tNotC (tV (o1 (isiS "str") (oNm 0))))
    (sRaise 1)
    sNil)
  (sSeq (sIf (tV (o2 eqS (oNm 0) (oC (.str ""))))
    (sRet (oTup (oAs [])))
    sNil)
  (sRet (oCall f_fitted (oAs [o1 tupleS (c_read_2_1)])))))
noncomputable def f_read_2 : FSem := runF 2 b_read_2
/-- _law_right(_law_thing, _law_due_here): 0 _law_thing 1 _law_due_here 2 _law_kinds_here 3 _law_found 4 _law_e -/
noncomputable def b_l_right_13 : SS :=
  (sSeq (sAsg 2 (oLst (oAs [])))
  (sSeq (sAsg 3 (oC .none))
  (sSeq (sTry [0, 1, 2, 3, 4, 5, 6, 7, 8] 0 4
    (sAsg 3 (oCall f_read_2 (oAs [oNm 0])))
    (sAsg 2 (oCall f_l_kinds_3 (oAs [oNm 4]))))
  (sSeq (sIf (tV (o2 isS (oNm 1) (oC .none)))
    (sRet (oCall f_l_only (oAs [oNm 2, oC (.int 2)])))
    sNil)
  (sSeq (sIf (tNotC (tV (oCall f_l_fit_2 (oAs [oNm 1]))))
    (sRet (oCall f_l_only (oAs [oNm 2, oC (.int 3)])))
    sNil)
  (sRet (oAnd (o2 eqS (oNm 2) (oLst (oAs []))) (o2 eqS (o1 reprS (oNm 3)) (o1 reprS (oNm 1))))))))))
noncomputable def f_l_right_13 : FSem := runF 5 b_l_right_13
/-- law(_law_script): 0 _law_script 1 _law_book_here 2 _law_text_here 3 _law_k 4 _law_thing 5 _law_bits 6 _law_bent_here -/
noncomputable def w_law_79_1 : SS :=
  (sSeq (sAsg 5 (oCall f_l_drawn (oAs [oCall f_l_cell (oAs [oNm 0, o2 addS (oC (.int 41)) (oNm 3)]), oC (.int 21)])))
    (sSeq (sAsg 6 (oCall f_l_bent (oAs [oSl (oNm 5) (oPart (oC (.int 11))) (oPart (oC (.int 16))), oNm 2])))
    (sSeq (sIf (tV (o2 eqS (o2 modS (oNm 3) (oC (.int 2))) (oC (.int 1))))
      (sAsg 6 (oCall f_l_bent (oAs [oSl (oNm 5) (oPart (oC (.int 16))) oNoPart, oNm 6])))
      sNil)
    (sIf (tOrC (tNotC (tV (oCall f_l_right_13 (oAs [oNm 6, oCall f_l_due (oAs [oNm 6])])))) (tNotC (tV (oCall f_l_right_13 (oAs [oNm 2, oNm 1])))))
      (sRet (oC (.bool false)))
      sNil))))
noncomputable def w_law_79_2 : SS :=
  (sIf (tNotC (tV (oCall f_l_right_13 (oAs [oNm 4, oC .none]))))
      (sRet (oC (.bool false)))
      sNil)
noncomputable def b_law_79 : SS :=
  (sSeq (sAsg 1 (oCall f_l_made (oAs [oNm 0])))
  (sSeq (sAsg 2 (oCall f_l_text_2 (oAs [oNm 1])))
  (sSeq (sFor (iRng1 (oAs [oC (.int 18)])) (.nm 3) [3, 5, 6]
    w_law_79_1)
  (sSeq (sFor (iSeq (oLst (oAs [oC .none, oC (.int 7), oC (.bool true), oTup (oAs []), oLst (oAs []), oTup (oAs [oC (.str "a = *")]), oLst (oAs [oNm 2]), o1 negS (oC (.int 1))]))) (.nm 4) [4]
    w_law_79_2)
  (sRet (oC (.bool true)))))))
noncomputable def f_law_79 : FSem := runF 7 b_law_79
end Eng
/-! The readings evaluated: one equation a combinator. -/
namespace Eng
open PySem PySem.Spec L2
open PyProof.Rows hiding St

section
variable {ρ : En} {f g h : ES} {fs : List ES} {b c : SS} {t u : TS'} {i : Nat} {o : O} {d : D} {p q : Opd} {sem sem2 : O → O → Option O} {s1 : O → Option O}
@[simp] theorem slotO_zero (p : Bool) (o : O) : slotO (some (p, o) :: ρ) 0 = some o := rfl
@[simp] theorem slotO_zero' : slotO (none :: ρ) 0 = none := rfl
@[simp] theorem slotO_succ (x : Sl) : slotO (x :: ρ) (i + 1) = slotO ρ i := by simp [slotO]
@[simp] theorem look_tmp : look ρ (.tmp o) = some o := rfl
@[simp] theorem look_nm : look ρ (.nm i) = slotO ρ i := rfl
@[simp] theorem put_some : put ρ (some o) = .ok (.tmp o) ρ := rfl
@[simp] theorem put_none : put ρ none = .stuck := rfl
@[simp] theorem oNm_ap : oNm i ρ = match slotO ρ i with | some _ => .ok (.nm i) ρ | none => .stuck := rfl
@[simp] theorem oC_ap : oC d ρ = .ok (.tmp (.val d)) ρ := rfl
@[simp] theorem oAs_nil : oAs [] ρ = .ok [] ρ := rfl
@[simp] theorem oAs_cons : oAs (f :: fs) ρ = (f ρ).bind fun p ρ1 => (oAs fs ρ1).bind fun ps ρ2 => .ok (p :: ps) ρ2 := rfl
@[simp] theorem looks_nil : looks ρ [] = some [] := rfl
@[simp] theorem looks_cons (ps : List Opd) : looks ρ (p :: ps) = match look ρ p, looks ρ ps with | some o, some os => some (o :: os) | _, _ => none := rfl
def bin2 (sem : O → O → Option O) (ρ : En) (p q : Opd) : Out Opd := match look ρ p, look ρ q with
  | some a, some b => put ρ (sem a b)
  | _, _ => .stuck
@[simp] theorem o2_ap : o2 sem f g ρ = (f ρ).bind fun p ρ1 => (g ρ1).bind fun q ρ2 => bin2 sem ρ2 p q := by
  unfold o2 oF
  simp only [oAs_cons, oAs_nil]
  cases f ρ with
  | ok p ρ1 =>
    simp only [bind_ok]
    cases g ρ1 with
    | ok q ρ2 =>
      simp only [bind_ok, looks_cons, looks_nil, bin2]
      cases look ρ2 p <;> cases look ρ2 q <;> rfl
    | _ => rfl
  | _ => rfl
@[simp] theorem bin2_ap : bin2 sem ρ p q = match look ρ p, look ρ q with | some a, some b => put ρ (sem a b) | _, _ => .stuck := rfl
@[simp] theorem o1_ap : o1 s1 f ρ = (f ρ).bind fun p ρ1 => match look ρ1 p with | some a => put ρ1 (s1 a) | none => .stuck := by
  unfold o1 oF
  simp only [oAs_cons, oAs_nil]
  cases f ρ with
  | ok p ρ1 =>
    simp only [bind_ok, looks_cons, looks_nil]
    cases look ρ1 p <;> rfl
  | _ => rfl
@[simp] theorem oChain_ap : oChain sem sem2 f g h ρ = (f ρ).bind fun p ρ1 => (g ρ1).bind fun q ρ2 => match look ρ2 p, look ρ2 q with
    | some x, some y => match sem x y with
      | some (.val (.bool k)) => if k = true then (h ρ2).bind fun r ρ3 => bin2 sem2 ρ3 q r else .ok (.tmp (.val (.bool false))) ρ2
      | _ => .stuck
    | _, _ => .stuck := by
  unfold oChain
  cases f ρ with
  | ok p ρ1 =>
    simp only [bind_ok]
    cases g ρ1 with
    | ok q ρ2 =>
      simp only [bind_ok, looks_cons, looks_nil]
      cases look ρ2 p with
      | none => cases look ρ2 q <;> rfl
      | some x =>
        cases look ρ2 q with
        | none => rfl
        | some y =>
          simp only
          cases sem x y with
          | none => rfl
          | some o =>
            cases o with
            | val d =>
              cases d with
              | bool k =>
                simp only
                split
                · cases h ρ2 with
                  | ok r ρ3 =>
                    simp only [bind_ok, bin2]
                    cases look ρ3 q <;> cases look ρ3 r <;> rfl
                  | _ => rfl
                · rfl
              | _ => rfl
            | _ => rfl
    | _ => rfl
  | _ => rfl
@[simp] theorem tV_ap : tV f ρ = (f ρ).bind fun p ρ1 => match look ρ1 p with | some (.val (.bool b)) => .ok b ρ1 | _ => .stuck := rfl
@[simp] theorem tNotC_ap : tNotC t ρ = (t ρ).bind fun b ρ1 => .ok (!b) ρ1 := rfl
@[simp] theorem tAndC_ap : tAndC t u ρ = (t ρ).bind fun b ρ1 => if b = true then u ρ1 else .ok false ρ1 := rfl
@[simp] theorem tOrC_ap : tOrC t u ρ = (t ρ).bind fun b ρ1 => if b = true then .ok true ρ1 else u ρ1 := rfl
@[simp] theorem tTrue_ap : tTrue ρ = .ok true ρ := rfl
@[simp] theorem oNot_ap : oNot f ρ = (tV f ρ).bind fun b ρ1 => .ok (.tmp (.val (.bool (!b)))) ρ1 := by
  unfold oNot oT tNotC
  cases tV f ρ <;> rfl
@[simp] theorem oAnd_ap : oAnd f g ρ = (tV f ρ).bind fun b ρ1 => if b = true then g ρ1 else .ok (.tmp (.val (.bool false))) ρ1 := rfl
@[simp] theorem oOr_ap : oOr f g ρ = (tV f ρ).bind fun b ρ1 => if b = true then .ok (.tmp (.val (.bool true))) ρ1 else g ρ1 := rfl
@[simp] theorem oIf_ap : oIf t f g ρ = (t ρ).bind fun b ρ1 => if b = true then f ρ1 else g ρ1 := rfl
@[simp] theorem oSl_ap (lo hi : OS) : oSl f lo hi ρ = (f ρ).bind fun p ρ1 => (lo ρ1).bind fun l ρ2 => (hi ρ2).bind fun h ρ3 => match look ρ3 p with | some o => put ρ3 (slS l h o) | none => .stuck := rfl
@[simp] theorem oNoPart_ap : oNoPart ρ = .ok none ρ := rfl
@[simp] theorem oPart_ap : oPart f ρ = (f ρ).bind fun p ρ1 => match look ρ1 p with | some (.val (.int i)) => .ok (some i) ρ1 | _ => .stuck := rfl
@[simp] theorem oM1_ap (s : Str → O → Option O) : oM1 s f g ρ = (f ρ).bind fun p ρ1 => match look ρ1 p with | some (.val (.str a)) => (g ρ1).bind fun p2 ρ2 => (match look ρ2 p2 with | some o => put ρ2 (s a o) | none => .stuck) | _ => .stuck := rfl
@[simp] theorem oDic0_ap : oDic0 ρ = .ok (.tmp (.dic [])) ρ := rfl
@[simp] theorem take_tmp : take ρ (.tmp o) = some (o, ρ) := rfl
@[simp] theorem take_nm : take ρ (.nm i) = match slotO ρ i with | some (.val d) => some (.val d, ρ) | some (.scr ns) => some (.scr ns, ρ) | some (.lst ds) => some (.val (.list ds), frz ρ i) | _ => none := rfl
@[simp] theorem give_ap : give ρ p = match take ρ p with | some (.val d, ρ') => some (d, ρ') | some (.lst ds, ρ') => some (.list ds, ρ') | _ => none := rfl
@[simp] theorem gives_nil : gives ρ [] = some ([], ρ) := rfl
@[simp] theorem gives_cons (ps : List Opd) : gives ρ (p :: ps) = match give ρ p with | some (d, ρ1) => (match gives ρ1 ps with | some (ds, ρ2) => some (d :: ds, ρ2) | none => none) | none => none := rfl
@[simp] theorem frz_zero (p : Bool) (ds : List D) : frz (some (p, .lst ds) :: ρ) 0 = some (p, .val (.list ds)) :: ρ := by simp [frz]
@[simp] theorem frz_succ (x : Sl) : frz (x :: ρ) (i + 1) = x :: frz ρ i := by
  unfold frz
  simp only [List.getElem?_cons_succ]
  cases ρ[i]? with
  | none => rfl
  | some sl =>
    cases sl with
    | none => rfl
    | some po =>
      obtain ⟨p, o⟩ := po
      cases o <;> rfl
@[simp] theorem oLst_ap (as : AS) : oLst as ρ = (as ρ).bind fun ps ρ1 => match gives ρ1 ps with | some (ds, ρ2) => put ρ2 (if ds.length ≤ 1000 then some (.lst ds) else none) | none => .stuck := rfl
@[simp] theorem oTup_ap (as : AS) : oTup as ρ = (as ρ).bind fun ps ρ1 => match gives ρ1 ps with | some (ds, ρ2) => put ρ2 (if ds.length ≤ 1000 then some (.val (.tuple ds)) else none) | none => .stuck := rfl
/-! ### statements -/
@[simp] theorem sNil_ap : sNil ρ = .nx ρ := rfl
@[simp] theorem sSeq_ap : sSeq b c ρ = (b ρ).then c := rfl
@[simp] theorem sExpr_ap : sExpr f ρ = (f ρ).bindS fun _ ρ1 => .nx ρ1 := rfl
@[simp] theorem sIf_ap : sIf t b c ρ = (t ρ).bindS fun k ρ1 => if k = true then b ρ1 else c ρ1 := rfl
@[simp] theorem sBreak_ap : sBreak ρ = .bk ρ := rfl
@[simp] theorem sCont_ap : sCont ρ = .ct ρ := rfl
@[simp] theorem giveUp_tmp : giveUp ρ (.tmp o) = some (o, ρ) := rfl
@[simp] theorem giveUp_nm : giveUp ρ (.nm i) = match ρ[i]? with
    | some (some (_, .val d)) => some (.val d, ρ)
    | some (some (_, .scr ns)) => some (.scr ns, ρ)
    | some (some (false, o)) => some (o, ρ.set i none)
    | some (some (true, .lst ds)) => some (.val (.list ds), frz ρ i)
    | _ => none := rfl
@[simp] theorem sRet_ap : sRet f ρ = (f ρ).bindS fun p ρ1 => match giveUp ρ1 p with | some (o, ρ2) => .rt o ρ2 | none => .stuck := rfl
@[simp] theorem sRetN_ap : sRetN ρ = .rt (.val .none) ρ := rfl
@[simp] theorem sRaise_ap (c : Nat) : sRaise c ρ = .exc c ρ := rfl
@[simp] theorem setE_zero (o o' : O) : setE 0 o (some (false, o') :: ρ) = some (some (false, o) :: ρ) := by simp [setE]
@[simp] theorem setE_zero' (o : O) : setE 0 o (none :: ρ) = some (some (false, o) :: ρ) := by simp [setE]
@[simp] theorem setE_succ (o : O) (x : Sl) : setE (i + 1) o (x :: ρ) = (setE i o ρ).map (x :: ·) := by
  unfold setE
  simp only [List.getElem?_cons_succ]
  split <;> simp_all
@[simp] theorem takeM_ap : takeM ρ p = match take ρ p with | some x => some x | none => giveUp ρ p := rfl
@[simp] theorem stoE_ap : stoE i ρ p = match takeM ρ p with | some (o, ρ1) => (match setE i o ρ1 with | some ρ2 => .nx ρ2 | none => .stuck) | none => .stuck := rfl
@[simp] theorem sAsg_ap : sAsg i f ρ = (f ρ).bindS fun p ρ1 => stoE i ρ1 p := rfl
@[simp] theorem putAtE_ap (pd pk : Opd) : putAtE i ρ pd pk = match give ρ pd with
    | some (d, ρ1) => match give ρ1 pk with
      | some (k, ρ2) => match ρ2[i]? with
        | some (some (p, o)) => match setS o k d with
          | some o' => .nx (ρ2.set i (some (p, o')))
          | none => .stuck
        | _ => .stuck
      | none => .stuck
    | none => .stuck := rfl
@[simp] theorem sPut_ap : sPut i f g ρ = (g ρ).bindS fun pd ρ1 => match slotO ρ1 i with | some _ => (f ρ1).bindS fun pk ρ2 => putAtE i ρ2 pd pk | none => .stuck := rfl
@[simp] theorem sUnp_ap (T : Tgt) : sUnp T f ρ = (f ρ).bindS fun p ρ1 => match give ρ1 p with | some (d, ρ2) => (match T.put d ρ2 with | some ρ3 => .nx ρ3 | none => .stuck) | none => .stuck := rfl
@[simp] theorem Tgt_nm : (Tgt.nm i).put d ρ = setE i (.val d) ρ := rfl
@[simp] theorem Tgt_tup (is : List Nat) (ds : List D) : (Tgt.tup is).put (.tuple ds) ρ = setDs is ds ρ := rfl
@[simp] theorem setDs_nil : setDs [] [] ρ = some ρ := rfl
@[simp] theorem setDs_cons (is : List Nat) (ds : List D) : setDs (i :: is) (d :: ds) ρ = match setE i (.val d) ρ with | some ρ1 => setDs is ds ρ1 | none => none := rfl
@[simp] theorem mutE_ap (s : O → Option (O × D)) : mutE s i ρ = match ρ[i]? with | some (some (p, o)) => (match s o with | some (o', res) => .ok (.tmp (.val res)) (ρ.set i (some (p, o'))) | none => .stuck) | _ => .stuck := rfl
@[simp] theorem oMutA_ap (s : O → List D → Option (O × D)) (as : AS) : oMutA s i as ρ = match slotO ρ i with
    | some o0 => if isLstO o0 = true then (as ρ).bind fun ps ρ1 => (match gives ρ1 ps with | some (ds, ρ2) => mutE (fun o => s o ds) i ρ2 | none => .stuck) else .stuck
    | none => .stuck := rfl
@[simp] theorem oMut0_ap (s : O → Option (O × D)) : oMut0 s i ρ = match slotO ρ i with | some o0 => if isLstO o0 = true then mutE s i ρ else .stuck | none => .stuck := rfl
@[simp] theorem isLst_lst (ds : List D) : isLstO (.lst ds) = true := rfl
@[simp] theorem oExt_ap : oExt i f ρ = match slotO ρ i with
    | some o0 => if isLstO o0 = true then (f ρ).bind fun p ρ1 => (match look ρ1 p with
        | some o1 => match o1.seq? with
          | some zs => mutE (fun o => match o with
            | .lst ds => if ds.length + zs.length ≤ sizeLine then some (.lst (ds ++ zs), .none) else none
            | _ => none) i ρ1
          | none => .stuck
        | none => .stuck)
      else .stuck
    | none => .stuck := rfl
/-! ### loops -/
@[simp] theorem sFor_ap (it : IS) (T : Tgt) (fg : List Nat) : sFor it T fg b ρ = (it ρ).bindS fun x ρ1 => forW T fg b x ρ1 := rfl
@[simp] theorem forW_none (T : Tgt) (fg : List Nat) (ds : List D) : forW T fg b (none, ds) ρ = forL none T fg b ds ρ := rfl
@[simp] theorem iSeq_ap : iSeq f ρ = (f ρ).bind fun p ρ1 => itSeq ρ1 p := rfl
@[simp] theorem itSeq_lst (ds : List D) : itSeq ρ (.tmp (.lst ds)) = .ok (none, ds) ρ := rfl
@[simp] theorem itSeq_val : itSeq ρ (.tmp (.val d)) = match itemsD d with | some ds => .ok (none, ds) ρ | none => .stuck := rfl
@[simp] theorem itSeq_nm : itSeq ρ (.nm i) = match ρ[i]? with
    | some (some (_, .lst ds)) => .ok (some i, ds) ρ
    | some (some (_, .val d)) => match itemsD d with
      | some ds => .ok (none, ds) ρ
      | none => .stuck
    | _ => .stuck := rfl
@[simp] theorem itemsD_list (ds : List D) : itemsD (.list ds) = some ds := rfl
@[simp] theorem itemsD_tuple (ds : List D) : itemsD (.tuple ds) = some ds := rfl
@[simp] theorem iRng1_ap (as : AS) : iRng1 as ρ = (as ρ).bind fun ps ρ1 => match looks ρ1 ps with
      | some [.val (.int j)] => if j ≤ 1000000 ∧ -(2 ^ 62) ≤ j then .ok (none, rng 0 j.toNat) ρ1 else .stuck
      | _ => .stuck := rfl
@[simp] theorem iRng2_ap (as : AS) : iRng2 as ρ = (as ρ).bind fun ps ρ1 => match looks ρ1 ps with
      | some [.val (.int i), .val (.int j)] => if -1000000 ≤ i ∧ i ≤ 1000000 ∧ -1000000 ≤ j ∧ j ≤ 1000000 then .ok (none, rng i (j - i).toNat) ρ1 else .stuck
      | _ => .stuck := rfl
@[simp] theorem oLc_ap (it : IS) (T : Tgt) (own : List Nat) : oLc it T t f own ρ = (it ρ).bind fun x ρ1 => lcE T t f own x ρ1 := rfl
@[simp] theorem lcE_none (T : Tgt) (own : List Nat) (ds : List D) : lcE T t f own (none, ds) ρ = (lcW none T t f own ds ρ).bind fun acc ρ2 => .ok (.tmp (.lst acc)) ρ2 := rfl
@[simp] theorem dropE_nil : dropE [] ρ = ρ := rfl
@[simp] theorem dropE_cons (is : List Nat) : dropE (i :: is) ρ = dropE is (dropE1 i ρ) := rfl
@[simp] theorem dropE1_zero : dropE1 0 (some (false, o) :: ρ) = none :: ρ := rfl
@[simp] theorem dropE1_zero' : dropE1 0 (none :: ρ) = none :: ρ := rfl
@[simp] theorem dropE1_zeroT : dropE1 0 (some (true, o) :: ρ) = some (true, o) :: ρ := rfl
@[simp] theorem dropE1_succ (x : Sl) : dropE1 (i + 1) (x :: ρ) = x :: dropE1 i ρ := by
  unfold dropE1
  simp only [List.getElem?_cons_succ]
  split <;> simp_all
@[simp] theorem chkE_none : chkE none ρ = True := rfl
@[simp] theorem chkE_some (ds : List D) : chkE (some (i, ds)) ρ = (ρ[i]? = some (some (true, .lst ds))) := rfl
/-! ### calls -/
@[simp] theorem oCall_ap (fn : FSem) (as : AS) : oCall fn as ρ = (as ρ).bind fun ps ρ1 => callE fn ρ1 ps := rfl
@[simp] theorem callE_ap (fn : FSem) (ps : List Opd) : callE fn ρ ps = match lift ρ ps with
    | some (os, bs, ρ1) => match fn os with
      | .ret o fin => .ok (.tmp o) (backs ps bs fin ρ1)
      | .exc c fin => .exc c (backs ps bs fin ρ1)
      | .stuck => .stuck
    | none => .stuck := rfl
@[simp] theorem lift_nil : lift ρ [] = some ([], [], ρ) := rfl
@[simp] theorem lift_cons (ps : List Opd) : lift ρ (p :: ps) = match lift1 ρ p with
    | some (o, b, ρ1) => match lift ρ1 ps with
      | some (os, bs, ρ2) => some (o :: os, b :: bs, ρ2)
      | none => none
    | none => none := rfl
@[simp] theorem lift1_tmp : lift1 ρ (.tmp o) = some (o, none, ρ) := rfl
@[simp] theorem lift1_nm : lift1 ρ (.nm i) = match ρ[i]? with | some (some (p, o)) => if o.own = true then some (o, some p, ρ.set i none) else some (o, none, ρ) | _ => none := rfl
@[simp] theorem backs_nil (bs : List (Option Bool)) (fin : List O) : backs [] bs fin ρ = ρ := by cases bs <;> cases fin <;> rfl
@[simp] theorem backs_tmp (ps : List Opd) (b : Option Bool) (bs : List (Option Bool)) (x : O) (fin : List O) : backs (.tmp o :: ps) (b :: bs) (x :: fin) ρ = backs ps bs fin ρ := by cases b <;> rfl
@[simp] theorem backs_nm (ps : List Opd) (bs : List (Option Bool)) (x : O) (fin : List O) : backs (.nm i :: ps) (none :: bs) (x :: fin) ρ = backs ps bs fin ρ := rfl
@[simp] theorem backs_nmS (ps : List Opd) (p : Bool) (bs : List (Option Bool)) (x : O) (fin : List O) : backs (.nm i :: ps) (some p :: bs) (x :: fin) ρ = (backs ps bs fin ρ).set i (some (p, x)) := rfl
@[simp] theorem own_val : (O.val d).own = false := rfl
@[simp] theorem own_scr (ns : List Int) : (O.scr ns).own = false := rfl
@[simp] theorem own_lst (ds : List D) : (O.lst ds).own = true := rfl
@[simp] theorem own_dic (es : List (D × D)) : (O.dic es).own = true := rfl
@[simp] theorem own_set (xs : List Str) : (O.set xs).own = true := rfl
@[simp] theorem own_ins (c : Nat) (fs : List (Str × O)) : (O.ins c fs).own = true := rfl
theorem runF_ap (n : Nat) (os : List O) : runF n b os = match b (startE n os) with
  | .nx ρ => (match fins os ρ with | some fin => .ret (.val .none) fin | none => .stuck)
  | .rt o ρ => (match fins os ρ with | some fin => .ret o fin | none => .stuck)
  | .exc c ρ => (match fins os ρ with | some fin => .exc c fin | none => .stuck)
  | _ => .stuck := rfl
@[simp] theorem startE_ap (n : Nat) (os : List O) : startE n os = os.map (fun o => some (o.own, o)) ++ List.replicate (n - os.length) none := rfl
@[simp] theorem fins_nil : fins [] ρ = some [] := rfl
@[simp] theorem fins_val (os : List O) (sl : Sl) : fins (.val d :: os) (sl :: ρ) = match fins os ρ with | some r => some (.val d :: r) | none => none := rfl
@[simp] theorem fins_scr (ns : List Int) (os : List O) (sl : Sl) : fins (.scr ns :: os) (sl :: ρ) = match fins os ρ with | some r => some (.scr ns :: r) | none => none := rfl
@[simp] theorem fins_lst (ds : List D) (x : O) (os : List O) : fins (.lst ds :: os) (some (true, x) :: ρ) = match fins os ρ with | some r => some (x :: r) | none => none := rfl
@[simp] theorem fins_dic (es : List (D × D)) (x : O) (os : List O) : fins (.dic es :: os) (some (true, x) :: ρ) = match fins os ρ with | some r => some (x :: r) | none => none := rfl
/-! ### operations on data -/
@[simp] theorem addS_int (i j : Int) : addS (.val (.int i)) (.val (.int j)) = some (.val (.int (i + j))) := rfl
@[simp] theorem addS_str (x y : Str) : addS (.val (.str x)) (.val (.str y)) = if x.length + y.length ≤ sizeLine then some (.val (.str (x ++ y))) else none := rfl
@[simp] theorem addS_tup (x y : List D) : addS (.val (.tuple x)) (.val (.tuple y)) = if x.length + y.length ≤ sizeLine then some (.val (.tuple (x ++ y))) else none := rfl
@[simp] theorem addS_ll (x y : List D) : addS (.lst x) (.lst y) = if x.length + y.length ≤ sizeLine then some (.lst (x ++ y)) else none := rfl
@[simp] theorem addS_lv (x y : List D) : addS (.lst x) (.val (.list y)) = if x.length + y.length ≤ sizeLine then some (.lst (x ++ y)) else none := rfl
@[simp] theorem addS_vl (x y : List D) : addS (.val (.list x)) (.lst y) = if x.length + y.length ≤ sizeLine then some (.lst (x ++ y)) else none := rfl
@[simp] theorem addS_vv (x y : List D) : addS (.val (.list x)) (.val (.list y)) = if x.length + y.length ≤ sizeLine then some (.lst (x ++ y)) else none := rfl
@[simp] theorem subS_int (i j : Int) : subS (.val (.int i)) (.val (.int j)) = some (.val (.int (i - j))) := by simp [subS, intS]
@[simp] theorem mulS_int (i j : Int) : mulS (.val (.int i)) (.val (.int j)) = if (-(2 ^ 64) < i ∧ i < 2 ^ 64) ∨ (-(2 ^ 64) < j ∧ j < 2 ^ 64) then some (.val (.int (i * j))) else none := rfl
@[simp] theorem fdivS_int (i j : Int) : fdivS (.val (.int i)) (.val (.int j)) = if 0 < j ∧ j < 1073741824 then some (.val (.int (i / j))) else none := rfl
@[simp] theorem modS_int (i j : Int) : modS (.val (.int i)) (.val (.int j)) = if 0 < j then some (.val (.int (i % j))) else none := rfl
@[simp] theorem powS_int (i j : Int) : powS (.val (.int i)) (.val (.int j)) = if 0 ≤ j ∧ j ≤ 1000000 ∧ i.natAbs < 2 ^ 64 then some (.val (.int (i ^ j.toNat))) else none := rfl
@[simp] theorem negS_int (i : Int) : negS (.val (.int i)) = some (.val (.int (-i))) := rfl
@[simp] theorem ltS_int (i j : Int) : ltS (.val (.int i)) (.val (.int j)) = some (.val (.bool (decide (i < j)))) := rfl
@[simp] theorem leS_int (i j : Int) : leS (.val (.int i)) (.val (.int j)) = some (.val (.bool (decide (i ≤ j)))) := rfl
@[simp] theorem gtS_int (i j : Int) : gtS (.val (.int i)) (.val (.int j)) = some (.val (.bool (decide (j < i)))) := rfl
@[simp] theorem geS_int (i j : Int) : geS (.val (.int i)) (.val (.int j)) = some (.val (.bool (decide (j ≤ i)))) := rfl
@[simp] theorem leS_str (i j : Str) : leS (.val (.str i)) (.val (.str j)) = some (.val (.bool (!decide (j.cps.toList < i.cps.toList)))) := rfl
@[simp] theorem view_lst (ds : List D) : (O.lst ds).view? = some (.list ds) := rfl
@[simp] theorem view_val : (O.val d).view? = some d := rfl
@[simp] theorem seq_lst (ds : List D) : (O.lst ds).seq? = some ds := rfl
@[simp] theorem seq_list (ds : List D) : (O.val (.list ds)).seq? = some ds := rfl
@[simp] theorem seq_tup (ds : List D) : (O.val (.tuple ds)).seq? = some ds := rfl
@[simp] theorem list_lst (ds : List D) : (O.lst ds).list? = some ds := rfl
@[simp] theorem list_list (ds : List D) : (O.val (.list ds)).list? = some ds := rfl
@[simp] theorem eqS_int (i j : Int) : eqS (.val (.int i)) (.val (.int j)) = some (.val (.bool (i == j))) := by simp [eqS, eqD?, isStrD, SeqAt.shaped, PyData.eqv, PyData.canLay0, PyData.depth]
@[simp] theorem neS_int (i j : Int) : neS (.val (.int i)) (.val (.int j)) = some (.val (.bool (!(i == j)))) := by simp [neS, eqD?, isStrD, SeqAt.shaped, PyData.eqv, PyData.canLay0, PyData.depth]
@[simp] theorem eqS_str (i j : Str) : eqS (.val (.str i)) (.val (.str j)) = some (.val (.bool (i == j))) := by simp [eqS, eqD?, isStrD, PyData.eqv]
@[simp] theorem neS_str (i j : Str) : neS (.val (.str i)) (.val (.str j)) = some (.val (.bool (!(i == j)))) := by simp [neS, eqD?, isStrD, PyData.eqv]
@[simp] theorem eqS_bool (i j : Bool) : eqS (.val (.bool i)) (.val (.bool j)) = some (.val (.bool (i == j))) := by simp [eqS, eqD?, isStrD, SeqAt.shaped, PyData.eqv, PyData.canLay0, PyData.depth]
@[simp] theorem neS_bool (i j : Bool) : neS (.val (.bool i)) (.val (.bool j)) = some (.val (.bool (!(i == j)))) := by simp [neS, eqD?, isStrD, SeqAt.shaped, PyData.eqv, PyData.canLay0, PyData.depth]
@[simp] theorem lenS_str (z : Str) : lenS (.val (.str z)) = if z.length ≤ sizeLine then some (.val (.int z.length)) else none := rfl
@[simp] theorem lenS_list (ds : List D) : lenS (.val (.list ds)) = some (.val (.int ds.length)) := rfl
@[simp] theorem lenS_tup (ds : List D) : lenS (.val (.tuple ds)) = some (.val (.int ds.length)) := rfl
@[simp] theorem lenS_lst (ds : List D) : lenS (.lst ds) = some (.val (.int ds.length)) := rfl
@[simp] theorem lenS_scr (ns : List Int) : lenS (.scr ns) = some (.val (.int ns.length)) := rfl
@[simp] theorem listS_ap : listS o = o.seq?.map .lst := rfl
@[simp] theorem tupleS_ap : tupleS o = o.seq?.map fun ds => .val (.tuple ds) := rfl
@[simp] theorem allS_ap : allS o = o.list?.bind fun ds => (asBools ds).map fun bs => .val (.bool (bs.all id)) := rfl
@[simp] theorem anyS_ap : anyS o = o.list?.bind fun ds => (asBools ds).map fun bs => .val (.bool (bs.any id)) := rfl
@[simp] theorem sumS_ap : sumS o = o.list?.bind fun ds => (asInts ds).map fun bs => .val (.int bs.sum) := rfl
@[simp] theorem ixS_scr (ns : List Int) (i : Int) : ixS (.scr ns) (.val (.int i)) = (atI ns i).map fun n => .val (.int n) := rfl
@[simp] theorem ixS_lst (ds : List D) (i : Int) : ixS (.lst ds) (.val (.int i)) = (atI ds i).map .val := rfl
@[simp] theorem ixS_list (ds : List D) (i : Int) : ixS (.val (.list ds)) (.val (.int i)) = (atI ds i).map .val := rfl
@[simp] theorem ixS_tup (ds : List D) (i : Int) : ixS (.val (.tuple ds)) (.val (.int i)) = (atI ds i).map .val := rfl
@[simp] theorem ixS_str (z : Str) (i : Int) : ixS (.val (.str z)) (.val (.int i)) = if z.length ≤ sizeLine then (atI z.cps.toList i).map fun c => .val (.str ⟨#[c]⟩) else none := rfl
@[simp] theorem appS_ap (ds : List D) : appS (.lst ds) [d] = if ds.length < sizeLine then some (.lst (ds ++ [d]), .none) else none := rfl
@[simp] theorem strS_int (i : Int) : strS (.val (.int i)) = if i.natAbs.log2 < 1920 then some (.val (.str (Str.ofString (toString i)))) else none := rfl
theorem atI_nat' {α : Type} (xs : List α) (i : Int) (h : 0 ≤ i) (h2 : i < xs.length) : atI xs i = xs[i.toNat]? := by
  unfold atI ixN
  rw [if_pos h, if_pos h2]
  rfl
end
end Eng
/-! Loops and comprehensions over typed items. -/
namespace Eng
open PySem PySem.Spec L2
open PyProof.Rows hiding St

/-! ### one turn of a for -/
def turn (T : Tgt) (fg : List Nat) (b : SS) (d : D) (ρ : En) : SOut := match T.put d ρ with
  | none => .stuck
  | some ρ1 => match b ρ1 with
    | .nx ρ2 => .nx (dropE fg ρ2)
    | .ct ρ2 => .nx (dropE fg ρ2)
    | .bk ρ2 => .bk (dropE fg ρ2)
    | o => o
theorem turn_ap (T : Tgt) (fg : List Nat) (b : SS) (d : D) (ρ : En) : turn T fg b d ρ = match T.put d ρ with
  | none => .stuck
  | some ρ1 => match b ρ1 with
    | .nx ρ2 => .nx (dropE fg ρ2)
    | .ct ρ2 => .nx (dropE fg ρ2)
    | .bk ρ2 => .bk (dropE fg ρ2)
    | o => o := rfl
theorem forL_turn (T : Tgt) (fg : List Nat) (b : SS) (d : D) (ds : List D) (ρ : En) : forL none T fg b (d :: ds) ρ = match turn T fg b d ρ with
  | .nx ρ2 => forL none T fg b ds ρ2
  | .bk ρ2 => .nx ρ2
  | o => o := by
  unfold turn
  rw [forL]
  cases T.put d ρ with
  | none => rfl
  | some ρ1 =>
    simp only
    cases b ρ1 <;> simp [chkE]
@[simp] theorem unpS_nx (j : Nat) (ρ : En) : unpS j (.nx ρ) = .nx (unpin j ρ) := rfl
@[simp] theorem unpin_zero (p : Bool) (o : O) (ρ : En) : unpin 0 (some (p, o) :: ρ) = some (false, o) :: ρ := rfl
@[simp] theorem unpin_succ (j : Nat) (x : Sl) (ρ : En) : unpin (j + 1) (x :: ρ) = x :: unpin j ρ := by
  unfold unpin
  simp only [List.getElem?_cons_succ]
  split <;> simp_all

/-! ### one turn of a comprehension -/
def lturn (T : Tgt) (t : TS') (f : ES) (own : List Nat) (d : D) (ρ : En) : Out (Option D) := match T.put d ρ with
  | none => .stuck
  | some ρ1 => match t ρ1 with
    | .ok b ρ2 => if b = true then match f ρ2 with
        | .ok p ρ3 => match give ρ3 p with
          | some (e, ρ4) => .ok (some e) (dropE own ρ4)
          | none => .stuck
        | _ => .stuck
      else .ok none (dropE own ρ2)
    | _ => .stuck
theorem lturn_ap (T : Tgt) (t : TS') (f : ES) (own : List Nat) (d : D) (ρ : En) : lturn T t f own d ρ = match T.put d ρ with
  | none => .stuck
  | some ρ1 => match t ρ1 with
    | .ok b ρ2 => if b = true then match f ρ2 with
        | .ok p ρ3 => match give ρ3 p with
          | some (e, ρ4) => .ok (some e) (dropE own ρ4)
          | none => .stuck
        | _ => .stuck
      else .ok none (dropE own ρ2)
    | _ => .stuck := rfl
theorem lcL_turn {c : Option (Nat × List D)} {T : Tgt} {t : TS'} {f : ES} {own : List Nat} {d : D} {ds acc : List D} {ρ ρ' : En} {r : Option D} (h : lturn T t f own d ρ = .ok r ρ') (hc : lcC c own ρ') : lcL c T t f own (d :: ds) acc ρ = lcL c T t f own ds (acc ++ r.toList) ρ' := by
  unfold lturn at h
  rw [lcL]
  cases e1 : T.put d ρ with
  | none => rw [e1] at h; cases h
  | some ρ1 =>
    rw [e1] at h
    simp only at h ⊢
    cases e2 : t ρ1 with
    | ok b ρ2 =>
      rw [e2] at h
      simp only at h ⊢
      cases b with
      | false =>
        simp only [Bool.false_eq_true, if_false, Out.ok.injEq] at h ⊢
        obtain ⟨rfl, rfl⟩ := h
        rw [if_pos hc]
        simp
      | true =>
        simp only [if_true] at h ⊢
        cases e3 : f ρ2 with
        | ok p ρ3 =>
          rw [e3] at h
          simp only at h ⊢
          cases e4 : give ρ3 p with
          | none => rw [e4] at h; cases h
          | some x =>
            obtain ⟨e, ρ4⟩ := x
            rw [e4] at h
            simp only [Out.ok.injEq] at h ⊢
            obtain ⟨rfl, rfl⟩ := h
            rw [if_pos hc]
            rfl
        | _ => rw [e3] at h; cases h
    | _ => rw [e2] at h; cases h
theorem lcL_map {α : Type} {f : α → D} {c : Option (Nat × List D)} {T : Tgt} {t : TS'} {g : ES} {own : List Nat} {ρ : En} (r : α → Option D) (hc : lcC c own ρ) : ∀ (xs : List α) (acc : List D), (∀ x ∈ xs, lturn T t g own (f x) ρ = .ok (r x) ρ) → lcL c T t g own (xs.map f) acc ρ = .ok (acc ++ xs.filterMap r) ρ
  | [], acc, _ => by simp [lcL]
  | x :: xs, acc, h => by
    rw [List.map_cons, lcL_turn (h x List.mem_cons_self) hc, lcL_map r hc xs _ fun y hy => h y (List.mem_cons_of_mem _ hy), List.filterMap_cons]
    cases r x <;> simp
theorem lcW_map {α : Type} {f : α → D} {c : Option (Nat × List D)} {T : Tgt} {t : TS'} {g : ES} {own : List Nat} {ρ : En} (r : α → Option D) (xs : List α) (hc : lcC c own (dropE own ρ)) (h : ∀ x ∈ xs, lturn T t g own (f x) (dropE own ρ) = .ok (r x) (dropE own ρ)) :
    lcW c T t g own (xs.map f) ρ = .ok (xs.filterMap r) (restE ρ own (dropE own ρ)) := by
  unfold lcW
  rw [if_pos hc, lcL_map r hc xs [] h]
  simp
theorem fm_map {α β : Type} (e : α → β) (xs : List α) : xs.filterMap (fun x => some (e x)) = xs.map e := by
  induction xs with
  | nil => rfl
  | cons x xs ih => simp [ih]
theorem fm_filter {α β : Type} (c : α → Bool) (e : α → β) (xs : List α) : xs.filterMap (fun x => if c x = true then some (e x) else none) = (xs.filter c).map e := by
  induction xs with
  | nil => rfl
  | cons x xs ih =>
    rw [List.filterMap_cons, List.filter_cons]
    cases c x <;> simp [ih]
/-- [e for x in xs] -/
theorem lc_all {α : Type} {f : α → D} {c : Option (Nat × List D)} {T : Tgt} {t : TS'} {g : ES} {own : List Nat} {ρ : En} (e : α → D) (xs : List α) (hc : lcC c own (dropE own ρ)) (h : ∀ x ∈ xs, lturn T t g own (f x) (dropE own ρ) = .ok (some (e x)) (dropE own ρ)) :
    lcW c T t g own (xs.map f) ρ = .ok (xs.map e) (restE ρ own (dropE own ρ)) := by
  rw [lcW_map (fun x => some (e x)) xs hc h, fm_map]
/-- [e for x in xs if c] -/
theorem lc_if {α : Type} {f : α → D} {c : Option (Nat × List D)} {T : Tgt} {t : TS'} {g : ES} {own : List Nat} {ρ : En} (k : α → Bool) (e : α → D) (xs : List α) (hc : lcC c own (dropE own ρ)) (h : ∀ x ∈ xs, lturn T t g own (f x) (dropE own ρ) = .ok (if k x = true then some (e x) else none) (dropE own ρ)) :
    lcW c T t g own (xs.map f) ρ = .ok ((xs.filter k).map e) (restE ρ own (dropE own ρ)) := by
  rw [lcW_map (fun x => if k x = true then some (e x) else none) xs hc h, fm_filter]
@[simp] theorem restE_nil (ρ0 ρ : En) : restE ρ0 [] ρ = ρ := rfl
@[simp] theorem restE_cons (ρ0 : En) (i : Nat) (is : List Nat) (ρ : En) : restE ρ0 (i :: is) ρ = match ρ[i]? with | some none => restE ρ0 is (rest1 ρ0 i ρ) | _ => restE ρ0 is ρ := rfl
@[simp] theorem rest1_ap (ρ0 : En) (i : Nat) (ρ : En) : rest1 ρ0 i ρ = match ρ0[i]? with | some (some (false, .val d)) => ρ.set i (some (false, .val d)) | _ => ρ := rfl
@[simp] theorem lcC_ap (c : Option (Nat × List D)) (own : List Nat) (ρ : En) : lcC c own ρ = (chkE c ρ ∧ ∀ i ∈ own, ρ[i]? = some none) := rfl
end Eng
/-! Loops that may hand back; further operations. -/
namespace Eng
open PySem PySem.Spec L2
open PyProof.Rows hiding St
@[simp] theorem isB_ap (a b : Bool) : isB (.val (.bool a)) (.val (.bool b)) = some (.val (.bool (decide (a = b)))) := rfl
@[simp] theorem isnotB_ap (a b : Bool) : isnotB (.val (.bool a)) (.val (.bool b)) = some (.val (.bool (!decide (a = b)))) := rfl
@[simp] theorem revO_tup (ds : List D) : revO (.val (.tuple ds)) = some (.val (.tuple ds.reverse)) := rfl
@[simp] theorem revO_lst (ds : List D) : revO (.lst ds) = some (.lst ds.reverse) := rfl
@[simp] theorem revO_list (ds : List D) : revO (.val (.list ds)) = some (.lst ds.reverse) := rfl
@[simp] theorem maxS_int (i j : Int) : maxS (.val (.int i)) (.val (.int j)) = some (.val (.int (if j > i then j else i))) := rfl
@[simp] theorem minS_int (i j : Int) : minS (.val (.int i)) (.val (.int j)) = some (.val (.int (if j < i then j else i))) := rfl
@[simp] theorem setS_lst (ds : List D) (i : Int) (d : D) : setS (.lst ds) (.int i) d = match ixN ds.length i with | some j => some (.lst (ds.set j d)) | none => none := rfl
theorem forLc_turn {c : Option (Nat × List D)} {T : Tgt} {fg : List Nat} {b : SS} {d : D} {ds : List D} {ρ ρ2 : En} (h : turn T fg b d ρ = .nx ρ2) (hc : chkE c ρ2) : forL c T fg b (d :: ds) ρ = forL c T fg b ds ρ2 := by
  unfold turn at h
  rw [forL]
  cases e : T.put d ρ with
  | none => rw [e] at h; cases h
  | some ρ1 =>
    rw [e] at h
    simp only at h ⊢
    cases eb : b ρ1 with
    | nx ρ3 => rw [eb] at h; cases h; simp [hc]
    | ct ρ3 => rw [eb] at h; cases h; simp [hc]
    | _ => rw [eb] at h; cases h
theorem forLc_ret {c : Option (Nat × List D)} {T : Tgt} {fg : List Nat} {b : SS} {d : D} {ds : List D} {ρ ρ2 : En} {o : O} (h : turn T fg b d ρ = .rt o ρ2) : forL c T fg b (d :: ds) ρ = .rt o ρ2 := by
  unfold turn at h
  rw [forL]
  cases e : T.put d ρ with
  | none => rw [e] at h; cases h
  | some ρ1 =>
    rw [e] at h
    simp only at h ⊢
    cases eb : b ρ1 with
    | rt o' ρ3 => rw [eb] at h; cases h; rfl
    | _ => rw [eb] at h; cases h
/-- a loop that goes on or hands back o -/
theorem forL_try {α σ : Type} {f : α → D} {T : Tgt} {fg : List Nat} {b : SS} (c : Option (Nat × List D)) (enc : σ → En) (step : σ → α → Option σ) (I : σ → Prop) (P : En → Prop) (o : O) (hc : ∀ s, chkE c (enc s)) : ∀ (xs : List α) (s : σ), I s →
    (∀ s x, x ∈ xs → I s → (∃ s', step s x = some s' ∧ turn T fg b (f x) (enc s) = .nx (enc s') ∧ I s') ∨ (step s x = none ∧ ∃ ρ', turn T fg b (f x) (enc s) = .rt o ρ' ∧ P ρ')) →
    (∃ s', xs.foldlM step s = some s' ∧ forL c T fg b (xs.map f) (enc s) = .nx (enc s') ∧ I s') ∨ (xs.foldlM step s = none ∧ ∃ ρ', forL c T fg b (xs.map f) (enc s) = .rt o ρ' ∧ P ρ')
  | [], s, hs, _ => .inl ⟨s, rfl, rfl, hs⟩
  | x :: xs, s, hs, h => by
    rcases h s x List.mem_cons_self hs with ⟨s', e1, e2, e3⟩ | ⟨e1, ρ', e2, e3⟩
    · have ih := forL_try (f := f) c enc step I P o hc xs s' e3 fun s y hy => h s y (List.mem_cons_of_mem _ hy)
      rw [List.map_cons, forLc_turn e2 (hc s'), List.foldlM_cons, e1]
      exact ih
    · rw [List.map_cons, List.foldlM_cons, e1]
      exact .inr ⟨rfl, ρ', forLc_ret e2, e3⟩
end Eng
/-! Texts, lists of texts, rows, books: the readings over typed things. -/
namespace Eng
open PySem PySem.Spec L2
open PyProof.Rows hiding St

abbrev Row := Str × List Str
def eW (ws : List Str) : D := .tuple (ws.map PyData.str)
def eRow (r : Row) : D := .tuple [.str r.1, eW r.2]
def eBk (b : List Row) : D := .tuple (b.map eRow)
def kd (ws : List Str) : List (D × D) := ws.map fun w => (.str w, .bool true)
def sortT (ws : List Str) : List Str := ws.mergeSort leT

theorem any_strs (ws : List Str) (x : Str) : ((ws.map PyData.str).any fun y => PyData.eqv y (.str x)) = decide (x ∈ ws) := by
  induction ws with
  | nil => rfl
  | cons w ws ih =>
    rw [List.map_cons, List.any_cons, ih, eqv_str]
    by_cases h : x = w
    · simp [h]
    · have : ¬ w = x := fun e => h e.symm
      simp [h, this]
theorem all_strs (ws : List Str) : (ws.map PyData.str).all isStrD = true := by
  simp [isStrD]
theorem hasS_strs (x : Str) (ws : List Str) (o : O) (h : o.seq? = some (ws.map PyData.str)) (hd : ∀ es, o ≠ .dic es) (hs : ∀ z, o ≠ .val (.str z)) : hasS (.val (.str x)) o = some (decide (x ∈ ws)) := by
  unfold hasS
  split
  · exact absurd rfl (hd _)
  · exact absurd rfl (hs _)
  · simp only [view_val, h, isStrD, all_strs, Bool.and_self, Bool.true_or, if_true, any_strs]
@[simp] theorem inS_lst (x : Str) (ws : List Str) : inS (.val (.str x)) (.lst (ws.map PyData.str)) = some (.val (.bool (decide (x ∈ ws)))) := by
  unfold inS
  rw [hasS_strs x ws _ rfl (by simp) (by simp)]
  rfl
@[simp] theorem inS_tup (x : Str) (ws : List Str) : inS (.val (.str x)) (.val (.tuple (ws.map PyData.str))) = some (.val (.bool (decide (x ∈ ws)))) := by
  unfold inS
  rw [hasS_strs x ws _ rfl (by simp) (by simp)]
  rfl
@[simp] theorem inS_list (x : Str) (ws : List Str) : inS (.val (.str x)) (.val (.list (ws.map PyData.str))) = some (.val (.bool (decide (x ∈ ws)))) := by
  unfold inS
  rw [hasS_strs x ws _ rfl (by simp) (by simp)]
  rfl
@[simp] theorem notinS_lst (x : Str) (ws : List Str) : notinS (.val (.str x)) (.lst (ws.map PyData.str)) = some (.val (.bool (!decide (x ∈ ws)))) := by
  unfold notinS
  rw [hasS_strs x ws _ rfl (by simp) (by simp)]
  rfl
@[simp] theorem notinS_tup (x : Str) (ws : List Str) : notinS (.val (.str x)) (.val (.tuple (ws.map PyData.str))) = some (.val (.bool (!decide (x ∈ ws)))) := by
  unfold notinS
  rw [hasS_strs x ws _ rfl (by simp) (by simp)]
  rfl
@[simp] theorem notinS_list (x : Str) (ws : List Str) : notinS (.val (.str x)) (.val (.list (ws.map PyData.str))) = some (.val (.bool (!decide (x ∈ ws)))) := by
  unfold notinS
  rw [hasS_strs x ws _ rfl (by simp) (by simp)]
  rfl
@[simp] theorem hasS_nil (x : Str) : inS (.val (.str x)) (.lst []) = some (.val (.bool false)) := inS_lst x []
@[simp] theorem notinS_nil (x : Str) : notinS (.val (.str x)) (.lst []) = some (.val (.bool true)) := notinS_lst x []
/-! ### dicts whose keys are texts -/
/-- a dict with text keys -/
def sd {β : Type} (f : β → D) (es : List (Str × β)) : List (D × D) := es.map fun e => (.str e.1, f e.2)
theorem dOk_sd {β : Type} (f : β → D) (es : List (Str × β)) (x : Str) : dOk (sd f es) (.str x) = true := by
  simp [dOk, sd, keyOf]
theorem dhas_sd {β : Type} (f : β → D) (es : List (Str × β)) (x : Str) : dhas (sd f es) (.str x) = decide (x ∈ es.map (·.1)) := by
  unfold dhas sd
  rw [List.any_map, ← any_strs, List.map_map, List.any_map]
  rfl
theorem dOk_kd (ws : List Str) (x : Str) : dOk (kd ws) (.str x) = true := by
  simp [dOk, kd, keyOf]
theorem dhas_kd (ws : List Str) (x : Str) : dhas (kd ws) (.str x) = decide (x ∈ ws) := by
  unfold dhas kd
  rw [List.any_map, ← any_strs, List.any_map]
  rfl
theorem dput_kd (ws : List Str) (x : Str) : dput (kd ws) (.str x) (.bool true) = kd (addT ws x) := by
  unfold dput addT
  rw [dhas_kd]
  by_cases h : x ∈ ws
  · simp only [h, decide_true, if_true]
    unfold kd
    rw [List.map_map]
    refine List.map_congr_left fun w hw => ?_
    simp only [Function.comp]
    split <;> rfl
  · simp only [h, decide_false, Bool.false_eq_true, if_false]
    unfold kd
    rw [List.map_append]
    rfl
@[simp] theorem inS_kd (x : Str) (ws : List Str) : inS (.val (.str x)) (.dic (kd ws)) = some (.val (.bool (decide (x ∈ ws)))) := by
  unfold inS hasS
  simp only [dOk_kd, dhas_kd, if_true]
  rfl
@[simp] theorem notinS_kd (x : Str) (ws : List Str) : notinS (.val (.str x)) (.dic (kd ws)) = some (.val (.bool (!decide (x ∈ ws)))) := by
  unfold notinS hasS
  simp only [dOk_kd, dhas_kd, if_true]
  rfl
theorem len_kd (ws : List Str) : (kd ws).length = ws.length := by simp [kd]
@[simp] theorem setS_kd (x : Str) (ws : List Str) : setS (.dic (kd ws)) (.str x) (.bool true) = if ws.length < sizeLine then some (.dic (kd (addT ws x))) else none := by
  unfold setS
  simp only [dOk_kd, dput_kd, len_kd, true_and]
/-! ### sorted texts -/
theorem sortOk_strs (ws : List Str) : sortOk (ws.map PyData.str) = decide (ws.length ≤ sizeLine) := by
  unfold sortOk
  have h1 : ((ws.map PyData.str).all fun d => (ws.map PyData.str).all fun e => PySem.W.alike d e) = true := by
    simp [PySem.W.alike]
  have h2 : ((ws.map PyData.str).all noTup) = true := by simp [noTup]
  have h3 : ((ws.map PyData.str).all fun d => decide (d.depth ≤ 32)) = true := by simp [PyData.depth]
  rw [h1, h2, h3]
  simp
theorem sortS_seq (o : O) (ws : List Str) (h : o.seq? = some (ws.map PyData.str)) (hd : ∀ es, o ≠ .dic es) (hs : ∀ z, o ≠ .set z) : sortS o = if ws.length ≤ sizeLine then some (.lst ((sortT ws).map PyData.str)) else none := by
  unfold sortS
  split
  · exact absurd rfl (hd _)
  · exact absurd rfl (hs _)
  · rw [h]
    simp only [sortOk_strs, sortD_strs, decide_eq_true_eq]
    rfl
@[simp] theorem sortS_lst (ws : List Str) : sortS (.lst (ws.map PyData.str)) = if ws.length ≤ sizeLine then some (.lst ((sortT ws).map PyData.str)) else none := sortS_seq _ ws rfl (by simp) (by simp)
@[simp] theorem sortS_list (ws : List Str) : sortS (.val (.list (ws.map PyData.str))) = if ws.length ≤ sizeLine then some (.lst ((sortT ws).map PyData.str)) else none := sortS_seq _ ws rfl (by simp) (by simp)
@[simp] theorem sortS_tup (ws : List Str) : sortS (.val (.tuple (ws.map PyData.str))) = if ws.length ≤ sizeLine then some (.lst ((sortT ws).map PyData.str)) else none := sortS_seq _ ws rfl (by simp) (by simp)
@[simp] theorem sortS_set (ws : List Str) : sortS (.set ws) = if ws.length ≤ sizeLine then some (.lst ((sortT ws).map PyData.str)) else none := by
  unfold sortS
  simp only [sortOk_strs, sortD_strs, decide_eq_true_eq]
  rfl
theorem sortT_nil : sortT [] = [] := by simp [sortT]
@[simp] theorem sortS_nil : sortS (.lst []) = some (.lst []) := by
  have := sortS_lst []
  simpa [sortT_nil] using this
@[simp] theorem sortS_sd {β : Type} (f : β → D) (es : List (Str × β)) : sortS (.dic (sd f es)) = if es.length ≤ sizeLine then some (.lst ((sortT (es.map (·.1))).map PyData.str)) else none := by
  unfold sortS
  have h : (sd f es).map (·.1) = (es.map (·.1)).map PyData.str := by simp [sd]
  have h1 : ((sd f es).all fun e => (keyOf e.1).isSome) = true := by simp [sd, keyOf]
  simp only [h, h1, Bool.true_and, sortOk_strs, sortD_strs, decide_eq_true_eq, List.length_map]
  rfl
@[simp] theorem sortS_kd (ws : List Str) : sortS (.dic (kd ws)) = if ws.length ≤ sizeLine then some (.lst ((sortT ws).map PyData.str)) else none := by
  unfold sortS
  have h : (kd ws).map (·.1) = ws.map PyData.str := by simp [kd]
  have h1 : ((kd ws).all fun e => (keyOf e.1).isSome) = true := by simp [kd, keyOf]
  simp only [h, h1, Bool.true_and, sortOk_strs, sortD_strs, decide_eq_true_eq]
  rfl
theorem mem_sortT {ws : List Str} {x : Str} : x ∈ sortT ws ↔ x ∈ ws := (List.mergeSort_perm ws leT).mem_iff
theorem sortT_nodup {ws : List Str} (h : ws.Nodup) : (sortT ws).Nodup := (List.mergeSort_perm ws leT).nodup_iff.mpr h
/-- two lists without doubles and with the same members are sorted alike -/
theorem sortT_ext {xs ys : List Str} (hx : xs.Nodup) (hy : ys.Nodup) (h : ∀ w, w ∈ xs ↔ w ∈ ys) : sortT xs = sortT ys := by
  have p : xs.Perm ys := (List.perm_ext_iff_of_nodup hx hy).mpr h
  exact one_order leT_anti (((List.mergeSort_perm xs leT).trans p).trans (List.mergeSort_perm ys leT).symm) (sortT_pairwise xs) (sortT_pairwise ys)
/-! ### sets -/
theorem setC_seq (o : O) (ws : List Str) (h : o.seq? = some (ws.map PyData.str)) : setC o = if ws.length + 1 < scanBound then some (.set (metT ws)) else none := by
  unfold setC
  rw [h]
  simp only [Option.bind_some, asStrs_map]
@[simp] theorem setC_lst (ws : List Str) : setC (.lst (ws.map PyData.str)) = if ws.length + 1 < scanBound then some (.set (metT ws)) else none := setC_seq _ ws rfl
@[simp] theorem setC_list (ws : List Str) : setC (.val (.list (ws.map PyData.str))) = if ws.length + 1 < scanBound then some (.set (metT ws)) else none := setC_seq _ ws rfl
@[simp] theorem setC_tup (ws : List Str) : setC (.val (.tuple (ws.map PyData.str))) = if ws.length + 1 < scanBound then some (.set (metT ws)) else none := setC_seq _ ws rfl
@[simp] theorem lenS_set (ws : List Str) : lenS (.set ws) = some (.val (.int ws.length)) := rfl
/-! ### loops -/
theorem forL_ix {α : Type} {f : α → D} {T : Tgt} {fg : List Nat} {b : SS} (I : List α → En → Prop) (ys : List α) (hs : ∀ done x rest ρ, ys = done ++ x :: rest → I done ρ → ∃ ρ', turn T fg b (f x) ρ = .nx ρ' ∧ I (done ++ [x]) ρ') : ∀ (xs done : List α) (ρ : En), ys = done ++ xs → I done ρ →
    ∃ ρ', forL none T fg b (xs.map f) ρ = .nx ρ' ∧ I ys ρ'
  | [], done, ρ, hy, h => ⟨ρ, rfl, by simpa [hy] using h⟩
  | x :: xs, done, ρ, hy, h => by
    obtain ⟨ρ1, h1, h2⟩ := hs done x xs ρ hy h
    obtain ⟨ρ2, h3, h4⟩ := forL_ix I ys hs xs (done ++ [x]) ρ1 (by simpa using hy) h2
    exact ⟨ρ2, by rw [List.map_cons, forL_turn, h1]; exact h3, h4⟩
/-- a for over items: what holds after so many of them -/
theorem forL_all {α : Type} {f : α → D} {T : Tgt} {fg : List Nat} {b : SS} (I : List α → En → Prop) (xs : List α) (ρ : En) (h0 : I [] ρ) (hs : ∀ done x rest ρ, xs = done ++ x :: rest → I done ρ → ∃ ρ', turn T fg b (f x) ρ = .nx ρ' ∧ I (done ++ [x]) ρ') :
    ∃ ρ', forL none T fg b (xs.map f) ρ = .nx ρ' ∧ I xs ρ' := forL_ix I xs hs xs [] ρ rfl h0
theorem forL_rng_ix {lo : Int} {T : Tgt} {fg : List Nat} {b : SS} (I : Nat → En → Prop) (n : Nat) (hs : ∀ k ρ, k < n → I k ρ → ∃ ρ', turn T fg b (.int (lo + (k : Nat))) ρ = .nx ρ' ∧ I (k + 1) ρ') : ∀ (m k : Nat) (ρ : En), k + m = n → I k ρ →
    ∃ ρ', forL none T fg b ((List.range' k m).map fun k => .int (lo + (k : Nat))) ρ = .nx ρ' ∧ I n ρ'
  | 0, k, ρ, hy, h => ⟨ρ, rfl, by simpa [← hy] using h⟩
  | m + 1, k, ρ, hy, h => by
    obtain ⟨ρ1, h1, h2⟩ := hs k ρ (by omega) h
    obtain ⟨ρ2, h3, h4⟩ := forL_rng_ix I n hs m (k + 1) ρ1 (by omega) h2
    exact ⟨ρ2, by rw [List.range'_succ, List.map_cons, forL_turn, h1]; exact h3, h4⟩
/-- for k in range(..): what holds after k turns -/
theorem forL_rng {lo : Int} {T : Tgt} {fg : List Nat} {b : SS} (I : Nat → En → Prop) (n : Nat) (ρ : En) (h0 : I 0 ρ) (hs : ∀ k ρ, k < n → I k ρ → ∃ ρ', turn T fg b (.int (lo + (k : Nat))) ρ = .nx ρ' ∧ I (k + 1) ρ') :
    ∃ ρ', forL none T fg b (rng lo n) ρ = .nx ρ' ∧ I n ρ' := by
  have := forL_rng_ix I n hs n 0 ρ (by omega) h0
  unfold rng
  rw [List.range_eq_range']
  exact this
/-- [e for k in range(..)] -/
theorem lc_rng {lo : Int} {c : Option (Nat × List D)} {T : Tgt} {t : TS'} {g : ES} {own : List Nat} {ρ : En} (e : Nat → D) (n : Nat) (hc : lcC c own (dropE own ρ)) (h : ∀ k, k < n → lturn T t g own (.int (lo + (k : Nat))) (dropE own ρ) = .ok (some (e k)) (dropE own ρ)) :
    lcW c T t g own (rng lo n) ρ = .ok ((List.range n).map e) (restE ρ own (dropE own ρ)) := by
  unfold rng
  exact lc_all e (List.range n) hc fun k hk => h k (List.mem_range.mp hk)
@[simp] theorem lcE_some (T : Tgt) (t : TS') (f : ES) (own : List Nat) (j : Nat) (ds : List D) (ρ : En) : lcE T t f own (some j, ds) ρ = match ρ[j]? with
    | some (some (true, _)) => (lcW (some (j, ds)) T t f own ds ρ).bind fun acc ρ2 => .ok (.tmp (.lst acc)) ρ2
    | some (some (false, o)) => (lcW (some (j, ds)) T t f own ds (ρ.set j (some (true, o)))).bind fun acc ρ2 => .ok (.tmp (.lst acc)) (unpin j ρ2)
    | _ => .stuck := rfl
@[simp] theorem forW_some (T : Tgt) (fg : List Nat) (b : SS) (j : Nat) (ds : List D) (ρ : En) : forW T fg b (some j, ds) ρ = match ρ[j]? with
    | some (some (true, _)) => forL (some (j, ds)) T fg b ds ρ
    | some (some (false, o)) => unpS j (forL (some (j, ds)) T fg b ds (ρ.set j (some (true, o))))
    | _ => .stuck := rfl
@[simp] theorem atI_zero {α : Type} (x : α) (xs : List α) : atI (x :: xs) 0 = some x := by
  rw [atI_nat' _ _ (by omega) (by simp)]
  rfl
@[simp] theorem atI_one {α : Type} (x y : α) (xs : List α) : atI (x :: y :: xs) 1 = some y := by
  rw [atI_nat' _ _ (by omega) (by simp; omega)]
  rfl
@[simp] theorem slS_str (z : Str) (lo hi : Option Int) : slS lo hi (.val (.str z)) = if z.length ≤ sizeLine then some (.val (.str (cutS z lo hi))) else none := rfl
@[simp] theorem slS_tup (ds : List D) (lo hi : Option Int) : slS lo hi (.val (.tuple ds)) = some (.val (.tuple (cutA ds lo hi))) := rfl
@[simp] theorem slS_lst (ds : List D) (lo hi : Option Int) : slS lo hi (.lst ds) = some (.lst (cutA ds lo hi)) := rfl
@[simp] theorem slS_list (ds : List D) (lo hi : Option Int) : slS lo hi (.val (.list ds)) = some (.lst (cutA ds lo hi)) := rfl
/-! ### the end of a def -/
def finO (os : List O) (so : SOut) : FOut := match so with
  | .nx ρ => (match fins os ρ with | some fin => .ret (.val .none) fin | none => .stuck)
  | .rt o ρ => (match fins os ρ with | some fin => .ret o fin | none => .stuck)
  | .exc c ρ => (match fins os ρ with | some fin => .exc c fin | none => .stuck)
  | _ => .stuck
theorem runF_fin (n : Nat) (b : SS) (os : List O) : runF n b os = finO os (b (startE n os)) := rfl
@[simp] theorem finO_nx (os : List O) (ρ : En) : finO os (.nx ρ) = (match fins os ρ with | some fin => .ret (.val .none) fin | none => .stuck) := rfl
@[simp] theorem finO_rt (os : List O) (o : O) (ρ : En) : finO os (.rt o ρ) = (match fins os ρ with | some fin => .ret o fin | none => .stuck) := rfl
@[simp] theorem finO_exc (os : List O) (c : Nat) (ρ : En) : finO os (.exc c ρ) = (match fins os ρ with | some fin => .exc c fin | none => .stuck) := rfl
end Eng
/-! The laws' makers of books: what they tell. -/
namespace Eng
open PySem PySem.Spec L2 SX
open PyProof.Rows hiding St
def mixI (c k : Int) : Int := ((c % 1000000000000000 + 1) * 48271 + k * k * 16807 + k * 7919) % 2147483647 * 69621 % 2147483629
theorem l_mix_eq (c k : Int) (h : -100000 ≤ k ∧ k ≤ 100000) : f_l_mix [.val (.int c), .val (.int k)] = .ret (.val (.int (mixI c k))) [.val (.int c), .val (.int k)] := by
  have h1 : -18446744073709551616 < k := by omega
  have h2 : k < 18446744073709551616 := by omega
  simp [f_l_mix, b_l_mix, runF_ap, h1, h2, mixI]
/-- a cell of the script, any whole number -/
theorem l_cell_ex (ns : List Int) (k : Int) (h : 0 ≤ k ∧ k ≤ 100000) : ∃ c, f_l_cell [.scr ns, .val (.int k)] = .ret (.val (.int c)) [.scr ns, .val (.int k)] := by
  by_cases hk : k < ns.length
  · have := atI_nat' ns k h.1 hk
    have hl : k.toNat < ns.length := by omega
    simp [f_l_cell, b_l_cell, runF_ap, hk, this, hl]
  · by_cases hn : ns = []
    · subst hn
      have e := fun c => l_mix_eq c k (by omega)
      have hk' : ¬ k < 0 := by omega
      simp [f_l_cell, b_l_cell, runF_ap, hk', e]
    · have hp : 0 < ns.length := by cases ns <;> simp_all
      have hp' : 0 < (ns.length : Int) := by omega
      have m1 := Int.emod_nonneg k (show (ns.length : Int) ≠ 0 by omega)
      have m2 := Int.emod_lt_of_pos k hp'
      have := atI_nat' ns (k % ns.length) m1 m2
      have hl : (k % ns.length).toNat < ns.length := by omega
      have e := fun c => l_mix_eq c k (by omega)
      simp [f_l_cell, b_l_cell, runF_ap, hk, hp, this, hl, e]
/-- the draws of a cell -/
def Dr (n : Nat) (ds : List Int) : Prop := ds.length = n ∧ ∀ d ∈ ds, 0 ≤ d ∧ d < 4096
theorem l_drawn_ex (c : Int) (n : Nat) (hn : n ≤ 1000) : ∃ ds : List Int, f_l_drawn [.val (.int c), .val (.int n)] = .ret (.lst (ds.map .int)) [.val (.int c), .val (.int n)] ∧ Dr n ds := by
  obtain ⟨ρ', e, ds, hd, left, rfl⟩ := forL_rng (lo := 0) (T := .nm 4) (fg := [4]) (b := w_l_drawn_1)
    (fun k ρ => ∃ ds : List Int, Dr k ds ∧ ∃ left : Int, ρ = [some (false, .val (.int c)), some (false, .val (.int n)), some (false, .lst (ds.map .int)), some (false, .val (.int left)), none])
    n [some (false, .val (.int c)), some (false, .val (.int n)), some (false, .lst []), some (false, .val (.int (c / 2))), none] ⟨[], by simp [Dr], c / 2, rfl⟩ (by
    rintro k ρ hk ⟨ds, ⟨hl, hd⟩, left, rfl⟩
    have e := l_mix_eq c k (by omega)
    have hz : ds.length < sizeLine := Nat.lt_of_lt_of_le (show ds.length < 1000 by omega) (by decide)
    by_cases hc : c % 2 = 0
    · refine ⟨_, by simp [turn_ap, w_l_drawn_1, hc, hz]; rfl, ds ++ [left % 64], ⟨by simp [hl], ?_⟩, left / 64, by simp⟩
      intro d hd'
      rw [List.mem_append, List.mem_singleton] at hd'
      rcases hd' with h | rfl
      · exact hd d h
      · omega
    · refine ⟨_, by simp [turn_ap, w_l_drawn_1, hc, hz, e]; rfl, ds ++ [mixI c k / 7 % 4096], ⟨by simp [hl], ?_⟩, left, by simp⟩
      intro d hd'
      rw [List.mem_append, List.mem_singleton] at hd'
      rcases hd' with h | rfl
      · exact hd d h
      · omega)
  refine ⟨ds, ?_, hd⟩
  have hb : (n : Int) ≤ 1000000 := by omega
  have hb' : (-4611686018427387904 : Int) ≤ n := by omega
  simp [f_l_drawn, b_l_drawn, runF_ap, hb, hb']
  rw [e]
  simp
def dat (ds : List Int) (i : Int) : Int := ds[i.toNat]?.getD 0
theorem Dr.at {n : Nat} {ds : List Int} (h : Dr n ds) (i : Int) (h0 : 0 ≤ i) (h1 : i < n) : atI (ds.map PyData.int) i = some (.int (dat ds i)) ∧ 0 ≤ dat ds i ∧ dat ds i < 4096 := by
  have hl : i.toNat < ds.length := by have := h.1; omega
  have e : dat ds i = ds[i.toNat] := by simp [dat, hl]
  rw [e]
  refine ⟨?_, h.2 _ (List.getElem_mem hl)⟩
  rw [atI_map, atI_nat' _ _ h0 (by have := h.1; omega), List.getElem?_eq_getElem hl]
  rfl
/-! ### words -/
/-- one to eight small letters -/
def Stem (l : List Nat) : Prop := 1 ≤ l.length ∧ l.length ≤ 8 ∧ ∀ c ∈ l, 97 ≤ c ∧ c ≤ 122
/-- a word: a stem, alone or with a number from 2 to 99 -/
def WW (w : Str) : Prop := ∃ l, Stem l ∧ (w = S l ∨ ∃ n : Nat, 2 ≤ n ∧ n ≤ 99 ∧ w = S (l ++ 47 :: TL.numL n))
theorem numL_len {n : Nat} (h : n ≤ 99) : (TL.numL n).length ≤ 2 := by
  by_cases h' : n < 10
  · rw [TL.numL_lt h']; simp
  · rw [TL.numL_step (by omega), TL.numL_lt (by omega)]; simp
theorem slash : (Str.ofString "/") = S [47] := by decide +kernel
theorem abc : (Str.ofString "abcdefghijklmnopqrstuvwxyz") = S ((List.range 26).map (97 + ·)) := by decide +kernel
theorem nostr : (Str.ofString "") = S [] := by decide +kernel
theorem Stem.no47 {l : List Nat} (h : Stem l) : 47 ∉ l := fun hm => by have := h.2.2 _ hm; omega
theorem num_no47 (n : Nat) : 47 ∉ TL.numL n := fun hm => by
  have := TL.numL_digits n 47 hm
  revert this
  decide
theorem WW.len {w : Str} (h : WW w) : w.length ≤ 11 ∧ 1 ≤ w.length := by
  obtain ⟨l, hl, rfl | ⟨n, h2, h9, rfl⟩⟩ := h
  · rw [S_len]; exact ⟨Nat.le_trans hl.2.1 (by decide), hl.1⟩
  · have := numL_len h9
    have := hl.1
    have := hl.2.1
    rw [S_len, List.length_append, List.length_cons]
    omega
theorem split_stem {l : List Nat} (h : Stem l) : Txt.split (S l) (Str.ofString "/") = [S l] := by
  rw [slash, split_S (by simp) (by decide), TL.spl_last1 h.no47]
  rfl
theorem split_sense {l : List Nat} (h : Stem l) (n : Nat) : Txt.split (S (l ++ 47 :: TL.numL n)) (Str.ofString "/") = [S l, S (TL.numL n)] := by
  have e := TL.spl_part1 (S := []) (p := l) (rest := TL.numL n) (acc := []) h.no47
  have e2 := TL.spl_last1 (S := []) (acc := []) (num_no47 n)
  rw [slash, split_S (by simp) (by decide)]
  rw [show l ++ 47 :: TL.numL n = l ++ ([47] ++ TL.numL n) by simp, e, e2]
  rfl
theorem WW.split {w : Str} (h : WW w) : ∃ l r, Stem l ∧ Txt.split w (Str.ofString "/") = S l :: r := by
  obtain ⟨l, hl, rfl | ⟨n, h2, h9, rfl⟩⟩ := h
  · exact ⟨l, [], hl, split_stem hl⟩
  · exact ⟨l, [S (TL.numL n)], hl, split_sense hl n⟩
theorem abc_at {i : Int} (h0 : 0 ≤ i) (h1 : i < 26) : atI (Str.ofString "abcdefghijklmnopqrstuvwxyz").cps.toList i = some (97 + i.toNat) := by
  have e : (Str.ofString "abcdefghijklmnopqrstuvwxyz").cps.toList = (List.range 26).map (97 + ·) := by rw [abc]
  rw [e, atI_nat' _ _ h0 (by simpa using h1), List.getElem?_map, List.getElem?_range (by omega)]
  rfl
theorem abc_len : (Str.ofString "abcdefghijklmnopqrstuvwxyz").length = 26 := by rw [abc, S_len]; rfl
theorem joinL_ones : ∀ l : List Nat, TL.joinL [] (l.map fun c => [c]) = l
  | [] => rfl
  | [c] => rfl
  | c :: d :: l => by
    have := joinL_ones (d :: l)
    simp only [List.map_cons] at this ⊢
    rw [TL.joinL, this]
    rfl
theorem join_ones (l : List Nat) : Txt.join (Str.ofString "") (l.map fun c => S [c]) = S l := by
  have := join_S [] (l.map fun c => [c])
  rw [List.map_map, joinL_ones] at this
  rw [nostr]
  exact this
theorem sub_len {α : Type} [DecidableEq α] : ∀ {xs ys : List α}, xs.Nodup → (∀ x ∈ xs, x ∈ ys) → xs.length ≤ ys.length
  | [], _, _, _ => Nat.zero_le _
  | x :: xs, ys, h, hs => by
    have hx : x ∈ ys := hs x List.mem_cons_self
    have h1 := List.nodup_cons.mp h
    have := sub_len (xs := xs) (ys := ys.erase x) h1.2 fun y hy => (List.mem_erase_of_ne fun (e : y = x) => h1.1 (e ▸ hy)).mpr (hs y (List.mem_cons_of_mem _ hy))
    rw [List.length_erase_of_mem hx] at this
    have := List.length_pos_of_mem hx
    simp only [List.length_cons]
    omega
/-- the two-letter words that stand by -/
def spare (k : Nat) : Str := S [97 + k / 26, 97 + k % 26]
theorem spare_inj {j k : Nat} (h : spare j = spare k) : j = k := by
  have := S_inj h
  simp only [List.cons.injEq, and_true] at this
  omega
theorem spare_WW {k : Nat} (h : k < 40) : WW (spare k) := ⟨_, ⟨by simp, by simp, by
  intro c hc
  simp only [List.mem_cons, List.not_mem_nil, or_false] at hc
  omega⟩, .inl rfl⟩
theorem fresh_ex (w : Str) (ns : List Str) (hn : ns.length < 40) (hw : WW w) : ∃ v r, (w :: (List.range 40).map spare).filter (fun x => !decide (x ∈ ns)) = v :: r ∧ WW v ∧ v ∉ ns := by
  cases e : (w :: (List.range 40).map spare).filter (fun x => !decide (x ∈ ns)) with
  | nil =>
    exfalso
    have hs : ∀ x ∈ (List.range 40).map spare, x ∈ ns := fun x hx => by
      have := List.filter_eq_nil_iff.mp e x (List.mem_cons_of_mem _ hx)
      simpa using this
    have nd : ((List.range 40).map spare).Nodup := List.pairwise_map.mpr (List.nodup_range.imp fun hab e => hab (spare_inj e))
    have := sub_len nd hs
    simp at this
    omega
  | cons v r =>
    have hv : v ∈ (w :: (List.range 40).map spare).filter (fun x => !decide (x ∈ ns)) := by rw [e]; exact List.mem_cons_self
    rw [List.mem_filter] at hv
    refine ⟨v, r, rfl, ?_, by simpa using hv.2⟩
    rcases List.mem_cons.mp hv.1 with rfl | h
    · exact hw
    · obtain ⟨k, hk, rfl⟩ := List.mem_map.mp h
      exact spare_WW (List.mem_range.mp hk)
def ltr (d : Int) : Nat := 97 + (d % 26).toNat
theorem c_name1 {n : Nat} {ds : List Int} (h : Dr n ds) (hn : 12 ≤ n) (ρ : En) (m : Nat) (hm : m ≤ 8) (h0 : ρ = [some (true, .lst (ds.map .int)), some (true, .lst ns), some (false, .val (.str (Str.ofString "abcdefghijklmnopqrstuvwxyz"))), none, none, none, none, none]) :
    lcW none (.nm 6) tTrue (o2 ixS (oNm 2) (o2 modS (o2 ixS (oNm 0) (o2 addS (oC (.int 4)) (oNm 6))) (oC (.int 26)))) [6] (rng 0 m) ρ = .ok (((List.range m).map fun k => S [ltr (dat ds (4 + (k : Nat)))]).map .str) ρ := by
  subst h0
  rw [lc_rng (fun k => .str (S [ltr (dat ds (4 + (k : Nat)))])) m (by simp) (fun k hk => by
    obtain ⟨a1, a2, a3⟩ := h.at (4 + (k : Nat)) (by omega) (by omega)
    have b := abc_at (i := dat ds (4 + (k : Nat)) % 26) (by omega) (by omega)
    have l : (Str.ofString "abcdefghijklmnopqrstuvwxyz").length ≤ sizeLine := by rw [abc_len]; decide
    simp [lturn_ap, a1, b, l, ltr, S])]
  simp
theorem ltr_low (d : Int) : 97 ≤ ltr d ∧ ltr d ≤ 122 := by
  unfold ltr
  have := Int.emod_nonneg d (show (26 : Int) ≠ 0 by decide)
  have := Int.emod_lt_of_pos d (show (0 : Int) < 26 by decide)
  omega
theorem cat_slash (l : List Nat) (n : Nat) : S l ++ Str.ofString "/" ++ S (TL.numL n) = S (l ++ 47 :: TL.numL n) := by
  rw [slash, S_cat, S_cat]
  simp
noncomputable def rest_name : SS := (sSeq (sAsg 4 (o2 addS (oLst (oAs [oNm 3])) (c_l_name_2)))
  (sRet (o2 ixS (c_l_name_3) (oC (.int 0)))))
theorem c_name2 (a b : Sl) (w : Str) (x : Sl) :
    lcW none (.nm 6) tTrue (o2 addS (o2 ixS (oNm 2) (o2 fdivS (oNm 6) (oC (.int 26)))) (o2 ixS (oNm 2) (o2 modS (oNm 6) (oC (.int 26))))) [6] (rng 0 40) [a, b, some (false, .val (.str (Str.ofString "abcdefghijklmnopqrstuvwxyz"))), some (false, .val (.str w)), none, x, none, none] =
      .ok (((List.range 40).map spare).map .str) [a, b, some (false, .val (.str (Str.ofString "abcdefghijklmnopqrstuvwxyz"))), some (false, .val (.str w)), none, x, none, none] := by
  rw [lc_rng (fun k => .str (spare k)) 40 (by simp) (fun k hk => by
    have b1 := abc_at (i := (k : Int) / 26) (by omega) (by omega)
    have b2 := abc_at (i := (k : Int) % 26) (by omega) (by omega)
    have l : (Str.ofString "abcdefghijklmnopqrstuvwxyz").length ≤ sizeLine := by rw [abc_len]; decide
    have e : spare k = S [97 + k / 26] ++ S [97 + k % 26] := by rw [S_cat]; rfl
    have e1 : ((k : Int) / 26).toNat = k / 26 := by omega
    have e2 : ((k : Int) % 26).toNat = k % 26 := by omega
    have l2 : (S [97 + k / 26]).length + (S [97 + k % 26]).length ≤ sizeLine := by rw [S_len, S_len]; exact (by decide : 2 ≤ sizeLine)
    simp [lturn_ap, b1, b2, l, S, e1, e2] at l2 ⊢
    simp [l2, e])]
  simp
theorem rest_name_ex (ds : List Int) (ns : List Str) (hn : ns.length < 40) (w : Str) (hw : WW w) (x : Sl) : ∃ v, finO [.lst (ds.map .int), .lst (ns.map .str)] (rest_name [some (true, .lst (ds.map .int)), some (true, .lst (ns.map .str)), some (false, .val (.str (Str.ofString "abcdefghijklmnopqrstuvwxyz"))), some (false, .val (.str w)), none, x, none, none]) =
    .ret (.val (.str v)) [.lst (ds.map .int), .lst (ns.map .str)] ∧ WW v ∧ v ∉ ns := by
  obtain ⟨v, r, e, hv, hm⟩ := fresh_ex w ns hn hw
  refine ⟨v, ?_, hv, hm⟩
  have c2 := c_name2 (some (true, .lst (ds.map .int))) (some (true, .lst (ns.map .str))) w x
  have c3 := lc_if (f := PyData.str) (c := some (4, (w :: (List.range 40).map spare).map .str)) (T := .nm 7) (t := tV (o2 notinS (oNm 7) (oNm 1))) (g := oNm 7) (own := [7]) (ρ := [some (true, .lst (ds.map .int)), some (true, .lst (ns.map .str)), some (false, .val (.str (Str.ofString "abcdefghijklmnopqrstuvwxyz"))), some (false, .val (.str w)), some (true, .lst ((w :: (List.range 40).map spare).map .str)), x, none, none])
    (fun x => !decide (x ∈ ns)) PyData.str (w :: (List.range 40).map spare) (by simp) (by
      intro y hy
      by_cases h : y ∈ ns <;> simp [lturn_ap, h])
  rw [e] at c3
  have l : (Str.ofString "abcdefghijklmnopqrstuvwxyz").length ≤ sizeLine := by rw [abc_len]; decide
  have z : 1 + 40 ≤ sizeLine := by decide
  simp at c2 c3
  simp [rest_name, c_l_name_2, c_l_name_3, c2, c3, z]
theorem sum_ones {α : Type} : ∀ xs : List α, (xs.map fun _ => 1).sum = xs.length
  | [] => rfl
  | x :: xs => by
    rw [List.map_cons, List.sum_cons, sum_ones xs, List.length_cons]
    omega
theorem l_name_ex (ds : List Int) (ns : List Str) (h : Dr 12 ds) (hn : ns.length < 40) (hw : ∀ w ∈ ns, WW w) : ∃ w, f_l_name [.lst (ds.map .int), .lst (ns.map .str)] = .ret (.val (.str w)) [.lst (ds.map .int), .lst (ns.map .str)] ∧ WW w ∧ w ∉ ns := by
  obtain ⟨a0, b0, c0⟩ := h.at 0 (by omega) (by omega)
  obtain ⟨a1, b1, c1⟩ := h.at 1 (by omega) (by omega)
  obtain ⟨a2, b2, c2⟩ := h.at 2 (by omega) (by omega)
  obtain ⟨a3, b3, c3⟩ := h.at 3 (by omega) (by omega)
  -- the new name
  obtain ⟨m, em⟩ : ∃ m : Nat, m = (1 + dat ds 0 % 8).toNat := ⟨_, rfl⟩
  have hm : m ≤ 8 ∧ 1 ≤ m := by omega
  obtain ⟨l, el⟩ : ∃ l : List Nat, l = (List.range m).map fun k => ltr (dat ds (4 + (k : Nat))) := ⟨_, rfl⟩
  have hl : Stem l := ⟨by simp [el]; omega, by simp [el]; omega, by
    intro c hc
    rw [el] at hc
    obtain ⟨k, _, rfl⟩ := List.mem_map.mp hc
    exact ltr_low _⟩
  have e1 := c_name1 (ns := ns.map .str) h (Nat.le_refl 12) _ m hm.1 rfl
  have j1 : Txt.join (Str.ofString "") ((List.range m).map fun k => S [ltr (dat ds (4 + (k : Nat)))]) = S l := by
    have := join_ones l
    rw [el, List.map_map] at this
    rw [el]
    exact this
  have hm1 : (1 + dat ds 0 % 8) ≤ 1000000 := by omega
  have hm2 : (-4611686018427387904 : Int) ≤ (1 + dat ds 0 % 8) := by omega
  have js : (((List.range m).map fun k => S [ltr (dat ds (4 + (k : Nat)))]).map (·.length)).sum + ((List.range m).map fun k => S [ltr (dat ds (4 + (k : Nat)))]).length * (Str.ofString "").length ≤ 16777216 := by
    rw [nostr, S_len, List.map_map]
    have : (List.map ((fun x => x.length) ∘ fun k : Nat => S [ltr (dat ds (4 + (k : Nat)))]) (List.range m)) = (List.range m).map fun _ => 1 := List.map_congr_left fun k _ => by simp [S_len]
    rw [this, sum_ones]
    simp
    omega
  have jj : joinS (Str.ofString "") (.lst (((List.range m).map fun k => S [ltr (dat ds (4 + (k : Nat)))]).map .str)) = some (.val (.str (S l))) := by
    unfold joinS
    simp only [seq_lst, Option.bind_some, asStrs_map]
    rw [if_pos js, j1]
  have R := fun w hw x => rest_name_ex ds ns hn w hw x
  simp only [f_l_name, runF_fin, b_l_name, startE_ap]
  rw [← rest_name]
  have lw : 1 ≤ sizeLine := by decide
  by_cases h0 : ns = []
  · subst h0
    simp only [List.map_nil] at e1
    simp [-List.map_map, c_l_name_1, a0, hm1, hm2, ← em, e1, jj]
    simpa using R (S l) ⟨l, hl, .inl rfl⟩ none
  · have hp : 0 < ns.length := List.length_pos_iff.mpr h0
    have hp' : (0 : Int) < ns.length := by omega
    obtain ⟨w0, ew0, hw0⟩ : ∃ w0, atI (ns.map PyData.str) (dat ds 1 % ns.length) = some (.str w0) ∧ w0 ∈ ns := by
      have q1 := Int.emod_nonneg (dat ds 1) (show (ns.length : Int) ≠ 0 by omega)
      have q2 := Int.emod_lt_of_pos (dat ds 1) hp'
      have hl : (dat ds 1 % ns.length).toNat < ns.length := by omega
      refine ⟨ns[(dat ds 1 % ns.length).toNat], ?_, List.getElem_mem hl⟩
      rw [atI_map, atI_nat' _ _ q1 q2, List.getElem?_eq_getElem hl]
      rfl
    obtain ⟨st, r, hst, esp⟩ := (hw w0 hw0).split
    have l0 := (hw w0 hw0).len
    have sl1 : w0.length + 2 ≤ sizeLine := Nat.le_trans (show w0.length + 2 ≤ 13 by omega) (by decide)
    have sl2 : (Str.ofString "/").length = 1 := by rw [slash]; rfl
    have g1 : (S st).length + (S l).length ≤ sizeLine := by rw [S_len, S_len]; exact Nat.le_trans (show st.length + l.length ≤ 16 by have := hst.2.1; have := hl.2.1; omega) (by decide)
    have g2 : (S st ++ S l).length ≤ sizeLine := by rw [S_len, S_len] at g1; rw [S_cat, S_len, List.length_append]; exact g1
    have g3 : cutS (S st ++ S l) none (some 8) = S ((st ++ l).take 8) := by
      rw [C8.cutS_slice, S_cat, slice_to (by decide)]
      rfl
    have w1 : WW (S ((st ++ l).take 8)) := ⟨_, ⟨by have := hst.1; simp; omega, by simp; omega, by
      intro c hc
      rcases List.mem_append.mp (List.mem_of_mem_take hc) with h | h
      · exact hst.2.2 c h
      · exact hl.2.2 c h⟩, .inl rfl⟩
    obtain ⟨k, ek⟩ : ∃ k : Nat, (k : Int) = 2 + dat ds 3 % 98 := ⟨(2 + dat ds 3 % 98).toNat, by omega⟩
    have hk : 2 ≤ k ∧ k ≤ 99 := by omega
    have g4 : (S st).length + (Str.ofString "/").length ≤ sizeLine := by rw [S_len, sl2]; exact Nat.le_trans (show st.length + 1 ≤ 9 by have := hst.2.1; omega) (by decide)
    have g5 : (2 + dat ds 3 % 98).natAbs.log2 < 1920 := by rw [← ek]; exact Nat.lt_of_lt_of_le (Nat.log2_lt (by omega) |>.mpr (show k < 2 ^ 7 by omega)) (by decide)
    have g6 : Str.ofString (Int.repr (2 + dat ds 3 % 98)) = S (TL.numL k) := by rw [← ek]; exact num_S k
    have g7 : (S st ++ Str.ofString "/").length + (S (TL.numL k)).length ≤ sizeLine := by
      rw [slash, S_cat, S_len, S_len, List.length_append]
      exact Nat.le_trans (show st.length + [47].length + (TL.numL k).length ≤ 11 by have := hst.2.1; have := numL_len hk.2; simp; omega) (by decide)
    have w2 : WW (S st ++ Str.ofString "/" ++ S (TL.numL k)) := by
      rw [cat_slash]
      exact ⟨st, hst, .inr ⟨k, hk.1, hk.2, rfl⟩⟩
    have R1 := R _ w1 (some (false, .val (.str (S st))))
    have R2 := R _ w2 (some (false, .val (.str (S st))))
    have R3 := R (S l) ⟨l, hl, .inl rfl⟩ (some (false, .val (.str (S st))))
    have sp : splitS w0 (.val (.str (Str.ofString "/"))) = some (.lst ((S st :: r).map .str)) := by
      show (if ((Str.ofString "/").length == 0) = false ∧ w0.length + 2 ≤ sizeLine then some (O.lst ((Txt.split w0 (Str.ofString "/")).map PyData.str)) else none) = _
      rw [esp]
      simp [sl1, sl2]
    by_cases q1 : dat ds 2 % 4 = 1
    · have q2 : ¬ dat ds 2 % 4 = 2 := by omega
      simp [-List.map_map, c_l_name_1, a0, a1, a2, a3, hm1, hm2, ← em, e1, jj, hp', hp, ew0, sp, q1, q2, g1, g2, g3]
      simpa using R1
    · by_cases q2 : dat ds 2 % 4 = 2
      · simp [-List.map_map, c_l_name_1, a0, a1, a2, a3, hm1, hm2, ← em, e1, jj, hp', hp, ew0, sp, q1, q2, g4, g5, g6, g7]
        simpa using R2
      · simp [-List.map_map, c_l_name_1, a0, a1, a2, a3, hm1, hm2, ← em, e1, jj, hp', hp, ew0, sp, q1, q2]
        simpa using R3
end Eng
/-! The laws' makers of books, II: names, told words, books. -/
namespace Eng
open PySem PySem.Spec L2 SX
open PyProof.Rows hiding St
theorem small {n m : Nat} (h : n ≤ m) (hm : m < sizeLine := by decide) : n < sizeLine := Nat.lt_of_le_of_lt h hm
/-- so many words, no two alike -/
def Nm (n : Nat) (ws : List Str) : Prop := ws.length = n ∧ ws.Nodup ∧ ∀ w ∈ ws, WW w
theorem l_names_ex (ns : List Int) (base : Int) (n : Nat) (hb : 0 ≤ base ∧ base ≤ 10000) (hn : n ≤ 39) : ∃ ws, f_l_names [.scr ns, .val (.int base), .val (.int n)] = .ret (.lst (ws.map .str)) [.scr ns, .val (.int base), .val (.int n)] ∧ Nm n ws := by
  obtain ⟨ρ', e, ws, hw, rfl⟩ := forL_rng (lo := 0) (T := .nm 4) (fg := [4]) (b := w_l_names_1)
    (fun k ρ => ∃ ws : List Str, Nm k ws ∧ ρ = [some (false, .scr ns), some (false, .val (.int base)), some (false, .val (.int n)), some (false, .lst (ws.map .str)), none])
    n [some (false, .scr ns), some (false, .val (.int base)), some (false, .val (.int n)), some (false, .lst []), none] ⟨[], by simp [Nm], rfl⟩ (by
    rintro k ρ hk ⟨ws, ⟨hl, hd, hw⟩, rfl⟩
    obtain ⟨c, ec⟩ := l_cell_ex ns (base + k) (by omega)
    obtain ⟨ds, ed, hds⟩ := l_drawn_ex c 12 (by omega)
    obtain ⟨w, ew, h1, h2⟩ := l_name_ex ds ws hds (by omega) hw
    have z : ws.length < sizeLine := small (m := 39) (by omega)
    simp at ed
    refine ⟨_, by simp [-List.map_map, turn_ap, w_l_names_1, ec, ed, ew, z]; rfl, ws ++ [w], ⟨by simp [hl], ?_, ?_⟩, by simp⟩
    · rw [List.nodup_append]
      refine ⟨hd, by simp, fun a ha b hb e => h2 ?_⟩
      rw [List.mem_singleton] at hb
      rw [← hb, ← e]
      exact ha
    · intro v hv
      rw [List.mem_append, List.mem_singleton] at hv
      rcases hv with h | rfl
      · exact hw v h
      · exact h1)
  refine ⟨ws, ?_, hw⟩
  have hb : (n : Int) ≤ 1000000 := by omega
  have hb' : (-4611686018427387904 : Int) ≤ n := by omega
  simp [f_l_names, b_l_names, runF_ap, hb, hb']
  rw [e]
  simp
/-- words told: nought to eight of these, no two alike -/
def Td (ns ws : List Str) : Prop := ws.length ≤ 8 ∧ ws.Nodup ∧ ∀ w ∈ ws, w ∈ ns
theorem l_told_many (i : Int) (h0 : 0 ≤ i) (h1 : i < 10) : ∃ n : Nat, n ≤ 8 ∧ atI [PyData.int 0, PyData.int 0, PyData.int 1, PyData.int 1, PyData.int 1, PyData.int 2, PyData.int 2, PyData.int 2, PyData.int 3, PyData.int 8] i = some (.int n) := by
  have e : [PyData.int 0, PyData.int 0, PyData.int 1, PyData.int 1, PyData.int 1, PyData.int 2, PyData.int 2, PyData.int 2, PyData.int 3, PyData.int 8] = ([0, 0, 1, 1, 1, 2, 2, 2, 3, 8] : List Nat).map fun n : Nat => PyData.int n := rfl
  have hl : i.toNat < ([0, 0, 1, 1, 1, 2, 2, 2, 3, 8] : List Nat).length := by
    show i.toNat < 10
    omega
  refine ⟨([0, 0, 1, 1, 1, 2, 2, 2, 3, 8] : List Nat)[i.toNat], ?_, ?_⟩
  · have : ∀ n ∈ ([0, 0, 1, 1, 1, 2, 2, 2, 3, 8] : List Nat), n ≤ 8 := by decide
    exact this _ (List.getElem_mem hl)
  · rw [e, atI_map, atI_nat' _ _ h0 (by show i < 10; omega), List.getElem?_eq_getElem hl]
    rfl
theorem at_strs {ns : List Str} {i : Int} (h0 : 0 ≤ i) (h1 : i < ns.length) : ∃ w, atI (ns.map PyData.str) i = some (.str w) ∧ w ∈ ns := by
  have hl : i.toNat < ns.length := by omega
  refine ⟨ns[i.toNat], ?_, List.getElem_mem hl⟩
  rw [atI_map, atI_nat' _ _ h0 h1, List.getElem?_eq_getElem hl]
  rfl
theorem l_told_ex (ds : List Int) (ns : List Str) (h : Dr 11 ds) (hn : ns ≠ []) : ∃ ws, f_l_told [.lst (ds.map .int), .lst (ns.map .str)] = .ret (.val (eW ws)) [.lst (ds.map .int), .lst (ns.map .str)] ∧ Td ns ws := by
  have hp : 0 < ns.length := List.length_pos_iff.mpr hn
  have hp' : (0 : Int) < ns.length := by omega
  obtain ⟨a0, b0, c0⟩ := h.at 0 (by omega) (by omega)
  obtain ⟨a1, b1, c1⟩ := h.at 1 (by omega) (by omega)
  obtain ⟨a2, b2, c2⟩ := h.at 2 (by omega) (by omega)
  obtain ⟨m, hm, em⟩ := l_told_many (dat ds 1 % 10) (by omega) (by omega)
  have body : ∀ top : Int, 0 < top → top ≤ ns.length → ∃ ρ', forL none (.nm 4) [4, 5] w_l_told_1 (rng 0 m) [some (true, .lst (ds.map .int)), some (true, .lst (ns.map .str)), some (false, .val (.int top)), some (false, .lst []), none, none] = .nx ρ' ∧
      ∃ ws : List Str, (ws.length ≤ m ∧ ws.Nodup ∧ ∀ w ∈ ws, w ∈ ns) ∧ ρ' = [some (true, .lst (ds.map .int)), some (true, .lst (ns.map .str)), some (false, .val (.int top)), some (false, .lst (ws.map .str)), none, none] := fun top t0 t1 => by
    refine forL_rng (fun k ρ => ∃ ws : List Str, (ws.length ≤ k ∧ ws.Nodup ∧ ∀ w ∈ ws, w ∈ ns) ∧ ρ = [some (true, .lst (ds.map .int)), some (true, .lst (ns.map .str)), some (false, .val (.int top)), some (false, .lst (ws.map .str)), none, none]) m _ ⟨[], by simp, rfl⟩ ?_
    rintro k ρ hk ⟨ws, ⟨hl, hd, hw⟩, rfl⟩
    obtain ⟨a, b, c⟩ := h.at (3 + (k : Nat)) (by omega) (by omega)
    have q1 := Int.emod_nonneg (dat ds (3 + (k : Nat))) (show top ≠ 0 by omega)
    have q2 := Int.emod_lt_of_pos (dat ds (3 + (k : Nat))) t0
    obtain ⟨w, ew, hwn⟩ := at_strs (ns := ns) q1 (by omega)
    have z : ws.length < sizeLine := small (m := 8) (by omega)
    by_cases hin : w ∈ ws
    · exact ⟨_, by simp [-List.map_map, turn_ap, w_l_told_1, a, t0, ew, hin]; rfl, ws, ⟨by omega, hd, hw⟩, by simp⟩
    · refine ⟨_, by simp [-List.map_map, turn_ap, w_l_told_1, a, t0, ew, hin, z]; rfl, ws ++ [w], ⟨by simp; omega, ?_, ?_⟩, by simp⟩
      · rw [List.nodup_append]
        refine ⟨hd, by simp, fun a ha b hb e => hin ?_⟩
        rw [List.mem_singleton] at hb
        rw [← hb, ← e]
        exact ha
      · intro v hv
        rw [List.mem_append, List.mem_singleton] at hv
        rcases hv with h | rfl
        · exact hw v h
        · exact hwn
  have hb : (m : Int) ≤ 1000000 := by omega
  have hb' : (-4611686018427387904 : Int) ≤ m := by omega
  have q3 := Int.emod_lt_of_pos (dat ds 0) hp'
  have z10 : 10 ≤ 1000 := by decide
  by_cases k1 : 0 < dat ds 2 % 3
  · by_cases k2 : 0 < dat ds 0 % ns.length
    · obtain ⟨ρ', e, ws, hw, rfl⟩ := body _ k2 (by omega)
      refine ⟨ws, ?_, by omega, hw.2⟩
      simp [-List.map_map, f_l_told, b_l_told, runF_ap, a0, a1, a2, hp, hp', k1, k2, em, hb, hb', e, eW]
    · obtain ⟨ρ', e, ws, hw, rfl⟩ := body _ hp' (by omega)
      refine ⟨ws, ?_, by omega, hw.2⟩
      simp [-List.map_map, f_l_told, b_l_told, runF_ap, a0, a1, a2, hp, hp', k1, k2, em, hb, hb', e, eW]
  · obtain ⟨ρ', e, ws, hw, rfl⟩ := body _ hp' (by omega)
    refine ⟨ws, ?_, by omega, hw.2⟩
    simp [-List.map_map, f_l_told, b_l_told, runF_ap, a0, a1, a2, hp, hp', k1, em, hb, hb', e, eW]
end Eng
/-! The laws' makers of books, III: rows as keys, books. -/
namespace Eng
open PySem PySem.Spec L2 SX
open PyProof.Rows hiding St
theorem eqvAll_strs (a b : List Str) : PyData.eqvAll (a.map PyData.str) (b.map PyData.str) = decide (a = b) := by
  induction a generalizing b with
  | nil => cases b <;> simp [PyData.eqvAll]
  | cons x a ih =>
    cases b with
    | nil => simp [PyData.eqvAll]
    | cons y b =>
      simp only [List.map_cons, PyData.eqvAll, PyData.eqv, ih]
      by_cases h : x = y
      · by_cases h2 : a = b <;> simp [h, h2]
      · simp [h]
theorem eqv_eW (a b : List Str) : PyData.eqv (eW a) (eW b) = decide (a = b) := by
  simp only [eW, PyData.eqv, eqvAll_strs]
theorem eqv_row (r s : Row) : PyData.eqv (eRow r) (eRow s) = decide (r = s) := by
  obtain ⟨x, a⟩ := r
  obtain ⟨y, b⟩ := s
  simp only [eRow, PyData.eqv, PyData.eqvAll, eqv_eW]
  by_cases h : x = y
  · by_cases h2 : a = b <;> simp [h, h2]
  · simp [h]
theorem nkeys_strs (ws : List Str) : nkey.nkeys (ws.map PyData.str) = some (ws.map NestedKey.text) := by
  induction ws with
  | nil => rfl
  | cons w ws ih => simp [nkey.nkeys, nkey, ih]
theorem depth_texts (ws : List Str) : NestedKey.depthAll (ws.map NestedKey.text) = 0 := by
  induction ws with
  | nil => simp [NestedKey.depthAll]
  | cons w ws ih => simp [NestedKey.depthAll, NestedKey.depth, ih]
theorem nkey_row (r : Row) : (nkOf (eRow r)).isSome = true := by
  obtain ⟨x, a⟩ := r
  unfold nkOf
  simp [eRow, eW, nkey, nkey.nkeys, nkeys_strs, NestedKey.depth, NestedKey.depthAll, depth_texts]
/-- a dict whose keys are rows -/
def rd (rs : List Row) : List (D × D) := rs.map fun r => (eRow r, .bool true)
def addR (rs : List Row) (r : Row) : List Row := if r ∈ rs then rs else rs ++ [r]
theorem dOk_rd (rs : List Row) (r : Row) : dOk (rd rs) (eRow r) = true := by
  simp [dOk, rd, nkey_row]
theorem dhas_rd (rs : List Row) (r : Row) : dhas (rd rs) (eRow r) = decide (r ∈ rs) := by
  unfold dhas rd
  rw [List.any_map]
  induction rs with
  | nil => simp
  | cons s rs ih =>
    rw [List.any_cons, ih]
    simp only [Function.comp, eqv_row]
    by_cases h : s = r
    · simp [h]
    · have : ¬ r = s := fun e => h e.symm
      simp [h, this]
theorem dput_rd (rs : List Row) (r : Row) : dput (rd rs) (eRow r) (.bool true) = rd (addR rs r) := by
  unfold dput addR
  rw [dhas_rd]
  by_cases h : r ∈ rs
  · simp only [h, decide_true, if_true]
    unfold rd
    rw [List.map_map]
    refine List.map_congr_left fun w hw => ?_
    simp only [Function.comp]
    split <;> rfl
  · simp only [h, decide_false, Bool.false_eq_true, if_false]
    unfold rd
    rw [List.map_append]
    rfl
@[simp] theorem inS_rd (r : Row) (rs : List Row) : inS (.val (eRow r)) (.dic (rd rs)) = some (.val (.bool (decide (r ∈ rs)))) := by
  unfold inS hasS
  simp only [dOk_rd, dhas_rd, if_true]
  rfl
@[simp] theorem notinS_rd (r : Row) (rs : List Row) : notinS (.val (eRow r)) (.dic (rd rs)) = some (.val (.bool (!decide (r ∈ rs)))) := by
  unfold notinS hasS
  simp only [dOk_rd, dhas_rd, if_true]
  rfl
theorem len_rd (rs : List Row) : (rd rs).length = rs.length := by simp [rd]
@[simp] theorem setS_rd (r : Row) (rs : List Row) : setS (.dic (rd rs)) (eRow r) (.bool true) = if rs.length < sizeLine then some (.dic (rd (addR rs r))) else none := by
  unfold setS
  simp only [dOk_rd, dput_rd, len_rd, true_and]
@[simp] theorem ixS_row0 (r : Row) : ixS (.val (eRow r)) (.val (.int 0)) = some (.val (.str r.1)) := by
  simp [eRow]
@[simp] theorem ixS_row1 (r : Row) : ixS (.val (eRow r)) (.val (.int 1)) = some (.val (eW r.2)) := by
  simp [eRow]
@[simp] theorem seq_eW (ws : List Str) : (O.val (eW ws)).seq? = some (ws.map .str) := rfl
@[simp] theorem itemsD_eW (ws : List Str) : itemsD (eW ws) = some (ws.map .str) := rfl
@[simp] theorem sortS_eW (ws : List Str) : sortS (.val (eW ws)) = if ws.length ≤ sizeLine then some (.lst ((sortT ws).map PyData.str)) else none := sortS_tup ws
@[simp] theorem inS_eW (x : Str) (ws : List Str) : inS (.val (.str x)) (.val (eW ws)) = some (.val (.bool (decide (x ∈ ws)))) := inS_tup x ws
@[simp] theorem notinS_eW (x : Str) (ws : List Str) : notinS (.val (.str x)) (.val (eW ws)) = some (.val (.bool (!decide (x ∈ ws)))) := notinS_tup x ws
@[simp] theorem lenS_eW (ws : List Str) : lenS (.val (eW ws)) = some (.val (.int ws.length)) := by simp [eW]
/-- the row with its words told sorted -/
def keyR (r : Row) : Row := (r.1, sortT r.2)
/-- a row of a book over these words -/
def Rw (ns : List Str) (r : Row) : Prop := r.1 ∈ ns ∧ Td ns r.2
/-- a book: at most so many rows, no two alike, over these words -/
structure Bk (ns : List Str) (n : Nat) (b : List Row) : Prop where
  len : b.length ≤ n
  row : ∀ r ∈ b, Rw ns r
  key : (b.map keyR).Nodup
theorem l_book_ex (sc : List Int) (base : Int) (ns : List Str) (n : Nat) (hb : 0 ≤ base ∧ base ≤ 10000) (hn : n ≤ 100) (hne : ns ≠ []) : ∃ b, f_l_book [.scr sc, .val (.int base), .lst (ns.map .str), .val (.int n)] = .ret (.val (eBk b)) [.scr sc, .val (.int base), .lst (ns.map .str), .val (.int n)] ∧ Bk ns n b := by
  have hp : 0 < ns.length := List.length_pos_iff.mpr hne
  have hp' : (0 : Int) < ns.length := by omega
  obtain ⟨ρ', e, b, hw, rfl⟩ := forL_rng (lo := 0) (T := .nm 6) (fg := [6, 7, 8, 9]) (b := w_l_book_1)
    (fun k ρ => ∃ b : List Row, Bk ns k b ∧ ρ = [some (false, .scr sc), some (false, .val (.int base)), some (true, .lst (ns.map .str)), some (false, .val (.int n)), some (false, .lst (b.map eRow)), some (false, .dic (rd (b.map keyR))), none, none, none, none])
    n [some (false, .scr sc), some (false, .val (.int base)), some (true, .lst (ns.map .str)), some (false, .val (.int n)), some (false, .lst []), some (false, .dic []), none, none, none, none] ⟨[], ⟨by simp, by simp, by simp⟩, rfl⟩ (by
    rintro k ρ hk ⟨b, hB, rfl⟩
    obtain ⟨c, ec⟩ := l_cell_ex sc (base + k) (by omega)
    obtain ⟨ds, ed, hds⟩ := l_drawn_ex c 11 (by omega)
    obtain ⟨ws, ew, htd⟩ := l_told_ex ds ns hds hne
    simp at ed
    obtain ⟨a0, b0, c0⟩ := hds.at 0 (by omega) (by omega)
    have q1 := Int.emod_nonneg (dat ds 0) (show (ns.length : Int) ≠ 0 by omega)
    have q2 := Int.emod_lt_of_pos (dat ds 0) hp'
    obtain ⟨w, ew0, hw0⟩ := at_strs (ns := ns) q1 q2
    have z1 : ws.length ≤ sizeLine := Nat.le_of_lt (small (m := 8) htd.1)
    have z2 : b.length < sizeLine := small (m := 100) (Nat.le_trans hB.len (by omega))
    have ek : PyData.tuple [.str w, .tuple ((sortT ws).map .str)] = eRow (w, sortT ws) := rfl
    have er : PyData.tuple [.str w, eW ws] = eRow (w, ws) := rfl
    by_cases hin : (w, sortT ws) ∈ b.map keyR
    · exact ⟨_, by simp [-List.map_map, -List.mem_map, turn_ap, w_l_book_1, ec, ed, ew, a0, hp', hp, ew0, er, z1, ek, hin]; rfl, b, ⟨Nat.le_trans hB.len (by omega), hB.row, hB.key⟩, by simp⟩
    · refine ⟨_, by simp [-List.map_map, -List.mem_map, turn_ap, w_l_book_1, ec, ed, ew, a0, hp', hp, ew0, er, z1, ek, hin, z2]; rfl, b ++ [(w, ws)], ⟨?_, ?_, ?_⟩, ?_⟩
      · have := hB.len
        simp
        omega
      · intro r hr
        rw [List.mem_append, List.mem_singleton] at hr
        rcases hr with h | rfl
        · exact hB.row r h
        · exact ⟨hw0, htd⟩
      · rw [List.map_append, List.nodup_append]
        refine ⟨hB.key, by simp, fun a ha b hb e => hin ?_⟩
        rw [List.map_singleton, List.mem_singleton] at hb
        rw [hb] at e
        rw [e] at ha
        exact ha
      · have : addR (b.map keyR) (w, sortT ws) = (b ++ [(w, ws)]).map keyR := by
          unfold addR
          rw [if_neg hin]
          simp [keyR]
        simp [-List.map_map, -List.mem_map, this])
  refine ⟨b, ?_, hw⟩
  have hb : (n : Int) ≤ 1000000 := by omega
  have hb' : (-4611686018427387904 : Int) ≤ n := by omega
  simp [-List.map_map, f_l_book, b_l_book, runF_ap, hb, hb']
  rw [e]
  simp [-List.map_map, eBk]
theorem Bk.mono {ns : List Str} {n m : Nat} {b : List Row} (h : Bk ns n b) (hn : n ≤ m) : Bk ns m b := ⟨Nat.le_trans h.len hn, h.row, h.key⟩
theorem l_made_ex (sc : List Int) : ∃ ns b m, f_l_made [.scr sc] = .ret (.val (eBk b)) [.scr sc] ∧ Nm m ns ∧ 1 ≤ m ∧ m ≤ 14 ∧ Bk ns 40 b := by
  obtain ⟨c, ec⟩ := l_cell_ex sc 0 (by omega)
  obtain ⟨ds, ed, hds⟩ := l_drawn_ex c 4 (by omega)
  simp at ed
  obtain ⟨a0, b0, c0⟩ := hds.at 0 (by omega) (by omega)
  obtain ⟨a1, b1, c1⟩ := hds.at 1 (by omega) (by omega)
  obtain ⟨m, em⟩ : ∃ m : Nat, (m : Int) = 1 + dat ds 0 % 14 := ⟨(1 + dat ds 0 % 14).toNat, by omega⟩
  obtain ⟨n, en⟩ : ∃ n : Nat, (n : Int) = dat ds 1 % 41 := ⟨(dat ds 1 % 41).toNat, by omega⟩
  obtain ⟨ns, ens, hns⟩ := l_names_ex sc 1 m (by omega) (by omega)
  obtain ⟨b, eb, hb⟩ := l_book_ex sc 20 ns n (by omega) (by omega) (by
    intro e
    have := hns.1
    rw [e] at this
    simp at this
    omega)
  rw [em] at ens
  rw [en] at eb
  refine ⟨ns, b, m, ?_, hns, by omega, by omega, hb.mono (by omega)⟩
  simp [-List.map_map, f_l_made, b_l_made, runF_ap, ec, ed, a0, a1, ens, eb]
end Eng
/-! Rounds. -/
namespace Eng
open PySem PySem.Spec L2 SX
open PyProof.Rows hiding St
/-- a book that the defs are asked about -/
structure Bo (b : List Row) : Prop where
  len : b.length ≤ 200
  row : ∀ r ∈ b, WW r.1 ∧ r.2.length ≤ 20 ∧ ∀ w ∈ r.2, WW w
theorem Bk.bo {ns : List Str} {n : Nat} {b : List Row} (h : Bk ns n b) (hn : n ≤ 200) (hw : ∀ w ∈ ns, WW w) : Bo b :=
  ⟨Nat.le_trans h.len hn, fun r hr => by
    have := h.row r hr
    exact ⟨hw _ this.1, Nat.le_trans this.2.1 (by decide), fun w h2 => hw _ (this.2.2.2 w h2)⟩⟩
@[simp] theorem itemsD_eBk (b : List Row) : itemsD (eBk b) = some (b.map eRow) := rfl
@[simp] theorem lenS_eBk (b : List Row) : lenS (.val (eBk b)) = some (.val (.int b.length)) := by simp [eBk]
@[simp] theorem Tgt_row (i j : Nat) (r : Row) (ρ : En) : (Tgt.tup [i, j]).put (eRow r) ρ = setDs [i, j] [.str r.1, eW r.2] ρ := rfl
@[simp] theorem own_eRow (r : Row) : (O.val (eRow r)).own = false := rfl
theorem allS_map {α : Type} (f : α → Bool) (xs : List α) : allS (.lst (xs.map fun x => PyData.bool (f x))) = some (.val (.bool (xs.all f))) := by
  have : (xs.map fun x => PyData.bool (f x)) = (xs.map f).map PyData.bool := by rw [List.map_map]; rfl
  rw [this]
  simp only [allS_ap, list_lst, Option.bind_some, asBools_map, Option.map_some]
  rw [List.all_map]
  rfl
theorem WW.ok {w : Str} (h : WW w) : PyData.strOk w = true := by
  have key : ∀ l : List Nat, (∀ c ∈ l, c < 200) → PyData.strOk (S l) = true := fun l hl => by
    unfold PyData.strOk
    rw [← Array.all_toList]
    simp only [List.all_eq_true, decide_eq_true_eq]
    intro c hc
    have := hl c hc
    omega
  obtain ⟨l, hl, rfl | ⟨n, h2, h9, rfl⟩⟩ := h
  · exact key l fun c hc => by have := hl.2.2 c hc; omega
  · refine key _ fun c hc => ?_
    rcases List.mem_append.mp hc with h | h
    · have := hl.2.2 c h; omega
    · rcases List.mem_cons.mp h with rfl | h
      · omega
      · have := TL.numL_digits n c h
        omega
theorem canAll_strs {ws : List Str} (h : ∀ w ∈ ws, WW w) : PyData.canLayAll0 (ws.map PyData.str) = true := by
  induction ws with
  | nil => rfl
  | cons w ws ih =>
    simp only [List.map_cons, PyData.canLayAll0, PyData.canLay0, Bool.and_eq_true]
    exact ⟨(h w List.mem_cons_self).ok, ih fun v hv => h v (List.mem_cons_of_mem _ hv)⟩
theorem depthAll_strs (ws : List Str) : PyData.depthAll (ws.map PyData.str) = 0 := by
  induction ws with
  | nil => rfl
  | cons w ws ih => simp [PyData.depthAll, PyData.depth, ih]
theorem shaped_tup {ws : List Str} (h : ∀ w ∈ ws, WW w) : SeqAt.shaped (.tuple (ws.map PyData.str)) = true := by
  unfold SeqAt.shaped
  simp [PyData.canLay0, canAll_strs h, PyData.depth, depthAll_strs]
theorem eqS_tups {a b : List Str} (ha : ∀ w ∈ a, WW w) (hb : ∀ w ∈ b, WW w) : eqS (.val (.tuple (a.map PyData.str))) (.val (.tuple (b.map PyData.str))) = some (.val (.bool (decide (a = b)))) := by
  simp only [eqS, view_val, eqD?, shaped_tup ha, shaped_tup hb, Bool.and_self, Bool.or_true, if_true, PyData.eqv, eqvAll_strs, Option.map_some]
/-! ### rounds, plainly -/
/-- the row's word is new, and what is told is known -/
def rdy (k : List Str) (r : Row) : Bool := !decide (r.1 ∈ k) && r.2.all fun w => decide (w ∈ k)
def heads (b : List Row) : List Str := b.map (·.1)
/-- the words that come next -/
def frs (b : List Row) (k : List Str) : List Str := sortT (metT (heads (b.filter (rdy k))))
def rndF (b : List Row) : Nat → List Str → List (List Str)
  | 0, _ => []
  | n + 1, k => if frs b k = [] then [] else frs b k :: rndF b n (k ++ frs b k)
/-- the rounds of a book -/
def rnd (b : List Row) : List (List Str) := rndF b (b.length + 1) []
theorem frs_mem {b : List Row} {k : List Str} {w : Str} : w ∈ frs b k ↔ ∃ r ∈ b, r.1 = w ∧ rdy k r = true := by
  unfold frs heads
  rw [mem_sortT, mem_metT, List.mem_map]
  constructor
  · rintro ⟨r, hr, rfl⟩
    rw [List.mem_filter] at hr
    exact ⟨r, hr.1, rfl, hr.2⟩
  · rintro ⟨r, hr, rfl, h⟩
    exact ⟨r, List.mem_filter.mpr ⟨hr, h⟩, rfl⟩
theorem frs_nodup (b : List Row) (k : List Str) : (frs b k).Nodup := sortT_nodup (metT_nodup _)
theorem frs_new {b : List Row} {k : List Str} {w : Str} (h : w ∈ frs b k) : w ∉ k := by
  obtain ⟨r, hr, rfl, q⟩ := frs_mem.mp h
  unfold rdy at q
  simp only [Bool.and_eq_true, Bool.not_eq_true', decide_eq_false_iff_not] at q
  exact q.1
/-- rows whose word is not known: fewer and fewer -/
def left (b : List Row) (k : List Str) : Nat := (b.filter fun r => !decide (r.1 ∈ k)).length
theorem left_le (b : List Row) (k : List Str) : left b k ≤ b.length := List.length_filter_le _ _
theorem filter_lt {α : Type} {p q : α → Bool} : ∀ {l : List α}, (∀ x ∈ l, q x = true → p x = true) → (∃ x ∈ l, p x = true ∧ q x = false) → (l.filter q).length < (l.filter p).length
  | [], _, h => by obtain ⟨x, hx, _⟩ := h; simp at hx
  | x :: l, hpq, h => by
    have le : (l.filter q).length ≤ (l.filter p).length := by
      clear h
      induction l with
      | nil => simp
      | cons y l ih =>
        have ih := ih fun z hz => hpq z (by simp only [List.mem_cons] at hz ⊢; rcases hz with h | h; exact .inl h; exact .inr (.inr h))
        have hy := hpq y (by simp)
        rw [List.filter_cons, List.filter_cons]
        cases hq : q y with
        | true => simp [hy hq]; omega
        | false =>
          cases hp : p y with
          | true => simp; omega
          | false => simp; omega
    rw [List.filter_cons, List.filter_cons]
    cases hq : q x with
    | true =>
      have hp := hpq x List.mem_cons_self hq
      simp only [hp, if_true, List.length_cons]
      have : (l.filter q).length < (l.filter p).length := filter_lt (fun y hy => hpq y (List.mem_cons_of_mem _ hy)) (by
        obtain ⟨y, hy, h1, h2⟩ := h
        rcases List.mem_cons.mp hy with rfl | hy
        · rw [hq] at h2; cases h2
        · exact ⟨y, hy, h1, h2⟩)
      omega
    | false =>
      simp only [Bool.false_eq_true, if_false]
      cases hp : p x with
      | true => simp only [if_true, List.length_cons]; omega
      | false =>
        simp only [Bool.false_eq_true, if_false]
        exact filter_lt (fun y hy => hpq y (List.mem_cons_of_mem _ hy)) (by
          obtain ⟨y, hy, h1, h2⟩ := h
          rcases List.mem_cons.mp hy with rfl | hy
          · rw [hp] at h1; cases h1
          · exact ⟨y, hy, h1, h2⟩)
theorem left_lt {b : List Row} {k : List Str} (h : frs b k ≠ []) : left b (k ++ frs b k) < left b k := by
  obtain ⟨w, hw⟩ := List.exists_mem_of_ne_nil _ h
  obtain ⟨r, hr, e, q⟩ := frs_mem.mp hw
  have hn := frs_new hw
  refine filter_lt (fun s hs h1 => ?_) ⟨r, hr, ?_, ?_⟩
  · simp only [List.mem_append, Bool.not_eq_true', decide_eq_false_iff_not] at h1 ⊢
    exact fun h => h1 (.inl h)
  · simpa [e] using hn
  · simp [e, hw]
end Eng
/-! Rounds: the defs. -/
namespace Eng
open PySem PySem.Spec L2 SX
open PyProof.Rows hiding St
theorem metT_snoc (xs : List Str) (x : Str) : metT (xs ++ [x]) = addT (metT xs) x := by
  unfold metT
  rw [List.foldl_append]
  rfl
/-- words that are heads of rows, none twice: what is known -/
def Kn (b : List Row) (k : List Str) : Prop := k.Nodup ∧ ∀ w ∈ k, w ∈ heads b
theorem Kn.len {b : List Row} {k : List Str} (h : Kn b k) : k.length ≤ b.length := by
  have := sub_len h.1 h.2
  unfold heads at this
  rwa [List.length_map] at this
theorem Kn.nil (b : List Row) : Kn b [] := ⟨List.nodup_nil, by simp⟩
theorem frs_head {b : List Row} {k : List Str} {w : Str} (h : w ∈ frs b k) : w ∈ heads b := by
  obtain ⟨r, hr, rfl, _⟩ := frs_mem.mp h
  exact List.mem_map_of_mem hr
theorem Kn.add {b : List Row} {k : List Str} {w : Str} (h : Kn b k) (hw : w ∈ heads b) : Kn b (addT k w) := ⟨addT_nodup h.1, fun v hv => by
  rcases mem_addT.mp hv with h1 | rfl
  · exact h.2 v h1
  · exact hw⟩
theorem Kn.app {b : List Row} {k : List Str} (h : Kn b k) : Kn b (k ++ frs b k) := ⟨List.nodup_append.mpr ⟨h.1, frs_nodup b k, fun a ha c hc e => frs_new hc (e ▸ ha)⟩, fun v hv => by
  rcases List.mem_append.mp hv with h1 | h1
  · exact h.2 v h1
  · exact frs_head h1⟩
def eL (ws : List Str) : D := .list (ws.map PyData.str)
@[simp] theorem itemsD_eL (ws : List Str) : itemsD (eL ws) = some (ws.map .str) := rfl
@[simp] theorem list_eL (ws : List Str) : PyData.list (ws.map PyData.str) = eL ws := rfl
end Eng
/-! The law's rounds; learnt; order. -/
namespace Eng
open PySem PySem.Spec L2 SX
open PyProof.Rows hiding St
/-! ### what the rounds are -/
theorem rndF_flat {b : List Row} : ∀ {n : Nat} {k : List Str}, Kn b k → Kn b (k ++ (rndF b n k).flatten)
  | 0, k, h => by simpa [rndF] using h
  | n + 1, k, h => by
    unfold rndF
    split
    · simpa using h
    · have := rndF_flat (n := n) h.app
      simpa using this
theorem rnd_kn (b : List Row) : Kn b (rnd b).flatten := by
  have := rndF_flat (n := b.length + 1) (Kn.nil b)
  simpa [rnd] using this
end Eng
/-! Orders. -/
namespace Eng
open PySem PySem.Spec L2 SX
open PyProof.Rows hiding St
theorem ixS_eBk {b : List Row} {i : Nat} {r : Row} (h : b[i]? = some r) : ixS (.val (eBk b)) (.val (.int (i : Int))) = some (.val (eRow r)) := by
  have hl : i < b.length := (List.getElem?_eq_some_iff.mp h).1
  have : atI (b.map eRow) (i : Int) = some (eRow r) := by
    rw [atI_map, atI_nat' _ _ (by omega) (by omega)]
    simp [h]
  simp [eBk, this]
/-- a step: a word, the place of a row -/
abbrev Stp := Str × Nat
theorem addT_new {k : List Str} {w : Str} (h : w ∉ k) : addT k w = k ++ [w] := by
  unfold addT
  rw [if_neg h]
/-! ### steps walked -/
def Walk (b : List Row) : List Str → List Stp → Prop
  | _, [] => True
  | k, (w, n) :: st => w ∉ k ∧ (∃ r, b[n]? = some r ∧ r.1 = w ∧ ∀ v ∈ r.2, v ∈ k) ∧ Walk b (k ++ [w]) st
theorem Walk.at {b : List Row} : ∀ {done : List Stp} {k : List Str} {w : Str} {n : Nat} {rest : List Stp}, Walk b k (done ++ (w, n) :: rest) → w ∉ k ++ done.map (·.1) ∧ ∃ r, b[n]? = some r ∧ r.1 = w ∧ ∀ v ∈ r.2, v ∈ k ++ done.map (·.1)
  | [], k, w, n, rest, h => by
    obtain ⟨r, h2, h3, h4⟩ := h.2.1
    exact ⟨by simpa using h.1, r, h2, h3, by simpa using h4⟩
  | (v, m) :: done, k, w, n, rest, h => by
    have := Walk.at (done := done) h.2.2
    simpa using this
end Eng
/-! Words of books, rows of words, wider books. -/
namespace Eng
open PySem PySem.Spec L2 SX
open PyProof.Rows hiding St
/-- all words that stand in a book, as they stand -/
def wl (b : List Row) : List Str := (b.map fun r => r.1 :: r.2).flatten
/-- all words of a book, sorted -/
def wds (b : List Row) : List Str := sortT (metT (wl b))
theorem Bo.sub {b done rest : List Row} (h : Bo b) (e : b = done ++ rest) : Bo done := ⟨by
  have := h.len
  rw [e] at this
  simp at this
  omega, fun r hr => h.row r (by rw [e]; exact List.mem_append.mpr (.inl hr))⟩
theorem wds_mem {b : List Row} {w : Str} : w ∈ wds b ↔ ∃ r ∈ b, w = r.1 ∨ w ∈ r.2 := by
  unfold wds wl
  rw [mem_sortT, mem_metT, List.mem_flatten]
  constructor
  · rintro ⟨l, hl, hw⟩
    obtain ⟨r, hr, rfl⟩ := List.mem_map.mp hl
    exact ⟨r, hr, List.mem_cons.mp hw⟩
  · rintro ⟨r, hr, h⟩
    exact ⟨_, List.mem_map_of_mem hr, List.mem_cons.mpr h⟩
/-- the places of a word's rows -/
def hd? (b : List Row) (w : Str) (i : Nat) : Bool := match b[i]? with
  | some r => decide (r.1 = w)
  | none => false
def plcs (b : List Row) (w : Str) : List Nat := (List.range b.length).filter (hd? b w)
/-! ### rows in books -/
theorem Bo.ww {b : List Row} (h : Bo b) : ∀ r ∈ b, WW r.1 ∧ ∀ w ∈ r.2, WW w := fun r hr => ⟨(h.row r hr).1, (h.row r hr).2.2⟩
end Eng
/-! Data within all lines: repr, ==. -/
namespace Eng
open PySem PySem.Spec L2 SX
open PyProof.Rows hiding St
/-- data that lies within the lines: at most so deep, at most so heavy -/
structure Gd (d : D) (k W : Nat) : Prop where
  lay : d.canLay0 = true
  shw : d.showable = true
  shrt : d.intsShort 13 = true
  deep : d.depth ≤ k
  heavy : d.weight ≤ W
theorem Gd.mono {d : D} {k k' W W' : Nat} (h : Gd d k W) (hk : k ≤ k') (hW : W ≤ W') : Gd d k' W' := ⟨h.lay, h.shw, h.shrt, Nat.le_trans h.deep hk, Nat.le_trans h.heavy hW⟩
theorem Gd.str {x : Str} (h : PyData.strOk x = true) {n : Nat} (hl : x.length ≤ n) : Gd (.str x) 0 n := ⟨by simpa [PyData.canLay0] using h, by simp [PyData.showable], by simp [PyData.intsShort], by simp [PyData.depth], by simpa [PyData.weight, Str.length] using hl⟩
theorem WW.gd {w : Str} (h : WW w) : Gd (.str w) 0 11 := .str h.ok h.len.1
theorem Gd.bool (b : Bool) : Gd (.bool b) 0 0 := ⟨by simp [PyData.canLay0], by simp [PyData.showable], by simp [PyData.intsShort], by simp [PyData.depth], by simp [PyData.weight]⟩
theorem log2_le {n : Nat} (h : n < 1000000000000) : n.log2 ≤ 40 := by
  by_cases h0 : n = 0
  · subst h0; decide
  · have := (Nat.log2_lt h0 (k := 41)).mpr (by omega)
    omega
theorem Gd.int {i : Int} (h0 : 0 ≤ i) (h : i < 1000000000000) : Gd (.int i) 0 41 := by
  have hl := log2_le (n := i.natAbs) (by omega)
  refine ⟨by simp [PyData.canLay0], ?_, ?_, by simp [PyData.depth], ?_⟩
  · simp only [PyData.showable, decide_eq_true_eq]
    omega
  · simp only [PyData.intsShort, decide_eq_true_eq]
    have : (Str.ofString (toString i)).length ≤ 12 := toString_length_le h0 (by decide) (by show i < 1000000000000; exact h)
    have e : PyData.shown (.int i) = Str.ofString (toString i) := by rw [PyData.shown]
    rw [e]
    omega
  · simp only [PyData.weight]
    split <;> omega
theorem Gd.all {xs : List D} {k W : Nat} (h : ∀ x ∈ xs, Gd x k W) : PyData.canLayAll0 xs = true ∧ PyData.showableAll xs = true ∧ PyData.intsShortAll 13 xs = true ∧ PyData.depthAll xs ≤ k ∧ PyData.weightAll xs ≤ xs.length * (W + 1) := by
  induction xs with
  | nil => exact ⟨rfl, rfl, rfl, Nat.zero_le _, by simp [PyData.weightAll]⟩
  | cons x xs ih =>
    have g := h x List.mem_cons_self
    obtain ⟨i1, i2, i3, i4, i5⟩ := ih fun y hy => h y (List.mem_cons_of_mem _ hy)
    have := g.heavy
    refine ⟨by simp [PyData.canLayAll0, g.lay, i1], by simp [PyData.showableAll, g.shw, i2], by simp [PyData.intsShortAll, g.shrt, i3], ?_, ?_⟩
    · simp only [PyData.depthAll]
      exact Nat.max_le.mpr ⟨g.deep, i4⟩
    · simp only [PyData.weightAll, List.length_cons, Nat.add_mul]
      omega
theorem Gd.list {xs : List D} {k W : Nat} (h : ∀ x ∈ xs, Gd x k W) : Gd (.list xs) (k + 1) (xs.length * (W + 1)) := by
  obtain ⟨i1, i2, i3, i4, i5⟩ := Gd.all h
  exact ⟨by simpa [PyData.canLay0] using i1, by simpa [PyData.showable] using i2, by simpa [PyData.intsShort] using i3, by simpa [PyData.depth] using i4, by simpa [PyData.weight] using i5⟩
theorem Gd.tup {xs : List D} {k W : Nat} (h : ∀ x ∈ xs, Gd x k W) : Gd (.tuple xs) (k + 1) (xs.length * (W + 1)) := by
  obtain ⟨i1, i2, i3, i4, i5⟩ := Gd.all h
  exact ⟨by simpa [PyData.canLay0] using i1, by simpa [PyData.showable] using i2, by simpa [PyData.intsShort] using i3, by simpa [PyData.depth] using i4, by simpa [PyData.weight] using i5⟩
theorem Gd.map {α : Type} {f : α → D} {xs : List α} {k W : Nat} (h : ∀ x ∈ xs, Gd (f x) k W) : ∀ y ∈ xs.map f, Gd y k W := fun y hy => by
  obtain ⟨x, hx, rfl⟩ := List.mem_map.mp hy
  exact h x hx
theorem Gd.shaped {d : D} {k W : Nat} (h : Gd d k W) (hk : k ≤ 64) : SeqAt.shaped d = true := by
  unfold SeqAt.shaped
  have := h.deep
  simp [h.lay]
  omega
theorem Gd.repr {o : O} {d : D} {k W : Nat} (ho : o.view? = some d) (h : Gd d k W) (hk : k ≤ 32) (hW : W ≤ 1048576) : reprS o = some (.val (.str d.shown)) := by
  have h1 : d.layable0 = true := by
    unfold PyData.layable0
    have := h.deep
    have := h.heavy
    simp [h.lay]
    omega
  have h2 := shown_le13 h1 h.shrt
  have h3 : d.shown.length ≤ sizeLine := Nat.le_trans h2 (by decide)
  unfold reprS
  rw [ho]
  have := h.deep
  simp only
  rw [if_pos ⟨h.shw, PyData.hasDict_of_canLay d h.lay, by omega, h3⟩]
theorem Gd.eq {a b : O} {d : D} {k W : Nat} (ha : a.view? = some d) (hb : b.view? = some d) (h : Gd d k W) (hk : k ≤ 64) : eqS a b = some (.val (.bool true)) := by
  unfold eqS
  rw [ha, hb]
  simp [eqD?, h.shaped hk, SeqAt.eqv_refl d h.lay]
theorem Gd.ne {a b : O} {d : D} {k W : Nat} (ha : a.view? = some d) (hb : b.view? = some d) (h : Gd d k W) (hk : k ≤ 64) : neS a b = some (.val (.bool false)) := by
  unfold neS
  rw [ha, hb]
  simp [eqD?, h.shaped hk, SeqAt.eqv_refl d h.lay]
theorem Gd.strs {ws : List Str} (h : ∀ w ∈ ws, WW w) : Gd (.list (ws.map PyData.str)) 1 (ws.length * 12) := by
  have := Gd.list (xs := ws.map PyData.str) (k := 0) (W := 11) (Gd.map fun w hw => (h w hw).gd)
  rwa [List.length_map] at this
theorem Gd.eW {ws : List Str} (h : ∀ w ∈ ws, WW w) : Gd (eW ws) 1 (ws.length * 12) := by
  have := Gd.tup (xs := ws.map PyData.str) (k := 0) (W := 11) (Gd.map fun w hw => (h w hw).gd)
  rwa [List.length_map] at this
theorem Gd.row {r : Row} (h : WW r.1 ∧ r.2.length ≤ 20 ∧ ∀ w ∈ r.2, WW w) : Gd (eRow r) 2 500 := by
  have h1 := Gd.eW h.2.2
  have h2 := h.1.gd
  have := Gd.tup (xs := [.str r.1, Eng.eW r.2]) (k := 1) (W := 240) (by
    intro x hx
    simp only [List.mem_cons, List.not_mem_nil, or_false] at hx
    rcases hx with rfl | rfl
    · exact h2.mono (by omega) (by omega)
    · exact h1.mono (by omega) (by have := h.2.1; omega))
  exact this.mono (Nat.le_refl _) (by simp)
end Eng
/-! Wider books. -/
namespace Eng
open PySem PySem.Spec L2 SX
open PyProof.Rows hiding St
/-- all words told in a book -/
def tw (b : List Row) : List Str := (b.map (·.2)).flatten
theorem mem_heads {b : List Row} {w : Str} : w ∈ heads b ↔ ∃ r ∈ b, r.1 = w := by
  unfold heads
  rw [List.mem_map]
/-- a book with few words -/
structure Bf (b : List Row) : Prop where
  bo : Bo b
  few : (heads b).length + (tw b).length ≤ 2000
end Eng
/-! Orders that may be none. -/
namespace Eng
open PySem PySem.Spec L2 SX
open PyProof.Rows hiding St
/-- a step that may be none: a word, a whole number -/
abbrev SI := Str × Int
/-- the row at a place, where it is one -/
def at? (b : List Row) (i : Int) : Option Row := if 0 ≤ i then b[i.toNat]? else none
theorem at_some {b : List Row} {i : Int} {r : Row} (h : at? b i = some r) : 0 ≤ i ∧ i < b.length ∧ ixS (.val (eBk b)) (.val (.int i)) = some (.val (eRow r)) ∧ r ∈ b := by
  unfold at? at h
  split at h
  · rename_i h0
    have hl := (List.getElem?_eq_some_iff.mp h).1
    refine ⟨h0, by omega, ?_, List.mem_of_getElem? h⟩
    have := ixS_eBk h
    rwa [Int.toNat_of_nonneg h0] at this
  · cases h
/-- one step of an order -/
def stO (b : List Row) (k : List Str) (p : SI) : Option (List Str) := if p.1 ∈ k then none else match at? b p.2 with
  | some r => if r.1 = p.1 ∧ (r.2.all fun v => decide (v ∈ k)) = true then some (k ++ [p.1]) else none
  | none => none
theorem stO_some {b : List Row} {k k' : List Str} {p : SI} (h : stO b k p = some k') : p.1 ∉ k ∧ k' = k ++ [p.1] ∧ ∃ r, at? b p.2 = some r ∧ r.1 = p.1 ∧ (r.2.all fun v => decide (v ∈ k)) = true := by
  unfold stO at h
  split at h
  · cases h
  · rename_i hn
    split at h
    · rename_i r e
      split at h
      · rename_i hc
        cases h
        exact ⟨hn, rfl, r, e, hc⟩
      · cases h
    · cases h
theorem Kn.st {b : List Row} {k k' : List Str} {p : SI} (hk : Kn b k) (h : stO b k p = some k') : Kn b k' := by
  obtain ⟨h1, rfl, r, h2, h3, _⟩ := stO_some h
  have := hk.add (w := p.1) (mem_heads.mpr ⟨r, (at_some h2).2.2.2, h3⟩)
  rwa [addT_new h1] at this
end Eng
/-! What is learnt; knots. -/
namespace Eng
open PySem PySem.Spec L2 SX
open PyProof.Rows hiding St
/-! ### closures -/
/-- what is learnt, as it is learnt -/
def cls (b : List Row) : List Str := (rnd b).flatten
def lrn (b : List Row) : List Str := sortT (cls b)
theorem rndF_end {b : List Row} : ∀ {n : Nat} {k : List Str}, left b k < n → frs b (k ++ (rndF b n k).flatten) = []
  | 0, _, h => absurd h (Nat.not_lt_zero _)
  | n + 1, k, h => by
    unfold rndF
    split
    · rename_i e
      simpa using e
    · rename_i h0
      have := left_lt h0
      have ih := rndF_end (b := b) (n := n) (k := k ++ frs b k) (by omega)
      simpa using ih
theorem cls_end (b : List Row) : frs b (cls b) = [] := by
  have := rndF_end (b := b) (n := b.length + 1) (k := []) (by have := left_le b []; omega)
  simpa [cls, rnd] using this
/-- whoever knows all words told learns -/
theorem cls_closed {b : List Row} {r : Row} (hr : r ∈ b) (h : ∀ v ∈ r.2, v ∈ cls b) : r.1 ∈ cls b := by
  refine Classical.byContradiction fun hn => ?_
  have : r.1 ∈ frs b (cls b) := frs_mem.mpr ⟨r, hr, rfl, by
    unfold rdy
    simp only [hn, decide_false, Bool.not_false, Bool.true_and, List.all_eq_true, decide_eq_true_eq]
    exact h⟩
  rw [cls_end] at this
  cases this
/-- by what is closed all that is learnt is had -/
theorem rndF_min {b : List Row} {S : Str → Prop} (hS : ∀ r ∈ b, (∀ v ∈ r.2, S v) → S r.1) : ∀ {n : Nat} {k : List Str}, (∀ v ∈ k, S v) → ∀ v ∈ k ++ (rndF b n k).flatten, S v
  | 0, k, h => by simpa [rndF] using h
  | n + 1, k, h => by
    unfold rndF
    split
    · simpa using h
    · have h2 : ∀ v ∈ k ++ frs b k, S v := fun v hv => by
        rcases List.mem_append.mp hv with h1 | h1
        · exact h v h1
        · obtain ⟨r, hr, rfl, q⟩ := frs_mem.mp h1
          unfold rdy at q
          simp only [Bool.and_eq_true, List.all_eq_true, decide_eq_true_eq] at q
          exact hS r hr fun u hu => h u (q.2 u hu)
      have := rndF_min hS (n := n) h2
      simpa using this
theorem cls_min {b : List Row} {S : Str → Prop} (hS : ∀ r ∈ b, (∀ v ∈ r.2, S v) → S r.1) {w : Str} (h : w ∈ cls b) : S w := by
  have := rndF_min hS (n := b.length + 1) (k := []) (by simp)
  exact this w (by simpa [cls, rnd] using h)
theorem cls_kn (b : List Row) : Kn b (cls b) := rnd_kn b
theorem lrn_mem {b : List Row} {w : Str} : w ∈ lrn b ↔ w ∈ cls b := mem_sortT
/-! ### what is held back -/
/-- words that hold one another back -/
def Hs (b : List Row) (S : List Str) : Prop := ∀ w ∈ S, ∀ r ∈ b, r.1 = w → ∃ v ∈ r.2, v ∈ S
theorem Hs.not {b : List Row} {S : List Str} (h : Hs b S) {w : Str} (hw : w ∈ S) : w ∉ cls b := fun hc => by
  have := cls_min (S := fun v => v ∉ S) (b := b) (fun r hr hv hs => by
    obtain ⟨v, h1, h2⟩ := h r.1 hs r hr rfl
    exact hv v h1 h2) hc
  exact this hw
def bk1 (b : List Row) (S : List Str) (i : Nat) : Str := (((b[i]?.getD (Str.ofString "", [])).2.filter fun v => decide (v ∈ S)).head?).getD (Str.ofString "")
/-- for each row of a word the first word told that is held -/
def blk (b : List Row) (w : Str) (S : List Str) : List Str := (plcs b w).map (bk1 b S)
end Eng
/-! The law's words; its knots of given words. -/
namespace Eng
open PySem PySem.Spec L2 SX
open PyProof.Rows hiding St
def zipI : Option (List D × En) → Out (Option Nat × List D)
  | some ([.list ds, .tuple es], ρ2) => if (zipD ds es).length ≤ sizeLine then .ok (none, zipD ds es) ρ2 else .stuck
  | _ => .stuck
@[simp] theorem iZip_ap (f g : ES) (ρ : En) : iZip f g ρ = (oAs [f, g] ρ).bind fun ps ρ1 => zipI (gives ρ1 ps) := rfl
@[simp] theorem zipI_tup (ds es : List D) (ρ : En) : zipI (some ([.list ds, .tuple es], ρ)) = if (zipD ds es).length ≤ sizeLine then .ok (none, zipD ds es) ρ else .stuck := rfl
@[simp] theorem zipI_eW (ds : List D) (ws : List Str) (ρ : En) : zipI (some ([.list ds, eW ws], ρ)) = if (zipD ds (ws.map PyData.str)).length ≤ sizeLine then .ok (none, zipD ds (ws.map PyData.str)) ρ else .stuck := rfl
/-! ### the greatest knot of given words -/
def okH (b : List Row) (S : List Str) (w : Str) : Bool := (b.filter fun r => decide (r.1 = w)).all fun r => r.2.any fun v => decide (v ∈ S)
def hst (b : List Row) (S : List Str) : List Str := S.filter (okH b S)
def hfx (b : List Row) : Nat → List Str → List Str
  | 0, S => S
  | n + 1, S => if (hst b S).length < S.length then hfx b n (hst b S) else hst b S
end Eng
/-! What is a knot. -/
namespace Eng
open PySem PySem.Spec L2 SX
open PyProof.Rows hiding St
end Eng
/-! Prices, plainly; dicts from texts to whole numbers. -/
namespace Eng
open PySem PySem.Spec L2 SX
open PyProof.Rows hiding St
/-- a dict of prices -/
abbrev Cs := List (Str × Int)
def eCs (C : Cs) : List (D × D) := sd PyData.int C
def cget (C : Cs) (w : Str) : Option Int := (C.find? fun e => decide (e.1 = w)).map (·.2)
def cput (C : Cs) (w : Str) (v : Int) : Cs := if w ∈ C.map (·.1) then C.map (fun e => if e.1 = w then (e.1, v) else e) else C ++ [(w, v)]
theorem eqv_s (x y : Str) : PyData.eqv (.str x) (.str y) = decide (x = y) := by
  rw [eqv_str]
  by_cases h : x = y <;> simp [h]
theorem dget_cs (C : Cs) (w : Str) : dget (eCs C) (.str w) = (cget C w).map PyData.int := by
  unfold dget eCs sd cget
  rw [List.find?_map]
  have : ((fun e : D × D => PyData.eqv e.1 (.str w)) ∘ fun e : Str × Int => ((.str e.1, .int e.2) : D × D)) = fun e : Str × Int => decide (e.1 = w) := by
    funext e
    exact eqv_s _ _
  rw [this]
  cases C.find? fun e => decide (e.1 = w) <;> rfl
theorem dput_cs (C : Cs) (w : Str) (v : Int) : dput (eCs C) (.str w) (.int v) = eCs (cput C w v) := by
  unfold dput cput
  have h := dhas_sd PyData.int C w
  unfold eCs
  rw [h]
  by_cases hm : w ∈ C.map (·.1)
  · simp only [hm, decide_true, if_true]
    unfold sd
    rw [List.map_map, List.map_map]
    refine List.map_congr_left fun e _ => ?_
    simp only [Function.comp, eqv_s]
    by_cases hw : e.1 = w <;> simp [hw]
  · simp only [hm, decide_false, Bool.false_eq_true, if_false]
    unfold sd
    rw [List.map_append]
    rfl
theorem len_cs (C : Cs) : (eCs C).length = C.length := by simp [eCs, sd]
@[simp] theorem inS_cs (x : Str) (C : Cs) : inS (.val (.str x)) (.dic (eCs C)) = some (.val (.bool (decide (x ∈ C.map (·.1))))) := by
  unfold inS hasS eCs
  simp only [dOk_sd, dhas_sd, if_true]
  rfl
@[simp] theorem notinS_cs (x : Str) (C : Cs) : notinS (.val (.str x)) (.dic (eCs C)) = some (.val (.bool (!decide (x ∈ C.map (·.1))))) := by
  unfold notinS hasS eCs
  simp only [dOk_sd, dhas_sd, if_true]
  rfl
@[simp] theorem ixS_cs (x : Str) (C : Cs) : ixS (.dic (eCs C)) (.val (.str x)) = (cget C x).map fun i => .val (.int i) := by
  show (if dOk (eCs C) (.str x) = true then (dget (eCs C) (.str x)).map O.val else none) = _
  have h : dOk (eCs C) (.str x) = true := dOk_sd _ _ _
  rw [if_pos h, dget_cs, Option.map_map]
  rfl
@[simp] theorem setS_cs (x : Str) (v : Int) (C : Cs) : setS (.dic (eCs C)) (.str x) (.int v) = if C.length < sizeLine then some (.dic (eCs (cput C x v))) else none := by
  unfold setS
  have h : dOk (eCs C) (.str x) = true := dOk_sd _ _ _
  simp only [h, dput_cs, len_cs, true_and]
@[simp] theorem sortS_cs (C : Cs) : sortS (.dic (eCs C)) = if C.length ≤ sizeLine then some (.lst ((sortT (C.map (·.1))).map PyData.str)) else none := sortS_sd PyData.int C
theorem cget_none {C : Cs} {w : Str} : cget C w = none ↔ w ∉ C.map (·.1) := by
  unfold cget
  rw [Option.map_eq_none_iff, List.find?_eq_none]
  simp only [decide_eq_true_eq, List.mem_map, not_exists, not_and]
theorem cget_mem {C : Cs} {w : Str} {v : Int} (h : cget C w = some v) : w ∈ C.map (·.1) := Classical.byContradiction fun hn => by
  rw [cget_none.mpr hn] at h
  cases h
theorem cget_some {C : Cs} {w : Str} (h : w ∈ C.map (·.1)) : ∃ v, cget C w = some v := by
  cases e : cget C w with
  | some v => exact ⟨v, rfl⟩
  | none => exact absurd h (cget_none.mp e)
theorem cget_cons (e : Str × Int) (C : Cs) (w : Str) : cget (e :: C) w = if e.1 = w then some e.2 else cget C w := by
  unfold cget
  rw [List.find?_cons]
  by_cases h : e.1 = w <;> simp [h]
theorem cget_app (C : Cs) (w v : Str) (x : Int) : cget (C ++ [(w, x)]) v = match cget C v with | some y => some y | none => if w = v then some x else none := by
  induction C with
  | nil => rw [List.nil_append, cget_cons]; rfl
  | cons e C ih =>
    rw [List.cons_append, cget_cons, cget_cons, ih]
    by_cases h : e.1 = v <;> simp [h]
theorem cget_map (C : Cs) (w v : Str) (x : Int) : cget (C.map fun e => if e.1 = w then (e.1, x) else e) v = if v = w ∧ w ∈ C.map (·.1) then some x else cget C v := by
  induction C with
  | nil => simp [cget]
  | cons e C ih =>
    rw [List.map_cons, cget_cons, cget_cons, ih]
    by_cases h1 : e.1 = w
    · by_cases h2 : v = w
      · subst h2; simp [h1]
      · have h3 : ¬ e.1 = v := fun q => h2 (q.symm.trans h1)
        have h4 : ¬ w = v := fun q => h2 q.symm
        simp [h1, h2, h3, h4]
    · by_cases h2 : v = w
      · subst h2
        have h3 : ¬ v = e.1 := fun q => h1 q.symm
        have h4 : (v ∈ (e :: C).map (·.1)) ↔ v ∈ C.map (·.1) := by
          rw [List.map_cons, List.mem_cons]
          exact ⟨fun h => h.resolve_left h3, .inr⟩
        simp only [h1, if_false, h4]
      · by_cases h3 : e.1 = v <;> simp [h1, h2, h3]
theorem cget_put (C : Cs) (w v : Str) (x : Int) : cget (cput C w x) v = if v = w then some x else cget C v := by
  unfold cput
  split
  · rename_i h
    rw [cget_map]
    by_cases hv : v = w <;> simp [hv, h]
  · rename_i h
    rw [cget_app]
    by_cases hv : v = w
    · subst hv
      rw [cget_none.mpr h]
    · have : ¬ w = v := fun q => hv q.symm
      simp only [this, hv, if_false]
      cases cget C v <;> rfl
theorem cput_keys (C : Cs) (w : Str) (x : Int) : (cput C w x).map (·.1) = addT (C.map (·.1)) w := by
  unfold cput addT
  split
  · rw [List.map_map]
    refine List.map_congr_left fun e _ => ?_
    simp only [Function.comp]
    split <;> rfl
  · rw [List.map_append]
    rfl
/-! ### prices by a row -/
def pby (C : Cs) (ws : List Str) : Option Int := ws.foldlM (fun L w => (cget C w).map (L + ·)) 1
theorem pby_go (C : Cs) : ∀ (ws : List Str) (L : Int), ws.foldlM (fun L w => (cget C w).map (L + ·)) L = if (ws.all fun w => decide (w ∈ C.map (·.1))) = true then some (L + (ws.map fun w => (cget C w).getD 0).sum) else none
  | [], L => by simp
  | w :: ws, L => by
    rw [List.foldlM_cons]
    cases e : cget C w with
    | none =>
      have := cget_none.mp e
      simp only [List.all_cons, this, decide_false, Bool.false_and, Bool.false_eq_true, if_false, Option.map_none]
      rfl
    | some v =>
      have := cget_mem e
      show (ws.foldlM (fun L w => (cget C w).map (L + ·)) (L + v)) = _
      rw [pby_go C ws (L + v)]
      simp only [List.all_cons, this, decide_true, Bool.true_and, List.map_cons, e, Option.getD_some, List.sum_cons]
      split
      · rw [Int.add_assoc]
      · rfl
theorem pby_all (C : Cs) (ws : List Str) : pby C ws = if (ws.all fun w => decide (w ∈ C.map (·.1))) = true then some (1 + (ws.map fun w => (cget C w).getD 0).sum) else none := pby_go C ws 1
/-- one row's turn -/
def stC (s : Cs × Bool) (r : Row) : Cs × Bool := match pby s.1 r.2 with
  | none => s
  | some L => match cget s.1 r.1 with
    | none => (cput s.1 r.1 L, true)
    | some c => if L < c then (cput s.1 r.1 L, true) else s
def passC (b : List Row) (C : Cs) : Cs × Bool := b.foldl stC (C, false)
def itC (b : List Row) : Nat → Cs → Option Cs
  | 0, _ => none
  | n + 1, C => if (passC b C).2 = true then itC b n (passC b C).1 else some (passC b C).1
/-- what holds of the prices all the time -/
structure Iv (b : List Row) (C : Cs) : Prop where
  kn : Kn b (C.map (·.1))
  pos : ∀ w c, cget C w = some c → 1 ≤ c
  row : ∀ w c, cget C w = some c → ∃ r ∈ b, r.1 = w ∧ ∃ L, pby C r.2 = some L ∧ L ≤ c
theorem sum_le {α : Type} {f g : α → Int} : ∀ {xs : List α}, (∀ x ∈ xs, f x ≤ g x) → (xs.map f).sum ≤ (xs.map g).sum
  | [], _ => Int.le_refl _
  | x :: xs, h => by
    have h1 := h x List.mem_cons_self
    have h2 := sum_le fun y hy => h y (List.mem_cons_of_mem _ hy)
    simp only [List.map_cons, List.sum_cons]
    omega
theorem sum_pos {α : Type} {f : α → Int} : ∀ {xs : List α}, (∀ x ∈ xs, 0 ≤ f x) → 0 ≤ (xs.map f).sum
  | [], _ => Int.le_refl _
  | x :: xs, h => by
    have h1 := h x List.mem_cons_self
    have h2 := sum_pos fun y hy => h y (List.mem_cons_of_mem _ hy)
    simp only [List.map_cons, List.sum_cons]
    omega
theorem pby_some {C : Cs} {ws : List Str} {L : Int} (h : pby C ws = some L) : (∀ w ∈ ws, w ∈ C.map (·.1)) ∧ L = 1 + (ws.map fun w => (cget C w).getD 0).sum := by
  rw [pby_all] at h
  split at h
  · rename_i h1
    cases h
    exact ⟨fun w hw => of_decide_eq_true (List.all_eq_true.mp h1 w hw), rfl⟩
  · cases h
theorem pby_of {C : Cs} {ws : List Str} (h : ∀ w ∈ ws, w ∈ C.map (·.1)) : pby C ws = some (1 + (ws.map fun w => (cget C w).getD 0).sum) := by
  rw [pby_all, if_pos (List.all_eq_true.mpr fun w hw => decide_eq_true (h w hw))]
/-- lower prices all over -/
theorem pby_mono {C E : Cs} (h : ∀ w c, cget C w = some c → ∃ d, cget E w = some d ∧ d ≤ c) {ws : List Str} {L : Int} (hp : pby C ws = some L) : ∃ M, pby E ws = some M ∧ M ≤ L := by
  obtain ⟨h1, rfl⟩ := pby_some hp
  have hE : ∀ w ∈ ws, w ∈ E.map (·.1) := fun w hw => by
    obtain ⟨c, hc⟩ := cget_some (h1 w hw)
    obtain ⟨d, hd, _⟩ := h w c hc
    exact cget_mem hd
  refine ⟨_, pby_of hE, ?_⟩
  have := sum_le (f := fun w => (cget E w).getD 0) (g := fun w => (cget C w).getD 0) (xs := ws) (fun w hw => by
    obtain ⟨c, hc⟩ := cget_some (h1 w hw)
    obtain ⟨d, hd, hle⟩ := h w c hc
    rw [hc, hd]
    exact hle)
  omega
theorem Iv.put {b : List Row} {C : Cs} (h : Iv b C) {r : Row} (hr : r ∈ b) {L : Int} (hp : pby C r.2 = some L) (hlt : ∀ c, cget C r.1 = some c → L < c) : Iv b (cput C r.1 L) := by
  have hL : 1 ≤ L := by
    obtain ⟨h1, rfl⟩ := pby_some hp
    have := sum_pos (f := fun w => (cget C w).getD 0) (xs := r.2) (fun w hw => by
      obtain ⟨c, hc⟩ := cget_some (h1 w hw)
      rw [hc]
      have := h.pos w c hc
      show 0 ≤ c
      omega)
    omega
  have low : ∀ w c, cget C w = some c → ∃ d, cget (cput C r.1 L) w = some d ∧ d ≤ c := fun w c hc => by
    rw [cget_put]
    by_cases hw : w = r.1
    · subst hw
      exact ⟨L, by simp, Int.le_of_lt (hlt c hc)⟩
    · exact ⟨c, by simp [hw, hc], Int.le_refl _⟩
  refine ⟨?_, fun w c hc => ?_, fun w c hc => ?_⟩
  · rw [cput_keys]
    exact h.kn.add (List.mem_map_of_mem hr)
  · rw [cget_put] at hc
    split at hc
    · cases hc; exact hL
    · exact h.pos w c hc
  · rw [cget_put] at hc
    split at hc
    · rename_i hw
      cases hc
      obtain ⟨M, hM, hle⟩ := pby_mono low hp
      exact ⟨r, hr, hw.symm, M, hM, hle⟩
    · obtain ⟨r', hr', e, M, hM, hle⟩ := h.row w c hc
      obtain ⟨M', hM', hle'⟩ := pby_mono low hM
      exact ⟨r', hr', e, M', hM', by omega⟩
/-- how much may fall yet -/
def mea (b : List Row) (C : Cs) : Nat × Nat := (b.length - (C.map (·.1)).length, (C.map fun e => e.2.toNat).sum)
theorem sum_put : ∀ (C : Cs) (w : Str) (L c : Int), (C.map (·.1)).Nodup → cget C w = some c → 0 ≤ L → L < c → ((C.map fun e => if e.1 = w then (e.1, L) else e).map fun e => e.2.toNat).sum < (C.map fun e => e.2.toNat).sum
  | [], _, _, _, _, h, _, _ => by simp [cget] at h
  | e :: C, w, L, c, nd, h, h0, hlt => by
    rw [cget_cons] at h
    rw [List.map_cons] at nd
    have nd := List.nodup_cons.mp nd
    by_cases hw : e.1 = w
    · rw [if_pos hw] at h
      cases h
      have same : (C.map fun e => if e.1 = w then (e.1, L) else e) = C := by
        have : (C.map fun e => if e.1 = w then (e.1, L) else e) = C.map id := List.map_congr_left fun x hx => by
          have : ¬ x.1 = w := fun q => nd.1 (by rw [hw, ← q]; exact List.mem_map_of_mem hx)
          simp [this]
        rw [this, List.map_id]
      simp only [List.map_cons, hw, if_true, same, List.sum_cons]
      omega
    · rw [if_neg hw] at h
      have := sum_put C w L c nd.2 h h0 hlt
      simp only [List.map_cons, hw, if_false, List.sum_cons]
      omega
theorem stC_iv {b : List Row} {C : Cs} {f : Bool} (h : Iv b C) {r : Row} (hr : r ∈ b) : Iv b (stC (C, f) r).1 ∧ ((stC (C, f) r) = (C, f) ∨ ((stC (C, f) r).2 = true ∧ Prod.Lex Nat.lt Nat.lt (mea b (stC (C, f) r).1) (mea b C))) := by
  unfold stC
  cases hp : pby C r.2 with
  | none => exact ⟨h, .inl rfl⟩
  | some L =>
    simp only
    have hL : 0 ≤ L := by
      obtain ⟨h1, rfl⟩ := pby_some hp
      have := sum_pos (f := fun w => (cget C w).getD 0) (xs := r.2) (fun w hw => by
        obtain ⟨c, hc⟩ := cget_some (h1 w hw)
        rw [hc]
        have := h.pos w c hc
        show 0 ≤ c
        omega)
      omega
    cases hc : cget C r.1 with
    | none =>
      simp only
      refine ⟨h.put hr hp (fun c q => by rw [hc] at q; cases q), .inr ⟨trivial, ?_⟩⟩
      refine Prod.Lex.left _ _ ?_
      have hn := cget_none.mp hc
      have h2 := (h.kn.add (w := r.1) (List.mem_map_of_mem hr)).len
      rw [addT_new hn, List.length_append, List.length_singleton] at h2
      rw [cput_keys, addT_new hn, List.length_append, List.length_singleton]
      show b.length - ((C.map (·.1)).length + 1) < b.length - (C.map (·.1)).length
      omega
    | some c =>
      simp only
      split
      · rename_i hlt
        refine ⟨h.put hr hp (fun c' q => by rw [hc] at q; cases q; exact hlt), .inr ⟨by first | rfl | trivial, ?_⟩⟩
        unfold mea
        rw [cput_keys]
        have hm := cget_mem hc
        have e1 : addT (C.map (·.1)) r.1 = C.map (·.1) := by unfold addT; rw [if_pos hm]
        rw [e1]
        refine Prod.Lex.right _ ?_
        unfold cput
        rw [if_pos hm]
        exact sum_put C r.1 L c h.kn.1 hc hL hlt
      · exact ⟨h, .inl rfl⟩
theorem lex_trans {a c d : Nat × Nat} (h1 : Prod.Lex Nat.lt Nat.lt a c) (h2 : Prod.Lex Nat.lt Nat.lt c d) : Prod.Lex Nat.lt Nat.lt a d := by
  rw [Prod.lex_def] at *
  have : ∀ x y, Nat.lt x y ↔ x < y := fun _ _ => Iff.rfl
  simp only [this] at *
  omega
theorem fold_iv {b : List Row} : ∀ (rs : List Row) (C : Cs) (f : Bool), (∀ r ∈ rs, r ∈ b) → Iv b C → Iv b (rs.foldl stC (C, f)).1 ∧ ((rs.foldl stC (C, f)) = (C, f) ∨ ((rs.foldl stC (C, f)).2 = true ∧ Prod.Lex Nat.lt Nat.lt (mea b (rs.foldl stC (C, f)).1) (mea b C)))
  | [], C, f, _, h => ⟨h, .inl rfl⟩
  | r :: rs, C, f, hs, h => by
    obtain ⟨h1, h2⟩ := stC_iv (f := f) h (hs r List.mem_cons_self)
    rw [List.foldl_cons]
    obtain ⟨C1, f1, hst⟩ : ∃ C1 f1, stC (C, f) r = (C1, f1) := ⟨_, _, rfl⟩
    rw [hst] at h1 h2 ⊢
    obtain ⟨h3, h4⟩ := fold_iv rs C1 f1 (fun x hx => hs x (List.mem_cons_of_mem _ hx)) h1
    refine ⟨h3, ?_⟩
    rcases h2 with h2 | ⟨h2, h2'⟩
    · cases h2
      exact h4
    · rcases h4 with h4 | ⟨h4, h4'⟩
      · rw [h4]
        exact .inr ⟨h2, h2'⟩
      · exact .inr ⟨h4, lex_trans h4' h2'⟩
end Eng
/-! Prices: the defs. -/
namespace Eng
open PySem PySem.Spec L2 SX
open PyProof.Rows hiding St
theorem Iv.nil (b : List Row) : Iv b [] := ⟨Kn.nil b, by simp [cget], by simp [cget]⟩
theorem passC_iv {b : List Row} {C : Cs} (h : Iv b C) : Iv b (passC b C).1 ∧ (passC b C = (C, false) ∨ ((passC b C).2 = true ∧ Prod.Lex Nat.lt Nat.lt (mea b (passC b C).1) (mea b C))) := fold_iv b C false (fun _ h => h) h
theorem it_ex (b : List Row) (C : Cs) (h : Iv b C) : ∃ n C', itC b n C = some C' ∧ Iv b C' ∧ passC b C' = (C', false) := by
  have wf : WellFounded (InvImage (Prod.Lex Nat.lt Nat.lt) (mea b)) := InvImage.wf _ (Prod.lex Nat.lt_wfRel Nat.lt_wfRel).wf
  induction C using wf.induction with
  | _ C ih =>
    obtain ⟨h1, h2⟩ := passC_iv h
    rcases h2 with h2 | ⟨h2, h3⟩
    · refine ⟨1, C, ?_, h, h2⟩
      unfold itC
      rw [h2]
      rfl
    · obtain ⟨n, C', e1, e2, e3⟩ := ih _ h3 h1
      refine ⟨n + 1, C', ?_, e2, e3⟩
      unfold itC
      rw [if_pos h2]
      exact e1
theorem Iv.len {b : List Row} {C : Cs} (h : Iv b C) (hb : Bo b) : C.length ≤ 200 := by
  have h1 := h.kn.len
  rw [List.length_map] at h1
  exact Nat.le_trans h1 hb.len
/-- the prices of a book -/
noncomputable def csts (b : List Row) : Cs := Classical.choose (Classical.choose_spec (it_ex b [] (Iv.nil b)))
/-! ### the law's prices -/
/-! ### where nothing falls any more -/
end Eng
/-! The other maker of books: draws, words. -/
namespace Eng
open PySem PySem.Spec L2 SX
open PyProof.Rows hiding St
/-- a source of draws: drawn from so many times at most -/
def Sc (T : Nat) (s : List Int) : Prop := ∃ a t c, s = [a, t, c] ∧ 0 ≤ t ∧ t ≤ T
theorem Sc.mono {T U : Nat} {s : List Int} (h : Sc T s) (hT : T ≤ U) : Sc U s := by
  obtain ⟨a, t, c, e, h1, h2⟩ := h
  exact ⟨a, t, c, e, h1, by omega⟩
theorem at3 (a t c : Int) : atI [PyData.int a, .int t, .int c] 0 = some (.int a) ∧ atI [PyData.int a, .int t, .int c] 1 = some (.int t) ∧ atI [PyData.int a, .int t, .int c] 2 = some (.int c) := ⟨rfl, rfl, rfl⟩
end Eng
/-! The other maker of books, II: words. -/
namespace Eng
open PySem PySem.Spec L2 SX
open PyProof.Rows hiding St
theorem cutS_S (l : List Nat) (lo hi : Option Int) : cutS (S l) lo hi = S (cutA l lo hi) := by
  unfold cutS cutA
  rw [S_len]
end Eng
/-! The other maker of books, III: rows, books. -/
namespace Eng
open PySem PySem.Spec L2 SX
open PyProof.Rows hiding St
/-- a row over these words -/
def Rg (ns : List Str) (r : Row) : Prop := r.1 ∈ ns ∧ r.2.length ≤ 8 ∧ ∀ w ∈ r.2, w ∈ ns
/-- a row is laid behind others, where none is alike -/
def layR (b : List Row) (r : Row) : List Row := if (b.find? fun x => decide (x.1 = r.1) && decide (sortT x.2 = sortT r.2)).isSome then b else b ++ [r]
theorem layR_len (b : List Row) (r : Row) : (layR b r).length ≤ b.length + 1 := by
  unfold layR
  split <;> simp
theorem layR_mem {b : List Row} {r x : Row} (h : x ∈ layR b r) : x ∈ b ∨ x = r := by
  unfold layR at h
  split at h
  · exact .inl h
  · exact (List.mem_append.mp h).imp id fun q => List.mem_singleton.mp q
/-- a book of such rows -/
structure Bg (ns : List Str) (n : Nat) (b : List Row) : Prop where
  len : b.length ≤ n
  row : ∀ r ∈ b, Rg ns r
theorem Bg.bo {ns : List Str} {n : Nat} {b : List Row} (h : Bg ns n b) (hn : n ≤ 200) (hw : ∀ w ∈ ns, WW w) : Bo b := ⟨Nat.le_trans h.len hn, fun r hr => by
  have := h.row r hr
  exact ⟨hw _ this.1, by have := this.2.1; omega, fun w h2 => hw _ (this.2.2 w h2)⟩⟩
theorem Bg.lay {ns : List Str} {n : Nat} {b : List Row} {r : Row} (h : Bg ns n b) (hr : Rg ns r) : Bg ns (n + 1) (layR b r) := ⟨Nat.le_trans (layR_len b r) (by have := h.len; omega), fun x hx => by
  rcases layR_mem hx with q | rfl
  · exact h.row x q
  · exact hr⟩
theorem Bg.mono {ns : List Str} {n m : Nat} {b : List Row} (h : Bg ns n b) (hn : n ≤ m) : Bg ns m b := ⟨Nat.le_trans h.len hn, h.row⟩
end Eng
/-! The other maker of books, IV: wider books. -/
namespace Eng
open PySem PySem.Spec L2 SX
open PyProof.Rows hiding St
end Eng
/-! Law k13. -/
namespace Eng
open PySem PySem.Spec L2 SX
open PyProof.Rows hiding St
/-! ### steps that are drawn -/
theorem cutA_map {α β : Type} (f : α → β) (xs : List α) (lo hi : Option Int) : cutA (xs.map f) lo hi = (cutA xs lo hi).map f := by
  unfold cutA
  rw [List.length_map, ← List.map_drop, ← List.map_take]
theorem cutA_len {α : Type} (xs : List α) (lo hi : Option Int) : (cutA xs lo hi).length ≤ xs.length := by
  unfold cutA
  rw [List.length_take, List.length_drop]
  omega
end Eng
/-! Law k22. -/
namespace Eng
open PySem PySem.Spec L2 SX
open PyProof.Rows hiding St
@[simp] theorem slS_scr (ns : List Int) (lo hi : Option Int) : slS lo hi (.scr ns) = some (.lst (cutA (ns.map PyData.int) lo hi)) := rfl
@[simp] theorem listRevS_lst (ds : List D) : listRevS (.lst ds) = some (.lst ds.reverse) := rfl
/-! ### best rows -/
structure Ib (b : List Row) (n : Nat) (B : Cs) : Prop where
  kn : Kn b (B.map (·.1))
  val : ∀ w i, cget B w = some i → ∃ k : Nat, i = (k : Int) ∧ k < n ∧ ∃ r, b[k]? = some r ∧ r.1 = w ∧ ∃ c, cget (csts b) w = some c ∧ pby (csts b) r.2 = some c
  all : ∀ k r, k < n → b[k]? = some r → ∀ c, cget (csts b) r.1 = some c → pby (csts b) r.2 = some c → r.1 ∈ B.map (·.1)
end Eng
/-! Law k21. -/
namespace Eng
open PySem PySem.Spec L2 SX
open PyProof.Rows hiding St
end Eng
/-! Law k14. -/
namespace Eng
open PySem PySem.Spec L2 SX
open PyProof.Rows hiding St
/-- the words told in a word's rows -/
def tolds (b : List Row) (w : Str) : List (List Str) := (b.filter fun r => decide (r.1 = w)).map (·.2)
theorem Bf.rev {b : List Row} (h : Bf b) : Bf b.reverse := ⟨⟨by rw [List.length_reverse]; exact h.bo.len, fun r hr => h.bo.row r (List.mem_reverse.mp hr)⟩, by
  have h1 : (heads b.reverse).length = (heads b).length := by simp [heads]
  have h2 : (tw b.reverse).length = (tw b).length := by
    unfold tw
    rw [List.map_reverse, List.length_flatten, List.length_flatten, List.map_reverse, List.sum_reverse]
  have := h.few
  omega⟩
end Eng
/-! Dicts from texts to anything; which words lean on which. -/
namespace Eng
open PySem PySem.Spec L2 SX
open PyProof.Rows hiding St
theorem sq_nx {a c : SS} {ρ ρ1 : En} (h : a ρ = .nx ρ1) : sSeq a c ρ = c ρ1 := by simp [h]
section
variable {β : Type} (f : β → D)
def gget (C : List (Str × β)) (w : Str) : Option β := (C.find? fun e => decide (e.1 = w)).map (·.2)
end
section
variable {β : Type}
end
/-! ### straight -/
/-- the words told in a word's rows -/
def tl (b : List Row) (w : Str) : List Str := (tolds b w).flatten
theorem tl_mem {b : List Row} {w v : Str} : v ∈ tl b w ↔ ∃ r ∈ b, r.1 = w ∧ v ∈ r.2 := by
  unfold tl tolds
  simp only [List.mem_flatten, List.mem_map, List.mem_filter, decide_eq_true_eq]
  constructor
  · rintro ⟨l, ⟨r, ⟨h1, h2⟩, rfl⟩, h3⟩
    exact ⟨r, h1, h2, h3⟩
  · rintro ⟨r, h1, h2, h3⟩
    exact ⟨r.2, ⟨r, ⟨h1, h2⟩, rfl⟩, h3⟩
abbrev Ld := List (Str × List Str)
/-- all words, each with the words told in its rows -/
structure Sg (ks : List Str) (b : List Row) (C : Ld) : Prop where
  keys : C.map (·.1) = ks
  get : ∀ w ∈ ks, gget C w = some (tl b w)
end Eng
/-! Which words lean on which, II. -/
namespace Eng
open PySem PySem.Spec L2 SX
open PyProof.Rows hiding St
/-- w leans on v, straight or through others -/
inductive Rc (b : List Row) (w : Str) : Str → Prop
  | st {r : Row} {v : Str} (hr : r ∈ b) (h : r.1 = w) (hv : v ∈ r.2) : Rc b w v
  | go {r : Row} {v : Str} (hr : r ∈ b) (h : Rc b w r.1) (hv : v ∈ r.2) : Rc b w v
theorem Rc.wds {b : List Row} {w v : Str} (h : Rc b w v) : v ∈ wds b := by
  cases h with
  | st hr _ hv => exact wds_mem.mpr ⟨_, hr, .inr hv⟩
  | go hr _ hv => exact wds_mem.mpr ⟨_, hr, .inr hv⟩
theorem Rc.tl {b : List Row} {w u v : Str} (h : Rc b w u) (hv : v ∈ tl b u) : Rc b w v := by
  obtain ⟨r, hr, e, hv⟩ := tl_mem.mp hv
  exact .go hr (e ▸ h) hv
@[simp] theorem seq_eL (ws : List Str) : (O.val (eL ws)).seq? = some (ws.map .str) := rfl
/-- on the way from w -/
structure Mt (b : List Row) (w : Str) (met fresh : List Str) : Prop where
  nd : met.Nodup
  m : ∀ v ∈ met, Rc b w v
  f : ∀ v ∈ fresh, Rc b w v
  a : ∀ v ∈ Eng.tl b w, v ∈ met ∨ v ∈ fresh
  c : ∀ u ∈ met, ∀ v ∈ Eng.tl b u, v ∈ met ∨ v ∈ fresh
  z : fresh.length ≤ 2000 * (met.length + 1)
theorem Mt.len {b : List Row} {w : Str} {met fresh : List Str} (h : Mt b w met fresh) (hW : (wds b).length ≤ 2000) : met.length ≤ 2000 :=
  Nat.le_trans (sub_len h.nd fun v hv => (h.m v hv).wds) hW
end Eng
/-! Which words lean on which, III: under, over; the law's; the kinds of refusals. -/
namespace Eng
open PySem PySem.Spec L2 SX
open PyProof.Rows hiding St
/-! ### the law's words beneath -/
def Jb (b : List Row) (w : Str) (k : List Str) : Prop := k.Nodup ∧ ∀ v ∈ k, Rc b w v
theorem Jb.len {b : List Row} {w : Str} {k : List Str} (h : Jb b w k) (hW : (wds b).length ≤ 2000) : k.length ≤ 2000 := Nat.le_trans (sub_len h.1 fun v hv => (h.2 v hv).wds) hW
/-! ### the kinds of refusals -/
@[simp] theorem own_exn (c : Nat) : (O.exn c).own = true := rfl
@[simp] theorem fins_exn (c : Nat) (x : O) (os : List O) (ρ : En) : fins (.exn c :: os) (some (true, x) :: ρ) = match fins os ρ with | some r => some (x :: r) | none => none := rfl
@[simp] theorem gone_nx (i : Nat) (ρ : En) : gone i (.nx ρ) = .nx (ρ.set i none) := rfl
@[simp] theorem oRd_ap (sem : O → O → Option O) (f g : ES) (ρ : En) : oRd sem f g ρ = (f ρ).bind fun p ρ1 => match look ρ1 p with
  | some o0 => if o0.list?.isSome = true then (g ρ1).bind fun q ρ2 => match looks ρ2 [p, q] with
      | some os => put ρ2 (two sem os)
      | none => .stuck
    else .stuck
  | none => .stuck := rfl
@[simp] theorem isS_exn (c : Nat) : isS (.exn c) (.val .none) = some (.val (.bool false)) := rfl
@[simp] theorem isS_non : isS (.val .none) (.val .none) = some (.val (.bool true)) := rfl
@[simp] theorem isS_lst (ds : List D) : isS (.lst ds) (.val .none) = some (.val (.bool false)) := rfl
end Eng
/-! Law k31. -/
namespace Eng
open PySem PySem.Spec L2 SX
open PyProof.Rows hiding St
end Eng
/-! Law k12. -/
namespace Eng
open PySem PySem.Spec L2 SX
open PyProof.Rows hiding St
end Eng
/-! Law k13: the answer. -/
namespace Eng
open PySem PySem.Spec L2 SX
open PyProof.Rows hiding St
theorem Dr.cut {n : Nat} {ds : List Int} (h : Dr n ds) (k : Nat) (hk : k ≤ n) : Dr (n - k) (cutA ds (some (k : Int)) none) := by
  have e : cutA ds (some (k : Int)) none = ds.drop k := by
    unfold cutA
    rw [HT.sIx_nat, HT.sIx_none, h.1, Nat.min_eq_left hk]
    rw [List.take_of_length_le (by rw [List.length_drop, h.1]; exact Nat.le_refl _)]
  rw [e]
  exact ⟨by rw [List.length_drop, h.1], fun d hd => h.2 d (List.mem_of_mem_drop hd)⟩
end Eng
/-! Law k16. -/
namespace Eng
open PySem PySem.Spec L2 SX
open PyProof.Rows hiding St
theorem cls_mono {b c : List Row} (h : ∀ r ∈ b, r ∈ c) {w : Str} (hw : w ∈ cls b) : w ∈ cls c := cls_min (S := fun v => v ∈ cls c) (fun r hr hv => cls_closed (h r hr) hv) hw
theorem mem_cutA {α : Type} {xs : List α} {lo hi : Option Int} {x : α} (h : x ∈ cutA xs lo hi) : x ∈ xs := List.mem_of_mem_drop (List.mem_of_mem_take h)
theorem Bo.mem {b c : List Row} (h : Bo b) (hl : c.length ≤ 200) (hm : ∀ r ∈ c, r ∈ b) : Bo c := ⟨hl, fun r hr => h.row r (hm r hr)⟩
end Eng
/-! The laws' learnt words; books trimmed. -/
namespace Eng
open PySem PySem.Spec L2 SX
open PyProof.Rows hiding St
/-- what is known meanwhile -/
def Jl (b : List Row) (k : List Str) : Prop := Kn b k ∧ ∀ w ∈ k, w ∈ cls b
theorem Jl.nil (b : List Row) : Jl b [] := ⟨Kn.nil b, by simp⟩
/-! ### trimmed -/
/-- the book without one row -/
def cut1 (b : List Row) (i : Nat) : List Row := b.take i ++ b.drop (i + 1)
theorem cut1_sub (b : List Row) (i : Nat) : (cut1 b i).Sublist b := by
  unfold cut1
  have h := List.take_append_drop i b
  have : (b.take i ++ b.drop (i + 1)).Sublist (b.take i ++ b.drop i) := List.Sublist.append (List.Sublist.refl _) (by
    rw [show b.drop (i + 1) = (b.drop i).drop 1 by rw [List.drop_drop]]
    exact List.drop_sublist _ _)
  rwa [h] at this
/-- none of the first rows can be left out -/
def Fst (b : List Row) (n : Nat) : Prop := ∀ i, i < n → i < b.length → lrn (cut1 b i) ≠ lrn b
theorem lrn_eq {b c : List Row} (h : ∀ w, w ∈ cls b ↔ w ∈ cls c) : lrn b = lrn c := sortT_ext (cls_kn b).1 (cls_kn c).1 h
theorem cls_eq {b c : List Row} (h : lrn b = lrn c) (w : Str) : w ∈ cls b ↔ w ∈ cls c := by rw [← lrn_mem, h, lrn_mem]
theorem mem_cut1 {b : List Row} {i : Nat} {r : Row} : r ∈ cut1 b i ↔ ∃ j, j ≠ i ∧ b[j]? = some r := by
  unfold cut1
  rw [List.mem_append]
  constructor
  · rintro (h | h)
    · obtain ⟨j, hj⟩ := List.mem_iff_getElem?.mp h
      rw [List.getElem?_take] at hj
      split at hj
      · exact ⟨j, by omega, hj⟩
      · cases hj
    · obtain ⟨j, hj⟩ := List.mem_iff_getElem?.mp h
      rw [List.getElem?_drop] at hj
      exact ⟨i + 1 + j, by omega, hj⟩
  · rintro ⟨j, hj, e⟩
    rcases Nat.lt_or_gt_of_ne hj with h | h
    · refine .inl (List.mem_iff_getElem?.mpr ⟨j, ?_⟩)
      rw [List.getElem?_take, if_pos h, e]
    · refine .inr (List.mem_iff_getElem?.mpr ⟨j - (i + 1), ?_⟩)
      rw [List.getElem?_drop, show i + 1 + (j - (i + 1)) = j by omega, e]
theorem cut1_get {b : List Row} {i : Nat} (h : i < b.length) (m : Nat) : (cut1 b i)[m]? = if m < i then b[m]? else b[m + 1]? := by
  unfold cut1
  have hl : (b.take i).length = i := by rw [List.length_take]; omega
  split
  · rename_i h1
    rw [List.getElem?_append_left (by omega), List.getElem?_take, if_pos h1]
  · rename_i h1
    rw [List.getElem?_append_right (by omega), List.getElem?_drop, hl, show i + 1 + (m - i) = m + 1 by omega]
theorem Fst.cut {b : List Row} {i : Nat} (hi : i < b.length) (h : Fst b i) (e : lrn (cut1 b i) = lrn b) : Fst (cut1 b i) i := fun j hj hl q => by
  have hjb : j < b.length := by omega
  refine h j hj hjb (lrn_eq fun w => ⟨fun hw => cls_mono (fun r hr => (cut1_sub b j).subset hr) hw, fun hw => ?_⟩)
  have hw2 : w ∈ cls (cut1 (cut1 b i) j) := (cls_eq (q.trans e) w).mpr hw
  refine cls_mono (fun r hr => ?_) hw2
  obtain ⟨m, hm, em⟩ := mem_cut1.mp hr
  rw [cut1_get hi] at em
  split at em
  · exact mem_cut1.mpr ⟨m, hm, em⟩
  · exact mem_cut1.mpr ⟨m + 1, by omega, em⟩
/-! ### the law's looks -/
theorem Gd.bk {b : List Row} (h : Bo b) : Gd (eBk b) 3 (b.length * 501) := by
  have := Gd.tup (Gd.map (f := eRow) (xs := b) fun r hr => Gd.row (h.row r hr))
  rwa [List.length_map] at this
end Eng
/-! Books without a word's rows; what a word must have. -/
namespace Eng
open PySem PySem.Spec L2 SX
open PyProof.Rows hiding St
/-! ### the law's learnt words of a list of rows -/
end Eng
/-! Pictures that suffice. -/
namespace Eng
open PySem PySem.Spec L2 SX
open PyProof.Rows hiding St
/-! ### the law's own -/
/-! ### drawn words -/
/-! ### strange words -/
end Eng
/-! The law's own looks at orders and knots. -/
namespace Eng
open PySem PySem.Spec L2 SX
open PyProof.Rows hiding St
/-! ### orders -/
/-! ### knots -/
def kn (b : List Row) (S : List Str) : List Row := S.map fun w => (w, blk b w S)
end Eng
/-! Law k41. -/
namespace Eng
open PySem PySem.Spec L2 SX
open PyProof.Rows hiding St
end Eng
/-! Law k42. -/
namespace Eng
open PySem PySem.Spec L2 SX
open PyProof.Rows hiding St
/-- without a word -/
def lo (l : List Str) (w : Str) : List Str := l.filter fun v => !decide (v = w)
/-- a list, frozen or not -/
def lv (f : Bool) (l : List Str) : O := if f = true then .val (eL l) else .lst (l.map .str)
end Eng
/-! Cores: knots of words of which no fewer have one. -/
namespace Eng
open PySem PySem.Spec L2 SX
open PyProof.Rows hiding St
/-! ### held among some words -/
@[simp] theorem inS_eLw (x : Str) (ws : List Str) : inS (.val (.str x)) (.val (eL ws)) = some (.val (.bool (decide (x ∈ ws)))) := inS_list x ws
def ha (b : List Row) (ws : List Str) : List Str := hfx b (ws.length + 1) ws
/-! ### the core -/
/-- a knot of words, of which no fewer have one -/
structure Cr (b : List Row) (S : List Str) : Prop where
  ne : S ≠ []
  nod : S.Nodup
  srt : S.Pairwise fun x y => leT x y = true
  wds : ∀ w ∈ S, w ∈ wds b
  hs : Hs b S
  min : ∀ w ∈ S, ∀ T, Hs b T → (∀ v ∈ T, v ∈ S ∧ v ≠ w) → T = []
/-! ### beside pictures -/
end Eng
/-! Law k34. -/
namespace Eng
open PySem PySem.Spec L2 SX
open PyProof.Rows hiding St
end Eng
/-! Knots apart. -/
namespace Eng
open PySem PySem.Spec L2 SX
open PyProof.Rows hiding St
/-! ### the law's held words -/
/-! ### the law -/
end Eng
/-! The fewest words, and their papers. -/
namespace Eng
open PySem PySem.Spec L2 SX
open PyProof.Rows hiding St
/-! ### lists of so many words -/
def sts : List Str → Nat → List (List Str)
  | _, 0 => [[]]
  | [], _ + 1 => []
  | w :: ws, m + 1 => (sts ws m).map (w :: ·) ++ sts ws (m + 1)
/-! ### the fewest words -/
/-! ### papers -/
end Eng
/-! Books cut; law k46. -/
namespace Eng
open PySem PySem.Spec L2 SX
open PyProof.Rows hiding St
/-! ### law k46 -/
end Eng
/-! Law k44: the paper gone along. -/
namespace Eng
open PySem PySem.Spec L2 SX
open PyProof.Rows hiding St
end Eng
/-! The looks of the laws over the other maker's books. -/
namespace Eng
open PySem PySem.Spec L2 SX
open PyProof.Rows hiding St
/-! ### knots -/
/-! ### orders -/
end Eng
/-! Law k64: its books, and the answer. -/
namespace Eng
open PySem PySem.Spec L2 SX
open PyProof.Rows hiding St
theorem cutA_from' {α : Type} (xs : List α) (n : Nat) : cutA xs (some (n : Int)) none = xs.drop n := by
  unfold cutA
  rw [HT.sIx_nat, HT.sIx_none]
  by_cases hn : n ≤ xs.length
  · rw [Nat.min_eq_left hn]
    exact List.take_of_length_le (by rw [List.length_drop]; omega)
  · rw [Nat.min_eq_right (by omega), List.drop_eq_nil_of_le (show xs.length ≤ n by omega)]
    simp
def RowOk (r : Row) : Prop := WW r.1 ∧ r.2.length ≤ 20 ∧ ∀ w ∈ r.2, WW w
/-- rows so far -/
def RR (n : Nat) (rs : List Row) : Prop := rs.length ≤ n ∧ ∀ r ∈ rs, RowOk r
theorem RR.bo {n : Nat} {rs : List Row} (h : RR n rs) (hn : n ≤ 200) : Bo rs := ⟨Nat.le_trans h.1 hn, h.2⟩
theorem RR.mono {n m : Nat} {rs : List Row} (h : RR n rs) (hn : n ≤ m) : RR m rs := ⟨Nat.le_trans h.1 hn, h.2⟩
theorem RR.add {n : Nat} {rs : List Row} {r : Row} (h : RR n rs) (hr : RowOk r) : RR (n + 1) (rs ++ [r]) := ⟨by have := h.1; simp; omega, fun q hq => (List.mem_append.mp hq).elim (h.2 q) fun e => by rw [List.mem_singleton.mp e]; exact hr⟩
end Eng
/-! The makers of names for the laws of laying. -/
namespace Eng
open PySem PySem.Spec L2 SX
open PyProof.Rows hiding St
end Eng
/-! New names. -/
namespace Eng
open PySem PySem.Spec L2 SX
open PyProof.Rows hiding St
def stm (w : Str) : Str := (Txt.split w (Str.ofString "/")).headD (Str.ofString "")
def nmF (w : Str) (n : Nat) : Str := stm w ++ Str.ofString "/" ++ S (TL.numL n)
theorem stm_ex {w : Str} (h : WW w) : ∃ st, Stem st ∧ stm w = S st := by
  obtain ⟨l, r, hl, e⟩ := h.split
  exact ⟨l, hl, by unfold stm; rw [e]; rfl⟩
theorem nmF_WW {w : Str} (h : WW w) {n : Nat} (h2 : 2 ≤ n) (h9 : n ≤ 99) : WW (nmF w n) := by
  obtain ⟨st, hst, e⟩ := stm_ex h
  unfold nmF
  rw [e, cat_slash]
  exact ⟨st, hst, .inr ⟨n, h2, h9, rfl⟩⟩
theorem S_inj' {a b : List Nat} (h : S a = S b) : a = b := by
  have := congrArg (fun s : Str => s.cps.toList) h
  simpa [S] using this
theorem nmF_inj {w : Str} (h : WW w) {m n : Nat} (e : nmF w m = nmF w n) : m = n := by
  obtain ⟨st, hst, es⟩ := stm_ex h
  unfold nmF at e
  rw [es, cat_slash, cat_slash] at e
  have := S_inj' e
  have := List.append_cancel_left this
  exact TL.numL_inj (by simpa using this)
def frq (w : Str) (met : List Str) : Option Nat := ((List.range 98).map (2 + ·)).find? fun n => !decide (nmF w n ∈ met)
def fnw (w : Str) (met : List Str) : Str := nmF w ((frq w met).getD 2)
theorem frq_some {w : Str} {met : List Str} {n : Nat} (h : frq w met = some n) : 2 ≤ n ∧ n ≤ 99 ∧ nmF w n ∉ met := by
  unfold frq at h
  have h1 := List.mem_of_find?_eq_some h
  have h2 := List.find?_some h
  obtain ⟨k, hk, rfl⟩ := List.mem_map.mp h1
  have := List.mem_range.mp hk
  exact ⟨by omega, by omega, by simpa using h2⟩
theorem frq_ex {w : Str} (hw : WW w) {met : List Str} (h : met.length < 98) : ∃ n, frq w met = some n := by
  cases e : frq w met with
  | some n => exact ⟨n, rfl⟩
  | none =>
    exfalso
    unfold frq at e
    rw [List.find?_eq_none] at e
    have hs : ∀ x ∈ ((List.range 98).map (2 + ·)).map (nmF w), x ∈ met := fun x hx => by
      obtain ⟨n, hn, rfl⟩ := List.mem_map.mp hx
      have := e n hn
      simpa using this
    have nd : (((List.range 98).map (2 + ·)).map (nmF w)).Nodup := by
      refine List.pairwise_map.mpr (List.pairwise_map.mpr (List.nodup_range.imp fun hab q => hab ?_))
      have := nmF_inj hw q
      omega
    have := sub_len nd hs
    simp at this
    omega
/-! ### new names -/
abbrev Pr := Str × Str
def stN (mine same : List Str) (s : List Pr × List Str) (w : Str) : List Pr × List Str := if w ∈ mine ∧ w ∉ same then (s.1 ++ [(w, fnw w s.2)], addT s.2 (fnw w s.2)) else (s.1 ++ [(w, w)], s.2)
def nnS (mine theirs same : List Str) : List Pr × List Str := theirs.foldl (stN mine same) ([], metT (mine ++ theirs))
def nn (mine theirs same : List Str) : List Pr := (nnS mine theirs same).1
/-- what the names are so far -/
structure Jn (mine theirs same : List Str) (done : List Str) (s : List Pr × List Str) : Prop where
  fst : s.1.map (·.1) = done
  met : ∀ x, x ∈ s.2 ↔ (x ∈ mine ∨ x ∈ theirs) ∨ x ∈ s.1.map (·.2)
  len : s.2.length ≤ mine.length + theirs.length + done.length
  nod : (s.1.map (·.2)).Nodup
  ww : ∀ x ∈ s.1.map (·.2), WW x
  old : ∀ p ∈ s.1, p.2 = p.1 ∨ (p.2 ∉ mine ∧ p.2 ∉ theirs)
  keep : ∀ p ∈ s.1, p.1 ∉ mine ∨ p.1 ∈ same → p.2 = p.1
  new : ∀ p ∈ s.1, p.1 ∈ mine ∧ p.1 ∉ same → p.2 ∉ mine ∧ p.2 ∉ theirs
theorem Jn.nil (mine theirs same : List Str) : Jn mine theirs same [] ([], metT (mine ++ theirs)) := ⟨rfl, fun x => by rw [mem_metT]; simp, by have := metT_len (mine ++ theirs); simpa using this, by simp, by simp, by simp, by simp, by simp⟩
theorem Jn.step {mine theirs same done rest : List Str} {w : Str} {s : List Pr × List Str} (h : Jn mine theirs same done s) (ht : theirs = done ++ w :: rest) (hn : theirs.Nodup) (hW : ∀ v ∈ theirs, WW v) (hl : mine.length + 2 * theirs.length < 98) : Jn mine theirs same (done ++ [w]) (stN mine same s w) := by
  have hwt : w ∈ theirs := by rw [ht]; simp
  have hdl : done.length < theirs.length := by rw [ht]; simp
  unfold stN
  by_cases q : w ∈ mine ∧ w ∉ same
  · rw [if_pos q]
    obtain ⟨n, hf⟩ := frq_ex (hW w hwt) (met := s.2) (by have := h.len; omega)
    obtain ⟨n2, n9, nm⟩ := frq_some hf
    have e : fnw w s.2 = nmF w n := by unfold fnw; rw [hf]; rfl
    rw [e]
    have nm' : ¬ ((nmF w n ∈ mine ∨ nmF w n ∈ theirs) ∨ nmF w n ∈ s.1.map (·.2)) := fun q => nm ((h.met _).mpr q)
    refine ⟨by simp [h.fst], fun x => ?_, ?_, ?_, ?_, ?_, ?_, ?_⟩
    · rw [addT_new nm, List.mem_append, h.met]
      simp only [List.map_append, List.map_cons, List.map_nil, List.mem_append, List.mem_singleton]
      exact or_assoc
    · rw [addT_new nm]
      have := h.len
      simp only [List.length_append, List.length_singleton]
      omega
    · simp only [List.map_append, List.map_cons, List.map_nil]
      rw [List.nodup_append]
      refine ⟨h.nod, by simp, fun x hx y hy e => ?_⟩
      rw [List.mem_singleton.mp hy] at e
      exact nm' (.inr (e ▸ hx))
    · intro x hx
      simp only [List.map_append, List.map_cons, List.map_nil, List.mem_append, List.mem_singleton] at hx
      rcases hx with hx | rfl
      · exact h.ww x hx
      · exact nmF_WW (hW w hwt) n2 n9
    · intro p hp
      rcases List.mem_append.mp hp with hp | hp
      · exact h.old p hp
      · rw [List.mem_singleton.mp hp]
        exact .inr ⟨fun q => nm' (.inl (.inl q)), fun q => nm' (.inl (.inr q))⟩
    · intro p hp hc
      rcases List.mem_append.mp hp with hp | hp
      · exact h.keep p hp hc
      · rw [List.mem_singleton.mp hp] at hc ⊢
        rcases hc with hc | hc
        · exact absurd q.1 hc
        · exact absurd hc q.2
    · intro p hp hc
      rcases List.mem_append.mp hp with hp | hp
      · exact h.new p hp hc
      · rw [List.mem_singleton.mp hp]
        exact ⟨fun q => nm' (.inl (.inl q)), fun q => nm' (.inl (.inr q))⟩
  · rw [if_neg q]
    refine ⟨by simp [h.fst], fun x => ?_, ?_, ?_, ?_, ?_, ?_, ?_⟩
    · rw [h.met]
      simp only [List.map_append, List.map_cons, List.map_nil, List.mem_append, List.mem_singleton]
      constructor
      · rintro (h1 | h1)
        · exact .inl h1
        · exact .inr (.inl h1)
      · rintro (h1 | h1 | rfl)
        · exact .inl h1
        · exact .inr h1
        · exact .inl (.inr hwt)
    · have := h.len
      simp only [List.length_append, List.length_singleton]
      omega
    · simp only [List.map_append, List.map_cons, List.map_nil]
      rw [List.nodup_append]
      refine ⟨h.nod, by simp, fun x hx y hy e => ?_⟩
      rw [List.mem_singleton.mp hy] at e
      subst e
      obtain ⟨p, hp, hpx⟩ := List.mem_map.mp hx
      rcases h.old p hp with h1 | ⟨_, h2⟩
      · have : p.1 ∈ done := by rw [← h.fst]; exact List.mem_map.mpr ⟨p, hp, rfl⟩
        rw [h1] at hpx
        rw [ht, List.nodup_append] at hn
        exact hn.2.2 p.1 this x (by simp) hpx
      · exact h2 (hpx ▸ hwt)
    · intro x hx
      simp only [List.map_append, List.map_cons, List.map_nil, List.mem_append, List.mem_singleton] at hx
      rcases hx with hx | rfl
      · exact h.ww x hx
      · exact hW x hwt
    · intro p hp
      rcases List.mem_append.mp hp with hp | hp
      · exact h.old p hp
      · rw [List.mem_singleton.mp hp]
        exact .inl rfl
    · intro p hp hc
      rcases List.mem_append.mp hp with hp | hp
      · exact h.keep p hp hc
      · rw [List.mem_singleton.mp hp]
    · intro p hp hc
      rcases List.mem_append.mp hp with hp | hp
      · exact h.new p hp hc
      · rw [List.mem_singleton.mp hp] at hc
        exact absurd hc q
end Eng
/-! Words, told of any text. -/
namespace Eng
open PySem PySem.Spec L2 SX
open PyProof.Rows hiding St
theorem itemsD_S (l : List Nat) (h : l.length ≤ sizeLine) : itemsD (.str (S l)) = some (l.map fun c => .str (S [c])) := by
  have h2 : (S l).length ≤ sizeLine := by rw [S_len]; exact h
  show (if (S l).length ≤ sizeLine then some (signs (S l)) else none) = _
  rw [if_pos h2]
  rfl
def lowB (c : Nat) : Bool := decide (97 ≤ c ∧ c ≤ 122)
def figB (c : Nat) : Bool := decide (48 ≤ c ∧ c ≤ 57)
theorem figs : (Str.ofString "0123456789") = S ((List.range 10).map (48 + ·)) := by decide +kernel
theorem in_abc (c : Nat) : inS (.val (.str (S [c]))) (.val (.str (Str.ofString "abcdefghijklmnopqrstuvwxyz"))) = some (.val (.bool (lowB c))) := by
  rw [abc]
  show some (O.val (PyData.bool (decide (c ∈ (List.range 26).map (97 + ·))))) = _
  have : (c ∈ (List.range 26).map (97 + ·)) ↔ 97 ≤ c ∧ c ≤ 122 := by
    rw [List.mem_map]
    constructor
    · rintro ⟨k, hk, rfl⟩
      have := List.mem_range.mp hk
      omega
    · intro h
      exact ⟨c - 97, List.mem_range.mpr (by omega), by omega⟩
  unfold lowB
  rw [decide_eq_decide.mpr this]
theorem in_figs (c : Nat) : inS (.val (.str (S [c]))) (.val (.str (Str.ofString "0123456789"))) = some (.val (.bool (figB c))) := by
  rw [figs]
  show some (O.val (PyData.bool (decide (c ∈ (List.range 10).map (48 + ·))))) = _
  have : (c ∈ (List.range 10).map (48 + ·)) ↔ 48 ≤ c ∧ c ≤ 57 := by
    rw [List.mem_map]
    constructor
    · rintro ⟨k, hk, rfl⟩
      have := List.mem_range.mp hk
      omega
    · intro h
      exact ⟨c - 48, List.mem_range.mpr (by omega), by omega⟩
  unfold figB
  rw [decide_eq_decide.mpr this]
def stmB (l : List Nat) : Bool := (decide (1 ≤ l.length) && decide (l.length ≤ 8)) && l.all lowB
def nuB (l : List Nat) : Bool := (decide (1 ≤ l.length) && decide (l.length ≤ 2)) && l.all figB && (!decide (l.head? = some 48)) && !decide (l = [49])
theorem lenS_S (l : List Nat) (h : l.length ≤ sizeLine) : lenS (.val (.str (S l))) = some (.val (.int l.length)) := by
  rw [lenS_str, if_pos (by rw [S_len]; exact h), S_len]
theorem is_stem_eq (l : List Nat) (h : l.length ≤ sizeLine) : f_is_stem [.val (.str (S l))] = .ret (.val (.bool (stmB l))) [.val (.str (S l))] := by
  have it := itemsD_S l h
  have ln := lenS_S l h
  have c1 := lc_all (f := fun c => PyData.str (S [c])) (c := none) (T := .nm 1) (t := tTrue) (g := o2 inS (oNm 1) (oC (.str "abcdefghijklmnopqrstuvwxyz"))) (own := [1])
    (ρ := [some (false, .val (.str (S l))), none]) (fun c => .bool (lowB c)) l (by simp) (by
    intro c hc
    have := in_abc c
    simp [-List.map_map, lturn_ap, this])
  simp [-List.map_map] at c1
  have al := allS_map lowB l
  unfold stmB
  by_cases h1 : 1 ≤ l.length
  · have h1' : (1 : Int) ≤ l.length := by omega
    by_cases h2 : l.length ≤ 8
    · have h2' : (l.length : Int) ≤ 8 := by omega
      simp [-List.map_map, -lenS_str, -allS_ap, f_is_stem, b_is_stem, runF_ap, ln, h1, h1', h2, h2', c_is_stem_1, it, c1, al]
    · have h2' : ¬ (l.length : Int) ≤ 8 := by omega
      simp [-List.map_map, -lenS_str, -allS_ap, f_is_stem, b_is_stem, runF_ap, ln, h1, h1', h2, h2', c_is_stem_1, it, c1, al]
  · have h1' : ¬ (1 : Int) ≤ l.length := by omega
    simp [-List.map_map, -lenS_str, -allS_ap, f_is_stem, b_is_stem, runF_ap, ln, h1, h1', c_is_stem_1, it, c1, al]
theorem is_number_eq (l : List Nat) (h : l.length ≤ sizeLine) : f_is_number [.val (.str (S l))] = .ret (.val (.bool (nuB l))) [.val (.str (S l))] := by
  have it := itemsD_S l h
  have ln := lenS_S l h
  have c1 := lc_all (f := fun c => PyData.str (S [c])) (c := none) (T := .nm 1) (t := tTrue) (g := o2 inS (oNm 1) (oC (.str "0123456789"))) (own := [1])
    (ρ := [some (false, .val (.str (S l))), none]) (fun c => .bool (figB c)) l (by simp) (by
    intro c hc
    have := in_figs c
    simp [-List.map_map, lturn_ap, this])
  simp [-List.map_map] at c1
  have al := allS_map figB l
  unfold nuB
  by_cases h1 : 1 ≤ l.length
  · have h1' : (1 : Int) ≤ l.length := by omega
    by_cases h2 : l.length ≤ 2
    · have h2' : (l.length : Int) ≤ 2 := by omega
      cases h3 : l.all figB with
      | false =>
        rw [h3] at al
        simp [-List.map_map, -lenS_str, -allS_ap, f_is_number, b_is_number, runF_ap, ln, h1, h1', h2, h2', c_is_number_1, it, c1, al]
      | true =>
        rw [h3] at al
        obtain ⟨c, r, e⟩ : ∃ c r, l = c :: r := by
          cases l with
          | nil => simp at h1
          | cons c r => exact ⟨c, r, rfl⟩
        have i0 : ixS (.val (.str (S l))) (.val (.int 0)) = some (.val (.str (S [c]))) := by
          rw [ixS_str, if_pos (by rw [S_len]; exact h), e]
          have : (S (c :: r)).cps.toList = c :: r := rfl
          rw [this, atI_zero]
          rfl
        have z0 : (Str.ofString "0") = S [48] := by decide +kernel
        have z1 : (Str.ofString "1") = S [49] := by decide +kernel
        have q0 : neS (.val (.str (S [c]))) (.val (.str (Str.ofString "0"))) = some (.val (.bool (!decide (l.head? = some 48)))) := by
          rw [neS_str, z0, S_beq_eq, e]
          simp
        have q1 : neS (.val (.str (S l))) (.val (.str (Str.ofString "1"))) = some (.val (.bool (!decide (l = [49])))) := by
          rw [neS_str, z1, S_beq_eq]
        cases h4 : decide (l.head? = some 48) <;> rw [h4] at q0 <;>
        simp [-List.map_map, -lenS_str, -allS_ap, -ixS_str, -neS_str, f_is_number, b_is_number, runF_ap, ln, h1, h1', h2, h2', c_is_number_1, it, c1, al, i0, q0, q1]
    · have h2' : ¬ (l.length : Int) ≤ 2 := by omega
      simp [-List.map_map, -lenS_str, -allS_ap, f_is_number, b_is_number, runF_ap, ln, h1, h1', h2, h2', c_is_number_1, it, c1, al]
  · have h1' : ¬ (1 : Int) ≤ l.length := by omega
    simp [-List.map_map, -lenS_str, -allS_ap, f_is_number, b_is_number, runF_ap, ln, h1, h1', c_is_number_1, it, c1, al]
/-! ### words -/
def wdP : List Str → Bool
  | [p] => stmB p.cps.toList
  | [p, n] => stmB p.cps.toList && nuB n.cps.toList
  | _ => false
def wdB (w : Str) : Bool := wdP (Txt.split w (Str.ofString "/"))
theorem splitS_slash (w : Str) (h : w.length + 2 ≤ sizeLine) : splitS w (.val (.str (Str.ofString "/"))) = some (.lst ((Txt.split w (Str.ofString "/")).map .str)) := by
  have sl2 : (Str.ofString "/").length = 1 := by rw [slash]; rfl
  show (if ((Str.ofString "/").length == 0) = false ∧ w.length + 2 ≤ sizeLine then some (O.lst ((Txt.split w (Str.ofString "/")).map PyData.str)) else none) = _
  rw [if_pos ⟨by rw [sl2]; rfl, h⟩]
theorem is_word_eq (w : Str) (h : w.length + 2 ≤ sizeLine) : f_is_word [.val (.str w)] = .ret (.val (.bool (wdB w))) [.val (.str w)] := by
  have sp := splitS_slash w h
  have hs : ∀ a ∈ Txt.split w (Str.ofString "/"), a.length ≤ w.length := fun a ha => part_short ha
  have hp := split_pos w (Str.ofString "/")
  unfold wdB
  generalize Txt.split w (Str.ofString "/") = ps at *
  have st : ∀ a ∈ ps, f_is_stem [.val (.str a)] = .ret (.val (.bool (stmB a.cps.toList))) [.val (.str a)] := fun a ha => is_stem_eq a.cps.toList (by
    have h1 := hs a ha
    have h2 : a.cps.toList.length = a.length := by simp [Str.length]
    omega)
  have nu : ∀ a ∈ ps, f_is_number [.val (.str a)] = .ret (.val (.bool (nuB a.cps.toList))) [.val (.str a)] := fun a ha => is_number_eq a.cps.toList (by
    have h1 := hs a ha
    have h2 : a.cps.toList.length = a.length := by simp [Str.length]
    omega)
  match ps, hp with
  | [p], _ =>
    have s1 := st p (by simp)
    unfold wdP
    cases q : stmB p.cps.toList <;> rw [q] at s1 <;> simp at sp <;> simp [-List.map_map, f_is_word, b_is_word, runF_ap, sp, s1, q]
  | [p, n], _ =>
    have s1 := st p (by simp)
    have s2 := nu n (by simp)
    unfold wdP
    cases q : stmB p.cps.toList <;> rw [q] at s1 <;> simp at sp <;> simp [-List.map_map, f_is_word, b_is_word, runF_ap, sp, s1, s2, q]
  | p :: n :: m :: r, _ =>
    have s1 := st p (by simp)
    unfold wdP
    have a0 : atI (PyData.str p :: PyData.str n :: PyData.str m :: r.map .str) 0 = some (.str p) := atI_zero _ _
    have l1 : ((p :: n :: m :: r).map PyData.str).length = r.length + 3 := by simp
    have n1 : ¬ (r.length + 3 : Int) = 1 := by omega
    have n2 : ¬ (r.length + 3 : Int) = 2 := by omega
    have n1' : ¬ ((r.length : Int) + 1 + 1 + 1 = 1) := by omega
    have n2' : ¬ ((r.length : Int) + 1 + 1 + 1 = 2) := by omega
    simp only [List.map_cons] at sp
    cases q : stmB p.cps.toList <;> rw [q] at s1 <;> simp [-List.map_map, f_is_word, b_is_word, runF_ap, sp, s1, a0, n1, n2, n1', n2', q]
end Eng
/-! Law k61. -/
namespace Eng
open PySem PySem.Spec L2 SX
open PyProof.Rows hiding St
end Eng
/-! Books laid together; law k63. -/
namespace Eng
open PySem PySem.Spec L2 SX
open PyProof.Rows hiding St
/-! ### names looked up -/
/-! ### laid -/
/-! ### what is learnt in books laid together -/
/-! ### alone -/
theorem Bo.nil : Bo [] := ⟨by simp, by simp⟩
end Eng
/-! Words and rows, told of any text. -/
namespace Eng
open PySem PySem.Spec L2 SX
open PyProof.Rows hiding St
theorem stmB_iff (l : List Nat) : stmB l = true ↔ Stem l := by
  unfold stmB Stem lowB
  simp only [Bool.and_eq_true, decide_eq_true_eq, List.all_eq_true, and_assoc]
theorem nuB_num {n : Nat} (h2 : 2 ≤ n) (h9 : n ≤ 99) : nuB (TL.numL n) = true := by
  by_cases h : n < 10
  · rw [TL.numL_lt h]
    unfold nuB figB
    simp
    omega
  · rw [TL.numL_step (by omega), TL.numL_lt (by omega)]
    unfold nuB figB
    simp
    omega
theorem nuB_ex {l : List Nat} (h : nuB l = true) : ∃ n : Nat, 2 ≤ n ∧ n ≤ 99 ∧ l = TL.numL n := by
  unfold nuB figB at h
  simp only [Bool.and_eq_true, decide_eq_true_eq, List.all_eq_true, Bool.not_eq_true', decide_eq_false_iff_not] at h
  obtain ⟨⟨⟨⟨h1, h2⟩, h3⟩, h4⟩, h5⟩ := h
  match l, h1, h2 with
  | [c], _, _ =>
    have := h3 c (by simp)
    simp at h4 h5
    refine ⟨c - 48, by omega, by omega, ?_⟩
    rw [TL.numL_lt (by omega)]
    congr 1
    omega
  | [c, d], _, _ =>
    have a1 := h3 c (by simp)
    have a2 := h3 d (by simp)
    simp at h4
    refine ⟨(c - 48) * 10 + (d - 48), by omega, by omega, ?_⟩
    rw [TL.numL_step (by omega), TL.numL_lt (by omega)]
    have e1 : ((c - 48) * 10 + (d - 48)) / 10 = c - 48 := by omega
    have e2 : ((c - 48) * 10 + (d - 48)) % 10 = d - 48 := by omega
    rw [e1, e2]
    simp
    omega
theorem wdB_of {w : Str} (h : WW w) : wdB w = true := by
  unfold wdB
  obtain ⟨l, hl, rfl | ⟨n, h2, h9, rfl⟩⟩ := h
  · rw [split_stem hl]
    exact (stmB_iff l).mpr hl
  · rw [split_sense hl n]
    show (stmB l && nuB (TL.numL n)) = true
    rw [(stmB_iff l).mpr hl, nuB_num h2 h9]
    rfl
theorem WW_of_wdB {w : Str} (h : wdB w = true) : WW w := by
  have j : Str.join (Str.ofString "/") (Txt.split w (Str.ofString "/")) = w := StrLaws.join_split w _
  unfold wdB at h
  generalize Txt.split w (Str.ofString "/") = ps at *
  match ps with
  | [] => simp [wdP] at h
  | [p] =>
    have jw : p = w := j
    have := (stmB_iff p.cps.toList).mp h
    exact ⟨p.cps.toList, this, .inl (by rw [← jw, S_tl])⟩
  | [p, n] =>
    have jw : p ++ Str.ofString "/" ++ n = w := j
    unfold wdP at h
    rw [Bool.and_eq_true] at h
    have h1 := (stmB_iff p.cps.toList).mp h.1
    obtain ⟨k, h2, h9, e⟩ := nuB_ex h.2
    refine ⟨p.cps.toList, h1, .inr ⟨k, h2, h9, ?_⟩⟩
    rw [← cat_slash, ← jw, ← e, S_tl, S_tl]
  | _ :: _ :: _ :: _ => simp [wdP] at h
theorem wdB_iff (w : Str) : wdB w = true ↔ WW w := ⟨WW_of_wdB, wdB_of⟩
/-! ### rows -/
def rowB (r : Row) : Bool := wdB r.1 && decide (r.2.length ≤ 8) && !decide ((metT r.2).length < r.2.length) && r.2.all wdB
/-- a row of texts not too long -/
structure RS (r : Row) : Prop where
  hd : r.1.length + 2 ≤ sizeLine
  ln : r.2.length ≤ 1000000
  tw : ∀ w ∈ r.2, w.length + 2 ≤ sizeLine
theorem small3 {m : Nat} (h : m ≤ 1000000) : m ≤ sizeLine := Nat.le_trans h (by decide)
theorem is_row_eq (r : Row) (h : RS r) : f_is_row [.val (.str r.1), .val (eW r.2)] = .ret (.val (.bool (rowB r))) [.val (.str r.1), .val (eW r.2)] := by
  have w1 := is_word_eq r.1 h.hd
  have st : r.2.length ≤ 8 → setC (.val (eW r.2)) = some (.set (metT r.2)) := fun h8 => by
    have sc : r.2.length + 1 < scanBound := by
      have : 3001 < scanBound := by decide
      omega
    show setC (.val (.tuple (r.2.map .str))) = _
    rw [setC_tup, if_pos sc]
  have hm := metT_len r.2
  have hl := h.ln
  have c1 := lc_all (f := PyData.str) (c := none) (T := .nm 2) (t := tTrue) (g := (oCall f_is_word (oAs [oNm 2]))) (own := [2])
    (ρ := [some (false, .val (.str r.1)), some (false, .val (eW r.2)), none]) (fun w => .bool (wdB w)) r.2 (by simp) (by
    intro w hw
    have := is_word_eq w (h.tw w hw)
    simp [-List.map_map, lturn_ap, this])
  simp [-List.map_map] at c1
  have al := allS_map wdB r.2
  have s0 : startE 3 [.val (.str r.1), .val (eW r.2)] = [some (false, .val (.str r.1)), some (false, .val (eW r.2)), none] := rfl
  unfold rowB
  cases q : wdB r.1 with
  | false =>
    rw [q] at w1
    simp [-List.map_map, f_is_row, b_is_row, runF_fin, s0, w1]
  | true =>
    rw [q] at w1
    by_cases h8 : r.2.length ≤ 8
    · have st := st h8
      have h8' : ¬ (8 : Int) < r.2.length := by omega
      by_cases hs : (metT r.2).length < r.2.length
      · have hs' : ((metT r.2).length : Int) < r.2.length := by omega
        simp [-List.map_map, f_is_row, b_is_row, runF_fin, s0, w1, h8, h8', st, hs, hs']
      · have hs' : ¬ ((metT r.2).length : Int) < r.2.length := by omega
        have hs2 : r.2.length ≤ (metT r.2).length := by omega
        simp [-List.map_map, -allS_ap, f_is_row, b_is_row, runF_fin, s0, w1, h8, h8', st, hs, hs', hs2, c_is_row_1, c1, al]
    · have h8' : (8 : Int) < r.2.length := by omega
      simp [-List.map_map, f_is_row, b_is_row, runF_fin, s0, w1, h8, h8']
def bkFitS (k : List Row) (r : Row) : Option (List Row) := if rowB r = true ∧ keyR r ∉ k then some (k ++ [keyR r]) else none
def bkFit (b : List Row) : Bool := decide (b.length ≤ 60) && (b.foldlM bkFitS []).isSome
theorem fits_eq (b : List Row) (hb : ∀ r ∈ b, RS r) : f_fits [.val (eBk b)] = .ret (.val (.bool (bkFit b))) [.val (eBk b)] := by
  have s0 : startE 5 [.val (eBk b)] = [some (false, .val (eBk b)), none, none, none, none] := rfl
  unfold bkFit
  by_cases h60 : b.length ≤ 60
  · have h60' : ¬ (60 : Int) < b.length := by omega
    have h60'' : ¬ 60 < b.length := by omega
    have h := forL_try (f := eRow) (T := .tup [2, 3]) (fg := [2, 3, 4]) (b := w_fits_1) none (fun k : List Row => [some (false, .val (eBk b)), some (false, .dic (rd k)), none, none, none]) bkFitS (fun k => k.Nodup ∧ ∀ x ∈ k, x ∈ b.map keyR) (fun ρ => fins [.val (eBk b)] ρ = some [.val (eBk b)]) (.val (.bool false)) (fun _ => trivial) b [] ⟨List.nodup_nil, by simp⟩ (by
      rintro k r hr ⟨kn, km⟩
      have rs := hb r hr
      have hk : k.length ≤ 60 := by
        have := sub_len kn km
        rw [List.length_map] at this
        omega
      have z : k.length < sizeLine := small (m := 60) hk
      have z2 : r.2.length ≤ sizeLine := small3 rs.ln
      have ir := is_row_eq r rs
      have ek : PyData.tuple [.str r.1, .tuple ((sortT r.2).map .str)] = eRow (keyR r) := rfl
      unfold bkFitS
      cases q : rowB r with
      | false =>
        rw [q] at ir
        refine .inr ⟨by simp, ?_⟩
        simp [-List.map_map, turn_ap, w_fits_1, z2, ek, ir]
      | true =>
        rw [q] at ir
        by_cases q2 : keyR r ∈ k
        · refine .inr ⟨by simp [q2], ?_⟩
          simp [-List.map_map, turn_ap, w_fits_1, z2, ek, ir, q2]
        · refine .inl ⟨k ++ [keyR r], by simp [q2], ?_, ?_, ?_⟩
          · have ad : addR k (keyR r) = k ++ [keyR r] := if_neg q2
            simp [-List.map_map, turn_ap, w_fits_1, z2, ek, ir, q2, z, ad]
          · rw [List.nodup_append]
            exact ⟨kn, by simp, fun a ha b hb => by simp at hb; rw [hb]; exact fun e => q2 (e ▸ ha)⟩
          · intro x hx
            rcases List.mem_append.mp hx with hx | hx
            · exact km x hx
            · rw [List.mem_singleton.mp hx]
              exact List.mem_map.mpr ⟨r, hr, rfl⟩)
    have er : rd [] = [] := rfl
    rcases h with ⟨s', e1, e2, _⟩ | ⟨e1, ρ', e2, hf⟩
    · rw [er] at e2
      simp [-List.map_map, f_fits, b_fits, runF_fin, s0, h60, h60', h60'', e1, e2]
    · rw [er] at e2
      simp [-List.map_map, f_fits, b_fits, runF_fin, s0, h60, h60', h60'', e1, e2, hf]
  · have h60' : (60 : Int) < b.length := by omega
    have h60'' : 60 < b.length := by omega
    simp [-List.map_map, f_fits, b_fits, runF_fin, s0, h60, h60', h60'']
end Eng
/-! Law k01. -/
namespace Eng
open PySem PySem.Spec L2 SX
open PyProof.Rows hiding St
end Eng
/-! Law k01: the number of a text's sense. -/
namespace Eng
open PySem PySem.Spec L2 SX
open PyProof.Rows hiding St
theorem sgn_a : (Str.ofString "a") = S [97] := by decide +kernel
theorem sgn_z : (Str.ofString "z") = S [122] := by decide +kernel
theorem le_a (c : Nat) : leS (.val (.str (Str.ofString "a"))) (.val (.str (S [c]))) = some (.val (.bool (decide (97 ≤ c)))) := by
  rw [sgn_a]
  show some (O.val (.bool (!decide ([c] < [97])))) = _
  have : ([c] < [97]) ↔ c < 97 := by simp [List.cons_lt_cons_iff]
  by_cases h : c < 97
  · have h2 : ¬ 97 ≤ c := by omega
    simp [this, h, h2]
  · have h2 : 97 ≤ c := by omega
    simp [this, h, h2]
theorem le_z (c : Nat) : leS (.val (.str (S [c]))) (.val (.str (Str.ofString "z"))) = some (.val (.bool (decide (c ≤ 122)))) := by
  rw [sgn_z]
  show some (O.val (.bool (!decide ([122] < [c])))) = _
  have : ([122] < [c]) ↔ 122 < c := by simp [List.cons_lt_cons_iff]
  by_cases h : 122 < c
  · have h2 : ¬ c ≤ 122 := by omega
    simp [this, h, h2]
  · have h2 : c ≤ 122 := by omega
    simp [this, h, h2]
def nums : List Nat := (List.range 98).map (2 + ·)
theorem nums_mem {n : Nat} : n ∈ nums ↔ 2 ≤ n ∧ n ≤ 99 := by
  unfold nums
  rw [List.mem_map]
  constructor
  · rintro ⟨k, hk, rfl⟩
    have := List.mem_range.mp hk
    omega
  · intro h
    exact ⟨n - 2, List.mem_range.mpr (by omega), by omega⟩
theorem nums_rng : (rng 2 98) = nums.map fun n : Nat => PyData.int (n : Int) := by
  unfold nums rng
  rw [List.map_map]
  refine List.map_congr_left fun k _ => ?_
  simp
end Eng
/-! Books read and shown. -/
namespace Eng
open PySem PySem.Spec L2 SX
open PyProof.Rows hiding St
/-! ### texts joined and split -/
def okT (t : Str) : Prop := ∀ c ∈ t.cps.toList, c < 0x110000
theorem okT.ok {t : Str} (h : okT t) : PyData.strOk t = true := by
  unfold PyData.strOk
  rw [← Array.all_toList]
  simp only [List.all_eq_true, decide_eq_true_eq]
  exact h
theorem joinL_mem (y : List Nat) : ∀ (ps : List (List Nat)) (p : List Nat), p ∈ ps → ∀ c ∈ p, c ∈ TL.joinL y ps
  | [], _, h, _, _ => by cases h
  | [p], q, h, c, hc => by
    rw [List.mem_singleton.mp h] at hc
    exact hc
  | p :: q :: r, x, h, c, hc => by
    show c ∈ p ++ (y ++ TL.joinL y (q :: r))
    rcases List.mem_cons.mp h with rfl | h
    · exact List.mem_append_left _ hc
    · exact List.mem_append_right _ (List.mem_append_right _ (joinL_mem y (q :: r) x h c hc))
theorem split_mem {t y p : Str} (h : p ∈ Txt.split t y) : ∀ c ∈ p.cps.toList, c ∈ t.cps.toList := fun c hc => by
  have j : Str.join y (Txt.split t y) = t := StrLaws.join_split t y
  have e : t.cps.toList = TL.joinL y.cps.toList ((Txt.split t y).map fun x => x.cps.toList) := by
    conv => lhs; rw [← j]
    exact TL.tl_join y _
  rw [e]
  exact joinL_mem _ _ p.cps.toList (List.mem_map.mpr ⟨p, h, rfl⟩) c hc
theorem okT.split {t y p : Str} (h : okT t) (hp : p ∈ Txt.split t y) : okT p := fun c hc => h c (split_mem hp c hc)
theorem blank : (Str.ofString " ") = S [32] := by decide +kernel
theorem feed : (Str.ofString "\n") = S [10] := by decide +kernel
theorem split_bl {ps : List Str} (hne : ps ≠ []) (h : ∀ p ∈ ps, 32 ∉ p.cps.toList) : Txt.split (Txt.join (Str.ofString " ") ps) (Str.ofString " ") = ps := by
  rw [blank]
  exact TL.split_join (y := S [32]) (s := 32) (S := []) rfl (by decide +kernel) hne h
theorem split_lf {ps : List Str} (hne : ps ≠ []) (h : ∀ p ∈ ps, 10 ∉ p.cps.toList) : Txt.split (Txt.join (Str.ofString "\n") ps) (Str.ofString "\n") = ps := by
  rw [feed]
  exact TL.split_join (y := S [10]) (s := 10) (S := []) rfl (by decide +kernel) hne h
theorem splitS_bl (w : Str) (h : w.length + 2 ≤ sizeLine) : splitS w (.val (.str (Str.ofString " "))) = some (.lst ((Txt.split w (Str.ofString " ")).map .str)) := by
  have sl2 : (Str.ofString " ").length = 1 := by rw [blank]; rfl
  show (if ((Str.ofString " ").length == 0) = false ∧ w.length + 2 ≤ sizeLine then some (O.lst ((Txt.split w (Str.ofString " ")).map PyData.str)) else none) = _
  rw [if_pos ⟨by rw [sl2]; rfl, h⟩]
theorem splitS_lf (w : Str) (h : w.length + 2 ≤ sizeLine) : splitS w (.val (.str (Str.ofString "\n"))) = some (.lst ((Txt.split w (Str.ofString "\n")).map .str)) := by
  have sl2 : (Str.ofString "\n").length = 1 := by rw [feed]; rfl
  show (if ((Str.ofString "\n").length == 0) = false ∧ w.length + 2 ≤ sizeLine then some (O.lst ((Txt.split w (Str.ofString "\n")).map PyData.str)) else none) = _
  rw [if_pos ⟨by rw [sl2]; rfl, h⟩]
theorem str_beq (a b : Str) : (a == b) = decide (a = b) := by
  by_cases h : a = b
  · subst h; simp
  · rw [decide_eq_false h]
    exact beq_eq_false_iff_ne.mpr h
theorem eqS_ls2 {a b : List Str} (ha : ∀ w ∈ a, okT w) (hb : ∀ w ∈ b, okT w) : eqS (.lst (a.map PyData.str)) (.lst (b.map PyData.str)) = some (.val (.bool (decide (a = b)))) := by
  have g : ∀ {l : List Str}, (∀ w ∈ l, okT w) → SeqAt.shaped (.list (l.map PyData.str)) = true := fun {l} h => by
    have h1 : PyData.canLayAll0 (l.map PyData.str) = true := by
      induction l with
      | nil => rfl
      | cons x l ih => simp [PyData.canLayAll0, PyData.canLay0, (h x (by simp)).ok, ih fun w hw => h w (List.mem_cons_of_mem _ hw)]
    have h2 : PyData.depthAll (l.map PyData.str) = 0 := by
      clear h h1
      induction l with
      | nil => rfl
      | cons x l ih => simp [PyData.depthAll, PyData.depth, ih]
    unfold SeqAt.shaped
    simp [PyData.canLay0, h1, PyData.depth, h2]
  have s1 := g ha
  have s2 := g hb
  unfold eqS
  simp only [view_lst, eqD?, s1, s2, Bool.and_self, Bool.or_true, if_true, Option.map_some, PyData.eqv, eqvAll_strs]
/-! ### a book that fits -/
theorem fitted_eq (b : List Row) (hb : ∀ r ∈ b, RS r) : f_fitted [.val (eBk b)] = if bkFit b = true then .ret (.val (eBk b)) [.val (eBk b)] else .exc 2 [.val (eBk b)] := by
  have f := fits_eq b hb
  cases q : bkFit b <;> rw [q] at f <;> simp [-List.map_map, f_fitted, b_fitted, runF_ap, f]
/-! ### a row read -/
def rdQ (w e : Str) (ts : List Str) : Option Row := if e = Str.ofString "=" ∧ wdB w = true then (if ts = [Str.ofString "*"] then some (w, []) else if ts.all wdB = true then some (w, ts) else none) else none
def rdP : List Str → Option Row
  | w :: e :: x :: ts => rdQ w e (x :: ts)
  | _ => none
def rdR (t : Str) : Option Row := rdP (Txt.split t (Str.ofString " "))
theorem read_row_eq (t : Str) (h : t.length + 2 ≤ sizeLine) (ho : okT t) : f_read_row [.val (.str t)] = match rdR t with | some r => .ret (.val (eRow r)) [.val (.str t)] | none => .exc 1 [.val (.str t)] := by
  have s0 : startE 3 [.val (.str t)] = [some (false, .val (.str t)), none, none] := rfl
  have sp := splitS_bl t h
  have hs : ∀ a ∈ Txt.split t (Str.ofString " "), a.length + 2 ≤ sizeLine := fun a ha => by have := part_short ha; omega
  have hk : ∀ a ∈ Txt.split t (Str.ofString " "), okT a := fun a ha => ho.split ha
  have hp := split_pos t (Str.ofString " ")
  have hll := split_le t (Str.ofString " ")
  unfold rdR
  generalize Txt.split t (Str.ofString " ") = ps at *
  match ps, hp with
  | [w], _ =>
    simp at sp
    simp [-List.map_map, f_read_row, b_read_row, runF_fin, s0, sp, rdP]
  | [w, e], _ =>
    simp at sp
    simp [-List.map_map, f_read_row, b_read_row, runF_fin, s0, sp, rdP]
  | w :: e :: x :: ts, _ =>
    have l3 : ((w :: e :: x :: ts).map PyData.str).length = ts.length + 3 := by simp
    have n3 : ¬ ((ts.length + 3 : Nat) : Int) < 3 := by omega
    have a0 : atI ((w :: e :: x :: ts).map PyData.str) 0 = some (.str w) := atI_zero _ _
    have a1 : atI ((w :: e :: x :: ts).map PyData.str) 1 = some (.str e) := atI_one _ _ _
    have ww := is_word_eq w (hs w (by simp))
    have ne := neS_str e (Str.ofString "=")
    rw [str_beq] at ne
    have ct : cutA ((w :: e :: x :: ts).map PyData.str) (some 2) none = (x :: ts).map .str := by
      have := cutA_from' ((w :: e :: x :: ts).map PyData.str) 2
      simpa using this
    have hst : okT (Str.ofString "*") := by
      have : (Str.ofString "*") = S [42] := by decide +kernel
      rw [this]
      intro c hc
      have : c = 42 := by simpa using hc
      omega
    have eqs := eqS_ls2 (a := x :: ts) (b := [Str.ofString "*"]) (fun w hw => hk w (by simp at hw ⊢; rcases hw with h | h <;> simp [h])) (fun w hw => by rw [List.mem_singleton.mp hw]; exact hst)
    have al := allS_map wdB (x :: ts)
    have e1 : (sAsg 1 (oM1 splitS (oNm 0) (oC (.str " ")))) [some (false, .val (.str t)), none, none] = .nx [some (false, .val (.str t)), some (false, .lst ((w :: e :: x :: ts).map .str)), none] := by
      simp only [sAsg_ap] at *
      simp [-List.map_map, -List.map_cons, sp]
    have c1 := lc_all (f := PyData.str) (c := none) (T := .nm 2) (t := tTrue) (g := (oCall f_is_word (oAs [oNm 2]))) (own := [2])
      (ρ := [some (false, .val (.str t)), some (false, .lst ((w :: e :: x :: ts).map .str)), none]) (fun w => .bool (wdB w)) (x :: ts) (by simp) (by
      intro w hw
      have := is_word_eq w (hs w (by simp at hw ⊢; rcases hw with h | h <;> simp [h]))
      simp [-List.map_map, lturn_ap, this])
    have hM : ∃ M, M = (w :: e :: x :: ts).map PyData.str := ⟨_, rfl⟩
    obtain ⟨M, hM⟩ := hM
    have hX : ∃ M, M = (x :: ts).map PyData.str := ⟨_, rfl⟩
    obtain ⟨X, hX⟩ := hX
    have lX : (.tuple [.str w, .tuple X] : D) = eRow (w, x :: ts) := by rw [hX]; rfl
    have l3 : (M.length : Int) = ts.length + 3 := by rw [hM, l3]; rfl
    simp only [← hM, ← hX] at *
    clear hM hX sp hs hk
    have n3 : ¬ (M.length : Int) < 3 := by omega
    have n3' : ¬ M.length < 3 := by omega
    have sx : ([Str.ofString "*"].map PyData.str) = [.str (Str.ofString "*")] := rfl
    rw [sx] at eqs
    simp [-List.map_cons] at c1
    have er0 : PyData.tuple [.str w, .tuple []] = eRow (w, []) := rfl
    rw [f_read_row, runF_fin, s0, b_read_row, sq_nx e1]
    clear e1
    by_cases h1 : e = Str.ofString "="
    · rw [decide_eq_true h1] at ne
      cases h2 : wdB w with
      | false =>
        have er : rdP (w :: e :: x :: ts) = none := by show rdQ w e (x :: ts) = _; unfold rdQ; rw [if_neg (by rw [h2]; simp)]
        rw [h2] at ww
        rw [er]
        simp [-neS_str, -allS_ap, n3, n3', a0, a1, ne, ww]
      | true =>
        rw [h2] at ww
        by_cases h3 : x :: ts = [Str.ofString "*"]
        · have er : rdP (w :: e :: x :: ts) = some (w, []) := by show rdQ w e (x :: ts) = _; unfold rdQ; rw [if_pos ⟨h1, h2⟩, if_pos h3]
          rw [decide_eq_true h3] at eqs
          rw [er]
          simp [-neS_str, -allS_ap, n3, n3', a0, a1, ne, ww, ct, eqs, er0]
        · rw [decide_eq_false h3] at eqs
          cases h4 : (x :: ts).all wdB with
          | false =>
            have er : rdP (w :: e :: x :: ts) = none := by show rdQ w e (x :: ts) = _; unfold rdQ; rw [if_pos ⟨h1, h2⟩, if_neg h3, if_neg (by rw [h4]; simp)]
            rw [h4] at al
            rw [er]
            simp [-neS_str, -allS_ap, -List.all_cons, -List.map_cons, n3, n3', a0, a1, ne, ww, ct, eqs, c_read_row_1, c1, al]
          | true =>
            have er : rdP (w :: e :: x :: ts) = some (w, x :: ts) := by show rdQ w e (x :: ts) = _; unfold rdQ; rw [if_pos ⟨h1, h2⟩, if_neg h3, if_pos h4]
            rw [h4] at al
            rw [er]
            simp [-neS_str, -allS_ap, -List.all_cons, -List.map_cons, n3, n3', a0, a1, ne, ww, ct, eqs, c_read_row_1, c1, al, lX]
    · have er : rdP (w :: e :: x :: ts) = none := by show rdQ w e (x :: ts) = _; unfold rdQ; rw [if_neg fun q => h1 q.1]
      rw [decide_eq_false h1] at ne
      rw [er]
      simp [-neS_str, n3, n3', a0, a1, ne]
end Eng
/-! Books read and shown, of rows that are words. -/
namespace Eng
open PySem PySem.Spec L2 SX
open PyProof.Rows hiding St
theorem joinS_of {o : O} {ws : List Str} (s : Str) (h : o.seq? = some (ws.map .str)) (hl : (ws.map (·.length)).sum + ws.length * s.length ≤ 16777216) : joinS s o = some (.val (.str (Txt.join s ws))) := by
  unfold joinS
  rw [h]
  show (asStrs (ws.map PyData.str)).bind _ = _
  rw [asStrs_map]
  show (if (ws.map (·.length)).sum + ws.length * s.length ≤ 16777216 then some (O.val (.str (Txt.join s ws))) else none) = _
  rw [if_pos hl]
theorem sumB {α : Type} (f : α → Nat) (B : Nat) : ∀ {xs : List α}, (∀ x ∈ xs, f x ≤ B) → (xs.map f).sum ≤ xs.length * B
  | [], _ => by simp
  | x :: xs, h => by
    have h1 := h x (by simp)
    have h2 := sumB f B (xs := xs) fun y hy => h y (List.mem_cons_of_mem _ hy)
    simp only [List.map_cons, List.sum_cons, List.length_cons, Nat.add_mul]
    omega
theorem joinS_lst {ws : List Str} (s : Str) (B : Nat) (hB : ∀ w ∈ ws, w.length ≤ B) (hl : ws.length * B + ws.length * s.length ≤ 16777216) : joinS s (.lst (ws.map .str)) = some (.val (.str (Txt.join s ws))) := joinS_of s rfl (by have := sumB (fun x : Str => x.length) B hB; omega)
theorem join_len {ws : List Str} (s : Str) (B : Nat) (hB : ∀ w ∈ ws, w.length ≤ B) : (Txt.join s ws).length ≤ ws.length * B + ws.length * s.length := by
  have h1 := StrLaws.join_length_le s ws
  have h2 := sumB (fun x : Str => x.length) B hB
  rw [← TL.join_eq] at h1
  omega
theorem bl_len : (Str.ofString " ").length = 1 := by rw [blank]; rfl
theorem lf_len : (Str.ofString "\n").length = 1 := by rw [feed]; rfl
theorem eq_len : (Str.ofString " = ").length = 3 := by decide +kernel
/-! ### the text of a row -/
def tdl (ts : List Str) : List Str := if ts = [] then [Str.ofString "*"] else ts
def rtx (r : Row) : Str := r.1 ++ Str.ofString " = " ++ Txt.join (Str.ofString " ") (tdl r.2)
def btx (b : List Row) : Str := Txt.join (Str.ofString "\n") (b.map rtx)
theorem star_S : (Str.ofString "*") = S [42] := by decide +kernel
theorem eq_S : (Str.ofString "=") = S [61] := by decide +kernel
theorem tdl_ne (ts : List Str) : ∃ x r, tdl ts = x :: r := by
  unfold tdl
  split
  · exact ⟨_, _, rfl⟩
  · rename_i h
    cases ts with
    | nil => exact absurd rfl h
    | cons x r => exact ⟨x, r, rfl⟩
theorem app_assoc (a b c : Str) : a ++ b ++ c = a ++ (b ++ c) := TL.ext_tl (by rw [TL.tl_append, TL.tl_append, TL.tl_append, TL.tl_append, List.append_assoc])
theorem rtx_join (r : Row) : rtx r = Txt.join (Str.ofString " ") (r.1 :: Str.ofString "=" :: tdl r.2) := by
  obtain ⟨x, q, e⟩ := tdl_ne r.2
  unfold rtx
  rw [e, TL.join_eq, TL.join_eq]
  show r.1 ++ Str.ofString " = " ++ Str.join (Str.ofString " ") (x :: q) = r.1 ++ Str.ofString " " ++ (Str.ofString "=" ++ Str.ofString " " ++ Str.join (Str.ofString " ") (x :: q))
  have : (Str.ofString " = ") = Str.ofString " " ++ (Str.ofString "=" ++ Str.ofString " ") := by decide +kernel
  rw [this]
  simp only [app_assoc]
theorem WW.signs {w : Str} (h : WW w) : ∀ c ∈ w.cps.toList, 47 ≤ c ∧ c ≤ 122 := by
  obtain ⟨l, hl, rfl | ⟨n, h2, h9, rfl⟩⟩ := h
  · intro c hc
    have := hl.2.2 c hc
    omega
  · intro c hc
    have hc : c ∈ l ++ 47 :: TL.numL n := hc
    rcases List.mem_append.mp hc with hc | hc
    · have := hl.2.2 c hc
      omega
    · rcases List.mem_cons.mp hc with rfl | hc
      · omega
      · have := TL.numL_digits n c hc
        omega
/-- a row of words, at most eight told -/
def R8 (r : Row) : Prop := WW r.1 ∧ r.2.length ≤ 8 ∧ r.2.Nodup ∧ ∀ w ∈ r.2, WW w
theorem tdl_S {r : Row} (h : R8 r) : ∀ p ∈ r.1 :: Str.ofString "=" :: tdl r.2, p.length ≤ 11 ∧ ∀ c ∈ p.cps.toList, 42 ≤ c ∧ c ≤ 122 := by
  have hw : ∀ w, WW w → w.length ≤ 11 ∧ ∀ c ∈ w.cps.toList, 42 ≤ c ∧ c ≤ 122 := fun w q => ⟨q.len.1, fun c hc => by have := q.signs c hc; omega⟩
  intro p hp
  rcases List.mem_cons.mp hp with rfl | hp
  · exact hw _ h.1
  · rcases List.mem_cons.mp hp with rfl | hp
    · rw [eq_S]
      exact ⟨by rw [S_len]; simp, fun c hc => by have : c = 61 := by simpa using hc
                                                 omega⟩
    · unfold tdl at hp
      split at hp
      · rw [List.mem_singleton.mp hp, star_S]
        exact ⟨by rw [S_len]; simp, fun c hc => by have : c = 42 := by simpa using hc
                                                   omega⟩
      · exact hw _ (h.2.2.2 p hp)
theorem tdl_len {r : Row} (h : R8 r) : (tdl r.2).length ≤ 8 := by
  unfold tdl
  split
  · simp
  · exact h.2.1
theorem join_mem {y : Str} {ps : List Str} {P : Nat → Prop} (hy : ∀ c ∈ y.cps.toList, P c) (hp_ : ∀ p ∈ ps, ∀ c ∈ p.cps.toList, P c) : ∀ c ∈ (Txt.join y ps).cps.toList, P c := by
  have e : (Txt.join y ps).cps.toList = TL.joinL y.cps.toList (ps.map fun x => x.cps.toList) := by
    rw [TL.join_eq]
    exact TL.tl_join y ps
  rw [e]
  have key : ∀ qs : List (List Nat), (∀ p ∈ qs, ∀ c ∈ p, P c) → ∀ c ∈ TL.joinL y.cps.toList qs, P c := by
    intro qs
    induction qs with
    | nil => intro _ c hc; cases hc
    | cons q qs ih =>
      intro h c hc
      cases qs with
      | nil => exact h q (by simp) c hc
      | cons q2 r =>
        have hc : c ∈ q ++ (y.cps.toList ++ TL.joinL y.cps.toList (q2 :: r)) := hc
        rcases List.mem_append.mp hc with hc | hc
        · exact h q (by simp) c hc
        · rcases List.mem_append.mp hc with hc | hc
          · exact hy c hc
          · exact ih (fun p hp => h p (List.mem_cons_of_mem _ hp)) c hc
  refine key _ fun p hp c hc => ?_
  obtain ⟨x, hx, rfl⟩ := List.mem_map.mp hp
  exact hp_ x hx c hc
theorem rtx_S {r : Row} (h : R8 r) : (rtx r).length ≤ 200 ∧ ∀ c ∈ (rtx r).cps.toList, 32 ≤ c ∧ c ≤ 122 := by
  have hs := tdl_S h
  have hl := tdl_len h
  rw [rtx_join]
  refine ⟨?_, join_mem (P := fun c => 32 ≤ c ∧ c ≤ 122) (fun c hc => ?_) fun p hp c hc => ?_⟩
  · have := join_len (ws := r.1 :: Str.ofString "=" :: tdl r.2) (Str.ofString " ") 11 fun w hw => (hs w hw).1
    rw [bl_len] at this
    simp only [List.length_cons] at this
    omega
  · rw [blank] at hc
    have : c = 32 := by simpa using hc
    omega
  · have := (hs p hp).2 c hc
    omega
theorem rdR_rtx {r : Row} (h : R8 r) : rdR (rtx r) = some r := by
  have hs := tdl_S h
  unfold rdR
  rw [rtx_join, split_bl (by simp) fun p hp q => by have := (hs p hp).2 32 q; omega]
  obtain ⟨x, q, e⟩ := tdl_ne r.2
  rw [e]
  show rdQ r.1 (Str.ofString "=") (x :: q) = _
  unfold rdQ
  rw [if_pos ⟨rfl, wdB_of h.1⟩, ← e]
  unfold tdl
  by_cases h0 : r.2 = []
  · rw [if_pos h0, if_pos rfl]
    show some (r.1, []) = some (r.1, r.2)
    rw [h0]
  · rw [if_neg h0, if_neg, if_pos (List.all_eq_true.mpr fun w hw => wdB_of (h.2.2.2 w hw))]
    intro e2
    have : WW (Str.ofString "*") := h.2.2.2 _ (by rw [e2]; simp)
    rw [star_S] at this
    have := this.signs 42 (by simp)
    omega
theorem R8.rs {r : Row} (h : R8 r) : RS r := ⟨by have := h.1.len.1; exact small3 (by omega), by have := h.2.1; omega, fun w hw => by have := (h.2.2.2 w hw).len.1; exact small3 (by omega)⟩
theorem btx_S {b : List Row} (hl : b.length ≤ 60) (h : ∀ r ∈ b, R8 r) : (btx b).length ≤ 12060 ∧ ∀ c ∈ (btx b).cps.toList, 10 ≤ c ∧ c ≤ 122 := by
  refine ⟨?_, join_mem (P := fun c => 10 ≤ c ∧ c ≤ 122) (fun c hc => ?_) fun p hp c hc => ?_⟩
  · have := join_len (ws := b.map rtx) (Str.ofString "\n") 200 fun w hw => by
      obtain ⟨r, hr, rfl⟩ := List.mem_map.mp hw
      exact (rtx_S (h r hr)).1
    rw [lf_len, List.length_map] at this
    unfold btx
    omega
  · rw [feed] at hc
    have : c = 10 := by simpa using hc
    omega
  · obtain ⟨r, hr, rfl⟩ := List.mem_map.mp hp
    have := (rtx_S (h r hr)).2 c hc
    omega
theorem split_btx {b : List Row} (hne : b ≠ []) (h : ∀ r ∈ b, R8 r) : Txt.split (btx b) (Str.ofString "\n") = b.map rtx := split_lf (by simpa using hne) fun p hp q => by
  obtain ⟨r, hr, rfl⟩ := List.mem_map.mp hp
  have := (rtx_S (h r hr)).2 10 q
  omega
theorem btx_ne {b : List Row} (hne : b ≠ []) (h : ∀ r ∈ b, R8 r) : btx b ≠ Str.ofString "" := fun q => by
  have := split_btx hne h
  rw [q] at this
  have e : Txt.split (Str.ofString "") (Str.ofString "\n") = [Str.ofString ""] := by decide +kernel
  rw [e] at this
  cases b with
  | nil => exact hne rfl
  | cons r b =>
    rw [List.map_cons] at this
    have e2 := (List.cons.inj this).1
    have e3 := rdR_rtx (h r (by simp))
    rw [← e2] at e3
    have : rdR (Str.ofString "") = none := by decide +kernel
    rw [this] at e3
    cases e3
end Eng
/-! The text of a book as the laws write it; law k05. -/
namespace Eng
open PySem PySem.Spec L2 SX
open PyProof.Rows hiding St
theorem Td.r8 {ns : List Str} {r : Row} (h : Rw ns r) (hw : ∀ w ∈ ns, WW w) : R8 r := ⟨hw _ h.1, h.2.1, h.2.2.1, fun w q => hw _ (h.2.2.2 w q)⟩
theorem eqT_nil (ts : List Str) (h : ∀ w ∈ ts, WW w) : eqS (.val (eW ts)) (.val (.tuple [])) = some (.val (.bool (decide (ts = [])))) := by
  have := eqS_tups (a := ts) (b := []) h (by simp)
  rw [List.map_nil] at this
  exact this
/-- list(ts) + ["*"] * int(ts == ()) -/
theorem rep_star (ts : List Str) (hl : ts.length ≤ 8) : ∃ M : List D, repS (.lst [.str (Str.ofString "*")]) (.val (.int (if decide (ts = []) = true then 1 else 0))) = some (.lst M) ∧ addS (.lst (ts.map .str)) (.lst M) = some (.lst ((tdl ts).map .str)) := by
  have z1 : 1 ≤ sizeLine := by decide
  have z9 : 9 ≤ sizeLine := by decide
  by_cases h : ts = []
  · subst h
    refine ⟨[.str (Str.ofString "*")], ?_, ?_⟩
    · simp [repS, z1]
    · simp [addS, tdl, z1]
  · refine ⟨[], by simp [repS, h], ?_⟩
    have : ts.length ≤ sizeLine := by omega
    simp [addS, tdl, h, this]
theorem rtx_join2 (ts : List Str) (h : ts.length ≤ 8) (hw : ∀ w ∈ ts, w.length ≤ 11) : joinS (Str.ofString " ") (.lst (ts.map .str)) = some (.val (.str (Txt.join (Str.ofString " ") ts))) := joinS_lst (ws := ts) _ 11 hw (by rw [bl_len]; omega)
theorem rtx_adds {r : Row} (h : R8 r) : joinS (Str.ofString " ") (.lst ((tdl r.2).map .str)) = some (.val (.str (Txt.join (Str.ofString " ") (tdl r.2)))) ∧ addS (.val (.str r.1)) (.val (.str (Str.ofString " = "))) = some (.val (.str (r.1 ++ Str.ofString " = "))) ∧ addS (.val (.str (r.1 ++ Str.ofString " = "))) (.val (.str (Txt.join (Str.ofString " ") (tdl r.2)))) = some (.val (.str (rtx r))) := by
  have hs := tdl_S h
  have hl := tdl_len h
  have jl := join_len (ws := tdl r.2) (Str.ofString " ") 11 fun w hw => (hs w (by simp [hw])).1
  rw [bl_len] at jl
  have w1 := h.1.len.1
  have z1 : r.1.length + (Str.ofString " = ").length ≤ sizeLine := by rw [eq_len]; exact small3 (by omega)
  have ll : (r.1 ++ Str.ofString " = ").length = r.1.length + 3 := by
    have : (r.1 ++ Str.ofString " = ").cps.toList = r.1.cps.toList ++ (Str.ofString " = ").cps.toList := TL.tl_append _ _
    have e := congrArg List.length this
    rw [List.length_append] at e
    have h1 : ∀ x : Str, x.cps.toList.length = x.length := fun x => by simp [Str.length]
    rw [h1, h1, h1, eq_len] at e
    exact e
  have z3 : (r.1 ++ Str.ofString " = ").length + (Txt.join (Str.ofString " ") (tdl r.2)).length ≤ sizeLine := by rw [ll]; exact small3 (by omega)
  exact ⟨rtx_join2 _ hl fun w hw => (hs w (by simp [hw])).1, by rw [addS_str, if_pos z1], by rw [addS_str, if_pos z3]; rfl⟩
theorem Gd.txt {t : Str} (h : okT t) {n : Nat} (hl : t.length ≤ n) : Gd (.str t) 0 n := .str h.ok hl
theorem btx_joinS {b : List Row} (hl : b.length ≤ 60) (h : ∀ r ∈ b, R8 r) : joinS (Str.ofString "\n") (.lst ((b.map rtx).map .str)) = some (.val (.str (btx b))) := joinS_lst (ws := b.map rtx) _ 200 (fun w hw => by
  obtain ⟨r, hr, rfl⟩ := List.mem_map.mp hw
  exact (rtx_S (h r hr)).1) (by rw [lf_len, List.length_map]; omega)
end Eng
/-! Law k15: the law's own walk along pairs. -/
namespace Eng
open PySem PySem.Spec L2 SX
open PyProof.Rows hiding St
end Eng
/-! Law k15: the pairs made here, and bent. -/
namespace Eng
open PySem PySem.Spec L2 SX
open PyProof.Rows hiding St
@[simp] theorem inS_eL (x : Str) (ws : List Str) : inS (.val (.str x)) (.val (eL ws)) = some (.val (.bool (decide (x ∈ ws)))) := inS_list x ws
theorem tolds_snoc (b : List Row) (r : Row) (w : Str) : tolds (b ++ [r]) w = tolds b w ++ if r.1 = w then [r.2] else [] := by
  unfold tolds
  rw [List.filter_append, List.map_append]
  by_cases h : r.1 = w <;> simp [h]
/-- blocks for the rows of a word -/
def Gb (b : List Row) (S : List Str) (w : Str) (bl : List Str) : Prop := bl.length = (tolds b w).length ∧ ∀ p ∈ (tolds b w).zip bl, p.2 ∈ p.1 ∧ p.2 ∈ S
theorem Gb.stay {b : List Row} {S : List Str} {r : Row} {w : Str} {bl : List Str} (h : Gb b S w bl) (hr : r.1 ≠ w) : Gb (b ++ [r]) S w bl := by
  unfold Gb
  rw [tolds_snoc, if_neg hr, List.append_nil]
  exact h
end Eng
/-! Law k15: bent pairs, and the answer. -/
namespace Eng
open PySem PySem.Spec L2 SX
open PyProof.Rows hiding St
theorem cutA_from {α : Type} (xs : List α) (n : Nat) : cutA xs (some (n : Int)) none = xs.drop n := by
  unfold cutA
  rw [HT.sIx_nat, HT.sIx_none]
  by_cases hn : n ≤ xs.length
  · rw [Nat.min_eq_left hn]
    exact List.take_of_length_le (by rw [List.length_drop]; omega)
  · rw [Nat.min_eq_right (by omega), List.drop_eq_nil_of_le (show xs.length ≤ n by omega)]
    simp
end Eng
/-! The laws' own look at a word and at a book (laws k03, k06). -/
namespace Eng
open PySem PySem.Spec L2 SX
open PyProof.Rows hiding St
theorem head_split (w : Str) : ∃ p ps t, Txt.split w (Str.ofString "/") = p :: ps ∧ w.cps.toList = p.cps.toList ++ t ∧ (ps = [] → t = []) := by
  have j : Str.join (Str.ofString "/") (Txt.split w (Str.ofString "/")) = w := StrLaws.join_split w _
  have hp := split_pos w (Str.ofString "/")
  cases e : Txt.split w (Str.ofString "/") with
  | nil => rw [e] at hp; simp at hp
  | cons p ps =>
    rw [e] at j
    cases ps with
    | nil =>
      have jw : p = w := j
      exact ⟨p, [], [], rfl, by rw [jw, List.append_nil], fun _ => rfl⟩
    | cons q r =>
      have jw : p ++ Str.ofString "/" ++ Str.join (Str.ofString "/") (q :: r) = w := j
      refine ⟨p, q :: r, (Str.ofString "/").cps.toList ++ (Str.join (Str.ofString "/") (q :: r)).cps.toList, rfl, ?_, fun h => by cases h⟩
      rw [← jw]
      have e1 : (p ++ Str.ofString "/" ++ Str.join (Str.ofString "/") (q :: r)).cps.toList = (p ++ Str.ofString "/").cps.toList ++ (Str.join (Str.ofString "/") (q :: r)).cps.toList := TL.tl_append _ _
      have e2 : (p ++ Str.ofString "/").cps.toList = p.cps.toList ++ (Str.ofString "/").cps.toList := TL.tl_append _ _
      rw [e1, e2, List.append_assoc]
def lwB (w : Str) : Bool := match Txt.split w (Str.ofString "/") with
  | [] => false
  | p :: _ => stmB p.cps.toList && (decide (w.cps.toList.drop p.cps.toList.length = []) || decide (w.cps.toList.drop p.cps.toList.length ∈ nums.map fun n => 47 :: TL.numL n))
theorem lwB_eq (w : Str) : lwB w = wdB w := by
  rw [Bool.eq_iff_iff, wdB_iff]
  constructor
  · intro h
    obtain ⟨p, ps, t, e1, e2, _⟩ := head_split w
    unfold lwB at h
    rw [e1] at h
    simp only at h
    have hd : w.cps.toList.drop p.cps.toList.length = t := by rw [e2, List.drop_left]
    rw [hd, Bool.and_eq_true, Bool.or_eq_true, decide_eq_true_eq, decide_eq_true_eq] at h
    have hst := (stmB_iff _).mp h.1
    have ew : w = S (p.cps.toList ++ t) := by rw [← e2, S_tl]
    rcases h.2 with h | h
    · exact ⟨p.cps.toList, hst, .inl (by rw [ew, h, List.append_nil])⟩
    · obtain ⟨n, hn, q⟩ := List.mem_map.mp h
      have := nums_mem.mp hn
      exact ⟨p.cps.toList, hst, .inr ⟨n, this.1, this.2, by rw [ew, ← q]⟩⟩
  · rintro ⟨l, hl, rfl | ⟨n, h2, h9, rfl⟩⟩
    · unfold lwB
      rw [split_stem hl]
      have hd : (S l).cps.toList.drop (S l).cps.toList.length = [] := List.drop_length
      have hs : stmB (S l).cps.toList = true := (stmB_iff l).mpr hl
      simp only [hd, hs]
      rfl
    · unfold lwB
      rw [split_sense hl n]
      have hd : (S (l ++ 47 :: TL.numL n)).cps.toList.drop (S l).cps.toList.length = 47 :: TL.numL n := List.drop_left
      have hs : stmB (S l).cps.toList = true := (stmB_iff l).mpr hl
      have hm : (47 :: TL.numL n) ∈ nums.map fun n => 47 :: TL.numL n := List.mem_map.mpr ⟨n, nums_mem.mpr ⟨h2, h9⟩, rfl⟩
      simp only [hd, hs, hm, decide_true, Bool.or_true, Bool.and_self]
theorem l_is_word_eq (w : Str) (h : w.length + 2 ≤ sizeLine) : f_l_is_word [.val (.str w)] = .ret (.val (.bool (wdB w))) [.val (.str w)] := by
  have sp := splitS_slash w h
  rw [← lwB_eq]
  obtain ⟨p, ps, t, e1, e2, e3⟩ := head_split w
  have hs : p.length ≤ w.length := part_short (by rw [e1]; simp)
  have hd : w.cps.toList.drop p.cps.toList.length = t := by rw [e2, List.drop_left]
  unfold lwB
  rw [e1]
  simp only [hd]
  rw [e1] at sp
  have pl : p.cps.toList.length = p.length := by simp [Str.length]
  have wl : w.cps.toList.length = w.length := by simp [Str.length]
  have zp : p.cps.toList.length ≤ sizeLine := by omega
  have zt : t.length ≤ sizeLine := by
    have := congrArg List.length e2
    rw [List.length_append] at this
    omega
  have ep : p = S p.cps.toList := (S_tl p).symm
  generalize hpL : p.cps.toList = pL at *
  have lp : lenS (.val (.str p)) = some (.val (.int (pL.length : Nat))) := by rw [ep]; exact lenS_S pL zp
  have ct : slS (some ((pL.length : Nat) : Int)) none (.val (.str w)) = some (.val (.str (S t))) := by
    rw [slS_str, if_pos (by omega), show w = S w.cps.toList from (S_tl w).symm, cutS_S, cutA_from, e2, List.drop_left]
  have s0 : startE 5 [.val (.str w)] = [some (false, .val (.str w)), none, none, none, none] := rfl
  have p0 : (sAsg 1 (o2 ixS (oM1 splitS (oNm 0) (oC (.str "/"))) (oC (.int 0)))) [some (false, .val (.str w)), none, none, none, none] = .nx [some (false, .val (.str w)), some (false, .val (.str p)), none, none, none] := by
    simp [sp]
  have p1 : (sAsg 2 (oSl (oNm 0) (oPart (o1 lenS (oNm 1))) oNoPart)) [some (false, .val (.str w)), some (false, .val (.str p)), none, none, none] = .nx [some (false, .val (.str w)), some (false, .val (.str p)), some (false, .val (.str (S t))), none, none] := by
    simp [-lenS_str, -slS_str, lp, ct]
  rw [f_l_is_word, runF_fin, s0, b_l_is_word, sq_nx p0, sq_nx p1]
  by_cases h1 : 1 ≤ pL.length
  · by_cases h8 : pL.length ≤ 8
    · have n1 : ¬ ((pL.length : Nat) : Int) < 1 := by omega
      have n8 : ¬ (8 : Int) < ((pL.length : Nat) : Int) := by omega
      have c1 := lc_all (f := fun n : Nat => PyData.int (n : Int)) (c := none) (T := .nm 4) (t := tTrue) (g := (o2 addS (oC (.str "/")) (o1 strS (oNm 4)))) (own := [4]) (ρ := [some (false, .val (.str w)), some (false, .val (.str p)), some (false, .val (.str (S t))), none, none]) (fun n => .str (S (47 :: TL.numL n))) nums (by simp) (by
        intro n hn
        have hn := nums_mem.mp hn
        have g5 : (n : Int).natAbs.log2 < 1920 := Nat.lt_of_lt_of_le (Nat.log2_lt (by omega) |>.mpr (show n < 2 ^ 7 by omega)) (by decide)
        have g6 : Str.ofString (Int.repr (n : Int)) = S (TL.numL n) := num_S n
        have st : strS (.val (.int (n : Int))) = some (.val (.str (S (TL.numL n)))) := by
          show (if (n : Int).natAbs.log2 < 1920 then some (O.val (.str (Str.ofString (Int.repr (n : Int))))) else none) = _
          rw [if_pos g5, g6]
        have nl := numL_len hn.2
        have z1 : (Str.ofString "/").length + (S (TL.numL n)).length ≤ sizeLine := by rw [slash, S_len, S_len]; exact Nat.le_trans (show [47].length + (TL.numL n).length ≤ 3 by simp; omega) (by decide)
        have a1 : addS (.val (.str (Str.ofString "/"))) (.val (.str (S (TL.numL n)))) = some (.val (.str (S (47 :: TL.numL n)))) := by rw [addS_str, if_pos z1, slash, S_cat]; rfl
        simp [-List.map_map, -strS_int, -addS_str, lturn_ap, st, a1])
      rw [← nums_rng] at c1
      have em : (nums.map fun n => PyData.str (S (47 :: TL.numL n))) = (nums.map fun n => S (47 :: TL.numL n)).map .str := by rw [List.map_map]; rfl
      rw [em] at c1
      simp [-List.map_map] at c1
      have c2 := lc_all (f := fun c => PyData.str (S [c])) (c := none) (T := .nm 3) (t := tTrue) (g := (oChain leS leS (oC (.str "a")) (oNm 3) (oC (.str "z")))) (own := [3]) (ρ := [some (false, .val (.str w)), some (false, .val (.str p)), some (false, .val (.str (S t))), none, none]) (fun c => .bool (lowB c)) pL (by simp) (by
        intro c hc
        have e1 := le_a c
        have e2 := le_z c
        unfold lowB
        by_cases ha : 97 ≤ c
        · rw [decide_eq_true ha] at e1
          by_cases hz : c ≤ 122
          · rw [decide_eq_true hz] at e2
            simp [-leS_str, lturn_ap, e1, e2, ha, hz]
          · rw [decide_eq_false hz] at e2
            simp [-leS_str, lturn_ap, e1, e2, ha, hz]
        · rw [decide_eq_false ha] at e1
          simp [-leS_str, lturn_ap, e1, ha])
      simp [-List.map_map] at c2
      have it : itemsD (.str p) = some (pL.map fun c => .str (S [c])) := by rw [ep]; exact itemsD_S pL zp
      have al := allS_map lowB pL
      have em2 : Str.ofString "" = S [] := by decide +kernel
      have ne : neS (.val (.str (S t))) (.val (.str (Str.ofString ""))) = some (.val (.bool (!decide (t = [])))) := by rw [neS_str, em2, S_beq_eq]
      have nm : notinS (.val (.str (S t))) (.lst ((nums.map fun n => S (47 :: TL.numL n)).map .str)) = some (.val (.bool (!decide (t ∈ nums.map fun n => 47 :: TL.numL n)))) := by
        rw [notinS_lst]
        have : (S t ∈ nums.map fun n => S (47 :: TL.numL n)) ↔ (t ∈ nums.map fun n => 47 :: TL.numL n) := by
          simp only [List.mem_map]
          constructor
          · rintro ⟨n, hn, q⟩
            exact ⟨n, hn, S_inj' q⟩
          · rintro ⟨n, hn, q⟩
            exact ⟨n, hn, by rw [q]⟩
        rw [decide_eq_decide.mpr this]
      have fin : stmB pL = pL.all lowB := by unfold stmB; simp [h1, h8]
      rw [fin]
      by_cases ht : t = []
      · subst ht
        rw [decide_eq_true rfl] at ne
        simp [-List.map_map, -lenS_str, -neS_str, -allS_ap, lp, n1, n8, ne, c_l_is_word_2, it, c2, al]
      · rw [decide_eq_false ht] at ne
        cases hm : decide (t ∈ nums.map fun n => 47 :: TL.numL n) with
        | true =>
          rw [hm] at nm
          simp [-List.map_map, -lenS_str, -neS_str, -notinS_lst, -allS_ap, lp, n1, n8, ne, c_l_is_word_1, c1, nm, c_l_is_word_2, it, c2, al, ht]
        | false =>
          rw [hm] at nm
          simp [-List.map_map, -lenS_str, -neS_str, -notinS_lst, -allS_ap, lp, n1, n8, ne, c_l_is_word_1, c1, nm, ht]
    · have n1 : ¬ ((pL.length : Nat) : Int) < 1 := by omega
      have n8 : (8 : Int) < ((pL.length : Nat) : Int) := by omega
      have fin : stmB pL = false := by unfold stmB; simp [h8]
      simp [-List.map_map, -lenS_str, lp, n1, n8, fin]
  · have n1 : ((pL.length : Nat) : Int) < 1 := by omega
    have fin : stmB pL = false := by unfold stmB; simp [h1]
    simp [-List.map_map, -lenS_str, lp, n1, fin]
end Eng
/-! What is told anew: the reading evaluated. -/
namespace Eng
open PySem PySem.Spec L2 SX
open PyProof.Rows hiding St
theorem lfA_map {α : Type} {f : α → D} {xs : List α} (h : ∀ x ∈ xs, lfD (f x) = true) : lfA (xs.map f) = true := by
  induction xs with
  | nil => simp [lfA]
  | cons x xs ih =>
    rw [List.map_cons, lfA, h x List.mem_cons_self, ih fun y hy => h y (List.mem_cons_of_mem _ hy)]
    rfl
@[simp] theorem lfD_str (x : Str) : lfD (.str x) = true := by simp [lfD]
@[simp] theorem lfD_int (x : Int) : lfD (.int x) = true := by simp [lfD]
@[simp] theorem lfD_bool (x : Bool) : lfD (.bool x) = true := by simp [lfD]
@[simp] theorem lfD_none : lfD .none = true := by simp [lfD]
@[simp] theorem lfA_strs (xs : List Str) : lfA (xs.map PyData.str) = true := lfA_map fun _ _ => lfD_str _
@[simp] theorem lfA_ints (xs : List Int) : lfA (xs.map PyData.int) = true := lfA_map fun _ _ => lfD_int _
@[simp] theorem lfD_eW (xs : List Str) : lfD (eW xs) = true := by unfold eW; rw [lfD]; exact lfA_strs xs
@[simp] theorem lfD_eRow (r : Row) : lfD (eRow r) = true := by unfold eRow; simp [lfD, lfA]
@[simp] theorem lfD_eBk (b : List Row) : lfD (eBk b) = true := by unfold eBk; rw [lfD]; exact lfA_map fun _ _ => lfD_eRow _
@[simp] theorem lfO_val (d : D) : lfO (.val d) = lfD d := rfl
@[simp] theorem lfO_scr (ns : List Int) : lfO (.scr ns) = true := rfl
@[simp] theorem lfO_lst (ds : List D) : lfO (.lst ds) = lfA ds := rfl
@[simp] theorem strip_nil : strip [] = [] := rfl
@[simp] theorem strip_cons (sl : Sl) (ρ : En) : strip (sl :: ρ) = strip1 sl :: strip ρ := rfl
@[simp] theorem strip1_none : strip1 none = none := rfl
@[simp] theorem strip1_val (p : Bool) (d : D) : strip1 (some (p, .val d)) = if lfD d = true then some (p, .val d) else none := rfl
@[simp] theorem strip1_scr (p : Bool) (ns : List Int) : strip1 (some (p, .scr ns)) = some (p, .scr ns) := rfl
@[simp] theorem strip1_lst (p : Bool) (ds : List D) : strip1 (some (p, .lst ds)) = none := rfl
@[simp] theorem strip1_dic (p : Bool) (ds : List (D × D)) : strip1 (some (p, .dic ds)) = none := rfl
@[simp] theorem pinsE_nil (ρ : En) : pinsE [] ρ = some ρ := rfl
@[simp] theorem unpins_nil (o : SOut) : unpins [] o = o := rfl
@[simp] theorem unpins_cons (j : Nat) (js : List Nat) (o : SOut) : unpins (j :: js) o = unpS j (unpins js o) := rfl
@[simp] theorem unpS_rt (j : Nat) (o : O) (ρ : En) : unpS j (.rt o ρ) = .rt o (unpin j ρ) := rfl
@[simp] theorem unpin_zero_none (ρ : En) : unpin 0 (none :: ρ) = none :: ρ := rfl
@[simp] theorem noneE_nil (ρ : En) : noneE [] ρ = ρ := rfl
@[simp] theorem noneE_cons (i : Nat) (is : List Nat) (ρ : En) : noneE (i :: is) ρ = noneE is (ρ.set i none) := rfl
@[simp] theorem sFrz_ap (j : Nat) (b : SS) (ρ : En) : sFrz j b ρ = b (frz ρ j) := rfl
@[simp] theorem sDrp_ap (is : List Nat) (b : SS) (ρ : En) : sDrp is b ρ = b (dropE is ρ) := rfl
@[simp] theorem oAppT_ap (f g : ES) (ρ : En) : oAppT f g ρ = (f ρ).bind fun p ρ1 => match p with
  | .tmp (.lst ds) => (g ρ1).bind fun p2 ρ2 => match give ρ2 p2 with
    | some (_, ρ3) => if ds.length < sizeLine then .ok (.tmp (.val .none)) ρ3 else .stuck
    | none => .stuck
  | _ => .stuck := rfl
@[simp] theorem listRvT_tup (ds : List D) : listRvT (.val (.tuple ds)) = some (.lst ds.reverse) := rfl
@[simp] theorem tupRvT_tup (ds : List D) : tupRvT (.val (.tuple ds)) = some (.val (.tuple ds.reverse)) := rfl
end Eng
/-! Law k94: the second book, the words told to be the same. -/
namespace Eng
open PySem PySem.Spec L2 SX
open PyProof.Rows hiding St
end Eng
/-! Law k94: names and books laid together, as the law reckons them. -/
namespace Eng
open PySem PySem.Spec L2 SX
open PyProof.Rows hiding St
end Eng
/-! Law k94. -/
namespace Eng
open PySem PySem.Spec L2 SX
open PyProof.Rows hiding St
/-! ### the book laid together, as the law reckons it -/
end Eng
/-! The laws' own look at a book; what they say of the kinds (laws k03, k06). -/
namespace Eng
open PySem PySem.Spec L2 SX
open PyProof.Rows hiding St
/-- a row of texts -/
structure RG (r : Row) : Prop where
  rs : RS r
  oh : okT r.1
  ot : ∀ w ∈ r.2, okT w
def eKz (k : Row) : D := .tuple [.str k.1, .list (k.2.map .str)]
theorem longest : ∀ ws : List Str, ∃ n, ∀ w ∈ ws, w.length ≤ n
  | [] => ⟨0, by simp⟩
  | a :: ws => by
    obtain ⟨n, h⟩ := longest ws
    refine ⟨n + a.length, fun w hw => ?_⟩
    rcases List.mem_cons.mp hw with rfl | hw
    · omega
    · have := h w hw
      omega
theorem Gd.kz {k : Row} (h1 : okT k.1) (h2 : ∀ w ∈ k.2, okT w) : ∃ W, Gd (eKz k) 2 W := by
  obtain ⟨n, hb⟩ := longest k.2
  have hn : ∀ x ∈ k.2.map PyData.str, Gd x 0 n := fun x hx => by
    obtain ⟨w, hw, rfl⟩ := List.mem_map.mp hx
    exact Gd.str (h2 w hw).ok (hb w hw)
  have g2 := Gd.list hn
  have := Gd.tup (xs := [.str k.1, .list (k.2.map .str)]) (k := 1) (W := k.1.length + (k.2.map PyData.str).length * (n + 1)) (by
    intro x hx
    simp only [List.mem_cons, List.not_mem_nil, or_false] at hx
    rcases hx with rfl | rfl
    · exact (Gd.str h1.ok (Nat.le_refl _)).mono (by omega) (by omega)
    · exact g2.mono (by omega) (by omega))
  exact ⟨_, this⟩
theorem eqv_kz (a b : Row) : PyData.eqv (eKz a) (eKz b) = decide (a = b) := by
  obtain ⟨x, a⟩ := a
  obtain ⟨y, b⟩ := b
  unfold eKz
  simp only [PyData.eqv, PyData.eqvAll, eqvAll_strs, Bool.and_true]
  by_cases h : x = y
  · by_cases h2 : a = b <;> simp [h, h2]
  · simp [h]
theorem any_kz : ∀ (ks : List Row) (k : Row), (ks.map eKz).any (fun y => PyData.eqv y (eKz k)) = decide (k ∈ ks)
  | [], _ => rfl
  | a :: ks, k => by
    rw [List.map_cons, List.any_cons, any_kz ks k, eqv_kz]
    by_cases q : a = k
    · simp [q]
    · have : ¬ k = a := fun e => q e.symm
      simp [q, this]
theorem in_kz (ks : List Row) (hk : ∀ k ∈ ks, okT k.1 ∧ ∀ w ∈ k.2, okT w) (k : Row) (h : okT k.1 ∧ ∀ w ∈ k.2, okT w) : inS (.val (eKz k)) (.lst (ks.map eKz)) = some (.val (.bool (decide (k ∈ ks)))) := by
  have s1 : SeqAt.shaped (eKz k) = true := by
    obtain ⟨W, g⟩ := Gd.kz h.1 h.2
    exact g.shaped (by omega)
  have s2 : SeqAt.shaped (.list (ks.map eKz)) = true := by
    have : ∃ W, ∀ x ∈ ks.map eKz, Gd x 2 W := by
      clear s1
      induction ks with
      | nil => exact ⟨0, by simp⟩
      | cons a ks ih =>
        obtain ⟨W1, g1⟩ := Gd.kz (hk a (by simp)).1 (hk a (by simp)).2
        obtain ⟨W2, g2⟩ := ih fun k hm => hk k (by simp [hm])
        refine ⟨W1 + W2, fun x hx => ?_⟩
        rw [List.map_cons] at hx
        rcases List.mem_cons.mp hx with rfl | hx
        · exact g1.mono (Nat.le_refl _) (by omega)
        · exact (g2 x hx).mono (Nat.le_refl _) (by omega)
    obtain ⟨W, g⟩ := this
    exact (Gd.list g).shaped (by omega)
  have ev : (ks.map eKz).any (fun y => PyData.eqv y (eKz k)) = decide (k ∈ ks) := by
    exact any_kz ks k
  show (hasS (.val (eKz k)) (.lst (ks.map eKz))).map (fun k => O.val (.bool k)) = _
  unfold hasS
  simp only [view_val, seq_lst, s1, s2, Bool.and_self, Bool.or_true, if_true, ev, Option.map_some]
theorem fit_turn (b : List Row) (r : Row) (h : RG r) (k : List Row) (hk : ∀ q ∈ k, okT q.1 ∧ ∀ w ∈ q.2, okT w) (hl : k.length ≤ 1000000) : (bkFitS k r = some (k ++ [keyR r]) ∧ turn (.tup [2, 3]) [2, 3, 4] w_l_fit_1 (eRow r) [some (false, .val (eBk b)), some (false, .lst (k.map eKz)), none, none, none, none] = .nx [some (false, .val (eBk b)), some (false, .lst ((k ++ [keyR r]).map eKz)), none, none, none, none]) ∨
    (bkFitS k r = none ∧ ∃ ρ', turn (.tup [2, 3]) [2, 3, 4] w_l_fit_1 (eRow r) [some (false, .val (eBk b)), some (false, .lst (k.map eKz)), none, none, none, none] = .rt (.val (.bool false)) ρ' ∧ fins [.val (eBk b)] ρ' = some [.val (eBk b)]) := by
  have z : k.length < sizeLine := small (m := 1000000) hl
  have rs := h.rs
  have z2 : r.2.length ≤ sizeLine := small3 rs.ln
  have z3 : 1 + r.2.length ≤ sizeLine := by have := rs.ln; exact Nat.le_trans (show _ ≤ 1000001 by omega) (by decide)
  have ek : PyData.tuple [.str r.1, eL (sortT r.2)] = eKz (keyR r) := rfl
  have st : r.2.length ≤ 8 → setC (.val (eW r.2)) = some (.set (metT r.2)) := fun h8 => by
    have sc : r.2.length + 1 < scanBound := by
      have : 3001 < scanBound := by decide
      omega
    show setC (.val (.tuple (r.2.map .str))) = _
    rw [setC_tup, if_pos sc]
  have hm := metT_len r.2
  have ik := in_kz k hk (keyR r) ⟨h.oh, fun w hw => h.ot w (mem_sortT.mp hw)⟩
  have t0 : (Tgt.tup [2, 3]).put (eRow r) [some (false, .val (eBk b)), some (false, .lst (k.map eKz)), none, none, none, none] = some [some (false, .val (eBk b)), some (false, .lst (k.map eKz)), some (false, .val (.str r.1)), some (false, .val (eW r.2)), none, none] := by simp
  have a0 : (sAsg 4 (oTup (oAs [oNm 2, o1 sortS (oNm 3)]))) [some (false, .val (eBk b)), some (false, .lst (k.map eKz)), some (false, .val (.str r.1)), some (false, .val (eW r.2)), none, none] = .nx [some (false, .val (eBk b)), some (false, .lst (k.map eKz)), some (false, .val (.str r.1)), some (false, .val (eW r.2)), some (false, .val (eKz (keyR r))), none] := by
    simp [-List.map_map, z2, ek]
  have cw := lc_all (f := PyData.str) (c := none) (T := (.nm 5)) (t := (tTrue)) (g := (oCall f_l_is_word (oAs [oNm 5]))) (own := [5])
    (ρ := [some (false, .val (eBk b)), some (false, .lst (k.map eKz)), some (false, .val (.str r.1)), some (false, .val (eW r.2)), some (false, .val (eKz (keyR r))), none]) (fun w => .bool (wdB w)) (r.1 :: r.2) (by simp) (by
    intro w hw
    have hw2 : w.length + 2 ≤ sizeLine := by
      rcases List.mem_cons.mp hw with rfl | hw
      · exact rs.hd
      · exact rs.tw w hw
    have := l_is_word_eq w hw2
    simp [-List.map_map, lturn_ap, this])
  have al := allS_map wdB (r.1 :: r.2)
  have ac : addS (.val (.tuple [.str r.1])) (.val (eW r.2)) = some (.val (.tuple ((r.1 :: r.2).map .str))) := by
    show addS (.val (.tuple [.str r.1])) (.val (.tuple (r.2.map .str))) = _
    rw [addS_tup, if_pos (by simpa using z3)]
    rfl
  simp [-List.map_map, -List.map_cons] at cw
  have tv : (tNotC (tV (o1 allS c_l_fit_1))) [some (false, .val (eBk b)), some (false, .lst (k.map eKz)), some (false, .val (.str r.1)), some (false, .val (eW r.2)), some (false, .val (eKz (keyR r))), none] = .ok (!(wdB r.1 && r.2.all wdB)) [some (false, .val (eBk b)), some (false, .lst (k.map eKz)), some (false, .val (.str r.1)), some (false, .val (eW r.2)), some (false, .val (eKz (keyR r))), none] := by
    have : (r.1 :: r.2).all wdB = (wdB r.1 && r.2.all wdB) := List.all_cons
    rw [this] at al
    simp [-List.map_map, -List.map_cons, -allS_ap, -addS_tup, c_l_fit_1, ac, cw, al]
  rw [turn_ap, t0]
  simp only
  unfold bkFitS rowB
  rw [w_l_fit_1, sq_nx a0]
  by_cases q1 : keyR r ∈ k
  · rw [decide_eq_true q1] at ik
    exact .inr ⟨by simp [q1], [some (false, .val (eBk b)), some (false, .lst (k.map eKz)), some (false, .val (.str r.1)), some (false, .val (eW r.2)), some (false, .val (eKz (keyR r))), none], by simp [-List.map_map, ik], by simp⟩
  rw [decide_eq_false q1] at ik
  by_cases q2 : r.2.length ≤ 8
  · have st := st q2
    have q2' : ¬ (8 : Int) < r.2.length := by omega
    by_cases q3 : (metT r.2).length < r.2.length
    · have q3' : ¬ (((metT r.2).length : Nat) : Int) = r.2.length := by omega
      have q4 : ¬ (metT r.2).length = r.2.length := by omega
      refine .inr ⟨by simp [q3], [some (false, .val (eBk b)), some (false, .lst (k.map eKz)), some (false, .val (.str r.1)), some (false, .val (eW r.2)), some (false, .val (eKz (keyR r))), none], by simp [-List.map_map, ik, q2', st, q3', q4], by simp⟩
    · have q3' : (metT r.2).length = r.2.length := by omega
      have a1 : (sIf (tOrC (tV (o2 inS (oNm 4) (oNm 1))) (tOrC (tV (o2 gtS (o1 lenS (oNm 3)) (oC (.int 8)))) (tV (o2 neS (o1 lenS (o1 setC (oNm 3))) (o1 lenS (oNm 3)))))) (sRet (oC (.bool false))) sNil) [some (false, .val (eBk b)), some (false, .lst (k.map eKz)), some (false, .val (.str r.1)), some (false, .val (eW r.2)), some (false, .val (eKz (keyR r))), none] = .nx [some (false, .val (eBk b)), some (false, .lst (k.map eKz)), some (false, .val (.str r.1)), some (false, .val (eW r.2)), some (false, .val (eKz (keyR r))), none] := by
        simp [-List.map_map, ik, q2', st, q3']
      rw [sq_nx a1]
      cases q5 : (wdB r.1 && r.2.all wdB) with
      | false =>
        rw [q5] at tv
        refine .inr ⟨?_, [some (false, .val (eBk b)), some (false, .lst (k.map eKz)), some (false, .val (.str r.1)), some (false, .val (eW r.2)), some (false, .val (eKz (keyR r))), none], by simp [-tNotC_ap, tv], by simp⟩
        rw [Bool.and_eq_false_iff] at q5
        rcases q5 with q5 | q5 <;> simp [q5]
      | true =>
        rw [q5] at tv
        rw [Bool.and_eq_true] at q5
        refine .inl ⟨by simp [q1, q2, q3', q5.1, q5.2], ?_⟩
        simp [-List.map_map, -tNotC_ap, tv, z]
  · have q2' : (8 : Int) < r.2.length := by omega
    refine .inr ⟨by simp [q2], [some (false, .val (eBk b)), some (false, .lst (k.map eKz)), some (false, .val (.str r.1)), some (false, .val (eW r.2)), some (false, .val (eKz (keyR r))), none], by simp [-List.map_map, ik, q2'], by simp⟩
theorem l_fit_eq (b : List Row) (hb : ∀ r ∈ b, RG r) (hl : b.length ≤ 1000000) : f_l_fit [.val (eBk b)] = .ret (.val (.bool (bkFit b))) [.val (eBk b)] := by
  have s0 : startE 6 [.val (eBk b)] = [some (false, .val (eBk b)), none, none, none, none, none] := rfl
  have h := forL_try (f := eRow) (T := .tup [2, 3]) (fg := [2, 3, 4]) (b := w_l_fit_1) none (fun k : List Row => [some (false, .val (eBk b)), some (false, .lst (k.map eKz)), none, none, none, none]) bkFitS (fun k => k.Nodup ∧ ∀ x ∈ k, x ∈ b.map keyR) (fun ρ => fins [.val (eBk b)] ρ = some [.val (eBk b)]) (.val (.bool false)) (fun _ => trivial) b [] ⟨List.nodup_nil, by simp⟩ (by
    rintro k r hr ⟨kn, km⟩
    have hk : k.length ≤ 1000000 := by
      have := sub_len kn km
      rw [List.length_map] at this
      omega
    rcases fit_turn b r (hb r hr) k (fun q hq => by
      obtain ⟨s, hs, rfl⟩ := List.mem_map.mp (km q hq)
      exact ⟨(hb s hs).oh, fun w hw => (hb s hs).ot w (mem_sortT.mp hw)⟩) hk with ⟨e1, e2⟩ | ⟨e1, ρ', e2, e3⟩
    · refine .inl ⟨_, e1, e2, ?_, ?_⟩
      · have q2 : keyR r ∉ k := fun q => by simp [bkFitS, q] at e1
        rw [List.nodup_append]
        exact ⟨kn, by simp, fun a ha b hb => by simp at hb; rw [hb]; exact fun e => q2 (e ▸ ha)⟩
      · intro x hx
        rcases List.mem_append.mp hx with hx | hx
        · exact km x hx
        · rw [List.mem_singleton.mp hx]
          exact List.mem_map.mpr ⟨r, hr, rfl⟩
    · exact .inr ⟨e1, ρ', e2, e3⟩)
  unfold bkFit
  have p0 : (sAsg 1 (oLst (oAs []))) [some (false, .val (eBk b)), none, none, none, none, none] = .nx [some (false, .val (eBk b)), some (false, .lst []), none, none, none, none] := by simp
  rw [f_l_fit, runF_fin, s0, b_l_fit, sq_nx p0]
  rcases h with ⟨s', e1, e2, _⟩ | ⟨e1, ρ', e2, hf⟩
  · simp only [List.map_nil] at e2
    have : decide ((b.length : Int) ≤ 60) = decide (b.length ≤ 60) := decide_eq_decide.mpr (by omega)
    simp [-List.map_map, e1, e2, this]
  · simp only [List.map_nil] at e2
    simp [-List.map_map, e1, e2, hf]
def K2 : List D := [.bool true, .bool true, .bool false, .bool true, .bool false, .bool false, .bool false, .bool false, .bool false, .bool false]
theorem kinds_2 : f_l_kinds_3 [.exn 2] = .ret (.lst K2) [.exn 2] := by rfl
theorem only_3 : f_l_only [.lst K2, .val (.int 3)] = .ret (.val (.bool true)) [.lst K2, .val (.int 3)] := by
  have c1 := lc_rng (lo := 0) (c := none) (T := (.nm 2)) (t := (tTrue)) (g := (oOr (o2 ltS (oNm 2) (oC (.int 2))) (o2 eqS (oNm 2) (oNm 1)))) (own := [2]) (ρ := [some (true, .lst K2), some (false, .val (.int 3)), none]) (fun k => .bool (decide (k < 2) || decide (k = 3))) 10 (by simp) (by
    intro k hk
    by_cases h2 : k < 2
    · have : (k : Int) < 2 := by omega
      simp [lturn_ap, this, h2]
    · have : ¬ (k : Int) < 2 := by omega
      by_cases h3 : k = 3
      · subst h3
        simp [lturn_ap]
      · have h4 : ¬ (k : Int) = 3 := by omega
        simp [lturn_ap, this, h2, h3, h4])
  have eK : (List.range 10).map (fun k => PyData.bool (decide (k < 2) || decide (k = 3))) = K2 := by rfl
  rw [eK] at c1
  have g : Gd (.list K2) 1 20 := (Gd.list (k := 0) (W := 0) (fun x hx => by
    simp only [K2, List.mem_cons, List.not_mem_nil, or_false] at hx
    rcases hx with rfl | rfl | rfl | rfl | rfl | rfl | rfl | rfl | rfl | rfl <;> exact Gd.bool _)).mono (by omega) (by decide)
  have q := Gd.eq (a := .lst K2) (b := .lst K2) rfl rfl g (by omega)
  simp at c1
  simp [f_l_only, b_l_only, runF_ap, c_l_only_1, c1, q]
end Eng
/-! The shelf. -/
namespace Eng
open PySem PySem.Spec L2 SX
open PyProof.Rows hiding St
theorem np1 : ¬ (Str.ofString "now" = Str.ofString "past") := by decide +kernel
theorem nk_turned : ¬ (Str.ofString "now" = Str.ofString "turned") := by decide +kernel
theorem pk_turned : ¬ (Str.ofString "past" = Str.ofString "turned") := by decide +kernel
theorem nk_place_of : ¬ (Str.ofString "now" = Str.ofString "place_of") := by decide +kernel
theorem pk_place_of : ¬ (Str.ofString "past" = Str.ofString "place_of") := by decide +kernel
theorem nk_put : ¬ (Str.ofString "now" = Str.ofString "put") := by decide +kernel
theorem pk_put : ¬ (Str.ofString "past" = Str.ofString "put") := by decide +kernel
theorem nk_take : ¬ (Str.ofString "now" = Str.ofString "take") := by decide +kernel
theorem pk_take : ¬ (Str.ofString "past" = Str.ofString "take") := by decide +kernel
theorem nk_back : ¬ (Str.ofString "now" = Str.ofString "back") := by decide +kernel
theorem pk_back : ¬ (Str.ofString "past" = Str.ofString "back") := by decide +kernel
theorem nk_book : ¬ (Str.ofString "now" = Str.ofString "book") := by decide +kernel
theorem pk_book : ¬ (Str.ofString "past" = Str.ofString "book") := by decide +kernel
theorem nk_learnt_now : ¬ (Str.ofString "now" = Str.ofString "learnt_now") := by decide +kernel
theorem pk_learnt_now : ¬ (Str.ofString "past" = Str.ofString "learnt_now") := by decide +kernel
theorem nk_deeds : ¬ (Str.ofString "now" = Str.ofString "deeds") := by decide +kernel
theorem pk_deeds : ¬ (Str.ofString "past" = Str.ofString "deeds") := by decide +kernel
/-- a shelf: its book, the books ahead -/
def shF (b : List Row) (ps : List (List Row)) : List (Str × O) := [(Str.ofString "now", .val (eBk b)), (Str.ofString "past", .lst (ps.map eBk))]
@[simp] theorem fins_ins (c : Nat) (fs : List (Str × O)) (os : List O) (x : O) (ρ : En) : fins (.ins c fs :: os) (some (true, x) :: ρ) = match fins os ρ with | some r => some (x :: r) | none => none := rfl
@[simp] theorem sh_now (b : List Row) (ps : List (List Row)) : (shF b ps).lookup (Str.ofString "now") = some (.val (eBk b)) := by
  unfold shF
  rw [look_cons, if_pos rfl]
@[simp] theorem sh_past (b : List Row) (ps : List (List Row)) : (shF b ps).lookup (Str.ofString "past") = some (.lst (ps.map eBk)) := by
  unfold shF
  rw [look_cons, if_neg np1, look_cons, if_pos rfl]
@[simp] theorem sh_putN (b c : List Row) (ps : List (List Row)) : fput (Str.ofString "now") (.val (eBk c)) (shF b ps) = shF c ps := by
  unfold shF fput
  rw [if_pos rfl]
@[simp] theorem sh_putP (b : List Row) (ps : List (List Row)) (ds : List D) : fput (Str.ofString "past") (.lst ds) (shF b ps) = [(Str.ofString "now", .val (eBk b)), (Str.ofString "past", .lst ds)] := by
  unfold shF fput
  rw [if_neg np1]
  unfold fput
  rw [if_pos rfl]
@[simp] theorem sh_len (b : List Row) (ps : List (List Row)) : (shF b ps).length = 2 := rfl
@[simp] theorem sh_turned (b : List Row) (ps : List (List Row)) : (shF b ps).lookup (Str.ofString "turned") = none := by
  unfold shF
  rw [look_cons, if_neg nk_turned, look_cons, if_neg pk_turned]
  rfl
@[simp] theorem sh_place_of (b : List Row) (ps : List (List Row)) : (shF b ps).lookup (Str.ofString "place_of") = none := by
  unfold shF
  rw [look_cons, if_neg nk_place_of, look_cons, if_neg pk_place_of]
  rfl
@[simp] theorem sh_put (b : List Row) (ps : List (List Row)) : (shF b ps).lookup (Str.ofString "put") = none := by
  unfold shF
  rw [look_cons, if_neg nk_put, look_cons, if_neg pk_put]
  rfl
@[simp] theorem sh_take (b : List Row) (ps : List (List Row)) : (shF b ps).lookup (Str.ofString "take") = none := by
  unfold shF
  rw [look_cons, if_neg nk_take, look_cons, if_neg pk_take]
  rfl
@[simp] theorem sh_back (b : List Row) (ps : List (List Row)) : (shF b ps).lookup (Str.ofString "back") = none := by
  unfold shF
  rw [look_cons, if_neg nk_back, look_cons, if_neg pk_back]
  rfl
@[simp] theorem sh_book (b : List Row) (ps : List (List Row)) : (shF b ps).lookup (Str.ofString "book") = none := by
  unfold shF
  rw [look_cons, if_neg nk_book, look_cons, if_neg pk_book]
  rfl
@[simp] theorem sh_learnt_now (b : List Row) (ps : List (List Row)) : (shF b ps).lookup (Str.ofString "learnt_now") = none := by
  unfold shF
  rw [look_cons, if_neg nk_learnt_now, look_cons, if_neg pk_learnt_now]
  rfl
@[simp] theorem sh_deeds (b : List Row) (ps : List (List Row)) : (shF b ps).lookup (Str.ofString "deeds") = none := by
  unfold shF
  rw [look_cons, if_neg nk_deeds, look_cons, if_neg pk_deeds]
  rfl
@[simp] theorem oFld_ap (c i : Nat) (m : Str) (ρ : En) : oFld c i m ρ = match ρ[i]? with
  | some (some (_, .ins c' fs)) => if c' = c then match fs.lookup m with
      | some (.val d) => .ok (.tmp (.val d)) ρ
      | _ => .stuck
    else .stuck
  | _ => .stuck := rfl
@[simp] theorem sFld_ap (c i : Nat) (m : Str) (g : ES) (ρ : En) : sFld c i m g ρ = (g ρ).bindS fun p ρ1 => match giveUp ρ1 p with
  | some (o, ρ2) => match ρ2[i]? with
    | some (some (b, .ins c' fs)) => if c' = c ∧ fs.length < 900 then .nx (ρ2.set i (some (b, .ins c' (fput m o fs)))) else .stuck
    | _ => .stuck
  | none => .stuck := rfl
@[simp] theorem oMeth_ap (c i : Nat) (m : Str) (fn : FSem) (gs : List ES) (ρ : En) : oMeth c i m fn gs ρ = match ρ[i]? with
  | some (some (_, .ins c' fs)) => if c' = c ∧ fs.lookup m = none then oCall fn (oAs (oNm i :: gs)) ρ else .stuck
  | _ => .stuck := rfl
@[simp] theorem oFldU_ap (sem : O → Option O) (c i : Nat) (m : Str) (ρ : En) : oFldU sem c i m ρ = match ρ[i]? with
  | some (some (_, .ins c' fs)) => if c' = c then match fs.lookup m with
      | some o => put ρ (sem o)
      | none => .stuck
    else .stuck
  | _ => .stuck := rfl
@[simp] theorem sFldApp_ap (c i : Nat) (m m2 : Str) (ρ : En) : sFldApp c i m m2 ρ = match ρ[i]? with
  | some (some (b, .ins c' fs)) => if c' = c then match fs.lookup m, fs.lookup m2 with
      | some (.lst ds), some (.val d) => if ds.length < sizeLine then .nx (ρ.set i (some (b, .ins c' (fput m (.lst (ds ++ [d])) fs)))) else .stuck
      | _, _ => .stuck
    else .stuck
  | _ => .stuck := rfl
@[simp] theorem oFldPop_ap (c i : Nat) (m : Str) (ρ : En) : oFldPop c i m ρ = match ρ[i]? with
  | some (some (b, .ins c' fs)) => if c' = c then match fs.lookup m with
      | some (.lst ds) => match ds[ds.length - 1]? with
        | some d => .ok (.tmp (.val d)) (ρ.set i (some (b, .ins c' (fput m (.lst ds.dropLast) fs))))
        | none => .stuck
      | _ => .stuck
    else .stuck
  | _ => .stuck := rfl
@[simp] theorem oMake_ap (c : Nat) (fn : FSem) (ρ : En) : oMake c fn ρ = match fn [.ins c []] with
  | .ret (.val .none) [x] => .ok (.tmp x) ρ
  | _ => .stuck := rfl
/-! ### the methods -/
end Eng
/-! The shelf: rows put in, taken out, taken back. -/
namespace Eng
open PySem PySem.Spec L2 SX
open PyProof.Rows hiding St
/-- words told, as a list or a tuple -/
inductive Tl (ts : List Str) : D → Prop
  | lst : Tl ts (eL ts)
  | tup : Tl ts (eW ts)
/-- rows of texts that are in order (no line crossed) -/
structure RT (w : Str) (ts : List Str) : Prop where
  rs : RS (w, ts)
  hd : okT w
  tw : ∀ v ∈ ts, okT v
theorem WW.okT {w : Str} (h : WW w) : okT w := fun c hc => by have := h.signs c hc; omega
@[simp] theorem isnot_int (k : Int) : isnotS (.val (.int k)) (.val .none) = some (.val (.bool true)) := rfl
@[simp] theorem isnot_non : isnotS (.val .none) (.val .none) = some (.val (.bool false)) := rfl
@[simp] theorem is_int (k : Int) : isS (.val (.int k)) (.val .none) = some (.val (.bool false)) := rfl
@[simp] theorem is_non : isS (.val .none) (.val .none) = some (.val (.bool true)) := rfl
/-- the told words as they are handed over -/
inductive Ho (ts : List Str) : O → Prop
  | lst : Ho ts (.lst (ts.map .str))
  | val {d : D} (h : Tl ts d) : Ho ts (.val d)
end Eng
/-! Law k03: books with one thing spoilt. -/
namespace Eng
open PySem PySem.Spec L2 SX
open PyProof.Rows hiding St
structure RQ (r : Row) : Prop where
  oh : okT r.1 ∧ r.1.length ≤ 40
  ln : r.2.length ≤ 40
  ot : ∀ w ∈ r.2, okT w ∧ w.length ≤ 40
theorem RQ.rg {r : Row} (h : RQ r) : RG r := ⟨⟨Nat.le_trans (show _ ≤ 42 by have := h.oh.2; omega) (by decide), by have := h.ln; omega, fun w hw => Nat.le_trans (show _ ≤ 42 by have := (h.ot w hw).2; omega) (by decide)⟩, h.oh.1, fun w hw => (h.ot w hw).1⟩
theorem WW.q {w : Str} (h : WW w) : Eng.okT w ∧ w.length ≤ 40 := ⟨h.okT, by have := h.len; omega⟩
theorem R8.rq {r : Row} (h : R8 r) : RQ r := ⟨h.1.q, by have := h.2.1; omega, fun w hw => (h.2.2.2 w hw).q⟩
theorem Gd.rq {r : Row} (h : RQ r) : Gd (eRow r) 2 4000 := by
  have h1 : Gd (Eng.eW r.2) 1 (r.2.length * 41) := by
    have := Gd.tup (xs := r.2.map PyData.str) (k := 0) (W := 40) (Gd.map fun w hw => Gd.str (h.ot w hw).1.ok (h.ot w hw).2)
    rw [List.length_map] at this
    exact this
  have hl := h.ln
  have := Gd.tup (xs := [.str r.1, Eng.eW r.2]) (k := 1) (W := 1700) (by
    intro x hx
    simp only [List.mem_cons, List.not_mem_nil, or_false] at hx
    rcases hx with rfl | rfl
    · exact (Gd.str h.oh.1.ok h.oh.2).mono (by omega) (by omega)
    · exact h1.mono (by omega) (by omega))
  exact this.mono (by omega) (by simp)
theorem Gd.bq {b : List Row} (h : ∀ r ∈ b, RQ r) (hl : b.length ≤ 150) : ∃ W, W ≤ 1048576 ∧ Gd (eBk b) 3 W := by
  have := Gd.tup (xs := b.map eRow) (k := 2) (W := 4000) (Gd.map fun r hr => Gd.rq (h r hr))
  rw [List.length_map] at this
  exact ⟨b.length * 4001, by omega, this⟩
theorem sIf_t3 {t : TS'} {a c : SS} {ρ ρ1 : En} (h : t ρ = .ok true ρ1) : sIf t a c ρ = a ρ1 := by simp [h]
end Eng
/-! Law k06: texts with a spoilt place. -/
namespace Eng
open PySem PySem.Spec L2 SX
open PyProof.Rows hiding St
/-- so much do texts take, with one sign behind each -/
def mu (ws : List Str) : Nat := (ws.map fun w => w.length + 1).sum
theorem mu_app (a c : List Str) : mu (a ++ c) = mu a + mu c := by unfold mu; rw [List.map_append, List.sum_append]
theorem mu_cons (w : Str) (ws : List Str) : mu (w :: ws) = w.length + 1 + mu ws := by unfold mu; rw [List.map_cons, List.sum_cons]
theorem mu_nil : mu [] = 0 := rfl
theorem mu_one (w : Str) : mu [w] = w.length + 1 := by rw [mu_cons, mu_nil]
theorem mu_take : ∀ (n : Nat) (ws : List Str), mu (ws.take n) ≤ mu ws
  | 0, ws => by rw [List.take_zero, mu_nil]; omega
  | _ + 1, [] => by simp
  | n + 1, w :: ws => by rw [List.take_succ_cons, mu_cons, mu_cons]; have := mu_take n ws; omega
theorem mu_drop : ∀ (n : Nat) (ws : List Str), mu (ws.drop n) ≤ mu ws
  | 0, ws => by rw [List.drop_zero]; omega
  | _ + 1, [] => by simp
  | n + 1, w :: ws => by rw [List.drop_succ_cons, mu_cons]; have := mu_drop n ws; omega
theorem mu_cut (ws : List Str) (lo hi : Option Int) : mu (cutA ws lo hi) ≤ mu ws := Nat.le_trans (mu_take _ _) (mu_drop _ _)
theorem mu_rev (ws : List Str) : mu ws.reverse = mu ws := by
  induction ws with
  | nil => rfl
  | cons w ws ih => rw [List.reverse_cons, mu_app, mu_one, mu_cons, ih]; omega
theorem mu_mem {ws : List Str} {w : Str} (h : w ∈ ws) : w.length + 1 ≤ mu ws := by
  induction ws with
  | nil => cases h
  | cons a ws ih =>
    rw [mu_cons]
    rcases List.mem_cons.mp h with rfl | h
    · omega
    · have := ih h
      omega
theorem mu_len (ws : List Str) : ws.length ≤ mu ws := by
  induction ws with
  | nil => simp
  | cons a ws ih => rw [mu_cons, List.length_cons]; omega
theorem mu_sum (ws : List Str) : (ws.map (·.length)).sum + ws.length = mu ws := by
  induction ws with
  | nil => rfl
  | cons a ws ih => rw [mu_cons, List.map_cons, List.sum_cons, List.length_cons]; omega
theorem tls_len (w : Str) : w.cps.toList.length = w.length := by simp [Str.length]
theorem joinL_len (y : List Nat) (hy : y.length = 1) : ∀ qs : List (List Nat), qs ≠ [] → (TL.joinL y qs).length + 1 = (qs.map fun q => q.length + 1).sum
  | [], h => absurd rfl h
  | [q], _ => by
    show q.length + 1 = _
    simp
  | q :: r :: qs, _ => by
    have ih := joinL_len y hy (r :: qs) (by simp)
    have e : TL.joinL y (q :: r :: qs) = q ++ (y ++ TL.joinL y (r :: qs)) := rfl
    rw [e, List.length_append, List.length_append, hy, List.map_cons, List.sum_cons, ← ih]
    omega
theorem mu_split (t y : Str) (hy : y.length = 1) : mu (Txt.split t y) = t.length + 1 := by
  have j : Str.join y (Txt.split t y) = t := StrLaws.join_split t y
  have hp := split_pos t y
  have e : t.cps.toList = TL.joinL y.cps.toList ((Txt.split t y).map fun x => x.cps.toList) := by
    have := TL.tl_join y (Txt.split t y)
    rw [j] at this
    exact this
  have h := joinL_len y.cps.toList (by rw [tls_len, hy]) ((Txt.split t y).map fun x => x.cps.toList) (fun q => by
    have := congrArg List.length q
    rw [List.length_map] at this
    simp at this
    rw [this] at hp
    simp at hp)
  rw [← e, tls_len, List.map_map] at h
  unfold mu
  rw [h]
  congr 1
/-- texts, good, and of that much at most -/
structure LK (ws : List Str) (n : Nat) : Prop where
  ok : ∀ w ∈ ws, okT w
  mu : mu ws ≤ n
theorem LK.app {a c : List Str} {n m : Nat} (h : LK a n) (h2 : LK c m) : LK (a ++ c) (n + m) := ⟨fun w hw => (List.mem_append.mp hw).elim (h.ok w) (h2.ok w), by rw [mu_app]; have := h.mu; have := h2.mu; omega⟩
theorem LK.cut {a : List Str} {n : Nat} (h : LK a n) (lo hi : Option Int) : LK (cutA a lo hi) n := ⟨fun w hw => h.ok w (mem_cutA hw), Nat.le_trans (mu_cut _ _ _) h.mu⟩
theorem LK.one {w : Str} (h : okT w) : LK [w] (w.length + 1) := ⟨fun v hv => by rw [List.mem_singleton.mp hv]; exact h, by rw [mu_one]; omega⟩
theorem LK.le {a : List Str} {n m : Nat} (h : LK a n) (hm : n ≤ m) : LK a m := ⟨h.ok, Nat.le_trans h.mu hm⟩
theorem LK.len {a : List Str} {n : Nat} (h : LK a n) : a.length ≤ n := Nat.le_trans (mu_len a) h.mu
theorem LK.add {a c : List Str} {n m : Nat} (h : LK a n) (h2 : LK c m) (hz : n + m ≤ 1000000) : addS (.lst (a.map .str)) (.lst (c.map .str)) = some (.lst ((a ++ c).map .str)) := by
  rw [addS_ll, List.length_map, List.length_map, if_pos (small3 (by have := h.len; have := h2.len; omega)), List.map_append]
theorem sl_strs (a : List Str) (lo hi : Option Int) : slS lo hi (.lst (a.map .str)) = some (.lst ((cutA a lo hi).map .str)) := by rw [slS_lst, cutA_map]
theorem LK.join {ws : List Str} {n : Nat} (h : LK ws n) (y : Str) (hy : y.length = 1) (ho : okT y) (hn : n ≤ 1000000) : ∃ t, joinS y (.lst (ws.map .str)) = some (.val (.str t)) ∧ okT t ∧ t.length ≤ n := by
  have hs := mu_sum ws
  have hm := h.mu
  refine ⟨Txt.join y ws, joinS_of y rfl (by rw [hy]; omega), join_mem (P := fun c => c < 0x110000) ho fun p hp => h.ok p hp, ?_⟩
  have h1 := StrLaws.join_length_le y ws
  rw [← TL.join_eq, hy] at h1
  omega
theorem bl_ok : okT (Str.ofString " ") := fun c hc => by
  have : c ∈ [32] := by rw [blank] at hc; exact hc
  rw [List.mem_singleton.mp this]
  decide
theorem lf_ok : okT (Str.ofString "\n") := fun c hc => by
  have : c ∈ [10] := by rw [feed] at hc; exact hc
  rw [List.mem_singleton.mp this]
  decide
theorem lk_lines {t : Str} (h : okT t) : LK (Txt.split t (Str.ofString "\n")) (t.length + 1) := ⟨fun w hw => h.split hw, Nat.le_of_eq (mu_split t _ lf_len)⟩
theorem lk_words {t : Str} (h : okT t) : LK (Txt.split t (Str.ofString " ")) (t.length + 1) := ⟨fun w hw => h.split hw, Nat.le_of_eq (mu_split t _ bl_len)⟩
theorem Dr.mid {n : Nat} {ds : List Int} (h : Dr n ds) (a b : Nat) (hab : a ≤ b) (hb : b ≤ n) : Dr (b - a) (cutA ds (some (a : Int)) (some (b : Int))) := by
  have e : cutA ds (some (a : Int)) (some (b : Int)) = (ds.drop a).take (b - a) := by
    unfold cutA
    rw [HT.sIx_nat, HT.sIx_nat, h.1, Nat.min_eq_left (by omega), Nat.min_eq_left (by omega)]
  rw [e]
  exact ⟨by rw [List.length_take, List.length_drop, h.1]; omega, fun d hd => h.2 d (List.mem_of_mem_drop (List.mem_of_mem_take hd))⟩
def odA : List Str := [Str.ofString "*", Str.ofString "=", Str.ofString "", Str.ofString "a", Str.ofString "bank/2", Str.ofString "bank/1", Str.ofString "Bank", Str.ofString "abcdefghi", Str.ofString "a/100", Str.ofString "a/", Str.ofString "/3", Str.ofString "==", Str.ofString "a="]
def odB : List Str := [Str.ofString "**", Str.ofString "a/02"]
def odC : List Str := [Str.ofString "-", Str.ofString "none", Str.ofString "a.b", Str.ofString "7", Str.ofString "a/2/2"]
theorem od_q : ∀ w ∈ odA ++ odB ++ odC, okT w ∧ w.length ≤ 9 := by
  have h : ((odA ++ odB ++ odC).all fun w => (w.cps.toList.all fun c => decide (c < 0x110000)) && decide (w.length ≤ 9)) = true := by decide +kernel
  intro w hw
  have := List.all_eq_true.mp h w hw
  rw [Bool.and_eq_true, List.all_eq_true] at this
  exact ⟨fun c hc => of_decide_eq_true (this.1 c hc), of_decide_eq_true this.2⟩
theorem l_bent_words_ex (ds : List Int) (hds : Dr 5 ds) (ws : List Str) (m : Nat) (hw : LK ws m) (hm : m ≤ 100000) (hne : ws ≠ []) : ∃ us, LK us (3 * m + 10) ∧ f_l_bent_words [.lst (ds.map .int), .lst (ws.map .str)] = .ret (.lst (us.map .str)) [.lst (ds.map .int), .lst (ws.map .str)] := by
  obtain ⟨a1, b1, c1⟩ := hds.at 1 (by omega) (by omega)
  obtain ⟨a2, b2, c2⟩ := hds.at 2 (by omega) (by omega)
  obtain ⟨a3, b3, c3⟩ := hds.at 3 (by omega) (by omega)
  have hp : 0 < ws.length := List.length_pos_iff.mpr hne
  have hpi : (0 : Int) < ws.length := by omega
  obtain ⟨at_, hat, at0, at1⟩ : ∃ a : Int, dat ds 2 % (ws.length : Int) = a ∧ 0 ≤ a ∧ a < ws.length := ⟨_, rfl, Int.emod_nonneg _ (by omega), Int.emod_lt_of_pos _ hpi⟩
  obtain ⟨wy, hwy⟩ : ∃ a : Int, dat ds 1 % 4 = a := ⟨_, rfl⟩
  have s0 : startE 6 [.lst (ds.map .int), .lst (ws.map .str)] = [some (true, .lst (ds.map .int)), some (true, .lst (ws.map .str)), none, none, none, none] := rfl
  have md : modS (.val (.int (dat ds 2))) (.val (.int (ws.length : Int))) = some (.val (.int at_)) := by rw [modS_int, if_pos hpi, hat]
  have p0 : (sAsg 2 (o2 modS (o2 ixS (oNm 0) (oC (.int 2))) (o1 lenS (oNm 1)))) [some (true, .lst (ds.map .int)), some (true, .lst (ws.map .str)), none, none, none, none] = .nx [some (true, .lst (ds.map .int)), some (true, .lst (ws.map .str)), some (false, .val (.int at_)), none, none, none] := by
    simp [-List.map_map, -modS_int, a2, md]
  have p1 : (sAsg 3 (oLst (oAs [oC (.str "*"), oC (.str "="), oC (.str ""), oC (.str "a"), oC (.str "bank/2"), oC (.str "bank/1"), oC (.str "Bank"), oC (.str "abcdefghi"), oC (.str "a/100"), oC (.str "a/"), oC (.str "/3"), oC (.str "=="), oC (.str "a=")]))) [some (true, .lst (ds.map .int)), some (true, .lst (ws.map .str)), some (false, .val (.int at_)), none, none, none] = .nx [some (true, .lst (ds.map .int)), some (true, .lst (ws.map .str)), some (false, .val (.int at_)), some (false, .lst (odA.map .str)), none, none] := rfl
  have ad1 : addS (.lst (odA.map .str)) (.lst (odB.map .str)) = some (.lst ((odA ++ odB).map .str)) := by
    rw [addS_ll, if_pos (by decide), List.map_append]
  have ad2 : addS (.lst ((odA ++ odB).map .str)) (.lst (odC.map .str)) = some (.lst ((odA ++ odB ++ odC).map .str)) := by
    rw [addS_ll, if_pos (by decide), List.map_append (l₁ := odA ++ odB)]
  have lB : (oLst (oAs [oC (.str "**"), oC (.str "a/02")])) [some (true, .lst (ds.map .int)), some (true, .lst (ws.map .str)), some (false, .val (.int at_)), some (false, .lst (odA.map .str)), none, none] = .ok (.tmp (.lst (odB.map .str))) [some (true, .lst (ds.map .int)), some (true, .lst (ws.map .str)), some (false, .val (.int at_)), some (false, .lst (odA.map .str)), none, none] := rfl
  have lC : (oLst (oAs [oC (.str "-"), oC (.str "none"), oC (.str "a.b"), oC (.str "7"), oC (.str "a/2/2")])) [some (true, .lst (ds.map .int)), some (true, .lst (ws.map .str)), some (false, .val (.int at_)), some (false, .lst ((odA ++ odB).map .str)), none, none] = .ok (.tmp (.lst (odC.map .str))) [some (true, .lst (ds.map .int)), some (true, .lst (ws.map .str)), some (false, .val (.int at_)), some (false, .lst ((odA ++ odB).map .str)), none, none] := rfl
  have p2 : (sAsg 3 (o2 addS (oNm 3) (oLst (oAs [oC (.str "**"), oC (.str "a/02")])))) [some (true, .lst (ds.map .int)), some (true, .lst (ws.map .str)), some (false, .val (.int at_)), some (false, .lst (odA.map .str)), none, none] = .nx [some (true, .lst (ds.map .int)), some (true, .lst (ws.map .str)), some (false, .val (.int at_)), some (false, .lst ((odA ++ odB).map .str)), none, none] := by
    simp [-List.map_map, -List.map_append, -oLst_ap, -addS_ll, lB, ad1]
  have p3 : (sAsg 3 (o2 addS (oNm 3) (oLst (oAs [oC (.str "-"), oC (.str "none"), oC (.str "a.b"), oC (.str "7"), oC (.str "a/2/2")])))) [some (true, .lst (ds.map .int)), some (true, .lst (ws.map .str)), some (false, .val (.int at_)), some (false, .lst ((odA ++ odB).map .str)), none, none] = .nx [some (true, .lst (ds.map .int)), some (true, .lst (ws.map .str)), some (false, .val (.int at_)), some (false, .lst ((odA ++ odB ++ odC).map .str)), none, none] := by
    simp [-List.map_map, -List.map_append, -oLst_ap, -addS_ll, lC, ad2]
  have p4 : (sAsg 4 (o2 modS (o2 ixS (oNm 0) (oC (.int 1))) (oC (.int 4)))) [some (true, .lst (ds.map .int)), some (true, .lst (ws.map .str)), some (false, .val (.int at_)), some (false, .lst ((odA ++ odB ++ odC).map .str)), none, none] = .nx [some (true, .lst (ds.map .int)), some (true, .lst (ws.map .str)), some (false, .val (.int at_)), some (false, .lst ((odA ++ odB ++ odC).map .str)), some (false, .val (.int wy)), none] := by
    simp [-List.map_map, a1, hwy]
  rw [f_l_bent_words, runF_fin, s0, b_l_bent_words, sq_nx p0, sq_nx p1, sq_nx p2, sq_nx p3, sq_nx p4]
  have q1 := hw.cut none (some at_)
  have q2 := hw.cut (some (at_ + 1)) none
  have q3 := hw.cut (some at_) none
  by_cases h0 : wy = 0
  · have ad := q1.add q2 (by omega)
    refine ⟨_, (q1.app q2).le (by omega), ?_⟩
    simp [-List.map_map, -List.map_append, -addS_ll, -slS_lst, sl_strs, ad, h0]
  by_cases h1 : wy = 1
  · obtain ⟨v, ev, hv⟩ := at_strs (ns := ws) at0 at1
    have hv1 := mu_mem hv
    have vm := hw.mu
    have l1 := LK.one (hw.ok v hv)
    have ad := q1.add l1 (by omega)
    have ad2 := (q1.app l1).add q3 (by omega)
    have m1 : PyData.str v :: [] = [v].map PyData.str := rfl
    rw [List.map_cons, List.map_nil] at ad
    refine ⟨_, ((q1.app l1).app q3).le (by omega), ?_⟩
    simp [-List.map_map, -List.map_append, -List.append_assoc, -addS_ll, -slS_lst, sl_strs, ev, ad, ad2, h1]
  obtain ⟨v, ev, hv⟩ := at_strs (ns := odA ++ odB ++ odC) (i := dat ds 3 % 20) (Int.emod_nonneg _ (by omega)) (show dat ds 3 % 20 < 20 from Int.emod_lt_of_pos _ (by omega))
  obtain ⟨vo, vl⟩ := od_q v hv
  have l20 : (odA ++ odB ++ odC).length = 20 := rfl
  have p5 : (sAsg 5 (o2 ixS (oNm 3) (o2 modS (o2 ixS (oNm 0) (oC (.int 3))) (o1 lenS (oNm 3))))) [some (true, .lst (ds.map .int)), some (true, .lst (ws.map .str)), some (false, .val (.int at_)), some (false, .lst ((odA ++ odB ++ odC).map .str)), some (false, .val (.int wy)), none] = .nx [some (true, .lst (ds.map .int)), some (true, .lst (ws.map .str)), some (false, .val (.int at_)), some (false, .lst ((odA ++ odB ++ odC).map .str)), some (false, .val (.int wy)), some (false, .val (.str v))] := by
    have ln : lenS (.lst ((odA ++ odB ++ odC).map .str)) = some (.val (.int 20)) := by rw [lenS_lst, List.length_map, l20]; rfl
    have ix : ixS (.lst ((odA ++ odB ++ odC).map .str)) (.val (.int (dat ds 3 % 20))) = some (.val (.str v)) := by rw [ixS_lst, ev]; rfl
    simp [-List.map_map, -List.map_append, -List.append_assoc, -lenS_lst, -ixS_lst, ixS_lst (ds.map PyData.int) 3, a3, ln, ix]
  have l1 := LK.one vo
  have ad := q1.add l1 (by omega)
  rw [List.map_cons, List.map_nil] at ad
  have q4 := hw.cut (some (at_ + 1 - wy % 2)) none
  have ad2 := (q1.app l1).add q4 (by omega)
  refine ⟨_, ((q1.app l1).app q4).le (by omega), ?_⟩
  have n5 : (sIf (tV (o2 eqS (oNm 4) (oC (.int 0)))) (sRet (o2 addS (oSl (oNm 1) oNoPart (oPart (oNm 2))) (oSl (oNm 1) (oPart (o2 addS (oNm 2) (oC (.int 1)))) oNoPart))) sNil) [some (true, .lst (ds.map .int)), some (true, .lst (ws.map .str)), some (false, .val (.int at_)), some (false, .lst ((odA ++ odB ++ odC).map .str)), some (false, .val (.int wy)), none] = .nx [some (true, .lst (ds.map .int)), some (true, .lst (ws.map .str)), some (false, .val (.int at_)), some (false, .lst ((odA ++ odB ++ odC).map .str)), some (false, .val (.int wy)), none] := by simp [h0]
  have n6 : (sIf (tV (o2 eqS (oNm 4) (oC (.int 1)))) (sRet (o2 addS (o2 addS (oSl (oNm 1) oNoPart (oPart (oNm 2))) (oLst (oAs [o2 ixS (oNm 1) (oNm 2)]))) (oSl (oNm 1) (oPart (oNm 2)) oNoPart))) sNil) [some (true, .lst (ds.map .int)), some (true, .lst (ws.map .str)), some (false, .val (.int at_)), some (false, .lst ((odA ++ odB ++ odC).map .str)), some (false, .val (.int wy)), none] = .nx [some (true, .lst (ds.map .int)), some (true, .lst (ws.map .str)), some (false, .val (.int at_)), some (false, .lst ((odA ++ odB ++ odC).map .str)), some (false, .val (.int wy)), none] := by simp [h1]
  rw [sq_nx n5, sq_nx n6, sq_nx p5]
  simp [-List.map_map, -List.map_append, -List.append_assoc, -addS_ll, -slS_lst, sl_strs, ad, ad2]
end Eng
/-! Law k06: texts with a spoilt place, the ways. -/
namespace Eng
open PySem PySem.Spec L2 SX
open PyProof.Rows hiding St
theorem downO_strs (ws : List Str) : downO (.lst (ws.map .str)) = some (.lst ((ws.drop 2).reverse.map .str)) := by
  show some (O.lst ((ws.map PyData.str).drop 2).reverse) = _
  rw [← List.map_drop, ← List.map_reverse]
theorem eight_at : ∀ k : Fin 8, atI (Str.ofString "abcdefgh").cps.toList (k.val : Int) = some (97 + k.val) := by decide +kernel
theorem sign8 {i : Int} (h0 : 0 ≤ i) (h1 : i < 8) : ixS (.val (.str (Str.ofString "abcdefgh"))) (.val (.int i)) = some (.val (.str (S [97 + i.toNat]))) := by
  have h := eight_at ⟨i.toNat, by omega⟩
  have e : ((i.toNat : Nat) : Int) = i := by omega
  simp only [e] at h
  rw [ixS_str, if_pos (by decide), h]
  rfl
theorem S_okT {l : List Nat} (h : ∀ c ∈ l, c < 0x110000) : okT (S l) := h
theorem sgns_at : ∀ k : Fin 10, ∃ c, atI (Str.ofString " \n=*/aZ29-").cps.toList (k.val : Int) = some c ∧ c < 200 := by
  intro k
  have h : (List.finRange 10).all (fun k => match atI (Str.ofString " \n=*/aZ29-").cps.toList (k.val : Int) with
    | some c => decide (c < 200)
    | none => false) = true := by decide +kernel
  have := List.all_eq_true.mp h k (List.mem_finRange k)
  split at this
  · rename_i c e
    exact ⟨c, e, of_decide_eq_true this⟩
  · cases this
theorem sgn10 {i : Int} (h0 : 0 ≤ i) (h1 : i < 10) : ∃ c, ixS (.val (.str (Str.ofString " \n=*/aZ29-"))) (.val (.int i)) = some (.val (.str (S [c]))) ∧ c < 200 := by
  obtain ⟨c, h, hc⟩ := sgns_at ⟨i.toNat, by omega⟩
  have e : ((i.toNat : Nat) : Int) = i := by omega
  simp only [e] at h
  refine ⟨c, ?_, hc⟩
  rw [ixS_str, if_pos (by decide), h]
  rfl
def zzW (x y : Nat) : Str := S ([122, 122, x, y] ++ [32, 61, 32, 42])
theorem zz_txt (x y : Nat) : ∃ a c, addS (.val (.str (Str.ofString "zz"))) (.val (.str (S [x]))) = some (.val (.str a)) ∧ addS (.val (.str a)) (.val (.str (S [y]))) = some (.val (.str c)) ∧ addS (.val (.str c)) (.val (.str (Str.ofString " = *"))) = some (.val (.str (zzW x y))) := by
  have q : Str.ofString "zz" = S [122, 122] := by decide +kernel
  have z : Str.ofString " = *" = S [32, 61, 32, 42] := by decide +kernel
  refine ⟨S [122, 122, x], S [122, 122, x, y], ?_, ?_, ?_⟩
  · rw [addS_str, q, if_pos (by rw [S_len, S_len]; show 3 ≤ sizeLine; decide), S_cat]; rfl
  · rw [addS_str, if_pos (by rw [S_len, S_len]; show 4 ≤ sizeLine; decide), S_cat]; rfl
  · rw [addS_str, z, if_pos (by rw [S_len, S_len]; show 8 ≤ sizeLine; decide), S_cat]; rfl
theorem zz_ok {x y : Nat} (hx : x < 200) (hy : y < 200) : okT (zzW x y) ∧ (zzW x y).length = 8 := ⟨S_okT fun c hc => by
  simp only [List.cons_append, List.nil_append, List.mem_cons, List.not_mem_nil, or_false] at hc
  omega, by
  show (S _).length = 8
  rw [S_len]
  rfl⟩
/-- what a bent text is -/
abbrev TB (N : Nat) (t : Str) : Prop := okT t ∧ t.length ≤ 6 * N + 1000
theorem l_bent6_ex (ds : List Int) (hds : Dr 5 ds) (t : Str) (N : Nat) (ht : okT t) (hl : t.length ≤ N) (hN : N ≤ 90000) : ∃ u, TB N u ∧ f_l_bent [.lst (ds.map .int), .val (.str t)] = .ret (.val (.str u)) [.lst (ds.map .int), .val (.str t)] := by
  obtain ⟨a0, b0, c0⟩ := hds.at 0 (by omega) (by omega)
  obtain ⟨a1, b1, c1⟩ := hds.at 1 (by omega) (by omega)
  obtain ⟨a2, b2, c2⟩ := hds.at 2 (by omega) (by omega)
  obtain ⟨a3, b3, c3⟩ := hds.at 3 (by omega) (by omega)
  obtain ⟨a4, b4, c4⟩ := hds.at 4 (by omega) (by omega)
  have zt : t.length + 2 ≤ sizeLine := small3 (by omega)
  have hw := lk_lines ht
  have sp := splitS_lf t zt
  have hp := split_pos t (Str.ofString "\n")
  have rows : ∀ w ∈ Txt.split t (Str.ofString "\n"), w.length ≤ t.length := fun w h => part_short h
  generalize Txt.split t (Str.ofString "\n") = ws at *
  have hpi : (0 : Int) < ws.length := by omega
  obtain ⟨at_, hat, at0, at1⟩ : ∃ a : Int, dat ds 1 / 4 % (ws.length : Int) = a ∧ 0 ≤ a ∧ a < ws.length := ⟨_, rfl, Int.emod_nonneg _ (by omega), Int.emod_lt_of_pos _ hpi⟩
  obtain ⟨wy, hwy⟩ : ∃ a : Int, dat ds 0 % 11 = a := ⟨_, rfl⟩
  have s0 : startE 11 [.lst (ds.map .int), .val (.str t)] = [some (true, .lst (ds.map .int)), some (false, .val (.str t)), none, none, none, none, none, none, none, none, none] := rfl
  have p0 : (sAsg 2 (oM1 splitS (oNm 1) (oC (.str "\n")))) [some (true, .lst (ds.map .int)), some (false, .val (.str t)), none, none, none, none, none, none, none, none, none] = .nx [some (true, .lst (ds.map .int)), some (false, .val (.str t)), some (false, .lst (ws.map .str)), none, none, none, none, none, none, none, none] := by
    simp [-List.map_map, sp]
  have md : modS (.val (.int (dat ds 1 / 4))) (.val (.int (ws.length : Int))) = some (.val (.int at_)) := by rw [modS_int, if_pos hpi, hat]
  have p1 : (sAsg 3 (o2 modS (o2 fdivS (o2 ixS (oNm 0) (oC (.int 1))) (oC (.int 4))) (o1 lenS (oNm 2)))) [some (true, .lst (ds.map .int)), some (false, .val (.str t)), some (false, .lst (ws.map .str)), none, none, none, none, none, none, none, none] = .nx [some (true, .lst (ds.map .int)), some (false, .val (.str t)), some (false, .lst (ws.map .str)), some (false, .val (.int at_)), none, none, none, none, none, none, none] := by
    simp [-List.map_map, -modS_int, a1, md]
  have p2 : (sAsg 4 (o2 modS (o2 ixS (oNm 0) (oC (.int 0))) (oC (.int 11)))) [some (true, .lst (ds.map .int)), some (false, .val (.str t)), some (false, .lst (ws.map .str)), some (false, .val (.int at_)), none, none, none, none, none, none, none] = .nx [some (true, .lst (ds.map .int)), some (false, .val (.str t)), some (false, .lst (ws.map .str)), some (false, .val (.int at_)), some (false, .val (.int wy)), none, none, none, none, none, none] := by
    simp [-List.map_map, a0, hwy]
  have rw_ : f_l_bent [.lst (ds.map .int), .val (.str t)] = finO [.lst (ds.map .int), .val (.str t)] ((sSeq (sIf (tV (o2 eqS (oNm 4) (oC (.int 9)))) (sRet (oM1 joinS (oC (.str "\n")) (o2 addS (o2 addS (oSl (oNm 2) oNoPart (oPart (oNm 3))) (oLst (oAs [oC (.str "q = a b c d e f g h i")]))) (oSl (oNm 2) (oPart (oNm 3)) oNoPart)))) sNil) (sSeq (sIf (tV (o2 eqS (oNm 4) (oC (.int 10)))) (sSeq (sAsg 8 (oC (.str "abcdefgh"))) (sSeq (sFor (iRng1 (oAs [o2 subS (oC (.int 61)) (o1 lenS (oNm 2))])) (.nm 9) [9] w_l_bent_1) (sRet (oM1 joinS (oC (.str "\n")) (oNm 2))))) sNil) (sSeq (sIf (tV (o2 eqS (oNm 4) (oC (.int 0)))) (sRet (oM1 joinS (oC (.str "\n")) (o2 addS (oSl (oNm 2) oNoPart (oPart (oNm 3))) (oSl (oNm 2) (oPart (o2 addS (oNm 3) (oC (.int 1)))) oNoPart)))) sNil) (sSeq (sIf (tV (o2 eqS (oNm 4) (oC (.int 1)))) (sRet (oM1 joinS (oC (.str "\n")) (o2 addS (oNm 2) (oLst (oAs [o2 ixS (oNm 2) (oNm 3)]))))) sNil) (sSeq (sIf (tV (o2 eqS (oNm 4) (oC (.int 2)))) (sSeq (sAsg 10 (oM1 splitS (o2 ixS (oNm 2) (oNm 3)) (oC (.str " ")))) (sRet (oM1 joinS (oC (.str "\n")) (o2 addS (oLst (oAs [oM1 joinS (oC (.str " ")) (o2 addS (oSl (oNm 10) oNoPart (oPart (oC (.int 2)))) (o1 downO (oNm 10)))])) (oNm 2))))) sNil) (sSeq (sIf (tV (o2 eqS (oNm 4) (oC (.int 3)))) (sRet (oM1 joinS (oC (.str "\n")) (o2 addS (oSl (oNm 2) (oPart (oNm 3)) oNoPart) (oSl (oNm 2) oNoPart (oPart (oNm 3)))))) sNil) (sSeq (sIf (tV (o2 ltS (oNm 4) (oC (.int 7)))) (sSeq (sAsg 10 (oCall f_l_bent_words (oAs [oNm 0, oM1 splitS (o2 ixS (oNm 2) (oNm 3)) (oC (.str " "))]))) (sRet (oM1 joinS (oC (.str "\n")) (o2 addS (o2 addS (oSl (oNm 2) oNoPart (oPart (oNm 3))) (oLst (oAs [oM1 joinS (oC (.str " ")) (oNm 10)]))) (oSl (oNm 2) (oPart (o2 addS (oNm 3) (oC (.int 1)))) oNoPart))))) sNil) (sSeq (sAsg 5 (o2 modS (o2 addS (o2 mulS (o2 ixS (oNm 0) (oC (.int 2))) (oC (.int 64))) (o2 ixS (oNm 0) (oC (.int 3)))) (o2 addS (o1 lenS (oNm 1)) (oC (.int 1))))) (sSeq (sAsg 6 (o2 ixS (oC (.str " \n=*/aZ29-")) (o2 modS (o2 ixS (oNm 0) (oC (.int 1))) (oC (.int 10))))) (sSeq (sIf (tV (o2 eqS (o2 modS (o2 ixS (oNm 0) (oC (.int 4))) (oC (.int 3))) (oC (.int 0)))) (sAsg 6 (oC (.str ""))) sNil) (sSeq (sAsg 7 (oSl (oNm 1) (oPart (o2 addS (oNm 5) (o2 modS (o2 ixS (oNm 0) (oC (.int 4))) (oC (.int 2))))) oNoPart)) (sRet (o2 addS (o2 addS (oSl (oNm 1) oNoPart (oPart (oNm 5))) (oNm 6)) (oNm 7)))))))))))))) [some (true, .lst (ds.map .int)), some (false, .val (.str t)), some (false, .lst (ws.map .str)), some (false, .val (.int at_)), some (false, .val (.int wy)), none, none, none, none, none, none]) := by
    rw [f_l_bent, runF_fin, s0, b_l_bent, sq_nx p0, sq_nx p1, sq_nx p2]
  have fin : ∀ (u : Str) (ρ : En), TB N u → fins [.lst (ds.map .int), .val (.str t)] ρ = some [.lst (ds.map .int), .val (.str t)] → (sSeq (sIf (tV (o2 eqS (oNm 4) (oC (.int 9)))) (sRet (oM1 joinS (oC (.str "\n")) (o2 addS (o2 addS (oSl (oNm 2) oNoPart (oPart (oNm 3))) (oLst (oAs [oC (.str "q = a b c d e f g h i")]))) (oSl (oNm 2) (oPart (oNm 3)) oNoPart)))) sNil) (sSeq (sIf (tV (o2 eqS (oNm 4) (oC (.int 10)))) (sSeq (sAsg 8 (oC (.str "abcdefgh"))) (sSeq (sFor (iRng1 (oAs [o2 subS (oC (.int 61)) (o1 lenS (oNm 2))])) (.nm 9) [9] w_l_bent_1) (sRet (oM1 joinS (oC (.str "\n")) (oNm 2))))) sNil) (sSeq (sIf (tV (o2 eqS (oNm 4) (oC (.int 0)))) (sRet (oM1 joinS (oC (.str "\n")) (o2 addS (oSl (oNm 2) oNoPart (oPart (oNm 3))) (oSl (oNm 2) (oPart (o2 addS (oNm 3) (oC (.int 1)))) oNoPart)))) sNil) (sSeq (sIf (tV (o2 eqS (oNm 4) (oC (.int 1)))) (sRet (oM1 joinS (oC (.str "\n")) (o2 addS (oNm 2) (oLst (oAs [o2 ixS (oNm 2) (oNm 3)]))))) sNil) (sSeq (sIf (tV (o2 eqS (oNm 4) (oC (.int 2)))) (sSeq (sAsg 10 (oM1 splitS (o2 ixS (oNm 2) (oNm 3)) (oC (.str " ")))) (sRet (oM1 joinS (oC (.str "\n")) (o2 addS (oLst (oAs [oM1 joinS (oC (.str " ")) (o2 addS (oSl (oNm 10) oNoPart (oPart (oC (.int 2)))) (o1 downO (oNm 10)))])) (oNm 2))))) sNil) (sSeq (sIf (tV (o2 eqS (oNm 4) (oC (.int 3)))) (sRet (oM1 joinS (oC (.str "\n")) (o2 addS (oSl (oNm 2) (oPart (oNm 3)) oNoPart) (oSl (oNm 2) oNoPart (oPart (oNm 3)))))) sNil) (sSeq (sIf (tV (o2 ltS (oNm 4) (oC (.int 7)))) (sSeq (sAsg 10 (oCall f_l_bent_words (oAs [oNm 0, oM1 splitS (o2 ixS (oNm 2) (oNm 3)) (oC (.str " "))]))) (sRet (oM1 joinS (oC (.str "\n")) (o2 addS (o2 addS (oSl (oNm 2) oNoPart (oPart (oNm 3))) (oLst (oAs [oM1 joinS (oC (.str " ")) (oNm 10)]))) (oSl (oNm 2) (oPart (o2 addS (oNm 3) (oC (.int 1)))) oNoPart))))) sNil) (sSeq (sAsg 5 (o2 modS (o2 addS (o2 mulS (o2 ixS (oNm 0) (oC (.int 2))) (oC (.int 64))) (o2 ixS (oNm 0) (oC (.int 3)))) (o2 addS (o1 lenS (oNm 1)) (oC (.int 1))))) (sSeq (sAsg 6 (o2 ixS (oC (.str " \n=*/aZ29-")) (o2 modS (o2 ixS (oNm 0) (oC (.int 1))) (oC (.int 10))))) (sSeq (sIf (tV (o2 eqS (o2 modS (o2 ixS (oNm 0) (oC (.int 4))) (oC (.int 3))) (oC (.int 0)))) (sAsg 6 (oC (.str ""))) sNil) (sSeq (sAsg 7 (oSl (oNm 1) (oPart (o2 addS (oNm 5) (o2 modS (o2 ixS (oNm 0) (oC (.int 4))) (oC (.int 2))))) oNoPart)) (sRet (o2 addS (o2 addS (oSl (oNm 1) oNoPart (oPart (oNm 5))) (oNm 6)) (oNm 7)))))))))))))) [some (true, .lst (ds.map .int)), some (false, .val (.str t)), some (false, .lst (ws.map .str)), some (false, .val (.int at_)), some (false, .val (.int wy)), none, none, none, none, none, none] = .rt (.val (.str u)) ρ → ∃ u, TB N u ∧ f_l_bent [.lst (ds.map .int), .val (.str t)] = .ret (.val (.str u)) [.lst (ds.map .int), .val (.str t)] := fun u ρ hu hf q => ⟨u, hu, by
    rw [rw_, q, finO_rt, hf]⟩
  have sq_rt : ∀ {a c : SS} {ρ ρ1 : En} {o : O}, a ρ = .rt o ρ1 → sSeq a c ρ = .rt o ρ1 := fun h => by simp [h]
  have q1 := hw.cut none (some at_)
  have q2 := hw.cut (some (at_ + 1)) none
  have q3 := hw.cut (some at_) none
  obtain ⟨v, ev, hv⟩ := at_strs (ns := ws) at0 at1
  have vo := hw.ok v hv
  have vl := rows v hv
  have ixv : ixS (.lst (ws.map .str)) (.val (.int at_)) = some (.val (.str v)) := by rw [ixS_lst, ev]; rfl
  have n0 : ¬ wy = 9 → (sIf (tV (o2 eqS (oNm 4) (oC (.int 9)))) (sRet (oM1 joinS (oC (.str "\n")) (o2 addS (o2 addS (oSl (oNm 2) oNoPart (oPart (oNm 3))) (oLst (oAs [oC (.str "q = a b c d e f g h i")]))) (oSl (oNm 2) (oPart (oNm 3)) oNoPart)))) sNil) [some (true, .lst (ds.map .int)), some (false, .val (.str t)), some (false, .lst (ws.map .str)), some (false, .val (.int at_)), some (false, .val (.int wy)), none, none, none, none, none, none] = .nx [some (true, .lst (ds.map .int)), some (false, .val (.str t)), some (false, .lst (ws.map .str)), some (false, .val (.int at_)), some (false, .val (.int wy)), none, none, none, none, none, none] := fun h => by simp [-List.map_map, h]
  have n1 : ¬ wy = 10 → (sIf (tV (o2 eqS (oNm 4) (oC (.int 10)))) (sSeq (sAsg 8 (oC (.str "abcdefgh"))) (sSeq (sFor (iRng1 (oAs [o2 subS (oC (.int 61)) (o1 lenS (oNm 2))])) (.nm 9) [9] w_l_bent_1) (sRet (oM1 joinS (oC (.str "\n")) (oNm 2))))) sNil) [some (true, .lst (ds.map .int)), some (false, .val (.str t)), some (false, .lst (ws.map .str)), some (false, .val (.int at_)), some (false, .val (.int wy)), none, none, none, none, none, none] = .nx [some (true, .lst (ds.map .int)), some (false, .val (.str t)), some (false, .lst (ws.map .str)), some (false, .val (.int at_)), some (false, .val (.int wy)), none, none, none, none, none, none] := fun h => by simp [-List.map_map, h]
  have n2 : ¬ wy = 0 → (sIf (tV (o2 eqS (oNm 4) (oC (.int 0)))) (sRet (oM1 joinS (oC (.str "\n")) (o2 addS (oSl (oNm 2) oNoPart (oPart (oNm 3))) (oSl (oNm 2) (oPart (o2 addS (oNm 3) (oC (.int 1)))) oNoPart)))) sNil) [some (true, .lst (ds.map .int)), some (false, .val (.str t)), some (false, .lst (ws.map .str)), some (false, .val (.int at_)), some (false, .val (.int wy)), none, none, none, none, none, none] = .nx [some (true, .lst (ds.map .int)), some (false, .val (.str t)), some (false, .lst (ws.map .str)), some (false, .val (.int at_)), some (false, .val (.int wy)), none, none, none, none, none, none] := fun h => by simp [-List.map_map, h]
  have n3 : ¬ wy = 1 → (sIf (tV (o2 eqS (oNm 4) (oC (.int 1)))) (sRet (oM1 joinS (oC (.str "\n")) (o2 addS (oNm 2) (oLst (oAs [o2 ixS (oNm 2) (oNm 3)]))))) sNil) [some (true, .lst (ds.map .int)), some (false, .val (.str t)), some (false, .lst (ws.map .str)), some (false, .val (.int at_)), some (false, .val (.int wy)), none, none, none, none, none, none] = .nx [some (true, .lst (ds.map .int)), some (false, .val (.str t)), some (false, .lst (ws.map .str)), some (false, .val (.int at_)), some (false, .val (.int wy)), none, none, none, none, none, none] := fun h => by simp [-List.map_map, h]
  have n4 : ¬ wy = 2 → (sIf (tV (o2 eqS (oNm 4) (oC (.int 2)))) (sSeq (sAsg 10 (oM1 splitS (o2 ixS (oNm 2) (oNm 3)) (oC (.str " ")))) (sRet (oM1 joinS (oC (.str "\n")) (o2 addS (oLst (oAs [oM1 joinS (oC (.str " ")) (o2 addS (oSl (oNm 10) oNoPart (oPart (oC (.int 2)))) (o1 downO (oNm 10)))])) (oNm 2))))) sNil) [some (true, .lst (ds.map .int)), some (false, .val (.str t)), some (false, .lst (ws.map .str)), some (false, .val (.int at_)), some (false, .val (.int wy)), none, none, none, none, none, none] = .nx [some (true, .lst (ds.map .int)), some (false, .val (.str t)), some (false, .lst (ws.map .str)), some (false, .val (.int at_)), some (false, .val (.int wy)), none, none, none, none, none, none] := fun h => by simp [-List.map_map, h]
  have n5 : ¬ wy = 3 → (sIf (tV (o2 eqS (oNm 4) (oC (.int 3)))) (sRet (oM1 joinS (oC (.str "\n")) (o2 addS (oSl (oNm 2) (oPart (oNm 3)) oNoPart) (oSl (oNm 2) oNoPart (oPart (oNm 3)))))) sNil) [some (true, .lst (ds.map .int)), some (false, .val (.str t)), some (false, .lst (ws.map .str)), some (false, .val (.int at_)), some (false, .val (.int wy)), none, none, none, none, none, none] = .nx [some (true, .lst (ds.map .int)), some (false, .val (.str t)), some (false, .lst (ws.map .str)), some (false, .val (.int at_)), some (false, .val (.int wy)), none, none, none, none, none, none] := fun h => by simp [-List.map_map, h]
  have n6 : ¬ wy < 7 → (sIf (tV (o2 ltS (oNm 4) (oC (.int 7)))) (sSeq (sAsg 10 (oCall f_l_bent_words (oAs [oNm 0, oM1 splitS (o2 ixS (oNm 2) (oNm 3)) (oC (.str " "))]))) (sRet (oM1 joinS (oC (.str "\n")) (o2 addS (o2 addS (oSl (oNm 2) oNoPart (oPart (oNm 3))) (oLst (oAs [oM1 joinS (oC (.str " ")) (oNm 10)]))) (oSl (oNm 2) (oPart (o2 addS (oNm 3) (oC (.int 1)))) oNoPart))))) sNil) [some (true, .lst (ds.map .int)), some (false, .val (.str t)), some (false, .lst (ws.map .str)), some (false, .val (.int at_)), some (false, .val (.int wy)), none, none, none, none, none, none] = .nx [some (true, .lst (ds.map .int)), some (false, .val (.str t)), some (false, .lst (ws.map .str)), some (false, .val (.int at_)), some (false, .val (.int wy)), none, none, none, none, none, none] := fun h => by simp [-List.map_map, h]
  by_cases h0 : wy = 9
  · have qo : okT (Str.ofString "q = a b c d e f g h i") ∧ (Str.ofString "q = a b c d e f g h i").length = 21 := ⟨fun c hc => by
      have h : ((Str.ofString "q = a b c d e f g h i").cps.toList.all fun c => decide (c < 0x110000)) = true := by decide +kernel
      exact of_decide_eq_true (List.all_eq_true.mp h c hc), by decide +kernel⟩
    have l1 := LK.one qo.1
    have ad := q1.add l1 (by omega)
    rw [List.map_cons, List.map_nil] at ad
    have ad2 := (q1.app l1).add q3 (by omega)
    obtain ⟨u, ju, uo, ul⟩ := ((q1.app l1).app q3).join (Str.ofString "\n") lf_len lf_ok (by omega)
    have t0 : (sIf (tV (o2 eqS (oNm 4) (oC (.int 9)))) (sRet (oM1 joinS (oC (.str "\n")) (o2 addS (o2 addS (oSl (oNm 2) oNoPart (oPart (oNm 3))) (oLst (oAs [oC (.str "q = a b c d e f g h i")]))) (oSl (oNm 2) (oPart (oNm 3)) oNoPart)))) sNil) [some (true, .lst (ds.map .int)), some (false, .val (.str t)), some (false, .lst (ws.map .str)), some (false, .val (.int at_)), some (false, .val (.int wy)), none, none, none, none, none, none] = .rt (.val (.str u)) [some (true, .lst (ds.map .int)), some (false, .val (.str t)), some (false, .lst (ws.map .str)), some (false, .val (.int at_)), some (false, .val (.int wy)), none, none, none, none, none, none] := by
      simp [-List.map_map, -List.map_reverse, -List.map_drop, -List.map_append, -List.append_assoc, -addS_ll, -slS_lst, -ixS_lst, sl_strs, ad, ad2, ju, h0]
    refine fin u [some (true, .lst (ds.map .int)), some (false, .val (.str t)), some (false, .lst (ws.map .str)), some (false, .val (.int at_)), some (false, .val (.int wy)), none, none, none, none, none, none] ⟨uo, by omega⟩ (by simp [-List.map_map]) ?_
    rw [sq_rt t0]
  by_cases h1 : wy = 10
  · have t1 : (sAsg 8 (oC (.str "abcdefgh"))) [some (true, .lst (ds.map .int)), some (false, .val (.str t)), some (false, .lst (ws.map .str)), some (false, .val (.int at_)), some (false, .val (.int wy)), none, none, none, none, none, none] = .nx [some (true, .lst (ds.map .int)), some (false, .val (.str t)), some (false, .lst (ws.map .str)), some (false, .val (.int at_)), some (false, .val (.int wy)), none, none, none, some (false, .val (.str (Str.ofString "abcdefgh"))), none, none] := by simp
    obtain ⟨M, hM, hM2⟩ : ∃ M : Nat, M ≤ 61 ∧ (61 - (ws.length : Int)).toNat = M := ⟨_, by omega, rfl⟩
    obtain ⟨ρ', e2, F, hF, rfl⟩ := forL_rng (lo := 0) (T := .nm 9) (fg := [9]) (b := w_l_bent_1)
      (fun j ρ => ∃ F : List Str, LK F (9 * j) ∧ ρ = [some (true, .lst (ds.map .int)), some (false, .val (.str t)), some (false, .lst ((ws ++ F).map .str)), some (false, .val (.int at_)), some (false, .val (.int wy)), none, none, none, some (false, .val (.str (Str.ofString "abcdefgh"))), none, none]) M [some (true, .lst (ds.map .int)), some (false, .val (.str t)), some (false, .lst (ws.map .str)), some (false, .val (.int at_)), some (false, .val (.int wy)), none, none, none, some (false, .val (.str (Str.ofString "abcdefgh"))), none, none] ⟨[], ⟨by simp, by rw [mu_nil]; omega⟩, by simp⟩ (by
      rintro k ρ hk ⟨F, hF, rfl⟩
      have d1 := sign8 (i := ((k : Int)) / 8) (by omega) (by omega)
      have d2 := sign8 (i := ((k : Int)) % 8) (by omega) (by omega)
      obtain ⟨a, c, r1, r2, r3⟩ := zz_txt (97 + ((k : Int) / 8).toNat) (97 + ((k : Int) % 8).toNat)
      obtain ⟨zo, zl⟩ := zz_ok (x := 97 + ((k : Int) / 8).toNat) (y := 97 + ((k : Int) % 8).toNat) (by omega) (by omega)
      generalize hz : zzW (97 + ((k : Int) / 8).toNat) (97 + ((k : Int) % 8).toNat) = z at *
      have fl := hF.len
      have wl := hw.len
      have zz : (ws ++ F).length < sizeLine := small (m := 200000) (by rw [List.length_append]; omega)
      have ap : appS (.lst ((ws ++ F).map .str)) [.str z] = some (.lst ((ws ++ (F ++ [z])).map .str), .none) := by
        rw [appS_ap, List.length_map, if_pos zz, ← List.append_assoc, List.map_append (l₁ := ws ++ F)]
        rfl
      refine ⟨[some (true, .lst (ds.map .int)), some (false, .val (.str t)), some (false, .lst ((ws ++ (F ++ [z])).map .str)), some (false, .val (.int at_)), some (false, .val (.int wy)), none, none, none, some (false, .val (.str (Str.ofString "abcdefgh"))), none, none], ?_, F ++ [z], (hF.app (LK.one zo)).le (by omega), rfl⟩
      simp [-List.map_map, -List.map_append, -addS_str, -ixS_str, -appS_ap, turn_ap, w_l_bent_1, d1, d2, r1, r2, r3, ap])
    obtain ⟨u, ju, uo, ul⟩ := (hw.app hF).join (Str.ofString "\n") lf_len lf_ok (by omega)
    have z1 : (M : Int) ≤ 1000000 := by omega
    have z2 : (61 - (ws.length : Int)) ≤ 1000000 := by omega
    have z3 : -4611686018427387904 ≤ 61 - (ws.length : Int) := by have := hw.len; omega
    have t2 : (sFor (iRng1 (oAs [o2 subS (oC (.int 61)) (o1 lenS (oNm 2))])) (.nm 9) [9] w_l_bent_1) [some (true, .lst (ds.map .int)), some (false, .val (.str t)), some (false, .lst (ws.map .str)), some (false, .val (.int at_)), some (false, .val (.int wy)), none, none, none, some (false, .val (.str (Str.ofString "abcdefgh"))), none, none] = .nx [some (true, .lst (ds.map .int)), some (false, .val (.str t)), some (false, .lst ((ws ++ F).map .str)), some (false, .val (.int at_)), some (false, .val (.int wy)), none, none, none, some (false, .val (.str (Str.ofString "abcdefgh"))), none, none] := by
      have lw : ((ws.map PyData.str).length : Int) = ws.length := by rw [List.length_map]
      simp [-List.map_map, -List.map_append, hM2, z1, z2, z3, e2]
    have t3 : (sRet (oM1 joinS (oC (.str "\n")) (oNm 2))) [some (true, .lst (ds.map .int)), some (false, .val (.str t)), some (false, .lst ((ws ++ F).map .str)), some (false, .val (.int at_)), some (false, .val (.int wy)), none, none, none, some (false, .val (.str (Str.ofString "abcdefgh"))), none, none] = .rt (.val (.str u)) [some (true, .lst (ds.map .int)), some (false, .val (.str t)), some (false, .lst ((ws ++ F).map .str)), some (false, .val (.int at_)), some (false, .val (.int wy)), none, none, none, some (false, .val (.str (Str.ofString "abcdefgh"))), none, none] := by
      simp [-List.map_map, -List.map_append, ju]
    have t0 : (sIf (tV (o2 eqS (oNm 4) (oC (.int 10)))) (sSeq (sAsg 8 (oC (.str "abcdefgh"))) (sSeq (sFor (iRng1 (oAs [o2 subS (oC (.int 61)) (o1 lenS (oNm 2))])) (.nm 9) [9] w_l_bent_1) (sRet (oM1 joinS (oC (.str "\n")) (oNm 2))))) sNil) [some (true, .lst (ds.map .int)), some (false, .val (.str t)), some (false, .lst (ws.map .str)), some (false, .val (.int at_)), some (false, .val (.int wy)), none, none, none, none, none, none] = .rt (.val (.str u)) [some (true, .lst (ds.map .int)), some (false, .val (.str t)), some (false, .lst ((ws ++ F).map .str)), some (false, .val (.int at_)), some (false, .val (.int wy)), none, none, none, some (false, .val (.str (Str.ofString "abcdefgh"))), none, none] := by
      have y : (tV (o2 eqS (oNm 4) (oC (.int 10)))) [some (true, .lst (ds.map .int)), some (false, .val (.str t)), some (false, .lst (ws.map .str)), some (false, .val (.int at_)), some (false, .val (.int wy)), none, none, none, none, none, none] = .ok true [some (true, .lst (ds.map .int)), some (false, .val (.str t)), some (false, .lst (ws.map .str)), some (false, .val (.int at_)), some (false, .val (.int wy)), none, none, none, none, none, none] := by simp [h1]
      rw [sIf_t3 y, sq_nx t1, sq_nx t2, t3]
    refine fin u [some (true, .lst (ds.map .int)), some (false, .val (.str t)), some (false, .lst ((ws ++ F).map .str)), some (false, .val (.int at_)), some (false, .val (.int wy)), none, none, none, some (false, .val (.str (Str.ofString "abcdefgh"))), none, none] ⟨uo, by omega⟩ (by simp [-List.map_map]) ?_
    rw [sq_nx (n0 h0), sq_rt t0]
  by_cases h2 : wy = 0
  · have ad := q1.add q2 (by omega)
    obtain ⟨u, ju, uo, ul⟩ := (q1.app q2).join (Str.ofString "\n") lf_len lf_ok (by omega)
    have t0 : (sIf (tV (o2 eqS (oNm 4) (oC (.int 0)))) (sRet (oM1 joinS (oC (.str "\n")) (o2 addS (oSl (oNm 2) oNoPart (oPart (oNm 3))) (oSl (oNm 2) (oPart (o2 addS (oNm 3) (oC (.int 1)))) oNoPart)))) sNil) [some (true, .lst (ds.map .int)), some (false, .val (.str t)), some (false, .lst (ws.map .str)), some (false, .val (.int at_)), some (false, .val (.int wy)), none, none, none, none, none, none] = .rt (.val (.str u)) [some (true, .lst (ds.map .int)), some (false, .val (.str t)), some (false, .lst (ws.map .str)), some (false, .val (.int at_)), some (false, .val (.int wy)), none, none, none, none, none, none] := by
      simp [-List.map_map, -List.map_reverse, -List.map_drop, -List.map_append, -List.append_assoc, -addS_ll, -slS_lst, -ixS_lst, sl_strs, ad, ju, h2]
    refine fin u [some (true, .lst (ds.map .int)), some (false, .val (.str t)), some (false, .lst (ws.map .str)), some (false, .val (.int at_)), some (false, .val (.int wy)), none, none, none, none, none, none] ⟨uo, by omega⟩ (by simp [-List.map_map]) ?_
    rw [sq_nx (n0 h0), sq_nx (n1 h1), sq_rt t0]
  by_cases h3 : wy = 1
  · have l1 := LK.one vo
    have ad := hw.add l1 (by omega)
    rw [List.map_cons, List.map_nil] at ad
    obtain ⟨u, ju, uo, ul⟩ := (hw.app l1).join (Str.ofString "\n") lf_len lf_ok (by omega)
    have t0 : (sIf (tV (o2 eqS (oNm 4) (oC (.int 1)))) (sRet (oM1 joinS (oC (.str "\n")) (o2 addS (oNm 2) (oLst (oAs [o2 ixS (oNm 2) (oNm 3)]))))) sNil) [some (true, .lst (ds.map .int)), some (false, .val (.str t)), some (false, .lst (ws.map .str)), some (false, .val (.int at_)), some (false, .val (.int wy)), none, none, none, none, none, none] = .rt (.val (.str u)) [some (true, .lst (ds.map .int)), some (false, .val (.str t)), some (false, .lst (ws.map .str)), some (false, .val (.int at_)), some (false, .val (.int wy)), none, none, none, none, none, none] := by
      simp [-List.map_map, -List.map_reverse, -List.map_drop, -List.map_append, -List.append_assoc, -addS_ll, -slS_lst, -ixS_lst, sl_strs, ixv, ad, ju, h3]
    refine fin u [some (true, .lst (ds.map .int)), some (false, .val (.str t)), some (false, .lst (ws.map .str)), some (false, .val (.int at_)), some (false, .val (.int wy)), none, none, none, none, none, none] ⟨uo, by omega⟩ (by simp [-List.map_map]) ?_
    rw [sq_nx (n0 h0), sq_nx (n1 h1), sq_nx (n2 h2), sq_rt t0]
  by_cases h4 : wy = 2
  · have lv := lk_words vo
    have spv := splitS_bl v (by omega)
    generalize Txt.split v (Str.ofString " ") = vs at *
    have r1 := lv.cut none (some 2)
    have r2 : LK (vs.drop 2).reverse (v.length + 1) := ⟨fun w hw => lv.ok w (List.mem_of_mem_drop (List.mem_reverse.mp hw)), by rw [mu_rev]; exact Nat.le_trans (mu_drop _ _) lv.mu⟩
    have ad := r1.add r2 (by omega)
    obtain ⟨u, ju, uo, ul⟩ := (r1.app r2).join (Str.ofString " ") bl_len bl_ok (by omega)
    have l1 := LK.one uo
    have ad2 := (l1.le (m := 2 * t.length + 3) (by omega)).add hw (by omega)
    rw [List.map_cons, List.map_nil] at ad2
    obtain ⟨x, jx, xo, xl⟩ := ((l1.le (m := 2 * t.length + 3) (by omega)).app hw).join (Str.ofString "\n") lf_len lf_ok (by omega)
    have jx2 : joinS (Str.ofString "\n") (.lst (PyData.str u :: ws.map .str)) = some (.val (.str x)) := jx
    have t1 : (sAsg 10 (oM1 splitS (o2 ixS (oNm 2) (oNm 3)) (oC (.str " ")))) [some (true, .lst (ds.map .int)), some (false, .val (.str t)), some (false, .lst (ws.map .str)), some (false, .val (.int at_)), some (false, .val (.int wy)), none, none, none, none, none, none] = .nx [some (true, .lst (ds.map .int)), some (false, .val (.str t)), some (false, .lst (ws.map .str)), some (false, .val (.int at_)), some (false, .val (.int wy)), none, none, none, none, none, some (false, .lst (vs.map .str))] := by
      simp [-List.map_map, -ixS_lst, ixv, spv]
    have t2 : (sRet (oM1 joinS (oC (.str "\n")) (o2 addS (oLst (oAs [oM1 joinS (oC (.str " ")) (o2 addS (oSl (oNm 10) oNoPart (oPart (oC (.int 2)))) (o1 downO (oNm 10)))])) (oNm 2)))) [some (true, .lst (ds.map .int)), some (false, .val (.str t)), some (false, .lst (ws.map .str)), some (false, .val (.int at_)), some (false, .val (.int wy)), none, none, none, none, none, some (false, .lst (vs.map .str))] = .rt (.val (.str x)) [some (true, .lst (ds.map .int)), some (false, .val (.str t)), some (false, .lst (ws.map .str)), some (false, .val (.int at_)), some (false, .val (.int wy)), none, none, none, none, none, some (false, .lst (vs.map .str))] := by
      simp [-List.map_map, -List.map_reverse, -List.map_drop, -List.map_append, -List.append_assoc, -addS_ll, -slS_lst, -ixS_lst, sl_strs, downO_strs, ad, ju, ad2, jx, jx2]
    have t0 : (sIf (tV (o2 eqS (oNm 4) (oC (.int 2)))) (sSeq (sAsg 10 (oM1 splitS (o2 ixS (oNm 2) (oNm 3)) (oC (.str " ")))) (sRet (oM1 joinS (oC (.str "\n")) (o2 addS (oLst (oAs [oM1 joinS (oC (.str " ")) (o2 addS (oSl (oNm 10) oNoPart (oPart (oC (.int 2)))) (o1 downO (oNm 10)))])) (oNm 2))))) sNil) [some (true, .lst (ds.map .int)), some (false, .val (.str t)), some (false, .lst (ws.map .str)), some (false, .val (.int at_)), some (false, .val (.int wy)), none, none, none, none, none, none] = .rt (.val (.str x)) [some (true, .lst (ds.map .int)), some (false, .val (.str t)), some (false, .lst (ws.map .str)), some (false, .val (.int at_)), some (false, .val (.int wy)), none, none, none, none, none, some (false, .lst (vs.map .str))] := by
      have y : (tV (o2 eqS (oNm 4) (oC (.int 2)))) [some (true, .lst (ds.map .int)), some (false, .val (.str t)), some (false, .lst (ws.map .str)), some (false, .val (.int at_)), some (false, .val (.int wy)), none, none, none, none, none, none] = .ok true [some (true, .lst (ds.map .int)), some (false, .val (.str t)), some (false, .lst (ws.map .str)), some (false, .val (.int at_)), some (false, .val (.int wy)), none, none, none, none, none, none] := by simp [h4]
      rw [sIf_t3 y, sq_nx t1, t2]
    refine fin x [some (true, .lst (ds.map .int)), some (false, .val (.str t)), some (false, .lst (ws.map .str)), some (false, .val (.int at_)), some (false, .val (.int wy)), none, none, none, none, none, some (false, .lst (vs.map .str))] ⟨xo, by omega⟩ (by simp [-List.map_map]) ?_
    rw [sq_nx (n0 h0), sq_nx (n1 h1), sq_nx (n2 h2), sq_nx (n3 h3), sq_rt t0]
  by_cases h5 : wy = 3
  · have ad := q3.add q1 (by omega)
    obtain ⟨u, ju, uo, ul⟩ := (q3.app q1).join (Str.ofString "\n") lf_len lf_ok (by omega)
    have t0 : (sIf (tV (o2 eqS (oNm 4) (oC (.int 3)))) (sRet (oM1 joinS (oC (.str "\n")) (o2 addS (oSl (oNm 2) (oPart (oNm 3)) oNoPart) (oSl (oNm 2) oNoPart (oPart (oNm 3)))))) sNil) [some (true, .lst (ds.map .int)), some (false, .val (.str t)), some (false, .lst (ws.map .str)), some (false, .val (.int at_)), some (false, .val (.int wy)), none, none, none, none, none, none] = .rt (.val (.str u)) [some (true, .lst (ds.map .int)), some (false, .val (.str t)), some (false, .lst (ws.map .str)), some (false, .val (.int at_)), some (false, .val (.int wy)), none, none, none, none, none, none] := by
      simp [-List.map_map, -List.map_reverse, -List.map_drop, -List.map_append, -List.append_assoc, -addS_ll, -slS_lst, -ixS_lst, sl_strs, ad, ju, h5]
    refine fin u [some (true, .lst (ds.map .int)), some (false, .val (.str t)), some (false, .lst (ws.map .str)), some (false, .val (.int at_)), some (false, .val (.int wy)), none, none, none, none, none, none] ⟨uo, by omega⟩ (by simp [-List.map_map]) ?_
    rw [sq_nx (n0 h0), sq_nx (n1 h1), sq_nx (n2 h2), sq_nx (n3 h3), sq_nx (n4 h4), sq_rt t0]
  by_cases h6 : wy < 7
  · have lv := lk_words vo
    have hvp := split_pos v (Str.ofString " ")
    have spv := splitS_bl v (by omega)
    generalize Txt.split v (Str.ofString " ") = vs at *
    obtain ⟨us, hus, eu⟩ := l_bent_words_ex ds hds vs _ lv (by omega) (fun q => by rw [q] at hvp; simp at hvp)
    obtain ⟨u, ju, uo, ul⟩ := hus.join (Str.ofString " ") bl_len bl_ok (by omega)
    have l1 := (LK.one uo).le (m := 3 * t.length + 14) (by omega)
    have ad := q1.add l1 (by omega)
    rw [List.map_cons, List.map_nil] at ad
    have ad2 := (q1.app l1).add q2 (by omega)
    obtain ⟨x, jx, xo, xl⟩ := ((q1.app l1).app q2).join (Str.ofString "\n") lf_len lf_ok (by omega)
    have t1 : (sAsg 10 (oCall f_l_bent_words (oAs [oNm 0, oM1 splitS (o2 ixS (oNm 2) (oNm 3)) (oC (.str " "))]))) [some (true, .lst (ds.map .int)), some (false, .val (.str t)), some (false, .lst (ws.map .str)), some (false, .val (.int at_)), some (false, .val (.int wy)), none, none, none, none, none, none] = .nx [some (true, .lst (ds.map .int)), some (false, .val (.str t)), some (false, .lst (ws.map .str)), some (false, .val (.int at_)), some (false, .val (.int wy)), none, none, none, none, none, some (false, .lst (us.map .str))] := by
      simp [-List.map_map, -ixS_lst, ixv, spv, eu]
    have t2 : (sRet (oM1 joinS (oC (.str "\n")) (o2 addS (o2 addS (oSl (oNm 2) oNoPart (oPart (oNm 3))) (oLst (oAs [oM1 joinS (oC (.str " ")) (oNm 10)]))) (oSl (oNm 2) (oPart (o2 addS (oNm 3) (oC (.int 1)))) oNoPart)))) [some (true, .lst (ds.map .int)), some (false, .val (.str t)), some (false, .lst (ws.map .str)), some (false, .val (.int at_)), some (false, .val (.int wy)), none, none, none, none, none, some (false, .lst (us.map .str))] = .rt (.val (.str x)) [some (true, .lst (ds.map .int)), some (false, .val (.str t)), some (false, .lst (ws.map .str)), some (false, .val (.int at_)), some (false, .val (.int wy)), none, none, none, none, none, some (false, .lst (us.map .str))] := by
      simp [-List.map_map, -List.map_reverse, -List.map_drop, -List.map_append, -List.append_assoc, -addS_ll, -slS_lst, -ixS_lst, sl_strs, ju, ad, ad2, jx]
    have t0 : (sIf (tV (o2 ltS (oNm 4) (oC (.int 7)))) (sSeq (sAsg 10 (oCall f_l_bent_words (oAs [oNm 0, oM1 splitS (o2 ixS (oNm 2) (oNm 3)) (oC (.str " "))]))) (sRet (oM1 joinS (oC (.str "\n")) (o2 addS (o2 addS (oSl (oNm 2) oNoPart (oPart (oNm 3))) (oLst (oAs [oM1 joinS (oC (.str " ")) (oNm 10)]))) (oSl (oNm 2) (oPart (o2 addS (oNm 3) (oC (.int 1)))) oNoPart))))) sNil) [some (true, .lst (ds.map .int)), some (false, .val (.str t)), some (false, .lst (ws.map .str)), some (false, .val (.int at_)), some (false, .val (.int wy)), none, none, none, none, none, none] = .rt (.val (.str x)) [some (true, .lst (ds.map .int)), some (false, .val (.str t)), some (false, .lst (ws.map .str)), some (false, .val (.int at_)), some (false, .val (.int wy)), none, none, none, none, none, some (false, .lst (us.map .str))] := by
      have y : (tV (o2 ltS (oNm 4) (oC (.int 7)))) [some (true, .lst (ds.map .int)), some (false, .val (.str t)), some (false, .lst (ws.map .str)), some (false, .val (.int at_)), some (false, .val (.int wy)), none, none, none, none, none, none] = .ok true [some (true, .lst (ds.map .int)), some (false, .val (.str t)), some (false, .lst (ws.map .str)), some (false, .val (.int at_)), some (false, .val (.int wy)), none, none, none, none, none, none] := by simp [h6]
      rw [sIf_t3 y, sq_nx t1, t2]
    refine fin x [some (true, .lst (ds.map .int)), some (false, .val (.str t)), some (false, .lst (ws.map .str)), some (false, .val (.int at_)), some (false, .val (.int wy)), none, none, none, none, none, some (false, .lst (us.map .str))] ⟨xo, by omega⟩ (by simp [-List.map_map]) ?_
    rw [sq_nx (n0 h0), sq_nx (n1 h1), sq_nx (n2 h2), sq_nx (n3 h3), sq_nx (n4 h4), sq_nx (n5 h5), sq_rt t0]
  obtain ⟨g, eg, hg⟩ := sgn10 (i := dat ds 1 % 10) (Int.emod_nonneg _ (by omega)) (Int.emod_lt_of_pos _ (by omega))
  have zl : t.length ≤ sizeLine := by omega
  have tn : (0 : Int) < (t.length : Int) + 1 := by omega
  have z64 : -(2 ^ 64) < dat ds 2 ∧ dat ds 2 < 2 ^ 64 := by omega
  obtain ⟨pl, hpl⟩ : ∃ p : Int, (dat ds 2 * 64 + dat ds 3) % ((t.length : Int) + 1) = p := ⟨_, rfl⟩
  have u0 : (sAsg 5 (o2 modS (o2 addS (o2 mulS (o2 ixS (oNm 0) (oC (.int 2))) (oC (.int 64))) (o2 ixS (oNm 0) (oC (.int 3)))) (o2 addS (o1 lenS (oNm 1)) (oC (.int 1))))) [some (true, .lst (ds.map .int)), some (false, .val (.str t)), some (false, .lst (ws.map .str)), some (false, .val (.int at_)), some (false, .val (.int wy)), none, none, none, none, none, none] = .nx [some (true, .lst (ds.map .int)), some (false, .val (.str t)), some (false, .lst (ws.map .str)), some (false, .val (.int at_)), some (false, .val (.int wy)), some (false, .val (.int pl)), none, none, none, none, none] := by
    simp [-List.map_map, a2, a3, z64, zl, tn, hpl]
  have u1 : (sAsg 6 (o2 ixS (oC (.str " \n=*/aZ29-")) (o2 modS (o2 ixS (oNm 0) (oC (.int 1))) (oC (.int 10))))) [some (true, .lst (ds.map .int)), some (false, .val (.str t)), some (false, .lst (ws.map .str)), some (false, .val (.int at_)), some (false, .val (.int wy)), some (false, .val (.int pl)), none, none, none, none, none] = .nx [some (true, .lst (ds.map .int)), some (false, .val (.str t)), some (false, .lst (ws.map .str)), some (false, .val (.int at_)), some (false, .val (.int wy)), some (false, .val (.int pl)), some (false, .val (.str (S [g]))), none, none, none, none] := by
    simp [-List.map_map, -ixS_str, a1, eg]
  obtain ⟨z, hz, zln, u2⟩ : ∃ z : Str, okT z ∧ z.length ≤ 1 ∧ (sIf (tV (o2 eqS (o2 modS (o2 ixS (oNm 0) (oC (.int 4))) (oC (.int 3))) (oC (.int 0)))) (sAsg 6 (oC (.str ""))) sNil) [some (true, .lst (ds.map .int)), some (false, .val (.str t)), some (false, .lst (ws.map .str)), some (false, .val (.int at_)), some (false, .val (.int wy)), some (false, .val (.int pl)), some (false, .val (.str (S [g]))), none, none, none, none] = .nx [some (true, .lst (ds.map .int)), some (false, .val (.str t)), some (false, .lst (ws.map .str)), some (false, .val (.int at_)), some (false, .val (.int wy)), some (false, .val (.int pl)), some (false, .val (.str z)), none, none, none, none] := by
    by_cases h : dat ds 4 % 3 = 0
    · refine ⟨Str.ofString "", fun c hc => ?_, by decide, ?_⟩
      · have : c ∈ ([] : List Nat) := hc
        cases this
      · simp [-List.map_map, a4, h]
    · refine ⟨S [g], S_okT fun c hc => ?_, by rw [S_len]; simp, ?_⟩
      · rw [List.mem_singleton.mp hc]; omega
      · simp [-List.map_map, a4, h]
  have cut : ∀ lo hi : Option Int, ∃ y : Str, okT y ∧ y.length ≤ t.length ∧ slS lo hi (.val (.str t)) = some (.val (.str y)) := fun lo hi => by
    refine ⟨S (cutA t.cps.toList lo hi), S_okT fun c hc => ht c (mem_cutA hc), ?_, ?_⟩
    · rw [S_len]
      have := cutA_len t.cps.toList lo hi
      rw [tls_len] at this
      exact this
    · rw [slS_str, if_pos zl]
      have ec := cutS_S t.cps.toList lo hi
      rw [S_tl] at ec
      rw [ec]
  obtain ⟨y, yo, yl, ey⟩ := cut (some (pl + dat ds 4 % 2)) none
  obtain ⟨x, xo, xl, ex⟩ := cut none (some pl)
  have u3 : (sAsg 7 (oSl (oNm 1) (oPart (o2 addS (oNm 5) (o2 modS (o2 ixS (oNm 0) (oC (.int 4))) (oC (.int 2))))) oNoPart)) [some (true, .lst (ds.map .int)), some (false, .val (.str t)), some (false, .lst (ws.map .str)), some (false, .val (.int at_)), some (false, .val (.int wy)), some (false, .val (.int pl)), some (false, .val (.str z)), none, none, none, none] = .nx [some (true, .lst (ds.map .int)), some (false, .val (.str t)), some (false, .lst (ws.map .str)), some (false, .val (.int at_)), some (false, .val (.int wy)), some (false, .val (.int pl)), some (false, .val (.str z)), some (false, .val (.str y)), none, none, none] := by
    simp [-List.map_map, -slS_str, a4, ey]
  have cat : ∀ a c : Str, okT a → okT c → a.length + c.length ≤ 1000000 → okT (a ++ c) ∧ (a ++ c).length = a.length + c.length ∧ addS (.val (.str a)) (.val (.str c)) = some (.val (.str (a ++ c))) := fun a c ha hc hz => by
    have e : (a ++ c).cps.toList = a.cps.toList ++ c.cps.toList := TL.tl_append _ _
    refine ⟨fun k hk => ?_, ?_, by rw [addS_str, if_pos (small3 hz)]⟩
    · rw [e] at hk
      exact (List.mem_append.mp hk).elim (ha k) (hc k)
    · have := congrArg List.length e
      rw [List.length_append, tls_len, tls_len, tls_len] at this
      exact this
  obtain ⟨o1, l1, s1⟩ := cat x z xo hz (by omega)
  obtain ⟨o2, l2, s2⟩ := cat (x ++ z) y o1 yo (by omega)
  refine fin (x ++ z ++ y) [some (true, .lst (ds.map .int)), some (false, .val (.str t)), some (false, .lst (ws.map .str)), some (false, .val (.int at_)), some (false, .val (.int wy)), some (false, .val (.int pl)), some (false, .val (.str z)), some (false, .val (.str y)), none, none, none] ⟨o2, by omega⟩ (by simp [-List.map_map]) ?_
  rw [sq_nx (n0 h0), sq_nx (n1 h1), sq_nx (n2 h2), sq_nx (n3 h3), sq_nx (n4 h4), sq_nx (n5 h5), sq_nx (n6 h6), sq_nx u0, sq_nx u1, sq_nx u2, sq_nx u3]
  simp [-List.map_map, -slS_str, -addS_str, ex, s1, s2]
end Eng
/-! Law k06: any text read, by the program and by the law. -/
namespace Eng
open PySem PySem.Spec L2 SX
open PyProof.Rows hiding St
/-- the rows of a text -/
def allR : List Str → Option (List Row)
  | [] => some []
  | a :: ts => match rdR a with
    | some r => (match allR ts with
      | some b => some (r :: b)
      | none => none)
    | none => none
theorem rdR_ok {t : Str} (h : t.length ≤ 900000) (ho : okT t) {r : Row} (e : rdR t = some r) : RG r := by
  have hs : ∀ a ∈ Txt.split t (Str.ofString " "), a.length ≤ t.length := fun a ha => part_short ha
  have hk : ∀ a ∈ Txt.split t (Str.ofString " "), okT a := fun a ha => ho.split ha
  have hll := split_le t (Str.ofString " ")
  unfold rdR at e
  generalize Txt.split t (Str.ofString " ") = ps at *
  match ps, e with
  | w :: e0 :: x :: ts, e =>
    have e : rdQ w e0 (x :: ts) = some r := e
    unfold rdQ at e
    have len : (x :: ts).length ≤ 1000000 := by simp at hll ⊢; omega
    split at e
    · split at e
      · injection e with e
        subst e
        exact ⟨⟨small3 (by have := hs w (by simp); show w.length + 2 ≤ _; omega), by simp, by simp⟩, hk w (by simp), by simp⟩
      · split at e
        · injection e with e
          subst e
          exact ⟨⟨small3 (by have := hs w (by simp); show w.length + 2 ≤ _; omega), len, fun v hv => small3 (by have := hs v (List.mem_cons_of_mem _ (List.mem_cons_of_mem _ hv)); omega)⟩, hk w (by simp), fun v hv => hk v (List.mem_cons_of_mem _ (List.mem_cons_of_mem _ hv))⟩
        · cases e
    · cases e
theorem allR_ok : ∀ {ts : List Str} {b : List Row}, (∀ a ∈ ts, a.length ≤ 900000 ∧ okT a) → allR ts = some b → b.length = ts.length ∧ ∀ r ∈ b, RG r
  | [], b, _, e => by
    injection e with e
    subst e
    exact ⟨rfl, by simp⟩
  | a :: ts, b, h, e => by
    unfold allR at e
    split at e
    · rename_i r er
      split at e
      · rename_i c ec
        injection e with e
        subst e
        obtain ⟨l, g⟩ := allR_ok (fun x hx => h x (List.mem_cons_of_mem _ hx)) ec
        refine ⟨by simp [l], fun s hs => ?_⟩
        rcases List.mem_cons.mp hs with rfl | hs
        · exact rdR_ok (h a (by simp)).1 (h a (by simp)).2 er
        · exact g s hs
      · cases e
    · cases e
theorem allR_map : ∀ {ts : List Str} {b : List Row}, ts.map rdR = b.map some → allR ts = some b
  | [], [], _ => rfl
  | [], _ :: _, e => by cases e
  | _ :: _, [], e => by cases e
  | a :: ts, r :: b, e => by
    rw [List.map_cons, List.map_cons] at e
    injection e with e1 e2
    unfold allR
    rw [e1, allR_map e2]
/-! ### the program reads -/
theorem lcX_rows (t : Str) : ∀ (ts : List Str) (acc : List D), (∀ a ∈ ts, a.length + 2 ≤ sizeLine ∧ okT a) → lcLX none (.nm 1) tTrue (oCall f_read_row (oAs [oNm 1])) [1] (ts.map .str) acc [some (false, .val (.str t)), none] = match allR ts with
    | some b => .ok (acc ++ b.map eRow) [some (false, .val (.str t)), none]
    | none => .exc 1 [some (false, .val (.str t)), none]
  | [], acc, _ => by simp [lcLX, allR]
  | a :: ts, acc, h => by
    have q := read_row_eq a (h a (by simp)).1 (h a (by simp)).2
    rw [List.map_cons]
    unfold lcLX allR
    cases e : rdR a with
    | none =>
      rw [e] at q
      simp [-List.map_map, q]
    | some r =>
      rw [e] at q
      have ih := lcX_rows t ts (acc ++ [eRow r]) fun x hx => h x (List.mem_cons_of_mem _ hx)
      simp [-List.map_map, q, ih]
      cases allR ts <;> simp
/-- what is due of a text -/
def dueT (t : Str) : Option (List Row) := if t = Str.ofString "" then some [] else allR (Txt.split t (Str.ofString "\n"))
theorem fit_nil : bkFit [] = true := by decide
theorem read2_eq (t : Str) (h : t.length ≤ 900000) (ho : okT t) : f_read_2 [.val (.str t)] = match dueT t with
    | some b => if bkFit b = true then .ret (.val (eBk b)) [.val (.str t)] else .exc 2 [.val (.str t)]
    | none => .exc 1 [.val (.str t)] := by
  have s0 : startE 2 [.val (.str t)] = [some (false, .val (.str t)), none] := rfl
  have it : isiS "str" (.val (.str t)) = some (.val (.bool true)) := rfl
  have eq := eqS_str t (Str.ofString "")
  rw [str_beq] at eq
  unfold dueT
  by_cases hne : t = Str.ofString ""
  · rw [decide_eq_true hne] at eq
    rw [if_pos hne]
    have b0 : eBk [] = .tuple [] := rfl
    simp only [fit_nil, if_true, b0]
    simp [-eqS_str, f_read_2, b_read_2, runF_fin, s0, it, eq]
  · rw [decide_eq_false hne] at eq
    rw [if_neg hne]
    have sp := splitS_lf t (small3 (by omega))
    have hs : ∀ a ∈ Txt.split t (Str.ofString "\n"), a.length ≤ 900000 ∧ okT a := fun a ha => ⟨by have := part_short ha; omega, ho.split ha⟩
    generalize Txt.split t (Str.ofString "\n") = ts at *
    have c1 := lcX_rows t ts [] fun a ha => ⟨small3 (by have := (hs a ha).1; omega), (hs a ha).2⟩
    rw [f_read_2, runF_fin, s0, b_read_2]
    cases e : allR ts with
    | none =>
      rw [e] at c1
      simp [-List.map_map, -eqS_str, it, eq, c_read_2_1, oLcX, lcEX, lcWX, sp, c1]
    | some b =>
      rw [e] at c1
      obtain ⟨_, hb⟩ := allR_ok hs e
      have ft := fitted_eq b fun r hr => (hb r hr).rs
      have tu : tupleS (.lst (b.map eRow)) = some (.val (eBk b)) := rfl
      by_cases q : bkFit b = true
      · rw [if_pos q] at ft
        simp [-List.map_map, -eqS_str, -tupleS_ap, it, eq, c_read_2_1, oLcX, lcEX, lcWX, sp, c1, tu, ft, q]
      · rw [if_neg q] at ft
        simp [-List.map_map, -eqS_str, -tupleS_ap, it, eq, c_read_2_1, oLcX, lcEX, lcWX, sp, c1, tu, ft, q]
theorem read2_no (d : D) (h : isiS "str" (.val d) = some (.val (.bool false))) : f_read_2 [.val d] = .exc 1 [.val d] := by
  simp [f_read_2, b_read_2, runF_ap, h]
end Eng
/-! Law k06: the law's own reading. -/
namespace Eng
open PySem PySem.Spec L2 SX
open PyProof.Rows hiding St
theorem sq_rt6 {a c : SS} {ρ ρ1 : En} {o : O} (h : a ρ = .rt o ρ1) : sSeq a c ρ = .rt o ρ1 := by simp [h]
theorem lw2 : f_l_is_word_2 = f_l_is_word := rfl
theorem lfit2 : f_l_fit_2 = f_l_fit := rfl
theorem star_ok : okT (Str.ofString "*") := by
  have : (Str.ofString "*") = S [42] := by decide +kernel
  rw [this]
  intro c hc
  have : c = 42 := by simpa using hc
  omega
theorem eqS_tp2 {a b : List Str} (ha : ∀ w ∈ a, okT w) (hb : ∀ w ∈ b, okT w) : eqS (.val (.tuple (a.map PyData.str))) (.val (.tuple (b.map PyData.str))) = some (.val (.bool (decide (a = b)))) := by
  have g : ∀ {l : List Str}, (∀ w ∈ l, okT w) → SeqAt.shaped (.tuple (l.map PyData.str)) = true := fun {l} h => by
    have h1 : PyData.canLayAll0 (l.map PyData.str) = true := by
      induction l with
      | nil => rfl
      | cons x l ih => simp [PyData.canLayAll0, PyData.canLay0, (h x (by simp)).ok, ih fun w hw => h w (List.mem_cons_of_mem _ hw)]
    have h2 : PyData.depthAll (l.map PyData.str) = 0 := by
      clear h h1
      induction l with
      | nil => rfl
      | cons x l ih => simp [PyData.depthAll, PyData.depth, ih]
    unfold SeqAt.shaped
    simp [PyData.canLay0, h1, PyData.depth, h2]
  have s1 := g ha
  have s2 := g hb
  unfold eqS
  simp only [view_val, eqD?, s1, s2, Bool.and_self, Bool.or_true, if_true, Option.map_some, PyData.eqv, eqvAll_strs]
abbrev eRd (t : Str) (k : List Row) : En := [some (false, .val (.str t)), some (false, .lst (k.map eRow)), none, none, none, none]
theorem read_turn (t a : Str) (h : a.length ≤ 900000) (ho : okT a) (k : List Row) (hl : k.length < sizeLine) : ((∃ r, rdR a = some r ∧ turn (.nm 2) [2, 3, 4] w_l_read_1 (.str a) (eRd t k) = .nx (eRd t (k ++ [r]))) ∨ (rdR a = none ∧ ∃ ρ', turn (.nm 2) [2, 3, 4] w_l_read_1 (.str a) (eRd t k) = .rt (.val .none) ρ' ∧ fins [.val (.str t)] ρ' = some [.val (.str t)])) := by
  have sp := splitS_bl a (small3 (by omega))
  have hs : ∀ x ∈ Txt.split a (Str.ofString " "), x.length + 2 ≤ sizeLine := fun x hx => small3 (by have := part_short hx; omega)
  have hk : ∀ x ∈ Txt.split a (Str.ofString " "), okT x := fun x hx => ho.split hx
  have hp := split_pos a (Str.ofString " ")
  have hll := split_le a (Str.ofString " ")
  have t0 : (Tgt.nm 2).put (.str a) (eRd t k) = some [some (false, .val (.str t)), some (false, .lst (k.map eRow)), some (false, .val (.str a)), none, none, none] := by simp
  rw [turn_ap, t0]
  simp only
  unfold rdR
  generalize Txt.split a (Str.ofString " ") = ps at *
  match ps, hp with
  | [w], _ =>
    simp at sp
    exact .inr ⟨rfl, [some (false, .val (.str t)), some (false, .lst (k.map eRow)), some (false, .val (.str a)), some (false, .lst [.str w]), none, none], by simp [-List.map_map, w_l_read_1, sp], by simp⟩
  | [w, e], _ =>
    simp at sp
    exact .inr ⟨rfl, [some (false, .val (.str t)), some (false, .lst (k.map eRow)), some (false, .val (.str a)), some (false, .lst [.str w, .str e]), none, none], by simp [-List.map_map, w_l_read_1, sp], by simp⟩
  | w :: e :: x :: ts, _ =>
    have l3 : ((w :: e :: x :: ts).map PyData.str).length = ts.length + 3 := by simp
    have n3 : ¬ ((ts.length + 3 : Nat) : Int) < 3 := by omega
    have a0 : atI ((w :: e :: x :: ts).map PyData.str) 0 = some (.str w) := atI_zero _ _
    have a1 : atI ((w :: e :: x :: ts).map PyData.str) 1 = some (.str e) := atI_one _ _ _
    have ww := l_is_word_eq w (hs w (by simp))
    have ne := neS_str e (Str.ofString "=")
    rw [str_beq] at ne
    have ct : cutA ((w :: e :: x :: ts).map PyData.str) (some 2) none = (x :: ts).map .str := by
      have := cutA_from' ((w :: e :: x :: ts).map PyData.str) 2
      simpa using this
    have eqs := eqS_tp2 (a := x :: ts) (b := [Str.ofString "*"]) (fun w hw => hk w (List.mem_cons_of_mem _ (List.mem_cons_of_mem _ hw))) (fun w hw => by rw [List.mem_singleton.mp hw]; exact star_ok)
    have e1 : (sAsg 3 (oM1 splitS (oNm 2) (oC (.str " ")))) [some (false, .val (.str t)), some (false, .lst (k.map eRow)), some (false, .val (.str a)), none, none, none] = .nx [some (false, .val (.str t)), some (false, .lst (k.map eRow)), some (false, .val (.str a)), some (false, .lst ((w :: e :: x :: ts).map .str)), none, none] := by
      simp only [sAsg_ap] at *
      simp [-List.map_map, -List.map_cons, sp]
    have hT : ∀ v ∈ x :: ts, v.length + 2 ≤ sizeLine := fun v hv => hs v (List.mem_cons_of_mem _ (List.mem_cons_of_mem _ hv))
    have e2a : e = Str.ofString "=" → wdB w = true → (sIf (tOrC (tV (o2 ltS (o1 lenS (oNm 3)) (oC (.int 3)))) (tOrC (tV (o2 neS (o2 ixS (oNm 3) (oC (.int 1))) (oC (.str "=")))) (tNotC (tV (oCall f_l_is_word_2 (oAs [o2 ixS (oNm 3) (oC (.int 0))])))))) (sRet (oC .none)) sNil) [some (false, .val (.str t)), some (false, .lst (k.map eRow)), some (false, .val (.str a)), some (false, .lst ((w :: e :: x :: ts).map .str)), none, none] = .nx [some (false, .val (.str t)), some (false, .lst (k.map eRow)), some (false, .val (.str a)), some (false, .lst ((w :: e :: x :: ts).map .str)), none, none] := fun q1 q2 => by
      rw [decide_eq_true q1] at ne
      rw [q2] at ww
      have n4 : ¬ (((w :: e :: x :: ts).map PyData.str).length : Int) < 3 := by rw [l3]; exact n3
      generalize (w :: e :: x :: ts).map PyData.str = M at *
      simp [-List.map_map, -neS_str, lw2, n4, a0, a1, ne, ww]
    have e2b : ¬ (e = Str.ofString "=" ∧ wdB w = true) → (sIf (tOrC (tV (o2 ltS (o1 lenS (oNm 3)) (oC (.int 3)))) (tOrC (tV (o2 neS (o2 ixS (oNm 3) (oC (.int 1))) (oC (.str "=")))) (tNotC (tV (oCall f_l_is_word_2 (oAs [o2 ixS (oNm 3) (oC (.int 0))])))))) (sRet (oC .none)) sNil) [some (false, .val (.str t)), some (false, .lst (k.map eRow)), some (false, .val (.str a)), some (false, .lst ((w :: e :: x :: ts).map .str)), none, none] = .rt (.val .none) [some (false, .val (.str t)), some (false, .lst (k.map eRow)), some (false, .val (.str a)), some (false, .lst ((w :: e :: x :: ts).map .str)), none, none] := fun q => by
      have n4 : ¬ (((w :: e :: x :: ts).map PyData.str).length : Int) < 3 := by rw [l3]; exact n3
      generalize (w :: e :: x :: ts).map PyData.str = M at *
      by_cases q1 : e = Str.ofString "="
      · have q2 : wdB w = false := by
          cases h : wdB w with
          | false => rfl
          | true => exact (q ⟨q1, h⟩).elim
        rw [decide_eq_true q1] at ne
        rw [q2] at ww
        simp [-List.map_map, -neS_str, lw2, n4, a0, a1, ne, ww]
      · rw [decide_eq_false q1] at ne
        simp [-List.map_map, -neS_str, lw2, n4, a0, a1, ne]
    have e3 : (sAsg 4 (o1 tupleS (oSl (oNm 3) (oPart (oC (.int 2))) oNoPart))) [some (false, .val (.str t)), some (false, .lst (k.map eRow)), some (false, .val (.str a)), some (false, .lst ((w :: e :: x :: ts).map .str)), none, none] = .nx [some (false, .val (.str t)), some (false, .lst (k.map eRow)), some (false, .val (.str a)), some (false, .lst ((w :: e :: x :: ts).map .str)), some (false, .val (eW (x :: ts))), none] := by
      have ew : eW (x :: ts) = .tuple ((x :: ts).map .str) := rfl
      rw [ew]
      generalize (w :: e :: x :: ts).map PyData.str = M at *
      generalize (x :: ts).map PyData.str = Y at *
      simp [-List.map_map, ct]
    obtain ⟨T, hT2, hTs, e4⟩ : ∃ T : List Str, T = (if x :: ts = [Str.ofString "*"] then [] else x :: ts) ∧ (∀ v ∈ T, v.length + 2 ≤ sizeLine) ∧ (sIf (tV (o2 eqS (oNm 4) (oTup (oAs [oC (.str "*")])))) (sAsg 4 (oTup (oAs []))) sNil) [some (false, .val (.str t)), some (false, .lst (k.map eRow)), some (false, .val (.str a)), some (false, .lst ((w :: e :: x :: ts).map .str)), some (false, .val (eW (x :: ts))), none] = .nx [some (false, .val (.str t)), some (false, .lst (k.map eRow)), some (false, .val (.str a)), some (false, .lst ((w :: e :: x :: ts).map .str)), some (false, .val (eW T)), none] := by
      have ew : PyData.tuple ((x :: ts).map .str) = eW (x :: ts) := rfl
      have e0 : PyData.tuple [] = eW [] := rfl
      have sx : PyData.tuple ([Str.ofString "*"].map PyData.str) = .tuple [.str (Str.ofString "*")] := rfl
      rw [ew, sx] at eqs
      refine ⟨_, rfl, ?_, ?_⟩
      · intro v hv
        split at hv
        · cases hv
        · exact hT v hv
      · generalize (w :: e :: x :: ts).map PyData.str = M at *
        by_cases q : x :: ts = [Str.ofString "*"]
        · rw [decide_eq_true q] at eqs
          rw [if_pos q]
          generalize eW (x :: ts) = Y at *
          simp [-List.map_map, eqs, e0]
        · rw [decide_eq_false q] at eqs
          rw [if_neg q]
          generalize eW (x :: ts) = Y at *
          simp [-List.map_map, eqs]
    have c1 := lc_all (f := PyData.str) (c := none) (T := .nm 5) (t := tTrue) (g := (oCall f_l_is_word_2 (oAs [oNm 5]))) (own := [5])
      (ρ := [some (false, .val (.str t)), some (false, .lst (k.map eRow)), some (false, .val (.str a)), some (false, .lst ((w :: e :: x :: ts).map .str)), some (false, .val (eW T)), none]) (fun w => .bool (wdB w)) T (by simp) (by
      intro w hw
      have := l_is_word_eq w (hTs w hw)
      simp [-List.map_map, lturn_ap, lw2, this])
    have al := allS_map wdB T
    have itm : itemsD (eW T) = some (T.map .str) := rfl
    have rd : rdP (w :: e :: x :: ts) = if e = Str.ofString "=" ∧ wdB w = true then (if T.all wdB = true then some (w, T) else none) else none := by
      show rdQ w e (x :: ts) = _
      unfold rdQ
      rw [hT2]
      by_cases q : x :: ts = [Str.ofString "*"]
      · rw [if_pos q, if_pos q]; rfl
      · rw [if_neg q, if_neg q]
    rw [rd, w_l_read_1, sq_nx e1]
    by_cases q : e = Str.ofString "=" ∧ wdB w = true
    · rw [if_pos q, sq_nx (e2a q.1 q.2), sq_nx e3, sq_nx e4]
      have er : PyData.tuple [.str w, eW T] = eRow (w, T) := rfl
      clear e1 e2a e2b e3 e4 hs hk hp hT sp eqs ct
      simp [-List.map_map, -List.map_cons] at c1
      generalize (w :: e :: x :: ts).map PyData.str = M at *
      generalize eW T = Y at *
      cases q5 : T.all wdB with
      | false =>
        rw [q5] at al
        exact .inr ⟨by simp, [some (false, .val (.str t)), some (false, .lst (k.map eRow)), some (false, .val (.str a)), some (false, .lst M), some (false, .val Y), none], by simp [-List.map_map, -allS_ap, c_l_read_1, itm, c1, al], by simp⟩
      | true =>
        rw [q5] at al
        refine .inl ⟨_, by rw [if_pos rfl], ?_⟩
        simp [-List.map_map, -allS_ap, c_l_read_1, itm, c1, al, a0, er, hl]
    · rw [if_neg q]
      refine .inr ⟨rfl, [some (false, .val (.str t)), some (false, .lst (k.map eRow)), some (false, .val (.str a)), some (false, .lst ((w :: e :: x :: ts).map .str)), none, none], ?_, by simp⟩
      rw [sq_rt6 (e2b q)]
theorem l_read_eq (t : Str) (h : t.length ≤ 900000) (ho : okT t) : f_l_read [.val (.str t)] = .ret (.val (match allR (Txt.split t (Str.ofString "\n")) with | some b => eBk b | none => .none)) [.val (.str t)] := by
  have s0 : startE 6 [.val (.str t)] = [some (false, .val (.str t)), none, none, none, none, none] := rfl
  have sp := splitS_lf t (small3 (by omega))
  have hs : ∀ a ∈ Txt.split t (Str.ofString "\n"), a.length ≤ 900000 ∧ okT a := fun a ha => ⟨by have := part_short ha; omega, ho.split ha⟩
  have hl := split_le t (Str.ofString "\n")
  generalize Txt.split t (Str.ofString "\n") = ts at *
  have p0 : (sAsg 1 (oLst (oAs []))) [some (false, .val (.str t)), none, none, none, none, none] = .nx (eRd t []) := by simp
  have key : ∀ (xs : List Str) (k : List Row), (∀ a ∈ xs, a.length ≤ 900000 ∧ okT a) → k.length + xs.length ≤ 1000000 →
      (∃ b, allR xs = some b ∧ forL none (.nm 2) [2, 3, 4] w_l_read_1 (xs.map .str) (eRd t k) = .nx (eRd t (k ++ b))) ∨ (allR xs = none ∧ ∃ ρ', forL none (.nm 2) [2, 3, 4] w_l_read_1 (xs.map .str) (eRd t k) = .rt (.val .none) ρ' ∧ fins [.val (.str t)] ρ' = some [.val (.str t)]) := by
    intro xs
    induction xs with
    | nil => intro k _ _; exact .inl ⟨[], rfl, by rw [List.append_nil]; rfl⟩
    | cons a xs ih =>
      intro k hx hk
      rw [List.length_cons] at hk
      rw [List.map_cons]
      unfold allR
      rcases read_turn t a (hx a (by simp)).1 (hx a (by simp)).2 k (small (m := 1000000) (by omega)) with ⟨r, e1, e2⟩ | ⟨e1, ρ', e2, e3⟩
      · rw [forLc_turn (c := none) e2 (by simp), e1]
        rcases ih (k ++ [r]) (fun x hx' => hx x (List.mem_cons_of_mem _ hx')) (by rw [List.length_append, List.length_cons, List.length_nil]; omega) with ⟨b, f1, f2⟩ | ⟨f1, f2⟩
        · refine .inl ⟨r :: b, by rw [f1], ?_⟩
          rw [f2, List.append_assoc]
          rfl
        · exact .inr ⟨by rw [f1], f2⟩
      · rw [e1, forLc_ret e2]
        exact .inr ⟨rfl, ρ', rfl, e3⟩
  rw [f_l_read, runF_fin, s0, b_l_read, sq_nx p0]
  rcases key ts [] hs (by simp; omega) with ⟨b, e1, e2⟩ | ⟨e1, ρ', e2, e3⟩
  · rw [e1]
    have tu : tupleS (.lst (b.map eRow)) = some (.val (eBk b)) := rfl
    simp only [List.nil_append] at e2
    simp [-List.map_map, -tupleS_ap, sp, e2, tu]
  · rw [e1]
    simp [-List.map_map, sp, e2, e3]
def eDue : Option (List Row) → D
  | some b => eBk b
  | none => .none
theorem l_due_eq (t : Str) (h : t.length ≤ 900000) (ho : okT t) : f_l_due [.val (.str t)] = .ret (.val (eDue (dueT t))) [.val (.str t)] := by
  have r := l_read_eq t h ho
  have eq := eqS_str t (Str.ofString "")
  rw [str_beq] at eq
  unfold dueT
  by_cases hne : t = Str.ofString ""
  · rw [decide_eq_true hne] at eq
    rw [if_pos hne]
    have b0 : eDue (some []) = .tuple [] := rfl
    rw [b0]
    simp [-eqS_str, f_l_due, b_l_due, runF_ap, eq]
  · rw [decide_eq_false hne] at eq
    rw [if_neg hne]
    have b1 : (match allR (Txt.split t (Str.ofString "\n")) with | some b => eBk b | none => .none) = eDue (allR (Txt.split t (Str.ofString "\n"))) := by cases allR (Txt.split t (Str.ofString "\n")) <;> rfl
    rw [b1] at r
    simp [-eqS_str, f_l_due, b_l_due, runF_ap, eq, r]
def K1 : List D := [.bool true, .bool true, .bool true, .bool false, .bool false, .bool false, .bool false, .bool false, .bool false, .bool false]
theorem kinds_1 : f_l_kinds_3 [.exn 1] = .ret (.lst K1) [.exn 1] := by rfl
theorem only_2 : f_l_only [.lst K1, .val (.int 2)] = .ret (.val (.bool true)) [.lst K1, .val (.int 2)] := by
  have c1 := lc_rng (lo := 0) (c := none) (T := (.nm 2)) (t := (tTrue)) (g := (oOr (o2 ltS (oNm 2) (oC (.int 2))) (o2 eqS (oNm 2) (oNm 1)))) (own := [2]) (ρ := [some (true, .lst K1), some (false, .val (.int 2)), none]) (fun k => .bool (decide (k < 2) || decide (k = 2))) 10 (by simp) (by
    intro k hk
    by_cases h2 : k < 2
    · have : (k : Int) < 2 := by omega
      simp [lturn_ap, this, h2]
    · have : ¬ (k : Int) < 2 := by omega
      by_cases h3 : k = 2
      · subst h3
        simp [lturn_ap]
      · have h4 : ¬ (k : Int) = 2 := by omega
        simp [lturn_ap, this, h2, h3, h4])
  have eK : (List.range 10).map (fun k => PyData.bool (decide (k < 2) || decide (k = 2))) = K1 := by rfl
  rw [eK] at c1
  have g : Gd (.list K1) 1 20 := (Gd.list (k := 0) (W := 0) (fun x hx => by
    simp only [K1, List.mem_cons, List.not_mem_nil, or_false] at hx
    rcases hx with rfl | rfl | rfl | rfl | rfl | rfl | rfl | rfl | rfl | rfl <;> exact Gd.bool _)).mono (by omega) (by decide)
  have q := Gd.eq (a := .lst K1) (b := .lst K1) rfl rfl g (by omega)
  simp at c1
  simp [f_l_only, b_l_only, runF_ap, c_l_only_1, c1, q]
theorem nd_metT {xs : List Str} (h : ¬ (metT xs).length < xs.length) : xs.Nodup := by
  have key : ∀ ys : List Str, ¬ (metT ys.reverse).length < ys.length → ys.reverse.Nodup := by
    intro ys
    induction ys with
    | nil => intro _; simp
    | cons y ys ih =>
      intro h
      rw [List.reverse_cons, metT_snoc] at h
      have l := metT_len ys.reverse
      rw [List.length_reverse] at l
      rw [List.length_cons] at h
      unfold addT at h
      rw [List.reverse_cons, List.nodup_append]
      split at h
      · omega
      · rename_i q
        rw [List.length_append, List.length_cons, List.length_nil] at h
        refine ⟨ih (by omega), by simp, fun a ha b hb => ?_⟩
        rw [List.mem_singleton.mp hb]
        rintro rfl
        exact q (by first | exact mem_metT.mpr ha | simpa using mem_metT.mpr ha)
  have := key xs.reverse (by rw [List.reverse_reverse, List.length_reverse]; exact h)
  rwa [List.reverse_reverse] at this
/-- what fits is of words -/
theorem fit_rows {b : List Row} (h : bkFit b = true) : b.length ≤ 60 ∧ ∀ r ∈ b, R8 r := by
  unfold bkFit at h
  rw [Bool.and_eq_true, decide_eq_true_eq] at h
  refine ⟨h.1, ?_⟩
  have key : ∀ (b : List Row) (k : List Row), (b.foldlM bkFitS k).isSome = true → ∀ r ∈ b, rowB r = true := by
    intro b
    induction b with
    | nil => intro k _ r hr; cases hr
    | cons a b ih =>
      intro k hk r hr
      rw [List.foldlM_cons] at hk
      cases q : bkFitS k a with
      | none => rw [q] at hk; cases hk
      | some k' =>
        rw [q] at hk
        rcases List.mem_cons.mp hr with rfl | hr
        · unfold bkFitS at q
          split at q
          · rename_i q'
            exact q'.1
          · cases q
        · exact ih k' hk r hr
  intro r hr
  have q := key b [] h.2 r hr
  unfold rowB at q
  simp only [Bool.and_eq_true, decide_eq_true_eq, Bool.not_eq_true', decide_eq_false_iff_not, List.all_eq_true] at q
  exact ⟨(wdB_iff _).mp q.1.1.1, q.1.1.2, nd_metT q.1.2, fun w hw => (wdB_iff _).mp (q.2 w hw)⟩
theorem right_none (d : D) (h : isiS "str" (.val d) = some (.val (.bool false))) : f_l_right_13 [.val d, .val .none] = .ret (.val (.bool true)) [.val d, .val .none] := by
  have r := read2_no d h
  have k := kinds_1
  have o := only_2
  have i1 : isS (.val .none) (.val .none) = some (.val (.bool true)) := rfl
  simp [f_l_right_13, b_l_right_13, runF_ap, sTry, r, subC, k, o, gone, i1]
theorem right_due (t : Str) (h : t.length ≤ 900000) (ho : okT t) : f_l_right_13 [.val (.str t), .val (eDue (dueT t))] = .ret (.val (.bool true)) [.val (.str t), .val (eDue (dueT t))] := by
  have r := read2_eq t h ho
  have hb : ∀ b, dueT t = some b → b.length ≤ 1000000 ∧ ∀ r ∈ b, RG r := fun b e => by
    unfold dueT at e
    split at e
    · injection e with e
      subst e
      exact ⟨by simp, by simp⟩
    · have hl := split_le t (Str.ofString "\n")
      obtain ⟨l, g⟩ := allR_ok (fun a ha => ⟨by have := part_short ha; omega, ho.split ha⟩) e
      exact ⟨by omega, g⟩
  generalize dueT t = o at *
  have s0 : ∀ d : D, startE 5 [.val (.str t), .val d] = [some (false, .val (.str t)), some (false, .val d), none, none, none] := fun _ => rfl
  cases o with
  | none =>
    simp only at r
    have k := kinds_1
    have o := only_2
    have i1 : isS (.val .none) (.val .none) = some (.val (.bool true)) := rfl
    have e0 : eDue none = .none := rfl
    rw [e0]
    simp [f_l_right_13, b_l_right_13, runF_ap, sTry, r, subC, k, o, gone, i1]
  | some b =>
    obtain ⟨hl, hg⟩ := hb b rfl
    simp only at r
    have ed : eDue (some b) = eBk b := rfl
    have i1 : isS (.val (eBk b)) (.val .none) = some (.val (.bool false)) := rfl
    have ft := l_fit_eq b hg hl
    rw [ed, f_l_right_13, runF_fin, s0, b_l_right_13]
    cases q : bkFit b with
    | false =>
      rw [q] at r ft
      simp only [Bool.false_eq_true, if_false] at r
      have k2 := kinds_2
      have o3 := only_3
      simp [-List.map_map, sTry, r, subC, k2, o3, gone, i1, lfit2, ft]
    | true =>
      rw [q] at r ft
      simp only [if_true] at r
      obtain ⟨h60, h8⟩ := fit_rows q
      obtain ⟨W, hW, g⟩ := Gd.bq (b := b) (fun r hr => (h8 r hr).rq) (by omega)
      have r1 := g.repr (o := .val (eBk b)) rfl (by omega) hW
      have e0 : eqS (.lst []) (.lst []) = some (.val (.bool true)) := Gd.eq (a := .lst []) (b := .lst []) rfl rfl (Gd.list (xs := []) (k := 0) (W := 0) (by simp)) (by omega)
      simp [-List.map_map, sTry, r, r1, e0, i1, lfit2, ft]
end Eng
/-! Law k06. -/
namespace Eng
open PySem PySem.Spec L2 SX
open PyProof.Rows hiding St
theorem t2_turn (b done : List Row) (r : Row) (h : R8 r) (hl : done.length < 1000) : turn (.tup [2, 3]) [2, 3] w_l_text_2_1 (eRow r) [some (false, .val (eBk b)), some (false, .lst ((done.map rtx).map .str)), none, none] = .nx [some (false, .val (eBk b)), some (false, .lst (((done ++ [r]).map rtx).map .str)), none, none] := by
  obtain ⟨j, a1, a2⟩ := rtx_adds h
  obtain ⟨M, m1, m2⟩ := rep_star r.2 h.2.1
  have en := eqT_nil r.2 h.2.2.2
  have z : done.length < sizeLine := small (m := 1000) (by omega)
  have ls : listS (.val (eW r.2)) = some (.lst (r.2.map .str)) := rfl
  have i1 : intS' (.val (.bool (decide (r.2 = [])))) = some (.val (.int (if decide (r.2 = []) = true then 1 else 0))) := rfl
  rw [turn_ap]
  have t0 : (Tgt.tup [2, 3]).put (eRow r) [some (false, .val (eBk b)), some (false, .lst ((done.map rtx).map .str)), none, none] = some [some (false, .val (eBk b)), some (false, .lst ((done.map rtx).map .str)), some (false, .val (.str r.1)), some (false, .val (eW r.2))] := by simp
  rw [t0]
  simp [-List.map_map, -addS_str, -addS_ll, -listS_ap, -decide_eq_true_eq, w_l_text_2_1, en, ls, i1, m1, m2, j, a1, a2, z]
theorem l_text_eq (b : List Row) (hl : b.length ≤ 60) (h8 : ∀ r ∈ b, R8 r) : f_l_text_2 [.val (eBk b)] = .ret (.val (.str (btx b))) [.val (eBk b)] := by
  have s0 : startE 4 [.val (eBk b)] = [some (false, .val (eBk b)), none, none, none] := rfl
  have p1 : (sAsg 1 (oLst (oAs []))) [some (false, .val (eBk b)), none, none, none] = .nx [some (false, .val (eBk b)), some (false, .lst (([].map rtx).map .str)), none, none] := by simp
  obtain ⟨_, e, rfl⟩ := forL_all (f := eRow) (T := .tup [2, 3]) (fg := [2, 3]) (b := w_l_text_2_1)
    (fun done ρ => ρ = [some (false, .val (eBk b)), some (false, .lst ((done.map rtx).map .str)), none, none]) b [some (false, .val (eBk b)), some (false, .lst (([].map rtx).map .str)), none, none] rfl (by
    rintro done r rest ρ hd rfl
    have hrb : r ∈ b := by rw [hd]; simp
    have hdl : done.length ≤ b.length := by rw [hd]; simp
    exact ⟨_, t2_turn b done r (h8 r hrb) (by omega), rfl⟩)
  simp only [List.map_nil] at e
  have p2 : (sFor (iSeq (oNm 0)) (.tup [2, 3]) [2, 3] w_l_text_2_1) [some (false, .val (eBk b)), some (false, .lst (([].map rtx).map .str)), none, none] = .nx [some (false, .val (eBk b)), some (false, .lst ((b.map rtx).map .str)), none, none] := by
    simp [-List.map_map, e]
  have jb := btx_joinS (b := b) (by omega) h8
  rw [f_l_text_2, runF_fin, s0, b_l_text_2, sq_nx p1, sq_nx p2]
  simp [-List.map_map, jb]
theorem due_btx (b : List Row) (hl : b.length ≤ 60) (h : ∀ r ∈ b, R8 r) : dueT (btx b) = some b := by
  unfold dueT
  by_cases hne : b = []
  · subst hne
    have t0 : btx [] = Str.ofString "" := by decide +kernel
    rw [if_pos t0]
  · rw [if_neg (btx_ne hne h), split_btx hne h]
    exact allR_map (by
      rw [List.map_map]
      exact List.map_congr_left fun r hr => rdR_rtx (h r hr))
def things (t : Str) : List D := [.none, .int 7, .bool true, .tuple [], .list [], .tuple [.str (Str.ofString "a = *")], .list [.str t], .int (-1)]
theorem answer06 (ns : List Int) : ∃ fin, f_law_79 [.scr ns] = .ret (.val (.bool true)) fin := by
  obtain ⟨nm, b, m, ea, hnm, hm1, hm2, hKa⟩ := l_made_ex ns
  have hnW : ∀ w ∈ nm, WW w := hnm.2.2
  have hl := hKa.len
  have h8 : ∀ r ∈ b, R8 r := fun r hr => Td.r8 (hKa.row r hr) hnW
  have et := l_text_eq b (by omega) h8
  obtain ⟨tl, tg⟩ := btx_S (b := b) (by omega) h8
  have to : okT (btx b) := fun c hc => by have := tg c hc; omega
  have rg := right_due (btx b) (by omega) to
  rw [due_btx b (by omega) h8] at rg
  have ed : eDue (some b) = eBk b := rfl
  rw [ed] at rg
  generalize btx b = t at *
  have s0 : startE 7 [.scr ns] = [some (false, .scr ns), none, none, none, none, none, none] := rfl
  have p0 : (sAsg 1 (oCall f_l_made (oAs [oNm 0]))) [some (false, .scr ns), none, none, none, none, none, none] = .nx [some (false, .scr ns), some (false, .val (eBk b)), none, none, none, none, none] := by
    simp [-List.map_map, ea]
  have p1 : (sAsg 2 (oCall f_l_text_2 (oAs [oNm 1]))) [some (false, .scr ns), some (false, .val (eBk b)), none, none, none, none, none] = .nx [some (false, .scr ns), some (false, .val (eBk b)), some (false, .val (.str t)), none, none, none, none] := by
    simp [-List.map_map, et]
  obtain ⟨ρ', e, rfl⟩ := forL_rng (lo := 0) (T := .nm 3) (fg := [3, 5, 6]) (b := w_law_79_1) (fun _ ρ => ρ = [some (false, .scr ns), some (false, .val (eBk b)), some (false, .val (.str t)), none, none, none, none]) 18 [some (false, .scr ns), some (false, .val (eBk b)), some (false, .val (.str t)), none, none, none, none] rfl (by
    rintro k ρ hk rfl
    obtain ⟨c, ec⟩ := l_cell_ex ns (41 + (k : Nat)) (by omega)
    obtain ⟨bt, ed, hbt⟩ := l_drawn_ex c 21 (by omega)
    have hc1 : Dr 5 (cutA bt (some 11) (some 16)) := hbt.mid 11 16 (by omega) (by omega)
    have hc2 : Dr 5 (cutA bt (some 16) none) := hbt.cut 16 (by omega)
    have c1 : slS (some 11) (some 16) (.lst (bt.map .int)) = some (.lst ((cutA bt (some 11) (some 16)).map .int)) := by rw [slS_lst, cutA_map]
    have c2 : slS (some 16) none (.lst (bt.map .int)) = some (.lst ((cutA bt (some 16) none).map .int)) := by rw [slS_lst, cutA_map]
    obtain ⟨u, hu, eu⟩ := l_bent6_ex _ hc1 t 12060 to tl (by omega)
    obtain ⟨v, hv, ev⟩ := l_bent6_ex _ hc2 u 73360 hu.1 (by have := hu.2; omega) (by omega)
    have du := l_due_eq u (by have := hu.2; omega) hu.1
    have dv := l_due_eq v (by have := hv.2; omega) hv.1
    have ru := right_due u (by have := hu.2; omega) hu.1
    have rv := right_due v (by have := hv.2; omega) hv.1
    simp at ed
    refine ⟨_, ?_, rfl⟩
    generalize dueT u = du' at *
    generalize dueT v = dv' at *
    by_cases q : (k : Int) % 2 = 1
    · simp [-List.map_map, -slS_lst, turn_ap, w_law_79_1, ec, ed, c1, c2, eu, ev, q, dv, rv, rg]
    · simp [-List.map_map, -slS_lst, turn_ap, w_law_79_1, ec, ed, c1, c2, eu, ev, q, du, ru, rg])
  have p2 : (sFor (iRng1 (oAs [oC (.int 18)])) (.nm 3) [3, 5, 6] w_law_79_1) [some (false, .scr ns), some (false, .val (eBk b)), some (false, .val (.str t)), none, none, none, none] = .nx [some (false, .scr ns), some (false, .val (eBk b)), some (false, .val (.str t)), none, none, none, none] := by
    simp [-List.map_map, e]
  obtain ⟨ρ', e2, rfl⟩ := forL_all (f := fun d : D => d) (T := .nm 4) (fg := [4]) (b := w_law_79_2)
    (fun _ ρ => ρ = [some (false, .scr ns), some (false, .val (eBk b)), some (false, .val (.str t)), none, none, none, none]) (things t) [some (false, .scr ns), some (false, .val (eBk b)), some (false, .val (.str t)), none, none, none, none] rfl (by
    rintro done d rest ρ hd rfl
    have hm : d ∈ things t := by rw [hd]; simp
    have hi : isiS "str" (.val d) = some (.val (.bool false)) := by
      simp only [things, List.mem_cons, List.not_mem_nil, or_false] at hm
      rcases hm with rfl | rfl | rfl | rfl | rfl | rfl | rfl | rfl <;> rfl
    have rn := right_none d hi
    refine ⟨_, ?_, rfl⟩
    simp [-List.map_map, turn_ap, w_law_79_2, rn])
  rw [List.map_id'] at e2
  have p3 : (sFor (iSeq (oLst (oAs [oC .none, oC (.int 7), oC (.bool true), oTup (oAs []), oLst (oAs []), oTup (oAs [oC (.str "a = *")]), oLst (oAs [oNm 2]), o1 negS (oC (.int 1))]))) (.nm 4) [4] w_law_79_2) [some (false, .scr ns), some (false, .val (eBk b)), some (false, .val (.str t)), none, none, none, none] = .nx [some (false, .scr ns), some (false, .val (eBk b)), some (false, .val (.str t)), none, none, none, none] := by
    unfold things at e2
    simp [-List.map_map, e2]
  refine ⟨[.scr ns], ?_⟩
  rw [f_law_79, runF_fin, s0, b_law_79, sq_nx p0, sq_nx p1, sq_nx p2, sq_nx p3]
  simp
end Eng
set_option maxHeartbeats 4000000
namespace Eng
open PySem PySem.Spec L2
open PyProof.Rows hiding St
def top (i : Nat) : Stmt := PySem.Challenge.pw_primer_k06_texts_refused.main.body.getD i (.Pass ⟨0, 0, 0, 0⟩)
def mth (i j : Nat) : Stmt := match top i with
  | .ClassDef _ _ _ body .. => body.getD j (.Pass ⟨0, 0, 0, 0⟩)
  | s => s
section
variable {P : Program} {w : World} {K : PySem.W.Frag} {mg : Str → Option Value} {base : Heap} {ca : Nat → Addr}

theorem sc__law_bent_words : FnScope ["_law_drawn_here", "_law_words", "_law_at", "_law_some", "_law_way", "_law_word"] ["_law_drawn_here", "_law_words"] (defScope (top 41)) := ⟨rfl, rfl, rfl, by decide +kernel, rfl, by decide +kernel, by decide +kernel⟩
theorem ok__law_bent_words {f : Addr} {fd : FuncData} (F : Fun K "_law_bent_words" "_law_bent_words" (top 41) f fd) (hm : mg "_law_bent_words" = some (.ref f)) (hB : Blt mg) : Callee P w K mg base ca 1 "_law_bent_words" 2 f_l_bent_words := by
  refine ⟨f, fd, ["_law_drawn_here", "_law_words"], rfl, efn_body (N := ["_law_drawn_here", "_law_words", "_law_at", "_law_some", "_law_way", "_law_word"]) (b := b_l_bent_words) F sc__law_bent_words fun cdv A outer s H E hg hr => ?_, hm, F.kp, F.binds fun _ _ _ _ _ _ us hl => match us, hl with | [_, _], _ => rfl⟩
  have hG : (cxOf (L2.CX P w) P w K mg base ["_law_drawn_here", "_law_words", "_law_at", "_law_some", "_law_way", "_law_word"] "_law_bent_words" (defScope (top 41)) f cdv A outer s H E).A.guards = some [] := by
    rw [← hg]; exact deeper_guards _ _
  have tk : Takes (cxOf (L2.CX P w) P w K mg base ["_law_drawn_here", "_law_words", "_law_at", "_law_some", "_law_way", "_law_word"] "_law_bent_words" (defScope (top 41)) f cdv A outer s H E) (fun cls d _ H => E cls d H) := takes_of rfl rfl rfl rfl
  have nd := sc__law_bent_words.nd
  have hp : PassesOwn _ _ _ (cxOf (L2.CX P w) P w K mg base ["_law_drawn_here", "_law_words", "_law_at", "_law_some", "_law_way", "_law_word"] "_law_bent_words" (defScope (top 41)) f cdv A outer s H E).xe := passes_of rfl
  exact (ss_cons (ss_asg (i := 2) nd rfl (by first | exact .inl rfl | exact .inr rfl) (se_bin bin_mod (se_ix (hu65 hr) (se_n 0 rfl (by first | exact .inl rfl | exact .inr (.inl rfl) | exact .inr (.inr rfl)) rfl rfl) se_int (fun _ _ => rfl)) (se_len hB rfl rfl (se_n 1 rfl (by first | exact .inl rfl | exact .inr (.inl rfl) | exact .inr (.inr rfl)) rfl rfl))) rfl (by first | exact .inl rfl | exact .inr rfl))
  (ss_cons (ss_asg (i := 3) nd rfl (by first | exact .inl rfl | exact .inr rfl) (se_lst (sa_c rfl se_str (sa_c rfl se_str (sa_c rfl se_str (sa_c rfl se_str (sa_c rfl se_str (sa_c rfl se_str (sa_c rfl se_str (sa_c rfl se_str (sa_c rfl se_str (sa_c rfl se_str (sa_c rfl se_str (sa_c rfl se_str (sa_c rfl se_str sa_nil)))))))))))))) rfl (by first | exact .inl rfl | exact .inr rfl))
  (ss_cons (ss_asg (i := 3) nd rfl (by first | exact .inl rfl | exact .inr rfl) (se_bin bin_add (se_n 3 rfl (by first | exact .inl rfl | exact .inr (.inl rfl) | exact .inr (.inr rfl)) rfl rfl) (se_lst (sa_c rfl se_str (sa_c rfl se_str sa_nil)))) rfl (by first | exact .inl rfl | exact .inr rfl))
  (ss_cons (ss_asg (i := 3) nd rfl (by first | exact .inl rfl | exact .inr rfl) (se_bin bin_add (se_n 3 rfl (by first | exact .inl rfl | exact .inr (.inl rfl) | exact .inr (.inr rfl)) rfl rfl) (se_lst (sa_c rfl se_str (sa_c rfl se_str (sa_c rfl se_str (sa_c rfl se_str (sa_c rfl se_str sa_nil))))))) rfl (by first | exact .inl rfl | exact .inr rfl))
  (ss_cons (ss_asg (i := 4) nd rfl (by first | exact .inl rfl | exact .inr rfl) (se_bin bin_mod (se_ix (hu65 hr) (se_n 0 rfl (by first | exact .inl rfl | exact .inr (.inl rfl) | exact .inr (.inr rfl)) rfl rfl) se_int (fun _ _ => rfl)) se_int) rfl (by first | exact .inl rfl | exact .inr rfl))
  (ss_cons (ss_if (st_cmp (bin_eq (hu64 hr)) (se_n 4 rfl (by first | exact .inl rfl | exact .inr (.inl rfl) | exact .inr (.inr rfl)) rfl rfl) se_int rfl)
    (ss_one (ss_ret (se_bin bin_add (se_slice (se_n 1 rfl (by first | exact .inl rfl | exact .inr (.inl rfl) | exact .inr (.inr rfl)) rfl rfl) so_none (so_some (se_n 2 rfl (by first | exact .inl rfl | exact .inr (.inl rfl) | exact .inr (.inr rfl)) rfl rfl))) (se_slice (se_n 1 rfl (by first | exact .inl rfl | exact .inr (.inl rfl) | exact .inr (.inr rfl)) rfl rfl) (so_some (se_bin bin_add (se_n 2 rfl (by first | exact .inl rfl | exact .inr (.inl rfl) | exact .inr (.inr rfl)) rfl rfl) se_int)) so_none))))
    ss_nil)
  (ss_cons (ss_if (st_cmp (bin_eq (hu64 hr)) (se_n 4 rfl (by first | exact .inl rfl | exact .inr (.inl rfl) | exact .inr (.inr rfl)) rfl rfl) se_int rfl)
    (ss_one (ss_ret (se_bin bin_add (se_bin bin_add (se_slice (se_n 1 rfl (by first | exact .inl rfl | exact .inr (.inl rfl) | exact .inr (.inr rfl)) rfl rfl) so_none (so_some (se_n 2 rfl (by first | exact .inl rfl | exact .inr (.inl rfl) | exact .inr (.inr rfl)) rfl rfl))) (se_lst (sa_c rfl (se_ix (hu65 hr) (se_n 1 rfl (by first | exact .inl rfl | exact .inr (.inl rfl) | exact .inr (.inr rfl)) rfl rfl) (se_n 2 rfl (by first | exact .inl rfl | exact .inr (.inl rfl) | exact .inr (.inr rfl)) rfl rfl) (fun _ _ => rfl)) sa_nil))) (se_slice (se_n 1 rfl (by first | exact .inl rfl | exact .inr (.inl rfl) | exact .inr (.inr rfl)) rfl rfl) (so_some (se_n 2 rfl (by first | exact .inl rfl | exact .inr (.inl rfl) | exact .inr (.inr rfl)) rfl rfl)) so_none))))
    ss_nil)
  (ss_cons (ss_asg (i := 5) nd rfl (by first | exact .inl rfl | exact .inr rfl) (se_ix (hu65 hr) (se_n 3 rfl (by first | exact .inl rfl | exact .inr (.inl rfl) | exact .inr (.inr rfl)) rfl rfl) (se_bin bin_mod (se_ix (hu65 hr) (se_n 0 rfl (by first | exact .inl rfl | exact .inr (.inl rfl) | exact .inr (.inr rfl)) rfl rfl) se_int (fun _ _ => rfl)) (se_len hB rfl rfl (se_n 3 rfl (by first | exact .inl rfl | exact .inr (.inl rfl) | exact .inr (.inr rfl)) rfl rfl))) (fun _ _ => rfl)) rfl (by first | exact .inl rfl | exact .inr rfl))
  (ss_one (ss_ret (se_bin bin_add (se_bin bin_add (se_slice (se_n 1 rfl (by first | exact .inl rfl | exact .inr (.inl rfl) | exact .inr (.inr rfl)) rfl rfl) so_none (so_some (se_n 2 rfl (by first | exact .inl rfl | exact .inr (.inl rfl) | exact .inr (.inr rfl)) rfl rfl))) (se_lst (sa_c rfl (se_n 5 rfl (by first | exact .inl rfl | exact .inr (.inl rfl) | exact .inr (.inr rfl)) rfl rfl) sa_nil))) (se_slice (se_n 1 rfl (by first | exact .inl rfl | exact .inr (.inl rfl) | exact .inr (.inr rfl)) rfl rfl) (so_some (se_bin bin_sub (se_bin bin_add (se_n 2 rfl (by first | exact .inl rfl | exact .inr (.inl rfl) | exact .inr (.inr rfl)) rfl rfl) se_int) (se_bin bin_mod (se_n 4 rfl (by first | exact .inl rfl | exact .inr (.inl rfl) | exact .inr (.inr rfl)) rfl rfl) se_int))) so_none))))))))))))
theorem sc__law_bent : FnScope ["_law_drawn_here", "_law_text_here", "_law_rows", "_law_at", "_law_way", "_law_place", "_law_sign", "_law_rest", "_law_signs", "_law_k", "_law_words"] ["_law_drawn_here", "_law_text_here"] (defScope (top 42)) := ⟨rfl, rfl, rfl, by decide +kernel, rfl, by decide +kernel, by decide +kernel⟩
theorem ok__law_bent {f : Addr} {fd : FuncData} (F : Fun K "_law_bent" "_law_bent" (top 42) f fd) (hm : mg "_law_bent" = some (.ref f)) (hB : Blt mg) (c__law_bent_words : Callee P w K mg base ca 1 "_law_bent_words" 2 f_l_bent_words) : Callee P w K mg base ca 2 "_law_bent" 2 f_l_bent := by
  refine ⟨f, fd, ["_law_drawn_here", "_law_text_here"], rfl, efn_body (N := ["_law_drawn_here", "_law_text_here", "_law_rows", "_law_at", "_law_way", "_law_place", "_law_sign", "_law_rest", "_law_signs", "_law_k", "_law_words"]) (b := b_l_bent) F sc__law_bent fun cdv A outer s H E hg hr => ?_, hm, F.kp, F.binds fun _ _ _ _ _ _ us hl => match us, hl with | [_, _], _ => rfl⟩
  have hG : (cxOf (L2.CX P w) P w K mg base ["_law_drawn_here", "_law_text_here", "_law_rows", "_law_at", "_law_way", "_law_place", "_law_sign", "_law_rest", "_law_signs", "_law_k", "_law_words"] "_law_bent" (defScope (top 42)) f cdv A outer s H E).A.guards = some [] := by
    rw [← hg]; exact deeper_guards _ _
  have tk : Takes (cxOf (L2.CX P w) P w K mg base ["_law_drawn_here", "_law_text_here", "_law_rows", "_law_at", "_law_way", "_law_place", "_law_sign", "_law_rest", "_law_signs", "_law_k", "_law_words"] "_law_bent" (defScope (top 42)) f cdv A outer s H E) (fun cls d _ H => E cls d H) := takes_of rfl rfl rfl rfl
  have nd := sc__law_bent.nd
  have hp : PassesOwn _ _ _ (cxOf (L2.CX P w) P w K mg base ["_law_drawn_here", "_law_text_here", "_law_rows", "_law_at", "_law_way", "_law_place", "_law_sign", "_law_rest", "_law_signs", "_law_k", "_law_words"] "_law_bent" (defScope (top 42)) f cdv A outer s H E).xe := passes_of rfl
  exact (ss_cons (ss_asg (i := 2) nd rfl (by first | exact .inl rfl | exact .inr rfl) (se_split (se_n 1 rfl (by first | exact .inl rfl | exact .inr (.inl rfl) | exact .inr (.inr rfl)) rfl rfl) se_str rfl rfl rfl) rfl (by first | exact .inl rfl | exact .inr rfl))
  (ss_cons (ss_asg (i := 3) nd rfl (by first | exact .inl rfl | exact .inr rfl) (se_bin bin_mod (se_bin bin_fdiv (se_ix (hu65 hr) (se_n 0 rfl (by first | exact .inl rfl | exact .inr (.inl rfl) | exact .inr (.inr rfl)) rfl rfl) se_int (fun _ _ => rfl)) se_int) (se_len hB rfl rfl (se_n 2 rfl (by first | exact .inl rfl | exact .inr (.inl rfl) | exact .inr (.inr rfl)) rfl rfl))) rfl (by first | exact .inl rfl | exact .inr rfl))
  (ss_cons (ss_asg (i := 4) nd rfl (by first | exact .inl rfl | exact .inr rfl) (se_bin bin_mod (se_ix (hu65 hr) (se_n 0 rfl (by first | exact .inl rfl | exact .inr (.inl rfl) | exact .inr (.inr rfl)) rfl rfl) se_int (fun _ _ => rfl)) se_int) rfl (by first | exact .inl rfl | exact .inr rfl))
  (ss_cons (ss_if (st_cmp (bin_eq (hu64 hr)) (se_n 4 rfl (by first | exact .inl rfl | exact .inr (.inl rfl) | exact .inr (.inr rfl)) rfl rfl) se_int rfl)
    (ss_one (ss_ret (se_join se_str (se_bin bin_add (se_bin bin_add (se_slice (se_n 2 rfl (by first | exact .inl rfl | exact .inr (.inl rfl) | exact .inr (.inr rfl)) rfl rfl) so_none (so_some (se_n 3 rfl (by first | exact .inl rfl | exact .inr (.inl rfl) | exact .inr (.inr rfl)) rfl rfl))) (se_lst (sa_c rfl se_str sa_nil))) (se_slice (se_n 2 rfl (by first | exact .inl rfl | exact .inr (.inl rfl) | exact .inr (.inr rfl)) rfl rfl) (so_some (se_n 3 rfl (by first | exact .inl rfl | exact .inr (.inl rfl) | exact .inr (.inr rfl)) rfl rfl)) so_none)) rfl rfl rfl)))
    ss_nil)
  (ss_cons (ss_if (st_cmp (bin_eq (hu64 hr)) (se_n 4 rfl (by first | exact .inl rfl | exact .inr (.inl rfl) | exact .inr (.inr rfl)) rfl rfl) se_int rfl)
    (ss_cons (ss_asg (i := 8) nd rfl (by first | exact .inl rfl | exact .inr rfl) se_str rfl (by first | exact .inl rfl | exact .inr rfl))
    (ss_cons (ss_for (fg := [9]) hp rfl (si_rng1 rfl hB.range (sa_c rfl (se_bin bin_sub se_int (se_len hB rfl rfl (se_n 2 rfl (by first | exact .inl rfl | exact .inr (.inl rfl) | exact .inr (.inr rfl)) rfl rfl))) sa_nil) rfl) (sg_name (i := 9) nd rfl (by first | exact .inl rfl | exact .inr rfl) (by first | exact .inl rfl | exact .inr rfl))
      (ss_one (ss_expr (se_app (j := 2) rfl (by first | exact .inl rfl | exact .inr (.inl rfl) | exact .inr (.inr rfl)) rfl rfl (se_bin bin_add (se_bin bin_add (se_bin bin_add se_str (se_ix (hu65 hr) (se_n 8 rfl (by first | exact .inl rfl | exact .inr (.inl rfl) | exact .inr (.inr rfl)) rfl rfl) (se_bin bin_fdiv (se_n 9 rfl (by first | exact .inl rfl | exact .inr (.inl rfl) | exact .inr (.inr rfl)) rfl rfl) se_int) (fun _ _ => rfl))) (se_ix (hu65 hr) (se_n 8 rfl (by first | exact .inl rfl | exact .inr (.inl rfl) | exact .inr (.inr rfl)) rfl rfl) (se_bin bin_mod (se_n 9 rfl (by first | exact .inl rfl | exact .inr (.inl rfl) | exact .inr (.inr rfl)) rfl rfl) se_int) (fun _ _ => rfl))) se_str) rfl rfl rfl rfl) rfl)) (fun _ => rfl))
    (ss_one (ss_ret (se_join se_str (se_n 2 rfl (by first | exact .inl rfl | exact .inr (.inl rfl) | exact .inr (.inr rfl)) rfl rfl) rfl rfl rfl)))))
    ss_nil)
  (ss_cons (ss_if (st_cmp (bin_eq (hu64 hr)) (se_n 4 rfl (by first | exact .inl rfl | exact .inr (.inl rfl) | exact .inr (.inr rfl)) rfl rfl) se_int rfl)
    (ss_one (ss_ret (se_join se_str (se_bin bin_add (se_slice (se_n 2 rfl (by first | exact .inl rfl | exact .inr (.inl rfl) | exact .inr (.inr rfl)) rfl rfl) so_none (so_some (se_n 3 rfl (by first | exact .inl rfl | exact .inr (.inl rfl) | exact .inr (.inr rfl)) rfl rfl))) (se_slice (se_n 2 rfl (by first | exact .inl rfl | exact .inr (.inl rfl) | exact .inr (.inr rfl)) rfl rfl) (so_some (se_bin bin_add (se_n 3 rfl (by first | exact .inl rfl | exact .inr (.inl rfl) | exact .inr (.inr rfl)) rfl rfl) se_int)) so_none)) rfl rfl rfl)))
    ss_nil)
  (ss_cons (ss_if (st_cmp (bin_eq (hu64 hr)) (se_n 4 rfl (by first | exact .inl rfl | exact .inr (.inl rfl) | exact .inr (.inr rfl)) rfl rfl) se_int rfl)
    (ss_one (ss_ret (se_join se_str (se_bin bin_add (se_n 2 rfl (by first | exact .inl rfl | exact .inr (.inl rfl) | exact .inr (.inr rfl)) rfl rfl) (se_lst (sa_c rfl (se_ix (hu65 hr) (se_n 2 rfl (by first | exact .inl rfl | exact .inr (.inl rfl) | exact .inr (.inr rfl)) rfl rfl) (se_n 3 rfl (by first | exact .inl rfl | exact .inr (.inl rfl) | exact .inr (.inr rfl)) rfl rfl) (fun _ _ => rfl)) sa_nil))) rfl rfl rfl)))
    ss_nil)
  (ss_cons (ss_if (st_cmp (bin_eq (hu64 hr)) (se_n 4 rfl (by first | exact .inl rfl | exact .inr (.inl rfl) | exact .inr (.inr rfl)) rfl rfl) se_int rfl)
    (ss_cons (ss_asg (i := 10) nd rfl (by first | exact .inl rfl | exact .inr rfl) (se_split (se_ix (hu65 hr) (se_n 2 rfl (by first | exact .inl rfl | exact .inr (.inl rfl) | exact .inr (.inr rfl)) rfl rfl) (se_n 3 rfl (by first | exact .inl rfl | exact .inr (.inl rfl) | exact .inr (.inr rfl)) rfl rfl) (fun _ _ => rfl)) se_str rfl rfl rfl) rfl (by first | exact .inl rfl | exact .inr rfl))
    (ss_one (ss_ret (se_join se_str (se_bin bin_add (se_lst (sa_c rfl (se_join se_str (se_bin bin_add (se_slice (se_n 10 rfl (by first | exact .inl rfl | exact .inr (.inl rfl) | exact .inr (.inr rfl)) rfl rfl) so_none (so_some se_int)) (se_down (se_n 10 rfl (by first | exact .inl rfl | exact .inr (.inl rfl) | exact .inr (.inr rfl)) rfl rfl))) rfl rfl rfl) sa_nil)) (se_n 2 rfl (by first | exact .inl rfl | exact .inr (.inl rfl) | exact .inr (.inr rfl)) rfl rfl)) rfl rfl rfl))))
    ss_nil)
  (ss_cons (ss_if (st_cmp (bin_eq (hu64 hr)) (se_n 4 rfl (by first | exact .inl rfl | exact .inr (.inl rfl) | exact .inr (.inr rfl)) rfl rfl) se_int rfl)
    (ss_one (ss_ret (se_join se_str (se_bin bin_add (se_slice (se_n 2 rfl (by first | exact .inl rfl | exact .inr (.inl rfl) | exact .inr (.inr rfl)) rfl rfl) (so_some (se_n 3 rfl (by first | exact .inl rfl | exact .inr (.inl rfl) | exact .inr (.inr rfl)) rfl rfl)) so_none) (se_slice (se_n 2 rfl (by first | exact .inl rfl | exact .inr (.inl rfl) | exact .inr (.inr rfl)) rfl rfl) so_none (so_some (se_n 3 rfl (by first | exact .inl rfl | exact .inr (.inl rfl) | exact .inr (.inr rfl)) rfl rfl)))) rfl rfl rfl)))
    ss_nil)
  (ss_cons (ss_if (st_cmp bin_lt (se_n 4 rfl (by first | exact .inl rfl | exact .inr (.inl rfl) | exact .inr (.inr rfl)) rfl rfl) se_int rfl)
    (ss_cons (ss_asg (i := 10) nd rfl (by first | exact .inl rfl | exact .inr rfl) (se_c c__law_bent_words hG hr tk rfl rfl rfl rfl (sa_c rfl (se_n 0 rfl (by first | exact .inl rfl | exact .inr (.inl rfl) | exact .inr (.inr rfl)) rfl rfl) (sa_c rfl (se_split (se_ix (hu65 hr) (se_n 2 rfl (by first | exact .inl rfl | exact .inr (.inl rfl) | exact .inr (.inr rfl)) rfl rfl) (se_n 3 rfl (by first | exact .inl rfl | exact .inr (.inl rfl) | exact .inr (.inr rfl)) rfl rfl) (fun _ _ => rfl)) se_str rfl rfl rfl) sa_nil))) rfl (by first | exact .inl rfl | exact .inr rfl))
    (ss_one (ss_ret (se_join se_str (se_bin bin_add (se_bin bin_add (se_slice (se_n 2 rfl (by first | exact .inl rfl | exact .inr (.inl rfl) | exact .inr (.inr rfl)) rfl rfl) so_none (so_some (se_n 3 rfl (by first | exact .inl rfl | exact .inr (.inl rfl) | exact .inr (.inr rfl)) rfl rfl))) (se_lst (sa_c rfl (se_join se_str (se_n 10 rfl (by first | exact .inl rfl | exact .inr (.inl rfl) | exact .inr (.inr rfl)) rfl rfl) rfl rfl rfl) sa_nil))) (se_slice (se_n 2 rfl (by first | exact .inl rfl | exact .inr (.inl rfl) | exact .inr (.inr rfl)) rfl rfl) (so_some (se_bin bin_add (se_n 3 rfl (by first | exact .inl rfl | exact .inr (.inl rfl) | exact .inr (.inr rfl)) rfl rfl) se_int)) so_none)) rfl rfl rfl))))
    ss_nil)
  (ss_cons (ss_asg (i := 5) nd rfl (by first | exact .inl rfl | exact .inr rfl) (se_bin bin_mod (se_bin bin_add (se_bin bin_mul (se_ix (hu65 hr) (se_n 0 rfl (by first | exact .inl rfl | exact .inr (.inl rfl) | exact .inr (.inr rfl)) rfl rfl) se_int (fun _ _ => rfl)) se_int) (se_ix (hu65 hr) (se_n 0 rfl (by first | exact .inl rfl | exact .inr (.inl rfl) | exact .inr (.inr rfl)) rfl rfl) se_int (fun _ _ => rfl))) (se_bin bin_add (se_len hB rfl rfl (se_n 1 rfl (by first | exact .inl rfl | exact .inr (.inl rfl) | exact .inr (.inr rfl)) rfl rfl)) se_int)) rfl (by first | exact .inl rfl | exact .inr rfl))
  (ss_cons (ss_asg (i := 6) nd rfl (by first | exact .inl rfl | exact .inr rfl) (se_ix (hu65 hr) se_str (se_bin bin_mod (se_ix (hu65 hr) (se_n 0 rfl (by first | exact .inl rfl | exact .inr (.inl rfl) | exact .inr (.inr rfl)) rfl rfl) se_int (fun _ _ => rfl)) se_int) (fun _ _ => rfl)) rfl (by first | exact .inl rfl | exact .inr rfl))
  (ss_cons (ss_if (st_cmp (bin_eq (hu64 hr)) (se_bin bin_mod (se_ix (hu65 hr) (se_n 0 rfl (by first | exact .inl rfl | exact .inr (.inl rfl) | exact .inr (.inr rfl)) rfl rfl) se_int (fun _ _ => rfl)) se_int) se_int rfl)
    (ss_one (ss_asg (i := 6) nd rfl (by first | exact .inl rfl | exact .inr rfl) se_str rfl (by first | exact .inl rfl | exact .inr rfl)))
    ss_nil)
  (ss_cons (ss_asg (i := 7) nd rfl (by first | exact .inl rfl | exact .inr rfl) (se_slice (se_n 1 rfl (by first | exact .inl rfl | exact .inr (.inl rfl) | exact .inr (.inr rfl)) rfl rfl) (so_some (se_bin bin_add (se_n 5 rfl (by first | exact .inl rfl | exact .inr (.inl rfl) | exact .inr (.inr rfl)) rfl rfl) (se_bin bin_mod (se_ix (hu65 hr) (se_n 0 rfl (by first | exact .inl rfl | exact .inr (.inl rfl) | exact .inr (.inr rfl)) rfl rfl) se_int (fun _ _ => rfl)) se_int))) so_none) rfl (by first | exact .inl rfl | exact .inr rfl))
  (ss_one (ss_ret (se_bin bin_add (se_bin bin_add (se_slice (se_n 1 rfl (by first | exact .inl rfl | exact .inr (.inl rfl) | exact .inr (.inr rfl)) rfl rfl) so_none (so_some (se_n 5 rfl (by first | exact .inl rfl | exact .inr (.inl rfl) | exact .inr (.inr rfl)) rfl rfl))) (se_n 6 rfl (by first | exact .inl rfl | exact .inr (.inl rfl) | exact .inr (.inr rfl)) rfl rfl)) (se_n 7 rfl (by first | exact .inl rfl | exact .inr (.inl rfl) | exact .inr (.inr rfl)) rfl rfl))))))))))))))))))
theorem sc__law_mix : FnScope ["_law_cell_here", "_law_k", "_law_by"] ["_law_cell_here", "_law_k"] (defScope (top 27)) := ⟨rfl, rfl, rfl, by decide +kernel, rfl, by decide +kernel, by decide +kernel⟩
theorem ok__law_mix {f : Addr} {fd : FuncData} (F : Fun K "_law_mix" "_law_mix" (top 27) f fd) (hm : mg "_law_mix" = some (.ref f)) (hB : Blt mg) : Callee P w K mg base ca 1 "_law_mix" 2 f_l_mix := by
  refine ⟨f, fd, ["_law_cell_here", "_law_k"], rfl, efn_body (N := ["_law_cell_here", "_law_k", "_law_by"]) (b := b_l_mix) F sc__law_mix fun cdv A outer s H E hg hr => ?_, hm, F.kp, F.binds fun _ _ _ _ _ _ us hl => match us, hl with | [_, _], _ => rfl⟩
  have hG : (cxOf (L2.CX P w) P w K mg base ["_law_cell_here", "_law_k", "_law_by"] "_law_mix" (defScope (top 27)) f cdv A outer s H E).A.guards = some [] := by
    rw [← hg]; exact deeper_guards _ _
  have tk : Takes (cxOf (L2.CX P w) P w K mg base ["_law_cell_here", "_law_k", "_law_by"] "_law_mix" (defScope (top 27)) f cdv A outer s H E) (fun cls d _ H => E cls d H) := takes_of rfl rfl rfl rfl
  have nd := sc__law_mix.nd
  have hp : PassesOwn _ _ _ (cxOf (L2.CX P w) P w K mg base ["_law_cell_here", "_law_k", "_law_by"] "_law_mix" (defScope (top 27)) f cdv A outer s H E).xe := passes_of rfl
  exact (ss_cons (ss_asg (i := 2) nd rfl (by first | exact .inl rfl | exact .inr rfl) (se_bin bin_add (se_bin bin_add (se_bin bin_mul (se_bin bin_add (se_bin bin_mod (se_n 0 rfl (by first | exact .inl rfl | exact .inr (.inl rfl) | exact .inr (.inr rfl)) rfl rfl) (se_bin bin_pow se_int se_int)) se_int) se_int) (se_bin bin_mul (se_bin bin_mul (se_n 1 rfl (by first | exact .inl rfl | exact .inr (.inl rfl) | exact .inr (.inr rfl)) rfl rfl) (se_n 1 rfl (by first | exact .inl rfl | exact .inr (.inl rfl) | exact .inr (.inr rfl)) rfl rfl)) se_int)) (se_bin bin_mul (se_n 1 rfl (by first | exact .inl rfl | exact .inr (.inl rfl) | exact .inr (.inr rfl)) rfl rfl) se_int)) rfl (by first | exact .inl rfl | exact .inr rfl))
  (ss_one (ss_ret (se_bin bin_mod (se_bin bin_mul (se_bin bin_mod (se_n 2 rfl (by first | exact .inl rfl | exact .inr (.inl rfl) | exact .inr (.inr rfl)) rfl rfl) se_int) se_int) se_int))))
theorem sc__law_cell : FnScope ["_law_script", "_law_k", "_law_seed"] ["_law_script", "_law_k"] (defScope (top 28)) := ⟨rfl, rfl, rfl, by decide +kernel, rfl, by decide +kernel, by decide +kernel⟩
theorem ok__law_cell {f : Addr} {fd : FuncData} (F : Fun K "_law_cell" "_law_cell" (top 28) f fd) (hm : mg "_law_cell" = some (.ref f)) (hB : Blt mg) (c__law_mix : Callee P w K mg base ca 1 "_law_mix" 2 f_l_mix) : Callee P w K mg base ca 2 "_law_cell" 2 f_l_cell := by
  refine ⟨f, fd, ["_law_script", "_law_k"], rfl, efn_body (N := ["_law_script", "_law_k", "_law_seed"]) (b := b_l_cell) F sc__law_cell fun cdv A outer s H E hg hr => ?_, hm, F.kp, F.binds fun _ _ _ _ _ _ us hl => match us, hl with | [_, _], _ => rfl⟩
  have hG : (cxOf (L2.CX P w) P w K mg base ["_law_script", "_law_k", "_law_seed"] "_law_cell" (defScope (top 28)) f cdv A outer s H E).A.guards = some [] := by
    rw [← hg]; exact deeper_guards _ _
  have tk : Takes (cxOf (L2.CX P w) P w K mg base ["_law_script", "_law_k", "_law_seed"] "_law_cell" (defScope (top 28)) f cdv A outer s H E) (fun cls d _ H => E cls d H) := takes_of rfl rfl rfl rfl
  have nd := sc__law_cell.nd
  have hp : PassesOwn _ _ _ (cxOf (L2.CX P w) P w K mg base ["_law_script", "_law_k", "_law_seed"] "_law_cell" (defScope (top 28)) f cdv A outer s H E).xe := passes_of rfl
  exact (ss_cons (ss_if (st_cmp bin_lt (se_n 1 rfl (by first | exact .inl rfl | exact .inr (.inl rfl) | exact .inr (.inr rfl)) rfl rfl) (se_len hB rfl rfl (se_n 0 rfl (by first | exact .inl rfl | exact .inr (.inl rfl) | exact .inr (.inr rfl)) rfl rfl)) rfl)
    (ss_one (ss_ret (se_ix (hu65 hr) (se_n 0 rfl (by first | exact .inl rfl | exact .inr (.inl rfl) | exact .inr (.inr rfl)) rfl rfl) (se_n 1 rfl (by first | exact .inl rfl | exact .inr (.inl rfl) | exact .inr (.inr rfl)) rfl rfl) (fun _ _ => rfl))))
    ss_nil)
  (ss_cons (ss_asg (i := 2) nd rfl (by first | exact .inl rfl | exact .inr rfl) se_int rfl (by first | exact .inl rfl | exact .inr rfl))
  (ss_cons (ss_if (st_cmp bin_gt (se_len hB rfl rfl (se_n 0 rfl (by first | exact .inl rfl | exact .inr (.inl rfl) | exact .inr (.inr rfl)) rfl rfl)) se_int rfl)
    (ss_one (ss_asg (i := 2) nd rfl (by first | exact .inl rfl | exact .inr rfl) (se_ix (hu65 hr) (se_n 0 rfl (by first | exact .inl rfl | exact .inr (.inl rfl) | exact .inr (.inr rfl)) rfl rfl) (se_bin bin_mod (se_n 1 rfl (by first | exact .inl rfl | exact .inr (.inl rfl) | exact .inr (.inr rfl)) rfl rfl) (se_len hB rfl rfl (se_n 0 rfl (by first | exact .inl rfl | exact .inr (.inl rfl) | exact .inr (.inr rfl)) rfl rfl))) (fun _ _ => rfl)) rfl (by first | exact .inl rfl | exact .inr rfl)))
    ss_nil)
  (ss_one (ss_ret (se_bin bin_add (se_bin bin_mul se_int (se_c c__law_mix hG hr tk rfl rfl rfl rfl (sa_c rfl (se_n 2 rfl (by first | exact .inl rfl | exact .inr (.inl rfl) | exact .inr (.inr rfl)) rfl rfl) (sa_c rfl (se_n 1 rfl (by first | exact .inl rfl | exact .inr (.inl rfl) | exact .inr (.inr rfl)) rfl rfl) sa_nil)))) se_int))))))
theorem sc__law_drawn : FnScope ["_law_cell_here", "_law_many", "_law_found", "_law_left", "_law_k"] ["_law_cell_here", "_law_many"] (defScope (top 29)) := ⟨rfl, rfl, rfl, by decide +kernel, rfl, by decide +kernel, by decide +kernel⟩
theorem ok__law_drawn {f : Addr} {fd : FuncData} (F : Fun K "_law_drawn" "_law_drawn" (top 29) f fd) (hm : mg "_law_drawn" = some (.ref f)) (hB : Blt mg) (c__law_mix : Callee P w K mg base ca 1 "_law_mix" 2 f_l_mix) : Callee P w K mg base ca 2 "_law_drawn" 2 f_l_drawn := by
  refine ⟨f, fd, ["_law_cell_here", "_law_many"], rfl, efn_body (N := ["_law_cell_here", "_law_many", "_law_found", "_law_left", "_law_k"]) (b := b_l_drawn) F sc__law_drawn fun cdv A outer s H E hg hr => ?_, hm, F.kp, F.binds fun _ _ _ _ _ _ us hl => match us, hl with | [_, _], _ => rfl⟩
  have hG : (cxOf (L2.CX P w) P w K mg base ["_law_cell_here", "_law_many", "_law_found", "_law_left", "_law_k"] "_law_drawn" (defScope (top 29)) f cdv A outer s H E).A.guards = some [] := by
    rw [← hg]; exact deeper_guards _ _
  have tk : Takes (cxOf (L2.CX P w) P w K mg base ["_law_cell_here", "_law_many", "_law_found", "_law_left", "_law_k"] "_law_drawn" (defScope (top 29)) f cdv A outer s H E) (fun cls d _ H => E cls d H) := takes_of rfl rfl rfl rfl
  have nd := sc__law_drawn.nd
  have hp : PassesOwn _ _ _ (cxOf (L2.CX P w) P w K mg base ["_law_cell_here", "_law_many", "_law_found", "_law_left", "_law_k"] "_law_drawn" (defScope (top 29)) f cdv A outer s H E).xe := passes_of rfl
  exact (ss_cons (ss_asg (i := 2) nd rfl (by first | exact .inl rfl | exact .inr rfl) (se_lst sa_nil) rfl (by first | exact .inl rfl | exact .inr rfl))
  (ss_cons (ss_asg (i := 3) nd rfl (by first | exact .inl rfl | exact .inr rfl) (se_bin bin_fdiv (se_n 0 rfl (by first | exact .inl rfl | exact .inr (.inl rfl) | exact .inr (.inr rfl)) rfl rfl) se_int) rfl (by first | exact .inl rfl | exact .inr rfl))
  (ss_cons (ss_for (fg := [4]) hp rfl (si_rng1 rfl hB.range (sa_c rfl (se_n 1 rfl (by first | exact .inl rfl | exact .inr (.inl rfl) | exact .inr (.inr rfl)) rfl rfl) sa_nil) rfl) (sg_name (i := 4) nd rfl (by first | exact .inl rfl | exact .inr rfl) (by first | exact .inl rfl | exact .inr rfl))
    (ss_one (ss_if (st_cmp (bin_eq (hu64 hr)) (se_bin bin_mod (se_n 0 rfl (by first | exact .inl rfl | exact .inr (.inl rfl) | exact .inr (.inr rfl)) rfl rfl) se_int) se_int rfl)
      (ss_cons (ss_expr (se_app (j := 2) rfl (by first | exact .inl rfl | exact .inr (.inl rfl) | exact .inr (.inr rfl)) rfl rfl (se_bin bin_mod (se_n 3 rfl (by first | exact .inl rfl | exact .inr (.inl rfl) | exact .inr (.inr rfl)) rfl rfl) se_int) rfl rfl rfl rfl) rfl)
      (ss_one (ss_asg (i := 3) nd rfl (by first | exact .inl rfl | exact .inr rfl) (se_bin bin_fdiv (se_n 3 rfl (by first | exact .inl rfl | exact .inr (.inl rfl) | exact .inr (.inr rfl)) rfl rfl) se_int) rfl (by first | exact .inl rfl | exact .inr rfl))))
      (ss_one (ss_expr (se_app (j := 2) rfl (by first | exact .inl rfl | exact .inr (.inl rfl) | exact .inr (.inr rfl)) rfl rfl (se_bin bin_mod (se_bin bin_fdiv (se_c c__law_mix hG hr tk rfl rfl rfl rfl (sa_c rfl (se_n 0 rfl (by first | exact .inl rfl | exact .inr (.inl rfl) | exact .inr (.inr rfl)) rfl rfl) (sa_c rfl (se_n 4 rfl (by first | exact .inl rfl | exact .inr (.inl rfl) | exact .inr (.inr rfl)) rfl rfl) sa_nil))) se_int) se_int) rfl rfl rfl rfl) rfl)))) (fun _ => rfl))
  (ss_one (ss_ret (se_n 2 rfl (by first | exact .inl rfl | exact .inr (.inl rfl) | exact .inr (.inr rfl)) rfl rfl))))))
theorem sc__law_is_word : FnScope ["_law_text_here", "_law_stem", "_law_tail", "_law_sign", "_law_number"] ["_law_text_here"] (defScope (top 35)) := ⟨rfl, rfl, rfl, by decide +kernel, rfl, by decide +kernel, by decide +kernel⟩
theorem ok__law_is_word {f : Addr} {fd : FuncData} (F : Fun K "_law_is_word" "_law_is_word" (top 35) f fd) (hm : mg "_law_is_word" = some (.ref f)) (hB : Blt mg) : Callee P w K mg base ca 1 "_law_is_word" 1 f_l_is_word_2 := by
  refine ⟨f, fd, ["_law_text_here"], rfl, efn_body (N := ["_law_text_here", "_law_stem", "_law_tail", "_law_sign", "_law_number"]) (b := b_l_is_word_2) F sc__law_is_word fun cdv A outer s H E hg hr => ?_, hm, F.kp, F.binds fun _ _ _ _ _ _ us hl => match us, hl with | [_], _ => rfl⟩
  have hG : (cxOf (L2.CX P w) P w K mg base ["_law_text_here", "_law_stem", "_law_tail", "_law_sign", "_law_number"] "_law_is_word" (defScope (top 35)) f cdv A outer s H E).A.guards = some [] := by
    rw [← hg]; exact deeper_guards _ _
  have tk : Takes (cxOf (L2.CX P w) P w K mg base ["_law_text_here", "_law_stem", "_law_tail", "_law_sign", "_law_number"] "_law_is_word" (defScope (top 35)) f cdv A outer s H E) (fun cls d _ H => E cls d H) := takes_of rfl rfl rfl rfl
  have nd := sc__law_is_word.nd
  have hp : PassesOwn _ _ _ (cxOf (L2.CX P w) P w K mg base ["_law_text_here", "_law_stem", "_law_tail", "_law_sign", "_law_number"] "_law_is_word" (defScope (top 35)) f cdv A outer s H E).xe := passes_of rfl
  exact (ss_cons (ss_asg (i := 1) nd rfl (by first | exact .inl rfl | exact .inr rfl) (se_ix (hu65 hr) (se_split (se_n 0 rfl (by first | exact .inl rfl | exact .inr (.inl rfl) | exact .inr (.inr rfl)) rfl rfl) se_str rfl rfl rfl) se_int (fun _ _ => rfl)) rfl (by first | exact .inl rfl | exact .inr rfl))
  (ss_cons (ss_asg (i := 2) nd rfl (by first | exact .inl rfl | exact .inr rfl) (se_slice (se_n 0 rfl (by first | exact .inl rfl | exact .inr (.inl rfl) | exact .inr (.inr rfl)) rfl rfl) (so_some (se_len hB rfl rfl (se_n 1 rfl (by first | exact .inl rfl | exact .inr (.inl rfl) | exact .inr (.inr rfl)) rfl rfl))) so_none) rfl (by first | exact .inl rfl | exact .inr rfl))
  (ss_cons (ss_if (PW.pt (st_or (st_cmp bin_lt (se_len hB rfl rfl (se_n 1 rfl (by first | exact .inl rfl | exact .inr (.inl rfl) | exact .inr (.inr rfl)) rfl rfl)) se_int rfl) (st_or1 (st_cmp bin_gt (se_len hB rfl rfl (se_n 1 rfl (by first | exact .inl rfl | exact .inr (.inl rfl) | exact .inr (.inr rfl)) rfl rfl)) se_int rfl))))
    (ss_one (ss_ret se_bl))
    ss_nil)
  (ss_cons (ss_if (PW.pt (st_and (st_cmp (bin_ne (hu64 hr)) (se_n 2 rfl (by first | exact .inl rfl | exact .inr (.inl rfl) | exact .inr (.inr rfl)) rfl rfl) se_str rfl) (st_and1 (st_cmp (bin_notin (hu65 hr)) (se_n 2 rfl (by first | exact .inl rfl | exact .inr (.inl rfl) | exact .inr (.inr rfl)) rfl rfl) (se_lc (own := [("_law_number", 4)]) (by decide) rfl nd (si_rng2 rfl hB.range (sa_c rfl se_int (sa_c rfl se_int sa_nil)) rfl rfl) (by exact blkOk_by (by kernel_rfl)) (fun _ _ _ _ _ => (sg_name (i := 4) nd rfl (by first | exact .inl rfl | exact .inr rfl) (by first | exact .inl rfl | exact .inr rfl))) (fun _ _ _ _ _ => st_yes) (fun _ _ _ _ _ => (se_bin bin_add se_str (se_strC hB rfl rfl (se_n 4 rfl (by first | exact .inl rfl | exact .inr (.inl rfl) | exact .inr (.inr rfl)) rfl rfl)))) (fun _ => rfl)) rfl))))
    (ss_one (ss_ret se_bl))
    ss_nil)
  (ss_one (ss_ret (se_all rfl hB rfl rfl (se_lc (own := [("_law_sign", 3)]) (by decide) rfl nd (si_seq (se_n 1 rfl (by first | exact .inl rfl | exact .inr (.inl rfl) | exact .inr (.inr rfl)) rfl rfl)) (by exact blkOk_by (by kernel_rfl)) (fun _ _ _ _ _ => (sg_name (i := 3) nd rfl (by first | exact .inl rfl | exact .inr rfl) (by first | exact .inl rfl | exact .inr rfl))) (fun _ _ _ _ _ => st_yes) (fun _ _ _ _ _ => (se_chain bin_le bin_le se_str (se_n 3 rfl (by first | exact .inl rfl | exact .inr (.inl rfl) | exact .inr (.inr rfl)) rfl rfl) se_str rfl)) (fun _ => rfl)))))))))
theorem sc__law_read : FnScope ["_law_text_here", "_law_rows", "_law_row", "_law_words", "_law_told_here", "_law_one"] ["_law_text_here"] (defScope (top 40)) := ⟨rfl, rfl, rfl, by decide +kernel, rfl, by decide +kernel, by decide +kernel⟩
theorem ok__law_read {f : Addr} {fd : FuncData} (F : Fun K "_law_read" "_law_read" (top 40) f fd) (hm : mg "_law_read" = some (.ref f)) (hB : Blt mg) (c__law_is_word : Callee P w K mg base ca 1 "_law_is_word" 1 f_l_is_word_2) : Callee P w K mg base ca 2 "_law_read" 1 f_l_read := by
  refine ⟨f, fd, ["_law_text_here"], rfl, efn_body (N := ["_law_text_here", "_law_rows", "_law_row", "_law_words", "_law_told_here", "_law_one"]) (b := b_l_read) F sc__law_read fun cdv A outer s H E hg hr => ?_, hm, F.kp, F.binds fun _ _ _ _ _ _ us hl => match us, hl with | [_], _ => rfl⟩
  have hG : (cxOf (L2.CX P w) P w K mg base ["_law_text_here", "_law_rows", "_law_row", "_law_words", "_law_told_here", "_law_one"] "_law_read" (defScope (top 40)) f cdv A outer s H E).A.guards = some [] := by
    rw [← hg]; exact deeper_guards _ _
  have tk : Takes (cxOf (L2.CX P w) P w K mg base ["_law_text_here", "_law_rows", "_law_row", "_law_words", "_law_told_here", "_law_one"] "_law_read" (defScope (top 40)) f cdv A outer s H E) (fun cls d _ H => E cls d H) := takes_of rfl rfl rfl rfl
  have nd := sc__law_read.nd
  have hp : PassesOwn _ _ _ (cxOf (L2.CX P w) P w K mg base ["_law_text_here", "_law_rows", "_law_row", "_law_words", "_law_told_here", "_law_one"] "_law_read" (defScope (top 40)) f cdv A outer s H E).xe := passes_of rfl
  exact (ss_cons (ss_asg (i := 1) nd rfl (by first | exact .inl rfl | exact .inr rfl) (se_lst sa_nil) rfl (by first | exact .inl rfl | exact .inr rfl))
  (ss_cons (ss_for (fg := [2, 3, 4]) hp rfl (si_seq (se_split (se_n 0 rfl (by first | exact .inl rfl | exact .inr (.inl rfl) | exact .inr (.inr rfl)) rfl rfl) se_str rfl rfl rfl)) (sg_name (i := 2) nd rfl (by first | exact .inl rfl | exact .inr rfl) (by first | exact .inl rfl | exact .inr rfl))
    (ss_cons (ss_asg (i := 3) nd rfl (by first | exact .inl rfl | exact .inr rfl) (se_split (se_n 2 rfl (by first | exact .inl rfl | exact .inr (.inl rfl) | exact .inr (.inr rfl)) rfl rfl) se_str rfl rfl rfl) rfl (by first | exact .inl rfl | exact .inr rfl))
    (ss_cons (ss_if (PW.pt (st_or (st_cmp bin_lt (se_len hB rfl rfl (se_n 3 rfl (by first | exact .inl rfl | exact .inr (.inl rfl) | exact .inr (.inr rfl)) rfl rfl)) se_int rfl) (st_or (st_cmp (bin_ne (hu64 hr)) (se_ix (hu65 hr) (se_n 3 rfl (by first | exact .inl rfl | exact .inr (.inl rfl) | exact .inr (.inr rfl)) rfl rfl) se_int (fun _ _ => rfl)) se_str rfl) (st_or1 (st_not (st_val (se_c c__law_is_word hG hr tk rfl rfl rfl rfl (sa_c rfl (se_ix (hu65 hr) (se_n 3 rfl (by first | exact .inl rfl | exact .inr (.inl rfl) | exact .inr (.inr rfl)) rfl rfl) se_int (fun _ _ => rfl)) sa_nil)) (fun _ => rfl)))))))
      (ss_one (ss_ret se_non))
      ss_nil)
    (ss_cons (ss_asg (i := 4) nd rfl (by first | exact .inl rfl | exact .inr rfl) (se_tuple hB rfl rfl (se_slice (se_n 3 rfl (by first | exact .inl rfl | exact .inr (.inl rfl) | exact .inr (.inr rfl)) rfl rfl) (so_some se_int) so_none)) rfl (by first | exact .inl rfl | exact .inr rfl))
    (ss_cons (ss_if (st_cmp (bin_eq (hu64 hr)) (se_n 4 rfl (by first | exact .inl rfl | exact .inr (.inl rfl) | exact .inr (.inr rfl)) rfl rfl) (se_tup (sa_c rfl se_str sa_nil)) rfl)
      (ss_one (ss_asg (i := 4) nd rfl (by first | exact .inl rfl | exact .inr rfl) (se_tup sa_nil) rfl (by first | exact .inl rfl | exact .inr rfl)))
      ss_nil)
    (ss_cons (ss_if (st_not (st_val (se_all rfl hB rfl rfl (se_lc (own := [("_law_one", 5)]) (by decide) rfl nd (si_seq (se_n 4 rfl (by first | exact .inl rfl | exact .inr (.inl rfl) | exact .inr (.inr rfl)) rfl rfl)) (by exact blkOk_by (by kernel_rfl)) (fun _ _ _ _ _ => (sg_name (i := 5) nd rfl (by first | exact .inl rfl | exact .inr rfl) (by first | exact .inl rfl | exact .inr rfl))) (fun _ _ _ _ _ => st_yes) (fun _ _ _ _ _ => (se_c c__law_is_word hG hr takes0 rfl rfl rfl rfl (sa_c rfl (se_n 5 rfl (by first | exact .inl rfl | exact .inr (.inl rfl) | exact .inr (.inr rfl)) rfl rfl) sa_nil))) (fun _ => rfl))) (fun _ => rfl)))
      (ss_one (ss_ret se_non))
      ss_nil)
    (ss_one (ss_expr (se_app (j := 1) rfl (by first | exact .inl rfl | exact .inr (.inl rfl) | exact .inr (.inr rfl)) rfl rfl (se_tup (sa_c rfl (se_ix (hu65 hr) (se_n 3 rfl (by first | exact .inl rfl | exact .inr (.inl rfl) | exact .inr (.inr rfl)) rfl rfl) se_int (fun _ _ => rfl)) (sa_c rfl (se_n 4 rfl (by first | exact .inl rfl | exact .inr (.inl rfl) | exact .inr (.inr rfl)) rfl rfl) sa_nil))) rfl rfl rfl rfl) rfl))))))) (fun _ => rfl))
  (ss_one (ss_ret (se_tuple hB rfl rfl (se_n 1 rfl (by first | exact .inl rfl | exact .inr (.inl rfl) | exact .inr (.inr rfl)) rfl rfl))))))
theorem sc__law_due : FnScope ["_law_text_here"] ["_law_text_here"] (defScope (top 44)) := ⟨rfl, rfl, rfl, by decide +kernel, rfl, by decide +kernel, by decide +kernel⟩
theorem ok__law_due {f : Addr} {fd : FuncData} (F : Fun K "_law_due" "_law_due" (top 44) f fd) (hm : mg "_law_due" = some (.ref f)) (hB : Blt mg) (c__law_read : Callee P w K mg base ca 2 "_law_read" 1 f_l_read) : Callee P w K mg base ca 3 "_law_due" 1 f_l_due := by
  refine ⟨f, fd, ["_law_text_here"], rfl, efn_body (N := ["_law_text_here"]) (b := b_l_due) F sc__law_due fun cdv A outer s H E hg hr => ?_, hm, F.kp, F.binds fun _ _ _ _ _ _ us hl => match us, hl with | [_], _ => rfl⟩
  have hG : (cxOf (L2.CX P w) P w K mg base ["_law_text_here"] "_law_due" (defScope (top 44)) f cdv A outer s H E).A.guards = some [] := by
    rw [← hg]; exact deeper_guards _ _
  have tk : Takes (cxOf (L2.CX P w) P w K mg base ["_law_text_here"] "_law_due" (defScope (top 44)) f cdv A outer s H E) (fun cls d _ H => E cls d H) := takes_of rfl rfl rfl rfl
  have nd := sc__law_due.nd
  have hp : PassesOwn _ _ _ (cxOf (L2.CX P w) P w K mg base ["_law_text_here"] "_law_due" (defScope (top 44)) f cdv A outer s H E).xe := passes_of rfl
  exact (ss_cons (ss_if (st_cmp (bin_eq (hu64 hr)) (se_n 0 rfl (by first | exact .inl rfl | exact .inr (.inl rfl) | exact .inr (.inr rfl)) rfl rfl) se_str rfl)
    (ss_one (ss_ret (se_tup sa_nil)))
    ss_nil)
  (ss_one (ss_ret (se_c c__law_read hG hr tk rfl rfl rfl rfl (sa_c rfl (se_n 0 rfl (by first | exact .inl rfl | exact .inr (.inl rfl) | exact .inr (.inr rfl)) rfl rfl) sa_nil)))))
theorem sc__law_told : FnScope ["_law_drawn_here", "_law_names_here", "_law_top", "_law_told_here", "_law_k", "_law_one"] ["_law_drawn_here", "_law_names_here"] (defScope (top 32)) := ⟨rfl, rfl, rfl, by decide +kernel, rfl, by decide +kernel, by decide +kernel⟩
theorem ok__law_told {f : Addr} {fd : FuncData} (F : Fun K "_law_told" "_law_told" (top 32) f fd) (hm : mg "_law_told" = some (.ref f)) (hB : Blt mg) : Callee P w K mg base ca 1 "_law_told" 2 f_l_told := by
  refine ⟨f, fd, ["_law_drawn_here", "_law_names_here"], rfl, efn_body (N := ["_law_drawn_here", "_law_names_here", "_law_top", "_law_told_here", "_law_k", "_law_one"]) (b := b_l_told) F sc__law_told fun cdv A outer s H E hg hr => ?_, hm, F.kp, F.binds fun _ _ _ _ _ _ us hl => match us, hl with | [_, _], _ => rfl⟩
  have hG : (cxOf (L2.CX P w) P w K mg base ["_law_drawn_here", "_law_names_here", "_law_top", "_law_told_here", "_law_k", "_law_one"] "_law_told" (defScope (top 32)) f cdv A outer s H E).A.guards = some [] := by
    rw [← hg]; exact deeper_guards _ _
  have tk : Takes (cxOf (L2.CX P w) P w K mg base ["_law_drawn_here", "_law_names_here", "_law_top", "_law_told_here", "_law_k", "_law_one"] "_law_told" (defScope (top 32)) f cdv A outer s H E) (fun cls d _ H => E cls d H) := takes_of rfl rfl rfl rfl
  have nd := sc__law_told.nd
  have hp : PassesOwn _ _ _ (cxOf (L2.CX P w) P w K mg base ["_law_drawn_here", "_law_names_here", "_law_top", "_law_told_here", "_law_k", "_law_one"] "_law_told" (defScope (top 32)) f cdv A outer s H E).xe := passes_of rfl
  exact (ss_cons (ss_asg (i := 2) nd rfl (by first | exact .inl rfl | exact .inr rfl) (se_len hB rfl rfl (se_n 1 rfl (by first | exact .inl rfl | exact .inr (.inl rfl) | exact .inr (.inr rfl)) rfl rfl)) rfl (by first | exact .inl rfl | exact .inr rfl))
  (ss_cons (ss_if (PW.pt (st_and (st_cmp bin_gt (se_bin bin_mod (se_ix (hu65 hr) (se_n 0 rfl (by first | exact .inl rfl | exact .inr (.inl rfl) | exact .inr (.inr rfl)) rfl rfl) se_int (fun _ _ => rfl)) se_int) se_int rfl) (st_and1 (st_cmp bin_gt (se_bin bin_mod (se_ix (hu65 hr) (se_n 0 rfl (by first | exact .inl rfl | exact .inr (.inl rfl) | exact .inr (.inr rfl)) rfl rfl) se_int (fun _ _ => rfl)) (se_len hB rfl rfl (se_n 1 rfl (by first | exact .inl rfl | exact .inr (.inl rfl) | exact .inr (.inr rfl)) rfl rfl))) se_int rfl))))
    (ss_one (ss_asg (i := 2) nd rfl (by first | exact .inl rfl | exact .inr rfl) (se_bin bin_mod (se_ix (hu65 hr) (se_n 0 rfl (by first | exact .inl rfl | exact .inr (.inl rfl) | exact .inr (.inr rfl)) rfl rfl) se_int (fun _ _ => rfl)) (se_len hB rfl rfl (se_n 1 rfl (by first | exact .inl rfl | exact .inr (.inl rfl) | exact .inr (.inr rfl)) rfl rfl))) rfl (by first | exact .inl rfl | exact .inr rfl)))
    ss_nil)
  (ss_cons (ss_asg (i := 3) nd rfl (by first | exact .inl rfl | exact .inr rfl) (se_lst sa_nil) rfl (by first | exact .inl rfl | exact .inr rfl))
  (ss_cons (ss_for (fg := [4, 5]) hp rfl (si_rng1 rfl hB.range (sa_c rfl (se_ix (hu65 hr) (se_lst (sa_c rfl se_int (sa_c rfl se_int (sa_c rfl se_int (sa_c rfl se_int (sa_c rfl se_int (sa_c rfl se_int (sa_c rfl se_int (sa_c rfl se_int (sa_c rfl se_int (sa_c rfl se_int sa_nil))))))))))) (se_bin bin_mod (se_ix (hu65 hr) (se_n 0 rfl (by first | exact .inl rfl | exact .inr (.inl rfl) | exact .inr (.inr rfl)) rfl rfl) se_int (fun _ _ => rfl)) se_int) (fun _ _ => rfl)) sa_nil) rfl) (sg_name (i := 4) nd rfl (by first | exact .inl rfl | exact .inr rfl) (by first | exact .inl rfl | exact .inr rfl))
    (ss_cons (ss_asg (i := 5) nd rfl (by first | exact .inl rfl | exact .inr rfl) (se_ix (hu65 hr) (se_n 1 rfl (by first | exact .inl rfl | exact .inr (.inl rfl) | exact .inr (.inr rfl)) rfl rfl) (se_bin bin_mod (se_ix (hu65 hr) (se_n 0 rfl (by first | exact .inl rfl | exact .inr (.inl rfl) | exact .inr (.inr rfl)) rfl rfl) (se_bin bin_add se_int (se_n 4 rfl (by first | exact .inl rfl | exact .inr (.inl rfl) | exact .inr (.inr rfl)) rfl rfl)) (fun _ _ => rfl)) (se_n 2 rfl (by first | exact .inl rfl | exact .inr (.inl rfl) | exact .inr (.inr rfl)) rfl rfl)) (fun _ _ => rfl)) rfl (by first | exact .inl rfl | exact .inr rfl))
    (ss_one (ss_if (st_cmp (bin_notin (hu65 hr)) (se_n 5 rfl (by first | exact .inl rfl | exact .inr (.inl rfl) | exact .inr (.inr rfl)) rfl rfl) (se_n 3 rfl (by first | exact .inl rfl | exact .inr (.inl rfl) | exact .inr (.inr rfl)) rfl rfl) rfl)
      (ss_one (ss_expr (se_app (j := 3) rfl (by first | exact .inl rfl | exact .inr (.inl rfl) | exact .inr (.inr rfl)) rfl rfl (se_n 5 rfl (by first | exact .inl rfl | exact .inr (.inl rfl) | exact .inr (.inr rfl)) rfl rfl) rfl rfl rfl rfl) rfl))
      ss_nil))) (fun _ => rfl))
  (ss_one (ss_ret (se_tuple hB rfl rfl (se_n 3 rfl (by first | exact .inl rfl | exact .inr (.inl rfl) | exact .inr (.inr rfl)) rfl rfl))))))))
theorem sc__law_book : FnScope ["_law_script", "_law_base", "_law_names_here", "_law_many", "_law_rows", "_law_met", "_law_k", "_law_drawn_here", "_law_row", "_law_key"] ["_law_script", "_law_base", "_law_names_here", "_law_many"] (defScope (top 33)) := ⟨rfl, rfl, rfl, by decide +kernel, rfl, by decide +kernel, by decide +kernel⟩
theorem ok__law_book {f : Addr} {fd : FuncData} (F : Fun K "_law_book" "_law_book" (top 33) f fd) (hm : mg "_law_book" = some (.ref f)) (hB : Blt mg) (c__law_drawn : Callee P w K mg base ca 2 "_law_drawn" 2 f_l_drawn) (c__law_cell : Callee P w K mg base ca 2 "_law_cell" 2 f_l_cell) (c__law_told : Callee P w K mg base ca 2 "_law_told" 2 f_l_told) : Callee P w K mg base ca 3 "_law_book" 4 f_l_book := by
  refine ⟨f, fd, ["_law_script", "_law_base", "_law_names_here", "_law_many"], rfl, efn_body (N := ["_law_script", "_law_base", "_law_names_here", "_law_many", "_law_rows", "_law_met", "_law_k", "_law_drawn_here", "_law_row", "_law_key"]) (b := b_l_book) F sc__law_book fun cdv A outer s H E hg hr => ?_, hm, F.kp, F.binds fun _ _ _ _ _ _ us hl => match us, hl with | [_, _, _, _], _ => rfl⟩
  have hG : (cxOf (L2.CX P w) P w K mg base ["_law_script", "_law_base", "_law_names_here", "_law_many", "_law_rows", "_law_met", "_law_k", "_law_drawn_here", "_law_row", "_law_key"] "_law_book" (defScope (top 33)) f cdv A outer s H E).A.guards = some [] := by
    rw [← hg]; exact deeper_guards _ _
  have tk : Takes (cxOf (L2.CX P w) P w K mg base ["_law_script", "_law_base", "_law_names_here", "_law_many", "_law_rows", "_law_met", "_law_k", "_law_drawn_here", "_law_row", "_law_key"] "_law_book" (defScope (top 33)) f cdv A outer s H E) (fun cls d _ H => E cls d H) := takes_of rfl rfl rfl rfl
  have nd := sc__law_book.nd
  have hp : PassesOwn _ _ _ (cxOf (L2.CX P w) P w K mg base ["_law_script", "_law_base", "_law_names_here", "_law_many", "_law_rows", "_law_met", "_law_k", "_law_drawn_here", "_law_row", "_law_key"] "_law_book" (defScope (top 33)) f cdv A outer s H E).xe := passes_of rfl
  exact (ss_cons (ss_asg (i := 4) nd rfl (by first | exact .inl rfl | exact .inr rfl) (se_lst sa_nil) rfl (by first | exact .inl rfl | exact .inr rfl))
  (ss_cons (ss_asg (i := 5) nd rfl (by first | exact .inl rfl | exact .inr rfl) se_dic0 rfl (by first | exact .inl rfl | exact .inr rfl))
  (ss_cons (ss_for (fg := [6, 7, 8, 9]) hp rfl (si_rng1 rfl hB.range (sa_c rfl (se_n 3 rfl (by first | exact .inl rfl | exact .inr (.inl rfl) | exact .inr (.inr rfl)) rfl rfl) sa_nil) rfl) (sg_name (i := 6) nd rfl (by first | exact .inl rfl | exact .inr rfl) (by first | exact .inl rfl | exact .inr rfl))
    (ss_cons (ss_asg (i := 7) nd rfl (by first | exact .inl rfl | exact .inr rfl) (se_c c__law_drawn hG hr tk rfl rfl rfl rfl (sa_c rfl (se_c c__law_cell hG hr tk rfl rfl rfl rfl (sa_c rfl (se_n 0 rfl (by first | exact .inl rfl | exact .inr (.inl rfl) | exact .inr (.inr rfl)) rfl rfl) (sa_c rfl (se_bin bin_add (se_n 1 rfl (by first | exact .inl rfl | exact .inr (.inl rfl) | exact .inr (.inr rfl)) rfl rfl) (se_n 6 rfl (by first | exact .inl rfl | exact .inr (.inl rfl) | exact .inr (.inr rfl)) rfl rfl)) sa_nil))) (sa_c rfl se_int sa_nil))) rfl (by first | exact .inl rfl | exact .inr rfl))
    (ss_cons (ss_asg (i := 8) nd rfl (by first | exact .inl rfl | exact .inr rfl) (se_tup (sa_c rfl (se_ix (hu65 hr) (se_n 2 rfl (by first | exact .inl rfl | exact .inr (.inl rfl) | exact .inr (.inr rfl)) rfl rfl) (se_bin bin_mod (se_ix (hu65 hr) (se_n 7 rfl (by first | exact .inl rfl | exact .inr (.inl rfl) | exact .inr (.inr rfl)) rfl rfl) se_int (fun _ _ => rfl)) (se_len hB rfl rfl (se_n 2 rfl (by first | exact .inl rfl | exact .inr (.inl rfl) | exact .inr (.inr rfl)) rfl rfl))) (fun _ _ => rfl)) (sa_c rfl (se_c c__law_told hG hr tk rfl rfl rfl rfl (sa_c rfl (se_n 7 rfl (by first | exact .inl rfl | exact .inr (.inl rfl) | exact .inr (.inr rfl)) rfl rfl) (sa_c rfl (se_n 2 rfl (by first | exact .inl rfl | exact .inr (.inl rfl) | exact .inr (.inr rfl)) rfl rfl) sa_nil))) sa_nil))) rfl (by first | exact .inl rfl | exact .inr rfl))
    (ss_cons (ss_asg (i := 9) nd rfl (by first | exact .inl rfl | exact .inr rfl) (se_tup (sa_c rfl (se_ix (hu65 hr) (se_n 8 rfl (by first | exact .inl rfl | exact .inr (.inl rfl) | exact .inr (.inr rfl)) rfl rfl) se_int (fun _ _ => rfl)) (sa_c rfl (se_tuple hB rfl rfl (se_sorted rfl hr hB rfl rfl (se_ix (hu65 hr) (se_n 8 rfl (by first | exact .inl rfl | exact .inr (.inl rfl) | exact .inr (.inr rfl)) rfl rfl) se_int (fun _ _ => rfl)))) sa_nil))) rfl (by first | exact .inl rfl | exact .inr rfl))
    (ss_one (ss_if (st_cmp (bin_notin (hu65 hr)) (se_n 9 rfl (by first | exact .inl rfl | exact .inr (.inl rfl) | exact .inr (.inr rfl)) rfl rfl) (se_n 5 rfl (by first | exact .inl rfl | exact .inr (.inl rfl) | exact .inr (.inr rfl)) rfl rfl) rfl)
      (ss_cons (ss_put (i := 5) (hu65 hr) rfl (by first | exact .inl rfl | exact .inr (.inl rfl) | exact .inr (.inr rfl)) rfl rfl (se_n 9 rfl (by first | exact .inl rfl | exact .inr (.inl rfl) | exact .inr (.inr rfl)) rfl rfl) se_bl rfl rfl rfl (fun _ => rfl))
      (ss_one (ss_expr (se_app (j := 4) rfl (by first | exact .inl rfl | exact .inr (.inl rfl) | exact .inr (.inr rfl)) rfl rfl (se_n 8 rfl (by first | exact .inl rfl | exact .inr (.inl rfl) | exact .inr (.inr rfl)) rfl rfl) rfl rfl rfl rfl) rfl)))
      ss_nil))))) (fun _ => rfl))
  (ss_one (ss_ret (se_tuple hB rfl rfl (se_n 4 rfl (by first | exact .inl rfl | exact .inr (.inl rfl) | exact .inr (.inr rfl)) rfl rfl)))))))
theorem sc__law_name : FnScope ["_law_drawn_here", "_law_names_here", "_law_letters", "_law_name_here", "_law_spare", "_law_stem", "_law_k", "_law_one"] ["_law_drawn_here", "_law_names_here"] (defScope (top 30)) := ⟨rfl, rfl, rfl, by decide +kernel, rfl, by decide +kernel, by decide +kernel⟩
theorem ok__law_name {f : Addr} {fd : FuncData} (F : Fun K "_law_name" "_law_name" (top 30) f fd) (hm : mg "_law_name" = some (.ref f)) (hB : Blt mg) : Callee P w K mg base ca 1 "_law_name" 2 f_l_name := by
  refine ⟨f, fd, ["_law_drawn_here", "_law_names_here"], rfl, efn_body (N := ["_law_drawn_here", "_law_names_here", "_law_letters", "_law_name_here", "_law_spare", "_law_stem", "_law_k", "_law_one"]) (b := b_l_name) F sc__law_name fun cdv A outer s H E hg hr => ?_, hm, F.kp, F.binds fun _ _ _ _ _ _ us hl => match us, hl with | [_, _], _ => rfl⟩
  have hG : (cxOf (L2.CX P w) P w K mg base ["_law_drawn_here", "_law_names_here", "_law_letters", "_law_name_here", "_law_spare", "_law_stem", "_law_k", "_law_one"] "_law_name" (defScope (top 30)) f cdv A outer s H E).A.guards = some [] := by
    rw [← hg]; exact deeper_guards _ _
  have tk : Takes (cxOf (L2.CX P w) P w K mg base ["_law_drawn_here", "_law_names_here", "_law_letters", "_law_name_here", "_law_spare", "_law_stem", "_law_k", "_law_one"] "_law_name" (defScope (top 30)) f cdv A outer s H E) (fun cls d _ H => E cls d H) := takes_of rfl rfl rfl rfl
  have nd := sc__law_name.nd
  have hp : PassesOwn _ _ _ (cxOf (L2.CX P w) P w K mg base ["_law_drawn_here", "_law_names_here", "_law_letters", "_law_name_here", "_law_spare", "_law_stem", "_law_k", "_law_one"] "_law_name" (defScope (top 30)) f cdv A outer s H E).xe := passes_of rfl
  exact (ss_cons (ss_asg (i := 2) nd rfl (by first | exact .inl rfl | exact .inr rfl) se_str rfl (by first | exact .inl rfl | exact .inr rfl))
  (ss_cons (ss_asg (i := 3) nd rfl (by first | exact .inl rfl | exact .inr rfl) (se_join se_str (se_lc (own := [("_law_k", 6)]) (by decide) rfl nd (si_rng1 rfl hB.range (sa_c rfl (se_bin bin_add se_int (se_bin bin_mod (se_ix (hu65 hr) (se_n 0 rfl (by first | exact .inl rfl | exact .inr (.inl rfl) | exact .inr (.inr rfl)) rfl rfl) se_int (fun _ _ => rfl)) se_int)) sa_nil) rfl) (by exact blkOk_by (by kernel_rfl)) (fun _ _ _ _ _ => (sg_name (i := 6) nd rfl (by first | exact .inl rfl | exact .inr rfl) (by first | exact .inl rfl | exact .inr rfl))) (fun _ _ _ _ _ => st_yes) (fun _ _ _ _ _ => (se_ix (hu65 hr) (se_n 2 rfl (by first | exact .inl rfl | exact .inr (.inl rfl) | exact .inr (.inr rfl)) rfl rfl) (se_bin bin_mod (se_ix (hu65 hr) (se_n 0 rfl (by first | exact .inl rfl | exact .inr (.inl rfl) | exact .inr (.inr rfl)) rfl rfl) (se_bin bin_add se_int (se_n 6 rfl (by first | exact .inl rfl | exact .inr (.inl rfl) | exact .inr (.inr rfl)) rfl rfl)) (fun _ _ => rfl)) se_int) (fun _ _ => rfl))) (fun _ => rfl)) rfl rfl rfl) rfl (by first | exact .inl rfl | exact .inr rfl))
  (ss_cons (ss_if (st_cmp bin_gt (se_len hB rfl rfl (se_n 1 rfl (by first | exact .inl rfl | exact .inr (.inl rfl) | exact .inr (.inr rfl)) rfl rfl)) se_int rfl)
    (ss_cons (ss_asg (i := 5) nd rfl (by first | exact .inl rfl | exact .inr rfl) (se_ix (hu65 hr) (se_split (se_ix (hu65 hr) (se_n 1 rfl (by first | exact .inl rfl | exact .inr (.inl rfl) | exact .inr (.inr rfl)) rfl rfl) (se_bin bin_mod (se_ix (hu65 hr) (se_n 0 rfl (by first | exact .inl rfl | exact .inr (.inl rfl) | exact .inr (.inr rfl)) rfl rfl) se_int (fun _ _ => rfl)) (se_len hB rfl rfl (se_n 1 rfl (by first | exact .inl rfl | exact .inr (.inl rfl) | exact .inr (.inr rfl)) rfl rfl))) (fun _ _ => rfl)) se_str rfl rfl rfl) se_int (fun _ _ => rfl)) rfl (by first | exact .inl rfl | exact .inr rfl))
    (ss_cons (ss_if (st_cmp (bin_eq (hu64 hr)) (se_bin bin_mod (se_ix (hu65 hr) (se_n 0 rfl (by first | exact .inl rfl | exact .inr (.inl rfl) | exact .inr (.inr rfl)) rfl rfl) se_int (fun _ _ => rfl)) se_int) se_int rfl)
      (ss_one (ss_asg (i := 3) nd rfl (by first | exact .inl rfl | exact .inr rfl) (se_slice (se_bin bin_add (se_n 5 rfl (by first | exact .inl rfl | exact .inr (.inl rfl) | exact .inr (.inr rfl)) rfl rfl) (se_n 3 rfl (by first | exact .inl rfl | exact .inr (.inl rfl) | exact .inr (.inr rfl)) rfl rfl)) so_none (so_some se_int)) rfl (by first | exact .inl rfl | exact .inr rfl)))
      ss_nil)
    (ss_one (ss_if (st_cmp (bin_eq (hu64 hr)) (se_bin bin_mod (se_ix (hu65 hr) (se_n 0 rfl (by first | exact .inl rfl | exact .inr (.inl rfl) | exact .inr (.inr rfl)) rfl rfl) se_int (fun _ _ => rfl)) se_int) se_int rfl)
      (ss_one (ss_asg (i := 3) nd rfl (by first | exact .inl rfl | exact .inr rfl) (se_bin bin_add (se_bin bin_add (se_n 5 rfl (by first | exact .inl rfl | exact .inr (.inl rfl) | exact .inr (.inr rfl)) rfl rfl) se_str) (se_strC hB rfl rfl (se_bin bin_add se_int (se_bin bin_mod (se_ix (hu65 hr) (se_n 0 rfl (by first | exact .inl rfl | exact .inr (.inl rfl) | exact .inr (.inr rfl)) rfl rfl) se_int (fun _ _ => rfl)) se_int)))) rfl (by first | exact .inl rfl | exact .inr rfl)))
      ss_nil))))
    ss_nil)
  (ss_cons (ss_asg (i := 4) nd rfl (by first | exact .inl rfl | exact .inr rfl) (se_bin bin_add (se_lst (sa_c rfl (se_n 3 rfl (by first | exact .inl rfl | exact .inr (.inl rfl) | exact .inr (.inr rfl)) rfl rfl) sa_nil)) (se_lc (own := [("_law_k", 6)]) (by decide) rfl nd (si_rng1 rfl hB.range (sa_c rfl se_int sa_nil) rfl) (by exact blkOk_by (by kernel_rfl)) (fun _ _ _ _ _ => (sg_name (i := 6) nd rfl (by first | exact .inl rfl | exact .inr rfl) (by first | exact .inl rfl | exact .inr rfl))) (fun _ _ _ _ _ => st_yes) (fun _ _ _ _ _ => (se_bin bin_add (se_ix (hu65 hr) (se_n 2 rfl (by first | exact .inl rfl | exact .inr (.inl rfl) | exact .inr (.inr rfl)) rfl rfl) (se_bin bin_fdiv (se_n 6 rfl (by first | exact .inl rfl | exact .inr (.inl rfl) | exact .inr (.inr rfl)) rfl rfl) se_int) (fun _ _ => rfl)) (se_ix (hu65 hr) (se_n 2 rfl (by first | exact .inl rfl | exact .inr (.inl rfl) | exact .inr (.inr rfl)) rfl rfl) (se_bin bin_mod (se_n 6 rfl (by first | exact .inl rfl | exact .inr (.inl rfl) | exact .inr (.inr rfl)) rfl rfl) se_int) (fun _ _ => rfl)))) (fun _ => rfl))) rfl (by first | exact .inl rfl | exact .inr rfl))
  (ss_one (ss_ret (se_ix (hu65 hr) (se_lc (own := [("_law_one", 7)]) (by decide) rfl nd (si_seq (se_n 4 rfl (by first | exact .inl rfl | exact .inr (.inl rfl) | exact .inr (.inr rfl)) rfl rfl)) (by exact blkOk_by (by kernel_rfl)) (fun _ _ _ _ _ => (sg_name (i := 7) nd rfl (by first | exact .inl rfl | exact .inr rfl) (by first | exact .inl rfl | exact .inr rfl))) (fun _ _ _ _ _ => (st_ifone (st_cmp (bin_notin (hu65 hr)) (se_n 7 rfl (by first | exact .inl rfl | exact .inr (.inl rfl) | exact .inr (.inr rfl)) rfl rfl) (se_n 1 rfl (by first | exact .inl rfl | exact .inr (.inl rfl) | exact .inr (.inr rfl)) rfl rfl) rfl))) (fun _ _ _ _ _ => (se_n 7 rfl (by first | exact .inl rfl | exact .inr (.inl rfl) | exact .inr (.inr rfl)) rfl rfl)) (fun _ => rfl)) se_int (fun _ _ => rfl))))))))
theorem sc__law_names : FnScope ["_law_script", "_law_base", "_law_many", "_law_names_here", "_law_k"] ["_law_script", "_law_base", "_law_many"] (defScope (top 31)) := ⟨rfl, rfl, rfl, by decide +kernel, rfl, by decide +kernel, by decide +kernel⟩
theorem ok__law_names {f : Addr} {fd : FuncData} (F : Fun K "_law_names" "_law_names" (top 31) f fd) (hm : mg "_law_names" = some (.ref f)) (hB : Blt mg) (c__law_name : Callee P w K mg base ca 2 "_law_name" 2 f_l_name) (c__law_drawn : Callee P w K mg base ca 2 "_law_drawn" 2 f_l_drawn) (c__law_cell : Callee P w K mg base ca 2 "_law_cell" 2 f_l_cell) : Callee P w K mg base ca 3 "_law_names" 3 f_l_names := by
  refine ⟨f, fd, ["_law_script", "_law_base", "_law_many"], rfl, efn_body (N := ["_law_script", "_law_base", "_law_many", "_law_names_here", "_law_k"]) (b := b_l_names) F sc__law_names fun cdv A outer s H E hg hr => ?_, hm, F.kp, F.binds fun _ _ _ _ _ _ us hl => match us, hl with | [_, _, _], _ => rfl⟩
  have hG : (cxOf (L2.CX P w) P w K mg base ["_law_script", "_law_base", "_law_many", "_law_names_here", "_law_k"] "_law_names" (defScope (top 31)) f cdv A outer s H E).A.guards = some [] := by
    rw [← hg]; exact deeper_guards _ _
  have tk : Takes (cxOf (L2.CX P w) P w K mg base ["_law_script", "_law_base", "_law_many", "_law_names_here", "_law_k"] "_law_names" (defScope (top 31)) f cdv A outer s H E) (fun cls d _ H => E cls d H) := takes_of rfl rfl rfl rfl
  have nd := sc__law_names.nd
  have hp : PassesOwn _ _ _ (cxOf (L2.CX P w) P w K mg base ["_law_script", "_law_base", "_law_many", "_law_names_here", "_law_k"] "_law_names" (defScope (top 31)) f cdv A outer s H E).xe := passes_of rfl
  exact (ss_cons (ss_asg (i := 3) nd rfl (by first | exact .inl rfl | exact .inr rfl) (se_lst sa_nil) rfl (by first | exact .inl rfl | exact .inr rfl))
  (ss_cons (ss_for (fg := [4]) hp rfl (si_rng1 rfl hB.range (sa_c rfl (se_n 2 rfl (by first | exact .inl rfl | exact .inr (.inl rfl) | exact .inr (.inr rfl)) rfl rfl) sa_nil) rfl) (sg_name (i := 4) nd rfl (by first | exact .inl rfl | exact .inr rfl) (by first | exact .inl rfl | exact .inr rfl))
    (ss_one (ss_expr (se_app (j := 3) rfl (by first | exact .inl rfl | exact .inr (.inl rfl) | exact .inr (.inr rfl)) rfl rfl (se_c c__law_name hG hr tk rfl rfl rfl rfl (sa_c rfl (se_c c__law_drawn hG hr tk rfl rfl rfl rfl (sa_c rfl (se_c c__law_cell hG hr tk rfl rfl rfl rfl (sa_c rfl (se_n 0 rfl (by first | exact .inl rfl | exact .inr (.inl rfl) | exact .inr (.inr rfl)) rfl rfl) (sa_c rfl (se_bin bin_add (se_n 1 rfl (by first | exact .inl rfl | exact .inr (.inl rfl) | exact .inr (.inr rfl)) rfl rfl) (se_n 4 rfl (by first | exact .inl rfl | exact .inr (.inl rfl) | exact .inr (.inr rfl)) rfl rfl)) sa_nil))) (sa_c rfl se_int sa_nil))) (sa_c rfl (se_n 3 rfl (by first | exact .inl rfl | exact .inr (.inl rfl) | exact .inr (.inr rfl)) rfl rfl) sa_nil))) rfl rfl rfl rfl) rfl)) (fun _ => rfl))
  (ss_one (ss_ret (se_n 3 rfl (by first | exact .inl rfl | exact .inr (.inl rfl) | exact .inr (.inr rfl)) rfl rfl)))))
theorem sc__law_made : FnScope ["_law_script", "_law_drawn_here", "_law_names_here"] ["_law_script"] (defScope (top 34)) := ⟨rfl, rfl, rfl, by decide +kernel, rfl, by decide +kernel, by decide +kernel⟩
theorem ok__law_made {f : Addr} {fd : FuncData} (F : Fun K "_law_made" "_law_made" (top 34) f fd) (hm : mg "_law_made" = some (.ref f)) (hB : Blt mg) (c__law_drawn : Callee P w K mg base ca 3 "_law_drawn" 2 f_l_drawn) (c__law_cell : Callee P w K mg base ca 3 "_law_cell" 2 f_l_cell) (c__law_names : Callee P w K mg base ca 3 "_law_names" 3 f_l_names) (c__law_book : Callee P w K mg base ca 3 "_law_book" 4 f_l_book) : Callee P w K mg base ca 4 "_law_made" 1 f_l_made := by
  refine ⟨f, fd, ["_law_script"], rfl, efn_body (N := ["_law_script", "_law_drawn_here", "_law_names_here"]) (b := b_l_made) F sc__law_made fun cdv A outer s H E hg hr => ?_, hm, F.kp, F.binds fun _ _ _ _ _ _ us hl => match us, hl with | [_], _ => rfl⟩
  have hG : (cxOf (L2.CX P w) P w K mg base ["_law_script", "_law_drawn_here", "_law_names_here"] "_law_made" (defScope (top 34)) f cdv A outer s H E).A.guards = some [] := by
    rw [← hg]; exact deeper_guards _ _
  have tk : Takes (cxOf (L2.CX P w) P w K mg base ["_law_script", "_law_drawn_here", "_law_names_here"] "_law_made" (defScope (top 34)) f cdv A outer s H E) (fun cls d _ H => E cls d H) := takes_of rfl rfl rfl rfl
  have nd := sc__law_made.nd
  have hp : PassesOwn _ _ _ (cxOf (L2.CX P w) P w K mg base ["_law_script", "_law_drawn_here", "_law_names_here"] "_law_made" (defScope (top 34)) f cdv A outer s H E).xe := passes_of rfl
  exact (ss_cons (ss_asg (i := 1) nd rfl (by first | exact .inl rfl | exact .inr rfl) (se_c c__law_drawn hG hr tk rfl rfl rfl rfl (sa_c rfl (se_c c__law_cell hG hr tk rfl rfl rfl rfl (sa_c rfl (se_n 0 rfl (by first | exact .inl rfl | exact .inr (.inl rfl) | exact .inr (.inr rfl)) rfl rfl) (sa_c rfl se_int sa_nil))) (sa_c rfl se_int sa_nil))) rfl (by first | exact .inl rfl | exact .inr rfl))
  (ss_cons (ss_asg (i := 2) nd rfl (by first | exact .inl rfl | exact .inr rfl) (se_c c__law_names hG hr tk rfl rfl rfl rfl (sa_c rfl (se_n 0 rfl (by first | exact .inl rfl | exact .inr (.inl rfl) | exact .inr (.inr rfl)) rfl rfl) (sa_c rfl se_int (sa_c rfl (se_bin bin_add se_int (se_bin bin_mod (se_ix (hu65 hr) (se_n 1 rfl (by first | exact .inl rfl | exact .inr (.inl rfl) | exact .inr (.inr rfl)) rfl rfl) se_int (fun _ _ => rfl)) se_int)) sa_nil)))) rfl (by first | exact .inl rfl | exact .inr rfl))
  (ss_one (ss_ret (se_c c__law_book hG hr tk rfl rfl rfl rfl (sa_c rfl (se_n 0 rfl (by first | exact .inl rfl | exact .inr (.inl rfl) | exact .inr (.inr rfl)) rfl rfl) (sa_c rfl se_int (sa_c rfl (se_n 2 rfl (by first | exact .inl rfl | exact .inr (.inl rfl) | exact .inr (.inr rfl)) rfl rfl) (sa_c rfl (se_bin bin_mod (se_ix (hu65 hr) (se_n 1 rfl (by first | exact .inl rfl | exact .inr (.inl rfl) | exact .inr (.inr rfl)) rfl rfl) se_int (fun _ _ => rfl)) se_int) sa_nil)))))))))
theorem sc__law_fit : FnScope ["_law_book_here", "_law_seen", "_law_word", "_law_told_here", "_law_key", "_law_one"] ["_law_book_here"] (defScope (top 36)) := ⟨rfl, rfl, rfl, by decide +kernel, rfl, by decide +kernel, by decide +kernel⟩
theorem ok__law_fit {f : Addr} {fd : FuncData} (F : Fun K "_law_fit" "_law_fit" (top 36) f fd) (hm : mg "_law_fit" = some (.ref f)) (hB : Blt mg) (c__law_is_word : Callee P w K mg base ca 1 "_law_is_word" 1 f_l_is_word_2) : Callee P w K mg base ca 2 "_law_fit" 1 f_l_fit_2 := by
  refine ⟨f, fd, ["_law_book_here"], rfl, efn_body (N := ["_law_book_here", "_law_seen", "_law_word", "_law_told_here", "_law_key", "_law_one"]) (b := b_l_fit_2) F sc__law_fit fun cdv A outer s H E hg hr => ?_, hm, F.kp, F.binds fun _ _ _ _ _ _ us hl => match us, hl with | [_], _ => rfl⟩
  have hG : (cxOf (L2.CX P w) P w K mg base ["_law_book_here", "_law_seen", "_law_word", "_law_told_here", "_law_key", "_law_one"] "_law_fit" (defScope (top 36)) f cdv A outer s H E).A.guards = some [] := by
    rw [← hg]; exact deeper_guards _ _
  have tk : Takes (cxOf (L2.CX P w) P w K mg base ["_law_book_here", "_law_seen", "_law_word", "_law_told_here", "_law_key", "_law_one"] "_law_fit" (defScope (top 36)) f cdv A outer s H E) (fun cls d _ H => E cls d H) := takes_of rfl rfl rfl rfl
  have nd := sc__law_fit.nd
  have hp : PassesOwn _ _ _ (cxOf (L2.CX P w) P w K mg base ["_law_book_here", "_law_seen", "_law_word", "_law_told_here", "_law_key", "_law_one"] "_law_fit" (defScope (top 36)) f cdv A outer s H E).xe := passes_of rfl
  exact (ss_cons (ss_asg (i := 1) nd rfl (by first | exact .inl rfl | exact .inr rfl) (se_lst sa_nil) rfl (by first | exact .inl rfl | exact .inr rfl))
  (ss_cons (ss_for (fg := [2, 3, 4]) hp rfl (si_seq (se_n 0 rfl (by first | exact .inl rfl | exact .inr (.inl rfl) | exact .inr (.inr rfl)) rfl rfl)) (sg_tup rfl (sg_cons (pg_name (i := 2) nd rfl (by first | exact .inl rfl | exact .inr rfl) (by first | exact .inl rfl | exact .inr rfl)) (sg_cons (pg_name (i := 3) nd rfl (by first | exact .inl rfl | exact .inr rfl) (by first | exact .inl rfl | exact .inr rfl)) sg_nil rfl) rfl) rfl rfl)
    (ss_cons (ss_asg (i := 4) nd rfl (by first | exact .inl rfl | exact .inr rfl) (se_tup (sa_c rfl (se_n 2 rfl (by first | exact .inl rfl | exact .inr (.inl rfl) | exact .inr (.inr rfl)) rfl rfl) (sa_c rfl (se_sorted rfl hr hB rfl rfl (se_n 3 rfl (by first | exact .inl rfl | exact .inr (.inl rfl) | exact .inr (.inr rfl)) rfl rfl)) sa_nil))) rfl (by first | exact .inl rfl | exact .inr rfl))
    (ss_cons (ss_if (PW.pt (st_or (st_cmp (bin_in (hu65 hr)) (se_n 4 rfl (by first | exact .inl rfl | exact .inr (.inl rfl) | exact .inr (.inr rfl)) rfl rfl) (se_n 1 rfl (by first | exact .inl rfl | exact .inr (.inl rfl) | exact .inr (.inr rfl)) rfl rfl) rfl) (st_or (st_cmp bin_gt (se_len hB rfl rfl (se_n 3 rfl (by first | exact .inl rfl | exact .inr (.inl rfl) | exact .inr (.inr rfl)) rfl rfl)) se_int rfl) (st_or1 (st_cmp (bin_ne (hu64 hr)) (se_len hB rfl rfl (se_setC rfl hr hB rfl rfl (se_n 3 rfl (by first | exact .inl rfl | exact .inr (.inl rfl) | exact .inr (.inr rfl)) rfl rfl))) (se_len hB rfl rfl (se_n 3 rfl (by first | exact .inl rfl | exact .inr (.inl rfl) | exact .inr (.inr rfl)) rfl rfl)) rfl)))))
      (ss_one (ss_ret se_bl))
      ss_nil)
    (ss_cons (ss_if (st_not (st_val (se_all rfl hB rfl rfl (se_lc (own := [("_law_one", 5)]) (by decide) rfl nd (si_seq (se_bin bin_add (se_tup (sa_c rfl (se_n 2 rfl (by first | exact .inl rfl | exact .inr (.inl rfl) | exact .inr (.inr rfl)) rfl rfl) sa_nil)) (se_n 3 rfl (by first | exact .inl rfl | exact .inr (.inl rfl) | exact .inr (.inr rfl)) rfl rfl))) (by exact blkOk_by (by kernel_rfl)) (fun _ _ _ _ _ => (sg_name (i := 5) nd rfl (by first | exact .inl rfl | exact .inr rfl) (by first | exact .inl rfl | exact .inr rfl))) (fun _ _ _ _ _ => st_yes) (fun _ _ _ _ _ => (se_c c__law_is_word hG hr takes0 rfl rfl rfl rfl (sa_c rfl (se_n 5 rfl (by first | exact .inl rfl | exact .inr (.inl rfl) | exact .inr (.inr rfl)) rfl rfl) sa_nil))) (fun _ => rfl))) (fun _ => rfl)))
      (ss_one (ss_ret se_bl))
      ss_nil)
    (ss_one (ss_expr (se_app (j := 1) rfl (by first | exact .inl rfl | exact .inr (.inl rfl) | exact .inr (.inr rfl)) rfl rfl (se_n 4 rfl (by first | exact .inl rfl | exact .inr (.inl rfl) | exact .inr (.inr rfl)) rfl rfl) rfl rfl rfl rfl) rfl))))) (fun _ => rfl))
  (ss_one (ss_ret (se_cmp bin_le (se_len hB rfl rfl (se_n 0 rfl (by first | exact .inl rfl | exact .inr (.inl rfl) | exact .inr (.inr rfl)) rfl rfl)) se_int rfl)))))
theorem sc__law_kinds : FnScope ["_law_e"] ["_law_e"] (defScope (top 37)) := ⟨rfl, rfl, rfl, by decide +kernel, rfl, by decide +kernel, by decide +kernel⟩
theorem ok__law_kinds {f : Addr} {fd : FuncData} (F : Fun K "_law_kinds" "_law_kinds" (top 37) f fd) (hm : mg "_law_kinds" = some (.ref f)) (hB : Blt mg) (hX : Xf K mg ca [0, 1, 2, 3, 4, 5, 6, 7, 8]) : Callee P w K mg base ca 1 "_law_kinds" 1 f_l_kinds_3 := by
  refine ⟨f, fd, ["_law_e"], rfl, efn_body (N := ["_law_e"]) (b := b_l_kinds_3) F sc__law_kinds fun cdv A outer s H E hg hr => ?_, hm, F.kp, F.binds fun _ _ _ _ _ _ us hl => match us, hl with | [_], _ => rfl⟩
  have hG : (cxOf (L2.CX P w) P w K mg base ["_law_e"] "_law_kinds" (defScope (top 37)) f cdv A outer s H E).A.guards = some [] := by
    rw [← hg]; exact deeper_guards _ _
  have tk : Takes (cxOf (L2.CX P w) P w K mg base ["_law_e"] "_law_kinds" (defScope (top 37)) f cdv A outer s H E) (fun cls d _ H => E cls d H) := takes_of rfl rfl rfl rfl
  have nd := sc__law_kinds.nd
  have hp : PassesOwn _ _ _ (cxOf (L2.CX P w) P w K mg base ["_law_e"] "_law_kinds" (defScope (top 37)) f cdv A outer s H E).xe := passes_of rfl
  exact (ss_one (ss_ret (se_lst (sa_c rfl (se_isX hX 0 (by decide) (se_n 0 rfl (by first | exact .inl rfl | exact .inr (.inl rfl) | exact .inr (.inr rfl)) rfl rfl) rfl hB.isi rfl rfl rfl) (sa_c rfl (se_isV hX (se_n 0 rfl (by first | exact .inl rfl | exact .inr (.inl rfl) | exact .inr (.inr rfl)) rfl rfl) rfl hB.isi rfl rfl) (sa_c rfl (se_isX hX 1 (by decide) (se_n 0 rfl (by first | exact .inl rfl | exact .inr (.inl rfl) | exact .inr (.inr rfl)) rfl rfl) rfl hB.isi rfl rfl rfl) (sa_c rfl (se_isX hX 2 (by decide) (se_n 0 rfl (by first | exact .inl rfl | exact .inr (.inl rfl) | exact .inr (.inr rfl)) rfl rfl) rfl hB.isi rfl rfl rfl) (sa_c rfl (se_isX hX 3 (by decide) (se_n 0 rfl (by first | exact .inl rfl | exact .inr (.inl rfl) | exact .inr (.inr rfl)) rfl rfl) rfl hB.isi rfl rfl rfl) (sa_c rfl (se_isX hX 4 (by decide) (se_n 0 rfl (by first | exact .inl rfl | exact .inr (.inl rfl) | exact .inr (.inr rfl)) rfl rfl) rfl hB.isi rfl rfl rfl) (sa_c rfl (se_isX hX 5 (by decide) (se_n 0 rfl (by first | exact .inl rfl | exact .inr (.inl rfl) | exact .inr (.inr rfl)) rfl rfl) rfl hB.isi rfl rfl rfl) (sa_c rfl (se_isX hX 6 (by decide) (se_n 0 rfl (by first | exact .inl rfl | exact .inr (.inl rfl) | exact .inr (.inr rfl)) rfl rfl) rfl hB.isi rfl rfl rfl) (sa_c rfl (se_isX hX 7 (by decide) (se_n 0 rfl (by first | exact .inl rfl | exact .inr (.inl rfl) | exact .inr (.inr rfl)) rfl rfl) rfl hB.isi rfl rfl rfl) (sa_c rfl (se_isX hX 8 (by decide) (se_n 0 rfl (by first | exact .inl rfl | exact .inr (.inl rfl) | exact .inr (.inr rfl)) rfl rfl) rfl hB.isi rfl rfl rfl) sa_nil)))))))))))))
theorem okH__law_kinds {f : Addr} {fd : FuncData} (F : Fun K "_law_kinds" "_law_kinds" (top 37) f fd) (hm : mg "_law_kinds" = some (.ref f)) (hB : Blt mg) (hX : Xf K mg ca [0, 1, 2, 3, 4, 5, 6, 7, 8]) : CalleeH P w K mg base ca 1 "_law_kinds" 1 f_l_kinds_3 := by
  refine ⟨f, fd, ["_law_e"], rfl, efn_bodyH (N := ["_law_e"]) (b := b_l_kinds_3) F sc__law_kinds fun cdv A outer s H E p hg hr => ?_, hm, F.kp, F.binds fun _ _ _ _ _ _ us hl => match us, hl with | [_], _ => rfl⟩
  have hG : (L2H.cxH (L2.CX P w) P w K mg base ["_law_e"] "_law_kinds" (defScope (top 37)) f cdv A outer s H E p).A.guards = some [] := by
    rw [← hg]; exact deeper_guards _ _
  have tk : Takes (L2H.cxH (L2.CX P w) P w K mg base ["_law_e"] "_law_kinds" (defScope (top 37)) f cdv A outer s H E p) (fun cls d _ H => E cls d H) := takes_of rfl rfl rfl rfl
  have nd := sc__law_kinds.nd
  exact (ss_one (ss_ret (se_lst (sa_c rfl (se_isX hX 0 (by decide) (se_n 0 rfl (by first | exact .inl rfl | exact .inr (.inl rfl) | exact .inr (.inr rfl)) rfl rfl) rfl hB.isi rfl rfl rfl) (sa_c rfl (se_isV hX (se_n 0 rfl (by first | exact .inl rfl | exact .inr (.inl rfl) | exact .inr (.inr rfl)) rfl rfl) rfl hB.isi rfl rfl) (sa_c rfl (se_isX hX 1 (by decide) (se_n 0 rfl (by first | exact .inl rfl | exact .inr (.inl rfl) | exact .inr (.inr rfl)) rfl rfl) rfl hB.isi rfl rfl rfl) (sa_c rfl (se_isX hX 2 (by decide) (se_n 0 rfl (by first | exact .inl rfl | exact .inr (.inl rfl) | exact .inr (.inr rfl)) rfl rfl) rfl hB.isi rfl rfl rfl) (sa_c rfl (se_isX hX 3 (by decide) (se_n 0 rfl (by first | exact .inl rfl | exact .inr (.inl rfl) | exact .inr (.inr rfl)) rfl rfl) rfl hB.isi rfl rfl rfl) (sa_c rfl (se_isX hX 4 (by decide) (se_n 0 rfl (by first | exact .inl rfl | exact .inr (.inl rfl) | exact .inr (.inr rfl)) rfl rfl) rfl hB.isi rfl rfl rfl) (sa_c rfl (se_isX hX 5 (by decide) (se_n 0 rfl (by first | exact .inl rfl | exact .inr (.inl rfl) | exact .inr (.inr rfl)) rfl rfl) rfl hB.isi rfl rfl rfl) (sa_c rfl (se_isX hX 6 (by decide) (se_n 0 rfl (by first | exact .inl rfl | exact .inr (.inl rfl) | exact .inr (.inr rfl)) rfl rfl) rfl hB.isi rfl rfl rfl) (sa_c rfl (se_isX hX 7 (by decide) (se_n 0 rfl (by first | exact .inl rfl | exact .inr (.inl rfl) | exact .inr (.inr rfl)) rfl rfl) rfl hB.isi rfl rfl rfl) (sa_c rfl (se_isX hX 8 (by decide) (se_n 0 rfl (by first | exact .inl rfl | exact .inr (.inl rfl) | exact .inr (.inr rfl)) rfl rfl) rfl hB.isi rfl rfl rfl) sa_nil)))))))))))))
theorem sc__law_only : FnScope ["_law_kinds_here", "_law_place", "_law_k"] ["_law_kinds_here", "_law_place"] (defScope (top 38)) := ⟨rfl, rfl, rfl, by decide +kernel, rfl, by decide +kernel, by decide +kernel⟩
theorem ok__law_only {f : Addr} {fd : FuncData} (F : Fun K "_law_only" "_law_only" (top 38) f fd) (hm : mg "_law_only" = some (.ref f)) (hB : Blt mg) : Callee P w K mg base ca 1 "_law_only" 2 f_l_only := by
  refine ⟨f, fd, ["_law_kinds_here", "_law_place"], rfl, efn_body (N := ["_law_kinds_here", "_law_place", "_law_k"]) (b := b_l_only) F sc__law_only fun cdv A outer s H E hg hr => ?_, hm, F.kp, F.binds fun _ _ _ _ _ _ us hl => match us, hl with | [_, _], _ => rfl⟩
  have hG : (cxOf (L2.CX P w) P w K mg base ["_law_kinds_here", "_law_place", "_law_k"] "_law_only" (defScope (top 38)) f cdv A outer s H E).A.guards = some [] := by
    rw [← hg]; exact deeper_guards _ _
  have tk : Takes (cxOf (L2.CX P w) P w K mg base ["_law_kinds_here", "_law_place", "_law_k"] "_law_only" (defScope (top 38)) f cdv A outer s H E) (fun cls d _ H => E cls d H) := takes_of rfl rfl rfl rfl
  have nd := sc__law_only.nd
  have hp : PassesOwn _ _ _ (cxOf (L2.CX P w) P w K mg base ["_law_kinds_here", "_law_place", "_law_k"] "_law_only" (defScope (top 38)) f cdv A outer s H E).xe := passes_of rfl
  exact (ss_one (ss_ret (se_cmp (bin_eq (hu64 hr)) (se_n 0 rfl (by first | exact .inl rfl | exact .inr (.inl rfl) | exact .inr (.inr rfl)) rfl rfl) (se_lc (own := [("_law_k", 2)]) (by decide) rfl nd (si_rng1 rfl hB.range (sa_c rfl se_int sa_nil) rfl) (by exact blkOk_by (by kernel_rfl)) (fun _ _ _ _ _ => (sg_name (i := 2) nd rfl (by first | exact .inl rfl | exact .inr rfl) (by first | exact .inl rfl | exact .inr rfl))) (fun _ _ _ _ _ => st_yes) (fun _ _ _ _ _ => (se_or (se_cmp bin_lt (se_n 2 rfl (by first | exact .inl rfl | exact .inr (.inl rfl) | exact .inr (.inr rfl)) rfl rfl) se_int rfl) (se_one (se_cmp (bin_eq (hu64 hr)) (se_n 2 rfl (by first | exact .inl rfl | exact .inr (.inl rfl) | exact .inr (.inr rfl)) rfl rfl) (se_n 1 rfl (by first | exact .inl rfl | exact .inr (.inl rfl) | exact .inr (.inr rfl)) rfl rfl) rfl)))) (fun _ => rfl)) rfl)))
theorem sc_is_number : FnScope ["text", "sign"] ["text"] (defScope (top 15)) := ⟨rfl, rfl, rfl, by decide +kernel, rfl, by decide +kernel, by decide +kernel⟩
theorem ok_is_number {f : Addr} {fd : FuncData} (F : Fun K "is_number" "is_number" (top 15) f fd) (hm : mg "is_number" = some (.ref f)) (hB : Blt mg) {t_FIGURES : Tok} (k_FIGURES : mg "FIGURES" = some (.str "0123456789" t_FIGURES)) : Callee P w K mg base ca 1 "is_number" 1 f_is_number := by
  refine ⟨f, fd, ["text"], rfl, efn_body (N := ["text", "sign"]) (b := b_is_number) F sc_is_number fun cdv A outer s H E hg hr => ?_, hm, F.kp, F.binds fun _ _ _ _ _ _ us hl => match us, hl with | [_], _ => rfl⟩
  have hG : (cxOf (L2.CX P w) P w K mg base ["text", "sign"] "is_number" (defScope (top 15)) f cdv A outer s H E).A.guards = some [] := by
    rw [← hg]; exact deeper_guards _ _
  have tk : Takes (cxOf (L2.CX P w) P w K mg base ["text", "sign"] "is_number" (defScope (top 15)) f cdv A outer s H E) (fun cls d _ H => E cls d H) := takes_of rfl rfl rfl rfl
  have nd := sc_is_number.nd
  have hp : PassesOwn _ _ _ (cxOf (L2.CX P w) P w K mg base ["text", "sign"] "is_number" (defScope (top 15)) f cdv A outer s H E).xe := passes_of rfl
  exact (ss_cons (ss_if (PW.pt (st_or (st_not (st_chain bin_le bin_le se_int (se_len hB rfl rfl (se_n 0 rfl (by first | exact .inl rfl | exact .inr (.inl rfl) | exact .inr (.inr rfl)) rfl rfl)) se_int rfl)) (st_or1 (st_not (st_val (se_all rfl hB rfl rfl (se_lc (own := [("sign", 1)]) (by decide) rfl nd (si_seq (se_n 0 rfl (by first | exact .inl rfl | exact .inr (.inl rfl) | exact .inr (.inr rfl)) rfl rfl)) (by exact blkOk_by (by kernel_rfl)) (fun _ _ _ _ _ => (sg_name (i := 1) nd rfl (by first | exact .inl rfl | exact .inr rfl) (by first | exact .inl rfl | exact .inr rfl))) (fun _ _ _ _ _ => st_yes) (fun _ _ _ _ _ => (se_cmp (bin_in (hu65 hr)) (se_n 1 rfl (by first | exact .inl rfl | exact .inr (.inl rfl) | exact .inr (.inr rfl)) rfl rfl) (se_glob (v := .str "0123456789") rfl k_FIGURES ⟨_, rfl⟩ rfl (fun _ _ => .str _)) rfl)) (fun _ => rfl))) (fun _ => rfl))))))
    (ss_one (ss_ret se_bl))
    ss_nil)
  (ss_one (ss_ret (se_and (se_cmp (bin_ne (hu64 hr)) (se_ix (hu65 hr) (se_n 0 rfl (by first | exact .inl rfl | exact .inr (.inl rfl) | exact .inr (.inr rfl)) rfl rfl) se_int (fun _ _ => rfl)) se_str rfl) (se_one (se_cmp (bin_ne (hu64 hr)) (se_n 0 rfl (by first | exact .inl rfl | exact .inr (.inl rfl) | exact .inr (.inr rfl)) rfl rfl) se_str rfl))))))
theorem sc_is_stem : FnScope ["text", "sign"] ["text"] (defScope (top 14)) := ⟨rfl, rfl, rfl, by decide +kernel, rfl, by decide +kernel, by decide +kernel⟩
theorem ok_is_stem {f : Addr} {fd : FuncData} (F : Fun K "is_stem" "is_stem" (top 14) f fd) (hm : mg "is_stem" = some (.ref f)) (hB : Blt mg) {t_LETTERS : Tok} (k_LETTERS : mg "LETTERS" = some (.str "abcdefghijklmnopqrstuvwxyz" t_LETTERS)) {t_LONGEST : Tok} (k_LONGEST : mg "LONGEST" = some (.int 8 t_LONGEST)) : Callee P w K mg base ca 1 "is_stem" 1 f_is_stem := by
  refine ⟨f, fd, ["text"], rfl, efn_body (N := ["text", "sign"]) (b := b_is_stem) F sc_is_stem fun cdv A outer s H E hg hr => ?_, hm, F.kp, F.binds fun _ _ _ _ _ _ us hl => match us, hl with | [_], _ => rfl⟩
  have hG : (cxOf (L2.CX P w) P w K mg base ["text", "sign"] "is_stem" (defScope (top 14)) f cdv A outer s H E).A.guards = some [] := by
    rw [← hg]; exact deeper_guards _ _
  have tk : Takes (cxOf (L2.CX P w) P w K mg base ["text", "sign"] "is_stem" (defScope (top 14)) f cdv A outer s H E) (fun cls d _ H => E cls d H) := takes_of rfl rfl rfl rfl
  have nd := sc_is_stem.nd
  have hp : PassesOwn _ _ _ (cxOf (L2.CX P w) P w K mg base ["text", "sign"] "is_stem" (defScope (top 14)) f cdv A outer s H E).xe := passes_of rfl
  exact (ss_one (ss_ret (se_and (se_chain bin_le bin_le se_int (se_len hB rfl rfl (se_n 0 rfl (by first | exact .inl rfl | exact .inr (.inl rfl) | exact .inr (.inr rfl)) rfl rfl)) (se_glob (v := .int 8) rfl k_LONGEST ⟨_, rfl⟩ rfl (fun _ _ => .int _)) rfl) (se_one (se_all rfl hB rfl rfl (se_lc (own := [("sign", 1)]) (by decide) rfl nd (si_seq (se_n 0 rfl (by first | exact .inl rfl | exact .inr (.inl rfl) | exact .inr (.inr rfl)) rfl rfl)) (by exact blkOk_by (by kernel_rfl)) (fun _ _ _ _ _ => (sg_name (i := 1) nd rfl (by first | exact .inl rfl | exact .inr rfl) (by first | exact .inl rfl | exact .inr rfl))) (fun _ _ _ _ _ => st_yes) (fun _ _ _ _ _ => (se_cmp (bin_in (hu65 hr)) (se_n 1 rfl (by first | exact .inl rfl | exact .inr (.inl rfl) | exact .inr (.inr rfl)) rfl rfl) (se_glob (v := .str "abcdefghijklmnopqrstuvwxyz") rfl k_LETTERS ⟨_, rfl⟩ rfl (fun _ _ => .str _)) rfl)) (fun _ => rfl)))))))
theorem sc_is_word : FnScope ["text", "parts"] ["text"] (defScope (top 16)) := ⟨rfl, rfl, rfl, by decide +kernel, rfl, by decide +kernel, by decide +kernel⟩
theorem ok_is_word {f : Addr} {fd : FuncData} (F : Fun K "is_word" "is_word" (top 16) f fd) (hm : mg "is_word" = some (.ref f)) (hB : Blt mg) (c_is_stem : Callee P w K mg base ca 1 "is_stem" 1 f_is_stem) (c_is_number : Callee P w K mg base ca 1 "is_number" 1 f_is_number) : Callee P w K mg base ca 2 "is_word" 1 f_is_word := by
  refine ⟨f, fd, ["text"], rfl, efn_body (N := ["text", "parts"]) (b := b_is_word) F sc_is_word fun cdv A outer s H E hg hr => ?_, hm, F.kp, F.binds fun _ _ _ _ _ _ us hl => match us, hl with | [_], _ => rfl⟩
  have hG : (cxOf (L2.CX P w) P w K mg base ["text", "parts"] "is_word" (defScope (top 16)) f cdv A outer s H E).A.guards = some [] := by
    rw [← hg]; exact deeper_guards _ _
  have tk : Takes (cxOf (L2.CX P w) P w K mg base ["text", "parts"] "is_word" (defScope (top 16)) f cdv A outer s H E) (fun cls d _ H => E cls d H) := takes_of rfl rfl rfl rfl
  have nd := sc_is_word.nd
  have hp : PassesOwn _ _ _ (cxOf (L2.CX P w) P w K mg base ["text", "parts"] "is_word" (defScope (top 16)) f cdv A outer s H E).xe := passes_of rfl
  exact (ss_cons (ss_asg (i := 1) nd rfl (by first | exact .inl rfl | exact .inr rfl) (se_split (se_n 0 rfl (by first | exact .inl rfl | exact .inr (.inl rfl) | exact .inr (.inr rfl)) rfl rfl) se_str rfl rfl rfl) rfl (by first | exact .inl rfl | exact .inr rfl))
  (ss_cons (ss_if (st_not (st_val (se_c c_is_stem hG hr tk rfl rfl rfl rfl (sa_c rfl (se_ix (hu65 hr) (se_n 1 rfl (by first | exact .inl rfl | exact .inr (.inl rfl) | exact .inr (.inr rfl)) rfl rfl) se_int (fun _ _ => rfl)) sa_nil)) (fun _ => rfl)))
    (ss_one (ss_ret se_bl))
    ss_nil)
  (ss_one (ss_ret (se_or (se_cmp (bin_eq (hu64 hr)) (se_len hB rfl rfl (se_n 1 rfl (by first | exact .inl rfl | exact .inr (.inl rfl) | exact .inr (.inr rfl)) rfl rfl)) se_int rfl) (se_one (se_and (se_cmp (bin_eq (hu64 hr)) (se_len hB rfl rfl (se_n 1 rfl (by first | exact .inl rfl | exact .inr (.inl rfl) | exact .inr (.inr rfl)) rfl rfl)) se_int rfl) (se_one (se_c c_is_number hG hr tk rfl rfl rfl rfl (sa_c rfl (se_ix (hu65 hr) (se_n 1 rfl (by first | exact .inl rfl | exact .inr (.inl rfl) | exact .inr (.inr rfl)) rfl rfl) se_int (fun _ _ => rfl)) sa_nil))))))))))
theorem sc_is_row : FnScope ["word", "told", "one"] ["word", "told"] (defScope (top 20)) := ⟨rfl, rfl, rfl, by decide +kernel, rfl, by decide +kernel, by decide +kernel⟩
theorem ok_is_row {f : Addr} {fd : FuncData} (F : Fun K "is_row" "is_row" (top 20) f fd) (hm : mg "is_row" = some (.ref f)) (hB : Blt mg) (c_is_word : Callee P w K mg base ca 2 "is_word" 1 f_is_word) {t_TOLD : Tok} (k_TOLD : mg "TOLD" = some (.int 8 t_TOLD)) : Callee P w K mg base ca 3 "is_row" 2 f_is_row := by
  refine ⟨f, fd, ["word", "told"], rfl, efn_body (N := ["word", "told", "one"]) (b := b_is_row) F sc_is_row fun cdv A outer s H E hg hr => ?_, hm, F.kp, F.binds fun _ _ _ _ _ _ us hl => match us, hl with | [_, _], _ => rfl⟩
  have hG : (cxOf (L2.CX P w) P w K mg base ["word", "told", "one"] "is_row" (defScope (top 20)) f cdv A outer s H E).A.guards = some [] := by
    rw [← hg]; exact deeper_guards _ _
  have tk : Takes (cxOf (L2.CX P w) P w K mg base ["word", "told", "one"] "is_row" (defScope (top 20)) f cdv A outer s H E) (fun cls d _ H => E cls d H) := takes_of rfl rfl rfl rfl
  have nd := sc_is_row.nd
  have hp : PassesOwn _ _ _ (cxOf (L2.CX P w) P w K mg base ["word", "told", "one"] "is_row" (defScope (top 20)) f cdv A outer s H E).xe := passes_of rfl
  exact (ss_cons (ss_if (PW.pt (st_or (st_not (st_val (se_c c_is_word hG hr tk rfl rfl rfl rfl (sa_c rfl (se_n 0 rfl (by first | exact .inl rfl | exact .inr (.inl rfl) | exact .inr (.inr rfl)) rfl rfl) sa_nil)) (fun _ => rfl))) (st_or (st_cmp bin_gt (se_len hB rfl rfl (se_n 1 rfl (by first | exact .inl rfl | exact .inr (.inl rfl) | exact .inr (.inr rfl)) rfl rfl)) (se_glob (v := .int 8) rfl k_TOLD ⟨_, rfl⟩ rfl (fun _ _ => .int _)) rfl) (st_or1 (st_cmp bin_lt (se_len hB rfl rfl (se_setC rfl hr hB rfl rfl (se_n 1 rfl (by first | exact .inl rfl | exact .inr (.inl rfl) | exact .inr (.inr rfl)) rfl rfl))) (se_len hB rfl rfl (se_n 1 rfl (by first | exact .inl rfl | exact .inr (.inl rfl) | exact .inr (.inr rfl)) rfl rfl)) rfl)))))
    (ss_one (ss_ret se_bl))
    ss_nil)
  (ss_one (ss_ret (se_all rfl hB rfl rfl (se_lc (own := [("one", 2)]) (by decide) rfl nd (si_seq (se_n 1 rfl (by first | exact .inl rfl | exact .inr (.inl rfl) | exact .inr (.inr rfl)) rfl rfl)) (by exact blkOk_by (by kernel_rfl)) (fun _ _ _ _ _ => (sg_name (i := 2) nd rfl (by first | exact .inl rfl | exact .inr rfl) (by first | exact .inl rfl | exact .inr rfl))) (fun _ _ _ _ _ => st_yes) (fun _ _ _ _ _ => (se_c c_is_word hG hr takes0 rfl rfl rfl rfl (sa_c rfl (se_n 2 rfl (by first | exact .inl rfl | exact .inr (.inl rfl) | exact .inr (.inr rfl)) rfl rfl) sa_nil))) (fun _ => rfl))))))
theorem sc_fits : FnScope ["book", "seen", "word", "told", "key"] ["book"] (defScope (top 21)) := ⟨rfl, rfl, rfl, by decide +kernel, rfl, by decide +kernel, by decide +kernel⟩
theorem ok_fits {f : Addr} {fd : FuncData} (F : Fun K "fits" "fits" (top 21) f fd) (hm : mg "fits" = some (.ref f)) (hB : Blt mg) (c_is_row : Callee P w K mg base ca 3 "is_row" 2 f_is_row) {t_ROWS : Tok} (k_ROWS : mg "ROWS" = some (.int 60 t_ROWS)) : Callee P w K mg base ca 4 "fits" 1 f_fits := by
  refine ⟨f, fd, ["book"], rfl, efn_body (N := ["book", "seen", "word", "told", "key"]) (b := b_fits) F sc_fits fun cdv A outer s H E hg hr => ?_, hm, F.kp, F.binds fun _ _ _ _ _ _ us hl => match us, hl with | [_], _ => rfl⟩
  have hG : (cxOf (L2.CX P w) P w K mg base ["book", "seen", "word", "told", "key"] "fits" (defScope (top 21)) f cdv A outer s H E).A.guards = some [] := by
    rw [← hg]; exact deeper_guards _ _
  have tk : Takes (cxOf (L2.CX P w) P w K mg base ["book", "seen", "word", "told", "key"] "fits" (defScope (top 21)) f cdv A outer s H E) (fun cls d _ H => E cls d H) := takes_of rfl rfl rfl rfl
  have nd := sc_fits.nd
  have hp : PassesOwn _ _ _ (cxOf (L2.CX P w) P w K mg base ["book", "seen", "word", "told", "key"] "fits" (defScope (top 21)) f cdv A outer s H E).xe := passes_of rfl
  exact (ss_cons (ss_if (st_cmp bin_gt (se_len hB rfl rfl (se_n 0 rfl (by first | exact .inl rfl | exact .inr (.inl rfl) | exact .inr (.inr rfl)) rfl rfl)) (se_glob (v := .int 60) rfl k_ROWS ⟨_, rfl⟩ rfl (fun _ _ => .int _)) rfl)
    (ss_one (ss_ret se_bl))
    ss_nil)
  (ss_cons (ss_asg (i := 1) nd rfl (by first | exact .inl rfl | exact .inr rfl) se_dic0 rfl (by first | exact .inl rfl | exact .inr rfl))
  (ss_cons (ss_for (fg := [2, 3, 4]) hp rfl (si_seq (se_n 0 rfl (by first | exact .inl rfl | exact .inr (.inl rfl) | exact .inr (.inr rfl)) rfl rfl)) (sg_tup rfl (sg_cons (pg_name (i := 2) nd rfl (by first | exact .inl rfl | exact .inr rfl) (by first | exact .inl rfl | exact .inr rfl)) (sg_cons (pg_name (i := 3) nd rfl (by first | exact .inl rfl | exact .inr rfl) (by first | exact .inl rfl | exact .inr rfl)) sg_nil rfl) rfl) rfl rfl)
    (ss_cons (ss_asg (i := 4) nd rfl (by first | exact .inl rfl | exact .inr rfl) (se_tup (sa_c rfl (se_n 2 rfl (by first | exact .inl rfl | exact .inr (.inl rfl) | exact .inr (.inr rfl)) rfl rfl) (sa_c rfl (se_tuple hB rfl rfl (se_sorted rfl hr hB rfl rfl (se_n 3 rfl (by first | exact .inl rfl | exact .inr (.inl rfl) | exact .inr (.inr rfl)) rfl rfl))) sa_nil))) rfl (by first | exact .inl rfl | exact .inr rfl))
    (ss_cons (ss_if (PW.pt (st_or (st_not (st_val (se_c c_is_row hG hr tk rfl rfl rfl rfl (sa_c rfl (se_n 2 rfl (by first | exact .inl rfl | exact .inr (.inl rfl) | exact .inr (.inr rfl)) rfl rfl) (sa_c rfl (se_n 3 rfl (by first | exact .inl rfl | exact .inr (.inl rfl) | exact .inr (.inr rfl)) rfl rfl) sa_nil))) (fun _ => rfl))) (st_or1 (st_cmp (bin_in (hu65 hr)) (se_n 4 rfl (by first | exact .inl rfl | exact .inr (.inl rfl) | exact .inr (.inr rfl)) rfl rfl) (se_n 1 rfl (by first | exact .inl rfl | exact .inr (.inl rfl) | exact .inr (.inr rfl)) rfl rfl) rfl))))
      (ss_one (ss_ret se_bl))
      ss_nil)
    (ss_one (ss_put (i := 1) (hu65 hr) rfl (by first | exact .inl rfl | exact .inr (.inl rfl) | exact .inr (.inr rfl)) rfl rfl (se_n 4 rfl (by first | exact .inl rfl | exact .inr (.inl rfl) | exact .inr (.inr rfl)) rfl rfl) se_bl rfl rfl rfl (fun _ => rfl))))) (fun _ => rfl))
  (ss_one (ss_ret se_bl)))))
theorem sc_fitted : FnScope ["book"] ["book"] (defScope (top 22)) := ⟨rfl, rfl, rfl, by decide +kernel, rfl, by decide +kernel, by decide +kernel⟩
theorem ok_fitted {f : Addr} {fd : FuncData} (F : Fun K "fitted" "fitted" (top 22) f fd) (hm : mg "fitted" = some (.ref f)) (hB : Blt mg) (c_fits : Callee P w K mg base ca 4 "fits" 1 f_fits) (hX : Xf K mg ca [0, 1, 2, 3, 4, 5, 6, 7, 8]) : Callee P w K mg base ca 5 "fitted" 1 f_fitted := by
  refine ⟨f, fd, ["book"], rfl, efn_body (N := ["book"]) (b := b_fitted) F sc_fitted fun cdv A outer s H E hg hr => ?_, hm, F.kp, F.binds fun _ _ _ _ _ _ us hl => match us, hl with | [_], _ => rfl⟩
  have hG : (cxOf (L2.CX P w) P w K mg base ["book"] "fitted" (defScope (top 22)) f cdv A outer s H E).A.guards = some [] := by
    rw [← hg]; exact deeper_guards _ _
  have tk : Takes (cxOf (L2.CX P w) P w K mg base ["book"] "fitted" (defScope (top 22)) f cdv A outer s H E) (fun cls d _ H => E cls d H) := takes_of rfl rfl rfl rfl
  have nd := sc_fitted.nd
  have hp : PassesOwn _ _ _ (cxOf (L2.CX P w) P w K mg base ["book"] "fitted" (defScope (top 22)) f cdv A outer s H E).xe := passes_of rfl
  exact (ss_cons (ss_if (st_not (st_val (se_c c_fits hG hr tk rfl rfl rfl rfl (sa_c rfl (se_n 0 rfl (by first | exact .inl rfl | exact .inr (.inl rfl) | exact .inr (.inr rfl)) rfl rfl) sa_nil)) (fun _ => rfl)))
    (ss_one (ss_raiseX hX 2 (by decide) rfl tk rfl rfl))
    ss_nil)
  (ss_one (ss_ret (se_n 0 rfl (by first | exact .inl rfl | exact .inr (.inl rfl) | exact .inr (.inr rfl)) rfl rfl))))
theorem sc_read_row : FnScope ["text", "words", "word"] ["text"] (defScope (top 24)) := ⟨rfl, rfl, rfl, by decide +kernel, rfl, by decide +kernel, by decide +kernel⟩
theorem ok_read_row {f : Addr} {fd : FuncData} (F : Fun K "read_row" "read_row" (top 24) f fd) (hm : mg "read_row" = some (.ref f)) (hB : Blt mg) (c_is_word : Callee P w K mg base ca 2 "is_word" 1 f_is_word) (hX : Xf K mg ca [0, 1, 2, 3, 4, 5, 6, 7, 8]) : Callee P w K mg base ca 3 "read_row" 1 f_read_row := by
  refine ⟨f, fd, ["text"], rfl, efn_body (N := ["text", "words", "word"]) (b := b_read_row) F sc_read_row fun cdv A outer s H E hg hr => ?_, hm, F.kp, F.binds fun _ _ _ _ _ _ us hl => match us, hl with | [_], _ => rfl⟩
  have hG : (cxOf (L2.CX P w) P w K mg base ["text", "words", "word"] "read_row" (defScope (top 24)) f cdv A outer s H E).A.guards = some [] := by
    rw [← hg]; exact deeper_guards _ _
  have tk : Takes (cxOf (L2.CX P w) P w K mg base ["text", "words", "word"] "read_row" (defScope (top 24)) f cdv A outer s H E) (fun cls d _ H => E cls d H) := takes_of rfl rfl rfl rfl
  have nd := sc_read_row.nd
  have hp : PassesOwn _ _ _ (cxOf (L2.CX P w) P w K mg base ["text", "words", "word"] "read_row" (defScope (top 24)) f cdv A outer s H E).xe := passes_of rfl
  exact (ss_cons (ss_asg (i := 1) nd rfl (by first | exact .inl rfl | exact .inr rfl) (se_split (se_n 0 rfl (by first | exact .inl rfl | exact .inr (.inl rfl) | exact .inr (.inr rfl)) rfl rfl) se_str rfl rfl rfl) rfl (by first | exact .inl rfl | exact .inr rfl))
  (ss_cons (ss_if (PW.pt (st_or (st_cmp bin_lt (se_len hB rfl rfl (se_n 1 rfl (by first | exact .inl rfl | exact .inr (.inl rfl) | exact .inr (.inr rfl)) rfl rfl)) se_int rfl) (st_or (st_cmp (bin_ne (hu64 hr)) (se_ix (hu65 hr) (se_n 1 rfl (by first | exact .inl rfl | exact .inr (.inl rfl) | exact .inr (.inr rfl)) rfl rfl) se_int (fun _ _ => rfl)) se_str rfl) (st_or1 (st_not (st_val (se_c c_is_word hG hr tk rfl rfl rfl rfl (sa_c rfl (se_ix (hu65 hr) (se_n 1 rfl (by first | exact .inl rfl | exact .inr (.inl rfl) | exact .inr (.inr rfl)) rfl rfl) se_int (fun _ _ => rfl)) sa_nil)) (fun _ => rfl)))))))
    (ss_one (ss_raiseX hX 1 (by decide) rfl tk rfl rfl))
    ss_nil)
  (ss_cons (ss_if (st_cmp (bin_eq (hu64 hr)) (se_slice (se_n 1 rfl (by first | exact .inl rfl | exact .inr (.inl rfl) | exact .inr (.inr rfl)) rfl rfl) (so_some se_int) so_none) (se_lst (sa_c rfl se_str sa_nil)) rfl)
    (ss_one (ss_ret (se_tup (sa_c rfl (se_ix (hu65 hr) (se_n 1 rfl (by first | exact .inl rfl | exact .inr (.inl rfl) | exact .inr (.inr rfl)) rfl rfl) se_int (fun _ _ => rfl)) (sa_c rfl (se_tup sa_nil) sa_nil)))))
    ss_nil)
  (ss_cons (ss_if (st_not (st_val (se_all rfl hB rfl rfl (se_lc (own := [("word", 2)]) (by decide) rfl nd (si_seq (se_slice (se_n 1 rfl (by first | exact .inl rfl | exact .inr (.inl rfl) | exact .inr (.inr rfl)) rfl rfl) (so_some se_int) so_none)) (by exact blkOk_by (by kernel_rfl)) (fun _ _ _ _ _ => (sg_name (i := 2) nd rfl (by first | exact .inl rfl | exact .inr rfl) (by first | exact .inl rfl | exact .inr rfl))) (fun _ _ _ _ _ => st_yes) (fun _ _ _ _ _ => (se_c c_is_word hG hr takes0 rfl rfl rfl rfl (sa_c rfl (se_n 2 rfl (by first | exact .inl rfl | exact .inr (.inl rfl) | exact .inr (.inr rfl)) rfl rfl) sa_nil))) (fun _ => rfl))) (fun _ => rfl)))
    (ss_one (ss_raiseX hX 1 (by decide) rfl tk rfl rfl))
    ss_nil)
  (ss_one (ss_ret (se_tup (sa_c rfl (se_ix (hu65 hr) (se_n 1 rfl (by first | exact .inl rfl | exact .inr (.inl rfl) | exact .inr (.inr rfl)) rfl rfl) se_int (fun _ _ => rfl)) (sa_c rfl (se_tuple hB rfl rfl (se_slice (se_n 1 rfl (by first | exact .inl rfl | exact .inr (.inl rfl) | exact .inr (.inr rfl)) rfl rfl) (so_some se_int) so_none)) sa_nil)))))))))
theorem sc_read : FnScope ["text", "row"] ["text"] (defScope (top 25)) := ⟨rfl, rfl, rfl, by decide +kernel, rfl, by decide +kernel, by decide +kernel⟩
theorem ok_read {f : Addr} {fd : FuncData} (F : Fun K "read" "read" (top 25) f fd) (hm : mg "read" = some (.ref f)) (hB : Blt mg) (c_fitted : Callee P w K mg base ca 5 "fitted" 1 f_fitted) (c_read_row : Callee P w K mg base ca 5 "read_row" 1 f_read_row) (hX : Xf K mg ca [0, 1, 2, 3, 4, 5, 6, 7, 8]) : Callee P w K mg base ca 6 "read" 1 f_read_2 := by
  refine ⟨f, fd, ["text"], rfl, efn_body (N := ["text", "row"]) (b := b_read_2) F sc_read fun cdv A outer s H E hg hr => ?_, hm, F.kp, F.binds fun _ _ _ _ _ _ us hl => match us, hl with | [_], _ => rfl⟩
  have hG : (cxOf (L2.CX P w) P w K mg base ["text", "row"] "read" (defScope (top 25)) f cdv A outer s H E).A.guards = some [] := by
    rw [← hg]; exact deeper_guards _ _
  have tk : Takes (cxOf (L2.CX P w) P w K mg base ["text", "row"] "read" (defScope (top 25)) f cdv A outer s H E) (fun cls d _ H => E cls d H) := takes_of rfl rfl rfl rfl
  have nd := sc_read.nd
  have hp : PassesOwn _ _ _ (cxOf (L2.CX P w) P w K mg base ["text", "row"] "read" (defScope (top 25)) f cdv A outer s H E).xe := passes_of rfl
  exact (ss_cons (ss_if (st_not (st_val (se_isi (by decide) (se_n 0 rfl (by first | exact .inl rfl | exact .inr (.inl rfl) | exact .inr (.inr rfl)) rfl rfl) rfl hB.isi rfl hB.str bb_str (by decide) rfl rfl) (fun _ => rfl)))
    (ss_one (ss_raiseX hX 1 (by decide) rfl tk rfl rfl))
    ss_nil)
  (ss_cons (ss_if (st_cmp (bin_eq (hu64 hr)) (se_n 0 rfl (by first | exact .inl rfl | exact .inr (.inl rfl) | exact .inr (.inr rfl)) rfl rfl) se_str rfl)
    (ss_one (ss_ret (se_tup sa_nil)))
    ss_nil)
  (ss_one (ss_ret (se_c c_fitted hG hr tk rfl rfl rfl rfl (sa_c rfl (se_tuple hB rfl rfl (se_lcX (own := [("row", 1)]) (by decide) rfl nd rfl rfl tk (si_seq (se_split (se_n 0 rfl (by first | exact .inl rfl | exact .inr (.inl rfl) | exact .inr (.inr rfl)) rfl rfl) se_str rfl rfl rfl)) (by exact blkOk_by (by kernel_rfl)) (fun _ _ _ _ _ _ => (sg_name (i := 1) nd rfl (by first | exact .inl rfl | exact .inr rfl) (by first | exact .inl rfl | exact .inr rfl))) (fun _ _ _ _ _ _ => st_yes) (fun _ _ _ _ _ _ _ tkX => (se_c c_read_row hG hr tkX rfl rfl rfl rfl (sa_c rfl (se_n 1 rfl (by first | exact .inl rfl | exact .inr (.inl rfl) | exact .inr (.inr rfl)) rfl rfl) sa_nil))) (fun _ => rfl))) sa_nil))))))
theorem sc__law_right : FnScope ["_law_thing", "_law_due_here", "_law_kinds_here", "_law_found", "_law_e"] ["_law_thing", "_law_due_here"] (defScope (top 43)) := ⟨rfl, rfl, rfl, by decide +kernel, rfl, by decide +kernel, by decide +kernel⟩
theorem ok__law_right {f : Addr} {fd : FuncData} (F : Fun K "_law_right" "_law_right" (top 43) f fd) (hm : mg "_law_right" = some (.ref f)) (hB : Blt mg) (c_read : Callee P w K mg base ca 6 "read" 1 f_read_2) (c__law_only : Callee P w K mg base ca 6 "_law_only" 2 f_l_only) (c__law_fit : Callee P w K mg base ca 6 "_law_fit" 1 f_l_fit_2) (cH__law_kinds : CalleeH P w K mg base ca 6 "_law_kinds" 1 f_l_kinds_3) (hX : Xf K mg ca [0, 1, 2, 3, 4, 5, 6, 7, 8]) : Callee P w K mg base ca 7 "_law_right" 2 f_l_right_13 := by
  refine ⟨f, fd, ["_law_thing", "_law_due_here"], rfl, efn_body (N := ["_law_thing", "_law_due_here", "_law_kinds_here", "_law_found", "_law_e"]) (b := b_l_right_13) F sc__law_right fun cdv A outer s H E hg hr => ?_, hm, F.kp, F.binds fun _ _ _ _ _ _ us hl => match us, hl with | [_, _], _ => rfl⟩
  have hG : (cxOf (L2.CX P w) P w K mg base ["_law_thing", "_law_due_here", "_law_kinds_here", "_law_found", "_law_e"] "_law_right" (defScope (top 43)) f cdv A outer s H E).A.guards = some [] := by
    rw [← hg]; exact deeper_guards _ _
  have tk : Takes (cxOf (L2.CX P w) P w K mg base ["_law_thing", "_law_due_here", "_law_kinds_here", "_law_found", "_law_e"] "_law_right" (defScope (top 43)) f cdv A outer s H E) (fun cls d _ H => E cls d H) := takes_of rfl rfl rfl rfl
  have nd := sc__law_right.nd
  have hp : PassesOwn _ _ _ (cxOf (L2.CX P w) P w K mg base ["_law_thing", "_law_due_here", "_law_kinds_here", "_law_found", "_law_e"] "_law_right" (defScope (top 43)) f cdv A outer s H E).xe := passes_of rfl
  exact (ss_cons (ss_asg (i := 2) nd rfl (by first | exact .inl rfl | exact .inr rfl) (se_lst sa_nil) rfl (by first | exact .inl rfl | exact .inr rfl))
  (ss_cons (ss_asg (i := 3) nd rfl (by first | exact .inl rfl | exact .inr rfl) se_non rfl (by first | exact .inl rfl | exact .inr rfl))
  (ss_cons (ss_try (j := 0) (i := 4) hX (by decide) rfl rfl nd rfl rfl rfl rfl tk
    (fun W' pn' xe' tkb hpb => (ss_one (ss_asg (i := 3) nd rfl (by first | exact .inl rfl | exact .inr rfl) (se_c c_read hG hr tkb rfl rfl rfl rfl (sa_c rfl (se_n 0 rfl (by first | exact .inl rfl | exact .inr (.inl rfl) | exact .inr (.inr rfl)) rfl rfl) sa_nil)) rfl (by first | exact .inl rfl | exact .inr rfl))))
    (fun a' pn' => (ss_one (ss_asg (i := 2) nd rfl (by first | exact .inl rfl | exact .inr rfl) (se_cH cH__law_kinds (hGs hG) (roomHs hr) takes0 rfl rfl rfl rfl (sa_c rfl (se_n 4 rfl (by first | exact .inl rfl | exact .inr (.inl rfl) | exact .inr (.inr rfl)) rfl rfl) sa_nil)) rfl (by first | exact .inl rfl | exact .inr rfl)))))
  (ss_cons (ss_if (st_cmp bin_is (se_n 1 rfl (by first | exact .inl rfl | exact .inr (.inl rfl) | exact .inr (.inr rfl)) rfl rfl) se_non rfl)
    (ss_one (ss_ret (se_c c__law_only hG hr tk rfl rfl rfl rfl (sa_c rfl (se_n 2 rfl (by first | exact .inl rfl | exact .inr (.inl rfl) | exact .inr (.inr rfl)) rfl rfl) (sa_c rfl se_int sa_nil)))))
    ss_nil)
  (ss_cons (ss_if (st_not (st_val (se_c c__law_fit hG hr tk rfl rfl rfl rfl (sa_c rfl (se_n 1 rfl (by first | exact .inl rfl | exact .inr (.inl rfl) | exact .inr (.inr rfl)) rfl rfl) sa_nil)) (fun _ => rfl)))
    (ss_one (ss_ret (se_c c__law_only hG hr tk rfl rfl rfl rfl (sa_c rfl (se_n 2 rfl (by first | exact .inl rfl | exact .inr (.inl rfl) | exact .inr (.inr rfl)) rfl rfl) (sa_c rfl se_int sa_nil)))))
    ss_nil)
  (ss_one (ss_ret (se_and (se_cmp (bin_eq (hu64 hr)) (se_n 2 rfl (by first | exact .inl rfl | exact .inr (.inl rfl) | exact .inr (.inr rfl)) rfl rfl) (se_lst sa_nil) rfl) (se_one (se_cmp (bin_eq (hu64 hr)) (se_repr hG hr hB rfl rfl (se_n 3 rfl (by first | exact .inl rfl | exact .inr (.inl rfl) | exact .inr (.inr rfl)) rfl rfl)) (se_repr hG hr hB rfl rfl (se_n 1 rfl (by first | exact .inl rfl | exact .inr (.inl rfl) | exact .inr (.inr rfl)) rfl rfl)) rfl))))))))))
theorem sc__law_text : FnScope ["_law_book_here", "_law_rows", "_law_word", "_law_told_here"] ["_law_book_here"] (defScope (top 39)) := ⟨rfl, rfl, rfl, by decide +kernel, rfl, by decide +kernel, by decide +kernel⟩
theorem ok__law_text {f : Addr} {fd : FuncData} (F : Fun K "_law_text" "_law_text" (top 39) f fd) (hm : mg "_law_text" = some (.ref f)) (hB : Blt mg) : Callee P w K mg base ca 1 "_law_text" 1 f_l_text_2 := by
  refine ⟨f, fd, ["_law_book_here"], rfl, efn_body (N := ["_law_book_here", "_law_rows", "_law_word", "_law_told_here"]) (b := b_l_text_2) F sc__law_text fun cdv A outer s H E hg hr => ?_, hm, F.kp, F.binds fun _ _ _ _ _ _ us hl => match us, hl with | [_], _ => rfl⟩
  have hG : (cxOf (L2.CX P w) P w K mg base ["_law_book_here", "_law_rows", "_law_word", "_law_told_here"] "_law_text" (defScope (top 39)) f cdv A outer s H E).A.guards = some [] := by
    rw [← hg]; exact deeper_guards _ _
  have tk : Takes (cxOf (L2.CX P w) P w K mg base ["_law_book_here", "_law_rows", "_law_word", "_law_told_here"] "_law_text" (defScope (top 39)) f cdv A outer s H E) (fun cls d _ H => E cls d H) := takes_of rfl rfl rfl rfl
  have nd := sc__law_text.nd
  have hp : PassesOwn _ _ _ (cxOf (L2.CX P w) P w K mg base ["_law_book_here", "_law_rows", "_law_word", "_law_told_here"] "_law_text" (defScope (top 39)) f cdv A outer s H E).xe := passes_of rfl
  exact (ss_cons (ss_asg (i := 1) nd rfl (by first | exact .inl rfl | exact .inr rfl) (se_lst sa_nil) rfl (by first | exact .inl rfl | exact .inr rfl))
  (ss_cons (ss_for (fg := [2, 3]) hp rfl (si_seq (se_n 0 rfl (by first | exact .inl rfl | exact .inr (.inl rfl) | exact .inr (.inr rfl)) rfl rfl)) (sg_tup rfl (sg_cons (pg_name (i := 2) nd rfl (by first | exact .inl rfl | exact .inr rfl) (by first | exact .inl rfl | exact .inr rfl)) (sg_cons (pg_name (i := 3) nd rfl (by first | exact .inl rfl | exact .inr rfl) (by first | exact .inl rfl | exact .inr rfl)) sg_nil rfl) rfl) rfl rfl)
    (ss_one (ss_expr (se_app (j := 1) rfl (by first | exact .inl rfl | exact .inr (.inl rfl) | exact .inr (.inr rfl)) rfl rfl (se_bin bin_add (se_bin bin_add (se_n 2 rfl (by first | exact .inl rfl | exact .inr (.inl rfl) | exact .inr (.inr rfl)) rfl rfl) se_str) (se_join se_str (se_bin bin_add (se_list hB rfl rfl (se_n 3 rfl (by first | exact .inl rfl | exact .inr (.inl rfl) | exact .inr (.inr rfl)) rfl rfl)) (se_bin bin_rep (se_lst (sa_c rfl se_str sa_nil)) (se_intC hB rfl rfl (se_cmp (bin_eq (hu64 hr)) (se_n 3 rfl (by first | exact .inl rfl | exact .inr (.inl rfl) | exact .inr (.inr rfl)) rfl rfl) (se_tup sa_nil) rfl)))) rfl rfl rfl)) rfl rfl rfl rfl) rfl)) (fun _ => rfl))
  (ss_one (ss_ret (se_join se_str (se_n 1 rfl (by first | exact .inl rfl | exact .inr (.inl rfl) | exact .inr (.inr rfl)) rfl rfl) rfl rfl rfl)))))
theorem sc_law : FnScope ["_law_script", "_law_book_here", "_law_text_here", "_law_k", "_law_thing", "_law_bits", "_law_bent_here"] ["_law_script"] (defScope (top 45)) := ⟨rfl, rfl, rfl, by decide +kernel, rfl, by decide +kernel, by decide +kernel⟩
theorem ok_law {f : Addr} {fd : FuncData} (F : Fun K "law" "law" (top 45) f fd) (hB : Blt mg) (c__law_made : Callee P w K mg base ca 7 "_law_made" 1 f_l_made) (c__law_text : Callee P w K mg base ca 7 "_law_text" 1 f_l_text_2) (c__law_drawn : Callee P w K mg base ca 7 "_law_drawn" 2 f_l_drawn) (c__law_cell : Callee P w K mg base ca 7 "_law_cell" 2 f_l_cell) (c__law_bent : Callee P w K mg base ca 7 "_law_bent" 2 f_l_bent) (c__law_right : Callee P w K mg base ca 7 "_law_right" 2 f_l_right_13) (c__law_due : Callee P w K mg base ca 7 "_law_due" 1 f_l_due) : EFn P w K mg base 8 f fd ["_law_script"] (spF ⟨P, w, K, ca⟩ 1 f_law_79) := by
  refine efn_body (N := ["_law_script", "_law_book_here", "_law_text_here", "_law_k", "_law_thing", "_law_bits", "_law_bent_here"]) (b := b_law_79) F sc_law fun cdv A outer s H E hg hr => ?_
  have hG : (cxOf (L2.CX P w) P w K mg base ["_law_script", "_law_book_here", "_law_text_here", "_law_k", "_law_thing", "_law_bits", "_law_bent_here"] "law" (defScope (top 45)) f cdv A outer s H E).A.guards = some [] := by
    rw [← hg]; exact deeper_guards _ _
  have tk : Takes (cxOf (L2.CX P w) P w K mg base ["_law_script", "_law_book_here", "_law_text_here", "_law_k", "_law_thing", "_law_bits", "_law_bent_here"] "law" (defScope (top 45)) f cdv A outer s H E) (fun cls d _ H => E cls d H) := takes_of rfl rfl rfl rfl
  have nd := sc_law.nd
  have hp : PassesOwn _ _ _ (cxOf (L2.CX P w) P w K mg base ["_law_script", "_law_book_here", "_law_text_here", "_law_k", "_law_thing", "_law_bits", "_law_bent_here"] "law" (defScope (top 45)) f cdv A outer s H E).xe := passes_of rfl
  exact (ss_cons (ss_asg (i := 1) nd rfl (by first | exact .inl rfl | exact .inr rfl) (se_c c__law_made hG hr tk rfl rfl rfl rfl (sa_c rfl (se_n 0 rfl (by first | exact .inl rfl | exact .inr (.inl rfl) | exact .inr (.inr rfl)) rfl rfl) sa_nil)) rfl (by first | exact .inl rfl | exact .inr rfl))
  (ss_cons (ss_asg (i := 2) nd rfl (by first | exact .inl rfl | exact .inr rfl) (se_c c__law_text hG hr tk rfl rfl rfl rfl (sa_c rfl (se_n 1 rfl (by first | exact .inl rfl | exact .inr (.inl rfl) | exact .inr (.inr rfl)) rfl rfl) sa_nil)) rfl (by first | exact .inl rfl | exact .inr rfl))
  (ss_cons (ss_for (fg := [3, 5, 6]) hp rfl (si_rng1 rfl hB.range (sa_c rfl se_int sa_nil) rfl) (sg_name (i := 3) nd rfl (by first | exact .inl rfl | exact .inr rfl) (by first | exact .inl rfl | exact .inr rfl))
    (ss_cons (ss_asg (i := 5) nd rfl (by first | exact .inl rfl | exact .inr rfl) (se_c c__law_drawn hG hr tk rfl rfl rfl rfl (sa_c rfl (se_c c__law_cell hG hr tk rfl rfl rfl rfl (sa_c rfl (se_n 0 rfl (by first | exact .inl rfl | exact .inr (.inl rfl) | exact .inr (.inr rfl)) rfl rfl) (sa_c rfl (se_bin bin_add se_int (se_n 3 rfl (by first | exact .inl rfl | exact .inr (.inl rfl) | exact .inr (.inr rfl)) rfl rfl)) sa_nil))) (sa_c rfl se_int sa_nil))) rfl (by first | exact .inl rfl | exact .inr rfl))
    (ss_cons (ss_asg (i := 6) nd rfl (by first | exact .inl rfl | exact .inr rfl) (se_c c__law_bent hG hr tk rfl rfl rfl rfl (sa_c rfl (se_slice (se_n 5 rfl (by first | exact .inl rfl | exact .inr (.inl rfl) | exact .inr (.inr rfl)) rfl rfl) (so_some se_int) (so_some se_int)) (sa_c rfl (se_n 2 rfl (by first | exact .inl rfl | exact .inr (.inl rfl) | exact .inr (.inr rfl)) rfl rfl) sa_nil))) rfl (by first | exact .inl rfl | exact .inr rfl))
    (ss_cons (ss_if (st_cmp (bin_eq (hu64 hr)) (se_bin bin_mod (se_n 3 rfl (by first | exact .inl rfl | exact .inr (.inl rfl) | exact .inr (.inr rfl)) rfl rfl) se_int) se_int rfl)
      (ss_one (ss_asg (i := 6) nd rfl (by first | exact .inl rfl | exact .inr rfl) (se_c c__law_bent hG hr tk rfl rfl rfl rfl (sa_c rfl (se_slice (se_n 5 rfl (by first | exact .inl rfl | exact .inr (.inl rfl) | exact .inr (.inr rfl)) rfl rfl) (so_some se_int) so_none) (sa_c rfl (se_n 6 rfl (by first | exact .inl rfl | exact .inr (.inl rfl) | exact .inr (.inr rfl)) rfl rfl) sa_nil))) rfl (by first | exact .inl rfl | exact .inr rfl)))
      ss_nil)
    (ss_one (ss_if (PW.pt (st_or (st_not (st_val (se_c c__law_right hG hr tk rfl rfl rfl rfl (sa_c rfl (se_n 6 rfl (by first | exact .inl rfl | exact .inr (.inl rfl) | exact .inr (.inr rfl)) rfl rfl) (sa_c rfl (se_c c__law_due hG hr tk rfl rfl rfl rfl (sa_c rfl (se_n 6 rfl (by first | exact .inl rfl | exact .inr (.inl rfl) | exact .inr (.inr rfl)) rfl rfl) sa_nil)) sa_nil))) (fun _ => rfl))) (st_or1 (st_not (st_val (se_c c__law_right hG hr tk rfl rfl rfl rfl (sa_c rfl (se_n 2 rfl (by first | exact .inl rfl | exact .inr (.inl rfl) | exact .inr (.inr rfl)) rfl rfl) (sa_c rfl (se_n 1 rfl (by first | exact .inl rfl | exact .inr (.inl rfl) | exact .inr (.inr rfl)) rfl rfl) sa_nil))) (fun _ => rfl))))))
      (ss_one (ss_ret se_bl))
      ss_nil))))) (fun _ => rfl))
  (ss_cons (ss_for (fg := [4]) hp rfl (si_seq (se_lst (sa_c rfl se_non (sa_c rfl se_int (sa_c rfl se_bl (sa_c rfl (se_tup sa_nil) (sa_c rfl (se_lst sa_nil) (sa_c rfl (se_tup (sa_c rfl se_str sa_nil)) (sa_c rfl (se_lst (sa_c rfl (se_n 2 rfl (by first | exact .inl rfl | exact .inr (.inl rfl) | exact .inr (.inr rfl)) rfl rfl) sa_nil)) (sa_c rfl (se_neg se_int) sa_nil)))))))))) (sg_name (i := 4) nd rfl (by first | exact .inl rfl | exact .inr rfl) (by first | exact .inl rfl | exact .inr rfl))
    (ss_one (ss_if (st_not (st_val (se_c c__law_right hG hr tk rfl rfl rfl rfl (sa_c rfl (se_n 4 rfl (by first | exact .inl rfl | exact .inr (.inl rfl) | exact .inr (.inr rfl)) rfl rfl) (sa_c rfl se_non sa_nil))) (fun _ => rfl)))
      (ss_one (ss_ret se_bl))
      ss_nil)) (fun _ => rfl))
  (ss_one (ss_ret se_bl))))))
end
def d_0 : He.FnD := ⟨("_law_bent_words", none), "_law_bent_words", "_law_bent_words", defArgs (top 41), defBody (top 41), defScope (top 41)⟩
def d_1 : He.FnD := ⟨("_law_bent", none), "_law_bent", "_law_bent", defArgs (top 42), defBody (top 42), defScope (top 42)⟩
def d_2 : He.FnD := ⟨("_law_mix", none), "_law_mix", "_law_mix", defArgs (top 27), defBody (top 27), defScope (top 27)⟩
def d_3 : He.FnD := ⟨("_law_cell", none), "_law_cell", "_law_cell", defArgs (top 28), defBody (top 28), defScope (top 28)⟩
def d_4 : He.FnD := ⟨("_law_drawn", none), "_law_drawn", "_law_drawn", defArgs (top 29), defBody (top 29), defScope (top 29)⟩
def d_5 : He.FnD := ⟨("_law_is_word", none), "_law_is_word", "_law_is_word", defArgs (top 35), defBody (top 35), defScope (top 35)⟩
def d_6 : He.FnD := ⟨("_law_read", none), "_law_read", "_law_read", defArgs (top 40), defBody (top 40), defScope (top 40)⟩
def d_7 : He.FnD := ⟨("_law_due", none), "_law_due", "_law_due", defArgs (top 44), defBody (top 44), defScope (top 44)⟩
def d_8 : He.FnD := ⟨("_law_told", none), "_law_told", "_law_told", defArgs (top 32), defBody (top 32), defScope (top 32)⟩
def d_9 : He.FnD := ⟨("_law_book", none), "_law_book", "_law_book", defArgs (top 33), defBody (top 33), defScope (top 33)⟩
def d_10 : He.FnD := ⟨("_law_name", none), "_law_name", "_law_name", defArgs (top 30), defBody (top 30), defScope (top 30)⟩
def d_11 : He.FnD := ⟨("_law_names", none), "_law_names", "_law_names", defArgs (top 31), defBody (top 31), defScope (top 31)⟩
def d_12 : He.FnD := ⟨("_law_made", none), "_law_made", "_law_made", defArgs (top 34), defBody (top 34), defScope (top 34)⟩
def d_13 : He.FnD := ⟨("_law_fit", none), "_law_fit", "_law_fit", defArgs (top 36), defBody (top 36), defScope (top 36)⟩
def d_14 : He.FnD := ⟨("_law_kinds", none), "_law_kinds", "_law_kinds", defArgs (top 37), defBody (top 37), defScope (top 37)⟩
def d_15 : He.FnD := ⟨("_law_only", none), "_law_only", "_law_only", defArgs (top 38), defBody (top 38), defScope (top 38)⟩
def d_16 : He.FnD := ⟨("is_number", none), "is_number", "is_number", defArgs (top 15), defBody (top 15), defScope (top 15)⟩
def d_17 : He.FnD := ⟨("is_stem", none), "is_stem", "is_stem", defArgs (top 14), defBody (top 14), defScope (top 14)⟩
def d_18 : He.FnD := ⟨("is_word", none), "is_word", "is_word", defArgs (top 16), defBody (top 16), defScope (top 16)⟩
def d_19 : He.FnD := ⟨("is_row", none), "is_row", "is_row", defArgs (top 20), defBody (top 20), defScope (top 20)⟩
def d_20 : He.FnD := ⟨("fits", none), "fits", "fits", defArgs (top 21), defBody (top 21), defScope (top 21)⟩
def d_21 : He.FnD := ⟨("fitted", none), "fitted", "fitted", defArgs (top 22), defBody (top 22), defScope (top 22)⟩
def d_22 : He.FnD := ⟨("read_row", none), "read_row", "read_row", defArgs (top 24), defBody (top 24), defScope (top 24)⟩
def d_23 : He.FnD := ⟨("read", none), "read", "read", defArgs (top 25), defBody (top 25), defScope (top 25)⟩
def d_24 : He.FnD := ⟨("_law_right", none), "_law_right", "_law_right", defArgs (top 43), defBody (top 43), defScope (top 43)⟩
def d_25 : He.FnD := ⟨("_law_text", none), "_law_text", "_law_text", defArgs (top 39), defBody (top 39), defScope (top 39)⟩
def d_26 : He.FnD := ⟨("law", none), "law", "law", defArgs (top 45), defBody (top 45), defScope (top 45)⟩
def fn : List He.FnD := [d_0, d_1, d_2, d_3, d_4, d_5, d_6, d_7, d_8, d_9, d_10, d_11, d_12, d_13, d_14, d_15, d_16, d_17, d_18, d_19, d_20, d_21, d_22, d_23, d_24, d_25, d_26]
def fa : List He.Fa := [.glo "_law_bent_words", .keep "_law_bent_words", .glo "_law_bent", .keep "_law_bent", .glo "_law_mix", .keep "_law_mix", .glo "_law_cell", .keep "_law_cell", .glo "_law_drawn", .keep "_law_drawn", .glo "_law_is_word", .keep "_law_is_word", .glo "_law_read", .keep "_law_read", .glo "_law_due", .keep "_law_due", .glo "_law_told", .keep "_law_told", .glo "_law_book", .keep "_law_book", .glo "_law_name", .keep "_law_name", .glo "_law_names", .keep "_law_names", .glo "_law_made", .keep "_law_made", .glo "_law_fit", .keep "_law_fit", .glo "_law_kinds", .keep "_law_kinds", .glo "_law_only", .keep "_law_only", .glo "is_number", .keep "is_number", .glo "is_stem", .keep "is_stem", .glo "is_word", .keep "is_word", .glo "is_row", .keep "is_row", .glo "fits", .keep "fits", .glo "fitted", .keep "fitted", .glo "read_row", .keep "read_row", .glo "read", .keep "read", .glo "_law_right", .keep "_law_right", .glo "_law_text", .keep "_law_text", .glo "law", .keep "law", .free "len", .free "range", .free "sorted", .free "set", .free "tuple", .free "list", .free "all", .free "any", .free "sum", .free "max", .free "min", .free "str", .free "int", .free "dict", .free "repr", .free "isinstance", .free "zip", .free "enumerate", .free "reversed", .free "bool", .str "LETTERS" "abcdefghijklmnopqrstuvwxyz", .str "FIGURES" "0123456789", .int "LONGEST" 8, .int "ROWS" 60, .int "TOLD" 8]
abbrev R : PySem.W.OpenRow := PySem.W.OpenLaw.row PySem.Challenge.rw_primer_k06_texts_refused
abbrev hk : PySem.W.Hook := hookM 4 fa fn (clB [0, 1, 2, 3, 4, 5, 6, 7, 8])
def ob (s : PySem.W.SharedT) : He.Al × Bool := obsM 4 fa fn (clB [0, 1, 2, 3, 4, 5, 6, 7, 8]) (HandSHeadRun.getT s)
theorem ob_eq (s : PySem.W.SharedT) : ob s = hk.obs s.abs := obsM_eq (HandSHeadRun.getT_eq s)
def loose : List PySem.Str := (["PrimerError", "NoText", "Unfit", "Unknown", "Unlearnt", "TooMany", "Lacking", "NoRow", "NoDeed", "LETTERS", "FIGURES", "LONGEST", "is_stem", "is_number", "is_word", "ROWS", "TOLD", "is_row", "fits", "fitted", "read_row", "read", "_law_mix", "_law_cell", "_law_drawn", "_law_name", "_law_names", "_law_told", "_law_book", "_law_made"] : List PySem.Str) ++ (["_law_is_word", "_law_fit", "_law_kinds", "_law_only", "_law_text", "_law_read", "_law_bent_words", "_law_bent", "_law_right", "_law_due"] : List PySem.Str)
theorem run (w : World) : HandSHeadRun.RunEq R (PySem.W.view R.prog [45]) hk ob 16400 loose w := by
  intro os
  kernel_rfl
theorem facts {P : Program} {w : World} {K : PySem.W.Frag} {h : Heap} {mg : Str → Option Value} {f : Addr} (X : K.In h) (G : h.Ns mainGlobals mg) (hfa : mg ("law" : Str) = some (.ref f)) (cM : SaysM fa fn (clB [0, 1, 2, 3, 4, 5, 6, 7, 8]) K) :
    ∃ (fd : FuncData) (ca : Nat → Addr), (∀ (s : Shared) (v : Value), BindsTo s fd ⟨[v], []⟩ [("_law_script", v)]) ∧ ∀ base : Heap, K.In base → base.Ns mainGlobals mg → EFn P w K mg base 8 f fd ["_law_script"] (spF ⟨P, w, K, ca⟩ 1 f_law_79) := by
  have c := cM.1
  have hX := clB_ok X G cM.2
  have hB : Blt mg := ⟨He.free_ok X G (c.fact 54 (f := .free "len") rfl), He.free_ok X G (c.fact 55 (f := .free "range") rfl), He.free_ok X G (c.fact 56 (f := .free "sorted") rfl), He.free_ok X G (c.fact 57 (f := .free "set") rfl), He.free_ok X G (c.fact 58 (f := .free "tuple") rfl), He.free_ok X G (c.fact 59 (f := .free "list") rfl), He.free_ok X G (c.fact 60 (f := .free "all") rfl), He.free_ok X G (c.fact 61 (f := .free "any") rfl), He.free_ok X G (c.fact 62 (f := .free "sum") rfl), He.free_ok X G (c.fact 63 (f := .free "max") rfl), He.free_ok X G (c.fact 64 (f := .free "min") rfl), He.free_ok X G (c.fact 65 (f := .free "str") rfl), He.free_ok X G (c.fact 66 (f := .free "int") rfl), He.free_ok X G (c.fact 67 (f := .free "dict") rfl), He.free_ok X G (c.fact 68 (f := .free "repr") rfl), He.free_ok X G (c.fact 69 (f := .free "isinstance") rfl), He.free_ok X G (c.fact 70 (f := .free "zip") rfl), He.free_ok X G (c.fact 71 (f := .free "enumerate") rfl), He.free_ok X G (c.fact 72 (f := .free "reversed") rfl), He.free_ok X G (c.fact 73 (f := .free "bool") rfl)⟩
  obtain ⟨t_LETTERS, k_LETTERS⟩ := He.str_ok X G (c.fact 74 (f := .str "LETTERS" "abcdefghijklmnopqrstuvwxyz") rfl)
  obtain ⟨t_FIGURES, k_FIGURES⟩ := He.str_ok X G (c.fact 75 (f := .str "FIGURES" "0123456789") rfl)
  obtain ⟨t_LONGEST, k_LONGEST⟩ := He.int_ok X G (c.fact 76 (f := .int "LONGEST" 8) rfl)
  obtain ⟨t_ROWS, k_ROWS⟩ := He.int_ok X G (c.fact 77 (f := .int "ROWS" 60) rfl)
  obtain ⟨t_TOLD, k_TOLD⟩ := He.int_ok X G (c.fact 78 (f := .int "TOLD" 8) rfl)
  have m__law_bent_words := He.glo_ok X G (c.fact 0 (f := .glo "_law_bent_words") rfl)
  obtain ⟨_, _, _, _, _, _, _, _, _, l_0, q_0⟩ := c.def_ 0 (d := d_0) rfl
  have F__law_bent_words : Fun K "_law_bent_words" "_law_bent_words" (top 41) (He.ga K "_law_bent_words") _ := fun_mk l_0 q_0 (He.keep_ok (c.fact 1 (f := .keep "_law_bent_words") rfl))
  have m__law_bent := He.glo_ok X G (c.fact 2 (f := .glo "_law_bent") rfl)
  obtain ⟨_, _, _, _, _, _, _, _, _, l_1, q_1⟩ := c.def_ 1 (d := d_1) rfl
  have F__law_bent : Fun K "_law_bent" "_law_bent" (top 42) (He.ga K "_law_bent") _ := fun_mk l_1 q_1 (He.keep_ok (c.fact 3 (f := .keep "_law_bent") rfl))
  have m__law_mix := He.glo_ok X G (c.fact 4 (f := .glo "_law_mix") rfl)
  obtain ⟨_, _, _, _, _, _, _, _, _, l_2, q_2⟩ := c.def_ 2 (d := d_2) rfl
  have F__law_mix : Fun K "_law_mix" "_law_mix" (top 27) (He.ga K "_law_mix") _ := fun_mk l_2 q_2 (He.keep_ok (c.fact 5 (f := .keep "_law_mix") rfl))
  have m__law_cell := He.glo_ok X G (c.fact 6 (f := .glo "_law_cell") rfl)
  obtain ⟨_, _, _, _, _, _, _, _, _, l_3, q_3⟩ := c.def_ 3 (d := d_3) rfl
  have F__law_cell : Fun K "_law_cell" "_law_cell" (top 28) (He.ga K "_law_cell") _ := fun_mk l_3 q_3 (He.keep_ok (c.fact 7 (f := .keep "_law_cell") rfl))
  have m__law_drawn := He.glo_ok X G (c.fact 8 (f := .glo "_law_drawn") rfl)
  obtain ⟨_, _, _, _, _, _, _, _, _, l_4, q_4⟩ := c.def_ 4 (d := d_4) rfl
  have F__law_drawn : Fun K "_law_drawn" "_law_drawn" (top 29) (He.ga K "_law_drawn") _ := fun_mk l_4 q_4 (He.keep_ok (c.fact 9 (f := .keep "_law_drawn") rfl))
  have m__law_is_word := He.glo_ok X G (c.fact 10 (f := .glo "_law_is_word") rfl)
  obtain ⟨_, _, _, _, _, _, _, _, _, l_5, q_5⟩ := c.def_ 5 (d := d_5) rfl
  have F__law_is_word : Fun K "_law_is_word" "_law_is_word" (top 35) (He.ga K "_law_is_word") _ := fun_mk l_5 q_5 (He.keep_ok (c.fact 11 (f := .keep "_law_is_word") rfl))
  have m__law_read := He.glo_ok X G (c.fact 12 (f := .glo "_law_read") rfl)
  obtain ⟨_, _, _, _, _, _, _, _, _, l_6, q_6⟩ := c.def_ 6 (d := d_6) rfl
  have F__law_read : Fun K "_law_read" "_law_read" (top 40) (He.ga K "_law_read") _ := fun_mk l_6 q_6 (He.keep_ok (c.fact 13 (f := .keep "_law_read") rfl))
  have m__law_due := He.glo_ok X G (c.fact 14 (f := .glo "_law_due") rfl)
  obtain ⟨_, _, _, _, _, _, _, _, _, l_7, q_7⟩ := c.def_ 7 (d := d_7) rfl
  have F__law_due : Fun K "_law_due" "_law_due" (top 44) (He.ga K "_law_due") _ := fun_mk l_7 q_7 (He.keep_ok (c.fact 15 (f := .keep "_law_due") rfl))
  have m__law_told := He.glo_ok X G (c.fact 16 (f := .glo "_law_told") rfl)
  obtain ⟨_, _, _, _, _, _, _, _, _, l_8, q_8⟩ := c.def_ 8 (d := d_8) rfl
  have F__law_told : Fun K "_law_told" "_law_told" (top 32) (He.ga K "_law_told") _ := fun_mk l_8 q_8 (He.keep_ok (c.fact 17 (f := .keep "_law_told") rfl))
  have m__law_book := He.glo_ok X G (c.fact 18 (f := .glo "_law_book") rfl)
  obtain ⟨_, _, _, _, _, _, _, _, _, l_9, q_9⟩ := c.def_ 9 (d := d_9) rfl
  have F__law_book : Fun K "_law_book" "_law_book" (top 33) (He.ga K "_law_book") _ := fun_mk l_9 q_9 (He.keep_ok (c.fact 19 (f := .keep "_law_book") rfl))
  have m__law_name := He.glo_ok X G (c.fact 20 (f := .glo "_law_name") rfl)
  obtain ⟨_, _, _, _, _, _, _, _, _, l_10, q_10⟩ := c.def_ 10 (d := d_10) rfl
  have F__law_name : Fun K "_law_name" "_law_name" (top 30) (He.ga K "_law_name") _ := fun_mk l_10 q_10 (He.keep_ok (c.fact 21 (f := .keep "_law_name") rfl))
  have m__law_names := He.glo_ok X G (c.fact 22 (f := .glo "_law_names") rfl)
  obtain ⟨_, _, _, _, _, _, _, _, _, l_11, q_11⟩ := c.def_ 11 (d := d_11) rfl
  have F__law_names : Fun K "_law_names" "_law_names" (top 31) (He.ga K "_law_names") _ := fun_mk l_11 q_11 (He.keep_ok (c.fact 23 (f := .keep "_law_names") rfl))
  have m__law_made := He.glo_ok X G (c.fact 24 (f := .glo "_law_made") rfl)
  obtain ⟨_, _, _, _, _, _, _, _, _, l_12, q_12⟩ := c.def_ 12 (d := d_12) rfl
  have F__law_made : Fun K "_law_made" "_law_made" (top 34) (He.ga K "_law_made") _ := fun_mk l_12 q_12 (He.keep_ok (c.fact 25 (f := .keep "_law_made") rfl))
  have m__law_fit := He.glo_ok X G (c.fact 26 (f := .glo "_law_fit") rfl)
  obtain ⟨_, _, _, _, _, _, _, _, _, l_13, q_13⟩ := c.def_ 13 (d := d_13) rfl
  have F__law_fit : Fun K "_law_fit" "_law_fit" (top 36) (He.ga K "_law_fit") _ := fun_mk l_13 q_13 (He.keep_ok (c.fact 27 (f := .keep "_law_fit") rfl))
  have m__law_kinds := He.glo_ok X G (c.fact 28 (f := .glo "_law_kinds") rfl)
  obtain ⟨_, _, _, _, _, _, _, _, _, l_14, q_14⟩ := c.def_ 14 (d := d_14) rfl
  have F__law_kinds : Fun K "_law_kinds" "_law_kinds" (top 37) (He.ga K "_law_kinds") _ := fun_mk l_14 q_14 (He.keep_ok (c.fact 29 (f := .keep "_law_kinds") rfl))
  have m__law_only := He.glo_ok X G (c.fact 30 (f := .glo "_law_only") rfl)
  obtain ⟨_, _, _, _, _, _, _, _, _, l_15, q_15⟩ := c.def_ 15 (d := d_15) rfl
  have F__law_only : Fun K "_law_only" "_law_only" (top 38) (He.ga K "_law_only") _ := fun_mk l_15 q_15 (He.keep_ok (c.fact 31 (f := .keep "_law_only") rfl))
  have m_is_number := He.glo_ok X G (c.fact 32 (f := .glo "is_number") rfl)
  obtain ⟨_, _, _, _, _, _, _, _, _, l_16, q_16⟩ := c.def_ 16 (d := d_16) rfl
  have F_is_number : Fun K "is_number" "is_number" (top 15) (He.ga K "is_number") _ := fun_mk l_16 q_16 (He.keep_ok (c.fact 33 (f := .keep "is_number") rfl))
  have m_is_stem := He.glo_ok X G (c.fact 34 (f := .glo "is_stem") rfl)
  obtain ⟨_, _, _, _, _, _, _, _, _, l_17, q_17⟩ := c.def_ 17 (d := d_17) rfl
  have F_is_stem : Fun K "is_stem" "is_stem" (top 14) (He.ga K "is_stem") _ := fun_mk l_17 q_17 (He.keep_ok (c.fact 35 (f := .keep "is_stem") rfl))
  have m_is_word := He.glo_ok X G (c.fact 36 (f := .glo "is_word") rfl)
  obtain ⟨_, _, _, _, _, _, _, _, _, l_18, q_18⟩ := c.def_ 18 (d := d_18) rfl
  have F_is_word : Fun K "is_word" "is_word" (top 16) (He.ga K "is_word") _ := fun_mk l_18 q_18 (He.keep_ok (c.fact 37 (f := .keep "is_word") rfl))
  have m_is_row := He.glo_ok X G (c.fact 38 (f := .glo "is_row") rfl)
  obtain ⟨_, _, _, _, _, _, _, _, _, l_19, q_19⟩ := c.def_ 19 (d := d_19) rfl
  have F_is_row : Fun K "is_row" "is_row" (top 20) (He.ga K "is_row") _ := fun_mk l_19 q_19 (He.keep_ok (c.fact 39 (f := .keep "is_row") rfl))
  have m_fits := He.glo_ok X G (c.fact 40 (f := .glo "fits") rfl)
  obtain ⟨_, _, _, _, _, _, _, _, _, l_20, q_20⟩ := c.def_ 20 (d := d_20) rfl
  have F_fits : Fun K "fits" "fits" (top 21) (He.ga K "fits") _ := fun_mk l_20 q_20 (He.keep_ok (c.fact 41 (f := .keep "fits") rfl))
  have m_fitted := He.glo_ok X G (c.fact 42 (f := .glo "fitted") rfl)
  obtain ⟨_, _, _, _, _, _, _, _, _, l_21, q_21⟩ := c.def_ 21 (d := d_21) rfl
  have F_fitted : Fun K "fitted" "fitted" (top 22) (He.ga K "fitted") _ := fun_mk l_21 q_21 (He.keep_ok (c.fact 43 (f := .keep "fitted") rfl))
  have m_read_row := He.glo_ok X G (c.fact 44 (f := .glo "read_row") rfl)
  obtain ⟨_, _, _, _, _, _, _, _, _, l_22, q_22⟩ := c.def_ 22 (d := d_22) rfl
  have F_read_row : Fun K "read_row" "read_row" (top 24) (He.ga K "read_row") _ := fun_mk l_22 q_22 (He.keep_ok (c.fact 45 (f := .keep "read_row") rfl))
  have m_read := He.glo_ok X G (c.fact 46 (f := .glo "read") rfl)
  obtain ⟨_, _, _, _, _, _, _, _, _, l_23, q_23⟩ := c.def_ 23 (d := d_23) rfl
  have F_read : Fun K "read" "read" (top 25) (He.ga K "read") _ := fun_mk l_23 q_23 (He.keep_ok (c.fact 47 (f := .keep "read") rfl))
  have m__law_right := He.glo_ok X G (c.fact 48 (f := .glo "_law_right") rfl)
  obtain ⟨_, _, _, _, _, _, _, _, _, l_24, q_24⟩ := c.def_ 24 (d := d_24) rfl
  have F__law_right : Fun K "_law_right" "_law_right" (top 43) (He.ga K "_law_right") _ := fun_mk l_24 q_24 (He.keep_ok (c.fact 49 (f := .keep "_law_right") rfl))
  have m__law_text := He.glo_ok X G (c.fact 50 (f := .glo "_law_text") rfl)
  obtain ⟨_, _, _, _, _, _, _, _, _, l_25, q_25⟩ := c.def_ 25 (d := d_25) rfl
  have F__law_text : Fun K "_law_text" "_law_text" (top 39) (He.ga K "_law_text") _ := fun_mk l_25 q_25 (He.keep_ok (c.fact 51 (f := .keep "_law_text") rfl))
  have m_law := He.glo_ok X G (c.fact 52 (f := .glo "law") rfl)
  obtain ⟨_, _, _, _, _, _, _, _, _, l_26, q_26⟩ := c.def_ 26 (d := d_26) rfl
  have F_law : Fun K "law" "law" (top 45) (He.ga K "law") _ := fun_mk l_26 q_26 (He.keep_ok (c.fact 53 (f := .keep "law") rfl))
  rw [m_law] at hfa
  cases hfa
  refine ⟨_, caOf K, F_law.binds1 fun _ _ _ _ _ _ us hl => match us, hl with | [_], _ => rfl, fun base hb hg => ?_⟩
  have c__law_bent_words := ok__law_bent_words (P := P) (w := w) (base := base) (ca := caOf K) F__law_bent_words m__law_bent_words hB
  have c__law_bent := ok__law_bent (P := P) (w := w) (base := base) (ca := caOf K) F__law_bent m__law_bent hB (c__law_bent_words.mono (by decide))
  have c__law_mix := ok__law_mix (P := P) (w := w) (base := base) (ca := caOf K) F__law_mix m__law_mix hB
  have c__law_cell := ok__law_cell (P := P) (w := w) (base := base) (ca := caOf K) F__law_cell m__law_cell hB (c__law_mix.mono (by decide))
  have c__law_drawn := ok__law_drawn (P := P) (w := w) (base := base) (ca := caOf K) F__law_drawn m__law_drawn hB (c__law_mix.mono (by decide))
  have c__law_is_word := ok__law_is_word (P := P) (w := w) (base := base) (ca := caOf K) F__law_is_word m__law_is_word hB
  have c__law_read := ok__law_read (P := P) (w := w) (base := base) (ca := caOf K) F__law_read m__law_read hB (c__law_is_word.mono (by decide))
  have c__law_due := ok__law_due (P := P) (w := w) (base := base) (ca := caOf K) F__law_due m__law_due hB (c__law_read.mono (by decide))
  have c__law_told := ok__law_told (P := P) (w := w) (base := base) (ca := caOf K) F__law_told m__law_told hB
  have c__law_book := ok__law_book (P := P) (w := w) (base := base) (ca := caOf K) F__law_book m__law_book hB (c__law_drawn.mono (by decide)) (c__law_cell.mono (by decide)) (c__law_told.mono (by decide))
  have c__law_name := ok__law_name (P := P) (w := w) (base := base) (ca := caOf K) F__law_name m__law_name hB
  have c__law_names := ok__law_names (P := P) (w := w) (base := base) (ca := caOf K) F__law_names m__law_names hB (c__law_name.mono (by decide)) (c__law_drawn.mono (by decide)) (c__law_cell.mono (by decide))
  have c__law_made := ok__law_made (P := P) (w := w) (base := base) (ca := caOf K) F__law_made m__law_made hB (c__law_drawn.mono (by decide)) (c__law_cell.mono (by decide)) (c__law_names.mono (by decide)) (c__law_book.mono (by decide))
  have c__law_fit := ok__law_fit (P := P) (w := w) (base := base) (ca := caOf K) F__law_fit m__law_fit hB (c__law_is_word.mono (by decide))
  have c__law_kinds := ok__law_kinds (P := P) (w := w) (base := base) (ca := caOf K) F__law_kinds m__law_kinds hB hX
  have cH__law_kinds := okH__law_kinds (P := P) (w := w) (base := base) (ca := caOf K) F__law_kinds m__law_kinds hB hX
  have c__law_only := ok__law_only (P := P) (w := w) (base := base) (ca := caOf K) F__law_only m__law_only hB
  have c_is_number := ok_is_number (P := P) (w := w) (base := base) (ca := caOf K) F_is_number m_is_number hB k_FIGURES
  have c_is_stem := ok_is_stem (P := P) (w := w) (base := base) (ca := caOf K) F_is_stem m_is_stem hB k_LETTERS k_LONGEST
  have c_is_word := ok_is_word (P := P) (w := w) (base := base) (ca := caOf K) F_is_word m_is_word hB (c_is_stem.mono (by decide)) (c_is_number.mono (by decide))
  have c_is_row := ok_is_row (P := P) (w := w) (base := base) (ca := caOf K) F_is_row m_is_row hB (c_is_word.mono (by decide)) k_TOLD
  have c_fits := ok_fits (P := P) (w := w) (base := base) (ca := caOf K) F_fits m_fits hB (c_is_row.mono (by decide)) k_ROWS
  have c_fitted := ok_fitted (P := P) (w := w) (base := base) (ca := caOf K) F_fitted m_fitted hB (c_fits.mono (by decide)) hX
  have c_read_row := ok_read_row (P := P) (w := w) (base := base) (ca := caOf K) F_read_row m_read_row hB (c_is_word.mono (by decide)) hX
  have c_read := ok_read (P := P) (w := w) (base := base) (ca := caOf K) F_read m_read hB (c_fitted.mono (by decide)) (c_read_row.mono (by decide)) hX
  have c__law_right := ok__law_right (P := P) (w := w) (base := base) (ca := caOf K) F__law_right m__law_right hB (c_read.mono (by decide)) (c__law_only.mono (by decide)) (c__law_fit.mono (by decide)) (cH__law_kinds.mono (by decide)) hX
  have c__law_text := ok__law_text (P := P) (w := w) (base := base) (ca := caOf K) F__law_text m__law_text hB
  exact ok_law F_law hB (c__law_made.mono (by decide)) (c__law_text.mono (by decide)) (c__law_drawn.mono (by decide)) (c__law_cell.mono (by decide)) (c__law_bent.mono (by decide)) (c__law_right.mono (by decide)) (c__law_due.mono (by decide))
end Eng
open PySem PySem.W PySem.Calls PyProof.Rows
theorem Eng.answer (ns : List Int) (_ : ns.length ≤ 63) : ∃ fin, Eng.f_law_79 [.scr ns] = .ret (.val (.bool true)) fin := Eng.answer06 ns
set_option maxHeartbeats 0 in
theorem PySem.Challenge.cw_primer_k06_texts_refused_holds : PySem.Challenge.rw_primer_k06_texts_refused.Holds := by
  w_on; o_law
  refine HandSHeadRun.head_any (r := OpenLaw.row PySem.Challenge.rw_primer_k06_texts_refused) (q := view (OpenLaw.row PySem.Challenge.rw_primer_k06_texts_refused).prog [45]) (H := Eng.hk) (ob := Eng.ob) (M := 16400) (loose := Eng.loose) (d := HandSHeadRun.topDef (OpenLaw.row PySem.Challenge.rw_primer_k06_texts_refused).prog 45) (kwd := []) Eng.ob_eq
    (by kernel_rfl) (fun s => by kernel_rfl) Eng.run (by kernel_rfl) (by kernel_rfl) (by kernel_rfl) (by rfl) (by first | assumption | decide +kernel) (by decide +kernel) ⟨rfl, rfl, rfl, rfl, rfl, by decide +kernel⟩ ?hw ?hc
  case hw => w_witness2
  case hc =>
    refine Eng.walk_law (l := PySem.Challenge.rw_primer_k06_texts_refused) (n := 63) (k := 8) (x := "_law_script") rfl (by decide) (by kernel_rfl) ⟨rfl, by decide, by decide⟩ ?F Eng.answer
    intro w mg fa h Y G hmg0
    obtain ⟨K, KX, c⟩ := Y
    have hmg : mg ("law" : PySem.Str) = some (.ref fa) := by
      have e : (HandSHeadRun.topDef (OpenLaw.row PySem.Challenge.rw_primer_k06_texts_refused).prog 45).name = ("law" : PySem.Str) := by kernel_rfl
      rw [← e]
      exact hmg0
    obtain ⟨fd, ca, hb, hF⟩ := Eng.facts (P := (PySem.Challenge.rw_primer_k06_texts_refused).prog) (w := w) KX G hmg c
    exact ⟨K, fd, ca, KX, hb, hF⟩
