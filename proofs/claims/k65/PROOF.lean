import PyProof.Rows.All
import Wide.All
import OpenK.AllK
import Wide.FinOn
import HandS.ForMost
import HandS.Exc
import HandS.TryOnly
import HandS.ExcOwn
import HandS.WordsExc
import HandS.More
import KE.KDictKeyed
import KE.KeyNested
import HandS.Set
import HandS.Deep
import HandS.TupAny
import KE.SortData
import HandS.WordsDict
import HandS.SetFor
import HandS.Text
import HandS.Walk
import HandS.Zip
import PyProof.Draws
import PyProof.EnumMake
import HandS.Iter
import HandS.ForSpec
import HandS.IsInst
import PyProof.ReprRoads
import HandS.EndBits
import HandS.HeadHook1
import HandS.Style
import HandS.Rev
import HandS.ExcIs
import HandS.Dict
import KE.DataFind
import HandS.Head0
import HandS.Head1
import HandS.Head2
import HandS.Words
import HandS.HotCalls
import HandS.Strs
import HandS.Codes
import PySem.Challenge.RW_primer_k65_no_room
set_option Elab.async false
set_option linter.all false
set_option maxRecDepth 100000
/-! The engine, part 1: data, owned objects, the state relation. -/
namespace Eng
open PySem PySem.Spec L2
open PyProof.Rows hiding St

abbrev D := PyData
abbrev Zs := Addr → Prop

mutual
/-- a value reads as a datum all of whose lists are frozen (in Z) -/
inductive Dz (Z : Zs) (K : PySem.W.Frag) (H : Hp) : D → V → Prop
  | non : Dz Z K H .none .non
  | bl (b : Bool) : Dz Z K H (.bool b) (.bl b)
  | int (i : Int) : Dz Z K H (.int i) (.int i)
  | str (x : Str) : Dz Z K H (.str x) (.str x)
  | lst {a : Addr} {xs : List V} {ds : List D} (z : Z a) (r : H a = some (.lst xs)) (h : DzA Z K H ds xs) : Dz Z K H (.list ds) (.ref a)
  | tup {a : Addr} {xs : List V} {ds : List D} (r : SqT K H a xs) (h : DzA Z K H ds xs) : Dz Z K H (.tuple ds) (.ref a)
inductive DzA (Z : Zs) (K : PySem.W.Frag) (H : Hp) : List D → List V → Prop
  | nil : DzA Z K H [] []
  | cons {d : D} {v : V} {ds : List D} {vs : List V} (h : Dz Z K H d v) (t : DzA Z K H ds vs) : DzA Z K H (d :: ds) (v :: vs)
end

/-- the script: a list of ints that is locked, or written -/
def SqS (K : PySem.W.Frag) (H : Hp) (a : Addr) (ns : List Int) : Prop :=
  (∃ ob, H a = some (.frz ob (.lst (ns.map V.int)))) ∨
    ∃ (o : Obj) (its : Array Value) (n : Nat), K.lookup a = some o ∧ o.cls = .type "list" ∧ o.dict = none ∧ o.data = .seq its n ∧ its.size ≤ sizeLine ∧ Vals (ns.map V.int) its.toList
theorem SqS.sq {K : PySem.W.Frag} {H : Hp} {a : Addr} {ns : List Int} (h : SqS K H a ns) : SqL K H a (ns.map V.int) := by
  rcases h with ⟨ob, h⟩ | h
  · exact .inl (.inr ⟨ob, h⟩)
  · exact .inr h
/-- what a change of the heap keeps of frozen data -/
structure Kp (Z : Zs) (K : PySem.W.Frag) (H : Hp) (Z' : Zs) (H' : Hp) : Prop where
  z : ∀ a, Z a → Z' a
  r : ∀ a xs, Z a → H a = some (.lst xs) → H' a = some (.lst xs)
  t : ∀ a xs, SqT K H a xs → SqT K H' a xs
  f : ∀ a ns, SqS K H a ns → SqS K H' a ns

section
variable {Z Z' : Zs} {K : PySem.W.Frag} {H H' : Hp}
mutual
theorem Dz.kp (k : Kp Z K H Z' H') : ∀ {d : D} {v : V}, Dz Z K H d v → Dz Z' K H' d v
  | .none, _, h => by cases h; exact .non
  | .bool _, _, h => by cases h; exact .bl _
  | .int _, _, h => by cases h; exact .int _
  | .str _, _, h => by cases h; exact .str _
  | .list ds, _, h => by
    cases h with
    | lst z r h => exact .lst (k.z _ z) (k.r _ _ z r) (DzA.kp k h)
  | .tuple ds, _, h => by
    cases h with
    | tup r h => exact .tup (k.t _ _ r) (DzA.kp k h)
  | .dict _, _, h => by cases h
theorem DzA.kp (k : Kp Z K H Z' H') : ∀ {ds : List D} {vs : List V}, DzA Z K H ds vs → DzA Z' K H' ds vs
  | [], _, h => by cases h; exact .nil
  | d :: ds, _, h => by
    cases h with
    | cons h t => exact .cons (Dz.kp k h) (DzA.kp k t)
end
mutual
theorem Dz.dp : ∀ {d : D} {v : V}, Dz Z K H d v → Dp K H v d
  | .none, _, h => by cases h; exact .non
  | .bool _, _, h => by cases h; exact .bl _
  | .int _, _, h => by cases h; exact .int _
  | .str _, _, h => by cases h; exact .str _
  | .list ds, _, h => by
    cases h with
    | lst z r h => exact .lst (.inl (.inl r)) (DzA.dp h)
  | .tuple ds, _, h => by
    cases h with
    | tup r h => exact .tup r (DzA.dp h)
  | .dict _, _, h => by cases h
theorem DzA.dp : ∀ {ds : List D} {vs : List V}, DzA Z K H ds vs → DpAll K H vs ds
  | [], _, h => by cases h; exact .nil
  | d :: ds, _, h => by
    cases h with
    | cons h t => exact .cons (Dz.dp h) (DzA.dp t)
end
theorem DzA.length : ∀ {ds : List D} {vs : List V}, DzA Z K H ds vs → vs.length = ds.length
  | _, _, .nil => rfl
  | _, _, .cons _ t => by rw [List.length_cons, List.length_cons, DzA.length t]
theorem DzA.append : ∀ {ds es : List D} {vs ws : List V}, DzA Z K H ds vs → DzA Z K H es ws → DzA Z K H (ds ++ es) (vs ++ ws)
  | _, _, _, _, .nil, h => h
  | _, _, _, _, .cons h t, h' => .cons h (DzA.append t h')
theorem DzA.get : ∀ {ds : List D} {vs : List V} {i : Nat} {d : D}, DzA Z K H ds vs → ds[i]? = some d → ∃ v, vs[i]? = some v ∧ Dz Z K H d v
  | _, _, _, _, .nil, e => by simp at e
  | _, _, 0, d, .cons h t, e => by
    have e' := Option.some.inj (show some _ = some d by simpa using e)
    subst e'
    exact ⟨_, rfl, h⟩
  | _, _, i + 1, d, .cons h t, e => by
    obtain ⟨v, h1, h2⟩ := DzA.get (i := i) t (by simpa using e)
    exact ⟨v, by simpa using h1, h2⟩
theorem DzA.take : ∀ {ds : List D} {vs : List V} (n : Nat), DzA Z K H ds vs → DzA Z K H (ds.take n) (vs.take n)
  | _, _, 0, _ => .nil
  | _, _, _ + 1, .nil => .nil
  | _, _, n + 1, .cons h t => .cons h (DzA.take n t)
theorem DzA.drop : ∀ {ds : List D} {vs : List V} (n : Nat), DzA Z K H ds vs → DzA Z K H (ds.drop n) (vs.drop n)
  | _, _, 0, h => h
  | _, _, _ + 1, .nil => .nil
  | _, _, n + 1, .cons h t => DzA.drop n t
theorem DzA.reverse : ∀ {ds : List D} {vs : List V}, DzA Z K H ds vs → DzA Z K H ds.reverse vs.reverse
  | _, _, .nil => .nil
  | _, _, .cons h t => by
    rw [List.reverse_cons, List.reverse_cons]
    exact DzA.append (DzA.reverse t) (.cons h .nil)
theorem DzA.set : ∀ {ds : List D} {vs : List V} {d : D} {v : V} (i : Nat), DzA Z K H ds vs → Dz Z K H d v → DzA Z K H (ds.set i d) (vs.set i v)
  | _, _, _, _, _, .nil, _ => .nil
  | _, _, _, _, 0, .cons _ t, h => .cons h t
  | _, _, _, _, i + 1, .cons h t, h' => .cons h (DzA.set i t h')
theorem DzA.dropLast : ∀ {ds : List D} {vs : List V}, DzA Z K H ds vs → DzA Z K H ds.dropLast vs.dropLast
  | _, _, .nil => .nil
  | _, _, .cons _ .nil => .nil
  | _, _, .cons h (.cons h' t) => .cons h (DzA.dropLast (.cons h' t))
theorem DzA.strs : ∀ {xs : List Str} {vs : List V}, DzA Z K H (xs.map PyData.str) vs → vs = xs.map V.str
  | [], _, h => by cases h; rfl
  | x :: xs, _, h => by
    cases h with
    | cons h t =>
      cases h
      rw [DzA.strs t]; rfl
theorem DzA.ints : ∀ {xs : List Int} {vs : List V}, DzA Z K H (xs.map PyData.int) vs → vs = xs.map V.int
  | [], _, h => by cases h; rfl
  | x :: xs, _, h => by
    cases h with
    | cons h t =>
      cases h
      rw [DzA.ints t]; rfl
theorem DzA.bls : ∀ {xs : List Bool} {vs : List V}, DzA Z K H (xs.map PyData.bool) vs → vs = xs.map V.bl
  | [], _, h => by cases h; rfl
  | x :: xs, _, h => by
    cases h with
    | cons h t =>
      cases h
      rw [DzA.bls t]; rfl
end

/-- the text of a set's entry -/
def txt (e : Int × Value) : Str := match e.2 with
  | .str x _ => x
  | _ => Str.empty
/-- at a stands a set of just the texts xs -/
def SetT (w : World) (h : Heap) (a : Addr) (xs : List Str) : Prop :=
  ∃ (o : Obj) (es : Array (Int × Value)) (ep : Nat) (t : SetTable), (h.get? a = some o ∧ o.ExactSet ∧ o.data = .set es ep t) ∧ (∀ e ∈ es.toList, ∃ x tk, e = (hashStr w x, Value.str x tk)) ∧
    (es.toList.map txt).Perm xs ∧ xs.Nodup ∧ (es.size < scanBound ∧ t.fits es.size = true ∧ Ris t.place.toList ∧ (w.params.followText "set-order" = true ∨ t.led = true))
/-- an object of the frame's own, its inner data frozen; a datum; an instance -/
inductive O where
  | val (d : D)
  | scr (ns : List Int)
  | set (xs : List Str)
  | lst (ds : List D)
  | dic (es : List (D × D))
  | ins (c : Nat) (fs : List (Str × O))
  | exn (c : Nat)

/-- at a stands an exception of the class C -/
def ExT (a C : Addr) (h : Heap) : Prop := ∃ o, h.get? a = some o ∧ o.cls = .ref C ∧ o.dict = none ∧ ∃ vs, o.data = .fields vs
/-- the key of a dict with nested tuples as keys -/
def nkey : D → Option NestedKey
  | .none => some .none
  | .int i => some (.num i)
  | .str x => some (.text x)
  | .tuple ds => (nkeys ds).map .tup
  | _ => none
where nkeys : List D → Option (List NestedKey)
  | [] => some []
  | d :: ds => match nkey d, nkeys ds with
    | some k, some ks => some (k :: ks)
    | _, _ => none

/-- what the context of a program gives -/
structure Gx where
  P : Program
  w : World
  K : PySem.W.Frag
  ca : Nat → Addr

/-- a dict with nested keys, by its own object alone -/
def NDict (G : Gx) (a : Addr) (xs : List (NestedKey × Addr × Value)) : Heap → Prop := fun h =>
  ∃ o es ep, h.get? a = some o ∧ o.ExactDict ∧ o.data = .dict es ep ∧ es.toList = xs.map (entryOfKey (nestedKind G.P G.w)) ∧ (xs.map (·.1)).Nodup ∧ (a == sysModules) = false ∧ xs.length ≤ sizeLine

def NEnt (Z : Zs) (K : PySem.W.Frag) (H : Hp) (x : NestedKey × Addr × Value) (e : D × D) : Prop :=
  nkey e.1 = some x.1 ∧ x.1.depth ≤ 8 ∧ Dz Z K H e.1 (.ref x.2.1) ∧ ∃ v, RelV v x.2.2 ∧ Dz Z K H e.2 v

mutual
/-- the object o stands at v; F: the addresses that it owns -/
inductive Ro (G : Gx) (Z : Zs) (H : Hp) : O → V → List Addr → Prop
  | val {d : D} {v : V} (h : Dz Z G.K H d v) : Ro G Z H (.val d) v []
  | scr {a : Addr} {ns : List Int} (h : SqS G.K H a ns) : Ro G Z H (.scr ns) (.ref a) []
  | set {a : Addr} {xs : List Str} (e : H a = some (.ext fun h => SetT G.w h a xs)) : Ro G Z H (.set xs) (.ref a) [a]
  | lst {a : Addr} {xs : List V} {ds : List D} (e : H a = some (.lst xs)) (h : DzA Z G.K H ds xs) : Ro G Z H (.lst ds) (.ref a) [a]
  | dic {a : Addr} {kvs : List (Key × V)} {es : List (D × D)} (e : H a = some (.dK kvs)) (hk : DzA Z G.K H (es.map (·.1)) (kvs.map fun p => kV p.1)) (hv : DzA Z G.K H (es.map (·.2)) (kvs.map (·.2)))
      (nd : (kvs.map (·.1)).Nodup) : Ro G Z H (.dic es) (.ref a) [a]
  | dct {a : Addr} {xs : List (NestedKey × Addr × Value)} {es : List (D × D)} (e : H a = some (.ext (NDict G a xs))) (hx : Paired (NEnt Z G.K H) xs es) (nd : (xs.map (·.1)).Nodup) (ne : xs ≠ []) : Ro G Z H (.dic es) (.ref a) [a]
  | ins {a dx : Addr} {c : Nat} {vs : List (Str × V)} {fs : List (Str × O)} {F : List Addr} (e : H a = some (.ins (G.ca c) dx vs)) (h : RoF G Z H fs vs F) : Ro G Z H (.ins c fs) (.ref a) (a :: F)
  | exn {a : Addr} {c : Nat} (e : H a = some (.ext (ExT a (G.ca c)))) : Ro G Z H (.exn c) (.ref a) [a]
inductive RoF (G : Gx) (Z : Zs) (H : Hp) : List (Str × O) → List (Str × V) → List Addr → Prop
  | nil : RoF G Z H [] [] []
  | cons {n : Str} {o : O} {v : V} {fs : List (Str × O)} {vs : List (Str × V)} {F F' : List Addr} (h : Ro G Z H o v F) (t : RoF G Z H fs vs F') : RoF G Z H ((n, o) :: fs) ((n, v) :: vs) (F ++ F')
end

section
variable {G : Gx} {Z Z' : Zs} {H H' : Hp}
mutual
theorem Ro.kp (k : Kp Z G.K H Z' H') : ∀ {o : O} {v : V} {F : List Addr}, Ro G Z H o v F → (∀ a ∈ F, ∀ u, H a = some u → H' a = some u) → Ro G Z' H' o v F
  | .val _, _, _, h, _ => by
    cases h with
    | val h => exact .val (h.kp k)
  | .scr _, _, _, h, _ => by
    cases h with
    | scr h => exact .scr (k.f _ _ h)
  | .set _, _, _, h, hf => by
    cases h with
    | set e => exact .set (hf _ (by simp) _ e)
  | .lst _, _, _, h, hf => by
    cases h with
    | lst e h => exact .lst (hf _ (by simp) _ e) (h.kp k)
  | .dic _, _, _, h, hf => by
    cases h with
    | dic e hk hv nd => exact .dic (hf _ (by simp) _ e) (hk.kp k) (hv.kp k) nd
    | dct e hx nd ne => exact .dct (hf _ (by simp) _ e) (Paired.mapP hx fun p q ⟨h1, h2, h3, v, h4, h5⟩ => ⟨h1, h2, h3.kp k, v, h4, h5.kp k⟩) nd ne
  | .ins _ fs, _, _, h, hf => by
    cases h with
    | ins e h => exact .ins (hf _ (by simp) _ e) (RoF.kp k h fun a ha => hf a (List.mem_cons_of_mem _ ha))
  | .exn _, _, _, h, hf => by
    cases h with
    | exn e => exact .exn (hf _ (by simp) _ e)
theorem RoF.kp (k : Kp Z G.K H Z' H') : ∀ {fs : List (Str × O)} {vs : List (Str × V)} {F : List Addr}, RoF G Z H fs vs F → (∀ a ∈ F, ∀ u, H a = some u → H' a = some u) → RoF G Z' H' fs vs F
  | [], _, _, h, _ => by cases h; exact .nil
  | (n, o) :: fs, _, _, h, hf => by
    cases h with
    | cons h t => exact .cons (Ro.kp k h fun a ha => hf a (List.mem_append_left _ ha)) (RoF.kp k t fun a ha => hf a (List.mem_append_right _ ha))
end
mutual
theorem Ro.mut : ∀ {o : O} {v : V} {F : List Addr}, Ro G Z H o v F → ∀ a ∈ F, Mut (H a)
  | .val _, _, _, h, a, ha => by
    cases h with
    | val h => cases ha
  | .scr _, _, _, h, a, ha => by
    cases h with
    | scr h => cases ha
  | .set _, _, _, h, a, ha => by
    cases h with
    | set e => rw [List.mem_singleton] at ha; subst ha; rw [e]; trivial
  | .lst _, _, _, h, a, ha => by
    cases h with
    | lst e h => rw [List.mem_singleton] at ha; subst ha; rw [e]; trivial
  | .dic _, _, _, h, a, ha => by
    cases h with
    | dic e hk hv nd => rw [List.mem_singleton] at ha; subst ha; rw [e]; trivial
    | dct e hx nd ne => rw [List.mem_singleton] at ha; subst ha; rw [e]; trivial
  | .ins _ fs, _, _, h, a, ha => by
    cases h with
    | ins e h =>
      rcases List.mem_cons.mp ha with q | ha
      · subst q; rw [e]; trivial
      · exact RoF.mut h a ha
  | .exn _, _, _, h, a, ha => by
    cases h with
    | exn e => rw [List.mem_singleton] at ha; subst ha; rw [e]; trivial
theorem RoF.mut : ∀ {fs : List (Str × O)} {vs : List (Str × V)} {F : List Addr}, RoF G Z H fs vs F → ∀ a ∈ F, Mut (H a)
  | [], _, _, h, a, ha => by cases h; cases ha
  | (n, o) :: fs, _, _, h, a, ha => by
    cases h with
    | cons h t =>
      rcases List.mem_append.mp ha with ha | ha
      · exact Ro.mut h a ha
      · exact RoF.mut t a ha
end
end

/-! ### steps -/
structure Step (Z : Zs) (L : List Addr) (H : Hp) (Z' : Zs) (M : List Addr) (H' : Hp) : Prop where
  keep : ∀ a o, H a = some o → a ∉ L → H' a = some o
  zmono : ∀ a, Z a → Z' a
  znew : ∀ a, Z' a → Z a ∨ a ∈ L ∨ H a = none
  lnew : ∀ a ∈ M, a ∈ L ∨ H a = none

section
variable {K : PySem.W.Frag} {Z Z1 Z2 : Zs} {H H1 H2 : Hp} {L M L1 M2 F : List Addr}
theorem Step.refl : Step Z L H Z L H := ⟨fun _ _ e _ => e, fun _ h => h, fun _ h => .inl h, fun _ h => .inl h⟩
theorem Step.sub (s : Step Z L H Z1 M H1) (h : ∀ a ∈ L1, a ∈ M) : Step Z L H Z1 L1 H1 := ⟨s.keep, s.zmono, s.znew, fun a ha => s.lnew a (h a ha)⟩
/-- a further step of a part; F stands aside -/
theorem Step.then (s : Step Z L H Z1 (F ++ L1) H1) (t : Step Z1 L1 H1 Z2 M2 H2) : Step Z L H Z2 (F ++ M2) H2 where
  keep := fun a o e hn => t.keep a o (s.keep a o e hn) fun hl => by
    rcases s.lnew a (List.mem_append_right _ hl) with q | q
    · exact hn q
    · rw [e] at q; cases q
  zmono := fun a h => t.zmono a (s.zmono a h)
  znew := fun a h => by
    have none_of : H1 a = none → a ∈ L ∨ H a = none := fun q => by
      by_cases hl : a ∈ L
      · exact .inl hl
      · cases e : H a with
        | none => exact .inr rfl
        | some o => rw [s.keep a o e hl] at q; cases q
    rcases t.znew a h with q | q | q
    · exact s.znew a q
    · exact .inr (s.lnew a (List.mem_append_right _ q))
    · exact .inr (none_of q)
  lnew := fun a h => by
    have none_of : H1 a = none → a ∈ L ∨ H a = none := fun q => by
      by_cases hl : a ∈ L
      · exact .inl hl
      · cases e : H a with
        | none => exact .inr rfl
        | some o => rw [s.keep a o e hl] at q; cases q
    rcases List.mem_append.mp h with h | h
    · exact s.lnew a (List.mem_append_left _ h)
    · rcases t.lnew a h with q | q
      · exact s.lnew a (List.mem_append_right _ q)
      · exact none_of q
theorem Step.trans (s : Step Z L H Z1 L1 H1) (t : Step Z1 L1 H1 Z2 M2 H2) : Step Z L H Z2 M2 H2 := Step.then (F := []) s t
/-- frozen data is kept -/
theorem Step.kp (s : Step Z L H Z1 M H1) (mu : ∀ a ∈ L, Mut (H a)) (dis : ∀ a ∈ L, ¬ Z a) : Kp Z K H Z1 H1 where
  z := s.zmono
  r := fun a xs z r => by
    have hn : a ∉ L := fun h => dis a h z
    exact s.keep _ _ r hn
  t := fun a xs r => by
    rcases r with (r | ⟨o, r⟩) | r
    · refine .inl (.inl (s.keep _ _ r fun h => ?_))
      have := mu a h
      rw [r] at this
      exact this
    · refine .inl (.inr ⟨o, s.keep _ _ r fun h => ?_⟩)
      have := mu a h
      rw [r] at this
      exact this
    · exact .inr r
  f := fun a ns r => by
    rcases r with ⟨ob, r⟩ | r
    · refine .inl ⟨ob, s.keep _ _ r fun h => ?_⟩
      have := mu a h
      rw [r] at this
      exact this
    · exact .inr r
end

/-! ### the slots -/
/-- a slot: unknown, or an object (pin: a parameter's own, not to be stored over) -/
abbrev Sl := Option (Bool × O)
abbrev En := List Sl

inductive RoS (G : Gx) (Z : Zs) (H : Hp) : En → St → List Addr → Prop
  | emp : RoS G Z H [] [] []
  | no {ρ : En} {σ : St} {x : Option V} {L : List Addr} (t : RoS G Z H ρ σ L) : RoS G Z H (none :: ρ) (x :: σ) L
  | yes {ρ : En} {σ : St} {p : Bool} {o : O} {v : V} {F L : List Addr} (h : Ro G Z H o v F) (t : RoS G Z H ρ σ L) : RoS G Z H (some (p, o) :: ρ) (some v :: σ) (F ++ L)

section
variable {G : Gx} {Z Z' : Zs} {H H' : Hp}
theorem RoS.kp (k : Kp Z G.K H Z' H') : ∀ {ρ : En} {σ : St} {L : List Addr}, RoS G Z H ρ σ L → (∀ a ∈ L, ∀ u, H a = some u → H' a = some u) → RoS G Z' H' ρ σ L
  | _, _, _, .emp, _ => .emp
  | _, _, _, .no t, hf => .no (RoS.kp k t hf)
  | _, _, _, .yes h t, hf => .yes (h.kp k fun a ha => hf a (List.mem_append_left _ ha)) (RoS.kp k t fun a ha => hf a (List.mem_append_right _ ha))
theorem RoS.mut : ∀ {ρ : En} {σ : St} {L : List Addr}, RoS G Z H ρ σ L → ∀ a ∈ L, Mut (H a)
  | _, _, _, .emp, _, h => by cases h
  | _, _, _, .no t, a, h => RoS.mut t a h
  | _, _, _, .yes h t, a, ha => by
    rcases List.mem_append.mp ha with ha | ha
    · exact h.mut a ha
    · exact RoS.mut t a ha
theorem RoS.length : ∀ {ρ : En} {σ : St} {L : List Addr}, RoS G Z H ρ σ L → ρ.length = σ.length
  | _, _, _, .emp => rfl
  | _, _, _, .no t => by rw [List.length_cons, List.length_cons, RoS.length t]
  | _, _, _, .yes _ t => by rw [List.length_cons, List.length_cons, RoS.length t]
/-- a slot is read: its object, and the rest -/
theorem RoS.get : ∀ {ρ : En} {σ : St} {L : List Addr} {i : Nat} {p : Bool} {o : O}, RoS G Z H ρ σ L → ρ[i]? = some (some (p, o)) → ∃ v F, σ[i]? = some (some v) ∧ Ro G Z H o v F ∧ (∀ a ∈ F, a ∈ L)
  | _, _, _, _, _, _, .emp, e => by simp at e
  | _, _, _, 0, _, _, .no t, e => by simp at e
  | _, _, _, i + 1, _, _, .no t, e => by
    obtain ⟨v, F, h1, h2, h3⟩ := RoS.get (i := i) t (by simpa using e)
    exact ⟨v, F, by simpa using h1, h2, h3⟩
  | _, _, _, 0, p, o, .yes h t, e => by
    simp only [List.getElem?_cons_zero, Option.some.injEq, Prod.mk.injEq] at e
    obtain ⟨rfl, rfl⟩ := e
    exact ⟨_, _, rfl, h, fun a ha => List.mem_append_left _ ha⟩
  | _, _, _, i + 1, _, _, .yes h t, e => by
    obtain ⟨v, F, h1, h2, h3⟩ := RoS.get (i := i) t (by simpa using e)
    exact ⟨v, F, by simpa using h1, h2, fun a ha => List.mem_append_right _ (h3 a ha)⟩
end

/-- the state: slots ρ at σ, in all L owned; pinned ones at their θ -/
structure Rep (θ : Nat → V) (G : Gx) (Z : Zs) (H : Hp) (ρ : En) (σ : St) (L : List Addr) : Prop where
  sl : RoS G Z H ρ σ L
  nd : L.Nodup
  dis : ∀ a ∈ L, ¬ Z a
  zd : ∀ a, Z a → H a ≠ none
  pn : ∀ i o, ρ[i]? = some (some (true, o)) → σ[i]? = some (some (θ i))
end Eng
/-! The engine, part 2: outcomes, operands, readings of expressions. -/
namespace Eng
open PySem PySem.Spec L2
open PyProof.Rows hiding St

inductive Out (α : Type) where
  | ok (a : α) (ρ : En)
  | exc (c : Nat) (ρ : En)
  | stuck
def Out.bind {α β : Type} : Out α → (α → En → Out β) → Out β
  | .ok a ρ, f => f a ρ
  | .exc c ρ, _ => .exc c ρ
  | .stuck, _ => .stuck
@[simp] theorem bind_ok {α β : Type} (a : α) (ρ : En) (f : α → En → Out β) : (Out.ok a ρ).bind f = f a ρ := rfl
@[simp] theorem bind_exc {α β : Type} (c : Nat) (ρ : En) (f : α → En → Out β) : (Out.exc c ρ : Out α).bind f = .exc c ρ := rfl
@[simp] theorem bind_stuck {α β : Type} (f : α → En → Out β) : (Out.stuck : Out α).bind f = .stuck := rfl

inductive Opd where
  | tmp (o : O)
  | nm (i : Nat)
abbrev ES := En → Out Opd
abbrev AS := En → Out (List Opd)
abbrev TS' := En → Out Bool

def slotO (ρ : En) (i : Nat) : Option O := match ρ[i]? with
  | some (some po) => some po.2
  | _ => none
def look (ρ : En) : Opd → Option O
  | .tmp o => some o
  | .nm i => slotO ρ i
def looks (ρ : En) : List Opd → Option (List O)
  | [] => some []
  | p :: ps => match look ρ p, looks ρ ps with
    | some o, some os => some (o :: os)
    | _, _ => none
/-- an answer that may be lacking -/
def put (ρ : En) : Option O → Out Opd
  | some o => .ok (.tmp o) ρ
  | none => .stuck

/-! ### operands that are held -/
inductive OpsOk (G : Gx) (Z : Zs) (H : Hp) (σ : L2.St) : List Opd → List V → List Addr → Prop
  | nil : OpsOk G Z H σ [] [] []
  | tmp {o : O} {v : V} {F F' : List Addr} {ps : List Opd} {vs : List V} (h : Ro G Z H o v F) (t : OpsOk G Z H σ ps vs F') : OpsOk G Z H σ (.tmp o :: ps) (v :: vs) (F ++ F')
  | nm {i : Nat} {v : V} {F' : List Addr} {ps : List Opd} {vs : List V} (h : σ[i]? = some (some v)) (t : OpsOk G Z H σ ps vs F') : OpsOk G Z H σ (.nm i :: ps) (v :: vs) F'
structure Held (G : Gx) (Z : Zs) (H : Hp) (σ : L2.St) (L : List Addr) (ps : List Opd) (vs : List V) (F : List Addr) : Prop where
  ok : OpsOk G Z H σ ps vs F
  nd : (F ++ L).Nodup
  dis : ∀ a ∈ F, ¬ Z a

section
variable {θ : Nat → V} {G : Gx} {Z Z1 Z2 : Zs} {H H1 H2 : Hp} {σ : L2.St} {L L1 L2' F F1 F2 : List Addr} {ps qs : List Opd} {vs ws : List V} {ρ ρ1 : En}
theorem OpsOk.kp (k : Kp Z1 G.K H1 Z2 H2) : ∀ {ps : List Opd} {vs : List V} {F : List Addr}, OpsOk G Z1 H1 σ ps vs F → (∀ a ∈ F, ∀ u, H1 a = some u → H2 a = some u) → OpsOk G Z2 H2 σ ps vs F
  | _, _, _, .nil, _ => .nil
  | _, _, _, .tmp h t, hf => .tmp (h.kp k fun a ha => hf a (List.mem_append_left _ ha)) (OpsOk.kp k t fun a ha => hf a (List.mem_append_right _ ha))
  | _, _, _, .nm h t, hf => .nm h (OpsOk.kp k t hf)
theorem OpsOk.mut : ∀ {ps : List Opd} {vs : List V} {F : List Addr}, OpsOk G Z H σ ps vs F → ∀ a ∈ F, Mut (H a)
  | _, _, _, .nil, _, h => by cases h
  | _, _, _, .tmp h t, a, ha => (List.mem_append.mp ha).elim (h.mut a) (OpsOk.mut t a)
  | _, _, _, .nm _ t, a, ha => OpsOk.mut t a ha
theorem OpsOk.append : ∀ {ps qs : List Opd} {vs ws : List V} {F F' : List Addr}, OpsOk G Z H σ ps vs F → OpsOk G Z H σ qs ws F' → OpsOk G Z H σ (ps ++ qs) (vs ++ ws) (F ++ F')
  | _, _, _, _, _, _, .nil, h => h
  | _, _, _, _, _, _, .tmp h t, h' => by
    rw [List.append_assoc]
    exact .tmp h (OpsOk.append t h')
  | _, _, _, _, _, _, .nm h t, h' => .nm h (OpsOk.append t h')
theorem mut_some {H : Hp} {a : Addr} (m : Mut (H a)) : H a ≠ none := fun e => by rw [e] at m; exact m
/-- held operands are held on when a part of the state has gone a step -/
theorem Held.carry (h : Held G Z1 H1 σ L1 ps vs F1) (r : Rep θ G Z1 H1 ρ1 σ L1) (s : Step Z1 L1 H1 Z2 (F2 ++ L2') H2) (nd : (F2 ++ L2').Nodup) : Held G Z2 H2 σ (F2 ++ L2') ps vs F1 := by
  have mu := h.ok.mut
  have nL : ∀ a ∈ F1, a ∉ L1 := fun a ha hl => (List.nodup_append.mp h.nd).2.2 a ha a hl rfl
  refine ⟨h.ok.kp (s.kp r.sl.mut r.dis) fun a ha u e => s.keep a u e (nL a ha), ?_, fun a ha z => ?_⟩
  · refine List.nodup_append.mpr ⟨(List.nodup_append.mp h.nd).1, nd, fun a ha b hb e => ?_⟩
    subst e
    rcases s.lnew a hb with q | q
    · exact nL a ha q
    · exact mut_some (mu a ha) q
  · rcases s.znew a z with q | q | q
    · exact h.dis a ha q
    · exact nL a ha q
    · exact mut_some (mu a ha) q
theorem Held.join (h1 : Held G Z H σ (F2 ++ L) ps vs F1) (h2 : Held G Z H σ L qs ws F2) : Held G Z H σ L (ps ++ qs) (vs ++ ws) (F1 ++ F2) :=
  ⟨h1.ok.append h2.ok, by rw [List.append_assoc]; exact h1.nd, fun a ha => (List.mem_append.mp ha).elim (h1.dis a) (h2.dis a)⟩
theorem Held.none (r : Rep θ G Z H ρ σ L) : Held G Z H σ L [] [] [] := ⟨.nil, r.nd, fun _ h => by cases h⟩
/-- it can be read -/
def Rb (G : Gx) (Z : Zs) (H : Hp) (o : O) (v : V) : Prop := ∃ F, Ro G Z H o v F
theorem slotO_some {ρ : En} {i : Nat} {o : O} (e : slotO ρ i = some o) : ∃ p, ρ[i]? = some (some (p, o)) := by
  unfold slotO at e
  split at e
  · rename_i po h
    cases e
    exact ⟨po.1, h⟩
  · cases e
theorem Rep.look (r : Rep θ G Z H ρ σ L) {i : Nat} {o : O} {v : V} (e : slotO ρ i = some o) (hv : σ[i]? = some (some v)) : Rb G Z H o v := by
  obtain ⟨p, e⟩ := slotO_some e
  obtain ⟨v', F, h1, h2, _⟩ := r.sl.get e
  rw [hv] at h1
  cases h1
  exact ⟨F, h2⟩
theorem OpsOk.looks (r : Rep θ G Z H ρ σ L) : ∀ {ps : List Opd} {vs : List V} {F : List Addr} {os : List O}, OpsOk G Z H σ ps vs F → looks ρ ps = some os → Paired (Rb G Z H) os vs
  | _, _, _, _, .nil, e => by
    cases e
    exact .nil
  | _, _, _, os, .tmp (ps := ps) h t, e => by
    unfold Eng.looks at e
    cases q : Eng.looks ρ ps with
    | none => rw [q] at e; simp [look] at e
    | some us =>
      rw [q] at e
      simp only [look, Option.some.injEq] at e
      subst e
      exact .cons ⟨_, h⟩ (OpsOk.looks r t q)
  | _, _, _, os, .nm (i := i) (ps := ps) h t, e => by
    unfold Eng.looks at e
    cases q : Eng.looks ρ ps with
    | none => rw [q] at e; cases q2 : slotO ρ i <;> simp [look, q2] at e
    | some us =>
      cases q2 : slotO ρ i with
      | none => simp [look, q2] at e
      | some o =>
        rw [q] at e
        simp only [look, q2, Option.some.injEq] at e
        subst e
        exact .cons (r.look q2 h) (OpsOk.looks r t q)
end

/-! ### an answer at a new object -/
structure Al (G : Gx) (Z : Zs) (H : Hp) (o : O) (v : V) (H' : Hp) (F : List Addr) : Prop where
  same : Same H H'
  ro : Ro G Z H' o v F
  nd : F.Nodup
  new : ∀ a ∈ F, H a = none
section
variable {θ : Nat → V} {G : Gx} {Z : Zs} {H H' : Hp} {σ : L2.St} {L F : List Addr} {ρ : En} {o : O} {v : V}
theorem same_kp {K : PySem.W.Frag} (s : Same H H') : Kp Z K H Z H' := ⟨fun _ h => h, fun a xs _ e => s _ _ e, fun a xs h => by
  rcases h with (e | ⟨o, e⟩) | e
  · exact .inl (.inl (s _ _ e))
  · exact .inl (.inr ⟨o, s _ _ e⟩)
  · exact .inr e, fun a ns h => by
  rcases h with ⟨ob, e⟩ | e
  · exact .inl ⟨ob, s _ _ e⟩
  · exact .inr e⟩
theorem Rep.same (r : Rep θ G Z H ρ σ L) (s : Same H H') : Rep θ G Z H' ρ σ L :=
  ⟨r.sl.kp (same_kp s) fun a _ u e => s a u e, r.nd, r.dis, fun a z e => by
    cases q : H a with
    | none => exact r.zd a z q
    | some o => (rw [s a o q] at e; cases e), r.pn⟩
theorem Al.rep (x : Al G Z H o v H' F) (r : Rep θ G Z H ρ σ L) : Rep θ G Z H' ρ σ L := r.same x.same
theorem Al.disj (x : Al G Z H o v H' F) (r : Rep θ G Z H ρ σ L) : (F ++ L).Nodup ∧ ∀ a ∈ F, ¬ Z a :=
  ⟨List.nodup_append.mpr ⟨x.nd, r.nd, fun a ha b hb e => by subst e; exact mut_some (r.sl.mut a hb) (x.new a ha)⟩, fun a ha z => r.zd a z (x.new a ha)⟩
theorem Al.held (x : Al G Z H o v H' F) (r : Rep θ G Z H ρ σ L) : Held G Z H' σ L [.tmp o] [v] F := by
  obtain ⟨h1, h2⟩ := x.disj r
  have h3 : OpsOk G Z H' σ [.tmp o] [v] (F ++ []) := .tmp x.ro .nil
  rw [List.append_nil] at h3
  exact ⟨h3, h1, h2⟩
theorem Al.step (x : Al G Z H o v H' F) : Step Z L H Z (F ++ L) H' :=
  ⟨fun a u e _ => x.same a u e, fun _ z => z, fun _ z => .inl z, fun a ha => (List.mem_append.mp ha).elim (fun h => .inr (x.new a h)) .inl⟩
theorem Al.val {d : D} {v : V} (h : Dz Z G.K H d v) : Al G Z H (.val d) v H [] := ⟨fun _ _ e => e, .val h, List.nodup_nil, fun _ h => by cases h⟩
theorem same_new {p : Addr} {o : HO} (h : H p = none) : Same H (upd H p o) := fun b x e => by
  rw [upd_ne (ne_of_none e h)]
  exact e
theorem Al.lst {ds : List D} {xs : List V} {p : Addr} (h : DzA Z G.K H ds xs) (np : H p = none) : Al G Z H (.lst ds) (.ref p) (upd H p (.lst xs)) [p] :=
  ⟨same_new np, .lst upd_same (h.kp (same_kp (same_new np))), by simp, fun a ha => by
    rw [List.mem_singleton] at ha
    rw [ha]; exact np⟩
theorem Al.tup {ds : List D} {xs : List V} {p : Addr} (h : DzA Z G.K H ds xs) (np : H p = none) : Al G Z H (.val (.tuple ds)) (.ref p) (upd H p (.tup xs)) [] :=
  ⟨same_new np, .val (.tup (.inl (.inl upd_same)) (h.kp (same_kp (same_new np)))), List.nodup_nil, fun _ h => by cases h⟩
end

/-! ### the readings -/
section
variable (X : Cx) (ca : Nat → Addr) (W : WX)
abbrev gx : Gx := ⟨X.prog, X.w, X.K, ca⟩
/-- what is wanted behind an expression; behind a list of them -/
def PoE (θ : Nat → V) (Z : Zs) (L : List Addr) (H : Hp) (σ : L2.St) (Q : VK) : Out Opd → Prop
  | .ok p ρ' => ∀ Z' H' L' F v, Rep θ (gx X ca) Z' H' ρ' σ L' → Held (gx X ca) Z' H' σ L' [p] [v] F → Step Z L H Z' (F ++ L') H' → Q v H'
  | .exc c ρ' => ∀ Z' H' L', Rep θ (gx X ca) Z' H' ρ' σ L' → Step Z L H Z' L' H' → W (.ref (ca c)) none σ H'
  | .stuck => False
def PoA (θ : Nat → V) (Z : Zs) (L : List Addr) (H : Hp) (σ : L2.St) (Q : List V → Hp → Prop) : Out (List Opd) → Prop
  | .ok ps ρ' => ∀ Z' H' L' F vs, Rep θ (gx X ca) Z' H' ρ' σ L' → Held (gx X ca) Z' H' σ L' ps vs F → Step Z L H Z' (F ++ L') H' → Q vs H'
  | .exc c ρ' => ∀ Z' H' L', Rep θ (gx X ca) Z' H' ρ' σ L' → Step Z L H Z' L' H' → W (.ref (ca c)) none σ H'
  | .stuck => False
def PoT (θ : Nat → V) (Z : Zs) (L : List Addr) (H : Hp) (σ : L2.St) (Q : Bool → Hp → Prop) : Out Bool → Prop
  | .ok b ρ' => ∀ Z' H' L', Rep θ (gx X ca) Z' H' ρ' σ L' → Step Z L H Z' L' H' → Q b H'
  | .exc c ρ' => ∀ Z' H' L', Rep θ (gx X ca) Z' H' ρ' σ L' → Step Z L H Z' L' H' → W (.ref (ca c)) none σ H'
  | .stuck => False
def RdE (f : ES) : TE := fun σ H Q => ∃ θ Z ρ L, Rep θ (gx X ca) Z H ρ σ L ∧ PoE X ca W θ Z L H σ Q (f ρ)
def RdA (f : AS) : TA := fun σ H Q => ∃ θ Z ρ L, Rep θ (gx X ca) Z H ρ σ L ∧ PoA X ca W θ Z L H σ Q (f ρ)
def RdT (f : TS') : TT := fun σ H Q => ∃ θ Z ρ L, Rep θ (gx X ca) Z H ρ σ L ∧ PoT X ca W θ Z L H σ Q (f ρ)
end

theorem PE.imp {X : Cx} {e : Expr} {t t' : TE} (h : PE X e t) (i : ∀ σ H Q, t' σ H Q → t σ H Q) : PE X e t' := ⟨fun pins s σ H Q I q => h.run pins s σ H Q I (i σ H Q q)⟩
theorem PT.imp {X : Cx} {e : Expr} {t t' : TT} (h : PT X e t) (i : ∀ σ H Q, t' σ H Q → t σ H Q) : PT X e t' := ⟨fun pins s σ H Q I q => h.run pins s σ H Q I (i σ H Q q)⟩
theorem PW.imp {X : Cx} {e : Expr} {t t' : TT} (h : PW X e t) (i : ∀ σ H Q, t' σ H Q → t σ H Q) : PW X e t' := ⟨fun wh pins s σ H Q I q => h.run wh pins s σ H Q I (i σ H Q q)⟩
theorem PA.imp {X : Cx} {es : List Expr} {t t' : TA} (h : PA X es t) (i : ∀ σ H Q, t' σ H Q → t σ H Q) : PA X es t' := ⟨fun pos pins s σ H Q I q => h.run pos pins s σ H Q I (i σ H Q q)⟩

/-! ### the combinators of expressions -/
def oNm (i : Nat) : ES := fun ρ => match slotO ρ i with
  | some _ => .ok (.nm i) ρ
  | none => .stuck
def oC (d : D) : ES := fun ρ => .ok (.tmp (.val d)) ρ
def oAs : List ES → AS
  | [] => fun ρ => .ok [] ρ
  | f :: fs => fun ρ => (f ρ).bind fun p ρ1 => (oAs fs ρ1).bind fun ps ρ2 => .ok (p :: ps) ρ2
/-- an operation on operands that are read -/
def oF (sem : List O → Option O) (as : AS) : ES := fun ρ => (as ρ).bind fun ps ρ1 => match looks ρ1 ps with
  | some os => put ρ1 (sem os)
  | none => .stuck
def two (sem : O → O → Option O) : List O → Option O
  | [a, b] => sem a b
  | _ => none
def one (sem : O → Option O) : List O → Option O
  | [a] => sem a
  | _ => none
/-- two operands -/
def o2 (sem : O → O → Option O) (a b : ES) : ES := oF (two sem) (oAs [a, b])

section
variable {X : Cx} {ca : Nat → Addr} {W : WX} {a b e : Expr} {es : List Expr} {f g : ES} {fs : AS} {pos : Pos}
theorem se_name {i : Nat} {x : Str} (hN : X.N[i]? = some x) (hv : Vis X.env.scope x) (hd : (x == ("__debug__" : Str)) = false) (hcd : (x == ("__classdict__" : Str)) = false) : PE X (.Name x pos) (RdE X ca W (oNm i)) :=
  PE.imp (pe_var hN hv hd hcd) fun σ H Q ⟨θ, Z, ρ, L, r, q⟩ => by
    unfold oNm at q
    cases e : slotO ρ i with
    | none => rw [e] at q; exact q.elim
    | some o =>
      rw [e] at q
      obtain ⟨p, e'⟩ := slotO_some e
      obtain ⟨v, F, h1, h2, _⟩ := r.sl.get e'
      exact ⟨v, h1, q Z H L [] v r ⟨.nm h1 .nil, r.nd, fun _ h => by cases h⟩ Step.refl⟩
theorem rd_const {d : D} {v : V} (h : ∀ Z H, Dz Z X.K H d v) : ∀ σ H Q, RdE X ca W (oC d) σ H Q → tC v σ H Q := fun σ H Q ⟨θ, Z, ρ, L, r, q⟩ =>
  q Z H L [] v r ((Al.val (G := gx X ca) (h Z H)).held r) Step.refl
theorem se_int {i : Int} {j : Nat} : PE X (.Constant (.int i) j pos) (RdE X ca W (oC (.int i))) := PE.imp pe_int (rd_const fun _ _ => .int i)
theorem se_bl {i : Bool} {j : Nat} : PE X (.Constant (.bool i) j pos) (RdE X ca W (oC (.bool i))) := PE.imp pe_bl (rd_const fun _ _ => .bl i)
theorem se_str {x : Str} {j : Nat} : PE X (.Constant (.str x) j pos) (RdE X ca W (oC (.str x))) := PE.imp pe_str (rd_const fun _ _ => .str x)
theorem se_non {j : Nat} : PE X (.Constant .none j pos) (RdE X ca W (oC .none)) := PE.imp pe_non (rd_const fun _ _ => .non)
/-- a module's constant -/
theorem se_glob {x : Str} {d : D} {v : V} {u : Value} (hg : Gl X x) (hm : X.mg x = some u) (r : RelV v u) (hd : (x == ("__debug__" : Str)) = false) (h : ∀ Z H, Dz Z X.K H d v) : PE X (.Name x pos) (RdE X ca W (oC d)) := PE.imp (pe_glob hg hm r hd) (rd_const h)

/-- one expression, then others -/
theorem seq2 {θ : Nat → V} {Z : Zs} {ρ : En} {L : List Addr} {σ : L2.St} {H : Hp} {Q : List V → Hp → Prop} {ta : TE} (r : Rep θ (gx X ca) Z H ρ σ L)
    (q : PoA X ca W θ Z L H σ Q ((f ρ).bind fun p ρ1 => (fs ρ1).bind fun ps ρ2 => .ok (p :: ps) ρ2)) (ha : ∀ Q', RdE X ca W f σ H Q' → ta σ H Q') : ta σ H fun x H1 => RdA X ca W fs σ H1 fun xs H2 => Q (x :: xs) H2 := by
  refine ha _ ⟨θ, Z, ρ, L, r, ?_⟩
  cases e : f ρ with
  | stuck => rw [e] at q; exact q
  | exc c ρ1 => rw [e] at q; exact q
  | ok p ρ1 =>
    rw [e] at q
    intro Z1 H1 L1 F1 v1 r1 h1 s1
    refine ⟨θ, Z1, ρ1, L1, r1, ?_⟩
    simp only [bind_ok] at q
    cases e2 : fs ρ1 with
    | stuck => rw [e2] at q; exact q
    | exc c ρ2 =>
      rw [e2] at q
      intro Z2 H2 L2 r2 s2
      exact q Z2 H2 L2 r2 ((s1.sub fun a h => List.mem_append_right _ h).trans s2)
    | ok ps ρ2 =>
      rw [e2] at q
      intro Z2 H2 L2 F2 vs r2 h2 s2
      have h3 := (h1.carry r1 s2 h2.nd).join h2
      exact q Z2 H2 L2 (F1 ++ F2) (v1 :: vs) r2 h3 (by rw [List.append_assoc]; exact s1.then s2)
theorem RdE.mono {σ : L2.St} {H : Hp} {Q Q' : VK} (h : RdE X ca W f σ H Q) (i : ∀ v H, Q v H → Q' v H) : RdE X ca W f σ H Q' := by
  obtain ⟨θ, Z, ρ, L, r, q⟩ := h
  refine ⟨θ, Z, ρ, L, r, ?_⟩
  cases e : f ρ with
  | stuck => rw [e] at q; exact q
  | exc c ρ1 => rw [e] at q; exact q
  | ok p ρ1 => rw [e] at q; exact fun Z1 H1 L1 F v r1 h1 s1 => i _ _ (q Z1 H1 L1 F v r1 h1 s1)
theorem rdA_one {σ : L2.St} {H : Hp} {Q : List V → Hp → Prop} (h : RdA X ca W (oAs [g]) σ H Q) : RdE X ca W g σ H fun y H1 => Q [y] H1 := by
  obtain ⟨θ, Z, ρ, L, r, q⟩ := h
  refine ⟨θ, Z, ρ, L, r, ?_⟩
  unfold oAs at q
  cases e : g ρ with
  | stuck => rw [e] at q; exact q
  | exc c ρ1 => rw [e] at q; exact q
  | ok p ρ1 => rw [e] at q; exact fun Z1 H1 L1 F v r1 h1 s1 => q Z1 H1 L1 F [v] r1 h1 s1
theorem sa_nil : PA X [] (RdA X ca W (oAs [])) := PA.imp pa_nil fun σ H Q ⟨θ, Z, ρ, L, r, q⟩ => q Z H L [] [] r (Held.none r) Step.refl
theorem sa_cons {fs : List ES} (ha : PE X e (RdE X ca W f)) (hr : PA X es (RdA X ca W (oAs fs))) (hs : starEach (e :: es) X.env = (false, eval e X.env) :: starEach es X.env) : PA X (e :: es) (RdA X ca W (oAs (f :: fs))) :=
  PA.imp (pa_cons ha hr hs) fun σ H Q ⟨θ, Z, ρ, L, r, q⟩ => seq2 (fs := oAs fs) r q fun _ h => h

/-- an operation's semantics on values -/
def RSem (sem : List O → Option O) : List V → Hp → VK → Prop := fun xs H Q =>
  ∃ Z os r, (∀ a, Z a → H a ≠ none) ∧ Paired (Rb (gx X ca) Z H) os xs ∧ sem os = some r ∧ ∀ v H' F, Al (gx X ca) Z H r v H' F → Q v H'
/-- what an operation's reading gives back to the whole -/
theorem fin_op {sem : List O → Option O} {θ : Nat → V} {Z : Zs} {L : List Addr} {H : Hp} {σ : L2.St} {Q : VK} {ps : List Opd} {ρ1 : En} {Z1 : Zs} {H1 : Hp} {L1 F : List Addr} {vs : List V}
    (q : PoE X ca W θ Z L H σ Q (match looks ρ1 ps with | some os => put ρ1 (sem os) | none => .stuck)) (r1 : Rep θ (gx X ca) Z1 H1 ρ1 σ L1) (h1 : Held (gx X ca) Z1 H1 σ L1 ps vs F) (s1 : Step Z L H Z1 (F ++ L1) H1) :
    RSem (X := X) (ca := ca) sem vs H1 Q := by
  cases e : looks ρ1 ps with
  | none => rw [e] at q; exact q.elim
  | some os =>
    rw [e] at q
    cases e2 : sem os with
    | none => simp only [e2, put] at q; exact q.elim
    | some o =>
      simp only [e2, put] at q
      refine ⟨Z1, os, o, r1.zd, h1.ok.looks r1 e, e2, fun v H' F' x => ?_⟩
      exact q Z1 H' L1 F' v (x.rep r1) (x.held r1) ((s1.sub fun a h => List.mem_append_right _ h).trans x.step)
theorem rd_oF {sem : List O → Option O} {σ : L2.St} {H : Hp} {Q : VK} (h : RdE X ca W (oF sem fs) σ H Q) : RdA X ca W fs σ H fun vs H1 => RSem (X := X) (ca := ca) sem vs H1 Q := by
  obtain ⟨θ, Z, ρ, L, r, q⟩ := h
  refine ⟨θ, Z, ρ, L, r, ?_⟩
  unfold oF at q
  cases e : fs ρ with
  | stuck => rw [e] at q; exact q
  | exc c ρ1 => rw [e] at q; exact q
  | ok ps ρ1 =>
    rw [e] at q
    intro Z1 H1 L1 F vs r1 h1 s1
    exact fin_op q r1 h1 s1
/-- binary operators -/
def BinS (X : Cx) (ca : Nat → Addr) (op : Value → Value → Sem Value) (sem : O → O → Option O) : Prop := OpR X op (fun x y H Q => RSem (X := X) (ca := ca) (two sem) [x, y] H Q)
theorem rd_o2 {sem : O → O → Option O} {σ : L2.St} {H : Hp} {Q : VK} (h : RdE X ca W (o2 sem f g) σ H Q) : tOp (fun x y H Q => RSem (X := X) (ca := ca) (two sem) [x, y] H Q) (RdE X ca W f) (RdE X ca W g) σ H Q := by
  obtain ⟨θ, Z, ρ, L, r, q⟩ := rd_oF h
  have h1 := seq2 (fs := oAs [g]) (ta := RdE X ca W f) (Q := fun vs H1 => RSem (X := X) (ca := ca) (two sem) vs H1 Q) r q (fun _ h => h)
  exact h1.mono fun v H1 h2 => rdA_one h2
theorem se_bin {sem : O → O → Option O} {op : Operator} (ho : BinS X ca (binaryOp op) sem) (ha : PE X a (RdE X ca W f)) (hb : PE X b (RdE X ca W g)) : PE X (.BinOp a op b pos) (RdE X ca W (o2 sem f g)) :=
  PE.imp (pe_op ho ha hb) fun _ _ _ h => rd_o2 h
theorem se_cmp {sem : O → O → Option O} {op : CmpOp} (ho : BinS X ca (compareOp op) sem) (ha : PE X a (RdE X ca W f)) (hb : PE X b (RdE X ca W g)) (hm : behindInMarks op b = false) : PE X (.Compare a [op] [b] pos) (RdE X ca W (o2 sem f g)) :=
  PE.imp (pe_cmpR ho ha hb hm) fun _ _ _ h => rd_o2 h
end
end Eng
set_option maxHeartbeats 1000000
/-! The engine, part 3: operators. -/
namespace Eng
open PySem PySem.Spec L2
open PyProof.Rows hiding St

/-! ### views -/
def O.list? : O → Option (List D)
  | .lst ds => some ds
  | .val (.list ds) => some ds
  | _ => none
def O.tup? : O → Option (List D)
  | .val (.tuple ds) => some ds
  | _ => none
def O.seq? : O → Option (List D)
  | .lst ds => some ds
  | .val (.list ds) => some ds
  | .val (.tuple ds) => some ds
  | _ => none
def O.view? : O → Option D
  | .lst ds => some (.list ds)
  | .val d => some d
  | _ => none
section
variable {G : Gx} {Z : Zs} {H : Hp} {o : O} {v : V} {ds : List D} {d : D}
theorem rb_list (h : Rb G Z H o v) (e : o.list? = some ds) : ∃ a xs, v = .ref a ∧ H a = some (.lst xs) ∧ DzA Z G.K H ds xs := by
  obtain ⟨F, h⟩ := h
  cases h with
  | lst e1 h1 => cases e; exact ⟨_, _, rfl, e1, h1⟩
  | val h1 =>
    cases h1 with
    | lst z r h => cases e; exact ⟨_, _, rfl, r, h⟩
    | _ => cases e
  | _ => cases e
theorem rb_tup (h : Rb G Z H o v) (e : o.tup? = some ds) : ∃ a xs, v = .ref a ∧ SqT G.K H a xs ∧ DzA Z G.K H ds xs := by
  obtain ⟨F, h⟩ := h
  cases h with
  | val h1 =>
    cases h1 with
    | tup r h => cases e; exact ⟨_, _, rfl, r, h⟩
    | _ => cases e
  | _ => cases e
theorem rb_seq (h : Rb G Z H o v) (e : o.seq? = some ds) : ∃ a xs, v = .ref a ∧ (SqL G.K H a xs ∨ SqT G.K H a xs) ∧ DzA Z G.K H ds xs := by
  obtain ⟨F, h⟩ := h
  cases h with
  | lst e1 h1 => cases e; exact ⟨_, _, rfl, .inl (.inl (.inl e1)), h1⟩
  | val h1 =>
    cases h1 with
    | lst z r h => cases e; exact ⟨_, _, rfl, .inl (.inl (.inl r)), h⟩
    | tup r h => cases e; exact ⟨_, _, rfl, .inr r, h⟩
    | _ => cases e
  | _ => cases e
theorem rb_view (h : Rb G Z H o v) (e : o.view? = some d) : Dp G.K H v d := by
  obtain ⟨F, h⟩ := h
  cases h with
  | lst e1 h1 => cases e; exact .lst (.inl (.inl e1)) h1.dp
  | val h1 => cases e; exact h1.dp
  | _ => cases e
theorem rb_val (h : Rb G Z H (.val d) v) : Dz Z G.K H d v := by
  obtain ⟨F, h⟩ := h
  cases h with
  | val h1 => exact h1
theorem rb_int {i : Int} (h : Rb G Z H (.val (.int i)) v) : v = .int i := by cases rb_val h; rfl
theorem rb_str {i : Str} (h : Rb G Z H (.val (.str i)) v) : v = .str i := by cases rb_val h; rfl
theorem rb_bl {i : Bool} (h : Rb G Z H (.val (.bool i)) v) : v = .bl i := by cases rb_val h; rfl
end
theorem pair2 {α β : Type} {R : α → β → Prop} {a b : α} {x y : β} (h : Paired R [a, b] [x, y]) : R a x ∧ R b y := by
  cases h with
  | cons h1 t =>
    cases t with
    | cons h2 t => exact ⟨h1, h2⟩
theorem pair1 {α β : Type} {R : α → β → Prop} {a : α} {x : β} (h : Paired R [a] [x]) : R a x := by
  cases h with
  | cons h1 t => exact h1
theorem two_some {sem : O → O → Option O} {os : List O} {r : O} (e : two sem os = some r) : ∃ a b, os = [a, b] ∧ sem a b = some r := by
  unfold two at e
  split at e
  · exact ⟨_, _, rfl, e⟩
  · cases e
theorem one_some {sem : O → Option O} {os : List O} {r : O} (e : one sem os = some r) : ∃ a, os = [a] ∧ sem a = some r := by
  unfold one at e
  split at e
  · exact ⟨_, rfl, e⟩
  · cases e
section
variable {X : Cx} {ca : Nat → Addr}
/-- the frame of a binary operator's proof -/
theorem binS_of {f : Value → Value → Sem Value} {sem : O → O → Option O}
    (h : ∀ (pins : List (Addr × Obj)) (s : Shared) (σ : L2.St) (H : Hp) (x y : V) (v u : Value) (Q : VK) (Z : Zs) (a b r : O), Inv X pins σ H s → RelV x v → RelV y u → Rb (gx X ca) Z H a x → Rb (gx X ca) Z H b y → sem a b = some r →
      (∀ v H' F, Al (gx X ca) Z H r v H' F → Q v H') → wpAny (model X.prog X.w) X.A (f v u) (EP X pins σ Q) X.xe s) : BinS X ca f sem := by
  intro pins s σ H x y v u Q I rx ry ⟨Z, os, r, zd, hp, e, q⟩
  obtain ⟨a, b, rfl, e⟩ := two_some e
  obtain ⟨h1, h2⟩ := pair2 hp
  exact h pins s σ H x y v u Q Z a b r I rx ry h1 h2 e q
end

/-! ### arithmetic -/
def addS : O → O → Option O
  | .val (.int i), .val (.int j) => some (.val (.int (i + j)))
  | .val (.str x), .val (.str y) => if x.length + y.length ≤ sizeLine then some (.val (.str (x ++ y))) else none
  | .val (.tuple xs), .val (.tuple ys) => if xs.length + ys.length ≤ sizeLine then some (.val (.tuple (xs ++ ys))) else none
  | .lst xs, .lst ys => if xs.length + ys.length ≤ sizeLine then some (.lst (xs ++ ys)) else none
  | .lst xs, .val (.list ys) => if xs.length + ys.length ≤ sizeLine then some (.lst (xs ++ ys)) else none
  | .val (.list xs), .lst ys => if xs.length + ys.length ≤ sizeLine then some (.lst (xs ++ ys)) else none
  | .val (.list xs), .val (.list ys) => if xs.length + ys.length ≤ sizeLine then some (.lst (xs ++ ys)) else none
  | _, _ => none
def intS (C : Int → Int → Prop) [∀ i j, Decidable (C i j)] (g : Int → Int → Int) : O → O → Option O
  | .val (.int i), .val (.int j) => if C i j then some (.val (.int (g i j))) else none
  | _, _ => none
def subS := intS (fun _ _ => True) fun i j => i - j
def mulS := intS (fun i j => (-(2 ^ 64) < i ∧ i < 2 ^ 64) ∨ (-(2 ^ 64) < j ∧ j < 2 ^ 64)) fun i j => i * j
def fdivS := intS (fun _ j => 0 < j ∧ j < 1073741824) fun i j => i / j
def modS := intS (fun _ j => 0 < j) fun i j => i % j
def powS := intS (fun i j => 0 ≤ j ∧ j ≤ 1000000 ∧ i.natAbs < 2 ^ 64) fun i j => i ^ j.toNat

section
variable {X : Cx} {ca : Nat → Addr}
theorem intS_ok {C : Int → Int → Prop} [∀ i j, Decidable (C i j)] {g : Int → Int → Int} {f : Value → Value → Sem Value} {C' : Int → Int → Prop} (h : OpR X f (rI C' fun i j => .int (g i j))) (hC : ∀ i j, C i j → C' i j) : BinS X ca f (intS C g) := binS_of fun pins s σ H x y v u Q Z a b r I rx ry ha hb e q => by
  unfold intS at e
  split at e
  · rename_i i j
    split at e
    · rename_i hc
      cases e
      cases rb_int ha
      cases rb_int hb
      exact h pins s σ H _ _ v u Q I rx ry ⟨i, j, rfl, rfl, hC i j hc, q _ _ [] (Al.val (.int _))⟩
    · cases e
  · cases e
theorem bin_sub : BinS X ca (binaryOp .Sub) subS := intS_ok (C' := fun _ _ => True) (fun pins s σ H x y v u Q I rx ry ⟨i, j, e1, e2, _, q⟩ => op_sub pins s σ H x y v u Q I rx ry ⟨i, j, e1, e2, q⟩) fun _ _ h => h
theorem bin_mul : BinS X ca (binaryOp .Mult) mulS := intS_ok op_mul fun _ _ h => h
theorem bin_fdiv : BinS X ca (binaryOp .FloorDiv) fdivS := intS_ok op_fdiv fun _ _ h => h
theorem bin_mod : BinS X ca (binaryOp .Mod) modS := intS_ok op_mod fun _ _ h => h
theorem bin_pow : BinS X ca (binaryOp .Pow) powS := intS_ok op_pow fun _ _ h => h
theorem DzA.nil_iff {Z : Zs} {K : PySem.W.Frag} {H : Hp} {ds : List D} {xs : List V} (h : DzA Z K H ds xs) (e : xs = []) : ds = [] := by
  subst e
  cases h
  rfl
theorem bin_add : BinS X ca (binaryOp .Add) addS := binS_of fun pins s σ H x y v u Q Z a b r I rx ry ha hb e q => by
  have lists : ∀ xs ys, a.list? = some xs → b.list? = some ys → (if xs.length + ys.length ≤ sizeLine then some (O.lst (xs ++ ys)) else none) = some r → wpAny (model X.prog X.w) X.A (binaryOp .Add v u) (EP X pins σ Q) X.xe s := fun xs ys e1 e2 e => by
    split at e
    · rename_i hc
      cases e
      obtain ⟨p, us, rfl, hp, dp⟩ := rb_list ha e1
      obtain ⟨p', ws, rfl, hp', dp'⟩ := rb_list hb e2
      exact op_cat pins s σ H _ _ v u Q I rx ry ⟨p, p', us, ws, rfl, rfl, hp, hp', by rw [dp.length, dp'.length]; exact hc, fun l nl => q _ _ _ (Al.lst (dp.append dp') nl)⟩
    · cases e
  unfold addS at e
  split at e
  · cases e
    cases rb_int ha
    cases rb_int hb
    exact op_add pins s σ H _ _ v u Q I rx ry ⟨_, _, rfl, rfl, q _ _ [] (Al.val (.int _))⟩
  · split at e
    · rename_i hc
      cases e
      cases rb_str ha
      cases rb_str hb
      exact op_add_str pins s σ H _ _ v u Q I rx ry ⟨_, _, rfl, rfl, hc, q _ _ [] (Al.val (.str _))⟩
    · cases e
  · split at e
    · rename_i xs ys hc
      cases e
      obtain ⟨p, us, rfl, hp, dp⟩ := rb_tup ha rfl
      obtain ⟨p', ws, rfl, hp', dp'⟩ := rb_tup hb rfl
      refine op_catA pins s σ H _ _ v u Q I rx ry ⟨p, p', us, ws, rfl, rfl, hp, hp', by rw [dp.length, dp'.length]; exact hc, fun e => ?_, fun _ e => ?_, fun _ _ l nl => q _ _ _ (Al.tup (dp.append dp') nl)⟩
      · cases dp.nil_iff e
        exact q _ _ [] (Al.val (.tup hp' dp'))
      · cases dp'.nil_iff e
        rw [List.append_nil] at q
        exact q _ _ [] (Al.val (.tup hp dp))
    · cases e
  · exact lists _ _ rfl rfl e
  · exact lists _ _ rfl rfl e
  · exact lists _ _ rfl rfl e
  · exact lists _ _ rfl rfl e
  · cases e
end

/-! ### comparisons -/
def isStrD : D → Bool
  | .str _ => true
  | _ => false
/-- == of data: two texts, or data that lies within the model's line -/
def eqD? (d e : D) : Option Bool := if (isStrD d && isStrD e || SeqAt.shaped d && SeqAt.shaped e) = true then some (PyData.eqv d e) else none
def eqS (a b : O) : Option O := match a.view?, b.view? with
  | some d, some e => (eqD? d e).map fun k => .val (.bool k)
  | _, _ => none
def neS (a b : O) : Option O := match a.view?, b.view? with
  | some d, some e => (eqD? d e).map fun k => .val (.bool (!k))
  | _, _ => none
def cmpS (p : Int → Int → Bool) (ps : List Nat → List Nat → Bool) : O → O → Option O
  | .val (.int i), .val (.int j) => some (.val (.bool (p i j)))
  | .val (.str i), .val (.str j) => some (.val (.bool (ps i.cps.toList j.cps.toList)))
  | _, _ => none
def ltS := cmpS (fun i j => decide (i < j)) fun i j => decide (i < j)
def leS := cmpS (fun i j => decide (i ≤ j)) fun i j => !decide (j < i)
def gtS := cmpS (fun i j => decide (j < i)) fun i j => decide (j < i)
def geS := cmpS (fun i j => decide (j ≤ i)) fun i j => !decide (i < j)
def isNoneO : O → Bool
  | .val .none => true
  | _ => false
def isS (a b : O) : Option O := if isNoneO b = true then some (.val (.bool (isNoneO a))) else none
def isnotS (a b : O) : Option O := if isNoneO b = true then some (.val (.bool (!isNoneO a))) else none
section
variable {X : Cx} {ca : Nat → Addr}
theorem eqv_str (x y : Str) : PyData.eqv (.str x) (.str y) = (x == y) := by simp [PyData.eqv]
theorem eqD_ok {d e : D} {k : Bool} (h : eqD? d e = some k) : (∃ x y, d = .str x ∧ e = .str y ∧ k = decide (x = y)) ∨ (SeqAt.shaped d = true ∧ SeqAt.shaped e = true ∧ k = PyData.eqv d e) := by
  unfold eqD? at h
  split at h
  · rename_i hc
    cases h
    rcases Bool.or_eq_true_iff.mp hc with hc | hc
    · left
      rw [Bool.and_eq_true] at hc
      cases d <;> cases e <;> simp [isStrD] at hc
      refine ⟨_, _, rfl, rfl, ?_⟩
      rw [eqv_str]
      exact Bool.beq_eq_decide_eq _ _
    · rw [Bool.and_eq_true] at hc
      exact .inr ⟨hc.1, hc.2, rfl⟩
  · cases h
theorem bin_eq (hu : X.A.units + 64 < cLine) : BinS X ca (compareOp .Eq) eqS := binS_of fun pins s σ H x y v u Q Z a b r I rx ry ha hb e q => by
  unfold eqS at e
  split at e
  · rename_i d d' e1 e2
    cases e3 : eqD? d d' with
    | none => rw [e3] at e; cases e
    | some k =>
      rw [e3] at e
      cases e
      have h1 := rb_view ha e1
      have h2 := rb_view hb e2
      rcases eqD_ok e3 with ⟨x', y', rfl, rfl, rfl⟩ | ⟨s1, s2, rfl⟩
      · cases h1
        cases h2
        refine op_eq pins s σ H _ _ v u Q I rx ry ⟨rfl, ?_⟩
        have hd : decide (V.str x' = V.str y') = decide (x' = y') := by
          by_cases h : x' = y'
          · subst h; simp
          · rw [decide_eq_false h, decide_eq_false fun e => h (V.str.inj e)]
        rw [hd]
        exact q _ _ [] (Al.val (.bl _))
      · exact op_eqD hu pins s σ H _ _ v u Q I rx ry ⟨_, _, h1, h2, s1, s2, q _ _ [] (Al.val (.bl _))⟩
  · cases e
theorem bin_ne (hu : X.A.units + 64 < cLine) : BinS X ca (compareOp .NotEq) neS := binS_of fun pins s σ H x y v u Q Z a b r I rx ry ha hb e q => by
  unfold neS at e
  split at e
  · rename_i d d' e1 e2
    cases e3 : eqD? d d' with
    | none => rw [e3] at e; cases e
    | some k =>
      rw [e3] at e
      cases e
      have h1 := rb_view ha e1
      have h2 := rb_view hb e2
      rcases eqD_ok e3 with ⟨x', y', rfl, rfl, rfl⟩ | ⟨s1, s2, rfl⟩
      · cases h1
        cases h2
        refine op_ne pins s σ H _ _ v u Q I rx ry ⟨rfl, ?_⟩
        have hd : decide (V.str x' = V.str y') = decide (x' = y') := by
          by_cases h : x' = y'
          · subst h; simp
          · rw [decide_eq_false h, decide_eq_false fun e => h (V.str.inj e)]
        rw [hd]
        exact q _ _ [] (Al.val (.bl _))
      · exact op_neD hu pins s σ H _ _ v u Q I rx ry ⟨_, _, h1, h2, s1, s2, q _ _ [] (Al.val (.bl _))⟩
  · cases e
theorem cmp_ok {p : Int → Int → Bool} {ps : List Nat → List Nat → Bool} {f : Value → Value → Sem Value} (h : OpR X f (rI0 fun i j => .bl (p i j)))
    (h' : OpR X f (fun x y H Q => ∃ i j, x = .str i ∧ y = .str j ∧ Q (.bl (ps i.cps.toList j.cps.toList)) H)) : BinS X ca f (cmpS p ps) := binS_of fun pins s σ H x y v u Q Z a b r I rx ry ha hb e q => by
  unfold cmpS at e
  split at e
  · cases e
    cases rb_int ha
    cases rb_int hb
    exact h pins s σ H _ _ v u Q I rx ry ⟨_, _, rfl, rfl, q _ _ [] (Al.val (.bl _))⟩
  · cases e
    cases rb_str ha
    cases rb_str hb
    exact h' pins s σ H _ _ v u Q I rx ry ⟨_, _, rfl, rfl, q _ _ [] (Al.val (.bl _))⟩
  · cases e
theorem bin_lt : BinS X ca (compareOp .Lt) ltS := cmp_ok op_lt op_lt_str
theorem bin_gt : BinS X ca (compareOp .Gt) gtS := cmp_ok op_gt op_gt_str
end
end Eng
set_option maxHeartbeats 1000000
/-! The engine, part 4: dicts, in, items, slices. -/
namespace Eng
open PySem PySem.Spec L2
open PyProof.Rows hiding St

/-! ### dicts as lists of pairs -/
def keyOf : D → Option Key
  | .str x => some (.inr x)
  | .int i => some (.inl i)
  | _ => none
def nkOf (d : D) : Option NestedKey := match nkey d with
  | some (.tup ks) => if (NestedKey.tup ks).depth ≤ 8 then some (.tup ks) else none
  | _ => none
def dget (es : List (D × D)) (k : D) : Option D := (es.find? fun e => PyData.eqv e.1 k).map (·.2)
def dhas (es : List (D × D)) (k : D) : Bool := es.any fun e => PyData.eqv e.1 k
def dput (es : List (D × D)) (k v : D) : List (D × D) := if dhas es k = true then es.map (fun e => if PyData.eqv e.1 k = true then (e.1, v) else e) else es ++ [(k, v)]
/-- the key is of the dict's kind -/
def dOk (es : List (D × D)) (k : D) : Bool := ((keyOf k).isSome && es.all fun e => (keyOf e.1).isSome) || ((nkOf k).isSome && es.all fun e => (nkOf e.1).isSome)

section
variable {Z : Zs} {K : PySem.W.Frag} {H : Hp}
theorem key_dz {d : D} {κ : Key} (h : Dz Z K H d (kV κ)) : keyOf d = some κ := by
  cases κ with
  | inl i => cases h; rfl
  | inr x => cases h; rfl
theorem key_v {d : D} {v : V} {κ : Key} (h : Dz Z K H d v) (e : keyOf d = some κ) : v = kV κ := by
  cases h <;> simp [keyOf] at e
  · subst e; rfl
  · subst e; rfl
theorem eqv_key {a b : D} {κ κ' : Key} (h : keyOf a = some κ) (h' : keyOf b = some κ') : PyData.eqv a b = decide (κ = κ') := by
  cases a <;> simp [keyOf] at h <;> subst h <;> cases b <;> simp [keyOf] at h' <;> subst h' <;> simp [PyData.eqv] <;> exact Bool.beq_eq_decide_eq _ _
theorem nkey_ref {d : D} {κ : NestedKey} (e : nkOf d = some κ) : ∃ ds, d = .tuple ds := by
  unfold nkOf at e
  cases d with
  | tuple ds => exact ⟨ds, rfl⟩
  | _ => simp [nkey] at e
theorem keyOf_tup {d : D} {κ : NestedKey} (e : nkOf d = some κ) : keyOf d = none := by
  obtain ⟨ds, rfl⟩ := nkey_ref e
  rfl
theorem nkOf_some {d : D} {κ : NestedKey} (e : nkOf d = some κ) : nkey d = some κ ∧ κ.depth ≤ 8 := by
  unfold nkOf at e
  split at e
  · rename_i ks h
    split at e
    · rename_i hd
      cases e
      exact ⟨h, hd⟩
    · cases e
  · cases e
mutual
theorem nkey_eqv : ∀ {a b : D} {x y : NestedKey}, nkey a = some x → nkey b = some y → PyData.eqv a b = decide (x = y)
  | .none, b, x, y, h, h' => by
    simp [nkey] at h; subst h
    cases b <;> simp [nkey] at h'
    · subst h'; simp [PyData.eqv]
    · subst h'; simp [PyData.eqv]
    · subst h'; simp [PyData.eqv]
    · obtain ⟨ks, _, rfl⟩ := h'; simp [PyData.eqv]
  | .int i, b, x, y, h, h' => by
    simp [nkey] at h; subst h
    cases b <;> simp [nkey] at h'
    · subst h'; first | (simp [PyData.eqv]; done) | (simp [PyData.eqv]; exact Bool.beq_eq_decide_eq _ _)
    · subst h'; first | (simp [PyData.eqv]; done) | (simp [PyData.eqv]; exact Bool.beq_eq_decide_eq _ _)
    · subst h'; first | (simp [PyData.eqv]; done) | (simp [PyData.eqv]; exact Bool.beq_eq_decide_eq _ _)
    · obtain ⟨ks, _, rfl⟩ := h'; simp [PyData.eqv]
  | .str i, b, x, y, h, h' => by
    simp [nkey] at h; subst h
    cases b <;> simp [nkey] at h'
    · subst h'; first | (simp [PyData.eqv]; done) | (simp [PyData.eqv]; exact Bool.beq_eq_decide_eq _ _)
    · subst h'; first | (simp [PyData.eqv]; done) | (simp [PyData.eqv]; exact Bool.beq_eq_decide_eq _ _)
    · subst h'; first | (simp [PyData.eqv]; done) | (simp [PyData.eqv]; exact Bool.beq_eq_decide_eq _ _)
    · obtain ⟨ks, _, rfl⟩ := h'; simp [PyData.eqv]
  | .tuple ds, b, x, y, h, h' => by
    simp [nkey] at h
    obtain ⟨ks, hk, rfl⟩ := h
    cases b <;> simp [nkey] at h'
    · subst h'; simp [PyData.eqv]
    · subst h'; simp [PyData.eqv]
    · subst h'; simp [PyData.eqv]
    · obtain ⟨ks', hk', rfl⟩ := h'
      simp only [PyData.eqv, NestedKey.tup.injEq]
      exact nkeys_eqv hk hk'
  | .bool _, _, _, _, h, _ => by simp [nkey] at h
  | .list _, _, _, _, h, _ => by simp [nkey] at h
  | .dict _, _, _, _, h, _ => by simp [nkey] at h
theorem nkeys_eqv : ∀ {a b : List D} {x y : List NestedKey}, nkey.nkeys a = some x → nkey.nkeys b = some y → PyData.eqvAll a b = decide (x = y)
  | [], b, x, y, h, h' => by
    simp [nkey.nkeys] at h; subst h
    cases b with
    | nil => simp [nkey.nkeys] at h'; subst h'; simp [PyData.eqvAll]
    | cons d ds =>
      unfold nkey.nkeys at h'
      split at h'
      · cases h'; simp [PyData.eqvAll]
      · cases h'
  | c :: cs, b, x, y, h, h' => by
    unfold nkey.nkeys at h
    split at h
    · rename_i k ks h1 h2
      cases h
      cases b with
      | nil => simp [nkey.nkeys] at h'; subst h'; simp [PyData.eqvAll]
      | cons d ds =>
        unfold nkey.nkeys at h'
        split at h'
        · rename_i k' ks' h1' h2'
          cases h'
          simp only [PyData.eqvAll, nkey_eqv h1 h1', nkeys_eqv h2 h2', List.cons.injEq]
          by_cases e1 : k = k' <;> by_cases e2 : ks = ks' <;> simp [e1, e2]
        · cases h'
    · cases h
end
/-- a dict with plain keys, asked -/
theorem dget_val : ∀ {es : List (D × D)} {kvs : List (Key × V)} {k : D} {κ : Key}, DzA Z K H (es.map (·.1)) (kvs.map fun p => kV p.1) → DzA Z K H (es.map (·.2)) (kvs.map (·.2)) → keyOf k = some κ →
    (valV kvs κ).isSome = dhas es k ∧ ∀ d, dget es k = some d → ∃ v, valV kvs κ = some v ∧ Dz Z K H d v
  | [], [], _, _, _, _, _ => ⟨rfl, fun d e => by simp [dget] at e⟩
  | [], _ :: _, _, _, h, _, _ => by cases h
  | _ :: _, [], _, _, h, _, _ => by cases h
  | (a, b) :: es, (c, v) :: kvs, k, κ, h1, h2, hk => by
    cases h1 with
    | cons h1 t1 =>
      cases h2 with
      | cons h2 t2 =>
        have e1 : PyData.eqv a k = decide (c = κ) := eqv_key (key_dz h1) hk
        obtain ⟨i1, i2⟩ := dget_val t1 t2 hk
        by_cases e : c = κ
        · rw [valV_pos (p := (c, v)) e]
          refine ⟨by simp [dhas, e1, e], fun d q => ?_⟩
          simp [dget, e1, e] at q
          subst q
          exact ⟨v, rfl, h2⟩
        · rw [valV_neg (p := (c, v)) e]
          refine ⟨by rw [i1]; simp [dhas, e1, e], fun d q => ?_⟩
          refine i2 d ?_
          simpa [dget, e1, e] using q
theorem map_dput : ∀ {es : List (D × D)} {kvs : List (Key × V)} {k d : D} {κ : Key} {v : V}, DzA Z K H (es.map (·.1)) (kvs.map fun p => kV p.1) → DzA Z K H (es.map (·.2)) (kvs.map (·.2)) → keyOf k = some κ → Dz Z K H d v →
    DzA Z K H ((es.map fun e => if PyData.eqv e.1 k = true then (e.1, d) else e).map (·.1)) ((kvs.map fun kv => if kv.1 = κ then (kv.1, v) else kv).map fun p => kV p.1) ∧
    DzA Z K H ((es.map fun e => if PyData.eqv e.1 k = true then (e.1, d) else e).map (·.2)) ((kvs.map fun kv => if kv.1 = κ then (kv.1, v) else kv).map (·.2))
  | [], [], _, _, _, _, _, _, _, _ => ⟨.nil, .nil⟩
  | [], _ :: _, _, _, _, _, h, _, _, _ => by cases h
  | _ :: _, [], _, _, _, _, h, _, _, _ => by cases h
  | (a, b) :: es, (c, w) :: kvs, k, d, κ, v, h1, h2, hk, hd => by
    cases h1 with
    | cons h1 t1 =>
      cases h2 with
      | cons h2 t2 =>
        have e1 : PyData.eqv a k = decide (c = κ) := eqv_key (key_dz h1) hk
        obtain ⟨i1, i2⟩ := map_dput t1 t2 hk hd
        by_cases e : c = κ
        · simp only [List.map_cons, e1, e, decide_true, if_true]
          exact ⟨.cons (by rw [← e]; exact h1) i1, .cons hd i2⟩
        · simp only [List.map_cons, e1, e, decide_false, if_false, Bool.false_eq_true]
          exact ⟨.cons h1 i1, .cons h2 i2⟩
theorem dput_ok {es : List (D × D)} {kvs : List (Key × V)} {k d : D} {κ : Key} {v : V} (h1 : DzA Z K H (es.map (·.1)) (kvs.map fun p => kV p.1)) (h2 : DzA Z K H (es.map (·.2)) (kvs.map (·.2))) (hk : keyOf k = some κ) (hkv : Dz Z K H k (kV κ)) (hd : Dz Z K H d v) :
    DzA Z K H ((dput es k d).map (·.1)) ((putK kvs κ v).map fun p => kV p.1) ∧ DzA Z K H ((dput es k d).map (·.2)) ((putK kvs κ v).map (·.2)) := by
  have e := (dget_val h1 h2 hk).1
  unfold dput putK
  rw [valV_any, e]
  split
  · exact map_dput h1 h2 hk hd
  · rw [List.map_append, List.map_append, List.map_append, List.map_append]
    exact ⟨h1.append (.cons hkv .nil), h2.append (.cons hd .nil)⟩
/-- all keys plain, or none there -/
theorem all_key : ∀ {es : List (D × D)} {kvs : List (Key × V)}, DzA Z K H (es.map (·.1)) (kvs.map fun p => kV p.1) → (es.all fun e => (nkOf e.1).isSome) = true → es = [] ∧ kvs = []
  | [], [], _, _ => ⟨rfl, rfl⟩
  | [], _ :: _, h, _ => by cases h
  | (a, b) :: es, [], h, _ => by cases h
  | (a, b) :: es, (c, v) :: kvs, h, q => by
    cases h with
    | cons h t =>
      rw [List.all_cons, Bool.and_eq_true] at q
      obtain ⟨κ, e⟩ := Option.isSome_iff_exists.mp q.1
      have := keyOf_tup e
      rw [key_dz h] at this
      cases this
theorem all_nkey : ∀ {xs : List (NestedKey × Addr × Value)} {es : List (D × D)}, Paired (NEnt Z K H) xs es → (es.all fun e => (keyOf e.1).isSome) = true → xs = []
  | _, _, .nil, _ => rfl
  | _, (ek, ev) :: _, .cons h t, q => by
    rw [List.all_cons, Bool.and_eq_true] at q
    obtain ⟨h1, h2, h3, _⟩ := h
    replace h3 : Dz Z K H ek _ := h3
    replace q : (keyOf ek).isSome = true ∧ _ := q
    cases h3 with
    | lst => simp [keyOf] at q
    | tup => simp [keyOf] at q
/-- nested keys, asked -/
theorem dget_nk : ∀ {xs : List (NestedKey × Addr × Value)} {es : List (D × D)} {k : D} {κ : NestedKey}, Paired (NEnt Z K H) xs es → nkey k = some κ →
    (atKey xs κ).isSome = dhas es k ∧ ∀ d, dget es k = some d → ∃ p v, atKey xs κ = some p ∧ RelV v p.2 ∧ Dz Z K H d v
  | _, _, _, _, .nil, _ => ⟨rfl, fun d e => by simp [dget] at e⟩
  | x :: xs, e :: es, k, κ, .cons h t, hk => by
    obtain ⟨h1, h2, h3, v, h4, h5⟩ := h
    have e1 : PyData.eqv e.1 k = decide (x.1 = κ) := nkey_eqv h1 hk
    obtain ⟨i1, i2⟩ := dget_nk t hk
    by_cases q : x.1 = κ
    · refine ⟨by simp [atKey, dhas, e1, q], fun d q2 => ?_⟩
      simp [dget, e1, q] at q2
      subst q2
      exact ⟨x.2, v, by simp [atKey, q], h4, h5⟩
    · have ea : atKey (x :: xs) κ = atKey xs κ := by simp [atKey, q]
      rw [ea]
      refine ⟨by rw [i1]; simp [dhas, e1, q], fun d q2 => i2 d ?_⟩
      simpa [dget, e1, q] using q2
end

/-! ### from the abstract heap to the keys of the model -/
section
variable {X : Cx} {pins : List (Addr × Obj)} {σ : L2.St} {H : Hp} {s : Shared} {Z : Zs}
mutual
theorem nested_is (I : Inv X pins σ H s) : ∀ {d : D} {v : V} {u : Value} {κ : NestedKey}, Dz Z X.K H d v → RelV v u → nkey d = some κ → NestedIs s.heap κ u
  | .none, _, _, _, h, r, e => by
    simp [nkey] at e; subst e
    cases h; cases r
    exact .none
  | .int i, _, _, _, h, r, e => by
    simp [nkey] at e; subst e
    cases h
    obtain ⟨t, rfl⟩ := r
    exact .int i t
  | .str i, _, _, _, h, r, e => by
    simp [nkey] at e; subst e
    cases h
    obtain ⟨t, rfl⟩ := r
    exact .text i t
  | .tuple ds, _, _, _, h, r, e => by
    simp [nkey] at e
    obtain ⟨ks, hk, rfl⟩ := e
    cases h with
    | tup q h =>
      cases r
      obtain ⟨its, rv, ⟨o, ho, hc, n, hd⟩, _⟩ := I.tuple q
      exact .tup ho hc hd (nested_all I h rv hk)
  | .bool _, _, _, _, _, _, e => by simp [nkey] at e
  | .list _, _, _, _, _, _, e => by simp [nkey] at e
  | .dict _, _, _, _, _, _, e => by simp [nkey] at e
theorem nested_all (I : Inv X pins σ H s) : ∀ {ds : List D} {vs : List V} {us : List Value} {ks : List NestedKey}, DzA Z X.K H ds vs → Vals vs us → nkey.nkeys ds = some ks → NestedAll s.heap ks us
  | [], _, _, _, h, r, e => by
    simp [nkey.nkeys] at e; subst e
    cases h; cases r
    exact .nil
  | d :: ds, _, _, _, h, r, e => by
    unfold nkey.nkeys at e
    split at e
    · rename_i k ks h1 h2
      cases e
      cases h with
      | cons h t =>
        cases r with
        | cons r rr => exact .cons (nested_is I h r h1) (nested_all I t rr h2)
    · cases e
end
/-- a dict with nested keys stands there -/
theorem ndict_at (I : Inv X pins σ H s) {a : Addr} {xs : List (NestedKey × Addr × Value)} {es : List (D × D)} {G : Gx} (hP : G.P = X.prog) (hw : G.w = X.w) (e : H a = some (.ext (NDict G a xs))) (hx : Paired (NEnt Z X.K H) xs es) :
    s.heap.DictOfH (nestedKind X.prog X.w) a xs ∧ (a == sysModules) = false ∧ xs.length ≤ sizeLine := by
  obtain ⟨⟨o, ds, ep, h1, h2, h3, h4, h5, h6, h7⟩, _⟩ := I.hok a _ e
  rw [hP, hw] at h4
  refine ⟨⟨o, ds, ep, h1, h2, h3, h4, fun x hx' => ?_, h5⟩, h6, h7⟩
  obtain ⟨i, hi⟩ := List.mem_iff_getElem?.mp hx'
  have get : ∀ {xs : List (NestedKey × Addr × Value)} {es : List (D × D)} {i : Nat}, Paired (NEnt Z X.K H) xs es → xs[i]? = some x → ∃ e, NEnt Z X.K H x e := by
    intro xs es i h
    induction h generalizing i with
    | nil => intro e; simp at e
    | cons h t ih =>
      cases i with
      | zero => intro e; simp at e; subst e; exact ⟨_, h⟩
      | succ i => intro e; exact ih (by simpa using e)
  obtain ⟨e', q1, q2, q3, _⟩ := get hx hi
  exact ⟨nested_is I q3 rfl q1, q2⟩
/-- the empty dict, as one with nested keys -/
theorem ndict_nil (I : Inv X pins σ H s) {a : Addr} (e : H a = some (.dK [])) : s.heap.DictOfH (nestedKind X.prog X.w) a [] ∧ (a == sysModules) = false := by
  obtain ⟨_, h6, vs, rel, o, ds, ep, h1, h2, h3, h4, h5, h7⟩ := I.hok a _ e
  cases rel
  refine ⟨⟨o, ds, ep, h1, h2, h3, ?_, fun x hx => (by cases hx), List.nodup_nil⟩, h6⟩
  cases q : ds.toList with
  | nil => rfl
  | cons x r =>
    rw [q] at h5
    cases h5
end
end Eng
set_option maxHeartbeats 1000000
/-! The engine, part 5: in, items, slices, built-ins. -/
namespace Eng
open PySem PySem.Spec L2
open PyProof.Rows hiding St

/-! ### in -/
def hasS (a b : O) : Option Bool :=
  match b with
  | .dic es => match a with
    | .val k => if dOk es k = true then some (dhas es k) else none
    | _ => none
  | .val (.str z) => match a with
    | .val (.str x) => match x.cps.toList with
      | [c] => some (decide (c ∈ z.cps.toList))
      | _ => none
    | _ => none
  | b => match a.view?, b.seq? with
    | some d, some ds => if (isStrD d && ds.all isStrD || SeqAt.shaped d && SeqAt.shaped (.list ds)) = true then some (ds.any fun y => PyData.eqv y d) else none
    | _, _ => none
def inS (a b : O) : Option O := (hasS a b).map fun k => .val (.bool k)
def notinS (a b : O) : Option O := (hasS a b).map fun k => .val (.bool (!k))

section
variable {X : Cx} {ca : Nat → Addr} {pins : List (Addr × Obj)} {σ : L2.St} {H : Hp} {s : Shared} {Z : Zs}
theorem strs_flat : ∀ {ds : List D} {vs : List V}, DzA Z X.K H ds vs → (ds.all isStrD) = true → (vs.all flatV) = true ∧ ∀ (x : Str), (inV (.str x) vs = ds.any fun y => PyData.eqv y (.str x))
  | [], _, h, _ => by
    cases h
    exact ⟨rfl, fun _ => rfl⟩
  | d :: ds, _, h, q => by
    cases h with
    | cons h t =>
      rw [List.all_cons, Bool.and_eq_true] at q
      obtain ⟨i1, i2⟩ := strs_flat t q.2
      cases d <;> simp [isStrD] at q
      cases h
      refine ⟨by rw [List.all_cons, i1]; rfl, fun x => ?_⟩
      have := i2 x
      unfold inV at this ⊢
      rw [List.any_cons, List.any_cons, this, eqv_str]
      rfl
theorem d_in2 {Q : Value → Shared → Prop} {A : Around} {E : Value → Shared → Prop} (neg : Bool) {a : Addr} {y : V} {o : Option V} {u : Value} (hu : A.units + 1 < cLine) (I : Inv X pins σ H s) (g : DGet H a y o) (ry : RelV y u) (h : ∀ s', Inv X pins σ H s' → Q (.bool (if neg then !o.isSome else o.isSome)) s') :
    wpAny (model X.prog X.w) A (compareOp (if neg then .NotIn else .In) u (.ref a)) Q E s := by
  cases neg with
  | true => exact d_notIn hu I g ry h
  | false => exact d_in hu I g ry h
theorem k_in2 {Q : Value → Shared → Prop} {A : Around} {E : Value → Shared → Prop} (neg : Bool) {a b : Addr} {κ : NestedKey} {xs : List (NestedKey × Addr × Value)} (hu : A.units + 64 < cLine) (I : Inv X pins σ H s) (hm : s.heap.DictOfH (nestedKind X.prog X.w) a xs) (hd : (a == sysModules) = false)
    (hk : (nestedKind X.prog X.w).is s.heap κ b) (h : ∀ s', Inv X pins σ H s' → Q (.bool (if neg then !(atKey xs κ).isSome else (atKey xs κ).isSome)) s') :
    wpAny (model X.prog X.w) A (compareOp (if neg then .NotIn else .In) (.ref b) (.ref a)) Q E s := by
  have hr : (nestedKind X.prog X.w).room A.in1 := by
    show A.units + 1 + 8 < cLine
    omega
  cases neg with
  | true =>
    show wpAny _ _ (do return .bool (!(← contains (.ref a) (.ref b)))) Q E s
    exact wpAny_bind (wpAny_contains_heap hr hk hd hm (wpAny_pure (h _ (I.tok _))))
  | false => exact wpAny_in_heap hr hk hd hm (h _ (I.tok _))
theorem has_ok (neg : Bool) {a b : O} {x y : V} {v u : Value} {k : Bool} {Q : VK} (hu : X.A.units + 65 < cLine) (I : Inv X pins σ H s) (rx : RelV x v) (ry : RelV y u) (ha : Rb (gx X ca) Z H a x) (hb : Rb (gx X ca) Z H b y) (e : hasS a b = some k)
    (q : Q (.bl (if neg then !k else k)) H) : wpAny (model X.prog X.w) X.A (compareOp (if neg then .NotIn else .In) v u) (EP X pins σ Q) X.xe s := by
  have seqs : ∀ d ds, a.view? = some d → b.seq? = some ds → (if (isStrD d && ds.all isStrD || SeqAt.shaped d && SeqAt.shaped (.list ds)) = true then some (ds.any fun y => PyData.eqv y d) else none) = some k →
      wpAny (model X.prog X.w) X.A (compareOp (if neg then .NotIn else .In) v u) (EP X pins σ Q) X.xe s := fun d ds e1 e2 e => by
    split at e
    · rename_i hc
      cases e
      obtain ⟨p, us, rfl, hs, hd⟩ := rb_seq hb e2
      have hv := rb_view ha e1
      rcases Bool.or_eq_true_iff.mp hc with hc | hc
      · rw [Bool.and_eq_true] at hc
        obtain ⟨c1, c2⟩ := hc
        obtain ⟨z, rfl⟩ : ∃ z, d = .str z := by
          cases d with
          | str z => exact ⟨z, rfl⟩
          | _ => cases c1
        cases hv
        obtain ⟨f1, f2⟩ := strs_flat hd c2
        have fin := f2 z
        cases neg with
        | true => exact op_notIn_seq pins s σ H _ _ v u Q I rx ry ⟨p, us, rfl, hs, rfl, f1, by rw [if_pos rfl, fin]; exact q⟩
        | false => exact op_in_seq pins s σ H _ _ v u Q I rx ry ⟨p, us, rfl, hs, rfl, f1, by rw [if_neg (by decide), fin]; exact q⟩
      · rw [Bool.and_eq_true] at hc
        obtain ⟨as, r1⟩ := Dp.reads I d x v hv rx
        have cl : PyData.canLayAll0 ds = true := by
          have := SeqAt.canLay_of_shaped hc.2
          simpa [PyData.canLay0] using this
        rcases hs with hs | hs
        · obtain ⟨bs, r2⟩ := Dp.reads I (.list ds) _ u (.lst hs hd.dp) ry
          cases neg with
          | true => exact SeqAt.notIn_list_reads r2 r1 (SeqAt.canLay_of_shaped hc.2) (SeqAt.canLay_of_shaped hc.1) (room_in_shaped hc.1 hu) ⟨.bl _, H, I, rfl, q⟩
          | false => exact SeqAt.in_list_reads r2 r1 (SeqAt.canLay_of_shaped hc.2) (SeqAt.canLay_of_shaped hc.1) (room_in_shaped hc.1 hu) ⟨.bl _, H, I, rfl, q⟩
        · obtain ⟨bs, r2⟩ := Dp.reads I (.tuple ds) _ u (.tup hs hd.dp) ry
          cases neg with
          | true => exact SeqAt.notIn_tuple_reads r2 r1 cl (SeqAt.canLay_of_shaped hc.1) (room_in_shaped hc.1 hu) ⟨.bl _, H, I, rfl, q⟩
          | false => exact SeqAt.in_tuple_reads r2 r1 cl (SeqAt.canLay_of_shaped hc.1) (room_in_shaped hc.1 hu) ⟨.bl _, H, I, rfl, q⟩
    · cases e
  unfold hasS at e
  split at e
  · -- a dict
    rename_i es
    split at e
    · rename_i d
      split at e
      · rename_i hc
        cases e
        have hv := rb_val ha
        obtain ⟨F, hb⟩ := hb
        rcases Bool.or_eq_true_iff.mp hc with hc | hc
        · rw [Bool.and_eq_true] at hc
          obtain ⟨κ, hk⟩ := Option.isSome_iff_exists.mp hc.1
          cases hb with
          | dic e1 h1 h2 nd =>
            cases ry
            obtain rfl := key_v hv hk
            refine d_in2 neg (by omega) I (DGet.k (k := κ) e1) rx fun s' I' => ?_
            rw [(dget_val h1 h2 hk).1]
            exact ⟨.bl _, H, I', rfl, q⟩
          | dct e1 hx nd ne => exact absurd (all_nkey hx hc.2) ne
        · rw [Bool.and_eq_true] at hc
          obtain ⟨κ, hk⟩ := Option.isSome_iff_exists.mp hc.1
          obtain ⟨hk1, hk2⟩ := nkOf_some hk
          obtain ⟨ds, rfl⟩ := nkey_ref hk
          cases hv with
          | tup hq hds =>
            cases rx
            have his : (nestedKind X.prog X.w).is s.heap κ _ := ⟨nested_is I (.tup hq hds) rfl hk1, hk2⟩
            cases hb with
            | dic e1 h1 h2 nd =>
              cases ry
              obtain ⟨rfl, rfl⟩ := all_key h1 hc.2
              obtain ⟨m1, m2⟩ := ndict_nil I e1
              exact k_in2 neg (by omega) I m1 m2 his fun s' I' => ⟨.bl _, H, I', rfl, q⟩
            | dct e1 hx nd ne =>
              cases ry
              obtain ⟨m1, m2, _⟩ := ndict_at I rfl rfl e1 hx
              refine k_in2 neg (by omega) I m1 m2 his fun s' I' => ?_
              rw [(dget_nk hx hk1).1]
              exact ⟨.bl _, H, I', rfl, q⟩
      · cases e
    · cases e
  · -- a text
    rename_i z
    split at e
    · rename_i t
      split at e
      · rename_i c hc
        cases e
        cases rb_str ha
        cases rb_str hb
        have et : t = ⟨#[c]⟩ := TL.ext_tl hc
        subst et
        cases neg with
        | true => exact op_notIn_sign pins s σ H _ _ v u Q I rx ry ⟨c, z, rfl, rfl, q⟩
        | false => exact op_in_sign pins s σ H _ _ v u Q I rx ry ⟨c, z, rfl, rfl, q⟩
      · cases e
    · cases e
  · split at e
    · rename_i d ds e1 e2
      exact seqs d ds e1 e2 e
    · cases e
theorem bin_in (hu : X.A.units + 65 < cLine) : BinS X ca (compareOp .In) inS := binS_of fun pins s σ H x y v u Q Z a b r I rx ry ha hb e q => by
  unfold inS at e
  cases e2 : hasS a b with
  | none => rw [e2] at e; cases e
  | some k =>
    rw [e2] at e
    cases e
    exact has_ok false hu I rx ry ha hb e2 (q _ _ [] (Al.val (.bl _)))
theorem bin_notin (hu : X.A.units + 65 < cLine) : BinS X ca (compareOp .NotIn) notinS := binS_of fun pins s σ H x y v u Q Z a b r I rx ry ha hb e q => by
  unfold notinS at e
  cases e2 : hasS a b with
  | none => rw [e2] at e; cases e
  | some k =>
    rw [e2] at e
    cases e
    exact has_ok true hu I rx ry ha hb e2 (q _ _ [] (Al.val (.bl _)))
end

/-! ### items -/
def ixS : O → O → Option O
  | .scr ns, .val (.int i) => (atI ns i).map fun n => .val (.int n)
  | .val (.str z), .val (.int i) => if z.length ≤ sizeLine then (atI z.cps.toList i).map fun c => .val (.str ⟨#[c]⟩) else none
  | .dic es, .val k => if dOk es k = true then (dget es k).map .val else none
  | .lst ds, .val (.int i) => (atI ds i).map .val
  | .val (.list ds), .val (.int i) => (atI ds i).map .val
  | .val (.tuple ds), .val (.int i) => (atI ds i).map .val
  | _, _ => none
section
variable {X : Cx} {ca : Nat → Addr} {W : WX}
theorem DzA.atI {Z : Zs} {K : PySem.W.Frag} {H : Hp} {ds : List D} {vs : List V} {i : Int} {d : D} (h : DzA Z K H ds vs) (e : L2.atI ds i = some d) : ∃ v, L2.atI vs i = some v ∧ Dz Z K H d v := by
  unfold L2.atI at e ⊢
  rw [h.length]
  cases q : ixN ds.length i with
  | none => rw [q] at e; cases e
  | some j =>
    rw [q] at e
    exact h.get e
theorem atI_map {α β : Type} (f : α → β) (xs : List α) (i : Int) : L2.atI (xs.map f) i = (L2.atI xs i).map f := by
  unfold L2.atI
  rw [List.length_map]
  cases ixN xs.length i with
  | none => rfl
  | some j => simp
theorem ix_all (hu : X.A.units + 65 < cLine) : IxR X (fun x y H Q => RSem (X := X) (ca := ca) (two ixS) [x, y] H Q) := by
  intro value slice pins s σ H x y v u Q I rx ry ⟨Z, os, r, zd, hp, e0, q⟩ hs
  obtain ⟨a, b, rfl, e⟩ := two_some e0
  obtain ⟨ha, hb⟩ := pair2 hp
  unfold ixS at e
  split at e
  · rename_i ns i
    obtain ⟨F, ha⟩ := ha
    cases ha with
    | scr hq =>
      cases rb_int hb
      cases e2 : L2.atI ns i with
      | none => rw [e2] at e; cases e
      | some n =>
        rw [e2] at e
        cases e
        exact ix_list value slice pins s σ H _ _ v u Q I rx ry ⟨_, _, i, .int n, rfl, rfl, hq.sq, by rw [atI_map, e2]; rfl, q _ _ [] (Al.val (.int _))⟩ hs
  · rename_i z i
    split at e
    · rename_i hz
      cases rb_str ha
      cases rb_int hb
      cases e2 : L2.atI z.cps.toList i with
      | none => rw [e2] at e; cases e
      | some c =>
        rw [e2] at e
        cases e
        exact ix_str value slice pins s σ H _ _ v u Q I rx ry ⟨z, i, c, rfl, rfl, hz, e2, q _ _ [] (Al.val (.str _))⟩ hs
    · cases e
  · rename_i es k
    split at e
    · rename_i hc
      cases e2 : dget es k with
      | none => rw [e2] at e; cases e
      | some d =>
        rw [e2] at e
        cases e
        have hv := rb_val hb
        obtain ⟨F, ha⟩ := ha
        rcases Bool.or_eq_true_iff.mp hc with hc | hc
        · rw [Bool.and_eq_true] at hc
          obtain ⟨κ, hk⟩ := Option.isSome_iff_exists.mp hc.1
          cases ha with
          | dic e1 h1 h2 nd =>
            cases rx
            obtain rfl := key_v hv hk
            obtain ⟨w', hw, hd⟩ := (dget_val h1 h2 hk).2 d e2
            have g := DGet.k (k := κ) e1
            rw [hw] at g
            exact PyProof.Rows.tail_any (dict_typeIs I g) PySem.F.slot_dict_getitem.lookup (d_getItem (by omega) I g ry fun z s3 I3 rz => ⟨w', H, I3, rz, q _ _ [] (Al.val hd)⟩) hs
          | dct e1 hx nd ne => exact absurd (all_nkey hx hc.2) ne
        · rw [Bool.and_eq_true] at hc
          obtain ⟨κ, hk⟩ := Option.isSome_iff_exists.mp hc.1
          obtain ⟨hk1, hk2⟩ := nkOf_some hk
          obtain ⟨ds, rfl⟩ := nkey_ref hk
          cases hv with
          | tup hq hds =>
            cases ry
            have his : (nestedKind X.prog X.w).is s.heap κ _ := ⟨nested_is I (.tup hq hds) rfl hk1, hk2⟩
            cases ha with
            | dic e1 h1 h2 nd =>
              obtain ⟨rfl, rfl⟩ := all_key h1 hc.2
              cases e2
            | dct e1 hx nd ne =>
              cases rx
              obtain ⟨m1, m2, _⟩ := ndict_at I rfl rfl e1 hx
              obtain ⟨p, w', hp, rw', hd⟩ := (dget_nk hx hk1).2 d e2
              refine PyProof.Rows.tail_any m1.typeIs PySem.F.slot_dict_getitem.lookup (wpAny_getItem_heap (by show X.A.units + 1 + 8 < cLine; omega) his m1 hp ?_) hs
              exact ⟨w', H, I.tok _, rw', q _ _ [] (Al.val hd)⟩
    · cases e
  · rename_i ds i
    cases e2 : L2.atI ds i with
    | none => rw [e2] at e; cases e
    | some d =>
      rw [e2] at e
      cases e
      cases rb_int hb
      obtain ⟨p, xs, rfl, hp, hd⟩ := rb_list ha rfl
      obtain ⟨w', hw, hdw⟩ := hd.atI e2
      exact ix_list value slice pins s σ H _ _ v u Q I rx ry ⟨p, xs, i, w', rfl, rfl, .inl (.inl hp), hw, q _ _ [] (Al.val hdw)⟩ hs
  · rename_i ds i
    cases e2 : L2.atI ds i with
    | none => rw [e2] at e; cases e
    | some d =>
      rw [e2] at e
      cases e
      cases rb_int hb
      obtain ⟨p, xs, rfl, hp, hd⟩ := rb_list ha rfl
      obtain ⟨w', hw, hdw⟩ := hd.atI e2
      exact ix_list value slice pins s σ H _ _ v u Q I rx ry ⟨p, xs, i, w', rfl, rfl, .inl (.inl hp), hw, q _ _ [] (Al.val hdw)⟩ hs
  · rename_i ds i
    cases e2 : L2.atI ds i with
    | none => rw [e2] at e; cases e
    | some d =>
      rw [e2] at e
      cases e
      cases rb_int hb
      obtain ⟨p, xs, rfl, hp, hd⟩ := rb_tup ha rfl
      obtain ⟨w', hw, hdw⟩ := hd.atI e2
      exact ix_tup value slice pins s σ H _ _ v u Q I rx ry ⟨p, xs, i, w', rfl, rfl, hp, hw, q _ _ [] (Al.val hdw)⟩ hs
  · cases e
theorem se_ix {a b : Expr} {f g : ES} {pos : Pos} (hu : X.A.units + 65 < cLine) (ha : PE X a (RdE X ca W f)) (hb : PE X b (RdE X ca W g)) (hs : PlainIx b) : PE X (.Subscript a b pos) (RdE X ca W (o2 ixS f g)) :=
  PE.imp (pe_ix (ix_all hu) ha hb hs) fun _ _ _ h => rd_o2 h

/-! ### slices -/
def cutA {α : Type} (xs : List α) (lo hi : Option Int) : List α := (xs.drop (HT.sIx xs.length 0 lo)).take (HT.sIx xs.length xs.length hi - HT.sIx xs.length 0 lo)
def slS (lo hi : Option Int) : O → Option O
  | .val (.str z) => if z.length ≤ sizeLine then some (.val (.str (cutS z lo hi))) else none
  | .val (.tuple ds) => some (.val (.tuple (cutA ds lo hi)))
  | .lst ds => some (.lst (cutA ds lo hi))
  | .val (.list ds) => some (.lst (cutA ds lo hi))
  | .scr ns => some (.lst (cutA (ns.map PyData.int) lo hi))
  | _ => none
theorem dzA_ints {Z : Zs} {K : PySem.W.Frag} {H : Hp} : ∀ ns : List Int, DzA Z K H (ns.map PyData.int) (ns.map V.int)
  | [] => .nil
  | n :: ns => .cons (.int n) (dzA_ints ns)
theorem DzA.cut {Z : Zs} {K : PySem.W.Frag} {H : Hp} {ds : List D} {vs : List V} (h : DzA Z K H ds vs) (lo hi : Option Int) : DzA Z K H (cutA ds lo hi) (cutV vs lo hi) := by
  unfold cutA cutV
  rw [h.length]
  exact (h.drop _).take _
theorem sl_all {lo hi : Option Int} : SlR X (fun x l h H Q => l = lo ∧ h = hi ∧ RSem (X := X) (ca := ca) (one (slS lo hi)) [x] H Q) := by
  intro pins s σ H x v vl vu l h sl Q I rx his pl pu ⟨e1, e2, Z, os, r, zd, hp, e0, q⟩
  subst e1; subst e2
  obtain ⟨a, rfl, e⟩ := one_some e0
  have ha := pair1 hp
  unfold slS at e
  split at e
  · rename_i z
    split at e
    · rename_i hz
      cases e
      cases rb_str ha
      exact sl_str pins s σ H _ v vl vu l h sl Q I rx his pl pu ⟨z, rfl, hz, q _ _ [] (Al.val (.str _))⟩
    · cases e
  · rename_i ds
    cases e
    obtain ⟨p, xs, rfl, hp, hd⟩ := rb_tup ha rfl
    refine sl_tupA pins s σ H _ v vl vu l h sl Q I rx his pl pu ⟨p, xs, rfl, hp, fun hw => ?_, fun _ a' na => q _ _ [] (Al.tup (hd.cut l h) na)⟩
    have e : cutA ds l h = ds := by
      unfold cutA
      rw [← hd.length, hw.1, hw.2, hd.length, List.drop_zero, Nat.sub_zero, List.take_length]
    rw [e] at q
    exact q _ _ [] (Al.val (.tup hp hd))
  · rename_i ds
    cases e
    obtain ⟨p, xs, rfl, hp, hd⟩ := rb_list ha rfl
    exact sl_list pins s σ H _ v vl vu l h sl Q I rx his pl pu ⟨p, xs, rfl, .inl (.inl hp), fun a' na => q _ _ _ (Al.lst (hd.cut l h) na)⟩
  · rename_i ds
    cases e
    obtain ⟨p, xs, rfl, hp, hd⟩ := rb_list ha rfl
    exact sl_list pins s σ H _ v vl vu l h sl Q I rx his pl pu ⟨p, xs, rfl, .inl (.inl hp), fun a' na => q _ _ _ (Al.lst (hd.cut l h) na)⟩
  · rename_i ns
    cases e
    obtain ⟨F, hF⟩ := ha
    cases hF with
    | scr hq => exact sl_list pins s σ H _ v vl vu l h sl Q I rx his pl pu ⟨_, _, rfl, hq.sq, fun a' na => q _ _ _ (Al.lst ((dzA_ints ns).cut l h) na)⟩
  · cases e
end
end Eng
set_option maxHeartbeats 1000000
/-! The engine, part 6: calls of built-ins. -/
namespace Eng
open PySem PySem.Spec L2
open PyProof.Rows hiding St

/-! ### plain forms of the text -/
def notStar : Expr → Bool
  | .Starred _ _ => false
  | _ => true
theorem star_cons {e : Expr} {es : List Expr} {env : Env} (h : notStar e = true) : starEach (e :: es) env = (false, eval e env) :: starEach es env := by
  cases e <;> first | rfl | cases h
theorem star_plain {env : Env} {pos : Pos} : ∀ {es : List Expr}, (es.all notStar) = true → (backTo pos (starEach es env)).any (·.1) = false
  | [], _ => rfl
  | e :: es, h => by
    rw [List.all_cons, Bool.and_eq_true] at h
    rw [star_cons h.1]
    show (false || (backTo pos (starEach es env)).any (·.1)) = false
    rw [star_plain h.2]
    rfl
section
variable {X : Cx} {ca : Nat → Addr} {W : WX}
/-- a built-in's call on values -/
def CallS (X : Cx) (ca : Nat → Addr) (f : Value) (sem : List O → Option O) : Prop := CallR X f (fun xs H Q => RSem (X := X) (ca := ca) sem xs H Q)
theorem se_callB {sem : List O → Option O} {id : String} {x : Str} {e : Expr} {es : List Expr} {fs : AS} {p pos : Pos} (hc : CallS X ca (.builtin id) sem) (hg : Gl X x) (hm : X.mg x = none) (hv : bootBuiltins x = some (.builtin id)) (ha : PA X (e :: es) (RdA X ca W fs))
    (hn : x ≠ "__name__") (hdb : (x == ("__debug__" : Str)) = false) (hs : ((e :: es).all notStar) = true) : PE X (.Call (.Name x p) (e :: es) [] pos) (RdE X ca W (oF sem fs)) := by
  rw [List.all_cons, Bool.and_eq_true] at hs
  exact PE.imp (pe_callB hc hg hm hv ha hn hdb (star_cons hs.1) (star_plain hs.2)) fun _ _ _ h => rd_oF h
theorem se_callTy {sem : List O → Option O} {T : String} {x : Str} {e : Expr} {es : List Expr} {fs : AS} {p pos : Pos} (hc : CallS X ca (.type T) sem) (hg : Gl X x) (hm : X.mg x = none) (hv : bootBuiltins x = some (.type T)) (ha : PA X (e :: es) (RdA X ca W fs))
    (hn : x ≠ "__name__") (hdb : (x == ("__debug__" : Str)) = false) (hs : ((e :: es).all notStar) = true) : PE X (.Call (.Name x p) (e :: es) [] pos) (RdE X ca W (oF sem fs)) := by
  rw [List.all_cons, Bool.and_eq_true] at hs
  exact PE.imp (pe_callTy hc hg hm hv ha hn hdb (star_cons hs.1) (star_plain hs.2)) fun _ _ _ h => rd_oF h
theorem callS_of {f : Value} {sem : O → Option O}
    (h : ∀ (pins : List (Addr × Obj)) (s : Shared) (σ : L2.St) (H : Hp) (x : V) (v : Value) (Q : VK) (Z : Zs) (a r : O), Inv X pins σ H s → RelV x v → (∀ a, Z a → H a ≠ none) → Rb (gx X ca) Z H a x → sem a = some r →
      (∀ v H' F, Al (gx X ca) Z H r v H' F → Q v H') → wpAny (model X.prog X.w) X.A (call f [v]) (EP X pins σ Q) X.xe s) : CallS X ca f (one sem) := by
  intro pins s σ H xs us Q I r ⟨Z, os, o, zd, hp, e0, q⟩
  obtain ⟨a, rfl, e⟩ := one_some e0
  cases hp with
  | cons h1 t =>
    cases t
    cases r with
    | cons r1 rt =>
      cases rt
      exact h pins s σ H _ _ Q Z a o I r1 zd h1 e q
theorem callS_of2 {f : Value} {sem : O → O → Option O}
    (h : ∀ (pins : List (Addr × Obj)) (s : Shared) (σ : L2.St) (H : Hp) (x y : V) (v u : Value) (Q : VK) (Z : Zs) (a b r : O), Inv X pins σ H s → RelV x v → RelV y u → Rb (gx X ca) Z H a x → Rb (gx X ca) Z H b y → sem a b = some r →
      (∀ v H' F, Al (gx X ca) Z H r v H' F → Q v H') → wpAny (model X.prog X.w) X.A (call f [v, u]) (EP X pins σ Q) X.xe s) : CallS X ca f (two sem) := by
  intro pins s σ H xs us Q I r ⟨Z, os, o, zd, hp, e0, q⟩
  obtain ⟨a, b, rfl, e⟩ := two_some e0
  cases hp with
  | cons h1 t =>
    cases t with
    | cons h2 t =>
      cases t
      cases r with
      | cons r1 rt =>
        cases rt with
        | cons r2 rt =>
          cases rt
          exact h pins s σ H _ _ _ _ Q Z a b o I r1 r2 h1 h2 e q
theorem vals1' {x : V} {v : Value} (r : RelV x v) : Vals [x] [v] := .cons r .nil

/-! ### len, list, tuple -/
def lenS : O → Option O
  | .val (.str z) => if z.length ≤ sizeLine then some (.val (.int z.length)) else none
  | .val (.list ds) => some (.val (.int ds.length))
  | .val (.tuple ds) => some (.val (.int ds.length))
  | .lst ds => some (.val (.int ds.length))
  | .scr ns => some (.val (.int ns.length))
  | .dic es => if (es.all fun e => (keyOf e.1).isSome) = true then some (.val (.int es.length)) else none
  | .set xs => some (.val (.int xs.length))
  | _ => none
theorem c_len : CallS X ca (.builtin "len") (one lenS) := callS_of fun pins s σ H x v Q Z a r I rx zd ha e q => by
  unfold lenS at e
  split at e
  · split at e
    · rename_i z hz
      cases e
      cases rb_str ha
      exact call_len_str pins s σ H _ _ Q I (vals1' rx) ⟨z, rfl, hz, q _ _ [] (Al.val (.int _))⟩
    · cases e
  · rename_i ds
    cases e
    obtain ⟨p, xs, rfl, hs, hd⟩ := rb_seq ha rfl
    rw [← hd.length] at q
    exact call_len_seq pins s σ H _ _ Q I (vals1' rx) ⟨p, xs, rfl, hs, q _ _ [] (Al.val (.int _))⟩
  · rename_i ds
    cases e
    obtain ⟨p, xs, rfl, hs, hd⟩ := rb_seq ha rfl
    rw [← hd.length] at q
    exact call_len_seq pins s σ H _ _ Q I (vals1' rx) ⟨p, xs, rfl, hs, q _ _ [] (Al.val (.int _))⟩
  · rename_i ds
    cases e
    obtain ⟨p, xs, rfl, hs, hd⟩ := rb_seq ha rfl
    rw [← hd.length] at q
    exact call_len_seq pins s σ H _ _ Q I (vals1' rx) ⟨p, xs, rfl, hs, q _ _ [] (Al.val (.int _))⟩
  · rename_i ns
    cases e
    obtain ⟨F, ha⟩ := ha
    cases ha with
    | scr hq =>
      have hl : (ns.map V.int).length = ns.length := List.length_map _
      rw [← hl] at q
      exact call_len_seq pins s σ H _ _ Q I (vals1' rx) ⟨_, _, rfl, .inl hq.sq, q _ _ [] (Al.val (.int _))⟩
  · split at e
    · rename_i es hc
      cases e
      obtain ⟨F, ha⟩ := ha
      cases ha with
      | dic e1 h1 h2 nd =>
        have hl := h1.length
        rw [List.length_map, List.length_map] at hl
        rw [← hl] at q
        exact call_lenD pins s σ H _ _ Q I (vals1' rx) ⟨_, _, rfl, e1, q _ _ [] (Al.val (.int _))⟩
      | dct e1 hx nd ne => exact absurd (all_nkey hx hc) ne
    · cases e
  · rename_i xs
    cases e
    obtain ⟨F, ha⟩ := ha
    cases ha with
    | set e1 =>
      obtain ⟨x, _⟩ := I.hok _ _ e1
      obtain ⟨o, es, ep, t, ⟨h1, h2, h3⟩, g, pm, nd, hb, hf, _⟩ := x
      cases rx
      have hl : es.size = xs.length := by
        have := pm.length_eq
        simpa using this
      have small : scanBound = 4096 := rfl
      refine call_len_set h1 h2 h3 hf (by omega) ⟨.int xs.length, H, I.tok _, ⟨_, by rw [hl]⟩, q _ _ [] (Al.val (.int _))⟩
  · cases e
def listS (o : O) : Option O := o.seq?.map .lst
def tupleS (o : O) : Option O := o.seq?.map fun ds => .val (.tuple ds)
theorem c_list : CallS X ca (.type "list") (one listS) := callS_of fun pins s σ H x v Q Z a r I rx zd ha e q => by
  unfold listS at e
  cases e1 : a.seq? with
  | none => rw [e1] at e; cases e
  | some ds =>
    rw [e1] at e
    cases e
    obtain ⟨p, xs, rfl, hs, hd⟩ := rb_seq ha e1
    exact call_list_of pins s σ H _ _ Q I (vals1' rx) ⟨p, xs, rfl, hs, fun l nl => q _ _ _ (Al.lst hd nl)⟩
theorem c_tuple : CallS X ca (.type "tuple") (one tupleS) := callS_of fun pins s σ H x v Q Z a r I rx zd ha e q => by
  unfold tupleS at e
  cases e1 : a.seq? with
  | none => rw [e1] at e; cases e
  | some ds =>
    rw [e1] at e
    cases e
    obtain ⟨p, xs, rfl, hs, hd⟩ := rb_seq ha e1
    refine call_tuple_of pins s σ H _ _ Q I (vals1' rx) ⟨p, xs, rfl, ?_⟩
    rcases hs with hs | hs
    · exact .inl ⟨hs, fun l nl => q _ _ _ (Al.tup hd nl)⟩
    · exact .inr ⟨hs, q _ _ [] (Al.val (.tup hs hd))⟩

/-! ### all, any, sum, max, min, str, int -/
def asBools : List D → Option (List Bool)
  | [] => some []
  | .bool b :: ds => (asBools ds).map (b :: ·)
  | _ :: _ => none
def asInts : List D → Option (List Int)
  | [] => some []
  | .int b :: ds => (asInts ds).map (b :: ·)
  | _ :: _ => none
theorem asBools_eq : ∀ {ds : List D} {bs : List Bool}, asBools ds = some bs → ds = bs.map PyData.bool
  | [], _, e => by cases e; rfl
  | d :: ds, bs, e => by
    cases d <;> simp [asBools] at e
    obtain ⟨cs, h, rfl⟩ := e
    rw [asBools_eq h]; rfl
@[simp] theorem asBools_map (bs : List Bool) : asBools (bs.map PyData.bool) = some bs := by
  induction bs with
  | nil => rfl
  | cons b bs ih => simp [asBools, ih]
@[simp] theorem asInts_map (bs : List Int) : asInts (bs.map PyData.int) = some bs := by
  induction bs with
  | nil => rfl
  | cons b bs ih => simp [asInts, ih]
def allS (o : O) : Option O := o.list?.bind fun ds => (asBools ds).map fun bs => .val (.bool (bs.all id))
def anyS (o : O) : Option O := o.list?.bind fun ds => (asBools ds).map fun bs => .val (.bool (bs.any id))
def sumS (o : O) : Option O := o.list?.bind fun ds => (asInts ds).map fun bs => .val (.int bs.sum)
theorem c_any (hc : X.calm = true) : CallS X ca (.builtin "any") (one anyS) := callS_of fun pins s σ H x v Q Z a r I rx zd ha e q => by
  unfold anyS at e
  cases e1 : a.list? with
  | none => rw [e1] at e; cases e
  | some ds =>
    rw [e1] at e
    cases e2 : asBools ds with
    | none => simp [e2] at e
    | some bs =>
      simp only [Option.bind_some, e2, Option.map_some, Option.some.injEq] at e
      subst e
      obtain ⟨p, xs, rfl, hs, hd⟩ := rb_list ha e1
      rw [asBools_eq e2] at hd
      rw [hd.bls] at hs
      exact cr_any hc pins s σ H _ _ Q I (vals1' rx) ⟨p, bs, rfl, .inl (.inl hs), q _ _ [] (Al.val (.bl _))⟩
def maxS : O → O → Option O
  | .val (.int i), .val (.int j) => some (.val (.int (if j > i then j else i)))
  | _, _ => none
def minS : O → O → Option O
  | .val (.int i), .val (.int j) => some (.val (.int (if j < i then j else i)))
  | _, _ => none
theorem c_min (hc : X.calm = true) : CallS X ca (.builtin "min") (two minS) := callS_of2 fun pins s σ H x y v u Q Z a b r I rx ry ha hb e q => by
  unfold minS at e
  split at e
  · cases e
    cases rb_int ha
    cases rb_int hb
    exact call_min2 hc pins s σ H _ _ Q I (.cons rx (.cons ry .nil)) ⟨_, _, rfl, q _ _ [] (Al.val (.int _))⟩
  · cases e
def strS : O → Option O
  | .val (.int i) => if i.natAbs.log2 < 1920 then some (.val (.str (Str.ofString (toString i)))) else none
  | _ => none
theorem c_str : CallS X ca (.type "str") (one strS) := callS_of fun pins s σ H x v Q Z a r I rx zd ha e q => by
  unfold strS at e
  split at e
  · split at e
    · rename_i i hi
      cases e
      cases rb_int ha
      exact call_str_int pins s σ H _ _ Q I (vals1' rx) ⟨i, rfl, hi, q _ _ [] (Al.val (.str _))⟩
    · cases e
  · cases e
def intS' : O → Option O
  | .val (.str x) => if x.length ≤ 640 then (PySem.intText? x).map fun n => .val (.int n) else none
  | .val (.int i) => some (.val (.int i))
  | .val (.bool k) => some (.val (.int (if k then 1 else 0)))
  | _ => none
theorem c_int : CallS X ca (.type "int") (one intS') := callS_of fun pins s σ H x v Q Z a r I rx zd ha e q => by
  unfold intS' at e
  split at e
  · split at e
    · rename_i z hz
      cases e2 : PySem.intText? z with
      | none => rw [e2] at e; cases e
      | some n =>
        rw [e2] at e
        cases e
        cases rb_str ha
        exact call_int_str pins s σ H _ _ Q I (vals1' rx) ⟨z, n, rfl, e2, hz, q _ _ [] (Al.val (.int _))⟩
    · cases e
  · cases e
    cases rb_int ha
    exact call_int1 pins s σ H _ _ Q I (vals1' rx) (.inl ⟨_, rfl, q _ _ [] (Al.val (.int _))⟩)
  · cases e
    cases rb_bl ha
    exact call_int1 pins s σ H _ _ Q I (vals1' rx) (.inr ⟨_, rfl, q _ _ [] (Al.val (.int _))⟩)
  · cases e
end

/-! ### sorted -/
def sortD (ds : List D) : List D := ds.mergeSort (PySem.W.dataLe false fun d => d)
def isTupNE : D → Bool
  | .tuple (_ :: _) => true
  | _ => false
def noTup : D → Bool
  | .tuple _ => false
  | .none => false
  | _ => true
def sortOk (ds : List D) : Bool := (ds.all fun d => ds.all fun e => PySem.W.alike d e) && (ds.all isTupNE || ds.all noTup) && (ds.all fun d => decide (d.depth ≤ 32)) && decide (ds.length ≤ sizeLine)
theorem sortOk_alike {ds : List D} (h : sortOk ds = true) : PySem.W.AllAlike ds := by
  unfold sortOk at h
  simp only [Bool.and_eq_true] at h
  intro d hd e he
  exact List.all_eq_true.mp (List.all_eq_true.mp h.1.1.1 d hd) e he
theorem sortOk_able {ds : List D} (h : sortOk ds = true) : PySem.W.Sortable ds := by
  unfold sortOk at h
  simp only [Bool.and_eq_true, Bool.or_eq_true] at h
  rcases h.1.1.2 with h | h
  · refine .inl fun d hd => ?_
    have := List.all_eq_true.mp h d hd
    cases d with
    | tuple xs =>
      cases xs with
      | nil => cases this
      | cons x r => exact ⟨x, r, rfl⟩
    | _ => cases this
  · refine .inr fun d hd => ?_
    have := List.all_eq_true.mp h d hd
    cases d with
    | tuple xs => cases this
    | none => cases this
    | _ => exact ⟨(by intro e; cases e), fun xs e => by cases e⟩
theorem sortOk_depth {ds : List D} (h : sortOk ds = true) : ∀ d ∈ ds, d.depth ≤ 32 := by
  unfold sortOk at h
  simp only [Bool.and_eq_true] at h
  exact fun d hd => of_decide_eq_true (List.all_eq_true.mp h.1.2 d hd)
theorem sortOk_len {ds : List D} (h : sortOk ds = true) : ds.length ≤ sizeLine := by
  unfold sortOk at h
  simp only [Bool.and_eq_true] at h
  exact of_decide_eq_true h.2
section
variable {X : Cx} {ca : Nat → Addr} {pins : List (Addr × Obj)} {σ : L2.St} {H : Hp} {s : Shared} {Z : Zs} {Q : VK}
mutual
theorem Dz.reads (I : Inv X pins σ H s) : ∀ {d : D} {v : V} {u : Value}, Dz Z X.K H d v → RelV v u → ∃ as, Reads s.heap u d as ∧ ∀ a ∈ as, a < s.heap.objs.size
  | .none, _, _, h, r => by
    cases h; cases r
    exact ⟨_, Reads.none, fun _ h => by cases h⟩
  | .bool b, _, _, h, r => by
    cases h; cases r
    exact ⟨_, Reads.bool b, fun _ h => by cases h⟩
  | .int i, _, _, h, r => by
    cases h
    obtain ⟨t, rfl⟩ := r
    exact ⟨_, Reads.int i t, fun _ h => by cases h⟩
  | .str x, _, _, h, r => by
    cases h
    obtain ⟨t, rfl⟩ := r
    exact ⟨_, Reads.str x t, fun _ h => by cases h⟩
  | .list ds, _, _, h, r => by
    cases h with
    | lst z hs ha =>
      cases r
      obtain ⟨its, rv, ⟨o, n, ho, hc, _, hd⟩, _⟩ := I.list (.inl (.inl hs))
      obtain ⟨as, hr, hb⟩ := DzA.reads I ha rv
      refine ⟨_, Reads.list ho hc hd hr, fun a ha => ?_⟩
      rcases List.mem_cons.mp ha with rfl | ha
      · exact Heap.lt_size ho
      · exact hb a ha
  | .tuple ds, _, _, h, r => by
    cases h with
    | tup hs ha =>
      cases r
      obtain ⟨its, rv, ⟨o, ho, hc, n, hd⟩, _⟩ := I.tuple hs
      obtain ⟨as, hr, hb⟩ := DzA.reads I ha rv
      exact ⟨_, Reads.tuple ho hc hd hr, hb⟩
  | .dict _, _, _, h, _ => by cases h
theorem DzA.reads (I : Inv X pins σ H s) : ∀ {ds : List D} {vs : List V} {us : List Value}, DzA Z X.K H ds vs → Vals vs us → ∃ as, ReadsAll s.heap us ds as ∧ ∀ a ∈ as, a < s.heap.objs.size
  | [], _, _, h, r => by
    cases h; cases r
    exact ⟨_, ReadsAll.nil, fun _ h => by cases h⟩
  | d :: ds, _, _, h, r => by
    cases h with
    | cons h1 h2 =>
      cases r with
      | cons r1 r2 =>
        obtain ⟨as, q1, b1⟩ := Dz.reads I h1 r1
        obtain ⟨bs, q2, b2⟩ := DzA.reads I h2 r2
        exact ⟨_, ReadsAll.cons q1 q2, fun a ha => (List.mem_append.mp ha).elim (b1 a) (b2 a)⟩
end
theorem each_of : ∀ {ds : List D} {vs : List V} {us : List Value}, DzA Z X.K H ds vs → Vals vs us → PySem.W.EachIs (fun u (b : D × V) => RelV b.2 u ∧ Dz Z X.K H b.1 b.2) us (ds.zip vs)
  | [], _, _, h, r => by
    cases h; cases r
    exact .nil
  | d :: ds, _, _, h, r => by
    cases h with
    | cons h1 h2 =>
      cases r with
      | cons r1 r2 => exact .cons ⟨r1, h1⟩ (each_of h2 r2)
theorem of_each : ∀ {bs : List (D × V)} {us : List Value}, PySem.W.EachIs (fun u (b : D × V) => RelV b.2 u ∧ Dz Z X.K H b.1 b.2) us bs → DzA Z X.K H (bs.map (·.1)) (bs.map (·.2)) ∧ Vals (bs.map (·.2)) us
  | [], _, h => by
    cases h
    exact ⟨.nil, .nil⟩
  | b :: bs, _, h => by
    cases h with
    | cons h t =>
      obtain ⟨i1, i2⟩ := of_each t
      exact ⟨.cons h.2 i1, .cons h.1 i2⟩
theorem zip_fst : ∀ {ds : List D} {vs : List V}, DzA Z X.K H ds vs → (ds.zip vs).map Prod.fst = ds
  | [], _, h => by cases h; rfl
  | d :: ds, _, h => by
    cases h with
    | cons h t =>
      show d :: (ds.zip _).map Prod.fst = d :: ds
      rw [zip_fst t]
/-- sorted of what can be gathered into a list -/
theorem sorted_src {a : Addr} (I : Inv X pins σ H s) (hu : X.A.units + 65 < cLine) (P : List D → Prop) (hok : ∀ ds, P ds → sortOk ds = true)
    (col : ∀ (E : Value → Shared → Prop) (Q' : List Value → Shared → Prop), (∀ s' out ds xs, Inv X pins σ H s' → P ds → DzA Z X.K H ds xs → Vals xs out → Q' out s') → wpAny (model X.prog X.w) X.A.in1 (collect (.ref a)) Q' E s)
    (q : ∀ ds vs p, P ds → H p = none → DzA Z X.K H (sortD ds) vs → Q (.ref p) (upd H p (.lst vs))) : wpAny (model X.prog X.w) X.A (call (.builtin "sorted") [.ref a]) (EP X pins σ Q) X.xe s := by
  refine Calls.call_function_entry PyProof.Rows.kind_sorted PyProof.Rows.plain_sorted PyProof.Rows.entry_sorted (PyProof.Rows.args_sorted1 _) ?_
  unfold Builtin.«sorted»
  refine wpAny_bind (m := checkCount "sorted" 1 1 _) (wpAny_pure ?_)
  refine wpAny_bind (col _ _ fun s1 out ds xs I1 hP hd r => ?_)
  have ok := hok ds hP
  have hlen : out.length = ds.length := by rw [← r.length, hd.length]
  refine wpAny_bind (wpAny_newList ?_ (by rw [hlen]; exact sortOk_len ok))
  have hoL : (s1.heap.push (seqObj "list" out.toArray 0)).get? s1.heap.objs.size = some (seqObj "list" out.toArray 0) := Heap.get?_push_size _ rfl
  have ez := zip_fst hd
  have er : ∀ {ds : List D} {xs : List V} {us : List Value}, DzA Z X.K H ds xs → Vals xs us → PySem.W.EachIs (fun v (b : D × V) => ∃ as, Reads (s1.heap.push (seqObj "list" out.toArray 0)) v b.1 as ∧ s1.heap.objs.size ∉ as) us (ds.zip xs) := by
    intro ds
    induction ds with
    | nil =>
      intro xs us h r
      cases h; cases r
      exact .nil
    | cons d ds ih =>
      intro xs us h r
      cases h with
      | cons h t =>
        cases r with
        | cons r rr =>
          refine .cons ?_ (ih t rr)
          obtain ⟨as, h1, h2⟩ := h.reads I1 r
          exact ⟨as, PyProof.Rows.Reads.keeps (fun _ _ e => Heap.get?_push_of_some _ e) h1, fun hm => absurd (h2 _ hm) (Nat.lt_irrefl _)⟩
  refine wpAny_bind (wpAny_holding (PySem.W.list_sort_data (s := { s1 with heap := s1.heap.push (seqObj "list" out.toArray 0) }) (vs := out) (enc := Prod.fst) (bs := ds.zip xs) (n := 0) hoL (each_of hd r) (er hd r) (by rw [ez]; exact sortOk_alike ok) (by rw [ez]; exact sortOk_able ok)
    (by rw [List.length_zip, hd.length, Nat.min_self]; exact sortOk_len ok) (fun b hb => ?_) fun out' hl he => ?_))
  · have hm : b.1 ∈ ds := by
      rw [← ez]
      exact List.mem_map.mpr ⟨b, hb, rfl⟩
    have := sortOk_depth ok _ hm
    show X.A.units + 1 + 1 + b.1.depth < cLine
    omega
  · obtain ⟨i1, i2⟩ := of_each he
    have e1 : ((ds.zip xs).mergeSort (PySem.W.dataLe false Prod.fst)).map (·.1) = sortD ds := by
      unfold sortD
      have := PySem.W.sort_maps (r := PySem.W.dataLe false Prod.fst) (s := PySem.W.dataLe false fun d => d) (Prod.fst : D × V → D) (l := ds.zip xs) fun _ _ _ _ => rfl
      rw [ez] at this
      exact this
    rw [e1] at i1
    obtain ⟨c, hc⟩ := PyProof.Rows.sortedHeap_at (vs := out) (out := out'.toArray) hoL
    have hz : (((ds.zip xs).mergeSort (PySem.W.dataLe false Prod.fst)).map (·.2)).length ≤ sizeLine := by
      rw [i1.length]
      unfold sortD
      rw [List.length_mergeSort]
      exact sortOk_len ok
    refine wpAny_pure ⟨_, rfl, .ref s1.heap.objs.size, upd H s1.heap.objs.size (.lst _), I1.laid (t' := s1.toks) (fun b u e => ?_) (Nat.le_refl _) ⟨hz, out', c, i2, hc⟩, rfl, q ds _ _ hP (I1.hok.fresh (Nat.le_refl _)) i1⟩
    have hb : b < s1.heap.objs.size := Heap.lt_size e
    show (sortedHeap (s1.heap.push (seqObj "list" out.toArray 0)) s1.heap.objs.size out out'.toArray).get? b = some u
    rw [PyProof.Rows.sortedHeap_old (Nat.ne_of_lt hb) (by rw [size_push']; exact Nat.lt_succ_of_lt hb)]
    exact Heap.get?_push_of_some _ e
theorem sortOk_perm {xs ys : List Str} (p : ys.Perm xs) (h : sortOk (xs.map PyData.str) = true) : sortOk (ys.map PyData.str) = true := by
  unfold sortOk at h ⊢
  simp only [Bool.and_eq_true, Bool.or_eq_true, List.all_eq_true, decide_eq_true_eq] at h ⊢
  have m : ∀ d, d ∈ ys.map PyData.str → d ∈ xs.map PyData.str := fun d hd => (p.map _).mem_iff.mp hd
  exact ⟨⟨⟨fun d hd e he => h.1.1.1 d (m d hd) e (m e he), h.1.1.2.imp (fun q d hd => q d (m d hd)) fun q d hd => q d (m d hd)⟩, fun d hd => h.1.2 d (m d hd)⟩, by rw [List.length_map, p.length_eq, ← List.length_map (f := PyData.str)]; exact h.2⟩
/-- two lists in order of the same items are one -/
theorem one_order {α : Type} {le : α → α → Prop} (anti : ∀ a b, le a b → le b a → a = b) : ∀ {l m : List α}, l.Perm m → l.Pairwise le → m.Pairwise le → l = m
  | [], m, p, _, _ => (List.nil_perm.mp p).symm ▸ rfl
  | a :: l, [], p, _, _ => by cases p.length_eq
  | a :: l, b :: m, p, h1, h2 => by
    rw [List.pairwise_cons] at h1 h2
    have e : a = b := by
      rcases List.mem_cons.mp (p.mem_iff.mp List.mem_cons_self) with e | ha
      · exact e
      · rcases List.mem_cons.mp (p.mem_iff.mpr (List.mem_cons_self (a := b) (l := m))) with e | hb
        · exact e.symm
        · exact anti a b (h1.1 b hb) (h2.1 a ha)
    subst e
    rw [one_order anti ((List.perm_cons a).mp p) h1.2 h2.2]
/-- the order of texts -/
def leT (x y : Str) : Bool := decide (x.cps.toList ≤ y.cps.toList)
theorem sortD_strs (xs : List Str) : sortD (xs.map PyData.str) = (xs.mergeSort leT).map PyData.str := by
  unfold sortD
  refine (PySem.W.sort_maps (r := leT) (s := PySem.W.dataLe false fun d => d) PyData.str fun a _ b _ => ?_).symm
  have := congrFun (congrFun (PySem.W.dataLe_str (fun x : Str => x)) a) b
  exact this.symm
theorem leT_trans (a b c : Str) (h1 : leT a b = true) (h2 : leT b c = true) : leT a c = true := by
  unfold leT at *
  simp only [decide_eq_true_eq] at *
  exact List.le_trans h1 h2
theorem leT_total (a b : Str) : (leT a b || leT b a) = true := by
  unfold leT
  simp only [Bool.or_eq_true, decide_eq_true_eq]
  exact List.le_total _ _
theorem leT_anti (a b : Str) (h1 : leT a b = true) (h2 : leT b a = true) : a = b := by
  unfold leT at *
  simp only [decide_eq_true_eq] at *
  exact TL.ext_tl (List.le_antisymm h1 h2)
theorem sortT_pairwise (xs : List Str) : (xs.mergeSort leT).Pairwise (fun a b => leT a b = true) := List.pairwise_mergeSort leT_trans leT_total xs
theorem sortD_perm {xs ys : List Str} (p : ys.Perm xs) : sortD (ys.map PyData.str) = sortD (xs.map PyData.str) := by
  rw [sortD_strs, sortD_strs, one_order leT_anti (((List.mergeSort_perm ys leT).trans p).trans (List.mergeSort_perm xs leT).symm) (sortT_pairwise ys) (sortT_pairwise xs)]
/-- gathered: a list, a tuple, a dict with plain keys -/
def sortS (o : O) : Option O := match o with
  | .dic es => if ((es.all fun e => (keyOf e.1).isSome) && sortOk (es.map (·.1))) = true then some (.lst (sortD (es.map (·.1)))) else none
  | .set xs => if sortOk (xs.map PyData.str) = true then some (.lst (sortD (xs.map PyData.str))) else none
  | o => match o.seq? with
    | some ds => if sortOk ds = true then some (.lst (sortD ds)) else none
    | none => none
theorem c_sorted (hcalm : X.calm = true) (hu : X.A.units + 65 < cLine) : CallS X ca (.builtin "sorted") (one sortS) := callS_of fun pins s σ H x v Q Z a r I rx zd ha e q => by
  have seqs : ∀ ds, a.seq? = some ds → (if sortOk ds = true then some (O.lst (sortD ds)) else none) = some r → wpAny (model X.prog X.w) X.A (call (.builtin "sorted") [v]) (EP X pins σ Q) X.xe s := fun ds e1 e => by
    split at e
    · rename_i hok
      cases e
      obtain ⟨p, xs, rfl, hs, hd⟩ := rb_seq ha e1
      cases rx
      refine sorted_src (Z := Z) I hu (fun ds' => ds' = ds) (fun ds' e => by rw [e]; exact hok) (fun E Q' hQ => ?_) fun ds' vs l e nl hv => ?_
      · rcases hs with hs | hs
        · obtain ⟨its, rv, ⟨o, n, ho, hc, hdn, hdd⟩, hz⟩ := I.list hs
          exact wpAny_collect_seq p (.inl rfl) ho hc hdd (fun h' k => hQ _ _ ds xs (I.kept (t' := s.toks) k) rfl hd rv) (by rw [List.size_toArray, ← rv.length]; exact hz)
        · obtain ⟨its, rv, ⟨o, ho, hc, n, hdd⟩, hz⟩ := I.tuple hs
          exact wpAny_collect_seq p (.inr rfl) ho hc hdd (fun h' k => hQ _ _ ds xs (I.kept (t' := s.toks) k) rfl hd rv) (by rw [List.size_toArray, ← rv.length]; exact hz)
      · subst e
        have h1 : DzA Z (gx X ca).K (upd H l (.lst vs)) (sortD ds') vs := hv.kp (same_kp (same_new nl))
        exact q _ _ _ (Al.lst (G := gx X ca) hv nl)
    · cases e
  unfold sortS at e
  split at e
  · rename_i es
    split at e
    · rename_i hc
      rw [Bool.and_eq_true] at hc
      cases e
      obtain ⟨F, ha⟩ := ha
      cases ha with
      | dct e1 hx nd ne => exact absurd (all_nkey hx hc.1) ne
      | dic e1 h1 h2 nd =>
        cases rx
        rename_i p kvs
        obtain ⟨z, lo, vs, rel, dd⟩ := dk_of I.hok e1
        obtain ⟨ep, hat⟩ := dd.dictAt
        refine sorted_src (Z := Z) I hu (fun ds' => ds' = es.map (·.1)) (fun ds' e => by rw [e]; exact hc.2) (fun E Q' hQ => ?_) fun ds' ws l e nl hv => ?_
        · refine PySem.W.kdu_collect (A := X.A.in1) (PySem.W.kdl_dict (knd := mixKind X.prog X.w) (kvs := vs) (ep := ep) lo) (I.ok.hd hcalm) hat (by rw [← rel.length]; exact z) fun h' tk acc hk hacc => ?_
          refine hQ _ _ (es.map (·.1)) (kvs.map fun p => kV p.1) (I.kept hk) rfl h1 ?_
          -- the keys' values
          have hl : acc.toList.length = kvs.length := by rw [Array.length_toList, hacc.1, rel.length]
          have main : ∀ (n : Nat) (us : List Value) (ks : List (Key × V)), us.length = ks.length → (∀ (j : Nat) (v : Value), us[j]? = some v → ∃ p, ks[j]? = some p ∧ keyIs p.1 v = true) → Vals (ks.map fun p => kV p.1) us := by
            intro n us
            induction us with
            | nil =>
              intro ks hl _
              cases ks with
              | nil => exact .nil
              | cons _ _ => cases hl
            | cons u us ih =>
              intro ks hl h
              cases ks with
              | nil => cases hl
              | cons p ks =>
                refine .cons ?_ (ih ks (by simpa using hl) fun j v e => h (j + 1) v (by simpa using e))
                obtain ⟨p', e1, e2⟩ := h 0 u rfl
                simp only [List.getElem?_cons_zero, Option.some.injEq] at e1
                subst e1
                rcases keyIs_shape e2 with ⟨i, t, ek, ev⟩ | ⟨y, t, ek, ev⟩
                · show RelV (kV p.1) u
                  rw [ek]; exact ⟨t, ev⟩
                · show RelV (kV p.1) u
                  rw [ek]; exact ⟨t, ev⟩
          refine main 0 acc.toList kvs hl fun j v e => ?_
          obtain ⟨k, x, e1, e2⟩ := hacc.2 j v (by rw [← Array.getElem?_toList]; exact e)
          have hk' := rel.keys
          have e3 : (vs.map (·.1))[j]? = some k := by rw [List.getElem?_map, e1]; rfl
          rw [← hk', List.getElem?_map] at e3
          cases e4 : kvs[j]? with
          | none => rw [e4] at e3; cases e3
          | some p' =>
            rw [e4] at e3
            cases e3
            exact ⟨p', rfl, e2⟩
        · subst e
          exact q _ _ _ (Al.lst (G := gx X ca) hv nl)
    · cases e
  · rename_i xs
    split at e
    · rename_i hok
      cases e
      obtain ⟨F, ha⟩ := ha
      cases ha with
      | set e1 =>
        obtain ⟨x, _⟩ := I.hok _ _ e1
        obtain ⟨o, es, ep, t, ⟨h1, h2, h3⟩, g, pm, nd, hb, hf, hr, hl⟩ := x
        cases rx
        refine sorted_src (Z := Z) I hu (fun ds' => ∃ ys : List Str, ds' = ys.map PyData.str ∧ ys.Perm xs) (fun ds' ⟨ys, e, p⟩ => by rw [e]; exact sortOk_perm p hok) (fun E Q' hQ => ?_) fun ds' ws l ⟨ys, e, p⟩ nl hv => ?_
        · refine collect_set (A := X.A.in1) (I.ok.hd hcalm) ⟨o, h1, h2.1, h3⟩ hf hb hr hl fun s' out k1 _ g1 o1 pm2 => ?_
          obtain ⟨ys, hys, hp⟩ : ∃ ys : List Str, StrsAre out ys ∧ ys.Perm xs := by
            have key : ∀ out : List Value, (∀ v ∈ out, ∃ x tk, v = Value.str x tk) → StrsAre out (out.map fun v => txt (0, v)) := by
              intro out
              induction out with
              | nil => intro _; exact .nil
              | cons v r ih =>
                intro h
                obtain ⟨x, tk, rfl⟩ := h v List.mem_cons_self
                exact .cons x tk (ih fun v hv => h v (List.mem_cons_of_mem _ hv))
            refine ⟨out.map fun v => txt (0, v), key out fun v hv => ?_, ?_⟩
            · obtain ⟨e, he, q⟩ := List.mem_map.mp (pm2.mem_iff.mp hv)
              obtain ⟨x, tk, rfl⟩ := g e he
              exact ⟨x, tk, q.symm⟩
            · refine (pm2.map _).trans ?_
              rw [List.map_map]
              exact pm
          have I1 : Inv X pins σ H s' := I.call' (ch := []) o1 (Un.kept k1) (I.hok.kept k1) (by rw [g1]; exact I.bare) (fun _ z => nomatch z)
          refine hQ s' out _ _ I1 ⟨ys, rfl, hp⟩ ?_ (vals_of_strs hys)
          have dz : ∀ ys : List Str, DzA Z X.K H (ys.map PyData.str) (ys.map V.str) := by
            intro ys
            induction ys with
            | nil => exact .nil
            | cons y ys ih => exact .cons (.str y) ih
          exact dz ys
        · subst e
          rw [sortD_perm p] at hv
          exact q _ _ _ (Al.lst (G := gx X ca) hv nl)
    · cases e
  · split at e
    · rename_i ds e1
      exact seqs ds e1 e
    · cases e
end
end Eng
set_option maxHeartbeats 3200000
/-! The engine, part 7: sets of texts: set(xs) of a list or a tuple of texts, its length, sorted. -/
namespace Eng
open PySem PySem.Spec L2
open PyProof.Rows hiding St

/-- a text put to those that have been met -/
def addT (xs : List Str) (k : Str) : List Str := if k ∈ xs then xs else xs ++ [k]
/-- the texts met, each once -/
def metT (ys : List Str) : List Str := ys.foldl addT []
theorem addT_nodup {xs : List Str} {k : Str} (h : xs.Nodup) : (addT xs k).Nodup := by
  unfold addT
  split
  · exact h
  · rename_i hk
    exact List.nodup_append.mpr ⟨h, by simp, fun a ha b hb e => by
      rw [List.mem_singleton] at hb
      subst hb
      subst e
      exact hk ha⟩
theorem mem_addT {xs : List Str} {k j : Str} : j ∈ addT xs k ↔ j ∈ xs ∨ j = k := by
  unfold addT
  split
  · rename_i hk
    exact ⟨.inl, fun h => h.elim id fun e => e ▸ hk⟩
  · rw [List.mem_append, List.mem_singleton]
theorem foldT_nodup : ∀ (ys xs : List Str), xs.Nodup → (ys.foldl addT xs).Nodup
  | [], _, h => h
  | _ :: ys, _, h => foldT_nodup ys _ (addT_nodup h)
theorem mem_foldT : ∀ (ys xs : List Str) {j : Str}, j ∈ ys.foldl addT xs ↔ j ∈ xs ∨ j ∈ ys
  | [], xs, j => by simp
  | y :: ys, xs, j => by
    rw [List.foldl_cons, mem_foldT ys, mem_addT, List.mem_cons, or_assoc]
theorem metT_nodup (ys : List Str) : (metT ys).Nodup := foldT_nodup ys [] List.nodup_nil
theorem mem_metT {ys : List Str} {j : Str} : j ∈ metT ys ↔ j ∈ ys := by
  unfold metT
  rw [mem_foldT]
  simp
theorem addT_len (xs : List Str) (k : Str) : (addT xs k).length ≤ xs.length + 1 := by
  unfold addT
  split
  · omega
  · simp
theorem foldT_len : ∀ (ys xs : List Str), (ys.foldl addT xs).length ≤ xs.length + ys.length
  | [], _ => Nat.le_refl _
  | y :: ys, xs => by
    have h1 := foldT_len ys (addT xs y)
    have h2 := addT_len xs y
    rw [List.foldl_cons, List.length_cons]
    omega
theorem metT_len (ys : List Str) : (metT ys).length ≤ ys.length := by
  have := foldT_len ys []
  simpa [metT] using this

section
variable {P : Program} {w : World} {A : Around} {E : Value → Shared → Prop} {s : Shared} {a : Addr} {xs : List Str}
theorem SetT.at {h h' : Heap} (x : SetT w h a xs) (k : ∀ o, h.get? a = some o → h'.get? a = some o) : SetT w h' a xs := by
  obtain ⟨o, es, ep, t, ⟨h1, h2⟩, r⟩ := x
  exact ⟨o, es, ep, t, ⟨k o h1, h2⟩, r⟩
theorem SetT.elems {l : List (Int × Value)} (g : ∀ e ∈ l, ∃ x tk, e = (hashStr w x, Value.str x tk)) : ElemsOf (PySem.strKind P w) l := fun e he => by
  obtain ⟨x, tk, rfl⟩ := g e he
  exact ⟨⟨x, strKind_is P w x tk, rfl⟩, rfl⟩
theorem txt_is {l : List (Int × Value)} (g : ∀ e ∈ l, ∃ x tk, e = (hashStr w x, Value.str x tk)) {e : Int × Value} (he : e ∈ l) (k : Str) : (PySem.strKind P w).is k e.2 = true ↔ txt e = k := by
  obtain ⟨x, tk, rfl⟩ := g e he
  show Value.isStrOf k (.str x tk) = true ↔ x = k
  constructor
  · intro h
    obtain ⟨t, e⟩ := Value.isStrOf_shape h
    injection e
  · rintro rfl
    exact strKind_is P w x tk
/-- the table is laid down, and laid anew where it is too full -/
theorem lay_down {gw : Bool → Sem Unit} (hg : ∀ (b : Bool) (s₁ : Shared) (Q' : Unit → Shared → Prop), Q' () s₁ → wpAny (model P w) A (gw b) Q' E s₁) {o : Obj} {es es1 : Array (Int × Value)} {ep : Nat} {t t2 : SetTable} {ys : List Str} {wd : Bool} {R : Option Bool → Shared → Prop}
    (ho : s.heap.get? a = some o) (hx : o.ExactSet) (hd : o.data = .set es ep t) (g : ∀ e ∈ es1.toList, ∃ x tk, e = (hashStr w x, Value.str x tk)) (pm : (es1.toList.map txt).Perm ys) (nd : ys.Nodup)
    (hb : es1.size < scanBound) (hf : t2.fits es1.size = true) (hr : Ris t2.place.toList) (hl : w.params.followText "set-order" = true ∨ t2.led = true)
    (hR : ∀ h', Heap.SameBut a s.heap h' → SetT w h' a ys → R (some true) { s with heap := h' }) :
    wpAny (model P w) A (do
      storeSet a es1 t2
      if (!wd && t2.tooFull) = true then do
        gw (relayAll t2 es1 (SetTable.grown es1.size)).2.2
        storeSet a (relayAll t2 es1 (SetTable.grown es1.size)).1 (relayAll t2 es1 (SetTable.grown es1.size)).2.1
        pure (some true)
      else pure (some true)) R E s := by
  have one := store_at (es' := es1) (t' := t2) ho hd
  have sb := Heap.SameBut.update s.heap a (Obj.putSet es1 t2)
  refine wpAny_bind (wpAny_storeSet_of ho hd ?_ (fits_of_scanBound hb))
  by_cases full : (!wd && t2.tooFull) = true
  · rw [if_pos full]
    have q1 := relayAll_perm t2 es1 (SetTable.grown es1.size)
    have q2 := relayAll_fits t2 es1 (SetTable.grown es1.size)
    have q3 := relayAll_ris t2 es1 (SetTable.grown es1.size)
    have q4 := relayAll_led t2 es1 (SetTable.grown es1.size)
    revert q1 q2 q3 q4
    generalize relayAll t2 es1 (SetTable.grown es1.size) = T
    obtain ⟨es2, t3, gave⟩ := T
    intro q1 q2 q3 q4
    simp only at q1 q2 q3 q4 ⊢
    have len : es2.size = es1.size := by simpa using q1.length_eq
    refine wpAny_bind (hg _ _ _ (wpAny_bind (wpAny_storeSet_of one rfl (wpAny_pure (hR _ (sb.trans (Heap.SameBut.update _ a _)) ?_)) (fits_of_scanBound (by rw [len]; exact hb)))))
    exact ⟨_, es2, _, t3, ⟨store_at one rfl, hx, rfl⟩, fun e he => g e (q1.mem_iff.mp he), (q1.map txt).trans pm, nd, by rw [len]; exact hb, q2, q3, hl.imp id fun z => by rw [q4]; exact z⟩
  · rw [if_neg full]
    exact wpAny_pure (hR _ sb ⟨_, es1, _, t2, ⟨one, hx, rfl⟩, g, pm, nd, hb, hf, hr, hl⟩)
/-- one more text -/
theorem add_one {k : Str} {tk : Tok} {Q : Bool → Shared → Prop} (x : SetT w s.heap a xs) (room : xs.length + 1 < scanBound) (hQ : ∀ b h', Heap.SameBut a s.heap h' → SetT w h' a (addT xs k) → Q b { s with heap := h' }) :
    wpAny (model P w) A (setAddHashed a (.str k tk) ((PySem.strKind P w).hash k)) Q E s := by
  have x0 := x
  obtain ⟨o, es, ep, t, ⟨ho, hx, hd⟩, g, pm, nd, hb, hf, hr, hl⟩ := x
  have el : ElemsOf (PySem.strKind P w) es.toList := SetT.elems g
  have sc : (Value.str k tk).scannable = true := rfl
  unfold setAddHashed setAddHashedIn
  refine wpAny_holding (wpAny_bind (wpAny_setState_of ho hd hf ?_))
  simp only [byScan_of sc hb el, ↓reduceIte]
  unfold setAddByScan
  refine wpAny_bind (wpAny_bind (wpAny_rule (wpAny_bind (wpAny_setScan_of (strKind_is P w k tk) ho hd hf el ?_))))
  cases hit : List.findIdx? (fun e => (PySem.strKind P w).is k e.2) es.toList with
  | some j =>
    obtain ⟨hj, pj, _⟩ := List.findIdx?_eq_some_iff_getElem.mp hit
    have hm : k ∈ xs := pm.mem_iff.mp (List.mem_map.mpr ⟨_, List.getElem_mem hj, (txt_is g (List.getElem_mem hj) k).mp pj⟩)
    have same : addT xs k = xs := if_pos hm
    refine wpAny_pure (wpAny_pure (hQ _ s.heap (Heap.SameBut.refl a s.heap) ?_))
    rw [same]
    exact x0
  | none =>
    have hn : k ∉ xs := fun h => by
      obtain ⟨e, he, q⟩ := List.mem_map.mp (pm.mem_iff.mpr h)
      have := List.findIdx?_eq_none_iff.mp hit e he
      rw [(txt_is (P := P) g he k).mpr q] at this
      cases this
    have more : addT xs k = xs ++ [k] := if_neg hn
    have nd' := addT_nodup (k := k) nd
    have gw : ∀ (b : Bool) {s₁ : Shared} {Q' : Unit → Shared → Prop}, Q' () s₁ → wpAny (model P w) A (match b with
        | true => rule "set.scan.the-table-gave-way"
        | false => pure ()) Q' E s₁ := fun b s₁ Q' q => by
      cases b
      · exact wpAny_pure q
      · exact wpAny_rule q
    have p1 := layNew_perm t es ((PySem.strKind P w).hash k) (.str k tk)
    have p2 := layNew_fits t es ((PySem.strKind P w).hash k) (.str k tk)
    have p3 := layNew_ris t es ((PySem.strKind P w).hash k) (.str k tk) hr
    have p4 := layNew_led t es ((PySem.strKind P w).hash k) (.str k tk)
    dsimp only
    revert p1 p2 p3 p4
    generalize layNew t es ((PySem.strKind P w).hash k) (.str k tk) = T
    obtain ⟨es1, t1, wd, gave⟩ := T
    intro p1 p2 p3 p4
    simp only at p1 p2 p3 p4 ⊢
    rw [Array.toList_push] at p1
    have g1 : ∀ e ∈ es1.toList, ∃ x tk, e = (hashStr w x, Value.str x tk) := fun e he => by
      rcases List.mem_append.mp (p1.mem_iff.mp he) with z | z
      · exact g e z
      · rw [List.mem_singleton] at z
        exact ⟨k, tk, z⟩
    have pm1 : (es1.toList.map txt).Perm (addT xs k) := by
      rw [more]
      refine (p1.map txt).trans ?_
      rw [List.map_append]
      exact pm.append (List.Perm.refl _)
    have len : es1.size = es.size + 1 := by
      have := p1.length_eq
      simpa using this
    have len0 : es.size = xs.length := by
      have := pm.length_eq
      simpa using this
    have hb1 : es1.size < scanBound := by rw [len, len0]; exact room
    have hl1 : w.params.followText "set-order" = true ∨ t1.led = true := hl.imp id fun z => by rw [p4]; exact z
    refine wpAny_bind (gw _ ?_)
    split
    · refine wpAny_bind ?_
      rw [hashByValue_scannable 8 sc]
      refine wpAny_pure (lay_down ?_ ho hx hd g1 pm1 nd' hb1 ?_ ?_ ?_ fun h' sb r => by dsimp only; exact wpAny_pure (hQ _ h' sb r))
      · intro b s₁ Q' q
        cases b
        · exact wpAny_pure q
        · exact wpAny_rule q
      · first
          | (split <;> first
              | exact p2
              | exact SetTable.fits_plain_off p2)
          | exact p2
      · first
          | (split <;> exact p3)
          | exact p3
      · first
          | (split <;> exact hl1)
          | exact hl1
    · refine wpAny_bind (wpAny_pure ?_)
      simp only [↓reduceIte]
      refine lay_down ?_ ho hx hd g1 pm1 nd' hb1 p2 p3 hl1 fun h' sb r => by dsimp only; exact wpAny_pure (hQ _ h' sb r)
      intro b s₁ Q' q
      cases b
      · exact wpAny_pure q
      · exact wpAny_rule q
end
end Eng
set_option maxHeartbeats 3200000
/-! The engine, part 8: set(xs), len, sorted. -/
namespace Eng
open PySem PySem.Spec L2
open PyProof.Rows hiding St

theorem text_at : ∀ {us : List Value} {xs : List Str}, StrsAre us xs → ∀ {i : Nat} {v : Value}, us[i]? = some v → ∃ k t, xs[i]? = some k ∧ v = .str k t
  | _, _, .nil, _, _, h => by simp at h
  | _, _, .cons n t r, 0, v, h => by
    simp only [List.getElem?_cons_zero, Option.some.injEq] at h
    exact ⟨n, t, rfl, h.symm⟩
  | _, _, .cons n t r, i + 1, v, h => text_at r (i := i) (by simpa using h)
/-- a new, empty set -/
def noSet (w : World) : Obj := { cls := .type "set", dict := none, data := .set #[] 0 (.fresh 0 0 (!w.params.followText "set-order")) }
theorem SetT.empty {w : World} {h : Heap} {a : Addr} (e : h.get? a = some (noSet w)) : SetT w h a [] :=
  ⟨_, #[], 0, _, ⟨e, ⟨rfl, rfl, rfl⟩, rfl⟩, fun e he => (by cases he), List.Perm.refl _, List.nodup_nil, by decide, rfl, List.Pairwise.nil, by
    show _ ∨ (!w.params.followText "set-order") = true
    cases w.params.followText "set-order"
    · exact .inr rfl
    · exact .inl rfl⟩
section
variable {P : Program} {w : World} {A : Around} {E : Value → Shared → Prop} {s : Shared}
/-- the texts that an iterator gives are put in -/
theorem fill_set {I : Addr} {fp wr : List Addr} {G : Array GenState → Array GenState → Prop} {n : Nat} {Pv : Nat → Value → Prop} {St : Nat → Shared → Prop} {R : Result → Shared → Prop}
    (W : WalksS P w A.in1 I fp wr G n Pv St) (S : Addr) (hS : S ∉ fp) (ys : List Str) (hn : n = ys.length) (hb : ys.length + 1 < scanBound) (hv : ∀ i v, Pv i v → ∃ k t, ys[i]? = some k ∧ v = .str k t) :
    ∀ (left i : Nat) (s : Shared), n - i = left → i ≤ n → St i s → SetT w s.heap S (metT (ys.take i)) →
      (∀ s', Moved (S :: wr) G s s' → SetT w s'.heap S (metT ys) → R (.ok (.ret .none)) s') → codeAny (model P w) A (.builtin "set.update.loop" ⟨[.ref S, .ref I], []⟩) R s := by
  have out : S ∉ wr := fun h => hS (W.sub _ h)
  have more : ∀ b ∈ wr, b ∈ S :: wr := fun b hb => List.mem_cons_of_mem _ hb
  intro left
  induction left with
  | zero =>
    intro i s hl hi st x hR
    obtain rfl : i = n := by omega
    refine codeAny_builtin F.entry_set_update_loop ?_
    rw [Around.under_plainId F.plain_set_update_loop _]
    show wpAny _ A.in1 (pyNext (.ref I) >>= _) _ _ s
    refine wpAny_bind (W.done s _ _ st fun s' m => wpAny_pure (hR s' (m.mono more) ?_))
    rw [List.take_of_length_le (Nat.le_of_eq hn.symm)] at x
    exact x.at fun o e => m.heap S o out e
  | succ left ih =>
    intro i s hl hi st x hR
    have lt : i < n := by omega
    refine codeAny_builtin F.entry_set_update_loop ?_
    rw [Around.under_plainId F.plain_set_update_loop _]
    show wpAny _ A.in1 (pyNext (.ref I) >>= _) _ _ s
    refine wpAny_bind (W.item i s _ _ lt st fun v s1 hP st1 m => ?_)
    obtain ⟨k, t, hk, rfl⟩ := hv i v hP
    have x1 : SetT w s1.heap S (metT (ys.take i)) := x.at fun o e => m.heap S o out e
    show wpAny _ A.in1 (holding [Value.str k t] (setAdd S (.str k t)) >>= _) _ _ s1
    refine wpAny_bind (wpAny_holding ?_)
    unfold setAdd
    refine wpAny_holding (wpAny_bind ((PySem.strKind P w).pyHash (strKind_is P w k t) ?_))
    have room : (metT (ys.take i)).length + 1 < scanBound := by
      have h1 := metT_len (ys.take i)
      have h2 : (ys.take i).length ≤ ys.length := by rw [List.length_take]; omega
      omega
    refine add_one (s := { s1 with toks := s1.toks + 1 }) x1 room fun b h' sb x2 => ?_
    have e : addT (metT (ys.take i)) k = metT (ys.take (i + 1)) := by
      rw [List.take_add_one, hk]
      show _ = metT (ys.take i ++ [k])
      unfold metT
      rw [List.foldl_append]
      rfl
    rw [e] at x2
    refine wpAny_pure ⟨plainId_quiet F.plain_set_update_loop _, ih (i + 1) _ (by omega) lt (W.frame _ s1 _ _ st1 (Nat.le_succ _) fun c hc o q => ?_) x2 fun s2 m2 x3 => hR s2 (Moved.trans W.gtrans ((m.mono more).then_heap (Nat.le_succ _) fun c o hc q => ?_) m2) x3⟩
    · exact (sb.2 c fun z => hS (z ▸ hc)).trans q
    · exact (sb.2 c fun z => hc (z ▸ List.mem_cons_self)).trans q
/-- set.__new__ -/
theorem new_set (x : Value) {Q₁ : Value → Shared → Prop} (h : Q₁ (.ref s.heap.objs.size) { s with heap := s.heap.push (noSet w) }) : codeAny (model P w) A (.call (.builtin "set.__new__") ⟨[.type "set", x], []⟩) (wants Q₁ E) s :=
  code_set_led1 x h

theorem call_set_list {l : Addr} {items : Array Value} (ys : List Str) {Q : Value → Shared → Prop} (hh : A.handled = none) (hl : s.heap.IsList l items) (hi : StrsAre items.toList ys) (hb : ys.length + 1 < scanBound)
    (h : ∀ (h' : Heap) (tk : Nat), SetT w h' s.heap.objs.size (metT ys) → (∀ b o, s.heap.get? b = some o → h'.get? b = some o) → Q (.ref s.heap.objs.size) { s with heap := h', toks := tk }) :
    wpAny (model P w) A (call (.type "set") [.ref l]) Q E s := by
  have size : items.size = ys.length := by rw [← Array.length_toList]; exact StrsAre.len_eq hi
  obtain ⟨c, tl, hmro⟩ := F.called_set.mro
  have hmade := F.called_set.made
  have hsub := F.called_set.sub
  refine wpAny_call (codeAny_of_tree ?_)
  show wpAny _ _ (callAny (.type "set") _) _ _ _
  refine wpAny_pure ⟨Code.quiet_builtin _ (by decide +kernel), codeAny_builtin F.entry_type_call ?_⟩
  rw [Around.under_plain (weight_type_call_type "set" [.ref l] []) rfl]
  have h1 := F.called_set.notType
  have h2 := F.called_set.canCreate
  have hct := F.typeCall_set_1 (.ref l)
  repeat (any_goals (first | assumption | wp_step))
  refine codeAny_mono (new_set (.ref l) (E := E) (Q₁ := fun obj s₁ => obj = .ref s.heap.objs.size ∧ s₁ = { s with heap := s.heap.push (noSet w) }) ⟨rfl, rfl⟩) fun r s₁ hr => ?_
  cases r with
  | error e => exact hr
  | ok fl =>
    cases fl with
    | ret obj =>
      obtain ⟨rfl, rfl⟩ := hr
      have at0 : (s.heap.push (noSet w)).get? s.heap.objs.size = some (noSet w) := Heap.get?_push_size _ rfl
      have ty : Shared.TypeIs { s with heap := s.heap.push (noSet w) } (.ref s.heap.objs.size) "set" := ⟨_, at0, rfl⟩
      have hli := F.called_set.init.lookup
      have hbi := F.called_set.init.bind (.ref s.heap.objs.size)
      repeat (any_goals (first | assumption | wp_step))
      refine codeAny_mono (codeAny_call_builtin (R := wants (fun r s₂ => r = .none ∧ ∃ h' tk, s₂ = { s with heap := h', toks := tk } ∧ SetT w h' s.heap.objs.size (metT ys) ∧ ∀ b o, s.heap.get? b = some o → h'.get? b = some o) E)
        F.called_set.init.plain F.entry_set_init (check_set_init_1 ty ?_)) fun r₂ s₂ hr₂ => ?_
      · obtain ⟨⟨ocls, odict, odata, oslots⟩, hol, hcl, nl, hdl⟩ := hl
        simp only at hcl hdl
        subst hcl
        subst hdl
        have hol' := Heap.get?_push_of_some (h := s.heap) (noSet w) hol
        have hsls := F.sub_list_set
        have hslf := F.sub_list_frozenset
        have hne : (Value.type "list" == Value.type "dict") = false := by decide
        have hl1 : (s.heap.push (noSet w)).IsList l items := ⟨_, hol', rfl, nl, rfl⟩
        unfold Builtin.«set.__init__» noKeywords Builtin.Frozenset.updateFrom
        generalize hPI : pyIter = PI
        wp_walk
        subst hPI
        refine wpAny_pyIter_list hl1 (wpAny_bind (wpAny_runValue ?_))
        have old : l < s.heap.objs.size := Heap.lt_size hol
        have top : (s.heap.push (noSet w)).objs.size = s.heap.objs.size + 1 := Heap.size_push ..
        have hh3 : A.in1.in1.in1.handled = none := by simp [hh]
        have part : l ≠ (s.heap.push (noSet w)).objs.size := by rw [top]; exact Nat.ne_of_lt (Nat.lt_succ_of_lt old)
        have apart : s.heap.objs.size ∉ [(s.heap.push (noSet w)).objs.size, l] := by
          rw [top]
          intro hm
          rcases List.mem_cons.mp hm with q | q
          · exact Nat.ne_of_lt (Nat.lt_succ_self _) q
          · exact Nat.ne_of_gt old (List.mem_singleton.mp q)
        refine fill_set ((Walks.list hh3 _ l part items).toS) s.heap.objs.size apart ys size hb (fun i v hv => text_at hi (by rw [Array.getElem?_toList]; exact hv)) (items.size - 0) 0 _ (by omega) (Nat.zero_le _) ⟨⟨_, Heap.get?_push_size _ rfl, rfl, rfl⟩, hl1.push _⟩ ?zero ?last
        case zero => exact SetT.empty (Heap.get?_push_of_some _ at0)
        case last =>
          intro s' m x
          obtain ⟨h', g', d', tk', os'⟩ := s'
          obtain rfl : g' = s.gens := m.gens
          obtain rfl : d' = s.drawn := m.drawn
          obtain rfl : os' = s.os := m.os
          refine wpAny_pure (wpAny_pure ⟨rfl, h', tk', rfl, x, fun b o e => ?_⟩)
          have lt := Heap.lt_size e
          refine m.heap b o (fun hm => ?_) (Heap.get?_push_of_some _ (Heap.get?_push_of_some _ e))
          rcases List.mem_cons.mp hm with q | q
          · exact Nat.ne_of_lt lt q
          · rw [List.mem_singleton, top] at q
            exact Nat.ne_of_lt (Nat.lt_succ_of_lt lt) q
      · cases r₂ with
        | error e => exact hr₂
        | ok fl₂ =>
          cases fl₂ with
          | ret r =>
            obtain ⟨rfl, h', tk, rfl, x, keep⟩ := hr₂
            repeat (any_goals (first | assumption | wp_step))
            exact h _ _ x keep
          | _ => exact hr₂.elim
    | _ => exact hr.elim

end
end Eng
set_option maxHeartbeats 3200000
/-! The engine, part 8: set(xs), len, sorted. -/
namespace Eng
open PySem PySem.Spec L2
open PyProof.Rows hiding St

section
variable {P : Program} {w : World} {A : Around} {E : Value → Shared → Prop} {s : Shared}
theorem call_set_tuple {l : Addr} {items : Array Value} (ys : List Str) {Q : Value → Shared → Prop} (hh : A.handled = none) (hl : s.heap.IsTuple l items) (hi : StrsAre items.toList ys) (hb : ys.length + 1 < scanBound)
    (h : ∀ (h' : Heap) (tk : Nat), SetT w h' s.heap.objs.size (metT ys) → (∀ b o, s.heap.get? b = some o → h'.get? b = some o) → Q (.ref s.heap.objs.size) { s with heap := h', toks := tk }) :
    wpAny (model P w) A (call (.type "set") [.ref l]) Q E s := by
  have size : items.size = ys.length := by rw [← Array.length_toList]; exact StrsAre.len_eq hi
  obtain ⟨c, tl, hmro⟩ := F.called_set.mro
  have hmade := F.called_set.made
  have hsub := F.called_set.sub
  refine wpAny_call (codeAny_of_tree ?_)
  show wpAny _ _ (callAny (.type "set") _) _ _ _
  refine wpAny_pure ⟨Code.quiet_builtin _ (by decide +kernel), codeAny_builtin F.entry_type_call ?_⟩
  rw [Around.under_plain (weight_type_call_type "set" [.ref l] []) rfl]
  have h1 := F.called_set.notType
  have h2 := F.called_set.canCreate
  have hct := F.typeCall_set_1 (.ref l)
  repeat (any_goals (first | assumption | wp_step))
  refine codeAny_mono (new_set (.ref l) (E := E) (Q₁ := fun obj s₁ => obj = .ref s.heap.objs.size ∧ s₁ = { s with heap := s.heap.push (noSet w) }) ⟨rfl, rfl⟩) fun r s₁ hr => ?_
  cases r with
  | error e => exact hr
  | ok fl =>
    cases fl with
    | ret obj =>
      obtain ⟨rfl, rfl⟩ := hr
      have at0 : (s.heap.push (noSet w)).get? s.heap.objs.size = some (noSet w) := Heap.get?_push_size _ rfl
      have ty : Shared.TypeIs { s with heap := s.heap.push (noSet w) } (.ref s.heap.objs.size) "set" := ⟨_, at0, rfl⟩
      have hli := F.called_set.init.lookup
      have hbi := F.called_set.init.bind (.ref s.heap.objs.size)
      repeat (any_goals (first | assumption | wp_step))
      refine codeAny_mono (codeAny_call_builtin (R := wants (fun r s₂ => r = .none ∧ ∃ h' tk, s₂ = { s with heap := h', toks := tk } ∧ SetT w h' s.heap.objs.size (metT ys) ∧ ∀ b o, s.heap.get? b = some o → h'.get? b = some o) E)
        F.called_set.init.plain F.entry_set_init (check_set_init_1 ty ?_)) fun r₂ s₂ hr₂ => ?_
      · obtain ⟨⟨ocls, odict, odata, oslots⟩, hol, hcl, nl, hdl⟩ := hl
        simp only at hcl hdl
        subst hcl
        subst hdl
        have hol' := Heap.get?_push_of_some (h := s.heap) (noSet w) hol
        have hsls := F.sub_tuple_set
        have hslf := F.sub_tuple_frozenset
        have hne : (Value.type "tuple" == Value.type "dict") = false := by decide
        have hl1 : (s.heap.push (noSet w)).IsTuple l items := ⟨_, hol', rfl, nl, rfl⟩
        unfold Builtin.«set.__init__» noKeywords Builtin.Frozenset.updateFrom
        generalize hPI : pyIter = PI
        wp_walk
        subst hPI
        refine wpAny_pyIter_tuple hl1 (wpAny_bind (wpAny_runValue ?_))
        have old : l < s.heap.objs.size := Heap.lt_size hol
        have top : (s.heap.push (noSet w)).objs.size = s.heap.objs.size + 1 := Heap.size_push ..
        have hh3 : A.in1.in1.in1.handled = none := by simp [hh]
        have part : l ≠ (s.heap.push (noSet w)).objs.size := by rw [top]; exact Nat.ne_of_lt (Nat.lt_succ_of_lt old)
        have apart : s.heap.objs.size ∉ [(s.heap.push (noSet w)).objs.size, l] := by
          rw [top]
          intro hm
          rcases List.mem_cons.mp hm with q | q
          · exact Nat.ne_of_lt (Nat.lt_succ_self _) q
          · exact Nat.ne_of_gt old (List.mem_singleton.mp q)
        refine fill_set ((Walks.tuple hh3 _ l part items).toS) s.heap.objs.size apart ys size hb (fun i v hv => text_at hi (by rw [Array.getElem?_toList]; exact hv)) (items.size - 0) 0 _ (by omega) (Nat.zero_le _) ⟨⟨_, Heap.get?_push_size _ rfl, rfl, rfl⟩, hl1.push _⟩ ?zero ?last
        case zero => exact SetT.empty (Heap.get?_push_of_some _ at0)
        case last =>
          intro s' m x
          obtain ⟨h', g', d', tk', os'⟩ := s'
          obtain rfl : g' = s.gens := m.gens
          obtain rfl : d' = s.drawn := m.drawn
          obtain rfl : os' = s.os := m.os
          refine wpAny_pure (wpAny_pure ⟨rfl, h', tk', rfl, x, fun b o e => ?_⟩)
          have lt := Heap.lt_size e
          refine m.heap b o (fun hm => ?_) (Heap.get?_push_of_some _ (Heap.get?_push_of_some _ e))
          rcases List.mem_cons.mp hm with q | q
          · exact Nat.ne_of_lt lt q
          · rw [List.mem_singleton, top] at q
            exact Nat.ne_of_lt (Nat.lt_succ_of_lt lt) q
      · cases r₂ with
        | error e => exact hr₂
        | ok fl₂ =>
          cases fl₂ with
          | ret r =>
            obtain ⟨rfl, h', tk, rfl, x, keep⟩ := hr₂
            repeat (any_goals (first | assumption | wp_step))
            exact h _ _ x keep
          | _ => exact hr₂.elim
    | _ => exact hr.elim
end
end Eng
set_option maxHeartbeats 1000000
/-! The engine, part 9: slots that change, values handed over, displays, tests. -/
namespace Eng
open PySem PySem.Spec L2
open PyProof.Rows hiding St

/-! ### one slot of the state -/
inductive RoSl (G : Gx) (Z : Zs) (H : Hp) : Sl → Option V → List Addr → Prop
  | no {x : Option V} : RoSl G Z H none x []
  | yes {p : Bool} {o : O} {v : V} {F : List Addr} (h : Ro G Z H o v F) : RoSl G Z H (some (p, o)) (some v) F
section
variable {G : Gx} {Z : Zs} {H : Hp}
theorem RoS.split : ∀ {ρ : En} {σ : L2.St} {L : List Addr} {i : Nat} {sl : Sl}, RoS G Z H ρ σ L → ρ[i]? = some sl → ∃ L1 F L2 x, L = L1 ++ (F ++ L2) ∧ σ[i]? = some x ∧ RoSl G Z H sl x F ∧
    ∀ {Z' : Zs} {H' : Hp} {sl' : Sl} {x' : Option V} {F' : List Addr}, Kp Z G.K H Z' H' → (∀ a ∈ L1 ++ L2, ∀ u, H a = some u → H' a = some u) → RoSl G Z' H' sl' x' F' → RoS G Z' H' (ρ.set i sl') (σ.set i x') (L1 ++ (F' ++ L2))
  | _, _, _, _, _, .emp, e => by simp at e
  | _, _, _, 0, sl, .no (x := x) (L := L) t, e => by
    simp only [List.getElem?_cons_zero, Option.some.injEq] at e
    subst e
    refine ⟨[], [], L, x, rfl, rfl, .no, fun {Z' H' sl' x' F'} k hk r => ?_⟩
    have t' := t.kp k hk
    cases r with
    | no => exact .no t'
    | yes h => show RoS G Z' H' _ _ (F' ++ L); exact .yes h t'
  | _, _, _, 0, sl, .yes (v := v) (F := F) (L := L) h t, e => by
    simp only [List.getElem?_cons_zero, Option.some.injEq] at e
    subst e
    refine ⟨[], F, L, some v, rfl, rfl, .yes h, fun {Z' H' sl' x' F'} k hk r => ?_⟩
    have t' := t.kp k hk
    cases r with
    | no => exact .no t'
    | yes h => show RoS G Z' H' _ _ (F' ++ L); exact .yes h t'
  | _, _, _, i + 1, sl, .no t, e => by
    obtain ⟨L1, F, L2, x, rfl, e2, h, put⟩ := RoS.split (i := i) t (by simpa using e)
    exact ⟨L1, F, L2, x, rfl, by simpa using e2, h, fun k hk r => .no (put k hk r)⟩
  | _, _, _, i + 1, sl, .yes (F := F0) h0 t, e => by
    obtain ⟨L1, F, L2, x, rfl, e2, h, put⟩ := RoS.split (i := i) t (by simpa using e)
    refine ⟨F0 ++ L1, F, L2, x, by rw [List.append_assoc], by simpa using e2, h, fun k hk r => ?_⟩
    rw [List.append_assoc]
    refine .yes (h0.kp k fun a ha => hk a ?_) (put k (fun a ha => hk a ?_) r)
    · rw [List.append_assoc]; exact List.mem_append_left _ ha
    · rw [List.append_assoc]; exact List.mem_append_right _ ha
end

section
variable {θ : Nat → V} {G : Gx} {Z : Zs} {H : Hp} {ρ : En} {σ : L2.St} {L : List Addr} {i : Nat} {sl : Sl}
/-- a slot is stored anew: L1, L2 stand aside -/
theorem Rep.put (r : Rep θ G Z H ρ σ L) (e : ρ[i]? = some sl) : ∃ L1 F L2 x, L = L1 ++ (F ++ L2) ∧ σ[i]? = some x ∧ RoSl G Z H sl x F ∧
    ∀ {Z' : Zs} {H' : Hp} {sl' : Sl} {x' : Option V} {F' : List Addr}, Kp Z G.K H Z' H' → (∀ a ∈ L1 ++ L2, ∀ u, H a = some u → H' a = some u) → RoSl G Z' H' sl' x' F' → F'.Nodup → (∀ a ∈ F', a ∉ L1 ++ L2) → (∀ a ∈ F', ¬ Z' a) → (∀ a ∈ L1 ++ L2, ¬ Z' a) →
      (∀ a, Z' a → H' a ≠ none) → (∀ o, sl' = some (true, o) → x' = some (θ i)) → Rep θ G Z' H' (ρ.set i sl') (σ.set i x') (L1 ++ (F' ++ L2)) := by
  obtain ⟨L1, F, L2, x, rfl, e2, h, put⟩ := r.sl.split e
  refine ⟨L1, F, L2, x, rfl, e2, h, fun {Z' H' sl' x' F'} k hk rs ndF nF zF zL zd hp => ⟨put k hk rs, ?_, fun a ha => ?_, zd, fun j o ej => ?_⟩⟩
  · have n := List.nodup_append.mp r.nd
    have n2 := List.nodup_append.mp n.2.1
    refine List.nodup_append.mpr ⟨n.1, List.nodup_append.mpr ⟨ndF, n2.2.1, fun a ha b hb q => nF a ha (List.mem_append_right _ (q ▸ hb))⟩, fun a ha b hb q => ?_⟩
    rcases List.mem_append.mp hb with hb | hb
    · exact nF b hb (List.mem_append_left _ (q ▸ ha))
    · exact n.2.2 a ha b (List.mem_append_right _ hb) q
  · rcases List.mem_append.mp ha with ha | ha
    · exact zL a (List.mem_append_left _ ha)
    · rcases List.mem_append.mp ha with ha | ha
      · exact zF a ha
      · exact zL a (List.mem_append_right _ ha)
  · by_cases q : i = j
    · subst q
      have li : i < ρ.length := (List.getElem?_eq_some_iff.mp e).1
      have ls : i < σ.length := (List.getElem?_eq_some_iff.mp e2).1
      rw [List.getElem?_set_self li] at ej
      rw [List.getElem?_set_self ls, hp o (Option.some.inj ej)]
    · rw [List.getElem?_set_ne q] at ej ⊢
      exact r.pn j o ej
theorem Kp.refl {K : PySem.W.Frag} : Kp Z K H Z H := ⟨fun _ h => h, fun _ _ _ h => h, fun _ _ h => h, fun _ _ h => h⟩
theorem set_back {α : Type} {l : List α} {i : Nat} {x : α} (e : l[i]? = some x) : l.set i x = l := by
  obtain ⟨h, e⟩ := List.getElem?_eq_some_iff.mp e
  rw [← e]
  exact List.set_getElem_self h
end

/-! ### a name's list is frozen; operands handed over -/
def frz (ρ : En) (i : Nat) : En := match ρ[i]? with
  | some (some (p, .lst ds)) => ρ.set i (some (p, .val (.list ds)))
  | _ => ρ
/-- an operand is handed over -/
def take (ρ : En) : Opd → Option (O × En)
  | .tmp o => some (o, ρ)
  | .nm i => match slotO ρ i with
    | some (.val d) => some (.val d, ρ)
    | some (.scr ns) => some (.scr ns, ρ)
    | some (.lst ds) => some (.val (.list ds), frz ρ i)
    | _ => none
/-- .. as a datum -/
def give (ρ : En) (p : Opd) : Option (D × En) := match take ρ p with
  | some (.val d, ρ') => some (d, ρ')
  | some (.lst ds, ρ') => some (.list ds, ρ')
  | _ => none
def gives (ρ : En) : List Opd → Option (List D × En)
  | [] => some ([], ρ)
  | p :: ps => match give ρ p with
    | some (d, ρ1) => match gives ρ1 ps with
      | some (ds, ρ2) => some (d :: ds, ρ2)
      | none => none
    | none => none

section
variable {θ : Nat → V} {G : Gx} {Z Z1 Z2 : Zs} {H H1 H2 : Hp} {σ : L2.St} {L L1 L2' F F1 F2 : List Addr} {ps qs : List Opd} {vs ws : List V} {ρ ρ1 : En} {v : V} {i : Nat}
theorem Held.carryM (h : Held G Z1 H1 σ L1 ps vs F1) (mu : ∀ a ∈ L1, Mut (H1 a)) (dz : ∀ a ∈ L1, ¬ Z1 a) (s : Step Z1 L1 H1 Z2 L2' H2) (nd : L2'.Nodup) : Held G Z2 H2 σ L2' ps vs F1 := by
  have mF := h.ok.mut
  have nL : ∀ a ∈ F1, a ∉ L1 := fun a ha hl => (List.nodup_append.mp h.nd).2.2 a ha a hl rfl
  refine ⟨h.ok.kp (s.kp mu dz) fun a ha u e => s.keep a u e (nL a ha), List.nodup_append.mpr ⟨(List.nodup_append.mp h.nd).1, nd, fun a ha b hb e => ?_⟩, fun a ha z => ?_⟩
  · subst e
    rcases s.lnew a hb with q | q
    · exact nL a ha q
    · exact mut_some (mF a ha) q
  · rcases s.znew a z with q | q | q
    · exact h.dis a ha q
    · exact nL a ha q
    · exact mut_some (mF a ha) q
/-- more is frozen -/
def ZAdd (Z : Zs) (a : Addr) : Zs := fun b => Z b ∨ b = a
theorem kp_add {K : PySem.W.Frag} {a : Addr} : Kp Z K H (ZAdd Z a) H := ⟨fun _ h => .inl h, fun _ _ _ h => h, fun _ _ h => h, fun _ _ h => h⟩
theorem step_add {a : Addr} (h : a ∈ L) (hs : ∀ b ∈ L1, b ∈ L) : Step Z L H (ZAdd Z a) L1 H := ⟨fun _ _ e _ => e, fun _ z => .inl z, fun b z => by
  rcases z with z | z
  · exact .inl z
  · exact .inr (.inl (z ▸ h)), fun b hb => .inl (hs b hb)⟩
theorem Ro.single {ds : List D} (h : Ro G Z H (.lst ds) v F) : ∃ a xs, v = .ref a ∧ F = [a] ∧ H a = some (.lst xs) ∧ DzA Z G.K H ds xs := by
  cases h with
  | lst e h => exact ⟨_, _, rfl, rfl, e, h⟩
theorem frz_eq {p : Bool} {ds : List D} (e : ρ[i]? = some (some (p, .lst ds))) : frz ρ i = ρ.set i (some (p, .val (.list ds))) := by
  unfold frz
  rw [e]
theorem Rep.frz (r : Rep θ G Z H ρ σ L) {p : Bool} {ds : List D} (e : ρ[i]? = some (some (p, .lst ds))) : ∃ Z' L' v, σ[i]? = some (some v) ∧ Rep θ G Z' H (ρ.set i (some (p, .val (.list ds)))) σ L' ∧ Dz Z' G.K H (.list ds) v ∧ Step Z L H Z' L' H ∧ ∀ b ∈ L', b ∈ L := by
  obtain ⟨L1, F, L2, x, rfl, e2, h, put⟩ := r.put e
  cases h with
  | yes h =>
    obtain ⟨a, xs, rfl, rfl, ea, dz⟩ := h.single
    have n := List.nodup_append.mp r.nd
    have n2 := List.nodup_append.mp n.2.1
    have ha : a ∈ L1 ++ ([a] ++ L2) := List.mem_append_right _ (List.mem_append_left _ List.mem_cons_self)
    have dz' : Dz (ZAdd Z a) G.K H (.list ds) (.ref a) := .lst (.inr rfl) ea (dz.kp kp_add)
    have sub : ∀ b ∈ L1 ++ ([] ++ L2), b ∈ L1 ++ ([a] ++ L2) := fun b hb => by
      rcases List.mem_append.mp hb with hb | hb
      · exact List.mem_append_left _ hb
      · exact List.mem_append_right _ (List.mem_append_right _ hb)
    have nA : ∀ b ∈ L1 ++ L2, b ≠ a := fun b hb q => by
      subst q
      rcases List.mem_append.mp hb with hb | hb
      · exact n.2.2 b hb b (List.mem_append_left _ List.mem_cons_self) rfl
      · exact n2.2.2 b List.mem_cons_self b hb rfl
    have rp := put (Z' := ZAdd Z a) (H' := H) (sl' := some (p, .val (.list ds))) (x' := some (.ref a)) (F' := []) kp_add (fun _ _ _ q => q) (.yes (.val dz')) List.nodup_nil (fun _ q => by cases q) (fun _ q => by cases q)
      (fun b hb z => by
        rcases z with z | z
        · exact r.dis b (sub b (by simpa using hb)) z
        · exact nA b hb z)
      (fun b z => by
        rcases z with z | z
        · exact r.zd b z
        · subst z; rw [ea]; intro q; cases q)
      (fun o q => by
        cases q
        have := r.pn i _ e
        rw [e2] at this
        exact Option.some.inj this)
    rw [set_back e2] at rp
    exact ⟨ZAdd Z a, _, _, e2, rp, dz', step_add ha sub, sub⟩
theorem Held.one (h : Held G Z H σ L [.tmp o] [v] F) : Ro G Z H o v F := by
  have h1 := h.ok
  cases h1 with
  | tmp h5 t5 =>
    cases t5
    rw [List.append_nil]
    exact h5
theorem Held.nm {j : Nat} (h : Held G Z H σ L [.nm j] [v] F) : F = [] ∧ σ[j]? = some (some v) := by
  have h1 := h.ok
  cases h1 with
  | nm h5 t5 =>
    cases t5
    exact ⟨rfl, h5⟩
theorem Held.tmp {o : O} (h : Ro G Z H o v F) (nd : (F ++ L).Nodup) (dis : ∀ a ∈ F, ¬ Z a) : Held G Z H σ L [.tmp o] [v] F := by
  have h3 : OpsOk G Z H σ [.tmp o] [v] (F ++ []) := .tmp h .nil
  rw [List.append_nil] at h3
  exact ⟨h3, nd, dis⟩
/-- an operand is handed over -/
theorem take_ok {p : Opd} {o : O} {ρ' : En} (r : Rep θ G Z H ρ σ L) (h : Held G Z H σ L [p] [v] F) (e : take ρ p = some (o, ρ')) :
    ∃ Z' L' F', Rep θ G Z' H ρ' σ L' ∧ Held G Z' H σ L' [.tmp o] [v] F' ∧ Step Z (F ++ L) H Z' (F' ++ L') H := by
  cases p with
  | tmp o' =>
    simp only [take, Option.some.injEq, Prod.mk.injEq] at e
    obtain ⟨rfl, rfl⟩ := e
    exact ⟨Z, L, F, r, h, Step.refl⟩
  | nm j =>
    obtain ⟨rfl, hv⟩ := h.nm
    simp only [take] at e
    split at e
    · rename_i d e1
      cases e
      obtain ⟨F0, h0⟩ := r.look e1 hv
      cases h0 with
      | val h0 => exact ⟨Z, L, [], r, .tmp (.val h0) r.nd (fun _ q => by cases q), Step.refl⟩
    · rename_i ns e1
      cases e
      obtain ⟨F0, h0⟩ := r.look e1 hv
      cases h0 with
      | scr h0 => exact ⟨Z, L, [], r, .tmp (.scr h0) r.nd (fun _ q => by cases q), Step.refl⟩
    · rename_i ds e1
      cases e
      obtain ⟨p, e1⟩ := slotO_some e1
      obtain ⟨Z', L', v', q1, q2, q3, q4, _⟩ := r.frz e1
      rw [hv] at q1
      cases q1
      rw [frz_eq e1]
      exact ⟨Z', L', [], q2, .tmp (.val q3) q2.nd (fun _ q => by cases q), q4⟩
    · cases e
theorem tmp_frz {ds : List D} (r : Rep θ G Z H ρ σ L) (h : Held G Z H σ L [.tmp (.lst ds)] [v] F) : ∃ Z', Rep θ G Z' H ρ σ L ∧ Dz Z' G.K H (.list ds) v ∧ Step Z (F ++ L) H Z' L H := by
  obtain ⟨a, xs, rfl, rfl, ea, dz⟩ := h.one.single
  have nL : a ∉ L := fun hl => (List.nodup_append.mp h.nd).2.2 a List.mem_cons_self a hl rfl
  refine ⟨ZAdd Z a, ⟨r.sl.kp kp_add fun _ _ _ q => q, r.nd, fun b hb z => ?_, fun b z => ?_, r.pn⟩, .lst (.inr rfl) ea (dz.kp kp_add), step_add (by simp) fun b hb => List.mem_append_right _ hb⟩
  · rcases z with z | z
    · exact r.dis b hb z
    · subst z; exact nL hb
  · rcases z with z | z
    · exact r.zd b z
    · subst z; rw [ea]; intro q; cases q
theorem give_ok {p : Opd} {d : D} {ρ' : En} (r : Rep θ G Z H ρ σ L) (h : Held G Z H σ L [p] [v] F) (e : give ρ p = some (d, ρ')) :
    ∃ Z' L', Rep θ G Z' H ρ' σ L' ∧ Dz Z' G.K H d v ∧ Step Z (F ++ L) H Z' L' H := by
  unfold give at e
  split at e
  · rename_i d' ρ1 e1
    cases e
    obtain ⟨Z', L', F', r1, h1, s1⟩ := take_ok r h e1
    have h2 := h1.one
    cases h2 with
    | val h2 => exact ⟨Z', L', r1, h2, s1⟩
  · rename_i ds ρ1 e1
    cases e
    obtain ⟨Z', L', F', r1, h1, s1⟩ := take_ok r h e1
    obtain ⟨Z2, r2, d2, s2⟩ := tmp_frz r1 h1
    exact ⟨Z2, L', r2, d2, s1.trans s2⟩
  · cases e
theorem OpsOk.cons_split {p : Opd} (h : OpsOk G Z H σ (p :: ps) (v :: vs) F) : ∃ F1 F2, F = F1 ++ F2 ∧ OpsOk G Z H σ [p] [v] F1 ∧ OpsOk G Z H σ ps vs F2 := by
  cases h with
  | tmp h t => exact ⟨_, _, rfl, by have h3 : OpsOk G Z H σ [.tmp _] [v] (_ ++ []) := .tmp h .nil
                                    rw [List.append_nil] at h3
                                    exact h3, t⟩
  | nm h t => exact ⟨[], _, rfl, .nm h .nil, t⟩
theorem Held.mut (h : Held G Z H σ L ps vs F) (r : Rep θ G Z H ρ σ L) : (∀ a ∈ F ++ L, Mut (H a)) ∧ ∀ a ∈ F ++ L, ¬ Z a :=
  ⟨fun a ha => (List.mem_append.mp ha).elim (h.ok.mut a) (r.sl.mut a), fun a ha => (List.mem_append.mp ha).elim (h.dis a) (r.dis a)⟩
theorem gives_ok : ∀ {ps : List Opd} {vs : List V} {ds : List D} {ρ ρ' : En} {Z : Zs} {L F : List Addr}, Rep θ G Z H ρ σ L → Held G Z H σ L ps vs F → gives ρ ps = some (ds, ρ') →
    ∃ Z' L', Rep θ G Z' H ρ' σ L' ∧ DzA Z' G.K H ds vs ∧ Step Z (F ++ L) H Z' L' H
  | [], vs, ds, ρ, ρ', Z, L, F, r, h, e => by
    simp only [gives, Option.some.injEq, Prod.mk.injEq] at e
    obtain ⟨rfl, rfl⟩ := e
    have h1 := h.ok
    cases h1
    exact ⟨Z, L, r, .nil, Step.refl⟩
  | p :: ps, vs, ds, ρ, ρ', Z, L, F, r, h, e => by
    unfold gives at e
    split at e
    · rename_i d ρ1 e1
      split at e
      · rename_i ds' ρ2 e2
        cases e
        have ho := h.ok
        cases vs with
        | nil => cases ho
        | cons v vs =>
          obtain ⟨F1, F2, rfl, o1, o2⟩ := ho.cons_split
          have nd := h.nd
          rw [List.append_assoc] at nd
          have n1 := List.nodup_append.mp nd
          have n2 := List.nodup_append.mp n1.2.1
          have h1 : Held G Z H σ L [p] [v] F1 := ⟨o1, List.nodup_append.mpr ⟨n1.1, r.nd, fun a ha b hb => n1.2.2 a ha b (List.mem_append_right _ hb)⟩, fun a ha => h.dis a (List.mem_append_left _ ha)⟩
          have h2 : Held G Z H σ (F1 ++ L) ps vs F2 := ⟨o2, List.nodup_append.mpr ⟨n2.1, h1.nd, fun a ha b hb q => (List.mem_append.mp hb).elim (fun hb => n1.2.2 b hb a (List.mem_append_left _ ha) q.symm) (fun hb => n2.2.2 a ha b hb q)⟩, fun a ha => h.dis a (List.mem_append_right _ ha)⟩
          obtain ⟨Z1, L1, r1, d1, s1⟩ := give_ok r h1 e1
          obtain ⟨mu, dz⟩ := h1.mut r
          have h3 := h2.carryM mu dz s1 r1.nd
          obtain ⟨Z2, L2, r2, d2, s2⟩ := gives_ok r1 h3 e2
          obtain ⟨mu3, dz3⟩ := h3.mut r1
          have s1' : Step Z (F1 ++ F2 ++ L) H Z1 (F2 ++ L1) H := ⟨fun a o q _ => q, s1.zmono, fun a z => by
            rcases s1.znew a z with q | q | q
            · exact .inl q
            · exact .inr (.inl ((List.mem_append.mp q).elim (fun q => List.mem_append_left _ (List.mem_append_left _ q)) (fun q => List.mem_append_right _ q)))
            · exact .inr (.inr q), fun a ha => by
            rcases List.mem_append.mp ha with ha | ha
            · exact .inl (List.mem_append_left _ (List.mem_append_right _ ha))
            · rcases s1.lnew a ha with q | q
              · exact .inl ((List.mem_append.mp q).elim (fun q => List.mem_append_left _ (List.mem_append_left _ q)) (fun q => List.mem_append_right _ q))
              · exact .inr q⟩
          exact ⟨Z2, L2, r2, .cons (d1.kp (s2.kp mu3 dz3)) d2, s1'.trans s2⟩
      · cases e
    · cases e
end
end Eng
set_option maxHeartbeats 1000000
/-! The engine, part 10: displays, tests, values by truth, slices, methods that tell. -/
namespace Eng
open PySem PySem.Spec L2
open PyProof.Rows hiding St

section
variable {X : Cx} {ca : Nat → Addr} {W : WX} {f g h : ES} {fs : AS} {t u : TS'}
theorem RdA.mono {σ : L2.St} {H : Hp} {Q Q' : List V → Hp → Prop} (h : RdA X ca W fs σ H Q) (i : ∀ v H, Q v H → Q' v H) : RdA X ca W fs σ H Q' := by
  obtain ⟨θ, Z, ρ, L, r, q⟩ := h
  refine ⟨θ, Z, ρ, L, r, ?_⟩
  cases e : fs ρ with
  | stuck => rw [e] at q; exact q
  | exc c ρ1 => rw [e] at q; exact q
  | ok p ρ1 => rw [e] at q; exact fun Z1 H1 L1 F v r1 h1 s1 => i _ _ (q Z1 H1 L1 F v r1 h1 s1)
theorem RdT.mono {σ : L2.St} {H : Hp} {Q Q' : Bool → Hp → Prop} (h : RdT X ca W t σ H Q) (i : ∀ v H, Q v H → Q' v H) : RdT X ca W t σ H Q' := by
  obtain ⟨θ, Z, ρ, L, r, q⟩ := h
  refine ⟨θ, Z, ρ, L, r, ?_⟩
  cases e : t ρ with
  | stuck => rw [e] at q; exact q
  | exc c ρ1 => rw [e] at q; exact q
  | ok p ρ1 => rw [e] at q; exact fun Z1 H1 L1 r1 s1 => i _ _ (q Z1 H1 L1 r1 s1)
variable {θ : Nat → V} {Z Z1 : Zs} {L L1 F : List Addr} {H H1 : Hp} {σ : L2.St} {ρ ρ1 : En}
theorem PoE.step {Q : VK} {o : Out Opd} (q : PoE X ca W θ Z L H σ Q o) (s : Step Z L H Z1 L1 H1) : PoE X ca W θ Z1 L1 H1 σ Q o := by
  cases o with
  | stuck => exact q
  | exc c ρ1 => exact fun Z' H' L' r s' => q Z' H' L' r (s.trans s')
  | ok p ρ1 => exact fun Z' H' L' F v r h s' => q Z' H' L' F v r h (s.trans s')
theorem PoT.step {Q : Bool → Hp → Prop} {o : Out Bool} (q : PoT X ca W θ Z L H σ Q o) (s : Step Z L H Z1 L1 H1) : PoT X ca W θ Z1 L1 H1 σ Q o := by
  cases o with
  | stuck => exact q
  | exc c ρ1 => exact fun Z' H' L' r s' => q Z' H' L' r (s.trans s')
  | ok p ρ1 => exact fun Z' H' L' r s' => q Z' H' L' r (s.trans s')
theorem PoA.step {Q : List V → Hp → Prop} {o : Out (List Opd)} (q : PoA X ca W θ Z L H σ Q o) (s : Step Z L H Z1 L1 H1) : PoA X ca W θ Z1 L1 H1 σ Q o := by
  cases o with
  | stuck => exact q
  | exc c ρ1 => exact fun Z' H' L' r s' => q Z' H' L' r (s.trans s')
  | ok p ρ1 => exact fun Z' H' L' F v r h s' => q Z' H' L' F v r h (s.trans s')
/-- an expression, then what comes behind -/
theorem rd_bindE {α : Type} {k : Opd → En → Out α} {P : Out α → Prop} {Q : VK} (r : Rep θ (gx X ca) Z H ρ σ L) (hs : P .stuck → False) (hx : ∀ c ρ', P (.exc c ρ') → ∀ Z' H' L', Rep θ (gx X ca) Z' H' ρ' σ L' → Step Z L H Z' L' H' → W (.ref (ca c)) none σ H')
    (q : P ((f ρ).bind k)) (go : ∀ p ρ1 Z1 H1 L1 F v, P (k p ρ1) → Rep θ (gx X ca) Z1 H1 ρ1 σ L1 → Held (gx X ca) Z1 H1 σ L1 [p] [v] F → Step Z L H Z1 (F ++ L1) H1 → Q v H1) : RdE X ca W f σ H Q := by
  refine ⟨θ, Z, ρ, L, r, ?_⟩
  cases e : f ρ with
  | stuck => rw [e] at q; exact (hs q).elim
  | exc c ρ1 => rw [e] at q; exact hx c ρ1 q
  | ok p ρ1 => rw [e] at q; exact fun Z1 H1 L1 F v r1 h1 s1 => go p ρ1 Z1 H1 L1 F v q r1 h1 s1
theorem rd_bindT {α : Type} {k : Bool → En → Out α} {P : Out α → Prop} {Q : Bool → Hp → Prop} (r : Rep θ (gx X ca) Z H ρ σ L) (hs : P .stuck → False) (hx : ∀ c ρ', P (.exc c ρ') → ∀ Z' H' L', Rep θ (gx X ca) Z' H' ρ' σ L' → Step Z L H Z' L' H' → W (.ref (ca c)) none σ H')
    (q : P ((t ρ).bind k)) (go : ∀ b ρ1 Z1 H1 L1, P (k b ρ1) → Rep θ (gx X ca) Z1 H1 ρ1 σ L1 → Step Z L H Z1 L1 H1 → Q b H1) : RdT X ca W t σ H Q := by
  refine ⟨θ, Z, ρ, L, r, ?_⟩
  cases e : t ρ with
  | stuck => rw [e] at q; exact (hs q).elim
  | exc c ρ1 => rw [e] at q; exact hx c ρ1 q
  | ok b ρ1 => rw [e] at q; exact fun Z1 H1 L1 r1 s1 => go b ρ1 Z1 H1 L1 q r1 s1

/-! ### displays -/
def fin1 (k : List D → Option O) (as : AS) : ES := fun ρ => (as ρ).bind fun ps ρ1 => match gives ρ1 ps with
  | some (ds, ρ2) => put ρ2 (k ds)
  | none => .stuck
def oLst (as : AS) : ES := fin1 (fun ds => if ds.length ≤ 1000 then some (.lst ds) else none) as
def oTup (as : AS) : ES := fin1 (fun ds => if ds.length ≤ 1000 then some (.val (.tuple ds)) else none) as
def oDic0 : ES := fun ρ => .ok (.tmp (.dic [])) ρ
theorem rd_fin1 {k : List D → Option O} {Q : VK} (h : RdE X ca W (fin1 k fs) σ H Q) : RdA X ca W fs σ H fun vs H1 => ∃ Z ds o, (∀ a, Z a → H1 a ≠ none) ∧ DzA Z X.K H1 ds vs ∧ k ds = some o ∧ ∀ v H' F, Al (gx X ca) Z H1 o v H' F → Q v H' := by
  obtain ⟨θ, Z, ρ, L, r, q⟩ := h
  refine ⟨θ, Z, ρ, L, r, ?_⟩
  unfold fin1 at q
  cases e : fs ρ with
  | stuck => rw [e] at q; exact q
  | exc c ρ1 => rw [e] at q; exact q
  | ok ps ρ1 =>
    rw [e] at q
    simp only [bind_ok] at q
    intro Z1 H1 L1 F vs r1 h1 s1
    cases e2 : gives ρ1 ps with
    | none => rw [e2] at q; exact q.elim
    | some dr =>
      obtain ⟨ds, ρ2⟩ := dr
      rw [e2] at q
      obtain ⟨Z2, L2, r2, d2, s2⟩ := gives_ok r1 h1 e2
      cases e3 : k ds with
      | none => simp only [e3, Eng.put] at q; exact q.elim
      | some o =>
        simp only [e3, Eng.put] at q
        exact ⟨Z2, ds, o, r2.zd, d2, e3, fun v H' F' x => q Z2 H' L2 F' v (x.rep r2) (x.held r2) ((s1.trans s2).trans x.step)⟩
theorem se_lst {es : List Expr} {pos : Pos} (ha : PA X es (RdA X ca W fs)) : PE X (.List es pos) (RdE X ca W (oLst fs)) := PE.imp (pe_lst ha) fun σ H Q h => (rd_fin1 h).mono fun vs H1 ⟨Z, ds, o, zd, dz, e, q⟩ => by
  split at e
  · rename_i hc
    cases e
    exact ⟨by rw [dz.length]; exact Nat.le_trans hc (by decide), fun p np => q _ _ _ (Al.lst (G := gx X ca) dz np)⟩
  · cases e
theorem se_tup {es : List Expr} {k : Nat} {pos : Pos} (ha : PA X es (RdA X ca W fs)) : PE X (.Tuple es k pos) (RdE X ca W (oTup fs)) := PE.imp (pe_tup ha) fun σ H Q h => (rd_fin1 h).mono fun vs H1 ⟨Z, ds, o, zd, dz, e, q⟩ => by
  split at e
  · rename_i hc
    cases e
    exact ⟨by rw [dz.length]; exact Nat.le_trans hc (by decide), fun p np => q _ _ _ (Al.tup (G := gx X ca) dz np)⟩
  · cases e
theorem Al.dic0 {p : Addr} (np : H p = none) : Al (gx X ca) Z H (.dic []) (.ref p) (upd H p (.dK [])) [p] :=
  ⟨same_new np, .dic upd_same .nil .nil List.nodup_nil, by simp, fun a ha => by
    rw [List.mem_singleton] at ha
    rw [ha]; exact np⟩
theorem se_dic0 {pos : Pos} : PE X (.Dict [] [] pos) (RdE X ca W oDic0) := PE.imp pe_dnewK fun σ H Q ⟨θ, Z, ρ, L, r, q⟩ => fun p np => by
  have x := Al.dic0 (X := X) (ca := ca) (Z := Z) np
  exact q Z _ L [p] _ (x.rep r) (x.held r) x.step

/-! ### tests -/
def tV (f : ES) : TS' := fun ρ => (f ρ).bind fun p ρ1 => match look ρ1 p with
  | some (.val (.bool b)) => .ok b ρ1
  | _ => .stuck
def tNotC (t : TS') : TS' := fun ρ => (t ρ).bind fun b ρ1 => .ok (!b) ρ1
def tAndC (t u : TS') : TS' := fun ρ => (t ρ).bind fun b ρ1 => if b = true then u ρ1 else .ok false ρ1
def tOrC (t u : TS') : TS' := fun ρ => (t ρ).bind fun b ρ1 => if b = true then .ok true ρ1 else u ρ1
def oT (t : TS') : ES := fun ρ => (t ρ).bind fun b ρ1 => .ok (.tmp (.val (.bool b))) ρ1
def oNot (f : ES) : ES := oT (tNotC (tV f))
def oAnd (f g : ES) : ES := fun ρ => (tV f ρ).bind fun b ρ1 => if b = true then g ρ1 else .ok (.tmp (.val (.bool false))) ρ1
def oOr (f g : ES) : ES := fun ρ => (tV f ρ).bind fun b ρ1 => if b = true then .ok (.tmp (.val (.bool true))) ρ1 else g ρ1
def oIf (t : TS') (f g : ES) : ES := fun ρ => (t ρ).bind fun b ρ1 => if b = true then f ρ1 else g ρ1
theorem look_ok {p : Opd} {o : O} {v : V} (r : Rep θ (gx X ca) Z H ρ σ L) (h : Held (gx X ca) Z H σ L [p] [v] F) (e : look ρ p = some o) : Rb (gx X ca) Z H o v := by
  have := h.ok.looks r (os := [o]) (by simp [looks, e])
  exact pair1 this
theorem out_tV (o : Out Opd) (P : Out Bool → Prop) (hs : P .stuck → False) (q : P (o.bind fun p ρ1 => match look ρ1 p with | some (.val (.bool b)) => .ok b ρ1 | _ => .stuck)) :
    (∃ p ρ1 b, o = .ok p ρ1 ∧ look ρ1 p = some (.val (.bool b)) ∧ P (.ok b ρ1)) ∨ ∃ c ρ1, o = .exc c ρ1 ∧ P (.exc c ρ1) := by
  cases o with
  | stuck => exact (hs q).elim
  | exc c ρ1 => exact .inr ⟨c, ρ1, rfl, q⟩
  | ok p ρ1 =>
    simp only [bind_ok] at q
    split at q
    · rename_i b e
      exact .inl ⟨p, ρ1, b, rfl, e, q⟩
    · exact (hs q).elim
theorem rd_tV {Q : Bool → Hp → Prop} (h : RdT X ca W (tV f) σ H Q) : RdE X ca W f σ H fun x H1 => ∃ k, x = .bl k ∧ Q k H1 := by
  obtain ⟨θ, Z, ρ, L, r, q⟩ := h
  refine ⟨θ, Z, ρ, L, r, ?_⟩
  rcases out_tV (f ρ) (PoT X ca W θ Z L H σ Q) (fun h => h) q with ⟨p, ρ1, b, e, e2, q⟩ | ⟨c, ρ1, e, q⟩
  · rw [e]
    intro Z1 H1 L1 F v r1 h1 s1
    exact ⟨b, rb_bl (look_ok r1 h1 e2), q Z1 H1 L1 r1 (s1.sub fun a h => List.mem_append_right _ h)⟩
  · rw [e]; exact q
theorem st_val {e : Expr} (h : PE X e (RdE X ca W f)) (he : ∀ whole, isTrue e X.env whole = (do let v ← whole; standAt e.pos; holding [v] (truthy v))) : PT X e (RdT X ca W (tV f)) := PT.imp (pt_val h he) fun σ H Q h => rd_tV h
theorem st_cmp {a b : Expr} {pos : Pos} {sem : O → O → Option O} {op : CmpOp} (ho : BinS X ca (compareOp op) sem) (ha : PE X a (RdE X ca W f)) (hb : PE X b (RdE X ca W g)) (hm : behindInMarks op b = false) : PT X (.Compare a [op] [b] pos) (RdT X ca W (tV (o2 sem f g))) :=
  PT.imp (pt_cmpR ho ha hb hm) fun σ H Q h => rd_o2 (rd_tV h)
theorem st_not {a : Expr} {pos : Pos} (h : PT X a (RdT X ca W t)) : PT X (.UnaryOp .Not a pos) (RdT X ca W (tNotC t)) := PT.imp (pt_not h) fun σ H Q ⟨θ, Z, ρ, L, r, q⟩ =>
  rd_bindT (P := PoT X ca W θ Z L H σ Q) r (fun h => h) (fun c ρ' h => h) q fun b ρ1 Z1 H1 L1 q r1 s1 => q Z1 H1 L1 r1 s1
theorem st_and1 {a : Expr} {pos : Pos} (h : PT X a (RdT X ca W t)) : PW X (.BoolOp .And [a] pos) (RdT X ca W t) := pw_and1 h
theorem st_or1 {a : Expr} {pos : Pos} (h : PT X a (RdT X ca W t)) : PW X (.BoolOp .Or [a] pos) (RdT X ca W t) := pw_or1 h
theorem st_and {a b : Expr} {rest : List Expr} {pos : Pos} (ha : PT X a (RdT X ca W t)) (hb : PW X (.BoolOp .And (b :: rest) pos) (RdT X ca W u)) : PW X (.BoolOp .And (a :: b :: rest) pos) (RdT X ca W (tAndC t u)) :=
  PW.imp (pw_and ha hb) fun σ H Q ⟨θ, Z, ρ, L, r, q⟩ => rd_bindT (P := PoT X ca W θ Z L H σ Q) r (fun h => h) (fun c ρ' h => h) q fun b ρ1 Z1 H1 L1 q r1 s1 => by
    cases b with
    | true => exact ⟨θ, Z1, ρ1, L1, r1, PoT.step (by simpa using q) s1⟩
    | false => exact (show PoT X ca W θ Z L H σ Q (.ok false ρ1) by simpa using q) Z1 H1 L1 r1 s1
theorem st_or {a b : Expr} {rest : List Expr} {pos : Pos} (ha : PT X a (RdT X ca W t)) (hb : PW X (.BoolOp .Or (b :: rest) pos) (RdT X ca W u)) : PW X (.BoolOp .Or (a :: b :: rest) pos) (RdT X ca W (tOrC t u)) :=
  PW.imp (pw_or ha hb) fun σ H Q ⟨θ, Z, ρ, L, r, q⟩ => rd_bindT (P := PoT X ca W θ Z L H σ Q) r (fun h => h) (fun c ρ' h => h) q fun b ρ1 Z1 H1 L1 q r1 s1 => by
    cases b with
    | true => exact (show PoT X ca W θ Z L H σ Q (.ok true ρ1) by simpa using q) Z1 H1 L1 r1 s1
    | false => exact ⟨θ, Z1, ρ1, L1, r1, PoT.step (by simpa using q) s1⟩
theorem fin_bool {Q : VK} {b : Bool} (q : PoE X ca W θ Z L H σ Q (.ok (.tmp (.val (.bool b))) ρ1)) (r1 : Rep θ (gx X ca) Z1 H1 ρ1 σ L1) (s1 : Step Z L H Z1 L1 H1) : Q (.bl b) H1 :=
  q Z1 H1 L1 [] (.bl b) r1 ((Al.val (G := gx X ca) (.bl b)).held r1) s1
theorem se_one {op : BoolOp} {a : Expr} {pos : Pos} (h : PE X a (RdE X ca W f)) : PE X (.BoolOp op [a] pos) (RdE X ca W f) := pe_one h
theorem se_and {a b : Expr} {rest : List Expr} {pos : Pos} (ha : PE X a (RdE X ca W f)) (hb : PE X (.BoolOp .And (b :: rest) pos) (RdE X ca W g)) : PE X (.BoolOp .And (a :: b :: rest) pos) (RdE X ca W (oAnd f g)) :=
  PE.imp (pe_and ha hb) fun σ H Q ⟨θ, Z, ρ, L, r, q⟩ => by
    refine rd_tV (f := f) (rd_bindT (P := PoE X ca W θ Z L H σ Q) r (fun h => h) (fun c ρ' h => h) q fun b ρ1 Z1 H1 L1 q r1 s1 => ?_)
    cases b with
    | true => exact ⟨θ, Z1, ρ1, L1, r1, PoE.step (by simpa using q) s1⟩
    | false => exact fin_bool (by simpa using q) r1 s1
/-! ### one operand -/
def o1 (sem : O → Option O) (f : ES) : ES := oF (one sem) (oAs [f])
theorem rd_o1 {sem : O → Option O} {Q : VK} (h : RdE X ca W (o1 sem f) σ H Q) : RdE X ca W f σ H fun x H1 => RSem (X := X) (ca := ca) (one sem) [x] H1 Q := rdA_one (rd_oF h)
def negS : O → Option O
  | .val (.int i) => some (.val (.int (-i)))
  | _ => none
theorem rsem1 {sem : O → Option O} {x : V} {Q : VK} (h : RSem (X := X) (ca := ca) (one sem) [x] H Q) : ∃ Z a o, (∀ a, Z a → H a ≠ none) ∧ Rb (gx X ca) Z H a x ∧ sem a = some o ∧ ∀ v H' F, Al (gx X ca) Z H o v H' F → Q v H' := by
  obtain ⟨Z, os, o, zd, hp, e, q⟩ := h
  obtain ⟨a, rfl, e⟩ := one_some e
  exact ⟨Z, a, o, zd, pair1 hp, e, q⟩
/-! ### slices -/
abbrev OS := En → Out (Option Int)
def oNoPart : OS := fun ρ => .ok none ρ
def oPart (f : ES) : OS := fun ρ => (f ρ).bind fun p ρ1 => match look ρ1 p with
  | some (.val (.int i)) => .ok (some i) ρ1
  | _ => .stuck
def oSl (f : ES) (lo hi : OS) : ES := fun ρ => (f ρ).bind fun p ρ1 => (lo ρ1).bind fun l ρ2 => (hi ρ2).bind fun h ρ3 => match look ρ3 p with
  | some o => put ρ3 (slS l h o)
  | none => .stuck
def PoO (θ : Nat → V) (Z : Zs) (L : List Addr) (H : Hp) (σ : L2.St) (Q : Option Int → Hp → Prop) : Out (Option Int) → Prop
  | .ok b ρ' => ∀ Z' H' L', Rep θ (gx X ca) Z' H' ρ' σ L' → Step Z L H Z' L' H' → Q b H'
  | .exc c ρ' => ∀ Z' H' L', Rep θ (gx X ca) Z' H' ρ' σ L' → Step Z L H Z' L' H' → W (.ref (ca c)) none σ H'
  | .stuck => False
def RdO (X : Cx) (ca : Nat → Addr) (W : WX) (f : OS) : TO := fun σ H Q => ∃ θ Z ρ L, Rep θ (gx X ca) Z H ρ σ L ∧ PoO (X := X) (ca := ca) (W := W) θ Z L H σ Q (f ρ)
theorem PO.imp {e : Option Expr} {t t' : TO} (h : PO X e t) (i : ∀ σ H Q, t' σ H Q → t σ H Q) : PO X e t' := ⟨fun pins s σ H Q I q => h.run pins s σ H Q I (i σ H Q q)⟩
theorem so_none : PO X none (RdO X ca W oNoPart) := PO.imp po_none fun σ H Q ⟨θ, Z, ρ, L, r, q⟩ => q Z H L r Step.refl
theorem so_some {e : Expr} (h : PE X e (RdE X ca W f)) : PO X (some e) (RdO X ca W (oPart f)) := PO.imp (po_some h) fun σ H Q ⟨θ, Z, ρ, L, r, q⟩ =>
  rd_bindE (P := PoO (X := X) (ca := ca) (W := W) θ Z L H σ Q) r (fun h => h) (fun c ρ' h => h) q fun p ρ1 Z1 H1 L1 F v q r1 h1 s1 => by
    split at q
    · rename_i i e
      exact ⟨i, rb_int (look_ok r1 h1 e), q Z1 H1 L1 r1 (s1.sub fun a h => List.mem_append_right _ h)⟩
    · exact q.elim
theorem sl_any : SlR X (fun x l h H Q => RSem (X := X) (ca := ca) (one (slS l h)) [x] H Q) := fun pins s σ H x v vl vu lo hi sl Q I rx hs pl pu q =>
  sl_all (lo := lo) (hi := hi) pins s σ H x v vl vu lo hi sl Q I rx hs pl pu ⟨rfl, rfl, q⟩
/-- a part, while F is held aside -/
theorem rd_part {p : Opd} {v : V} {lo : OS} {k : Option Int → En → Out Opd} {Q : VK} {Q1 : Option Int → Hp → Prop} {Z0 : Zs} {L0 : List Addr} {H0 : Hp} (r : Rep θ (gx X ca) Z H ρ σ L) (h : Held (gx X ca) Z H σ L [p] [v] F) (s : Step Z0 L0 H0 Z (F ++ L) H)
    (q : PoE X ca W θ Z0 L0 H0 σ Q ((lo ρ).bind k)) (go : ∀ b ρ1 Z1 H1 L1, PoE X ca W θ Z0 L0 H0 σ Q (k b ρ1) → Rep θ (gx X ca) Z1 H1 ρ1 σ L1 → Held (gx X ca) Z1 H1 σ L1 [p] [v] F → Step Z0 L0 H0 Z1 (F ++ L1) H1 → Q1 b H1) : RdO X ca W lo σ H Q1 := by
  refine ⟨θ, Z, ρ, L, r, ?_⟩
  cases e : lo ρ with
  | stuck => rw [e] at q; exact q
  | exc c ρ1 => rw [e] at q; exact fun Z' H' L' r' s' => q Z' H' L' r' ((s.sub fun a h => List.mem_append_right _ h).trans s')
  | ok b ρ1 =>
    rw [e] at q
    intro Z1 H1 L1 r1 s1
    exact go b ρ1 Z1 H1 L1 q r1 (h.carryM r.sl.mut r.dis s1 r1.nd) (s.then s1)
theorem se_slice {e : Expr} {a b : Option Expr} {lo hi : OS} {p2 pos : Pos} (he : PE X e (RdE X ca W f)) (hl : PO X a (RdO X ca W lo)) (hu : PO X b (RdO X ca W hi)) : PE X (.Subscript e (.Slice a b none p2) pos) (RdE X ca W (oSl f lo hi)) :=
  PE.imp (pe_slice (sl_any (ca := ca)) he hl hu) fun σ H Q ⟨θ, Z, ρ, L, r, q⟩ => rd_bindE (P := PoE X ca W θ Z L H σ Q) r (fun h => h) (fun c ρ' h => h) q fun p ρ1 Z1 H1 L1 F v q r1 h1 s1 =>
    rd_part r1 h1 s1 q fun l ρ2 Z2 H2 L2 q r2 h2 s2 => rd_part r2 h2 s2 q fun h ρ3 Z3 H3 L3 q r3 h3 s3 => by
      split at q
      · rename_i o e
        cases e3 : slS l h o with
        | none => simp only [e3, Eng.put] at q; exact q.elim
        | some o' =>
          simp only [e3, Eng.put] at q
          exact ⟨Z3, [o], o', r3.zd, .cons (look_ok r3 h3 e) .nil, e3, fun v H' F' x => q Z3 H' L3 F' v (x.rep r3) (x.held r3) ((s3.sub fun a h => List.mem_append_right _ h).trans x.step)⟩
      · exact q.elim

/-! ### a text's methods -/
def asStrs : List D → Option (List Str)
  | [] => some []
  | .str b :: ds => (asStrs ds).map (b :: ·)
  | _ :: _ => none
theorem asStrs_eq : ∀ {ds : List D} {bs : List Str}, asStrs ds = some bs → ds = bs.map PyData.str
  | [], bs, e => by simp only [asStrs, Option.some.injEq] at e; subst e; rfl
  | .str b :: ds, bs, e => by
    simp only [asStrs, Option.map_eq_some_iff] at e
    obtain ⟨cs, e1, rfl⟩ := e
    rw [asStrs_eq e1]; rfl
  | .none :: _, _, e => by cases e
  | .bool _ :: _, _, e => by cases e
  | .int _ :: _, _, e => by cases e
  | .list _ :: _, _, e => by cases e
  | .tuple _ :: _, _, e => by cases e
  | .dict _ :: _, _, e => by cases e
@[simp] theorem asStrs_map (bs : List Str) : asStrs (bs.map PyData.str) = some bs := by
  induction bs with
  | nil => rfl
  | cons b bs ih => simp [asStrs, ih]
def joinS (a : Str) (o : O) : Option O := o.seq?.bind fun ds => (asStrs ds).bind fun ys => if (ys.map (·.length)).sum + ys.length * a.length ≤ 16777216 then some (.val (.str (Txt.join a ys))) else none
def splitS (a : Str) : O → Option O
  | .val (.str b) => if (b.length == 0) = false ∧ a.length + 2 ≤ sizeLine then some (.lst ((Txt.split a b).map PyData.str)) else none
  | _ => none
def oM1 (sem : Str → O → Option O) (f g : ES) : ES := fun ρ => (f ρ).bind fun p ρ1 => match look ρ1 p with
  | some (.val (.str a)) => (g ρ1).bind fun p2 ρ2 => match look ρ2 p2 with
    | some o => put ρ2 (sem a o)
    | none => .stuck
  | _ => .stuck
theorem rd_m1 {sem : Str → O → Option O} {r : V → List V → Hp → VK → Prop} {Q : VK} (hr : ∀ (a : Str) (y : V) (H : Hp) (Q : VK) (Z : Zs) (b o : O), Rb (gx X ca) Z H b y → sem a b = some o → (∀ v H' F, Al (gx X ca) Z H o v H' F → Q v H') → r (.str a) [y] H Q)
    (q : RdE X ca W (oM1 sem f g) σ H Q) : tM1 r (RdE X ca W f) (RdE X ca W g) σ H Q := by
  obtain ⟨θ, Z, ρ, L, rr, q⟩ := q
  refine rd_bindE (P := PoE X ca W θ Z L H σ Q) rr (fun h => h) (fun c ρ' h => h) q fun p ρ1 Z1 H1 L1 F v q r1 h1 s1 => ?_
  have s1' := s1.sub fun a h => List.mem_append_right _ h
  split at q
  · rename_i a e
    have ev := rb_str (look_ok r1 h1 e)
    subst ev
    refine ⟨⟨a, rfl⟩, rd_bindE (P := PoE X ca W θ Z1 L1 H1 σ Q) r1 (fun h => h) (fun c ρ' h => h) (q.step s1') fun p2 ρ2 Z2 H2 L2 F2 y q r2 h2 s2 => ?_⟩
    split at q
    · rename_i o e2
      cases e3 : sem a o with
      | none => simp only [e3, Eng.put] at q; exact q.elim
      | some o' =>
        simp only [e3, Eng.put] at q
        exact hr a y H2 Q Z2 o o' (look_ok r2 h2 e2) e3 fun v H' F' x => q Z2 H' L2 F' v (x.rep r2) (x.held r2) ((s2.sub fun a h => List.mem_append_right _ h).trans x.step)
    · exact q.elim
  · exact q.elim
theorem se_join {o e : Expr} {apos pos : Pos} (ho : PE X o (RdE X ca W f)) (he : PE X e (RdE X ca W g)) (hs : starEach [e] X.env = [(false, eval e X.env)]) (hbase : attributeBase o "join" X.env (eval o X.env) = eval o X.env) (hline : (apos.endLine == pos.line) = true) :
    PE X (.Call (.Attribute o "join" apos) [e] [] pos) (RdE X ca W (oM1 joinS f g)) := PE.imp (pe_join ho he hs hbase hline) fun σ H Q h => rd_m1 (fun a y H Q Z b o hb e q => by
  unfold joinS at e
  cases e1 : b.seq? with
  | none => rw [e1] at e; cases e
  | some ds =>
    rw [e1] at e
    simp only [Option.bind_some] at e
    cases e2 : asStrs ds with
    | none => rw [e2] at e; cases e
    | some ys =>
      rw [e2] at e
      simp only [Option.bind_some] at e
      split at e
      · rename_i hc
        cases e
        obtain ⟨p, xs, rfl, hq, dz⟩ := rb_seq hb e1
        rw [asStrs_eq e2] at dz
        rw [dz.strs] at hq
        exact ⟨a, p, ys, rfl, rfl, hq, hc, q _ _ [] (Al.val (.str _))⟩
      · cases e) h
theorem dza_strs {Z : Zs} {K : PySem.W.Frag} {H : Hp} : ∀ ys : List Str, DzA Z K H (ys.map PyData.str) (ys.map V.str)
  | [] => .nil
  | y :: ys => .cons (.str y) (dza_strs ys)
theorem se_split {o e : Expr} {apos pos : Pos} (ho : PE X o (RdE X ca W f)) (he : PE X e (RdE X ca W g)) (hs : starEach [e] X.env = [(false, eval e X.env)]) (hbase : attributeBase o "split" X.env (eval o X.env) = eval o X.env) (hline : (apos.endLine == pos.line) = true) :
    PE X (.Call (.Attribute o "split" apos) [e] [] pos) (RdE X ca W (oM1 splitS f g)) := PE.imp (pe_split ho he hs hbase hline) fun σ H Q h => rd_m1 (fun a y H Q Z b o hb e q => by
  unfold splitS at e
  split at e
  · split at e
    · rename_i hc
      cases e
      cases rb_str hb
      exact ⟨a, _, rfl, rfl, hc.1, hc.2, fun p np => q _ _ _ (Al.lst (G := gx X ca) (dza_strs _) np)⟩
    · cases e
  · cases e) h
end
end Eng
set_option maxHeartbeats 1000000
/-! The engine, part 11: statements: blocks, stores to names, what a slot's object becomes. -/
namespace Eng
open PySem PySem.Spec L2
open PyProof.Rows hiding St

inductive SOut where
  | nx (ρ : En)
  | rt (o : O) (ρ : En)
  | bk (ρ : En)
  | ct (ρ : En)
  | exc (c : Nat) (ρ : En)
  | stuck
abbrev SS := En → SOut
def Out.bindS {α : Type} : Out α → (α → En → SOut) → SOut
  | .ok a ρ, f => f a ρ
  | .exc c ρ, _ => .exc c ρ
  | .stuck, _ => .stuck
@[simp] theorem bindS_ok {α : Type} (a : α) (ρ : En) (f : α → En → SOut) : (Out.ok a ρ).bindS f = f a ρ := rfl
@[simp] theorem bindS_exc {α : Type} (c : Nat) (ρ : En) (f : α → En → SOut) : (Out.exc c ρ : Out α).bindS f = .exc c ρ := rfl
@[simp] theorem bindS_stuck {α : Type} (f : α → En → SOut) : (Out.stuck : Out α).bindS f = .stuck := rfl
def SOut.then : SOut → SS → SOut
  | .nx ρ, f => f ρ
  | o, _ => o
@[simp] theorem then_nx (ρ : En) (f : SS) : (SOut.nx ρ).then f = f ρ := rfl
@[simp] theorem then_rt (o : O) (ρ : En) (f : SS) : (SOut.rt o ρ).then f = .rt o ρ := rfl
@[simp] theorem then_bk (ρ : En) (f : SS) : (SOut.bk ρ).then f = .bk ρ := rfl
@[simp] theorem then_ct (ρ : En) (f : SS) : (SOut.ct ρ).then f = .ct ρ := rfl
@[simp] theorem then_exc (c : Nat) (ρ : En) (f : SS) : (SOut.exc c ρ).then f = .exc c ρ := rfl
@[simp] theorem then_stuck (f : SS) : (SOut.stuck).then f = .stuck := rfl

section
variable (X : Cx) (ca : Nat → Addr) (W : WX)
def PoS (θ : Nat → V) (Z : Zs) (L : List Addr) (H : Hp) (D : Ends) : SOut → Prop
  | .nx ρ' => ∀ Z' H' L' σ', Rep θ (gx X ca) Z' H' ρ' σ' L' → Step Z L H Z' L' H' → D.nx σ' H'
  | .bk ρ' => ∀ Z' H' L' σ', Rep θ (gx X ca) Z' H' ρ' σ' L' → Step Z L H Z' L' H' → D.bk σ' H'
  | .ct ρ' => ∀ Z' H' L' σ', Rep θ (gx X ca) Z' H' ρ' σ' L' → Step Z L H Z' L' H' → D.ct σ' H'
  | .rt o ρ' => ∀ Z' H' L' F v σ', Rep θ (gx X ca) Z' H' ρ' σ' L' → Held (gx X ca) Z' H' σ' L' [.tmp o] [v] F → Step Z L H Z' (F ++ L') H' → D.rt v H'
  | .exc c ρ' => ∀ Z' H' L' σ', Rep θ (gx X ca) Z' H' ρ' σ' L' → Step Z L H Z' L' H' → W (.ref (ca c)) none σ' H'
  | .stuck => False
def RdS (f : SS) : TS := fun D σ H => ∃ θ Z ρ L, Rep θ (gx X ca) Z H ρ σ L ∧ PoS X ca W θ Z L H D (f ρ)
end
theorem PS.imp {X : Cx} {st : Stmt} {t t' : TS} (h : PS X st t) (i : ∀ D σ H, t' D σ H → t D σ H) : PS X st t' := ⟨fun pins s σ H D I q => h.run pins s σ H D I (i D σ H q)⟩
theorem PSs.imp {X : Cx} {st : List Stmt} {t t' : TS} (h : PSs X st t) (i : ∀ D σ H, t' D σ H → t D σ H) : PSs X st t' := ⟨fun pins s σ H D I q => h.run pins s σ H D I (i D σ H q)⟩

section
variable {X : Cx} {ca : Nat → Addr} {W : WX} {f g : ES} {b c : SS} {t : TS'} {G : Gx}
variable {θ : Nat → V} {Z Z1 : Zs} {L L1 F : List Addr} {H H1 : Hp} {σ : L2.St} {ρ ρ1 : En} {D : Ends}
theorem PoS.step {o : SOut} (q : PoS X ca W θ Z L H D o) (s : Step Z L H Z1 L1 H1) : PoS X ca W θ Z1 L1 H1 D o := by
  cases o with
  | stuck => exact q
  | exc c ρ1 => exact fun Z' H' L' σ' r s' => q Z' H' L' σ' r (s.trans s')
  | nx ρ1 => exact fun Z' H' L' σ' r s' => q Z' H' L' σ' r (s.trans s')
  | bk ρ1 => exact fun Z' H' L' σ' r s' => q Z' H' L' σ' r (s.trans s')
  | ct ρ1 => exact fun Z' H' L' σ' r s' => q Z' H' L' σ' r (s.trans s')
  | rt o ρ1 => exact fun Z' H' L' F v σ' r h s' => q Z' H' L' F v σ' r h (s.trans s')
/-- an expression, then a statement's rest -/
theorem rd_ES {k : Opd → En → SOut} {Q : VK} (r : Rep θ (gx X ca) Z H ρ σ L) (q : PoS X ca W θ Z L H D ((f ρ).bindS k))
    (go : ∀ p ρ1 Z1 H1 L1 F v, PoS X ca W θ Z L H D (k p ρ1) → Rep θ (gx X ca) Z1 H1 ρ1 σ L1 → Held (gx X ca) Z1 H1 σ L1 [p] [v] F → Step Z L H Z1 (F ++ L1) H1 → Q v H1) : RdE X ca W f σ H Q := by
  refine ⟨θ, Z, ρ, L, r, ?_⟩
  cases e : f ρ with
  | stuck => rw [e] at q; exact q.elim
  | exc c ρ1 => rw [e] at q; exact fun Z' H' L' r' s' => q Z' H' L' σ r' s'
  | ok p ρ1 => rw [e] at q; exact fun Z1 H1 L1 F v r1 h1 s1 => go p ρ1 Z1 H1 L1 F v q r1 h1 s1
theorem rd_TS {k : Bool → En → SOut} {Q : Bool → Hp → Prop} (r : Rep θ (gx X ca) Z H ρ σ L) (q : PoS X ca W θ Z L H D ((t ρ).bindS k))
    (go : ∀ b ρ1 Z1 H1 L1, PoS X ca W θ Z L H D (k b ρ1) → Rep θ (gx X ca) Z1 H1 ρ1 σ L1 → Step Z L H Z1 L1 H1 → Q b H1) : RdT X ca W t σ H Q := by
  refine ⟨θ, Z, ρ, L, r, ?_⟩
  cases e : t ρ with
  | stuck => rw [e] at q; exact q.elim
  | exc c ρ1 => rw [e] at q; exact fun Z' H' L' r' s' => q Z' H' L' σ r' s'
  | ok p ρ1 => rw [e] at q; exact fun Z1 H1 L1 r1 s1 => go p ρ1 Z1 H1 L1 q r1 s1
/-! ### blocks -/
def sNil : SS := fun ρ => .nx ρ
def sSeq (b c : SS) : SS := fun ρ => (b ρ).then c
def sExpr (f : ES) : SS := fun ρ => (f ρ).bindS fun _ ρ1 => .nx ρ1
def sIf (t : TS') (b c : SS) : SS := fun ρ => (t ρ).bindS fun k ρ1 => if k = true then b ρ1 else c ρ1
def sBreak : SS := fun ρ => .bk ρ
def sCont : SS := fun ρ => .ct ρ
/-- what is handed back: a name's own object goes along -/
def giveUp (ρ : En) : Opd → Option (O × En)
  | .tmp o => some (o, ρ)
  | .nm i => match ρ[i]? with
    | some (some (_, .val d)) => some (.val d, ρ)
    | some (some (_, .scr ns)) => some (.scr ns, ρ)
    | some (some (false, o)) => some (o, ρ.set i none)
    | some (some (true, .lst ds)) => some (.val (.list ds), frz ρ i)
    | _ => none
def sRet (f : ES) : SS := fun ρ => (f ρ).bindS fun p ρ1 => match giveUp ρ1 p with
  | some (o, ρ2) => .rt o ρ2
  | none => .stuck
def sRetN : SS := fun ρ => .rt (.val .none) ρ
variable {st : Stmt} {sts rest : List Stmt} {e : Expr} {pos : Pos}
theorem ss_nil : PSs X [] (RdS X ca W sNil) := PSs.imp pss_nil fun D σ H ⟨θ, Z, ρ, L, r, q⟩ => q Z H L σ r Step.refl
theorem ss_cons (h1 : PS X st (RdS X ca W b)) (h2 : PSs X rest (RdS X ca W c)) : PSs X (st :: rest) (RdS X ca W (sSeq b c)) := PSs.imp (pss_cons h1 h2) fun D σ H ⟨θ, Z, ρ, L, r, q⟩ => by
  refine ⟨θ, Z, ρ, L, r, ?_⟩
  unfold sSeq at q
  cases e : b ρ with
  | nx ρ1 =>
    rw [e] at q
    exact fun Z1 H1 L1 σ1 r1 s1 => ⟨θ, Z1, ρ1, L1, r1, PoS.step q s1⟩
  | rt o ρ1 => rw [e] at q; exact q
  | bk ρ1 => rw [e] at q; exact q
  | ct ρ1 => rw [e] at q; exact q
  | exc c ρ1 => rw [e] at q; exact q
  | stuck => rw [e] at q; exact q
theorem ss_one (h1 : PS X st (RdS X ca W b)) : PSs X [st] (RdS X ca W b) := pss_one h1
theorem ss_expr (he : PE X e (RdE X ca W f)) (hs : swapsWith e none pos.line X.env = pure false) : PS X (.Expr e pos) (RdS X ca W (sExpr f)) := PS.imp (ps_expr he hs) fun D σ H ⟨θ, Z, ρ, L, r, q⟩ =>
  rd_ES r q fun p ρ1 Z1 H1 L1 F v q r1 h1 s1 => q Z1 H1 L1 σ r1 (s1.sub fun a h => List.mem_append_right _ h)
theorem ss_if {cd : Expr} {as bs : List Stmt} (hc : PT X cd (RdT X ca W t)) (ha : PSs X as (RdS X ca W b)) (hb : PSs X bs (RdS X ca W c)) : PS X (.If cd as bs pos) (RdS X ca W (sIf t b c)) := PS.imp (ps_if hc ha hb) fun D σ H ⟨θ, Z, ρ, L, r, q⟩ =>
  rd_TS r q fun k ρ1 Z1 H1 L1 q r1 s1 => by
    cases k with
    | true => exact ⟨θ, Z1, ρ1, L1, r1, PoS.step (by simpa using q) s1⟩
    | false => exact ⟨θ, Z1, ρ1, L1, r1, PoS.step (by simpa using q) s1⟩

/-! ### a slot's object is lifted out, and comes back -/
theorem Rep.lift (r : Rep θ G Z H ρ σ L) {i : Nat} {p : Bool} {o : O} (e : ρ[i]? = some (some (p, o))) :
    ∃ F L' v, σ[i]? = some (some v) ∧ Ro G Z H o v F ∧ Rep θ G Z H (ρ.set i none) σ L' ∧ (F ++ L').Nodup ∧ (∀ a ∈ F, ¬ Z a) ∧ (∀ a, a ∈ F ++ L' ↔ a ∈ L) ∧ (p = true → v = θ i) := by
  obtain ⟨L1, F, L2, x, rfl, e2, h, put⟩ := r.put e
  cases h with
  | yes h =>
    rename_i v0
    have n := List.nodup_append.mp r.nd
    have n2 := List.nodup_append.mp n.2.1
    have rp := put (Z' := Z) (H' := H) (sl' := none) (x' := some v0) (F' := []) Kp.refl (fun _ _ _ q => q) .no List.nodup_nil (fun _ q => by cases q) (fun _ q => by cases q)
      (fun b hb => r.dis b ((List.mem_append.mp hb).elim (fun h => List.mem_append_left _ h) fun h => List.mem_append_right _ (List.mem_append_right _ h))) r.zd (fun o q => by cases q)
    rw [set_back e2] at rp
    refine ⟨F, L1 ++ ([] ++ L2), _, e2, h, rp, ?_, fun a ha => r.dis a (List.mem_append_right _ (List.mem_append_left _ ha)), fun a => ?_, fun hp => ?_⟩
    · have h3 := rp.nd
      refine List.nodup_append.mpr ⟨n2.1, h3, fun a ha b hb q => ?_⟩
      subst q
      rcases List.mem_append.mp hb with hb | hb
      · exact n.2.2 a hb a (List.mem_append_left _ ha) rfl
      · exact n2.2.2 a ha a (by simpa using hb) rfl
    · simp only [List.mem_append, List.nil_append]
      constructor
      · rintro (h | h | h)
        · exact .inr (.inl h)
        · exact .inl h
        · exact .inr (.inr h)
      · rintro (h | h | h)
        · exact .inr (.inl h)
        · exact .inl h
        · exact .inr (.inr h)
    · subst hp
      have := r.pn i o e
      rw [e2] at this
      exact Option.some.inj (Option.some.inj this)
theorem Rep.back (r : Rep θ G Z H ρ σ L) {i : Nat} {p : Bool} {o : O} {v : V} (e : ρ[i]? = some none) (hv : σ[i]? = some (some v)) (h : Ro G Z H o v F) (nd : (F ++ L).Nodup) (dis : ∀ a ∈ F, ¬ Z a) (hp : p = true → v = θ i) :
    ∃ L', Rep θ G Z H (ρ.set i (some (p, o))) σ L' ∧ ∀ a, a ∈ L' ↔ a ∈ F ++ L := by
  obtain ⟨L1, F0, L2, x, rfl, e2, h0, put⟩ := r.put e
  cases h0
  have n := List.nodup_append.mp nd
  have rp := put (Z' := Z) (H' := H) (sl' := some (p, o)) (x' := some v) (F' := F) Kp.refl (fun _ _ _ q => q) (.yes h) n.1 (fun a ha q => n.2.2 a ha a (by simpa using q) rfl) dis
    (fun b hb => r.dis b (by simpa using hb)) r.zd (fun o' q => by
      simp only [Option.some.injEq, Prod.mk.injEq] at q
      rw [hp q.1])
  rw [set_back hv] at rp
  refine ⟨_, rp, fun a => ?_⟩
  simp only [List.mem_append, List.nil_append]
  constructor
  · rintro (h | h | h)
    · exact .inr (.inl h)
    · exact .inl h
    · exact .inr (.inr h)
  · rintro (h | h | h)
    · exact .inr (.inl h)
    · exact .inl h
    · exact .inr (.inr h)
/-- what stands aside stays -/
theorem Ro.aside {Z' : Zs} {H' : Hp} {L' M : List Addr} {o : O} {v : V} (h : Ro G Z H o v F) (mu : ∀ a ∈ L, Mut (H a)) (dz : ∀ a ∈ L, ¬ Z a) (nd : (F ++ L).Nodup) (dis : ∀ a ∈ F, ¬ Z a) (s : Step Z L H Z' M H') (ndM : M.Nodup) :
    Ro G Z' H' o v F ∧ (F ++ M).Nodup ∧ ∀ a ∈ F, ¬ Z' a := by
  have n := List.nodup_append.mp nd
  have mF := h.mut
  refine ⟨h.kp (s.kp mu dz) fun a ha u e => s.keep a u e fun hl => n.2.2 a ha a hl rfl, List.nodup_append.mpr ⟨n.1, ndM, fun a ha b hb e => ?_⟩, fun a ha z => ?_⟩
  · subst e
    rcases s.lnew a hb with q | q
    · exact n.2.2 a ha a q rfl
    · exact mut_some (mF a ha) q
  · rcases s.znew a z with q | q | q
    · exact dis a ha q
    · exact n.2.2 a ha a q rfl
    · exact mut_some (mF a ha) q

/-! ### a store to a name -/
def setE (i : Nat) (o : O) (ρ : En) : Option En := match ρ[i]? with
  | some (some (true, _)) => none
  | some _ => some (ρ.set i (some (false, o)))
  | none => none
theorem setE_ok {i : Nat} {o : O} {ρ' : En} {v : V} (r : Rep θ G Z H ρ σ L) (h : Held G Z H σ L [.tmp o] [v] F) (e : setE i o ρ = some ρ') : ∃ L', Rep θ G Z H ρ' (σ.set i (some v)) L' ∧ ∀ a ∈ L', a ∈ F ++ L := by
  have hr := h.one
  have n := List.nodup_append.mp h.nd
  have gen : ∀ sl, ρ[i]? = some sl → ∃ L', Rep θ G Z H (ρ.set i (some (false, o))) (σ.set i (some v)) L' ∧ ∀ a ∈ L', a ∈ F ++ L := fun sl e1 => by
    obtain ⟨L1, F0, L2, x, rfl, e2, h0, put⟩ := r.put e1
    have sub : ∀ a, a ∈ L1 ++ L2 → a ∈ L1 ++ (F0 ++ L2) := fun a ha => (List.mem_append.mp ha).elim (fun h => List.mem_append_left _ h) fun h => List.mem_append_right _ (List.mem_append_right _ h)
    have rp := put (Z' := Z) (H' := H) (sl' := some (false, o)) (x' := some v) (F' := F) Kp.refl (fun _ _ _ q => q) (.yes hr) n.1 (fun a ha q => n.2.2 a ha a (sub a q) rfl) h.dis
      (fun b hb => r.dis b (sub b hb)) r.zd (fun o' q => by cases q)
    refine ⟨_, rp, fun a ha => ?_⟩
    rcases List.mem_append.mp ha with ha | ha
    · exact List.mem_append_right _ (List.mem_append_left _ ha)
    · rcases List.mem_append.mp ha with ha | ha
      · exact List.mem_append_left _ ha
      · exact List.mem_append_right _ (List.mem_append_right _ (List.mem_append_right _ ha))
  unfold setE at e
  split at e
  · cases e
  · rename_i sl _ e1
    cases e
    exact gen _ e1
  · cases e
/-- what a name gets: a copy of a frozen thing, or the thing itself -/
def takeM (ρ : En) (p : Opd) : Option (O × En) := match take ρ p with
  | some x => some x
  | none => giveUp ρ p
theorem giveUp_ok {p : Opd} {o : O} {ρ' : En} {v : V} (r : Rep θ G Z H ρ σ L) (h : Held G Z H σ L [p] [v] F) (e : giveUp ρ p = some (o, ρ')) :
    ∃ Z' L' F', Rep θ G Z' H ρ' σ L' ∧ Held G Z' H σ L' [.tmp o] [v] F' ∧ Step Z (F ++ L) H Z' (F' ++ L') H := by
  cases p with
  | tmp o' =>
    simp only [giveUp, Option.some.injEq, Prod.mk.injEq] at e
    obtain ⟨rfl, rfl⟩ := e
    exact ⟨Z, L, F, r, h, Step.refl⟩
  | nm j =>
    obtain ⟨rfl, hv⟩ := h.nm
    simp only [giveUp] at e
    split at e
    · rename_i b d e1
      cases e
      obtain ⟨v', F0, h1, h0, _⟩ := r.sl.get e1
      rw [hv] at h1; cases h1
      cases h0 with
      | val h0 => exact ⟨Z, L, [], r, .tmp (.val h0) r.nd (fun _ q => by cases q), Step.refl⟩
    · rename_i b d e1
      cases e
      obtain ⟨v', F0, h1, h0, _⟩ := r.sl.get e1
      rw [hv] at h1; cases h1
      cases h0 with
      | scr h0 => exact ⟨Z, L, [], r, .tmp (.scr h0) r.nd (fun _ q => by cases q), Step.refl⟩
    · rename_i o' _ _ e1
      cases e
      obtain ⟨F0, L', v', h1, h2, h3, h4, h5, h6, _⟩ := r.lift e1
      rw [hv] at h1; cases h1
      exact ⟨Z, L', F0, h3, .tmp h2 h4 h5, ⟨fun _ _ e _ => e, fun _ h => h, fun _ h => .inl h, fun a ha => .inl (by simpa using (h6 a).mp ha)⟩⟩
    · rename_i ds e1
      cases e
      obtain ⟨Z', L', v', q1, q2, q3, q4, _⟩ := r.frz e1
      rw [hv] at q1
      cases q1
      rw [frz_eq e1]
      exact ⟨Z', L', [], q2, .tmp (.val q3) q2.nd (fun _ q => by cases q), q4⟩
    · cases e
theorem takeM_ok {p : Opd} {o : O} {ρ' : En} {v : V} (r : Rep θ G Z H ρ σ L) (h : Held G Z H σ L [p] [v] F) (e : takeM ρ p = some (o, ρ')) :
    ∃ Z' L' F', Rep θ G Z' H ρ' σ L' ∧ Held G Z' H σ L' [.tmp o] [v] F' ∧ Step Z (F ++ L) H Z' (F' ++ L') H := by
  unfold takeM at e
  split at e
  · rename_i x e1
    cases e
    exact take_ok r h e1
  · exact giveUp_ok r h e
def stoE (i : Nat) (ρ : En) (p : Opd) : SOut := match takeM ρ p with
  | some (o, ρ1) => match setE i o ρ1 with
    | some ρ2 => .nx ρ2
    | none => .stuck
  | none => .stuck
def sAsg (i : Nat) (f : ES) : SS := fun ρ => (f ρ).bindS fun p ρ1 => stoE i ρ1 p
theorem stoE_ok {i : Nat} {p : Opd} {v : V} {Z0 : Zs} {L0 : List Addr} {H0 : Hp} (r : Rep θ (gx X ca) Z H ρ σ L) (h : Held (gx X ca) Z H σ L [p] [v] F) (s : Step Z0 L0 H0 Z (F ++ L) H) (q : PoS X ca W θ Z0 L0 H0 D (stoE i ρ p)) : D.nx (σ.set i (some v)) H := by
  unfold stoE at q
  split at q
  · rename_i o ρ1 e1
    split at q
    · rename_i ρ2 e2
      obtain ⟨Z', L', F', r1, h1, s1⟩ := takeM_ok r h e1
      obtain ⟨L2, r2, sub⟩ := setE_ok r1 h1 e2
      exact q Z' H L2 _ r2 ((s.trans s1).sub sub)
    · exact q.elim
  · exact q.elim
theorem ss_asg {i : Nat} {x : Str} {pos' : Pos} (hN : X.N.Nodup) (hi : X.N[i]? = some x) (hx : Loc X.env.scope x) (he : PE X e (RdE X ca W f)) (hs : swapsWith e (some (.Name x pos')) pos.line X.env = pure false) (hf : X.fn x = true ∨ X.env.scope.names.lookup x = some .local) :
    PS X (.Assign [.Name x pos'] e pos) (RdS X ca W (sAsg i f)) := PS.imp (ps_set hN hi hx he hs hf) fun D σ H ⟨θ, Z, ρ, L, r, q⟩ =>
  rd_ES r q fun p ρ1 Z1 H1 L1 F v q r1 h1 s1 => stoE_ok r1 h1 s1 q
theorem ss_ret (he : PE X e (RdE X ca W f)) : PS X (.Return (some e) pos) (RdS X ca W (sRet f)) := PS.imp (ps_ret he) fun D σ H ⟨θ, Z, ρ, L, r, q⟩ =>
  rd_ES r q fun p ρ1 Z1 H1 L1 F v q r1 h1 s1 => by
    split at q
    · rename_i o ρ2 e1
      obtain ⟨Z', L', F', r2, h2, s2⟩ := giveUp_ok r1 h1 e1
      exact q Z' H1 L' F' v σ r2 h2 (s1.trans s2)
    · exact q.elim
/-! ### a slot's object is written -/
def own1 : O → Bool
  | .lst _ => true
  | .dic _ => true
  | .set _ => true
  | _ => false
theorem kp_upd {K : PySem.W.Frag} {l : Addr} {u : HO} (mu : Mut (H l)) (nz : ¬ Z l) : Kp Z K H Z (upd H l u) where
  z := fun _ h => h
  r := fun a xs z e => by
    rw [upd_ne (show a ≠ l from fun q => nz (q ▸ z))]
    exact e
  t := fun a xs r => by
    have ne : ∀ v, H a = some v → ¬ Mut (some v) → a ≠ l := fun v e nm q => by subst q; rw [e] at mu; exact nm mu
    rcases r with (r | ⟨o, r⟩) | r
    · exact .inl (.inl (by rw [upd_ne (ne _ r fun h => h)]; exact r))
    · exact .inl (.inr ⟨o, by rw [upd_ne (ne _ r fun h => h)]; exact r⟩)
    · exact .inr r
  f := fun a ns r => by
    have ne : ∀ v, H a = some v → ¬ Mut (some v) → a ≠ l := fun v e nm q => by subst q; rw [e] at mu; exact nm mu
    rcases r with ⟨ob, r⟩ | r
    · exact .inl ⟨ob, by rw [upd_ne (ne _ r fun h => h)]; exact r⟩
    · exact .inr r
theorem Ro.own1 {o : O} {v : V} (h : Ro G Z H o v F) (e : Eng.own1 o = true) : ∃ l, v = .ref l ∧ F = [l] := by
  cases h with
  | lst => exact ⟨_, rfl, rfl⟩
  | dic => exact ⟨_, rfl, rfl⟩
  | dct => exact ⟨_, rfl, rfl⟩
  | set => exact ⟨_, rfl, rfl⟩
  | _ => cases e
theorem Rep.wr (r : Rep θ G Z H ρ σ L) {i : Nat} {p : Bool} {o : O} (e : ρ[i]? = some (some (p, o))) (ho : own1 o = true) : ∃ l, σ[i]? = some (some (.ref l)) ∧ Ro G Z H o (.ref l) [l] ∧ l ∈ L ∧ (¬ Z l) ∧
    ∀ o' u', Ro G Z (upd H l u') o' (.ref l) [l] → Rep θ G Z (upd H l u') (ρ.set i (some (p, o'))) σ L ∧ Step Z L H Z L (upd H l u') := by
  obtain ⟨L1, F, L2, x, rfl, e2, h, put⟩ := r.put e
  cases h with
  | yes h =>
    obtain ⟨l, rfl, rfl⟩ := h.own1 ho
    have hl : l ∈ L1 ++ ([l] ++ L2) := List.mem_append_right _ (List.mem_append_left _ List.mem_cons_self)
    have nz : ¬ Z l := r.dis l hl
    have mu : Mut (H l) := h.mut l List.mem_cons_self
    refine ⟨l, e2, h, hl, nz, fun o' u' h' => ?_⟩
    have n := List.nodup_append.mp r.nd
    have n2 := List.nodup_append.mp n.2.1
    have nl : ∀ a, a ∈ L1 ++ L2 → a ≠ l := fun a ha q => by
      subst q
      rcases List.mem_append.mp ha with ha | ha
      · exact n.2.2 a ha a (List.mem_append_left _ List.mem_cons_self) rfl
      · exact n2.2.2 a List.mem_cons_self a ha rfl
    have rp := put (Z' := Z) (H' := upd H l u') (sl' := some (p, o')) (x' := some (.ref l)) (F' := [l]) (kp_upd mu nz) (fun a ha u q => by rw [upd_ne (nl a ha)]; exact q) (.yes h') (by simp)
      (fun a ha q => by rw [List.mem_singleton] at ha; subst ha; exact nl a q rfl) (fun a ha => by rw [List.mem_singleton] at ha; subst ha; exact nz)
      (fun b hb => r.dis b ((List.mem_append.mp hb).elim (fun h => List.mem_append_left _ h) fun h => List.mem_append_right _ (List.mem_append_right _ h)))
      (fun a z q => by
        by_cases hal : a = l
        · subst hal; exact nz z
        · rw [upd_ne hal] at q; exact r.zd a z q)
      (fun o'' q => by
        simp only [Option.some.injEq, Prod.mk.injEq] at q
        have hp := r.pn i o (by rw [e, q.1])
        rw [e2] at hp
        exact Option.some.inj hp)
    rw [set_back e2] at rp
    exact ⟨rp, ⟨fun a u e hn => by rw [upd_ne (show a ≠ l from fun q => hn (q ▸ hl))]; exact e, fun _ z => z, fun _ z => .inl z, fun _ h => .inl h⟩⟩
theorem Ro.lst_of {ds : List Eng.D} {l : Addr} (h : Ro G Z H (.lst ds) (.ref l) F) : ∃ xs, H l = some (.lst xs) ∧ DzA Z G.K H ds xs := by
  cases h with
  | lst e h => exact ⟨_, e, h⟩
end
end Eng
set_option maxHeartbeats 1000000
/-! The engine, part 12: objects that change: methods of lists, stores to items, tuples unpacked. -/
namespace Eng
open PySem PySem.Spec L2
open PyProof.Rows hiding St

/-- the object at slot i is changed -/
def mutE (sem : O → Option (O × D)) (i : Nat) (ρ : En) : Out Opd := match ρ[i]? with
  | some (some (p, o)) => match sem o with
    | some (o', res) => .ok (.tmp (.val res)) (ρ.set i (some (p, o')))
    | none => .stuck
  | _ => .stuck
def isLstO : O → Bool
  | .lst _ => true
  | _ => false
def oMutA (sem : O → List D → Option (O × D)) (i : Nat) (as : AS) : ES := fun ρ => match slotO ρ i with
  | some o0 => if isLstO o0 = true then (as ρ).bind fun ps ρ1 => match gives ρ1 ps with
      | some (ds, ρ2) => mutE (fun o => sem o ds) i ρ2
      | none => .stuck
    else .stuck
  | none => .stuck
def oMut0 (sem : O → Option (O × D)) (i : Nat) : ES := fun ρ => match slotO ρ i with
  | some o0 => if isLstO o0 = true then mutE sem i ρ else .stuck
  | none => .stuck
section
variable {X : Cx} {ca : Nat → Addr} {W : WX} {f g : ES} {as : AS} {G : Gx}
variable {θ : Nat → V} {Z Z1 : Zs} {L L1 F : List Addr} {H H1 : Hp} {σ : L2.St} {ρ ρ1 : En} {Dn : Ends}
/-- what a method's reading asks of its rule -/
def MutR (X : Cx) (ca : Nat → Addr) (sem : O → List D → Option (O × D)) (r : V → List V → Hp → VK → Prop) : Prop :=
  ∀ (l : Addr) (o o' : O) (res : D) (ds : List D) (ys : List V) (H : Hp) (Q : VK) (Z : Zs), Ro (gx X ca) Z H o (.ref l) [l] → ¬ Z l → DzA Z X.K H ds ys → sem o ds = some (o', res) →
    (∀ w u', Ro (gx X ca) Z (upd H l u') o' (.ref l) [l] → Dz Z X.K (upd H l u') res w → Q w (upd H l u')) → r (.ref l) ys H Q
theorem isLst_ty {o : O} {v : V} (h : Rb (gx X ca) Z H o v) (e : isLstO o = true) : tyV X.K "list" v H := by
  obtain ⟨F, h⟩ := h
  cases h with
  | lst e1 h1 => exact .inl ⟨rfl, _, .inl (.inl e1)⟩
  | _ => cases e
theorem rd_mut {sem : O → List D → Option (O × D)} {i : Nat} {r : V → List V → Hp → VK → Prop} (hs : ∀ o ds x, sem o ds = some x → own1 o = true) (hr : MutR X ca sem r) {Q : VK} (q : RdE X ca W (oMutA sem i as) σ H Q) :
    tBM X.K "list" r (RdE X ca W (oNm i)) (RdA X ca W as) σ H Q := by
  obtain ⟨θ, Z, ρ, L, rr, q⟩ := q
  unfold oMutA at q
  cases e0 : slotO ρ i with
  | none => rw [e0] at q; exact q.elim
  | some o0 =>
    rw [e0] at q
    by_cases hl : isLstO o0 = true
    · simp only [hl, if_true] at q
      refine ⟨θ, Z, ρ, L, rr, ?_⟩
      unfold oNm
      rw [e0]
      intro Z1 H1 L1 F v r1 h1 s1
      obtain ⟨rfl, hv⟩ := h1.nm
      refine ⟨isLst_ty (r1.look e0 hv) hl, θ, Z1, ρ, L1, r1, ?_⟩
      cases ea : as ρ with
      | stuck => rw [ea] at q; exact q
      | exc c ρ1 => rw [ea] at q; exact fun Z' H' L' r' s' => q Z' H' L' r' (s1.trans s')
      | ok ps ρ1 =>
        rw [ea] at q
        simp only [bind_ok] at q
        intro Z2 H2 L2 F2 vs r2 h2 s2
        cases eg : gives ρ1 ps with
        | none => rw [eg] at q; exact q.elim
        | some x =>
          obtain ⟨ds, ρ2⟩ := x
          rw [eg] at q
          simp only at q
          obtain ⟨Z3, L3, r3, d3, s3⟩ := gives_ok r2 h2 eg
          unfold mutE at q
          split at q
          · rename_i p o e3
            split at q
            · rename_i o' res e4
              obtain ⟨l, w1, w2, w3, w4, w5⟩ := r3.wr e3 (hs _ _ _ e4)
              rw [hv] at w1
              cases w1
              refine hr l o o' res ds vs H2 Q Z3 w2 w4 d3 e4 fun w u' ro' dz' => ?_
              obtain ⟨r4, s4⟩ := w5 o' u' ro'
              exact q Z3 _ L3 [] w r4 (.tmp (.val dz') r4.nd (fun _ q => by cases q)) (((s1.trans s2).trans s3).trans s4)
            · exact q.elim
          · exact q.elim
    · simp only [hl, if_false, Bool.false_eq_true] at q
      exact q.elim
/-! ### the methods of lists -/
def appS : O → List D → Option (O × D)
  | .lst ds, [d] => if ds.length < sizeLine then some (.lst (ds ++ [d]), .none) else none
  | _, _ => none
theorem kp_l {l : Addr} {o : O} {u : HO} (h : Ro G Z H o (.ref l) [l]) (nz : ¬ Z l) : Kp Z G.K H Z (upd H l u) := kp_upd (h.mut l List.mem_cons_self) nz
theorem Ro.lst_new {ds : List D} {xs : List V} {l : Addr} {o : O} (h : Ro G Z H o (.ref l) [l]) (nz : ¬ Z l) (d : DzA Z G.K H ds xs) : Ro G Z (upd H l (.lst xs)) (.lst ds) (.ref l) [l] := .lst upd_same (d.kp (kp_l h nz))
theorem mut_app : MutR X ca appS rAppend := by
  intro l o o' res ds ys H Q Z hr nz hd e q
  unfold appS at e
  split at e
  · split at e
    · rename_i xs d hz
      cases e
      obtain ⟨us, hl, dz⟩ := hr.lst_of
      cases hd with
      | cons h1 t =>
        cases t
        exact ⟨l, us, _, rfl, rfl, hl, by rw [dz.length]; exact hz, q _ _ (Ro.lst_new hr nz (dz.append (.cons h1 .nil))) .non⟩
    · cases e
  · cases e
end
end Eng
set_option maxHeartbeats 1000000
/-! The engine, part 13: extend by a list or a tuple; stores to items; tuples unpacked. -/
namespace Eng
open PySem PySem.Spec L2
open PyProof.Rows hiding St

section
variable {X : Cx}
/-! ### stores to items -/
def setS : O → D → D → Option O
  | .lst ds, .int i, d => match ixN ds.length i with
    | some j => some (.lst (ds.set j d))
    | none => none
  | .dic es, k, d => if dOk es k = true ∧ es.length < sizeLine then some (.dic (dput es k d)) else none
  | _, _, _ => none
variable {ca : Nat → Addr} {W : WX} {f g : ES} {as : AS} {G : Gx}
variable {θ : Nat → V} {Z Z1 : Zs} {L L1 F : List Addr} {H H1 : Hp} {σ : L2.St} {ρ ρ1 : En} {Dn : Ends}
theorem setS_own {o o' : O} {k d : D} (e : setS o k d = some o') : own1 o = true := by
  unfold setS at e
  split at e
  · rfl
  · rfl
  · cases e
def SetV (X : Cx) (ca : Nat → Addr) : TSet := fun o i v H Q => ∃ Z l ob k d o', o = .ref l ∧ Ro (gx X ca) Z H ob (.ref l) [l] ∧ ¬ Z l ∧ Dz Z X.K H k i ∧ Dz Z X.K H d v ∧ setS ob k d = some o' ∧ ∀ u', Ro (gx X ca) Z (upd H l u') o' (.ref l) [l] → Q (upd H l u')
theorem atKey_any {xs : List (NestedKey × Addr × Value)} {κ : NestedKey} : (atKey xs κ).isSome = xs.any fun x => decide (x.1 = κ) := by
  induction xs with
  | nil => rfl
  | cons x xs ih =>
    by_cases q : x.1 = κ
    · simp [atKey, q]
    · rw [List.any_cons, decide_eq_false q, Bool.false_or, ← ih]
      simp [atKey, q]
theorem nent_put {K : PySem.W.Frag} {κ : NestedKey} {b : Addr} {k d : D} {v : V} {r : Value} (hκ : nkey k = some κ) (hd : κ.depth ≤ 8) (hb : Dz Z K H k (.ref b)) (hv : Dz Z K H d v) (rv : RelV v r) : ∀ {xs : List (NestedKey × Addr × Value)} {es : List (D × D)}, Paired (NEnt Z K H) xs es →
    Paired (NEnt Z K H) (xs.map (putAt κ r)) (es.map fun e => if PyData.eqv e.1 k = true then (e.1, d) else e)
  | _, _, .nil => .nil
  | x :: xs, e :: es, .cons h t => by
    refine .cons ?_ (nent_put hκ hd hb hv rv t)
    obtain ⟨h1, h2, h3, w, h4, h5⟩ := h
    have e1 : PyData.eqv e.1 k = decide (x.1 = κ) := nkey_eqv h1 hκ
    unfold putAt
    by_cases q : x.1 = κ
    · simp only [e1, q, decide_true, if_true]
      exact ⟨by rw [← q]; exact h1, by rw [← q]; exact h2, h3, v, rv, hv⟩
    · simp only [e1, q, decide_false, if_false, Bool.false_eq_true]
      exact ⟨h1, h2, h3, w, h4, h5⟩
theorem nent_store {K : PySem.W.Frag} {κ : NestedKey} {b : Addr} {k d : D} {v : V} {r : Value} (hκ : nkey k = some κ) (hd : κ.depth ≤ 8) (hb : Dz Z K H k (.ref b)) (hv : Dz Z K H d v) (rv : RelV v r) {xs : List (NestedKey × Addr × Value)} {es : List (D × D)} (p : Paired (NEnt Z K H) xs es) :
    Paired (NEnt Z K H) (storedH xs κ b r) (dput es k d) := by
  unfold storedH dput
  rw [(dget_nk p hκ).1]
  split
  · exact nent_put hκ hd hb hv rv p
  · have : ∀ {xs : List (NestedKey × Addr × Value)} {es : List (D × D)}, Paired (NEnt Z K H) xs es → Paired (NEnt Z K H) (xs ++ [(κ, b, r)]) (es ++ [(k, d)]) := by
      intro xs es p
      induction p with
      | nil => exact .cons ⟨hκ, hd, hb, v, rv, hv⟩ .nil
      | cons h t ih => exact .cons h ih
    exact this p
theorem ndict_ok {P : Program} {w : World} {K : PySem.W.Frag} {H' : Hp} {h' : Heap} {a : Addr} {xs : List (NestedKey × Addr × Value)} (G : Gx) (hP : G.P = P) (hw : G.w = w) (dd : h'.DictOfH (nestedKind P w) a xs) (hd : (a == sysModules) = false) (hz : xs.length ≤ sizeLine) : ObjOk P w H' h' a (.ext (NDict G a xs)) := by
  obtain ⟨o, es, ep, h1, h2, h3, h4, _, h5⟩ := dd
  refine ⟨⟨o, es, ep, h1, h2, h3, by rw [hP, hw]; exact h4, h5, hd, hz⟩, ⟨o, h1⟩, fun g1 g2 ⟨o', es', ep', q1, q2⟩ k => ⟨o', es', ep', k _ q1, q2⟩⟩
theorem len_dput (es : List (D × D)) (k d : D) : (dput es k d).length ≤ es.length + 1 := by
  unfold dput
  split
  · simp
  · simp
theorem storedH_keys {xs : List (NestedKey × Addr × Value)} {κ : NestedKey} {b : Addr} {r : Value} (nd : (xs.map (·.1)).Nodup) : ((storedH xs κ b r).map (·.1)).Nodup := by
  unfold storedH
  by_cases q : (atKey xs κ).isSome = true
  · rw [if_pos q, List.map_map]
    have : ((fun x : NestedKey × Addr × Value => x.1) ∘ putAt κ r) = fun x => x.1 := by
      funext x
      unfold putAt
      simp only [Function.comp]
      split <;> rfl
    rw [this]
    exact nd
  · rw [if_neg q, List.map_append]
    rw [atKey_any] at q
    refine List.nodup_append.mpr ⟨nd, by simp, fun a ha c hc e => ?_⟩
    simp only [List.map_cons, List.map_nil, List.mem_singleton] at hc
    subst hc
    subst e
    obtain ⟨x, hx, ex⟩ := List.mem_map.mp ha
    exact q (List.any_eq_true.mpr ⟨x, hx, by simp [ex]⟩)
theorem storedH_ne {xs : List (NestedKey × Addr × Value)} {κ : NestedKey} {b : Addr} {r : Value} : storedH xs κ b r ≠ [] := by
  unfold storedH
  split
  · rename_i h
    cases xs with
    | nil => simp [atKey] at h
    | cons x xs => simp
  · simp
theorem putK_nd {kvs : List (Key × V)} {k : Key} {v : V} (nd : (kvs.map (·.1)).Nodup) : ((putK kvs k v).map (·.1)).Nodup := by
  cases q : valV kvs k with
  | none => exact nd_putK v nd q
  | some w =>
    unfold putK
    rw [if_pos (by rw [valV_any, q]; rfl), List.map_map]
    have : ((fun x : Key × V => x.1) ∘ fun kv => if kv.1 = k then (kv.1, v) else kv) = fun x => x.1 := by
      funext x
      simp only [Function.comp]
      split <;> rfl
    rw [this]
    exact nd
theorem set_all (hu : X.A.units + 65 < cLine) : PSet X (SetV X ca) := by
  intro pins s σ H o i v ov iv u Q I ro ri rv ⟨Z, l, ob, k, d, o', e1, hr, nz, hk, hd, e, q⟩
  subst e1
  have mu : Mut (H l) := hr.mut l List.mem_cons_self
  have kp : ∀ u', Kp Z X.K H Z (upd H l u') := fun u' => kp_l (G := gx X ca) hr nz
  have hro := ro
  cases ro
  cases ob with
  | lst ds =>
    cases k with
    | int j =>
      simp only [setS] at e
      split at e
      · rename_i j' hj
        cases e
        obtain ⟨xs, hl, dz⟩ := hr.lst_of
        cases hk
        exact set_list pins s σ H _ _ v _ iv u Q I hro ri rv ⟨l, xs, j, j', rfl, rfl, hl, by rw [dz.length]; exact hj, q _ (Ro.lst_new (G := gx X ca) hr nz (dz.set _ hd))⟩
      · cases e
    | _ => simp [setS] at e
  | dic es =>
    simp only [setS] at e
    split at e
    · rename_i hc
      cases e
      obtain ⟨hc, hsz⟩ := hc
      rcases Bool.or_eq_true_iff.mp hc with hc | hc
      · rw [Bool.and_eq_true] at hc
        obtain ⟨κ, hκ⟩ := Option.isSome_iff_exists.mp hc.1
        cases hr with
        | dic e1 h1 h2 nd =>
          rename_i kvs
          obtain rfl := key_v hk hκ
          have hl := h1.length
          rw [List.length_map, List.length_map] at hl
          refine d_setItem (by omega) I (DPut.k (k := κ) (v := v) e1 (by omega)) ri rv fun s' I' => ⟨_, I', q _ ?_⟩
          obtain ⟨p1, p2⟩ := dput_ok h1 h2 hκ hk hd
          exact .dic upd_same (p1.kp (kp _)) (p2.kp (kp _)) (putK_nd nd)
        | dct e1 hx nd ne => exact absurd (all_nkey hx hc.2) ne
      · rw [Bool.and_eq_true] at hc
        obtain ⟨κ, hκ⟩ := Option.isSome_iff_exists.mp hc.1
        obtain ⟨hκ1, hκ2⟩ := nkOf_some hκ
        obtain ⟨ts, rfl⟩ := nkey_ref hκ
        cases hk with
        | tup hq hts =>
          rename_i b ws
          cases ri
          have hb : Dz Z X.K H (.tuple ts) (.ref b) := .tup hq hts
          have his : (nestedKind X.prog X.w).is s.heap κ b := ⟨nested_is I hb rfl hκ1, hκ2⟩
          have go : ∀ xs, s.heap.DictOfH (nestedKind X.prog X.w) l xs → (l == sysModules) = false → xs.length = es.length → Paired (NEnt Z X.K H) xs es → (xs.map (·.1)).Nodup →
              wpAny (model X.prog X.w) X.A (setItem (.ref l) (.ref b) u) (fun _ s' => ∃ H', Inv X pins σ H' s' ∧ Q H') X.xe s := fun xs hm hs hlen hx nd => by
            have hst : (storedH xs κ b u).length ≤ sizeLine := by
              have := Paired.length (nent_store hκ1 hκ2 hb hd rv hx)
              have h2 := len_dput es (.tuple ts) d
              omega
            refine wpAny_setItem_heap (hsz := by omega) (show X.A.units + 1 + 8 < cLine by omega) his hm fun h' hm' sb => ?_
            have he : ∃ q, h'.get? l = some q := let ⟨q, _, _, hq, _⟩ := hm'; ⟨q, hq⟩
            refine ⟨_, d_write I mu sb he (ndict_ok (K := X.K) (gx X ca) rfl rfl hm' hs hst), q _ ?_⟩
            have hp := nent_store hκ1 hκ2 hb hd rv hx
            exact .dct upd_same (Paired.mapP hp fun p q ⟨h1, h2, h3, v, h4, h5⟩ => ⟨h1, h2, h3.kp (kp _), v, h4, h5.kp (kp _)⟩) (storedH_keys nd) storedH_ne
          cases hr with
          | dic e1 h1 h2 nd =>
            obtain ⟨rfl, rfl⟩ := all_key h1 hc.2
            obtain ⟨m1, m2⟩ := ndict_nil I e1
            exact go [] m1 m2 rfl .nil List.nodup_nil
          | dct e1 hx nd ne =>
            obtain ⟨m1, m2, _⟩ := ndict_at I rfl rfl e1 hx
            exact go _ m1 m2 (Paired.length hx) hx nd
    · cases e
  | _ => simp [setS] at e
end
end Eng
set_option maxHeartbeats 1000000
/-! The engine, part 14: stores to items as statements, tuples unpacked, extend, loops. -/
namespace Eng
open PySem PySem.Spec L2
open PyProof.Rows hiding St

section
variable {X : Cx} {ca : Nat → Addr} {W : WX} {f g : ES} {as : AS} {G : Gx} {b : SS} {t : TS'}
variable {θ : Nat → V} {Z Z1 : Zs} {L L1 F : List Addr} {H H1 : Hp} {σ : L2.St} {ρ ρ1 : En} {Dn : Ends}
/-! ### x[k] = e -/
def putAtE (i : Nat) (ρ : En) (pd pk : Opd) : SOut := match give ρ pd with
  | some (d, ρ1) => match give ρ1 pk with
    | some (k, ρ2) => match ρ2[i]? with
      | some (some (p, o)) => match setS o k d with
        | some o' => .nx (ρ2.set i (some (p, o')))
        | none => .stuck
      | _ => .stuck
    | none => .stuck
  | none => .stuck
def sPut (i : Nat) (fk fv : ES) : SS := fun ρ => (fv ρ).bindS fun pd ρ1 => match slotO ρ1 i with
  | some _ => (fk ρ1).bindS fun pk ρ2 => putAtE i ρ2 pd pk
  | none => .stuck
theorem Held.two {p1 p2 : Opd} {v1 v2 : V} (h : Held G Z H σ L [p1, p2] [v1, v2] F) : ∃ F1 F2, F = F1 ++ F2 ∧ Held G Z H σ (F2 ++ L) [p1] [v1] F1 ∧ Held G Z H σ L [p2] [v2] F2 := by
  obtain ⟨F1, F2, rfl, h1, h2⟩ := h.ok.cons_split
  have n := List.nodup_append.mp h.nd
  have n2 := List.nodup_append.mp n.1
  refine ⟨F1, F2, rfl, ⟨h1, by rw [← List.append_assoc]; exact h.nd, fun a ha => h.dis a (List.mem_append_left _ ha)⟩, ⟨h2, List.nodup_append.mpr ⟨n2.2.1, n.2.1, fun a ha b hb => n.2.2 a (List.mem_append_right _ ha) b hb⟩, fun a ha => h.dis a (List.mem_append_right _ ha)⟩⟩
theorem give_two {p1 p2 : Opd} {v1 v2 : V} {d1 d2 : D} {ρ1 ρ2 : En} (r : Rep θ G Z H ρ σ L) (h : Held G Z H σ L [p1, p2] [v1, v2] F) (e1 : give ρ p1 = some (d1, ρ1)) (e2 : give ρ1 p2 = some (d2, ρ2)) :
    ∃ Z' L', Rep θ G Z' H ρ2 σ L' ∧ Dz Z' G.K H d1 v1 ∧ Dz Z' G.K H d2 v2 ∧ Step Z (F ++ L) H Z' L' H := by
  obtain ⟨Z', L', r', d', s'⟩ := gives_ok (ds := [d1, d2]) (ρ' := ρ2) r h (by simp [gives, e1, e2])
  cases d' with
  | cons q1 t =>
    cases t with
    | cons q2 t => exact ⟨Z', L', r', q1, q2, s'⟩
theorem ss_put {ie e : Expr} {i : Nat} {x : Str} {px pos' pos : Pos} (hu : X.A.units + 65 < cLine) (hN : X.N[i]? = some x) (hv : Vis X.env.scope x) (hd : (x == ("__debug__" : Str)) = false) (hcd : (x == ("__classdict__" : Str)) = false)
    (hi : PE X ie (RdE X ca W f)) (he : PE X e (RdE X ca W g)) (hsw : swapsWithSole [.Subscript (.Name x px) ie pos'] e pos.line X.env = pure false) (hw : swappedStores [.Subscript (.Name x px) ie pos'] e X.env = pure none)
    (h1 : (assignEach [.Subscript (.Name x px) ie pos'] X.env).map (·.2) = [assign (.Subscript (.Name x px) ie pos') X.env])
    (ha : ∀ v, assign (.Subscript (.Name x px) ie pos') X.env v = (do
      let ov ← holding [v] (eval (.Name x px) X.env)
      let iv ← holding [v, ov] (eval ie X.env)
      standAt pos'
      holding [v, ov, iv] (setItem ov iv v)
      release [v, ov, iv] [])) : PS X (.Assign [.Subscript (.Name x px) ie pos'] e pos) (RdS X ca W (sPut i f g)) :=
  PS.imp (ps_asg he (pg_sub (se_name (ca := ca) (W := W) (i := i) hN hv hd hcd) hi (set_all (ca := ca) hu) ha) hsw hw h1) fun D σ H ⟨θ, Z, ρ, L, r, q⟩ =>
    rd_ES r q fun pd ρ1 Z1 H1 L1 F1 vd q r1 h1 s1 => by
      cases e0 : slotO ρ1 i with
      | none => rw [e0] at q; exact q.elim
      | some o0 =>
        rw [e0] at q
        simp only at q
        refine ⟨θ, Z1, ρ1, L1, r1, ?_⟩
        unfold oNm
        rw [e0]
        intro Z2 H2 L2 F2 v r2 h2 s2
        obtain ⟨rfl, hv2⟩ := h2.nm
        have s2' : Step Z1 L1 H1 Z2 L2 H2 := s2
        have hd2 := h1.carryM r1.sl.mut r1.dis s2' r2.nd
        have s12 : Step Z L H Z2 (F1 ++ L2) H2 := s1.then s2'
        refine ⟨θ, Z2, ρ1, L2, r2, ?_⟩
        cases ek : f ρ1 with
        | stuck => rw [ek] at q; exact q
        | exc c ρ2 => rw [ek] at q; exact fun Z' H' L' r' s' => q Z' H' L' σ r' ((s12.sub fun a h => List.mem_append_right _ h).trans s')
        | ok pk ρ2 =>
          rw [ek] at q
          simp only [bindS_ok] at q
          intro Z3 H3 L3 F3 vk r3 h3 s3
          have hd3 := (hd2.carry r2 s3 h3.nd).join h3
          have s13 : Step Z L H Z3 ((F1 ++ F3) ++ L3) H3 := by rw [List.append_assoc]; exact s12.then s3
          unfold putAtE at q
          split at q
          · rename_i d ρ3 e1
            split at q
            · rename_i k ρ4 e2
              split at q
              · rename_i p o e3
                split at q
                · rename_i o' e4
                  obtain ⟨Z4, L4, r4, d4, k4, s4⟩ := give_two r3 hd3 e1 e2
                  obtain ⟨l, w1, w2, w3, w4, w5⟩ := r4.wr e3 (setS_own e4)
                  rw [hv2] at w1
                  cases w1
                  refine ⟨Z4, l, o, k, d, o', rfl, w2, w4, k4, d4, e4, fun u' ro' => ?_⟩
                  obtain ⟨r5, s5⟩ := w5 o' u' ro'
                  exact q Z4 _ L4 σ r5 ((s13.trans s4).trans s5)
                · exact q.elim
              · exact q.elim
            · exact q.elim
          · exact q.elim

/-! ### x.extend(e) -/
def oExt (i : Nat) (f : ES) : ES := fun ρ => match slotO ρ i with
  | some o0 => if isLstO o0 = true then (f ρ).bind fun p ρ1 => match look ρ1 p with
      | some o1 => match o1.seq? with
        | some zs => mutE (fun o => match o with
          | .lst ds => if ds.length + zs.length ≤ sizeLine then some (.lst (ds ++ zs), .none) else none
          | _ => none) i ρ1
        | none => .stuck
      | none => .stuck
    else .stuck
  | none => .stuck
end
end Eng
set_option maxHeartbeats 1000000
/-! zip of a list and a tuple. -/
namespace ZM
open PySem PySem.Spec PyProof.Rows RZ
section
variable {prog : Program} {w : World} {A : Around} {E : Value → Shared → Prop} {s : Shared}
end
section
variable {prog : Program} {w : World} {A : Around} {E : Value → Shared → Prop} {s : Shared}
end
end ZM
namespace ZM
open PySem PySem.Spec PyProof.Rows L2 RZ
def ItzM (K : PySem.W.Frag) (a b : Addr) : It :=
  ⟨fun i H => ∃ (xs ys : List V) (x y : V), SqL K H a xs ∧ SqT K H b ys ∧ xs[i]? = some x ∧ ys[i]? = some y,
    fun i H v H' => ∃ T x y, v = .ref T ∧ H T = none ∧ H' = upd H T (.tup [x, y]) ∧ (∀ xs, SqL K H a xs → xs[i]? = some x) ∧ ∀ ys, SqT K H b ys → ys[i]? = some y,
    fun i H => ∃ xs ys : List V, SqL K H a xs ∧ SqT K H b ys ∧ (xs.length ≤ i ∨ ys.length ≤ i)⟩
end ZM
set_option maxHeartbeats 1000000
/-! enumerate of a tuple. -/
namespace ZE
open PySem PySem.Spec PyProof.Rows RZ
open AutoSeq1 (wpAny_loadPart')
section
variable {prog : Program} {w : World} {A : Around} {E : Value → Shared → Prop} {s : Shared}
end
end ZE
namespace ZE
open PySem PySem.Spec PyProof.Rows L2 RZ
/-- the tuple at a, each item in a new pair -/
def IteT (K : PySem.W.Frag) (a : Addr) : It :=
  ⟨fun i H => ∃ (xs : List V) (x : V), SqT K H a xs ∧ xs[i]? = some x, fun i H v H' => ∃ T x, v = .ref T ∧ H T = none ∧ H' = upd H T (.tup [.int (i : Nat), x]) ∧ ∀ xs, SqT K H a xs → xs[i]? = some x, fun i H => ∃ xs : List V, SqT K H a xs ∧ xs.length = i⟩
end ZE
set_option maxHeartbeats 1000000
/-! The engine, part 15: what is walked; targets; for. -/
namespace Eng
open PySem PySem.Spec L2
open PyProof.Rows hiding St

section
variable {X : Cx} {ca : Nat → Addr} {W : WX} {f g : ES} {as : AS} {G : Gx} {b : SS} {t : TS'}
variable {θ θ' : Nat → V} {Z Z1 Z0 Z' : Zs} {L L1 L0 L' F : List Addr} {H H1 H0 H' : Hp} {σ σ' : L2.St} {ρ ρ1 ρ' : En} {Dn : Ends}
/-! ### names forgotten -/
def dropE1 (i : Nat) (ρ : En) : En := match ρ[i]? with
  | some (some (false, _)) => ρ.set i none
  | _ => ρ
def dropE : List Nat → En → En
  | [], ρ => ρ
  | i :: is, ρ => dropE is (dropE1 i ρ)
theorem Rep.drop1 (r : Rep θ G Z H ρ σ L) (i : Nat) : ∃ L', Rep θ G Z H (dropE1 i ρ) σ L' ∧ ∀ a ∈ L', a ∈ L := by
  unfold dropE1
  split
  · rename_i o e
    obtain ⟨F, L', v, _, _, r', _, _, h, _⟩ := r.lift e
    exact ⟨L', r', fun a ha => (h a).mp (List.mem_append_right _ ha)⟩
  · exact ⟨L, r, fun _ h => h⟩
theorem Rep.drop : ∀ (is : List Nat) {ρ : En} {L : List Addr}, Rep θ G Z H ρ σ L → ∃ L', Rep θ G Z H (dropE is ρ) σ L' ∧ ∀ a ∈ L', a ∈ L
  | [], _, L, r => ⟨L, r, fun _ h => h⟩
  | i :: is, _, _, r => by
    obtain ⟨L1, r1, h1⟩ := r.drop1 i
    obtain ⟨L2, r2, h2⟩ := Rep.drop is r1
    exact ⟨L2, r2, fun a h => h1 a (h2 a h)⟩

/-! ### targets -/
inductive Tgt where
  | nm (i : Nat)
  | tup (is : List Nat)
def setDs : List Nat → List D → En → Option En
  | [], [], ρ => some ρ
  | i :: is, d :: ds, ρ => match setE i (.val d) ρ with
    | some ρ1 => setDs is ds ρ1
    | none => none
  | _, _, _ => none
def Tgt.put : Tgt → D → En → Option En
  | .nm i, d, ρ => setE i (.val d) ρ
  | .tup is, .tuple ds, ρ => setDs is ds ρ
  | _, _, _ => none
def Tgt.slots : Tgt → List Nat
  | .nm i => [i]
  | .tup is => is
/-- the slots but these are as they were -/
def Agr (is : List Nat) (σ σ' : L2.St) : Prop := σ'.length = σ.length ∧ ∀ i, i ∉ is → σ'[i]? = σ[i]?
theorem Agr.set {i : Nat} {is : List Nat} {x : Option V} (h : i ∈ is) : Agr is σ (σ.set i x) := ⟨by simp, fun j hj => List.getElem?_set_ne (show i ≠ j from fun e => hj (e ▸ h))⟩
theorem Agr.trans {is : List Nat} {σ1 σ2 σ3 : L2.St} (h1 : Agr is σ1 σ2) (h2 : Agr is σ2 σ3) : Agr is σ1 σ3 := ⟨h2.1.trans h1.1, fun i hi => (h2.2 i hi).trans (h1.2 i hi)⟩
theorem Agr.mono {is js : List Nat} {σ1 σ2 : L2.St} (h1 : Agr is σ1 σ2) (h : ∀ i ∈ is, i ∈ js) : Agr js σ1 σ2 := ⟨h1.1, fun i hi => h1.2 i fun q => hi (h i q)⟩
def tgR (X : Cx) (ca : Nat → Addr) (T : Tgt) : TG := fun v σ H Q => ∃ θ Z ρ L d ρ', Rep θ (gx X ca) Z H ρ σ L ∧ Dz Z X.K H d v ∧ T.put d ρ = some ρ' ∧ ∀ σ' L', Rep θ (gx X ca) Z H ρ' σ' L' → (∀ a ∈ L', a ∈ L) → Agr T.slots σ σ' → Q σ' H
def tgsR (X : Cx) (ca : Nat → Addr) (is : List Nat) : TGs := fun vs σ H Q => ∃ θ Z ρ L ds ρ', Rep θ (gx X ca) Z H ρ σ L ∧ DzA Z X.K H ds vs ∧ setDs is ds ρ = some ρ' ∧ ∀ σ' L', Rep θ (gx X ca) Z H ρ' σ' L' → (∀ a ∈ L', a ∈ L) → Agr is σ σ' → Q σ' H
theorem PG.imp {tg : Expr} {t t' : TG} (h : PG X tg t) (i : ∀ v σ H Q, t' v σ H Q → t v σ H Q) : PG X tg t' := ⟨fun pins s σ H v u Q I r q => h.run pins s σ H v u Q I r (i v σ H Q q)⟩
theorem PGs.imp {tg : List Expr} {t t' : TGs} (h : PGs X tg t) (i : ∀ v σ H Q, t' v σ H Q → t v σ H Q) : PGs X tg t' := ⟨fun pins s σ H v u Q I r q => h.run pins s σ H v u Q I r (i v σ H Q q)⟩
theorem setE_val {i : Nat} {d : D} {v : V} (r : Rep θ G Z H ρ σ L) (h : Dz Z G.K H d v) (e : setE i (.val d) ρ = some ρ') : ∃ L', Rep θ G Z H ρ' (σ.set i (some v)) L' ∧ ∀ a ∈ L', a ∈ L := by
  obtain ⟨L', r', h'⟩ := setE_ok (F := []) r (.tmp (.val h) r.nd (fun _ q => by cases q)) e
  exact ⟨L', r', fun a ha => by simpa using h' a ha⟩
theorem sg_name {i : Nat} {x : Str} {pos : Pos} (hN : X.N.Nodup) (hi : X.N[i]? = some x) (hx : Loc X.env.scope x) (hf : X.fn x = true ∨ X.env.scope.names.lookup x = some .local) : PG X (.Name x pos) (tgR X ca (.nm i)) :=
  PG.imp (pg_name hN hi hx hf) fun v σ H Q ⟨θ, Z, ρ, L, d, ρ', r, hd, e, q⟩ => by
    obtain ⟨L', r', h'⟩ := setE_val r hd e
    exact q _ L' r' h' (Agr.set (by simp [Tgt.slots]))
theorem sg_nil : PGs X [] (tgsR X ca []) := PGs.imp pgs_nil fun vs σ H Q ⟨θ, Z, ρ, L, ds, ρ', r, hd, e, q⟩ => by
  cases hd with
  | nil =>
    cases e
    exact ⟨rfl, q σ L r (fun _ h => h) ⟨rfl, fun _ _ => rfl⟩⟩
  | cons => cases e
theorem sg_cons {es : List Expr} {i : Nat} {is : List Nat} {x : Str} {pos : Pos} (h1 : PG X (.Name x pos) (gName i)) (h2 : PGs X es (tgsR X ca is)) (hs : (assignEach (.Name x pos :: es) X.env).map (·.2) = assign (.Name x pos) X.env :: (assignEach es X.env).map (·.2)) :
    PGs X (.Name x pos :: es) (tgsR X ca (i :: is)) := PGs.imp (pgs_cons h1 h2 hs) fun vs σ H Q ⟨θ, Z, ρ, L, ds, ρ', r, hd, e, q⟩ => by
  cases hd with
  | nil => cases e
  | cons hd ht =>
    unfold setDs at e
    split at e
    · rename_i ρ1 e1
      obtain ⟨L1, r1, h1⟩ := setE_val r hd e1
      exact ⟨_, _, rfl, θ, Z, ρ1, L1, _, ρ', r1, ht, e, fun σ' L' r' h' ag => q σ' L' r' (fun a ha => h1 a (h' a ha)) ((Agr.set List.mem_cons_self).trans (ag.mono fun j hj => List.mem_cons_of_mem _ hj))⟩
    · cases e
theorem sg_tup {es : List Expr} {k : Nat} {is : List Nat} {pos : Pos} (hc : X.calm = true) (h : PGs X es (tgsR X ca is)) (hn : (assignEach es X.env).length = is.length) (hst : (assignEach es X.env).findIdx? (·.1) = none) : PG X (.Tuple es k pos) (tgR X ca (.tup is)) :=
  PG.imp (pg_tup hc h hn hst) fun v σ H Q ⟨θ, Z, ρ, L, d, ρ', r, hd, e, q⟩ => by
    cases d with
    | tuple ds =>
      cases hd with
      | tup hq hds =>
        refine ⟨_, _, rfl, hq, ?_, θ, Z, ρ, L, ds, ρ', r, hds, e, q⟩
        have len : ∀ {is : List Nat} {ds : List D} {ρ : En}, setDs is ds ρ = some ρ' → ds.length = is.length := by
          intro is
          induction is with
          | nil =>
            intro ds ρ e
            cases ds with
            | nil => rfl
            | cons => cases e
          | cons i is ih =>
            intro ds ρ e
            cases ds with
            | nil => cases e
            | cons d ds =>
              unfold setDs at e
              split at e
              · rw [List.length_cons, List.length_cons, ih e]
              · cases e
        rw [hds.length]
        exact len e
    | _ => cases e

/-! ### what is walked -/
def signs (z : Str) : List D := z.cps.toList.map fun c => .str ⟨#[c]⟩
def zipD : List D → List D → List D
  | d :: ds, e :: es => .tuple [d, e] :: zipD ds es
  | _, _ => []
def enumD : Nat → List D → List D
  | _, [] => []
  | k, d :: ds => .tuple [.int (k : Nat), d] :: enumD (k + 1) ds
def rng (lo : Int) (n : Nat) : List D := (List.range n).map fun k => .int (lo + (k : Nat))
abbrev IS := En → Out (Option Nat × List D)
/-- where the items come from -/
inductive Src (G : Gx) (Z : Zs) (H : Hp) (ρ : En) (σ : L2.St) (L : List Addr) : It → List D → Option Nat → List Addr → Prop
  | frz {a : Addr} {xs : List V} {ds : List D} (z : Z a) (e : H a = some (.lst xs)) (h : DzA Z G.K H ds xs) : Src G Z H ρ σ L (Itl G.K a) ds none []
  | tup {a : Addr} {xs : List V} {ds : List D} (e : SqT G.K H a xs) (h : DzA Z G.K H ds xs) : Src G Z H ρ σ L (Itt G.K a) ds none []
  | slot {j : Nat} {p : Bool} {a : Addr} {ds : List D} (e : ρ[j]? = some (some (p, .lst ds))) (h : σ[j]? = some (some (.ref a))) : Src G Z H ρ σ L (Itl G.K a) ds (some j) []
  | aside {a : Addr} {ds : List D} {F : List Addr} (h : Ro G Z H (.lst ds) (.ref a) F) (nd : (F ++ L).Nodup) (dis : ∀ a ∈ F, ¬ Z a) : Src G Z H ρ σ L (Itl G.K a) ds none F
  | rng {lo : Int} {n : Nat} : Src G Z H ρ σ L (Itr lo n) (rng lo n) none []
  | str {z : Str} : Src G Z H ρ σ L (Its z) (signs z) none []
  | zip {a b : Addr} {xs ys : List V} {ds es : List D} (z : Z a) (e : H a = some (.lst xs)) (h : DzA Z G.K H ds xs) (e2 : SqT G.K H b ys) (h2 : DzA Z G.K H es ys) : Src G Z H ρ σ L (ZM.ItzM G.K a b) (zipD ds es) none []
  | enumT {a : Addr} {xs : List V} {ds : List D} (e : SqT G.K H a xs) (h : DzA Z G.K H ds xs) : Src G Z H ρ σ L (ZE.IteT G.K a) (enumD 0 ds) none []
/-- the walk through the turns -/
structure Wlk (θ : Nat → V) (G : Gx) (chk : En → Prop) (J : It) (ds : List D) (Ok : Zs → Hp → En → List Addr → Prop) : Prop where
  go : ∀ {Z H ρ σ L M} (i : Nat), i < ds.length → Rep θ G Z H ρ σ L → Ok Z H ρ M → J.go i H
  stop : ∀ {Z H ρ σ L M}, Rep θ G Z H ρ σ L → Ok Z H ρ M → J.stop ds.length H
  yld : ∀ {Z H ρ σ L M} (i : Nat) (d : D) (x : V) (H' : Hp), ds[i]? = some d → Rep θ G Z H ρ σ L → Ok Z H ρ M → J.yld i H x H' → Same H H' ∧ Dz Z G.K H' d x
  step : ∀ {Z H ρ M Z' H' ρ' M'}, (∀ a ∈ M, Mut (H a)) → (∀ a ∈ M, ¬ Z a) → Ok Z H ρ M → Step Z M H Z' M' H' → M'.Nodup → chk ρ' → Ok Z' H' ρ' M'
def chkE : Option (Nat × List D) → En → Prop
  | none, _ => True
  | some (j, ds), ρ => ρ[j]? = some (some (true, .lst ds))
theorem ok_list {K : PySem.W.Frag} {a : Addr} {xs : List V} {ds : List D} (e : SqL K H a xs) (h : DzA Z K H ds xs) : (∀ i, i < ds.length → (Itl K a).go i H) ∧ (Itl K a).stop ds.length H ∧ ∀ i d x H', ds[i]? = some d → (Itl K a).yld i H x H' → H' = H ∧ Dz Z K H d x := by
  refine ⟨fun i hi => ?_, ⟨xs, e, Nat.le_of_eq h.length⟩, fun i d x H' hd y => ?_⟩
  · have : i < xs.length := by rw [h.length]; exact hi
    exact ⟨xs, xs[i], e, by simp [this]⟩
  · obtain ⟨v, hv, dv⟩ := h.get hd
    have := y.2 xs e
    rw [hv] at this
    cases this
    exact ⟨y.1, dv⟩
theorem ok_tup {K : PySem.W.Frag} {a : Addr} {xs : List V} {ds : List D} (e : SqT K H a xs) (h : DzA Z K H ds xs) : (∀ i, i < ds.length → (Itt K a).go i H) ∧ (Itt K a).stop ds.length H ∧ ∀ i d x H', ds[i]? = some d → (Itt K a).yld i H x H' → H' = H ∧ Dz Z K H d x := by
  refine ⟨fun i hi => ?_, ⟨xs, e, Nat.le_of_eq h.length⟩, fun i d x H' hd y => ?_⟩
  · have : i < xs.length := by rw [h.length]; exact hi
    exact ⟨xs, xs[i], e, by simp [this]⟩
  · obtain ⟨v, hv, dv⟩ := h.get hd
    have := y.2 xs e
    rw [hv] at this
    cases this
    exact ⟨y.1, dv⟩
theorem Rep.kp (r : Rep θ G Z H ρ σ L) (s : Step Z L H Z' L' H') : Kp Z G.K H Z' H' := s.kp r.sl.mut r.dis
theorem zipD_get : ∀ {ds es : List D} {i : Nat} {d : D}, (zipD ds es)[i]? = some d → ∃ a b, ds[i]? = some a ∧ es[i]? = some b ∧ d = .tuple [a, b]
  | [], _, _, _, h => by simp [zipD] at h
  | _ :: _, [], _, _, h => by simp [zipD] at h
  | a :: ds, b :: es, 0, d, h => by
    simp only [zipD, List.getElem?_cons_zero, Option.some.injEq] at h
    exact ⟨a, b, rfl, rfl, h.symm⟩
  | a :: ds, b :: es, i + 1, d, h => by
    simp only [zipD, List.getElem?_cons_succ] at h
    simpa using zipD_get h
theorem zipD_len : ∀ {ds es : List D}, (zipD ds es).length = min ds.length es.length
  | [], _ => by simp [zipD]
  | _ :: _, [] => by simp [zipD]
  | a :: ds, b :: es => by
    simp only [zipD, List.length_cons, zipD_len (ds := ds) (es := es)]
    omega
theorem ok_zip {K : PySem.W.Frag} {a b : Addr} {xs ys : List V} {ds es : List D} (e : SqL K H a xs) (h : DzA Z K H ds xs) (e2 : SqT K H b ys) (h2 : DzA Z K H es ys) : (∀ i, i < (zipD ds es).length → (ZM.ItzM K a b).go i H) ∧ (ZM.ItzM K a b).stop (zipD ds es).length H ∧
    ∀ i d x H', (zipD ds es)[i]? = some d → (ZM.ItzM K a b).yld i H x H' → Same H H' ∧ Dz Z K H' d x := by
  have l1 := h.length
  have l2 := h2.length
  refine ⟨fun i hi => ?_, ⟨xs, ys, e, e2, ?_⟩, fun i d x H' hd y => ?_⟩
  · rw [zipD_len] at hi
    have i1 : i < xs.length := by omega
    have i2 : i < ys.length := by omega
    exact ⟨xs, ys, xs[i], ys[i], e, e2, by simp [i1], by simp [i2]⟩
  · rw [zipD_len]
    omega
  · obtain ⟨p, q, hp, hq, rfl⟩ := zipD_get hd
    obtain ⟨v, hv, dv⟩ := h.get hp
    obtain ⟨w, hw, dw⟩ := h2.get hq
    obtain ⟨T, x', y', rfl, hn, rfl, gx, gy⟩ := y
    have := gx xs e
    rw [hv] at this
    cases this
    have := gy ys e2
    rw [hw] at this
    cases this
    have same : Same H (upd H T (.tup [v, w])) := same_new hn
    exact ⟨same, .tup (.inl (.inl upd_same)) ((DzA.cons dv (.cons dw .nil)).kp (same_kp same))⟩
theorem enumD_len : ∀ {k : Nat} {ds : List D}, (enumD k ds).length = ds.length
  | _, [] => rfl
  | k, _ :: ds => congrArg (· + 1) (enumD_len (k := k + 1) (ds := ds))
theorem enumD_get : ∀ {k : Nat} {ds : List D} {i : Nat} {d : D}, (enumD k ds)[i]? = some d → ∃ a, ds[i]? = some a ∧ d = .tuple [.int ((k + i : Nat) : Int), a]
  | _, [], _, _, h => by simp [enumD] at h
  | k, a :: ds, 0, d, h => by
    simp only [enumD, List.getElem?_cons_zero, Option.some.injEq] at h
    exact ⟨a, rfl, h.symm⟩
  | k, a :: ds, i + 1, d, h => by
    simp only [enumD, List.getElem?_cons_succ] at h
    obtain ⟨b, h1, h2⟩ := enumD_get h
    exact ⟨b, by simpa using h1, by rw [h2, show k + 1 + i = k + (i + 1) by omega]⟩
theorem ok_enumT {K : PySem.W.Frag} {a : Addr} {xs : List V} {ds : List D} (e : SqT K H a xs) (h : DzA Z K H ds xs) : (∀ i, i < (enumD 0 ds).length → (ZE.IteT K a).go i H) ∧ (ZE.IteT K a).stop (enumD 0 ds).length H ∧
    ∀ i d x H', (enumD 0 ds)[i]? = some d → (ZE.IteT K a).yld i H x H' → Same H H' ∧ Dz Z K H' d x := by
  have l1 := h.length
  refine ⟨fun i hi => ?_, ⟨xs, e, ?_⟩, fun i d x H' hd y => ?_⟩
  · rw [enumD_len] at hi
    have i1 : i < xs.length := by omega
    exact ⟨xs, xs[i], e, by simp [i1]⟩
  · rw [enumD_len]
    omega
  · obtain ⟨b, hb, rfl⟩ := enumD_get hd
    obtain ⟨v, hv, dv⟩ := h.get hb
    obtain ⟨T, x', rfl, hn, rfl, gx⟩ := y
    have := gx xs e
    rw [hv] at this
    cases this
    have same : Same H (upd H T (.tup [.int (i : Nat), v])) := same_new hn
    rw [Nat.zero_add]
    exact ⟨same, .tup (.inl (.inl upd_same)) ((DzA.cons (.int _) (.cons dv .nil)).kp (same_kp same))⟩
/-- the walks, but by a name -/
theorem Src.walk {J : It} {ds : List D} (s : Src G Z H ρ σ L J ds none F) : ∃ Ok, Wlk θ G (chkE none) J ds Ok ∧ Ok Z H ρ L := by
  generalize hj : (none : Option Nat) = jo at s
  cases s with
  | frz z e h =>
    rename_i a xs
    refine ⟨fun Z H ρ L => Z a ∧ H a = some (.lst xs) ∧ DzA Z G.K H ds xs, ⟨fun i hi r k => (ok_list (.inl (.inl k.2.1)) k.2.2).1 i hi, fun r k => (ok_list (.inl (.inl k.2.1)) k.2.2).2.1, fun i d x H' hd r k y => ?_, fun mu dz k s _ _ => ?_⟩, z, e, h⟩
    · obtain ⟨rfl, q⟩ := (ok_list (.inl (.inl k.2.1)) k.2.2).2.2 i d x H' hd y
      exact ⟨fun _ _ e => e, q⟩
    · have kp := s.kp (K := G.K) mu dz
      exact ⟨kp.z _ k.1, kp.r _ _ k.1 k.2.1, k.2.2.kp kp⟩
  | tup e h =>
    rename_i a xs
    refine ⟨fun Z H ρ L => SqT G.K H a xs ∧ DzA Z G.K H ds xs, ⟨fun i hi r k => (ok_tup k.1 k.2).1 i hi, fun r k => (ok_tup k.1 k.2).2.1, fun i d x H' hd r k y => ?_, fun mu dz k s _ _ => ?_⟩, e, h⟩
    · obtain ⟨rfl, q⟩ := (ok_tup k.1 k.2).2.2 i d x H' hd y
      exact ⟨fun _ _ e => e, q⟩
    · have kp := s.kp (K := G.K) mu dz
      exact ⟨kp.t _ _ k.1, k.2.kp kp⟩
  | slot => cases hj
  | aside h nd dis =>
    rename_i a
    refine ⟨fun Z H ρ L => Ro G Z H (.lst ds) (.ref a) F ∧ (F ++ L).Nodup ∧ ∀ a ∈ F, ¬ Z a, ⟨fun i hi r k => ?_, fun r k => ?_, fun i d x H' hd r k y => ?_, fun mu dz k s nM _ => ?_⟩, h, nd, dis⟩
    · obtain ⟨xs, e, q⟩ := k.1.lst_of
      exact (ok_list (.inl (.inl e)) q).1 i hi
    · obtain ⟨xs, e, q⟩ := k.1.lst_of
      exact (ok_list (.inl (.inl e)) q).2.1
    · obtain ⟨xs, e, q⟩ := k.1.lst_of
      obtain ⟨rfl, q⟩ := (ok_list (.inl (.inl e)) q).2.2 i d x H' hd y
      exact ⟨fun _ _ e => e, q⟩
    · exact k.1.aside (L' := []) mu dz k.2.1 k.2.2 s nM
  | rng =>
    rename_i lo n
    have hl : (Eng.rng lo n).length = n := by simp [Eng.rng]
    refine ⟨fun _ _ _ _ => True, ⟨fun i hi r k => ?_, fun r k => ?_, fun i d x H' hd r k y => ?_, fun _ _ _ _ _ _ => trivial⟩, trivial⟩
    · rw [hl] at hi; exact hi
    · rw [hl]; exact Nat.le_refl _
    · obtain ⟨rfl, rfl⟩ := y
      have hi : i < n := by
        have := (List.getElem?_eq_some_iff.mp hd).1
        rw [hl] at this; exact this
      have : d = .int (lo + (i : Nat)) := by
        unfold Eng.rng at hd
        rw [List.getElem?_map, List.getElem?_range hi] at hd
        cases hd
        rfl
      subst this
      exact ⟨fun _ _ e => e, .int _⟩
  | str =>
    rename_i z
    have hl : (signs z).length = z.cps.size := by simp [signs]
    refine ⟨fun _ _ _ _ => True, ⟨fun i hi r k => ?_, fun r k => ?_, fun i d x H' hd r k y => ?_, fun _ _ _ _ _ _ => trivial⟩, trivial⟩
    · rw [hl] at hi; exact hi
    · rw [hl]; exact Nat.le_refl _
    · obtain ⟨rfl, c, hc, rfl⟩ := y
      have : d = .str ⟨#[c]⟩ := by
        unfold signs at hd
        rw [List.getElem?_map] at hd
        have : z.cps.toList[i]? = some c := by rw [Array.getElem?_toList]; exact hc
        rw [this] at hd
        cases hd
        rfl
      subst this
      exact ⟨fun _ _ e => e, .str _⟩
  | enumT e h =>
    rename_i a xs ds
    refine ⟨fun Z H ρ L => SqT G.K H a xs ∧ DzA Z G.K H ds xs, ⟨fun i hi r k => (ok_enumT k.1 k.2).1 i hi, fun r k => (ok_enumT k.1 k.2).2.1, fun i d x H' hd r k y => (ok_enumT k.1 k.2).2.2 i d x H' hd y, fun mu dz k s _ _ => ?_⟩, e, h⟩
    have kp := s.kp (K := G.K) mu dz
    exact ⟨kp.t _ _ k.1, k.2.kp kp⟩
  | zip z e h e2 h2 =>
    rename_i a b xs ys ds es
    refine ⟨fun Z H ρ L => Z a ∧ H a = some (.lst xs) ∧ DzA Z G.K H ds xs ∧ SqT G.K H b ys ∧ DzA Z G.K H es ys, ⟨fun i hi r k => (ok_zip (.inl (.inl k.2.1)) k.2.2.1 k.2.2.2.1 k.2.2.2.2).1 i hi, fun r k => (ok_zip (.inl (.inl k.2.1)) k.2.2.1 k.2.2.2.1 k.2.2.2.2).2.1, fun i d x H' hd r k y => (ok_zip (.inl (.inl k.2.1)) k.2.2.1 k.2.2.2.1 k.2.2.2.2).2.2 i d x H' hd y, fun mu dz k s _ _ => ?_⟩, z, e, h, e2, h2⟩
    have kp := s.kp (K := G.K) mu dz
    exact ⟨kp.z _ k.1, kp.r _ _ k.1 k.2.1, k.2.2.1.kp kp, kp.t _ _ k.2.2.2.1, k.2.2.2.2.kp kp⟩
/-- a walk by a name that is pinned meanwhile -/
theorem wlk_slot {j : Nat} {a : Addr} {ds : List D} (hθ : θ j = .ref a) : Wlk θ G (chkE (some (j, ds))) (Itl G.K a) ds (fun _ _ ρ _ => ρ[j]? = some (some (true, .lst ds))) := by
  have get : ∀ {Z H ρ σ L}, Rep θ G Z H ρ σ L → ρ[j]? = some (some (true, .lst ds)) → ∃ xs, H a = some (.lst xs) ∧ DzA Z G.K H ds xs := fun r e => by
    obtain ⟨v, F, h1, h2, _⟩ := r.sl.get e
    have := r.pn j _ e
    rw [h1, hθ] at this
    cases this
    exact h2.lst_of
  refine ⟨fun i hi r k => ?_, fun r k => ?_, fun i d x H' hd r k y => ?_, fun _ _ _ _ _ k => k⟩
  · obtain ⟨xs, e, q⟩ := get r k
    exact (ok_list (.inl (.inl e)) q).1 i hi
  · obtain ⟨xs, e, q⟩ := get r k
    exact (ok_list (.inl (.inl e)) q).2.1
  · obtain ⟨xs, e, q⟩ := get r k
    obtain ⟨rfl, q⟩ := (ok_list (.inl (.inl e)) q).2.2 i d x H' hd y
    exact ⟨fun _ _ e => e, q⟩

/-! ### for -/
open Classical in
noncomputable def forL (c : Option (Nat × List D)) (T : Tgt) (fg : List Nat) (b : SS) : List D → SS
  | [], ρ => .nx ρ
  | d :: ds, ρ => match T.put d ρ with
    | none => .stuck
    | some ρ1 => match b ρ1 with
      | .nx ρ2 => if chkE c (dropE fg ρ2) then forL c T fg b ds (dropE fg ρ2) else .stuck
      | .ct ρ2 => if chkE c (dropE fg ρ2) then forL c T fg b ds (dropE fg ρ2) else .stuck
      | .bk ρ2 => .nx (dropE fg ρ2)
      | o => o
theorem Wlk.for {c : Option (Nat × List D)} {T : Tgt} {fg : List Nat} {J : It} {ds : List D} {Ok : Zs → Hp → En → List Addr → Prop} (w : Wlk θ (gx X ca) (chkE c) J ds Ok) (r : Rep θ (gx X ca) Z H ρ σ L) (k : Ok Z H ρ L) (s : Step Z0 L0 H0 Z L H)
    (q : PoS X ca W θ Z0 L0 H0 Dn (forL c T fg b ds ρ)) :
    ∃ W' : Nat → Nat → L2.St → Hp → Prop, (∃ m, W' 0 m σ H) ∧ ∀ i m σ H, W' i m σ H →
      (J.stop i H ∧ Dn.nx σ H) ∨ (J.go i H ∧ ∃ N : L2.St → Hp → Prop, (∀ σ' H', N σ' H' → ∃ m', m' < m ∧ W' (i + 1) m' σ' H') ∧ ∀ x H', J.yld i H x H' → tgR X ca T x σ H' fun σ2 H2 => RdS X ca W b { Dn with nx := N, ct := N, bk := Dn.nx } σ2 H2) := by
  let inv : Nat → L2.St → Hp → Prop := fun i σ H => i ≤ ds.length ∧ ∃ Z ρ L, Rep θ (gx X ca) Z H ρ σ L ∧ Ok Z H ρ L ∧ Step Z0 L0 H0 Z L H ∧ PoS X ca W θ Z0 L0 H0 Dn (forL c T fg b (ds.drop i) ρ)
  refine ⟨fun i m σ H => m = ds.length - i ∧ inv i σ H, ⟨_, rfl, Nat.zero_le _, Z, ρ, L, r, k, s, q⟩, ?_⟩
  rintro i m σ H ⟨rfl, hi, Z, ρ, L, r, k, s, q⟩
  by_cases hlt : i < ds.length
  · refine .inr ⟨w.go i hlt r k, inv (i + 1), fun σ' H' p' => ⟨ds.length - (i + 1), by omega, rfl, p'⟩, fun x H' y => ?_⟩
    have hd : ds[i]? = some ds[i] := by simp [hlt]
    rw [List.drop_eq_getElem_cons hlt] at q
    obtain ⟨same, dz⟩ := w.yld i ds[i] x H' hd r k y
    unfold forL at q
    cases e1 : T.put ds[i] ρ with
    | none => rw [e1] at q; exact q.elim
    | some ρ1 =>
      rw [e1] at q
      simp only at q
      have s0 : Step Z L H Z L H' := ⟨fun a o e _ => same a o e, fun _ h => h, fun _ h => .inl h, fun _ h => .inl h⟩
      refine ⟨θ, Z, ρ, L, ds[i], ρ1, r.same same, dz, e1, fun σ1 L1 r1 sub _ => ⟨θ, Z, ρ1, L1, r1, ?_⟩⟩
      have s1 : Step Z0 L0 H0 Z L1 H' := (s.trans s0).sub sub
      have turn : ∀ ρ2 Z2 H2 L2 σ2, PoS X ca W θ Z0 L0 H0 Dn (open Classical in if chkE c (dropE fg ρ2) then forL c T fg b (ds.drop (i + 1)) (dropE fg ρ2) else .stuck) → Rep θ (gx X ca) Z2 H2 ρ2 σ2 L2 → Step Z L1 H' Z2 L2 H2 → inv (i + 1) σ2 H2 := fun ρ2 Z2 H2 L2 σ2 q r2 s2 => by
        obtain ⟨L3, r3, h3⟩ := r2.drop fg
        split at q
        · rename_i hc
          refine ⟨hlt, Z2, _, L3, r3, w.step r.sl.mut r.dis k (((s0.trans (Step.refl.sub sub)).trans s2).sub h3) r3.nd hc, (s1.trans s2).sub h3, q⟩
        · exact q.elim
      cases eb : b ρ1 with
      | stuck => rw [eb] at q; exact q
      | nx ρ2 => rw [eb] at q; exact fun Z2 H2 L2 σ2 r2 s2 => turn ρ2 Z2 H2 L2 σ2 q r2 s2
      | ct ρ2 => rw [eb] at q; exact fun Z2 H2 L2 σ2 r2 s2 => turn ρ2 Z2 H2 L2 σ2 q r2 s2
      | bk ρ2 =>
        rw [eb] at q
        intro Z2 H2 L2 σ2 r2 s2
        obtain ⟨L3, r3, h3⟩ := r2.drop fg
        exact q Z2 H2 L3 σ2 r3 ((s1.trans s2).sub h3)
      | rt o ρ2 => rw [eb] at q; exact fun Z2 H2 L2 F v σ2 r2 h2 s2 => q Z2 H2 L2 F v σ2 r2 h2 (s1.trans s2)
      | exc c ρ2 => rw [eb] at q; exact fun Z2 H2 L2 σ2 r2 s2 => q Z2 H2 L2 σ2 r2 (s1.trans s2)
  · have e : i = ds.length := by omega
    subst e
    rw [List.drop_length] at q
    exact .inl ⟨w.stop r k, q Z H L σ r s⟩
end
end Eng
set_option maxHeartbeats 1000000
/-! The engine, part 16: iterables read; for and while as statements. -/
namespace Eng
open PySem PySem.Spec L2
open PyProof.Rows hiding St

section
variable {X : Cx} {ca : Nat → Addr} {W : WX} {f g : ES} {as : AS} {G : Gx} {b : SS} {t : TS'} {it : IS}
variable {θ θ' : Nat → V} {Z Z1 Z0 Z' : Zs} {L L1 L0 L' F : List Addr} {H H1 H0 H' : Hp} {σ σ' : L2.St} {ρ ρ1 ρ' : En} {Dn : Ends}
/-! ### iterables -/
def PoI (X : Cx) (ca : Nat → Addr) (W : WX) (θ : Nat → V) (Z : Zs) (L : List Addr) (H : Hp) (σ : L2.St) (R : It → Hp → Prop) : Out (Option Nat × List D) → Prop
  | .ok (j, ds) ρ' => ∀ Z' H' L' F J, Rep θ (gx X ca) Z' H' ρ' σ L' → Step Z L H Z' (F ++ L') H' → Src (gx X ca) Z' H' ρ' σ L' J ds j F → ds.length ≤ sizeLine → R J H'
  | .exc c ρ' => ∀ Z' H' L', Rep θ (gx X ca) Z' H' ρ' σ L' → Step Z L H Z' L' H' → W (.ref (ca c)) none σ H'
  | .stuck => False
def RdI (X : Cx) (ca : Nat → Addr) (W : WX) (f : IS) : TI := fun σ H R => ∃ θ Z ρ L, Rep θ (gx X ca) Z H ρ σ L ∧ PoI X ca W θ Z L H σ R (f ρ)
def itemsD : D → Option (List D)
  | .list ds => some ds
  | .tuple ds => some ds
  | .str z => if z.length ≤ sizeLine then some (signs z) else none
  | _ => none
def itSeq (ρ : En) : Opd → Out (Option Nat × List D)
  | .tmp (.lst ds) => .ok (none, ds) ρ
  | .tmp (.val d) => match itemsD d with
    | some ds => .ok (none, ds) ρ
    | none => .stuck
  | .nm j => match ρ[j]? with
    | some (some (_, .lst ds)) => .ok (some j, ds) ρ
    | some (some (_, .val d)) => match itemsD d with
      | some ds => .ok (none, ds) ρ
      | none => .stuck
    | _ => .stuck
  | _ => .stuck
def iSeq (f : ES) : IS := fun ρ => (f ρ).bind fun p ρ1 => itSeq ρ1 p
/-- by values -/
inductive SrcV (K : PySem.W.Frag) (H : Hp) : V → It → Nat → Prop
  | lst {a : Addr} {xs : List V} (e : SqL K H a xs) : SrcV K H (.ref a) (Itl K a) xs.length
  | tup {a : Addr} {xs : List V} (e : SqT K H a xs) : SrcV K H (.ref a) (Itt K a) xs.length
  | str {z : Str} (h : z.length ≤ sizeLine) : SrcV K H (.str z) (Its z) z.length
theorem pi_any {tg e : Expr} {te : TE} (he : PE X e te) : PI X tg e (fun σ H R => te σ H fun x H1 => ∃ J n, SrcV X.K H1 x J n ∧ (n ≤ sizeLine → R J H1)) := by
  refine ⟨fun pins s σ H R I h => ?_⟩
  refine thn (he.run pins s σ H _ I h) fun v s1 ⟨x, H1, I1, r1, J, n, sr, q⟩ => ?_
  cases sr with
  | lst e =>
    cases r1
    obtain ⟨its, rv, pl, hz⟩ := I1.list e
    exact wpAny_pyIter_list pl.isList (pi_one (tk := s1.toks) I1 _ (turn_list _ _) ⟨_, Heap.get?_push_size _ rfl, rfl, rfl⟩ (q hz))
  | tup e =>
    cases r1
    obtain ⟨its, rv, pl, hz⟩ := I1.tuple e
    exact wpAny_pyIter_tuple pl (pi_one (tk := s1.toks) I1 _ (turn_tuple _ _) ⟨_, Heap.get?_push_size _ rfl, rfl, rfl⟩ (q hz))
  | str hz =>
    rename_i z
    obtain ⟨t, rfl⟩ := r1
    cases ha : z.cps.all (· < 128)
    · exact wpAny_pyIter_wide ha (pi_one (tk := s1.toks) I1 _ (turn_str _ z t "str_iterator" (.inr rfl)) ⟨_, Heap.get?_push_size _ rfl, rfl, rfl⟩ (q hz))
    · exact wpAny_pyIter_ascii ha (pi_one (tk := s1.toks) I1 _ (turn_str _ z t "str_ascii_iterator" (.inl rfl)) ⟨_, Heap.get?_push_size _ rfl, rfl, rfl⟩ (q hz))
theorem PI.imp {tg e : Expr} {t t' : TI} (h : PI X tg e t) (i : ∀ σ H R, t' σ H R → t σ H R) : PI X tg e t' := ⟨fun pins s σ H R I q => h.run pins s σ H R I (i σ H R q)⟩
theorem src_val {d : D} {ds : List D} {v : V} (h : Dz Z G.K H d v) (e : itemsD d = some ds) : ∃ J n, SrcV G.K H v J n ∧ n = ds.length ∧ Src G Z H ρ σ L J ds none [] := by
  unfold itemsD at e
  split at e
  · cases e
    cases h with
    | lst z r h => exact ⟨_, _, .lst (.inl (.inl r)), h.length, .frz z r h⟩
  · cases e
    cases h with
    | tup r h => exact ⟨_, _, .tup r, h.length, .tup r h⟩
  · split at e
    · rename_i z hz
      cases e
      cases h
      exact ⟨_, _, .str hz, by simp [signs, Str.length], .str⟩
    · cases e
  · cases e
theorem si_seq {tg e : Expr} (he : PE X e (RdE X ca W f)) : PI X tg e (RdI X ca W (iSeq f)) := PI.imp (pi_any he) fun σ H R ⟨θ, Z, ρ, L, r, q⟩ => by
  refine ⟨θ, Z, ρ, L, r, ?_⟩
  unfold iSeq at q
  cases e1 : f ρ with
  | stuck => rw [e1] at q; exact q
  | exc c ρ1 => rw [e1] at q; exact q
  | ok p ρ1 =>
    rw [e1] at q
    simp only [bind_ok] at q
    intro Z1 H1 L1 F v r1 h1 s1
    cases p with
    | tmp o =>
      cases o with
      | lst ds =>
        have ho := h1.one
        obtain ⟨a, xs, rfl, rfl, ea, dz⟩ := ho.single
        refine ⟨_, _, .lst (.inl (.inl ea)), fun hz => ?_⟩
        rw [dz.length] at hz
        exact q Z1 H1 L1 _ _ r1 s1 (.aside ho h1.nd h1.dis) hz
      | val d =>
        unfold itSeq at q
        simp only at q
        split at q
        · rename_i ds e2
          have ho := h1.one
          cases ho with
          | val hd =>
            obtain ⟨J, n, sv, rfl, sr⟩ := src_val (ρ := ρ1) (σ := σ) (L := L1) hd e2
            exact ⟨J, _, sv, fun hz => q Z1 H1 L1 [] J r1 (s1.sub fun a h => List.mem_append_right _ h) sr hz⟩
        · exact q.elim
      | _ => exact q.elim
    | nm j =>
      obtain ⟨rfl, hv⟩ := h1.nm
      unfold itSeq at q
      simp only at q
      split at q
      · rename_i pn ds e2
        obtain ⟨v', F', k1, k2, _⟩ := r1.sl.get e2
        rw [hv] at k1
        cases k1
        obtain ⟨a, xs, rfl, _, ea, dz⟩ := k2.single
        refine ⟨_, _, .lst (.inl (.inl ea)), fun hz => ?_⟩
        rw [dz.length] at hz
        exact q Z1 H1 L1 [] _ r1 s1 (.slot e2 hv) hz
      · rename_i pn d e2
        split at q
        · rename_i ds e3
          obtain ⟨v', F', k1, k2, _⟩ := r1.sl.get e2
          rw [hv] at k1
          cases k1
          cases k2 with
          | val hd =>
            obtain ⟨J, n, sv, rfl, sr⟩ := src_val (ρ := ρ1) (σ := σ) (L := L1) hd e3
            exact ⟨J, _, sv, fun hz => q Z1 H1 L1 [] J r1 s1 sr hz⟩
        · exact q.elim
      · exact q.elim
def iRng1 (as : AS) : IS := fun ρ => (as ρ).bind fun ps ρ1 => match looks ρ1 ps with
      | some [.val (.int j)] => if j ≤ 1000000 ∧ -(2 ^ 62) ≤ j then .ok (none, rng 0 j.toNat) ρ1 else .stuck
      | _ => .stuck
def iRng2 (as : AS) : IS := fun ρ => (as ρ).bind fun ps ρ1 => match looks ρ1 ps with
      | some [.val (.int i), .val (.int j)] => if -1000000 ≤ i ∧ i ≤ 1000000 ∧ -1000000 ≤ j ∧ j ≤ 1000000 then .ok (none, rng i (j - i).toNat) ρ1 else .stuck
      | _ => .stuck
theorem rng_len (lo : Int) (n : Nat) : (rng lo n).length = n := by simp [rng]
theorem million : (2000000 : Nat) ≤ sizeLine := by decide
theorem paired_two {α β : Type} {R : α → β → Prop} {a c : α} {ys : List β} (h : Paired R [a, c] ys) : ∃ x y, ys = [x, y] ∧ R a x ∧ R c y := by
  cases h with
  | cons h1 t =>
    cases t with
    | cons h2 t =>
      cases t
      exact ⟨_, _, rfl, h1, h2⟩
theorem paired_one {α β : Type} {R : α → β → Prop} {a : α} {ys : List β} (h : Paired R [a] ys) : ∃ x, ys = [x] ∧ R a x := by
  cases h with
  | cons h1 t =>
    cases t
    exact ⟨_, rfl, h1⟩
theorem si_rng1 {tg a : Expr} {p pos : Pos} (hg : Gl X "range") (hm : X.mg "range" = none) (ha : PA X [a] (RdA X ca W as)) (hs : starEach [a] X.env = [(false, eval a X.env)]) : PI X tg (.Call (.Name "range" p) [a] [] pos) (RdI X ca W (iRng1 as)) := PI.imp (pi_range1 hg hm ha hs) fun σ H R ⟨θ, Z, ρ, L, r, q⟩ => by
  refine ⟨θ, Z, ρ, L, r, ?_⟩
  unfold iRng1 at q
  cases e1 : as ρ with
  | stuck => rw [e1] at q; exact q
  | exc c ρ1 => rw [e1] at q; exact q
  | ok ps ρ1 =>
    rw [e1] at q
    simp only [bind_ok] at q
    intro Z1 H1 L1 F vs r1 h1 s1
    split at q
    · rename_i j e2
      split at q
      · rename_i hj
        obtain ⟨x, rfl, hx⟩ := paired_one (h1.ok.looks r1 e2)
        cases rb_int hx
        exact ⟨j, rfl, hj.2, by omega, q Z1 H1 L1 [] _ r1 (s1.sub fun a h => List.mem_append_right _ h) .rng (by rw [rng_len]; have := million; omega)⟩
      · exact q.elim
    · exact q.elim
theorem si_rng2 {tg a c : Expr} {p pos : Pos} (hg : Gl X "range") (hm : X.mg "range" = none) (ha : PA X [a, c] (RdA X ca W as)) (hs : starEach [a, c] X.env = [(false, eval a X.env), (false, eval c X.env)]) (hs2 : starEach [c] X.env = [(false, eval c X.env)]) :
    PI X tg (.Call (.Name "range" p) [a, c] [] pos) (RdI X ca W (iRng2 as)) := PI.imp (pi_range2 hg hm ha hs hs2) fun σ H R ⟨θ, Z, ρ, L, r, q⟩ => by
  refine ⟨θ, Z, ρ, L, r, ?_⟩
  unfold iRng2 at q
  cases e1 : as ρ with
  | stuck => rw [e1] at q; exact q
  | exc c ρ1 => rw [e1] at q; exact q
  | ok ps ρ1 =>
    rw [e1] at q
    simp only [bind_ok] at q
    intro Z1 H1 L1 F vs r1 h1 s1
    split at q
    · rename_i i j e2
      split at q
      · rename_i hj
        obtain ⟨x, y, rfl, hx, hy⟩ := paired_two (h1.ok.looks r1 e2)
        cases rb_int hx
        cases rb_int hy
        exact ⟨i, j, rfl, ⟨by omega, by omega, by omega, by omega⟩, q Z1 H1 L1 [] _ r1 (s1.sub fun a h => List.mem_append_right _ h) .rng (by rw [rng_len]; have := million; omega)⟩
      · exact q.elim
    · exact q.elim

def iZip (f g : ES) : IS := fun ρ => (oAs [f, g] ρ).bind fun ps ρ1 => match gives ρ1 ps with
  | some ([.list ds, .tuple es], ρ2) => if (zipD ds es).length ≤ sizeLine then .ok (none, zipD ds es) ρ2 else .stuck
  | _ => .stuck
/-! ### pins -/
def unpin (j : Nat) (ρ : En) : En := match ρ[j]? with
  | some (some (_, o)) => ρ.set j (some (false, o))
  | _ => ρ
def unpS (j : Nat) : SOut → SOut
  | .nx ρ => .nx (unpin j ρ)
  | .bk ρ => .bk (unpin j ρ)
  | .ct ρ => .ct (unpin j ρ)
  | .rt o ρ => .rt o (unpin j ρ)
  | .exc c ρ => .exc c (unpin j ρ)
  | .stuck => .stuck
theorem RoS.congr : ∀ {ρ ρ' : En} {σ : L2.St} {L : List Addr}, RoS G Z H ρ σ L → ρ'.map (Option.map (·.2)) = ρ.map (Option.map (·.2)) → RoS G Z H ρ' σ L
  | _, [], _, _, .emp, _ => .emp
  | _, _ :: _, _, _, .emp, e => by cases e
  | _, [], _, _, .no t, e => by cases e
  | _, sl :: ρ', _, _, .no t, e => by
    simp only [List.map_cons, List.cons.injEq, Option.map_none, Option.map_eq_none_iff] at e
    obtain ⟨rfl, e⟩ := e
    exact .no (RoS.congr t e)
  | _, [], _, _, .yes h t, e => by cases e
  | _, sl :: ρ', _, _, .yes h t, e => by
    simp only [List.map_cons, List.cons.injEq, Option.map_some, Option.map_eq_some_iff] at e
    obtain ⟨⟨⟨p, o⟩, rfl, rfl⟩, e⟩ := e
    exact .yes h (RoS.congr t e)
theorem map_pin {j : Nat} {p p' : Bool} {o : O} {ρ : En} (e : ρ[j]? = some (some (p, o))) : (ρ.set j (some (p', o))).map (Option.map (·.2)) = ρ.map (Option.map (·.2)) := by
  rw [List.map_set]
  refine set_back ?_
  rw [List.getElem?_map, e]
  rfl
theorem unpin_map (j : Nat) (ρ : En) : (unpin j ρ).map (Option.map (·.2)) = ρ.map (Option.map (·.2)) := by
  unfold unpin
  split
  · rename_i p' o e
    exact map_pin e
  · rfl
theorem unpin_get {j i : Nat} {ρ : En} {o : O} (e : (unpin j ρ)[i]? = some (some (true, o))) : i ≠ j ∧ ρ[i]? = some (some (true, o)) := by
  unfold unpin at e
  split at e
  · rename_i p' o' e'
    by_cases h : i = j
    · subst h
      have li := (List.getElem?_eq_some_iff.mp e').1
      rw [List.getElem?_set_self li] at e
      cases e
    · rw [List.getElem?_set_ne (Ne.symm h)] at e
      exact ⟨h, e⟩
  · rename_i hn
    by_cases h : i = j
    · subst h
      exact absurd e (hn true o)
    · exact ⟨h, e⟩
/-- the pin is taken off -/
theorem Rep.unpin {j : Nat} (r : Rep θ' G Z H ρ σ L) (h : ∀ i, i ≠ j → θ' i = θ i) : Rep θ G Z H (Eng.unpin j ρ) σ L := by
  refine ⟨r.sl.congr (unpin_map j ρ), r.nd, r.dis, r.zd, fun i o e => ?_⟩
  obtain ⟨hi, e'⟩ := unpin_get e
  rw [r.pn i o e', h i hi]
/-- a pin is put on -/
theorem Rep.pinOn {j : Nat} {p : Bool} {o : O} {v : V} (r : Rep θ G Z H ρ σ L) (e : ρ[j]? = some (some (p, o))) (hv : σ[j]? = some (some v)) : Rep (fun i => if i = j then v else θ i) G Z H (ρ.set j (some (true, o))) σ L := by
  refine ⟨r.sl.congr (map_pin e), r.nd, r.dis, r.zd, fun i o' e' => ?_⟩
  by_cases h : i = j
  · subst h
    simp only [if_true]
    exact hv
  · rw [List.getElem?_set_ne (Ne.symm h)] at e'
    simp only [h, if_false]
    exact r.pn i o' e'
theorem PoS.unpin {j : Nat} {o : SOut} (q : PoS X ca W θ Z L H Dn (unpS j o)) (h : ∀ i, i ≠ j → θ' i = θ i) : PoS X ca W θ' Z L H Dn o := by
  cases o with
  | stuck => exact q
  | exc c ρ1 => exact fun Z' H' L' σ' r s => q Z' H' L' σ' (r.unpin h) s
  | nx ρ1 => exact fun Z' H' L' σ' r s => q Z' H' L' σ' (r.unpin h) s
  | bk ρ1 => exact fun Z' H' L' σ' r s => q Z' H' L' σ' (r.unpin h) s
  | ct ρ1 => exact fun Z' H' L' σ' r s => q Z' H' L' σ' (r.unpin h) s
  | rt o ρ1 => exact fun Z' H' L' F v σ' r hh s => q Z' H' L' F v σ' (r.unpin h) hh s

/-! ### for -/
noncomputable def forW (T : Tgt) (fg : List Nat) (b : SS) (x : Option Nat × List D) (ρ : En) : SOut := match x with
  | (none, ds) => forL none T fg b ds ρ
  | (some j, ds) => match ρ[j]? with
    | some (some (true, _)) => forL (some (j, ds)) T fg b ds ρ
    | some (some (false, o)) => unpS j (forL (some (j, ds)) T fg b ds (ρ.set j (some (true, o))))
    | _ => .stuck
noncomputable def sFor (it : IS) (T : Tgt) (fg : List Nat) (b : SS) : SS := fun ρ => (it ρ).bindS fun x ρ1 => forW T fg b x ρ1
theorem ss_for {tg iter : Expr} {body : List Stmt} {T : Tgt} {fg : List Nat} {pos : Pos} (hp : PassesOwn (model X.prog X.w) X.A X.env X.xe) (hc : X.calm = true) (hi : PI X tg iter (RdI X ca W it)) (hg : PG X tg (tgR X ca T)) (hb : PSs X body (RdS X ca W b))
    (hs : ∀ x, foldedSetIterable iter X.env x = pure x) : PS X (.For tg iter body [] pos) (RdS X ca W (sFor it T fg b)) :=
  PS.imp (ps_for hp hc hi hg hb hs) fun Dn σ H ⟨θ, Z, ρ, L, r, q⟩ => by
    refine ⟨θ, Z, ρ, L, r, ?_⟩
    unfold sFor at q
    cases e1 : it ρ with
    | stuck => rw [e1] at q; exact q
    | exc c ρ1 => rw [e1] at q; exact fun Z' H' L' r' s' => q Z' H' L' σ r' s'
    | ok x ρ1 =>
      rw [e1] at q
      obtain ⟨j, ds⟩ := x
      simp only [bindS_ok] at q
      intro Z1 H1 L1 F J r1 s1 sr hz
      cases j with
      | none =>
        obtain ⟨Ok, w, k⟩ := sr.walk (θ := θ)
        exact w.for r1 k (s1.sub fun a h => List.mem_append_right _ h) q
      | some j =>
        cases sr with
        | slot e h =>
          rename_i p a
          unfold forW at q
          simp only at q
          rw [e] at q
          cases p with
          | true =>
            simp only at q
            have hθ := r1.pn j _ e
            rw [h] at hθ
            exact (wlk_slot (Option.some.inj (Option.some.inj hθ)).symm).for r1 e s1 q
          | false =>
            simp only at q
            have r2 := r1.pinOn e h
            have q2 := PoS.unpin (θ' := fun i => if i = j then V.ref a else θ i) q fun i hi => by simp [hi]
            have lj := (List.getElem?_eq_some_iff.mp e).1
            exact (wlk_slot (θ := fun i => if i = j then V.ref a else θ i) (by simp)).for r2 (by rw [List.getElem?_set_self lj]) s1 q2

/-! ### while -/
end
end Eng
set_option maxHeartbeats 1000000
/-! The engine, part 17: a def as a function of objects; its calls. -/
namespace Eng
open PySem PySem.Spec L2
open PyProof.Rows hiding St

/-! ### a def's promise where no text is being told -/
structure EFn (P : Program) (w : World) (K : PySem.W.Frag) (mg : Str → Option Value) (base : Heap) (k : Nat) (f : Addr) (fd : FuncData) (ps : List Str) (sp : Sp) : Prop where
  len : ∀ vs H Q E, sp vs H Q E → vs.length = ps.length
  go : ∀ (A : Around) (outer : List Env) (s : Shared) (H : Hp) (args : Args) (us : List Value) (vs : List V) (Q : VK) (E : XK), A.guards = some [] → Room k A → Env0 P w K mg base A outer s H → BindsTo s fd args (ps.zip us) → Vals vs us → sp vs H Q E →
    codeAny (model P w) A (.call (.ref f) args) (CR (L2.CX P w) outer P w H s Q E) s
theorem EFn.mono {P : Program} {w : World} {K : PySem.W.Frag} {mg : Str → Option Value} {base : Heap} {j k : Nat} {f : Addr} {fd : FuncData} {ps : List Str} {sp : Sp} (F : EFn P w K mg base j f fd ps sp) (h : j ≤ k) : EFn P w K mg base k f fd ps sp :=
  ⟨F.len, fun A outer s H args us vs Q E hg hr => F.go A outer s H args us vs Q E hg (hr.mono h)⟩
theorem EFn.imp {P : Program} {w : World} {K : PySem.W.Frag} {mg : Str → Option Value} {base : Heap} {k : Nat} {f : Addr} {fd : FuncData} {ps : List Str} {sp sp' : Sp} (F : EFn P w K mg base k f fd ps sp) (h : ∀ vs H Q E, sp' vs H Q E → sp vs H Q E) : EFn P w K mg base k f fd ps sp' :=
  ⟨fun vs H Q E q => F.len vs H Q E (h vs H Q E q), fun A outer s H args us vs Q E hg hr e b r q => F.go A outer s H args us vs Q E hg hr e b r (h vs H Q E q)⟩
theorem deeper_guards (A : Around) (env : Env) : (A.deeper env).guards = A.guards := by
  obtain ⟨_, _, _, _, _⟩ := A
  rfl
theorem efn_of {P : Program} {w : World} {K : PySem.W.Frag} {mg : Str → Option Value} {base : Heap} {x qual : Str} {st : Stmt} {f : Addr} {fd : FuncData} {N ps : List Str} {k : Nat} {sp : Sp} (F : Fun K x qual st f fd) (S : FnScope N ps (defScope st)) (len : ∀ vs H Q E, sp vs H Q E → vs.length = ps.length)
    (body : ∀ (cdv : Value) (A : Around) (outer : List Env) (s : Shared) (H : Hp) (vs : List V) (Q : VK) (E : XK), A.guards = some [] → Room k (A.deeper (envOfC qual (defScope st) s.heap.objs.size f cdv)) → sp vs H Q E →
      ∃ t, PSs (cxOf (L2.CX P w) P w K mg base N qual (defScope st) f cdv A outer s H E) (defBody st) t ∧ t { nx := fun _ H' => Q .non H', rt := Q } (L2.start N vs) H) : EFn P w K mg base (k + 1) f fd ps sp := by
  obtain ⟨oc, od, kV, doc, pm, an, cdv, ct, osl, rfl, lk, cd⟩ := F.ex
  refine ⟨len, fun A outer s H args us vs Q E hg hr e0 hb rv hsp => ?_⟩
  have keepB : ∀ b o, base.get? b = some o → s.heap.get? b = some o := fun b o e => (e0.bs b o e).1
  have inK : K.In s.heap := e0.mod.kin.keeps keepB
  have kinds : ∀ y ∈ ps.zip us, (defScope st).names.lookup y.1 = some .local ∨ ((defScope st).names.lookup y.1 = some .cell ∧ ((cellsFrom (s.heap.objs.size + 1) (defScope st).names []).lookup y.1).isSome = true) := by
    rintro ⟨n, u⟩ hy
    exact (S.par n (List.of_mem_zip hy).1).imp id fun q => ⟨q, PySem.W.cellsFrom_some _ _ _ (.inl q)⟩
  refine codeAny_call_function hr.depth (inK f _ lk) rfl S.co S.gen rfl (PySem.W.codeRec_of inK cd) (hb _ _ _ _ ?_)
  refine wpAny_newFunctionEnv_cells S.kind kinds fun env he s1 x => ?_
  subst he
  refine ⟨(e0.mod.nolimit.keeps keepB).keeps x.toInCall.keep, codeAny_func ?_⟩
  obtain ⟨t, ht, q⟩ := body cdv A outer s H vs Q E hg (hr.deeper _) hsp
  have I0 := inv_start (CX := L2.CX P w) (E := E) S hr.hd e0 (len _ _ _ _ hsp) rv x
  refine wpAny_mono (ht.run [] s1 (L2.start N vs) H _ I0 q) (fun fl s' h => ?_) fun e s' h => h
  cases fl with
  | ret u =>
    obtain ⟨v, σ', H', J, r, q⟩ := h
    exact ⟨v, H', J.os, J.bare, J.base, J.hok, r, q⟩
  | next =>
    obtain ⟨σ', H', J, q⟩ := h
    exact ⟨.non, H', J.os, J.bare, J.base, J.hok, rfl, q⟩
  | brk =>
    obtain ⟨_, _, _, q⟩ := h
    exact q.elim
  | cont =>
    obtain ⟨_, _, _, q⟩ := h
    exact q.elim
section
variable {X : Cx} {k : Nat} {f : Addr} {fd : FuncData} {ps : List Str} {sp : Sp} {x : Str} {p pos : Pos} {e : Expr} {es : List Expr} {t : TA} {W : WX}
theorem efn_run {pins : List (Addr × Obj)} {σ : L2.St} {H : Hp} {s : Shared} {Q : VK} {us : List Value} {vs : List V} (F : EFn X.prog X.w X.K X.mg X.base k f fd ps sp) (hg : X.A.guards = some []) (hr : Room k X.A) (hb : Binds X.K fd ps []) (tk : Takes X W)
    (I : Inv X pins σ H s) (r : Vals vs us) (h : sp vs H Q (WE W σ)) : wpAny (model X.prog X.w) X.A (call (.ref f) us) (EP X pins σ Q) X.xe s := by
  have b := hb s us I.kIn
  rw [List.append_nil] at b
  refine wpAny_call (codeAny_mono (F.go X.A X.stack s H ⟨us, []⟩ us vs Q (WE W σ) hg hr I.env0 (b (by rw [← r.length]; exact F.len vs H Q _ h)) r h) fun res s' q => ?_)
  cases res with
  | error e => exact passAt tk σ pins H s e s' I q
  | ok fl =>
    cases fl with
    | ret u => exact I.after q
    | next => exact q.elim
    | brk => exact q.elim
    | cont => exact q.elim
theorem pe_callE (F : EFn X.prog X.w X.K X.mg X.base k f fd ps sp) (hG : X.A.guards = some []) (hr : Room k X.A) (hg : Gl X x) (hm : X.mg x = some (.ref f)) (hk : PySem.W.keepIn X.K (.ref f) = true) (hb : Binds X.K fd ps []) (tk : Takes X W) (ha : PA X (e :: es) t)
    (hdb : (x == ("__debug__" : Str)) = false) (hs : ((e :: es).all notStar) = true) : PE X (.Call (.Name x p) (e :: es) [] pos) (fun σ H Q => t σ H fun vs H1 => sp vs H1 Q (WE W σ)) := by
  rw [List.all_cons, Bool.and_eq_true] at hs
  refine ⟨fun pins s σ H Q I h => wpAny_Call_Name_kw (ld_glob I hg hm ?_ hdb)⟩
  exact PySem.W.callWith_K (h₀ := X.base) I.ok.mod.kin hk (thn (ha.run pos pins s σ H _ I h) fun us s1 ⟨vs, H1, I1, r, q⟩ => ⟨I1.kIn, efn_run F hG hr hb tk I1 r q⟩) (star_cons hs.1) (star_plain hs.2)
end

/-! ### a def as a function of objects -/
inductive FOut where
  | ret (o : O) (fin : List O)
  | exc (c : Nat) (fin : List O)
  | stuck
abbrev FSem := List O → FOut
def O.own : O → Bool
  | .lst _ => true
  | .dic _ => true
  | .set _ => true
  | .ins _ _ => true
  | .exn _ => true
  | _ => false
inductive ArgsOk (G : Gx) (Z : Zs) (H : Hp) : List O → List V → List Addr → Prop
  | nil : ArgsOk G Z H [] [] []
  | cons {o : O} {v : V} {F F' : List Addr} {os : List O} {vs : List V} (h : Ro G Z H o v F) (t : ArgsOk G Z H os vs F') : ArgsOk G Z H (o :: os) (v :: vs) (F ++ F')
inductive FinOk (G : Gx) (Z : Zs) (H : Hp) : List O → List O → List V → List Addr → Prop
  | nil : FinOk G Z H [] [] [] []
  | val {o x : O} {v : V} {F' : List Addr} {os fin : List O} {vs : List V} (ho : o.own = false) (t : FinOk G Z H os fin vs F') : FinOk G Z H (o :: os) (x :: fin) (v :: vs) F'
  | own {o x : O} {v : V} {F F' : List Addr} {os fin : List O} {vs : List V} (ho : o.own = true) (h : Ro G Z H x v F) (t : FinOk G Z H os fin vs F') : FinOk G Z H (o :: os) (x :: fin) (v :: vs) (F ++ F')
def PoF (G : Gx) (Z : Zs) (F : List Addr) (H : Hp) (os : List O) (vs : List V) (Q : VK) (E : XK) : FOut → Prop
  | .ret o fin => ∀ Z' H' F' Fo v, FinOk G Z' H' os fin vs F' → Ro G Z' H' o v Fo → (Fo ++ F').Nodup → (∀ a ∈ Fo ++ F', ¬ Z' a) → (∀ a, Z' a → H' a ≠ none) → Step Z F H Z' (Fo ++ F') H' → Q v H'
  | .exc c fin => ∀ Z' H' F', FinOk G Z' H' os fin vs F' → F'.Nodup → (∀ a ∈ F', ¬ Z' a) → (∀ a, Z' a → H' a ≠ none) → Step Z F H Z' F' H' → E (.ref (G.ca c)) none H'
  | .stuck => False
/-- the promise: as the function tells -/
def spF (G : Gx) (n : Nat) (g : FSem) : Sp := fun vs H Q E => ∃ Z os F, vs.length = n ∧ ArgsOk G Z H os vs F ∧ F.Nodup ∧ (∀ a ∈ F, ¬ Z a) ∧ (∀ a, Z a → H a ≠ none) ∧ PoF G Z F H os vs Q E (g os)
def startE (n : Nat) (os : List O) : En := os.map (fun o => some (o.own, o)) ++ List.replicate (n - os.length) none
def fins : List O → En → Option (List O)
  | [], _ => some []
  | o :: os, sl :: ρ => if o.own = true then match sl with
      | some (true, x) => match fins os ρ with
        | some r => some (x :: r)
        | none => none
      | _ => none
    else match fins os ρ with
      | some r => some (o :: r)
      | none => none
  | _ :: _, [] => none
def runF (n : Nat) (b : SS) : FSem := fun os => match b (startE n os) with
  | .nx ρ => match fins os ρ with
    | some fin => .ret (.val .none) fin
    | none => .stuck
  | .rt o ρ => match fins os ρ with
    | some fin => .ret o fin
    | none => .stuck
  | .exc c ρ => match fins os ρ with
    | some fin => .exc c fin
    | none => .stuck
  | _ => .stuck
section
variable {G : Gx} {Z Z' : Zs} {H H' : Hp} {L F : List Addr} {os fin : List O} {vs : List V} {ρ : En} {σ : L2.St} {θ : Nat → V}
theorem ArgsOk.length : ∀ {os : List O} {vs : List V} {F : List Addr}, ArgsOk G Z H os vs F → vs.length = os.length
  | _, _, _, .nil => rfl
  | _, _, _, .cons _ t => by rw [List.length_cons, List.length_cons, ArgsOk.length t]
theorem start_ros (N : List Str) : ∀ {os : List O} {vs : List V} {F : List Addr}, ArgsOk G Z H os vs F → ∀ m, RoS G Z H (os.map (fun o => some (o.own, o)) ++ List.replicate m none) (vs.map some ++ List.replicate m none) F
  | _, _, _, .nil, 0 => .emp
  | _, _, _, .nil, m + 1 => by
    show RoS G Z H (none :: List.replicate m none) (none :: List.replicate m none) []
    exact .no (start_ros N .nil m)
  | _, _, _, .cons h t, m => by
    have := start_ros N t m
    simp only [List.map_cons, List.cons_append]
    exact .yes h this
theorem start_rep (N : List Str) (a : ArgsOk G Z H os vs F) (nd : F.Nodup) (dis : ∀ a ∈ F, ¬ Z a) (zd : ∀ a, Z a → H a ≠ none) : Rep (fun i => vs.getD i .non) G Z H (startE N.length os) (L2.start N vs) F := by
  unfold startE L2.start
  have hl := a.length
  refine ⟨by rw [hl]; exact start_ros N a _, nd, dis, zd, fun i o e => ?_⟩
  by_cases hi : i < os.length
  · have hv : i < vs.length := by omega
    rw [List.getElem?_append_left (by simpa using hv), List.getElem?_map]
    simp [hv]
  · rw [List.getElem?_append_right (by simpa using hi), List.getElem?_replicate] at e
    split at e <;> cases e
theorem fins_ok : ∀ {os : List O} {ρ : En} {fin : List O} {σ : L2.St} {L : List Addr} {vs : List V}, RoS G Z H ρ σ L → vs.length = os.length → fins os ρ = some fin → L.Nodup → (∀ a ∈ L, ¬ Z a) → (∀ i o, ρ[i]? = some (some (true, o)) → i < os.length → σ[i]? = some (vs[i]?)) →
    ∃ F', FinOk G Z H os fin vs F' ∧ F'.Nodup ∧ (∀ a ∈ F', a ∈ L)
  | [], ρ, fin, σ, L, vs, _, hl, e, _, _, _ => by
    cases vs with
    | cons => simp at hl
    | nil =>
      simp only [fins, Option.some.injEq] at e
      subst e
      exact ⟨[], .nil, List.nodup_nil, fun _ h => by cases h⟩
  | o :: os, ρ, fin, σ, L, [], _, hl, _, _, _, _ => by simp at hl
  | o :: os, ρ, fin, σ, L, v :: vs, r, hl, e, nd, dis, hp => by
    cases r with
    | emp => simp [fins] at e
    | no t =>
      unfold fins at e
      split at e
      · cases e
      · rename_i ho
        split at e
        · rename_i r' e'
          cases e
          obtain ⟨F', h1, h2, h3⟩ := fins_ok (vs := vs) t (by simpa using hl) e' nd dis fun i o hi hlt => by simpa using hp (i + 1) o (by simpa using hi) (by simpa using hlt)
          exact ⟨F', .val (by simpa using ho) h1, h2, h3⟩
        · cases e
    | yes h t =>
      rename_i p o' v' F0 L0
      have n := List.nodup_append.mp nd
      unfold fins at e
      split at e
      · rename_i ho
        cases p with
        | false => cases e
        | true =>
          simp only at e
          split at e
          · rename_i r' e'
            cases e
            obtain ⟨F', h1, h2, h3⟩ := fins_ok (vs := vs) t (by simpa using hl) e' n.2.1 (fun a ha => dis a (List.mem_append_right _ ha)) fun i o hi hlt => by simpa using hp (i + 1) o (by simpa using hi) (by simpa using hlt)
            have hv := hp 0 o' (by simp) (by simp)
            simp only [List.getElem?_cons_zero, Option.some.injEq] at hv
            subst hv
            refine ⟨_, .own ho h h1, List.nodup_append.mpr ⟨n.1, h2, fun a ha c hc => n.2.2 a ha c (h3 c hc)⟩, fun a ha => ?_⟩
            exact (List.mem_append.mp ha).elim (fun h => List.mem_append_left _ h) fun h => List.mem_append_right _ (h3 a h)
          · cases e
      · rename_i ho
        split at e
        · rename_i r' e'
          cases e
          obtain ⟨F', h1, h2, h3⟩ := fins_ok (vs := vs) t (by simpa using hl) e' n.2.1 (fun a ha => dis a (List.mem_append_right _ ha)) fun i o hi hlt => by simpa using hp (i + 1) o (by simpa using hi) (by simpa using hlt)
          exact ⟨F', .val (by simpa using ho) h1, h2, fun a ha => List.mem_append_right _ (h3 a ha)⟩
        · cases e
theorem fins_rep {N : List Str} (r : Rep (fun i => vs.getD i .non) G Z H ρ σ L) (hl : vs.length = os.length) (e : fins os ρ = some fin) : ∃ F', FinOk G Z H os fin vs F' ∧ F'.Nodup ∧ (∀ a ∈ F', a ∈ L) :=
  fins_ok r.sl hl e r.nd r.dis fun i o hi hlt => by
    have := r.pn i o hi
    rw [this]
    have hv : i < vs.length := by omega
    simp [hv]
end
/-- THE RULE: a def by its body's reading -/
theorem efn_body {P : Program} {w : World} {K : PySem.W.Frag} {mg : Str → Option Value} {base : Heap} {ca : Nat → Addr} {x qual : Str} {st : Stmt} {f : Addr} {fd : FuncData} {N ps : List Str} {k : Nat} {b : SS} (F : Fun K x qual st f fd) (S : FnScope N ps (defScope st))
    (body : ∀ (cdv : Value) (A : Around) (outer : List Env) (s : Shared) (H : Hp) (E : XK), A.guards = some [] → Room k (A.deeper (envOfC qual (defScope st) s.heap.objs.size f cdv)) →
      PSs (cxOf (L2.CX P w) P w K mg base N qual (defScope st) f cdv A outer s H E) (defBody st) (RdS (cxOf (L2.CX P w) P w K mg base N qual (defScope st) f cdv A outer s H E) ca (fun cls d _ H => E cls d H) b)) :
    EFn P w K mg base (k + 1) f fd ps (spF ⟨P, w, K, ca⟩ ps.length (runF N.length b)) := by
  refine efn_of F S (fun vs H Q E ⟨_, _, _, h, _⟩ => h) fun cdv A outer s H vs Q E hg hr ⟨Z, os, F0, hl, ha, nd, dis, zd, q⟩ => ⟨_, body cdv A outer s H E hg hr, fun i => vs.getD i .non, Z, startE N.length os, F0, start_rep N ha nd dis zd, ?_⟩
  have hlen := ha.length
  unfold runF at q
  cases e : b (startE N.length os) with
  | stuck => rw [e] at q; exact q
  | bk ρ => rw [e] at q; exact q.elim
  | ct ρ => rw [e] at q; exact q.elim
  | nx ρ =>
    rw [e] at q
    intro Z' H' L' σ' r s
    simp only at q
    split at q
    · rename_i fin e2
      obtain ⟨F', h1, h2, h3⟩ := fins_rep (N := N) r hlen e2
      exact q Z' H' F' [] .non h1 (.val .non) h2 (fun a ha => r.dis a (h3 a ha)) r.zd (s.sub h3)
    · exact q.elim
  | rt o ρ =>
    rw [e] at q
    intro Z' H' L' Fo v σ' r hh s
    simp only at q
    split at q
    · rename_i fin e2
      obtain ⟨F', h1, h2, h3⟩ := fins_rep (N := N) r hlen e2
      have n := List.nodup_append.mp hh.nd
      have sub : ∀ a ∈ Fo ++ F', a ∈ Fo ++ L' := fun a ha => (List.mem_append.mp ha).elim (fun h => List.mem_append_left _ h) fun h => List.mem_append_right _ (h3 a h)
      exact q Z' H' F' Fo v h1 hh.one (List.nodup_append.mpr ⟨n.1, h2, fun a ha c hc => n.2.2 a ha c (h3 c hc)⟩) (fun a ha => (List.mem_append.mp ha).elim (hh.dis a) fun h => r.dis a (h3 a h)) r.zd (s.sub sub)
    · exact q.elim
  | exc c ρ =>
    rw [e] at q
    intro Z' H' L' σ' r s
    simp only at q
    split at q
    · rename_i fin e2
      obtain ⟨F', h1, h2, h3⟩ := fins_rep (N := N) r hlen e2
      exact q Z' H' F' h1 h2 (fun a ha => r.dis a (h3 a ha)) r.zd (s.sub h3)
    · exact q.elim
end Eng
set_option maxHeartbeats 1000000
/-! The engine, part 18: calls read; raise; try. -/
namespace Eng
open PySem PySem.Spec L2
open PyProof.Rows hiding St

/-! ### arguments lifted out of their names -/
def lift1 (ρ : En) : Opd → Option (O × Option Bool × En)
  | .tmp o => some (o, none, ρ)
  | .nm i => match ρ[i]? with
    | some (some (p, o)) => if o.own = true then some (o, some p, ρ.set i none) else some (o, none, ρ)
    | _ => none
def lift (ρ : En) : List Opd → Option (List O × List (Option Bool) × En)
  | [] => some ([], [], ρ)
  | p :: ps => match lift1 ρ p with
    | some (o, b, ρ1) => match lift ρ1 ps with
      | some (os, bs, ρ2) => some (o :: os, b :: bs, ρ2)
      | none => none
    | none => none
def backs : List Opd → List (Option Bool) → List O → En → En
  | .nm i :: ps, some p :: bs, x :: fin, ρ => (backs ps bs fin ρ).set i (some (p, x))
  | _ :: ps, _ :: bs, _ :: fin, ρ => backs ps bs fin ρ
  | _, _, _, ρ => ρ
def callE (g : FSem) (ρ : En) (ps : List Opd) : Out Opd := match lift ρ ps with
  | some (os, bs, ρ1) => match g os with
    | .ret o fin => .ok (.tmp o) (backs ps bs fin ρ1)
    | .exc c fin => .exc c (backs ps bs fin ρ1)
    | .stuck => .stuck
  | none => .stuck
def oCall (g : FSem) (as : AS) : ES := fun ρ => (as ρ).bind fun ps ρ1 => callE g ρ1 ps
section
variable {X : Cx} {ca : Nat → Addr} {W : WX} {f g : ES} {as : AS} {G : Gx} {b : SS} {t : TS'} {it : IS}
variable {θ θ' : Nat → V} {Z Z1 Z0 Z' : Zs} {L L1 L0 L' F F0 : List Addr} {H H1 H0 H' : Hp} {σ σ' : L2.St} {ρ ρ1 ρ' : En} {Dn : Ends}
theorem lift1_none {p : Opd} {o : O} {bb : Option Bool} {i : Nat} (e : lift1 ρ p = some (o, bb, ρ1)) (h : ρ[i]? = some none) : ρ1[i]? = some none := by
  cases p with
  | tmp o' =>
    simp only [lift1, Option.some.injEq, Prod.mk.injEq] at e
    rw [← e.2.2]; exact h
  | nm j =>
    simp only [lift1] at e
    split at e
    · rename_i p' o' e'
      split at e
      · simp only [Option.some.injEq, Prod.mk.injEq] at e
        rw [← e.2.2]
        by_cases hj : j = i
        · subst hj; rw [h] at e'; cases e'
        · rw [List.getElem?_set_ne hj]; exact h
      · simp only [Option.some.injEq, Prod.mk.injEq] at e
        rw [← e.2.2]; exact h
    · cases e
theorem lift_none : ∀ {ps : List Opd} {os : List O} {bs : List (Option Bool)} {ρ ρ2 : En} {i : Nat}, lift ρ ps = some (os, bs, ρ2) → ρ[i]? = some none → ρ2[i]? = some none ∧ ∀ fin ρ3, ρ3[i]? = some none → (backs ps bs fin ρ3)[i]? = some none
  | [], _, _, ρ, ρ2, i, e, h => by
    simp only [lift, Option.some.injEq, Prod.mk.injEq] at e
    obtain ⟨rfl, rfl, rfl⟩ := e
    exact ⟨h, fun fin ρ3 h3 => by simpa [backs] using h3⟩
  | p :: ps, os, bs, ρ, ρ2, i, e, h => by
    unfold lift at e
    split at e
    · rename_i o bb ρ1 e1
      split at e
      · rename_i os' bs' ρ2' e2
        simp only [Option.some.injEq, Prod.mk.injEq] at e
        obtain ⟨rfl, rfl, rfl⟩ := e
        have h1 := lift1_none e1 h
        obtain ⟨k1, k2⟩ := lift_none e2 h1
        refine ⟨k1, fun fin ρ3 h3 => ?_⟩
        cases fin with
        | nil => cases p <;> cases bb <;> simpa [backs] using h3
        | cons x fin =>
          cases p with
          | tmp o' => cases bb <;> simpa [backs] using k2 fin ρ3 h3
          | nm j =>
            cases bb with
            | none => simpa [backs] using k2 fin ρ3 h3
            | some p' =>
              simp only [backs]
              by_cases hj : j = i
              · subst hj
                simp only [lift1, h] at e1
                cases e1
              · rw [List.getElem?_set_ne hj]
                exact k2 fin ρ3 h3
      · cases e
    · cases e
/-- the arguments as a callee gets them, and how they come back -/
theorem call_args : ∀ {ps : List Opd} {vs : List V} {F : List Addr} {ρ ρ2 : En} {L : List Addr} {os : List O} {bs : List (Option Bool)}, Rep θ G Z H ρ σ L → Held G Z H σ L ps vs F → lift ρ ps = some (os, bs, ρ2) →
    ∃ FA L2, Rep θ G Z H ρ2 σ L2 ∧ ArgsOk G Z H os vs FA ∧ (FA ++ L2).Nodup ∧ (∀ a ∈ FA, ¬ Z a) ∧ (∀ a, a ∈ FA ++ L2 → a ∈ F ++ L) ∧
      ∀ Z' H' fin F', Rep θ G Z' H' ρ2 σ L2 → FinOk G Z' H' os fin vs F' → (F' ++ L2).Nodup → (∀ a ∈ F', ¬ Z' a) → ∃ L3, Rep θ G Z' H' (backs ps bs fin ρ2) σ L3 ∧ ∀ a ∈ L3, a ∈ F' ++ L2
  | [], vs, F, ρ, ρ2, L, os, bs, r, h, e => by
    simp only [lift, Option.some.injEq, Prod.mk.injEq] at e
    obtain ⟨rfl, rfl, rfl⟩ := e
    have ho := h.ok
    cases ho
    exact ⟨[], L, r, .nil, r.nd, (fun _ q => by cases q), fun a ha => ha, fun Z' H' fin F' r' hf nd _ => by
      cases hf
      exact ⟨L, by simpa [backs] using r', fun a ha => ha⟩⟩
  | p :: ps, vs, F, ρ, ρ2, L, os, bs, r, h, e => by
    unfold lift at e
    split at e
    · rename_i o bb ρ1 e1
      split at e
      · rename_i os' bs' ρ2' e2
        simp only [Option.some.injEq, Prod.mk.injEq] at e
        obtain ⟨rfl, rfl, rfl⟩ := e
        have ho := h.ok
        cases vs with
        | nil => cases ho
        | cons v vs =>
          obtain ⟨F1, F2, rfl, o1, o2⟩ := ho.cons_split
          have nd := h.nd
          rw [List.append_assoc] at nd
          have n1 := List.nodup_append.mp nd
          have n2 := List.nodup_append.mp n1.2.1
          cases p with
          | tmp o' =>
            simp only [lift1, Option.some.injEq, Prod.mk.injEq] at e1
            obtain ⟨rfl, rfl, rfl⟩ := e1
            have h2 : Held G Z H σ L ps vs F2 := ⟨o2, n1.2.1, fun a ha => h.dis a (List.mem_append_right _ ha)⟩
            obtain ⟨FA, L2, r2, ha, ndA, disA, sub, bk⟩ := call_args r h2 e2
            have hr : Ro G Z H o' v F1 := by
              cases o1 with
              | tmp h5 t5 =>
                cases t5
                rw [List.append_nil]; exact h5
            have nA := List.nodup_append.mp ndA
            refine ⟨F1 ++ FA, L2, r2, .cons hr ha, ?_, fun a ha => (List.mem_append.mp ha).elim (fun q => h.dis a (List.mem_append_left _ q)) (disA a), fun a ha => ?_, fun Z' H' fin F' r' hf nd' dis' => ?_⟩
            · rw [List.append_assoc]
              refine List.nodup_append.mpr ⟨n1.1, ndA, fun a ha c hc q => ?_⟩
              subst q
              exact n1.2.2 a ha a (sub a hc) rfl
            · rw [List.append_assoc] at ha ⊢
              exact (List.mem_append.mp ha).elim (fun q => List.mem_append_left _ q) fun q => List.mem_append_right _ (sub a q)
            · cases hf with
              | val hv hf =>
                obtain ⟨L3, r3, s3⟩ := bk Z' H' _ _ r' hf nd' dis'
                exact ⟨L3, by simpa [backs] using r3, s3⟩
              | own hv hx hf =>
                rw [List.append_assoc] at nd'
                have m := List.nodup_append.mp nd'
                obtain ⟨L3, r3, s3⟩ := bk Z' H' _ _ r' hf m.2.1 (fun a ha => dis' a (List.mem_append_right _ ha))
                exact ⟨L3, by simpa [backs] using r3, fun a ha => by rw [List.append_assoc]; exact List.mem_append_right _ (s3 a ha)⟩
          | nm j =>
            have hj : F1 = [] ∧ σ[j]? = some (some v) := by
              cases o1 with
              | nm h5 t5 => cases t5; exact ⟨rfl, h5⟩
            obtain ⟨rfl, hv⟩ := hj
            simp only [lift1] at e1
            split at e1
            · rename_i pn ob eb
              split at e1
              · rename_i hown
                simp only [Option.some.injEq, Prod.mk.injEq] at e1
                obtain ⟨rfl, rfl, rfl⟩ := e1
                obtain ⟨Fi, Li, vi, k1, k2, k3, k4, k5, k6, k7⟩ := r.lift eb
                rw [hv] at k1
                cases k1
                have nn := List.nodup_append.mp n1.2.1
                have inL : ∀ a, a ∈ Li → a ∈ L := fun a ha => (k6 a).mp (List.mem_append_right _ ha)
                have h2 : Held G Z H σ Li ps vs F2 := ⟨o2, List.nodup_append.mpr ⟨nn.1, k3.nd, fun a ha c hc => nn.2.2 a ha c (inL c hc)⟩, fun a ha => h.dis a (by simpa using ha)⟩
                obtain ⟨FA, L2, r2, ha, ndA, disA, sub, bk⟩ := call_args k3 h2 e2
                have kk := List.nodup_append.mp k4
                have hne : ∀ a ∈ Fi, a ∉ FA ++ L2 := fun a ha hc => by
                  rcases List.mem_append.mp (sub a hc) with q | q
                  · exact nn.2.2 a q a ((k6 a).mp (List.mem_append_left _ ha)) rfl
                  · exact kk.2.2 a ha a q rfl
                refine ⟨Fi ++ FA, L2, r2, .cons k2 ha, ?_, fun a ha => (List.mem_append.mp ha).elim (k5 a) (disA a), fun a ha => ?_, fun Z' H' fin F' r' hf nd' dis' => ?_⟩
                · rw [List.append_assoc]
                  exact List.nodup_append.mpr ⟨kk.1, ndA, fun a ha c hc q => hne a ha (q ▸ hc)⟩
                · rw [List.append_assoc] at ha
                  rw [List.nil_append]
                  rcases List.mem_append.mp ha with q | q
                  · exact List.mem_append_right _ ((k6 a).mp (List.mem_append_left _ q))
                  · exact (List.mem_append.mp (sub a q)).elim (fun q => List.mem_append_left _ q) fun q => List.mem_append_right _ (inL a q)
                · cases hf with
                  | val hv' hf => rw [hown] at hv'; cases hv'
                  | own hv' hx hf =>
                    rw [List.append_assoc] at nd'
                    have m := List.nodup_append.mp nd'
                    obtain ⟨L3, r3, s3⟩ := bk Z' H' _ _ r' hf m.2.1 (fun a ha => dis' a (List.mem_append_right _ ha))
                    have lj := (List.getElem?_eq_some_iff.mp eb).1
                    have hn := (lift_none e2 (i := j) (by rw [List.getElem?_set_self lj]))
                    have hn2 := fun fin => hn.2 fin _ hn.1
                    obtain ⟨L4, r4, s4⟩ := r3.back (i := j) (p := pn) (hn2 _) hv hx (List.nodup_append.mpr ⟨m.1, r3.nd, fun a ha c hc q => m.2.2 a ha c (s3 c hc) q⟩) (fun a ha => dis' a (List.mem_append_left _ ha)) k7
                    refine ⟨L4, by simpa [backs] using r4, fun a ha => ?_⟩
                    rw [List.append_assoc]
                    exact (List.mem_append.mp ((s4 a).mp ha)).elim (fun q => List.mem_append_left _ q) fun q => List.mem_append_right _ (s3 a q)
              · rename_i hown
                simp only [Option.some.injEq, Prod.mk.injEq] at e1
                obtain ⟨rfl, rfl, rfl⟩ := e1
                have h2 : Held G Z H σ L ps vs F2 := ⟨o2, n1.2.1, fun a ha => h.dis a (by simpa using ha)⟩
                obtain ⟨FA, L2, r2, ha, ndA, disA, sub, bk⟩ := call_args r h2 e2
                obtain ⟨vi, Fi, k1, k2, _⟩ := r.sl.get eb
                rw [hv] at k1
                cases k1
                have hr : Ro G Z H ob v [] := by
                  cases k2 with
                  | val q => exact .val q
                  | scr q => exact .scr q
                  | _ => exact absurd rfl hown
                refine ⟨[] ++ FA, L2, r2, .cons hr ha, by simpa using ndA, fun a ha => disA a (by simpa using ha), fun a ha => sub a (by simpa using ha), fun Z' H' fin F' r' hf nd' dis' => ?_⟩
                cases hf with
                | val hv' hf =>
                  obtain ⟨L3, r3, s3⟩ := bk Z' H' _ _ r' hf nd' dis'
                  exact ⟨L3, by simpa [backs] using r3, s3⟩
                | own hv' hx hf => exact absurd hv' hown
            · cases e1
      · cases e
    · cases e
theorem Rep.aside (r : Rep θ G Z H ρ σ L) {F M : List Addr} (mu : ∀ a ∈ F, Mut (H a)) (nd : (F ++ L).Nodup) (dz : ∀ a ∈ F, ¬ Z a) (s : Step Z F H Z' M H') (zd : ∀ a, Z' a → H' a ≠ none) : Rep θ G Z' H' ρ σ L := by
  have n := List.nodup_append.mp nd
  have mL := r.sl.mut
  have nF : ∀ a ∈ L, a ∉ F := fun a ha hf => n.2.2 a hf a ha rfl
  refine ⟨r.sl.kp (s.kp mu dz) fun a ha u e => s.keep a u e (nF a ha), r.nd, fun a ha z => ?_, zd, r.pn⟩
  rcases s.znew a z with q | q | q
  · exact r.dis a ha q
  · exact nF a ha q
  · exact mut_some (mL a ha) q
theorem ArgsOk.mut : ∀ {os : List O} {vs : List V} {F : List Addr}, ArgsOk G Z H os vs F → ∀ a ∈ F, Mut (H a)
  | _, _, _, .nil, _, h => by cases h
  | _, _, _, .cons h t, a, ha => (List.mem_append.mp ha).elim (h.mut a) (ArgsOk.mut t a)
/-- a call's answer -/
theorem rd_call {fn : FSem} {n : Nat} {Q : VK} (q : RdE X ca W (oCall fn as) σ H Q) (hn : ∀ σ H Q, RdA X ca W as σ H Q → RdA X ca W as σ H fun vs H' => vs.length = n ∧ Q vs H') : RdA X ca W as σ H fun vs H1 => spF (gx X ca) n fn vs H1 Q (WE W σ) := by
  have key : RdA X ca W as σ H fun vs H1 => vs.length = n → spF (gx X ca) n fn vs H1 Q (WE W σ) := by
    obtain ⟨θ, Z, ρ, L, r, q⟩ := q
    refine ⟨θ, Z, ρ, L, r, ?_⟩
    unfold oCall at q
    cases e1 : as ρ with
    | stuck => rw [e1] at q; exact q
    | exc c ρ1 => rw [e1] at q; exact q
    | ok ps ρ1 =>
      rw [e1] at q
      simp only [bind_ok] at q
      intro Z1 H1 L1 F vs r1 h1 s1 hl
      unfold callE at q
      cases e2 : lift ρ1 ps with
      | none => rw [e2] at q; exact q.elim
      | some x =>
        obtain ⟨os, bs, ρ2⟩ := x
        rw [e2] at q
        simp only at q
        obtain ⟨FA, L2, r2, ha, ndA, disA, sub, bk⟩ := call_args r1 h1 e2
        have nA := List.nodup_append.mp ndA
        have muA := ha.mut
        refine ⟨Z1, os, FA, hl, ha, nA.1, disA, r2.zd, ?_⟩
        -- behind the call
        have beh : ∀ {Z' H' M}, Step Z1 FA H1 Z' M H' → M.Nodup → (∀ a, Z' a → H' a ≠ none) → Rep θ (gx X ca) Z' H' ρ2 σ L2 ∧ (M ++ L2).Nodup ∧ Step Z L H Z' (M ++ L2) H' := fun {Z' H' M} s nM zd => by
          have rr := r2.aside muA ndA disA s zd
          refine ⟨rr, List.nodup_append.mpr ⟨nM, r2.nd, fun a ha c hc q => ?_⟩, ?_⟩
          · subst q
            rcases s.lnew a ha with q | q
            · exact nA.2.2 a q a hc rfl
            · exact mut_some (r2.sl.mut a hc) q
          · have sA : Step Z L H Z1 (L2 ++ FA) H1 := s1.sub fun a ha => sub a ((List.mem_append.mp ha).elim (fun q => List.mem_append_right _ q) fun q => List.mem_append_left _ q)
            exact (sA.then s).sub fun a ha => (List.mem_append.mp ha).elim (fun q => List.mem_append_right _ q) fun q => List.mem_append_left _ q
        cases e3 : fn os with
        | stuck => rw [e3] at q; exact q
        | ret o fin =>
          rw [e3] at q
          intro Z' H' F' Fo v hf ho nd dis zd s
          have n := List.nodup_append.mp nd
          obtain ⟨rr, ndM, st⟩ := beh s nd zd
          rw [List.append_assoc] at ndM
          have m := List.nodup_append.mp ndM
          obtain ⟨L3, r3, s3⟩ := bk Z' H' fin F' rr hf m.2.1 fun a ha => dis a (List.mem_append_right _ ha)
          refine q Z' H' L3 Fo v r3 (.tmp ho (List.nodup_append.mpr ⟨n.1, r3.nd, fun a ha c hc => m.2.2 a ha c (s3 c hc)⟩) fun a ha => dis a (List.mem_append_left _ ha)) (st.sub fun a ha => ?_)
          rw [List.append_assoc]
          exact (List.mem_append.mp ha).elim (fun q => List.mem_append_left _ q) fun q => List.mem_append_right _ (s3 a q)
        | exc c fin =>
          rw [e3] at q
          intro Z' H' F' hf nd dis zd s
          obtain ⟨rr, ndM, st⟩ := beh s nd zd
          obtain ⟨L3, r3, s3⟩ := bk Z' H' fin F' rr hf ndM dis
          exact q Z' H' L3 r3 (st.sub s3)
  exact (hn _ _ _ key).mono fun vs H' ⟨h1, h2⟩ => h2 h1
theorem rdA_len : ∀ {fs : List ES} {σ : L2.St} {H : Hp} {Q : List V → Hp → Prop}, RdA X ca W (oAs fs) σ H Q → RdA X ca W (oAs fs) σ H fun vs H' => vs.length = fs.length ∧ Q vs H' := by
  intro fs σ H Q ⟨θ, Z, ρ, L, r, q⟩
  have len : ∀ {fs : List ES} {ρ ρ1 : En} {ps : List Opd}, oAs fs ρ = .ok ps ρ1 → ps.length = fs.length := by
    intro fs
    induction fs with
    | nil => intro ρ ρ1 ps e; cases e; rfl
    | cons f fs ih =>
      intro ρ ρ1 ps e
      unfold oAs at e
      cases e1 : f ρ with
      | stuck => rw [e1] at e; cases e
      | exc => rw [e1] at e; cases e
      | ok p ρ2 =>
        rw [e1] at e
        simp only [bind_ok] at e
        cases e2 : oAs fs ρ2 with
        | stuck => rw [e2] at e; cases e
        | exc => rw [e2] at e; cases e
        | ok ps' ρ3 =>
          rw [e2] at e
          cases e
          rw [List.length_cons, List.length_cons, ih e2]
  have olen : ∀ {ps : List Opd} {vs : List V} {H : Hp} {Z : Zs} {F : List Addr}, OpsOk (gx X ca) Z H σ ps vs F → vs.length = ps.length := by
    intro ps vs H Z F h
    induction h with
    | nil => rfl
    | tmp _ _ ih => rw [List.length_cons, List.length_cons, ih]
    | nm _ _ ih => rw [List.length_cons, List.length_cons, ih]
  refine ⟨θ, Z, ρ, L, r, ?_⟩
  cases e : oAs fs ρ with
  | stuck => rw [e] at q; exact q
  | exc c ρ1 => rw [e] at q; exact q
  | ok ps ρ1 =>
    rw [e] at q
    exact fun Z' H' L' F vs r' h' s' => ⟨(olen h'.ok).trans (len e), q Z' H' L' F vs r' h' s'⟩
theorem se_call {fn : FSem} {k : Nat} {fa : Addr} {fd : FuncData} {ps : List Str} {x : Str} {p pos : Pos} {e : Expr} {es : List Expr} {fs : List ES} (Fn : EFn X.prog X.w X.K X.mg X.base k fa fd ps (spF (gx X ca) fs.length fn)) (hG : X.A.guards = some []) (hr : Room k X.A) (hm : X.mg x = some (.ref fa)) (hk : PySem.W.keepIn X.K (.ref fa) = true)
    (hb : Binds X.K fd ps []) (tk : Takes X W) (hg : Gl X x) (ha : PA X (e :: es) (RdA X ca W (oAs fs))) (hdb : (x == ("__debug__" : Str)) = false) (hs : ((e :: es).all notStar) = true) : PE X (.Call (.Name x p) (e :: es) [] pos) (RdE X ca W (oCall fn (oAs fs))) :=
  PE.imp (pe_callE Fn hG hr hg hm hk hb tk ha hdb hs) fun σ H Q h => rd_call h fun _ _ _ h => rdA_len h

/-! ### raise -/
def sRaise (c : Nat) : SS := fun ρ => .exc c ρ
theorem ss_raise {C : Addr} {c : Nat} {x m : Str} {j : Nat} {p p2 pos pos' : Pos} {bmB : List Value} {B newId initId : String} (hC : ca c = C) (hc : X.calm = true) (tk : Takes X W) (Fx : ExcBaseFacts B newId initId bmB) (q : PySem.W.excIn X.K C bmB newId = true) (gC : X.mg x = some (.ref C)) (kC : PySem.W.keepIn X.K (.ref C) = true)
    (r : Raises X (.ref C)) (hg : Gl X x) (hdb : (x == ("__debug__" : Str)) = false) : PS X (.Raise (some (.Call (.Name x p) [.Constant (.str m) j p2] [] pos')) none pos) (RdS X ca W (sRaise c)) :=
  PS.imp (ps_raise hc tk (pmk_own Fx q gC kC r hg hdb)) fun D σ H ⟨θ, Z, ρ, L, rr, qq⟩ => by
    subst hC
    exact qq Z H L σ rr Step.refl
end
end Eng
set_option maxHeartbeats 1000000
/-! The engine, part 19: list comprehensions. -/
namespace Eng
open PySem PySem.Spec L2
open PyProof.Rows hiding St

/-- what is wanted between two turns of a comprehension -/
def lcC (c : Option (Nat × List D)) (own : List Nat) (ρ : En) : Prop := chkE c ρ ∧ ∀ i ∈ own, ρ[i]? = some none
open Classical in
noncomputable def lcL (c : Option (Nat × List D)) (T : Tgt) (t : TS') (f : ES) (own : List Nat) : List D → List D → En → Out (List D)
  | [], acc, ρ => .ok acc ρ
  | d :: ds, acc, ρ => match T.put d ρ with
    | none => .stuck
    | some ρ1 => match t ρ1 with
      | .ok b ρ2 => if b = true then match f ρ2 with
          | .ok p ρ3 => match give ρ3 p with
            | some (e, ρ4) => if lcC c own (dropE own ρ4) then lcL c T t f own ds (acc ++ [e]) (dropE own ρ4) else .stuck
            | none => .stuck
          | _ => .stuck
        else if lcC c own (dropE own ρ2) then lcL c T t f own ds acc (dropE own ρ2) else .stuck
      | _ => .stuck
/-- the names of the block hold what they held -/
def rest1 (ρ0 : En) (i : Nat) (ρ : En) : En := match ρ0[i]? with
  | some (some (false, .val d)) => ρ.set i (some (false, .val d))
  | _ => ρ
def restE (ρ0 : En) : List Nat → En → En
  | [], ρ => ρ
  | i :: is, ρ => match ρ[i]? with
    | some none => restE ρ0 is (rest1 ρ0 i ρ)
    | _ => restE ρ0 is ρ
open Classical in
noncomputable def lcW (c : Option (Nat × List D)) (T : Tgt) (t : TS') (f : ES) (own : List Nat) (ds : List D) (ρ : En) : Out (List D) :=
  if lcC c own (dropE own ρ) then match lcL c T t f own ds [] (dropE own ρ) with
    | .ok acc ρ2 => .ok acc (restE ρ own ρ2)
    | _ => .stuck
  else .stuck
noncomputable def lcE (T : Tgt) (t : TS') (f : ES) (own : List Nat) (x : Option Nat × List D) (ρ : En) : Out Opd := match x with
  | (none, ds) => (lcW none T t f own ds ρ).bind fun acc ρ2 => .ok (.tmp (.lst acc)) ρ2
  | (some j, ds) => match ρ[j]? with
    | some (some (true, _)) => (lcW (some (j, ds)) T t f own ds ρ).bind fun acc ρ2 => .ok (.tmp (.lst acc)) ρ2
    | some (some (false, o)) => (lcW (some (j, ds)) T t f own ds (ρ.set j (some (true, o)))).bind fun acc ρ2 => .ok (.tmp (.lst acc)) (unpin j ρ2)
    | _ => .stuck
noncomputable def oLc (it : IS) (T : Tgt) (t : TS') (f : ES) (own : List Nat) : ES := fun ρ => (it ρ).bind fun x ρ1 => lcE T t f own x ρ1
def tTrue : TS' := fun ρ => .ok true ρ
abbrev WF : WX := fun _ _ _ _ => False
section
variable {X : Cx} {ca : Nat → Addr} {W : WX} {f g : ES} {as : AS} {G : Gx} {b : SS} {t : TS'} {it : IS}
variable {θ θ' : Nat → V} {Z Z1 Z0 Z' : Zs} {L L1 L0 L' F F0 : List Addr} {H H1 H0 H' : Hp} {σ σ' : L2.St} {ρ ρ1 ρ' : En} {Dn : Ends}
theorem PTs.imp {es : List Expr} {t t' : TT} (h : PTs X es t) (i : ∀ σ H Q, t' σ H Q → t σ H Q) : PTs X es t' := ⟨fun pins s σ H Q I q => h.run pins s σ H Q I (i σ H Q q)⟩
theorem st_yes : PTs X [] (RdT X ca W tTrue) := PTs.imp pts_nil fun σ H Q ⟨θ, Z, ρ, L, r, q⟩ => q Z H L r Step.refl
theorem st_ifone {c : Expr} (h : PT X c (RdT X ca W t)) : PTs X [c] (RdT X ca W t) := pts_one h
theorem wipe_eq {own : List Nat} (h : Agr own σ σ') : wipe σ' own = wipe σ own := by
  refine List.ext_getElem? fun i => ?_
  by_cases hi : i ∈ own
  · have l1 : (wipe σ' own)[i]? = (wipe σ own)[i]? ∨ True := .inr trivial
    have key : ∀ {σ : L2.St}, (wipe σ own)[i]? = if i < σ.length then some none else none := fun {σ} => by
      cases e : (wipe σ own)[i]? with
      | none =>
        have := List.getElem?_eq_none_iff.mp e
        rw [wipe_length] at this
        rw [if_neg (by omega)]
      | some x =>
        have lt := (List.getElem?_eq_some_iff.mp e).1
        rw [wipe_length] at lt
        rw [if_pos lt]
        cases x with
        | none => rfl
        | some v => exact absurd hi (wipe_some e).2
    rw [key, key, h.1]
  · rw [wipe_out hi, wipe_out hi, h.2 i hi]
theorem RoS.agree : ∀ {ρ : En} {σ σ' : L2.St} {L : List Addr}, RoS G Z H ρ σ L → σ'.length = σ.length → (∀ (i : Nat) (po : Bool × O), ρ[i]? = some (some po) → σ'[i]? = σ[i]?) → RoS G Z H ρ σ' L
  | _, _, [], _, .emp, _, _ => .emp
  | _, _, _ :: _, _, .emp, hl, _ => by simp at hl
  | _, _, [], _, .no t, hl, _ => by simp at hl
  | _, _, y :: σ', _, .no t, hl, h => .no (RoS.agree t (by simpa using hl) fun i po e => by simpa using h (i + 1) po (by simpa using e))
  | _, _, [], _, .yes _ t, hl, _ => by simp at hl
  | _, _, y :: σ', _, .yes hr t, hl, h => by
    have h0 := h 0 _ rfl
    simp only [List.getElem?_cons_zero, Option.some.injEq] at h0
    subst h0
    exact .yes hr (RoS.agree t (by simpa using hl) fun i po e => by simpa using h (i + 1) po (by simpa using e))
theorem Rep.agree {own : List Nat} (r : Rep θ G Z H ρ σ L) (h : Agr own σ σ') (hn : ∀ i ∈ own, ρ[i]? = some none) : Rep θ G Z H ρ σ' L := by
  have key : ∀ (i : Nat) (po : Bool × O), ρ[i]? = some (some po) → σ'[i]? = σ[i]? := fun i po e => h.2 i fun hi => by
    rw [hn i hi] at e
    cases e
  exact ⟨r.sl.agree h.1 key, r.nd, r.dis, r.zd, fun i o e => by rw [key i _ e]; exact r.pn i o e⟩
theorem wipe_agr (own : List Nat) : Agr own σ (wipe σ own) := ⟨wipe_length _ _, fun i hi => wipe_out hi⟩
theorem Agr.symm {is : List Nat} (h : Agr is σ σ') : Agr is σ' σ := ⟨h.1.symm, fun i hi => (h.2 i hi).symm⟩
theorem Rep.upd {a : Addr} {u : HO} (r : Rep θ G Z H ρ σ L) (mu : Mut (H a)) (hL : a ∉ L) (nz : ¬ Z a) : Rep θ G Z (L2.upd H a u) ρ σ L :=
  ⟨r.sl.kp (kp_upd mu nz) fun b hb v e => by rw [upd_ne (show b ≠ a from fun q => hL (q ▸ hb))]; exact e, r.nd, r.dis, fun b z => by rw [upd_ne (show b ≠ a from fun q => nz (q ▸ z))]; exact r.zd b z, r.pn⟩
theorem Rep.rest {ρ0 : En} (hd : ∀ (i : Nat) (d : D), ρ0[i]? = some (some (false, .val d)) → ∃ v, σ[i]? = some (some v) ∧ Dz Z G.K H d v) : ∀ (own : List Nat) {ρ : En} {L : List Addr}, Rep θ G Z H ρ σ L → ∃ L', Rep θ G Z H (restE ρ0 own ρ) σ L' ∧ ∀ a, a ∈ L' → a ∈ L
  | [], _, L, r => ⟨L, r, fun _ h => h⟩
  | i :: is, ρ, L, r => by
    unfold restE
    split
    · rename_i e
      unfold rest1
      split
      · rename_i d e0
        obtain ⟨v, hv, dz⟩ := hd i d e0
        obtain ⟨L1, r1, h1⟩ := r.back (i := i) (p := false) (F := []) e hv (.val dz) r.nd (fun _ q => by cases q) (fun q => by cases q)
        obtain ⟨L2, r2, h2⟩ := Rep.rest hd is r1
        exact ⟨L2, r2, fun a ha => by simpa using (h1 a).mp (h2 a ha)⟩
      · exact Rep.rest hd is r
    · exact Rep.rest hd is r
/-- the turns of a comprehension -/
theorem lc_turns {c : Option (Nat × List D)} {T : Tgt} {own : List Nat} {J : It} {ds : List D} {Ok : Zs → Hp → En → List Addr → Prop} {accF : List D} {ρF : En} {Da : Addr} {Qd : Hp → Prop} (hT : ∀ i ∈ T.slots, i ∈ own) (w : Wlk θ (gx X ca) (chkE c) J ds Ok)
    (r : Rep θ (gx X ca) Z H ρ σ L) (k : Ok Z H ρ L) (hz : ds.length ≤ sizeLine) (hD : H Da = none) (e : lcW c T t f own ds ρ = .ok accF ρF)
    (fin : ∀ Z' H' L' xs, Rep θ (gx X ca) Z' H' ρF σ L' → H' Da = some (.lst xs) → DzA Z' X.K H' accF xs → Da ∉ L' → ¬ Z' Da → Step Z L H Z' (Da :: L') H' → Qd H') :
    ∃ W' : Nat → Nat → Hp → Prop, (∃ m, W' 0 m (L2.upd H Da (.lst []))) ∧ ∀ i m H, W' i m H → (J.stop i H ∧ Qd H) ∨ (J.go i H ∧ ∃ Nx : Hp → Prop, (∀ H', Nx H' → ∃ m', m' < m ∧ W' (i + 1) m' H') ∧ ∀ x H', J.yld i H x H' →
      tgR X ca T x (wipe σ own) H' fun σ2 H2 => wipe σ2 own = wipe σ own ∧ RdT X ca WF t σ2 H2 fun b H3 => if b = true then RdE X ca WF f σ2 H3 fun y H4 => ∃ acc, H4 Da = some (.lst acc) ∧ acc.length < sizeLine ∧ Nx (L2.upd H4 Da (.lst (acc ++ [y]))) else Nx H3) := by
  unfold lcW at e
  split at e
  · rename_i hc0
    cases eL : lcL c T t f own ds [] (dropE own ρ) with
    | stuck => rw [eL] at e; cases e
    | exc => rw [eL] at e; cases e
    | ok acc1 ρ2 =>
      rw [eL] at e
      simp only [Out.ok.injEq] at e
      obtain ⟨rfl, rfl⟩ := e
      -- the word between two turns
      let inv : Nat → Hp → Prop := fun i H2 => i ≤ ds.length ∧ ∃ Z2 ρ2' M2 acc xs, Rep θ (gx X ca) Z2 H2 ρ2' (wipe σ own) M2 ∧ (∀ i ∈ own, ρ2'[i]? = some none) ∧ Ok Z2 H2 ρ2' (Da :: M2) ∧ Da ∉ M2 ∧ (¬ Z2 Da) ∧ H2 Da = some (.lst xs) ∧ DzA Z2 X.K H2 acc xs ∧ acc.length ≤ i ∧
        Step Z L H Z2 (Da :: M2) H2 ∧ lcL c T t f own (ds.drop i) acc ρ2' = .ok acc1 ρ2
      refine ⟨fun i m H2 => m = ds.length - i ∧ inv i H2, ?_, ?_⟩
      · obtain ⟨L1, r1, h1⟩ := r.drop own
        have r2 : Rep θ (gx X ca) Z H (dropE own ρ) (wipe σ own) L1 := r1.agree (wipe_agr own) hc0.2
        have nDL : Da ∉ L := fun h => mut_some (r.sl.mut Da h) hD
        have nDZ : ¬ Z Da := fun h => r.zd Da h hD
        have same : Same H (L2.upd H Da (.lst [])) := same_new hD
        have s0 : Step Z L H Z (Da :: L1) (L2.upd H Da (.lst [])) := ⟨fun a o e _ => same a o e, fun _ h => h, fun _ h => .inl h, fun a ha => (List.mem_cons.mp ha).elim (fun h => .inr (h ▸ hD)) fun h => .inl (h1 a h)⟩
        have nd1 : (Da :: L1).Nodup := List.nodup_cons.mpr ⟨fun h => nDL (h1 Da h), r2.nd⟩
        exact ⟨_, rfl, Nat.zero_le _, Z, dropE own ρ, L1, [], [], r2.same same, hc0.2, w.step r.sl.mut r.dis k s0 nd1 hc0.1, fun h => nDL (h1 Da h), nDZ, upd_same, .nil, Nat.zero_le _, s0, eL⟩
      · rintro i m H2 ⟨rfl, hi, Z2, ρ3, M2, acc, xs, r2, hn, k2, nDL, nDZ, hDa, dz, hl, s2, e2⟩
        by_cases hlt : i < ds.length
        · refine .inr ⟨w.go i hlt r2 k2, inv (i + 1), fun H' p' => ⟨ds.length - (i + 1), by omega, rfl, p'⟩, fun x H3 y => ?_⟩
          have hd : ds[i]? = some ds[i] := by simp [hlt]
          rw [List.drop_eq_getElem_cons hlt] at e2
          obtain ⟨same, dx⟩ := w.yld i ds[i] x H3 hd r2 k2 y
          unfold lcL at e2
          cases e3 : T.put ds[i] ρ3 with
          | none => rw [e3] at e2; cases e2
          | some ρ4 =>
            rw [e3] at e2
            simp only at e2
            have r3 := r2.same same
            refine ⟨θ, Z2, ρ3, M2, ds[i], ρ4, r3, dx, e3, fun σ4 L4 r4 sub ag => ?_⟩
            have agO : Agr own (wipe σ own) σ4 := ag.mono hT
            have hw : wipe σ4 own = wipe σ own := by
              rw [wipe_eq agO, wipe_eq (wipe_agr own)]
            refine ⟨hw, θ, Z2, ρ4, L4, r4, ?_⟩
            have hDa3 : H3 Da = some (.lst xs) := same _ _ hDa
            have nD4 : Da ∉ L4 := fun h => nDL (sub Da h)
            have ro4 : Ro (gx X ca) Z2 H3 (.lst acc) (.ref Da) [Da] := .lst hDa3 (dz.kp (same_kp same))
            have nd4 : ([Da] ++ L4).Nodup := List.nodup_cons.mpr ⟨nD4, r4.nd⟩
            have s4 : Step Z2 M2 H2 Z2 L4 H3 := ⟨fun a o e _ => same a o e, fun _ h => h, fun _ h => .inl h, fun a ha => .inl (sub a ha)⟩
            -- a turn's end
            have turn : ∀ {Z5 H5 L5 ρ5 acc5 xs5 u}, Step Z2 M2 H2 Z5 L5 H5 → Rep θ (gx X ca) Z5 (L2.upd H5 Da u) ρ5 σ4 L5 → Da ∉ L5 → ¬ Z5 Da → u = .lst xs5 → DzA Z5 X.K (L2.upd H5 Da u) acc5 xs5 → acc5.length ≤ i + 1 →
                (open Classical in if lcC c own (dropE own ρ5) then lcL c T t f own (ds.drop (i + 1)) acc5 (dropE own ρ5) else .stuck) = .ok acc1 ρ2 → inv (i + 1) (L2.upd H5 Da u) := fun {Z5 H5 L5 ρ5 acc5 xs5 u} s5 r5 nD5 nZ5 hu dz5 hl5 e5 => by
              subst hu
              split at e5
              · rename_i hc5
                obtain ⟨L6, r6, h6⟩ := r5.drop own
                have r7 := r6.agree agO.symm hc5.2
                have st : Step Z2 (Da :: M2) H2 Z5 (Da :: L6) (L2.upd H5 Da (.lst xs5)) := ⟨fun a o e hna => by
                  rw [List.mem_cons, not_or] at hna
                  rw [upd_ne hna.1]
                  exact s5.keep a o e hna.2, s5.zmono, fun a z => (s5.znew a z).imp_right fun q => q.imp_left fun q => List.mem_cons_of_mem _ q, fun a ha => (List.mem_cons.mp ha).elim (fun q => .inl (by rw [q]; exact List.mem_cons_self)) fun q => (s5.lnew a (h6 a q)).imp_left fun q => List.mem_cons_of_mem _ q⟩
                have mu2 : ∀ a ∈ Da :: M2, Mut (H2 a) := fun a ha => (List.mem_cons.mp ha).elim (fun q => by rw [q, hDa]; trivial) (r2.sl.mut a)
                have dis2 : ∀ a ∈ Da :: M2, ¬ Z2 a := fun a ha => (List.mem_cons.mp ha).elim (fun q => q ▸ nDZ) (r2.dis a)
                exact ⟨hlt, Z5, _, L6, acc5, xs5, r7, hc5.2, w.step mu2 dis2 k2 st (List.nodup_cons.mpr ⟨fun h => nD5 (h6 Da h), r7.nd⟩) hc5.1, fun h => nD5 (h6 Da h), nZ5, upd_same, dz5, hl5, s2.trans st, e5⟩
              · cases e5
            cases e6 : t ρ4 with
            | stuck => rw [e6] at e2; cases e2
            | exc => rw [e6] at e2; cases e2
            | ok bb ρ5 =>
              rw [e6] at e2
              simp only at e2
              intro Z5 H5 L5 r5 s5
              obtain ⟨ro5, nd5, di5⟩ := ro4.aside (L' := []) r4.sl.mut r4.dis nd4 (fun a ha => by rw [List.mem_singleton] at ha; rw [ha]; exact nDZ) s5 r5.nd
              have nD5 : Da ∉ L5 := (List.nodup_cons.mp nd5).1
              cases bb with
              | false =>
                simp only [Bool.false_eq_true, if_false] at e2 ⊢
                obtain ⟨xs5, hx5, dz5⟩ := ro5.lst_of
                have same5 : L2.upd H5 Da (.lst xs5) = H5 := by
                  funext a
                  by_cases q : a = Da
                  · rw [q, upd_same, hx5]
                  · rw [upd_ne q]
                have := turn (u := .lst xs5) (s4.trans s5) (by rw [same5]; exact r5) nD5 (di5 Da List.mem_cons_self) rfl (by rw [same5]; exact dz5) (by omega) e2
                rw [same5] at this
                exact this
              | true =>
                simp only [if_true] at e2 ⊢
                refine ⟨θ, Z5, ρ5, L5, r5, ?_⟩
                cases e7 : f ρ5 with
                | stuck => rw [e7] at e2; cases e2
                | exc => rw [e7] at e2; cases e2
                | ok p ρ6 =>
                  rw [e7] at e2
                  simp only at e2
                  intro Z6 H6 L6 F6 v r6 h6 s6
                  obtain ⟨ro6, nd6, di6⟩ := ro5.aside (L' := []) r5.sl.mut r5.dis nd5 di5 s6 h6.nd
                  cases e8 : give ρ6 p with
                  | none => rw [e8] at e2; cases e2
                  | some y =>
                    obtain ⟨dy, ρ7⟩ := y
                    rw [e8] at e2
                    simp only at e2
                    obtain ⟨Z7, L7, r7, d7, s7⟩ := give_ok r6 h6 e8
                    obtain ⟨mu6, dz6⟩ := h6.mut r6
                    obtain ⟨ro7, nd7, di7⟩ := ro6.aside (L' := []) mu6 dz6 nd6 di6 s7 r7.nd
                    obtain ⟨xs7, hx7, dz7⟩ := ro7.lst_of
                    have nD7 : Da ∉ L7 := (List.nodup_cons.mp nd7).1
                    have nZ7 := di7 Da List.mem_cons_self
                    have mu7 : Mut (H6 Da) := by rw [hx7]; trivial
                    refine ⟨xs7, hx7, by rw [dz7.length]; omega, ?_⟩
                    exact turn (u := .lst (xs7 ++ [v])) (acc5 := acc ++ [dy]) (((s4.trans s5).trans s6).trans s7) (r7.upd mu7 nD7 nZ7) nD7 nZ7 rfl ((dz7.append (.cons d7 .nil)).kp (kp_upd mu7 nZ7)) (by simp; omega) e2
        · have ei : i = ds.length := by omega
          subst ei
          rw [List.drop_length] at e2
          simp only [lcL, Out.ok.injEq] at e2
          obtain ⟨rfl, rfl⟩ := e2
          refine .inl ⟨w.stop r2 k2, ?_⟩
          have r8 := r2.agree (wipe_agr own).symm hn
          have kp : Kp Z (gx X ca).K H Z2 H2 := s2.kp r.sl.mut r.dis
          obtain ⟨L9, r9, h9⟩ := Rep.rest (ρ0 := ρ) (fun i d e0 => by
            obtain ⟨v, F, q1, q2, _⟩ := r.sl.get e0
            cases q2 with
            | val q2 => exact ⟨v, q1, q2.kp kp⟩) own r8
          exact fin Z2 H2 L9 xs r9 hDa dz (fun h => nDL (h9 Da h)) nDZ (s2.sub fun a ha => (List.mem_cons.mp ha).elim (fun q => by rw [q]; exact List.mem_cons_self) fun q => List.mem_cons_of_mem _ (h9 a q))
  · cases e
theorem rd_lc {T : Tgt} {own : List Nat} {Q : VK} (hT : ∀ i ∈ T.slots, i ∈ own) (q : RdE X ca W (oLc it T t f own) σ H Q) : tLc (RdI X ca W it) (tgR X ca T) (RdT X ca WF t) (RdE X ca WF f) own σ H Q := by
  obtain ⟨θ, Z, ρ, L, r, q⟩ := q
  refine ⟨θ, Z, ρ, L, r, ?_⟩
  unfold oLc at q
  cases e1 : it ρ with
  | stuck => rw [e1] at q; exact q
  | exc c ρ1 => rw [e1] at q; exact q
  | ok x ρ1 =>
    obtain ⟨j, ds⟩ := x
    rw [e1] at q
    simp only [bind_ok] at q
    intro Z1 H1 L1 F J r1 s1 sr hz Da hD
    have done : ∀ {Z' H' L' xs acc ρ2} (θ2 : Nat → V), PoE X ca W θ Z L H σ Q (.ok (.tmp (.lst acc)) ρ2) → Rep θ (gx X ca) Z' H' ρ2 σ L' → H' Da = some (.lst xs) → DzA Z' X.K H' acc xs → Da ∉ L' → ¬ Z' Da → Step Z1 L1 H1 Z' (Da :: L') H' → Q (.ref Da) H' := fun {Z' H' L' xs acc ρ2} θ2 q r2 h2 dz nL nZ s2 =>
      q Z' H' L' [Da] _ r2 (.tmp (.lst h2 dz) (List.nodup_cons.mpr ⟨nL, r2.nd⟩) (fun a ha => by rw [List.mem_singleton] at ha; rw [ha]; exact nZ)) ((s1.sub fun a h => List.mem_append_right _ h).trans s2)
    unfold lcE at q
    cases j with
    | none =>
      simp only at q
      obtain ⟨Ok, w, k⟩ := sr.walk (θ := θ)
      cases e2 : lcW none T t f own ds ρ1 with
      | stuck => rw [e2] at q; exact q.elim
      | exc c ρ2 =>
        unfold lcW at e2
        split at e2
        · split at e2 <;> cases e2
        · cases e2
      | ok acc ρ2 =>
        rw [e2] at q
        exact lc_turns hT w r1 k hz hD e2 fun Z' H' L' xs r2 h2 dz nL nZ s2 => done θ q r2 h2 dz nL nZ s2
    | some j =>
      cases sr with
      | slot e h =>
        rename_i p a
        simp only at q
        rw [e] at q
        cases p with
        | true =>
          simp only at q
          have hθ := r1.pn j _ e
          rw [h] at hθ
          cases e2 : lcW (some (j, ds)) T t f own ds ρ1 with
          | stuck => rw [e2] at q; exact q.elim
          | exc c ρ2 =>
            unfold lcW at e2
            split at e2
            · split at e2 <;> cases e2
            · cases e2
          | ok acc ρ2 =>
            rw [e2] at q
            exact lc_turns hT (wlk_slot (Option.some.inj (Option.some.inj hθ)).symm) r1 e hz hD e2 fun Z' H' L' xs r2 h2 dz nL nZ s2 => done θ q r2 h2 dz nL nZ s2
        | false =>
          simp only at q
          have r2 := r1.pinOn e h
          have lj := (List.getElem?_eq_some_iff.mp e).1
          cases e2 : lcW (some (j, ds)) T t f own ds (ρ1.set j (some (true, .lst ds))) with
          | stuck => rw [e2] at q; exact q.elim
          | exc c ρ2 =>
            unfold lcW at e2
            split at e2
            · split at e2 <;> cases e2
            · cases e2
          | ok acc ρ2 =>
            rw [e2] at q
            exact lc_turns hT (wlk_slot (θ := fun i => if i = j then V.ref a else θ i) (by simp)) r2 (by rw [List.getElem?_set_self lj]) hz hD e2 fun Z' H' L' xs r3 h3 dz nL nZ s3 => done θ q (r3.unpin fun i hi => by simp [hi]) h3 dz nL nZ s3
theorem se_lc {elt tg iter : Expr} {ifs : List Expr} {scope : Scope} {own : List (Str × Nat)} {T : Tgt} {pos : Pos} (hT : ∀ i ∈ T.slots, i ∈ own.map (·.2)) (hc : X.calm = true) (hN : X.N.Nodup) (hi : PI X tg iter (RdI X ca W it)) (ok : BlkOk X.N X.env.scope scope own)
    (hg : ∀ (s : Shared) (H : Hp) (C : Addr) (cl : List (Str × Addr)) (fp : List Addr), PG (X.blk s H scope (compEnvC scope cl C X.env) fp) tg (tgR (X.blk s H scope (compEnvC scope cl C X.env) fp) ca T))
    (ht : ∀ (s : Shared) (H : Hp) (C : Addr) (cl : List (Str × Addr)) (fp : List Addr), PTs (X.blk s H scope (compEnvC scope cl C X.env) fp) ifs (RdT (X.blk s H scope (compEnvC scope cl C X.env) fp) ca WF t))
    (he : ∀ (s : Shared) (H : Hp) (C : Addr) (cl : List (Str × Addr)) (fp : List Addr), PE (X.blk s H scope (compEnvC scope cl C X.env) fp) elt (RdE (X.blk s H scope (compEnvC scope cl C X.env) fp) ca WF f)) (hs : ∀ x, foldedSetIterable iter X.env x = pure x) :
    PE X (.ListComp elt [⟨tg, iter, ifs, 0⟩] scope pos) (RdE X ca W (oLc it T t f (own.map (·.2)))) :=
  PE.imp (pe_lc hc hN hi ok hg ht he hs) fun σ H Q q => rd_lc hT q
theorem ss_setLc {i : Nat} {y : Str} {py : Pos} {elt tg iter : Expr} {ifs : List Expr} {scope : Scope} {own : List (Str × Nat)} {T : Tgt} {pos spos : Pos} (hT : ∀ i ∈ T.slots, i ∈ own.map (·.2)) (hc : X.calm = true) (hN : X.N.Nodup) (hy : X.N[i]? = some y) (hyl : X.env.scope.names.lookup y = some .local)
    (hsw : swapsWith (.ListComp elt [⟨tg, iter, ifs, 0⟩] scope pos) (some (.Name y py)) spos.line X.env = pure true) (hi : PI X tg iter (RdI X ca W it)) (ok : BlkOk X.N X.env.scope scope own)
    (hg : ∀ (s : Shared) (H : Hp) (C : Addr) (cl : List (Str × Addr)) (fp : List Addr), PG (X.blk s H scope (compEnvC scope cl C X.env) fp) tg (tgR (X.blk s H scope (compEnvC scope cl C X.env) fp) ca T))
    (ht : ∀ (s : Shared) (H : Hp) (C : Addr) (cl : List (Str × Addr)) (fp : List Addr), PTs (X.blk s H scope (compEnvC scope cl C X.env) fp) ifs (RdT (X.blk s H scope (compEnvC scope cl C X.env) fp) ca WF t))
    (he : ∀ (s : Shared) (H : Hp) (C : Addr) (cl : List (Str × Addr)) (fp : List Addr), PE (X.blk s H scope (compEnvC scope cl C X.env) fp) elt (RdE (X.blk s H scope (compEnvC scope cl C X.env) fp) ca WF f)) (hs : ∀ x, foldedSetIterable iter X.env x = pure x) :
    PS X (.Assign [.Name y py] (.ListComp elt [⟨tg, iter, ifs, 0⟩] scope pos) spos) (RdS X ca W (sAsg i (oLc it T t f (own.map (·.2))))) :=
  PS.imp (ps_setLc hc hN hy hyl hsw hi ok hg ht he hs) fun Dn σ H ⟨θ, Z, ρ, L, r, q⟩ => rd_lc hT (rd_ES r q fun p ρ1 Z1 H1 L1 F v q r1 h1 s1 => stoE_ok r1 h1 s1 q)
end
end Eng
set_option maxHeartbeats 1000000
/-! The engine, part 20: chained comparisons, isinstance, repr, callees by name. -/
namespace Eng
open PySem PySem.Spec L2
open PyProof.Rows hiding St

section
variable {X : Cx} {ca : Nat → Addr} {W : WX} {f g h : ES} {as : AS} {G : Gx} {b : SS} {t : TS'} {it : IS}
variable {θ θ' : Nat → V} {Z Z1 Z0 Z' : Zs} {L L1 L0 L' F F0 : List Addr} {H H1 H0 H' : Hp} {σ σ' : L2.St} {ρ ρ1 ρ' : En} {Dn : Ends}
/-! ### a < b < c -/
def oChain (s1 s2 : O → O → Option O) (f g h : ES) : ES := fun ρ => (f ρ).bind fun p ρ1 => (g ρ1).bind fun q ρ2 => match looks ρ2 [p, q] with
  | some [x, y] => match s1 x y with
    | some (.val (.bool k)) => if k = true then (h ρ2).bind fun r ρ3 => match looks ρ3 [q, r] with
        | some [y', z] => put ρ3 (s2 y' z)
        | _ => .stuck
      else .ok (.tmp (.val (.bool false))) ρ2
    | _ => .stuck
  | _ => .stuck
/-! ### isinstance -/
/-! ### repr -/
def reprS (o : O) : Option O := match o.view? with
  | some d => if d.showable = true ∧ d.hasDict = false ∧ d.depth ≤ 32 ∧ d.shown.length ≤ sizeLine then some (.val (.str d.shown)) else none
  | none => none
end
end Eng
set_option maxHeartbeats 1000000
/-! The engine, part 21: rules as the printer names them. -/
namespace Eng
open PySem PySem.Spec L2
open PyProof.Rows hiding St

/-- a def that may be called by its name -/
structure Callee (P : Program) (w : World) (K : PySem.W.Frag) (mg : Str → Option Value) (base : Heap) (ca : Nat → Addr) (k : Nat) (x : Str) (n : Nat) (g : FSem) : Prop where
  ex : ∃ f fd ps, ps.length = n ∧ EFn P w K mg base k f fd ps (spF ⟨P, w, K, ca⟩ n g) ∧ mg x = some (.ref f) ∧ PySem.W.keepIn K (.ref f) = true ∧ Binds K fd ps []
theorem Callee.mono {P : Program} {w : World} {K : PySem.W.Frag} {mg : Str → Option Value} {base : Heap} {ca : Nat → Addr} {j k : Nat} {x : Str} {n : Nat} {g : FSem} (c : Callee P w K mg base ca j x n g) (h : j ≤ k) : Callee P w K mg base ca k x n g := by
  obtain ⟨f, fd, ps, h1, h2, h3⟩ := c.ex
  exact ⟨f, fd, ps, h1, h2.mono h, h3⟩
/-- the names of the built-ins are the built-ins' own -/
structure Blt (mg : Str → Option Value) : Prop where
  len : mg "len" = none
  range : mg "range" = none
  sorted : mg "sorted" = none
  set : mg "set" = none
  tuple : mg "tuple" = none
  list : mg "list" = none
  all : mg "all" = none
  any : mg "any" = none
  sum : mg "sum" = none
  max : mg "max" = none
  min : mg "min" = none
  str : mg "str" = none
  int : mg "int" = none
  dict : mg "dict" = none
  repr : mg "repr" = none
  isi : mg "isinstance" = none
  zip : mg "zip" = none
  enum : mg "enumerate" = none
  rev : mg "reversed" = none
  bool : mg "bool" = none
theorem bb_len : bootBuiltins "len" = some (.builtin "len") := by decide +kernel
theorem bb_sorted : bootBuiltins "sorted" = some (.builtin "sorted") := by decide +kernel
theorem bb_any : bootBuiltins "any" = some (.builtin "any") := by decide +kernel
theorem bb_min : bootBuiltins "min" = some (.builtin "min") := by decide +kernel
theorem bb_set : bootBuiltins "set" = some (.type "set") := by decide +kernel
theorem bb_list : bootBuiltins "list" = some (.type "list") := by decide +kernel
theorem bb_tuple : bootBuiltins "tuple" = some (.type "tuple") := by decide +kernel
theorem bb_str : bootBuiltins "str" = some (.type "str") := by decide +kernel
theorem bb_int : bootBuiltins "int" = some (.type "int") := by decide +kernel
theorem hu65 {k : Nat} {A : Around} (hr : Room k A) : A.units + 65 < cLine := by have := hr.un; omega
theorem hu64 {k : Nat} {A : Around} (hr : Room k A) : A.units + 64 < cLine := by have := hr.un; omega
section
variable {X : Cx} {ca : Nat → Addr} {W : WX} {f g h : ES} {fs : AS} {p pos apos px : Pos} {e : Expr} {es : List Expr} {k i : Nat} {x : Str}
theorem se_n (i : Nat) {x : Str} (hN : X.N[i]? = some x) (hv : Vis X.env.scope x) (hd : (x == ("__debug__" : Str)) = false) (hcd : (x == ("__classdict__" : Str)) = false) : PE X (.Name x pos) (RdE X ca W (oNm i)) := se_name hN hv hd hcd
theorem sa_c {gs : List ES} (hs : notStar e = true) (ha : PE X e (RdE X ca W f)) (hr : PA X es (RdA X ca W (oAs gs))) : PA X (e :: es) (RdA X ca W (oAs (f :: gs))) := sa_cons ha hr (star_cons hs)
theorem se_c {fn : FSem} {gs : List ES} {n : Nat} (C : Callee X.prog X.w X.K X.mg X.base ca k x n fn) (hG : X.A.guards = some []) (hr : Room k X.A) (tk : Takes X W) (hn : gs.length = n) (hg : Gl X x) (hdb : (x == ("__debug__" : Str)) = false) (hs : ((e :: es).all notStar) = true) (ha : PA X (e :: es) (RdA X ca W (oAs gs))) :
    PE X (.Call (.Name x p) (e :: es) [] pos) (RdE X ca W (oCall fn (oAs gs))) := by
  obtain ⟨fa, fd, ps, h1, h2, h3, h4, h5⟩ := C.ex
  subst hn
  exact se_call (k := k) h2 hG hr h3 h4 h5 tk hg ha hdb hs
theorem se_len (B : Blt X.mg) (hg : Gl X "len") (hs : notStar e = true) (he : PE X e (RdE X ca W f)) : PE X (.Call (.Name "len" p) [e] [] pos) (RdE X ca W (o1 lenS f)) := se_callB c_len hg B.len bb_len (sa_c hs he sa_nil) (by decide) (by decide) (by simp [hs])
theorem se_any (hc : X.calm = true) (B : Blt X.mg) (hg : Gl X "any") (hs : notStar e = true) (he : PE X e (RdE X ca W f)) : PE X (.Call (.Name "any" p) [e] [] pos) (RdE X ca W (o1 anyS f)) := se_callB (c_any hc) hg B.any bb_any (sa_c hs he sa_nil) (by decide) (by decide) (by simp [hs])
theorem se_sorted (hc : X.calm = true) (hr : Room k X.A) (B : Blt X.mg) (hg : Gl X "sorted") (hs : notStar e = true) (he : PE X e (RdE X ca W f)) : PE X (.Call (.Name "sorted" p) [e] [] pos) (RdE X ca W (o1 sortS f)) := se_callB (c_sorted hc (hu65 hr)) hg B.sorted bb_sorted (sa_c hs he sa_nil) (by decide) (by decide) (by simp [hs])
theorem se_min {e2 : Expr} (hc : X.calm = true) (B : Blt X.mg) (hg : Gl X "min") (hs : notStar e = true) (hs2 : notStar e2 = true) (he : PE X e (RdE X ca W f)) (he2 : PE X e2 (RdE X ca W g)) : PE X (.Call (.Name "min" p) [e, e2] [] pos) (RdE X ca W (o2 minS f g)) := se_callB (c_min hc) hg B.min bb_min (sa_c hs he (sa_c hs2 he2 sa_nil)) (by decide) (by decide) (by simp [hs, hs2])
theorem se_list (B : Blt X.mg) (hg : Gl X "list") (hs : notStar e = true) (he : PE X e (RdE X ca W f)) : PE X (.Call (.Name "list" p) [e] [] pos) (RdE X ca W (o1 listS f)) := se_callTy c_list hg B.list bb_list (sa_c hs he sa_nil) (by decide) (by decide) (by simp [hs])
theorem se_tuple (B : Blt X.mg) (hg : Gl X "tuple") (hs : notStar e = true) (he : PE X e (RdE X ca W f)) : PE X (.Call (.Name "tuple" p) [e] [] pos) (RdE X ca W (o1 tupleS f)) := se_callTy c_tuple hg B.tuple bb_tuple (sa_c hs he sa_nil) (by decide) (by decide) (by simp [hs])
theorem se_strC (B : Blt X.mg) (hg : Gl X "str") (hs : notStar e = true) (he : PE X e (RdE X ca W f)) : PE X (.Call (.Name "str" p) [e] [] pos) (RdE X ca W (o1 strS f)) := se_callTy c_str hg B.str bb_str (sa_c hs he sa_nil) (by decide) (by decide) (by simp [hs])
theorem se_intC (B : Blt X.mg) (hg : Gl X "int") (hs : notStar e = true) (he : PE X e (RdE X ca W f)) : PE X (.Call (.Name "int" p) [e] [] pos) (RdE X ca W (o1 intS' f)) := se_callTy c_int hg B.int bb_int (sa_c hs he sa_nil) (by decide) (by decide) (by simp [hs])
/-! ### methods -/
theorem se_app {e : Expr} {j : Nat} (hN : X.N[j]? = some x) (hv : Vis X.env.scope x) (hd : (x == ("__debug__" : Str)) = false) (hcd : (x == ("__classdict__" : Str)) = false) (he : PE X e (RdE X ca W f)) (hs : notStar e = true)
    (hbase : attributeBase (.Name x px) "append" X.env (eval (.Name x px) X.env) = eval (.Name x px) X.env) (hline : (apos.endLine == pos.line) = true)
    (hfew : ((backTo pos (starEach [e] X.env)).all (fun x => !x.1) && (backToKw pos (keywordEach [] X.env)).all (fun x => x.1.isSome) && decide ([e].length + ([] : List Keyword).length + (if ([] : List Keyword).isEmpty then 0 else 1) < 30)) = true) :
    PE X (.Call (.Attribute (.Name x px) "append" apos) [e] [] pos) (RdE X ca W (oMutA appS j (oAs [f]))) :=
  PE.imp (pe_bm PySem.F.plainAttrs_list PySem.F.slot_list_append PySem.F.type_list_append mt_append (se_n j hN hv hd hcd) (sa_c hs he sa_nil) hbase hfew hline (star_cons hs) (star_plain rfl)) fun σ H Q q => rd_mut (fun o ds x e => by
    unfold appS at e
    split at e
    · rfl
    · cases e) mut_app q
/-! ### set(xs) -/
def setC (o : O) : Option O := o.seq?.bind fun ds => (asStrs ds).bind fun ys => if ys.length + 1 < scanBound then some (.set (metT ys)) else none
theorem strs_are : ∀ {ys : List Str} {us : List Value}, Vals (ys.map V.str) us → StrsAre us ys
  | [], _, .nil => .nil
  | y :: ys, _, .cons r t => by
    obtain ⟨tk, rfl⟩ := r
    exact .cons y tk (strs_are t)
theorem c_set (hc : X.calm = true) : CallS X ca (.type "set") (one setC) := callS_of fun pins s σ H x v Q Z a r I rx zd ha e q => by
  unfold setC at e
  cases e1 : a.seq? with
  | none => rw [e1] at e; cases e
  | some ds =>
    rw [e1] at e
    simp only [Option.bind_some] at e
    cases e2 : asStrs ds with
    | none => rw [e2] at e; cases e
    | some ys =>
      rw [e2] at e
      simp only [Option.bind_some] at e
      split at e
      · rename_i hb
        cases e
        obtain ⟨p, xs, rfl, hs, hd⟩ := rb_seq ha e1
        rw [asStrs_eq e2] at hd
        have hx := hd.strs
        subst hx
        cases rx
        have fin : ∀ (h' : Heap) (tk : Nat), SetT X.w h' s.heap.objs.size (metT ys) → (∀ b o, s.heap.get? b = some o → h'.get? b = some o) → EP X pins σ Q (.ref s.heap.objs.size) { s with heap := h', toks := tk } := fun h' tk hst keep => by
          have hn : H s.heap.objs.size = none := I.hok.fresh (Nat.le_refl _)
          have hst2 := hst
          obtain ⟨ob, es, ep, t, ⟨ho, _⟩, _⟩ := hst2
          have ok : ObjOk X.prog X.w (upd H s.heap.objs.size (.ext fun h => SetT X.w h s.heap.objs.size (metT ys))) h' s.heap.objs.size (.ext fun h => SetT X.w h s.heap.objs.size (metT ys)) := ⟨hst, ⟨ob, ho⟩, fun h1 h2 hx k => hx.at k⟩
          refine ⟨.ref s.heap.objs.size, _, I.laid (t' := tk) keep (Nat.le_refl _) ok, rfl, q _ _ [s.heap.objs.size] ⟨same_new hn, .set upd_same, by simp, fun a ha => by
            rw [List.mem_singleton] at ha
            rw [ha]; exact hn⟩⟩
        rcases hs with hs | hs
        · obtain ⟨its, rv, pl, hz⟩ := I.list hs
          exact call_set_list ys (I.ok.hd hc) pl.isList (strs_are rv) hb fin
        · obtain ⟨its, rv, pl, hz⟩ := I.tuple hs
          exact call_set_tuple ys (I.ok.hd hc) pl (strs_are rv) hb fin
      · cases e
theorem se_setC (hc : X.calm = true) (hr : Room k X.A) (B : Blt X.mg) (hg : Gl X "set") (hs : notStar e = true) (he : PE X e (RdE X ca W f)) : PE X (.Call (.Name "set" p) [e] [] pos) (RdE X ca W (o1 setC f)) := se_callTy (c_set hc) hg B.set bb_set (sa_c hs he sa_nil) (by decide) (by decide) (by simp [hs])

/-! ### a, b = e -/
def sUnp (T : Tgt) (f : ES) : SS := fun ρ => (f ρ).bindS fun p ρ1 => match give ρ1 p with
  | some (d, ρ2) => match T.put d ρ2 with
    | some ρ3 => .nx ρ3
    | none => .stuck
  | none => .stuck
end
end Eng
set_option maxHeartbeats 1000000
/-! The engine, part 22: the end of a law. -/
namespace Eng
open PySem PySem.Spec L2
open PyProof.Rows hiding St

/-- the law's def is called with the script -/
theorem law_run {P : Program} {w : World} {K : PySem.W.Frag} {mg mb : Str → Option Value} {ca : Nat → Addr} {k : Nat} {fa a : Addr} {fd : FuncData} {x : Str} {g : FSem} {s1 : Shared} {us : List Value} {ns : List Int} {fin : List O}
    (inK : K.In s1.heap) (nG : s1.heap.Ns mainGlobals mg) (nB : s1.heap.Ns builtinsNs mb) (bB : ∀ y : Str, y ≠ "__name__" → mb y = bootBuiltins y) (lim : s1.heap.NoLimit) (gens : s1.gens = #[])
    (at_ : s1.heap.get? a = some { cls := .type "list", data := .seq us.toArray }) (hints : IntsAre us ns) (few : ns.length ≤ sizeLine) (room : Room k callerA)
    (F : ∀ base : Heap, K.In base → base.Ns mainGlobals mg → EFn P w K mg base k fa fd [x] (spF ⟨P, w, K, ca⟩ 1 g)) (binds : ∀ (s : Shared) (u : Value), BindsTo s fd ⟨[u], []⟩ [(x, u)]) (ans : g [.scr ns] = .ret (.val (.bool true)) fin) :
    codeAny (model P w) callerA (.call (.ref fa) ⟨[.ref a], []⟩) (fun r s' => r = .ok (.ret (.bool true)) ∧ OldK s1.heap s'.heap ∧ s'.os = s1.os ∧ AllBare s'.gens) s1 := by
  have rel := vals_ints hints
  have lenU := hints.length
  let ob : Obj := { cls := .type "list", data := .seq us.toArray }
  let H : Hp := fun b => if b = a ∧ K.lookup a = none then some (.frz ob (.lst (ns.map V.int))) else none
  have only : ∀ b u, H b = some u → b = a ∧ K.lookup a = none ∧ u = .frz ob (.lst (ns.map V.int)) := fun b u e => by
    by_cases hb : b = a ∧ K.lookup a = none
    · have e2 : (if b = a ∧ K.lookup a = none then some (HO.frz ob (.lst (ns.map V.int))) else none) = some u := e
      rw [if_pos hb] at e2
      cases e2
      exact ⟨hb.1, hb.2, rfl⟩
    · have e2 : (if b = a ∧ K.lookup a = none then some (HO.frz ob (.lst (ns.map V.int))) else none) = some u := e
      rw [if_neg hb] at e2
      cases e2
  have free : ∀ b, (b = a → K.lookup a ≠ none) → H b = none := fun b hb => by
    cases q : H b with
    | none => rfl
    | some u => exact absurd (only b u q).2.1 (hb (only b u q).1)
  have scr : SqS K H a ns := by
    cases q : K.lookup a with
    | none => exact .inl ⟨ob, if_pos ⟨rfl, q⟩⟩
    | some o =>
      have e := inK a o q
      rw [at_] at e
      cases e
      exact .inr ⟨_, us.toArray, _, q, rfl, rfl, rfl, by rw [List.size_toArray, lenU]; exact few, by simpa using rel⟩
  have hok : HOk P w H s1.heap := fun b u e => by
    obtain ⟨rfl, _, rfl⟩ := only b u e
    exact ⟨at_, by rw [List.length_map]; exact few, us, _, rel, at_⟩
  have notD : ∀ {b : Addr} {o : Obj} {es : Array DictEntry} {ep : Nat}, s1.heap.get? b = some o → o.data = .dict es ep → H b = none := fun {b o es ep} e d => free b fun hb => by
    subst hb
    rw [at_] at e
    cases e
    cases d
  have nsB : ∀ {b : Addr} {m : Str → Option Value}, s1.heap.Ns b m → (hidT s1.heap H).Ns b m := fun {b m} ⟨o, es, ep, e, d, r⟩ => ⟨o, es, ep, hidT_get e (notD e d), d, r⟩
  have inB : K.In (hidT s1.heap H) := fun b o e => hidT_get (inK b o e) (free b fun hb => by rw [← hb, e]; intro q; cases q)
  have md : Mod K mg (hidT s1.heap H) := ⟨inB, nsB nG, ⟨mb, nsB nB, bB⟩, let ⟨mc, h1, h2⟩ := lim; ⟨mc, nsB h1, h2⟩⟩
  have env0 : Env0 P w K mg (hidT s1.heap H) callerA [] s1 H := ⟨rfl, md, fun b o e => of_hidT e, Nat.le_of_eq (hidT_size s1.heap H), trivial, fun b hb => absurd (show b ∈ ([] : List Addr) from hb) (by simp), hok, .of_eq gens⟩
  have sp : spF ⟨P, w, K, ca⟩ 1 g [.ref a] H (fun v _ => v = .bl true) (fun _ _ _ => False) := by
    refine ⟨fun _ => False, [.scr ns], [] ++ [], rfl, .cons (.scr scr) .nil, List.nodup_nil, fun _ h => by simp at h, fun _ h => h.elim, ?_⟩
    rw [ans]
    intro Z' H' F' Fo v _ ro _ _ _ _
    cases ro with
    | val hd => cases hd; rfl
  refine codeAny_mono ((F _ inB (nsB nG)).go callerA [] s1 H ⟨[.ref a], []⟩ [.ref a] [.ref a] _ _ rfl room env0 (binds s1 (.ref a)) (.cons rfl .nil) sp) fun r s' h => ?_
  cases r with
  | error e =>
    obtain ⟨_, _, _, _, _, _, _, _, _, _, _, _, z⟩ := h
    exact z.elim
  | ok fl =>
    cases fl with
    | next => exact h.elim
    | brk => exact h.elim
    | cont => exact h.elim
    | ret u =>
      obtain ⟨v, H', os, bare, un, hok', rv, q⟩ := h
      have q2 : v = .bl true := q
      subst q2
      have ru : u = Value.bool true := rv
      subst ru
      refine ⟨rfl, OldK.of_keep fun b o e => ?_, os, bare⟩
      cases qb : H b with
      | none => exact un.keep b o e qb (fun z => absurd (show b ∈ ([] : List Addr) from z) (by simp)) (by simp)
      | some u =>
        obtain ⟨_, _, rfl⟩ := only b u qb
        obtain ⟨k1, _⟩ := hok b _ qb
        obtain ⟨k2, _⟩ := hok' b _ (un.frzs b ob _ qb)
        rw [e] at k1
        cases k1
        exact k2
theorem _root_.L2.Fun.binds1 {K : PySem.W.Frag} {x qual p : Str} {st : Stmt} {f : Addr} {fd : FuncData} (F : Fun K x qual st f fd)
    (h : ∀ (kV doc pm : Value) (an : Option Addr) (cdv ct : Value) (us : List Value), us.length = 1 → bindArgs (PySem.W.fnOf x qual (defArgs st) (defBody st) (defScope st) .none kV doc pm an cdv ct) ⟨us, []⟩ = pure ([p].zip us)) : ∀ (s : Shared) (u : Value), BindsTo s fd ⟨[u], []⟩ [(p, u)] := fun s u => by
  obtain ⟨oc, od, kV, doc, pm, an, cdv, ct, osl, rfl, lk, cd⟩ := F.ex
  exact .of_eq (h kV doc pm an cdv ct [u] rfl)
/-- the end: from the head's facts to the law's walk -/
theorem walk_law {l : PySem.W.OpenLaw} {n k : Nat} {q : Program} {loose : List Str} {XP : (Str → Option Value) → Heap → Prop} {YP : World → Heap → Prop} {d : DefRec} {x : Str} {g : FSem} (hn : l.most = some n) (hn2 : n ≤ sizeLine) (hdf : d.params.defaults = []) (hr : Room k callerA)
    (F : ∀ (w : World) (mg : Str → Option Value) (fa : Addr) (h : Heap), YP w h → h.Ns mainGlobals mg → mg d.name = some (.ref fa) →
      ∃ (K : PySem.W.Frag) (fd : FuncData) (ca : Nat → Addr), K.In h ∧ (∀ (s : Shared) (u : Value), BindsTo s fd ⟨[u], []⟩ [(x, u)]) ∧ ∀ base : Heap, K.In base → base.Ns mainGlobals mg → EFn l.prog w K mg base k fa fd [x] (spF ⟨l.prog, w, K, ca⟩ 1 g))
    (ans : ∀ ns : List Int, ns.length ≤ n → ∃ fin, g [.scr ns] = .ret (.val (.bool true)) fin) : PySem.W.WalkO q loose XP YP l.row.toRowW d [] (fun f vs => PySem.call f vs) := by
  refine Att.attach_callB hn hdf fun w s0 s1 mg mb fa o pm cd doc a us ns G Y ho hd hcd hmg hobj hints hlen hbits hg => ?_
  obtain ⟨K, fd, ca, inK, hb, hF⟩ := F w mg fa _ Y G.T.g hmg
  obtain ⟨fin, e⟩ := ans ns hlen
  exact law_run inK G.T.g G.T.b G.T.builtins G.T.nolimit hg hobj hints (Nat.le_trans hlen hn2) hr hF hb e
end Eng
set_option maxHeartbeats 1000000
/-! The engine, part 23: x[::-1]. -/
namespace HT
open PySem PySem.Spec PyProof.Rows
section
variable {prog : Program} {w : World} {A : Around} {E : Value → Shared → Prop} {s : Shared}
end
end HT
namespace Eng
open PySem PySem.Spec L2
open PyProof.Rows hiding St
section
variable {X : Cx} {ca : Nat → Addr} {W : WX} {f : ES}
def revO : O → Option O
  | .val (.tuple ds) => some (.val (.tuple ds.reverse))
  | .lst ds => some (.lst ds.reverse)
  | .val (.list ds) => some (.lst ds.reverse)
  | _ => none
/-! ### is True -/
def isB : O → O → Option O
  | .val (.bool a), .val (.bool b) => some (.val (.bool (decide (a = b))))
  | _, _ => none
def isnotB : O → O → Option O
  | .val (.bool a), .val (.bool b) => some (.val (.bool (!decide (a = b))))
  | _, _ => none
end
end Eng
set_option maxHeartbeats 1000000
/-! The engine, part 24: list(reversed(x)), tuple(reversed(x)), x a list. -/
namespace RL
open PySem PySem.Spec PyProof.Rows RT
section
variable {prog : Program} {w : World} {A : Around} {E : Value → Shared → Prop} {s : Shared} {R : Result → Shared → Prop} {it l S : Addr} {items : Array Value}
end
end RL
namespace Eng
open PySem PySem.Spec L2
open PyProof.Rows hiding St
section
variable {X : Cx} {ca : Nat → Addr} {W : WX} {f : ES}
def listRevS (o : O) : Option O := o.list?.map fun ds => .lst ds.reverse
end
end Eng
set_option maxHeartbeats 1000000
/-! The engine, part 25: a call that is never met. -/
namespace Eng
open PySem PySem.Spec L2
open PyProof.Rows hiding St
end Eng
set_option maxHeartbeats 1000000
/-! The engine, part 26: try .. except C as n, the exception kept as an object. -/
namespace Eng
open PySem PySem.Spec L2
open PyProof.Rows hiding St
section
variable {X : Cx} {pins : List (Addr × Obj)} {σ : L2.St} {H : Hp} {s : Shared}
/-- a thing of the heap that is told from now on -/
theorem inv_told {a : Addr} {o : HO} (I : Inv X pins σ H s) (na : H a = none) (n0 : ∀ ob, X.s_0.heap.get? a = some ob → a ∈ X.ex) (nl : a ≠ X.env.locals) (nc : ∀ v, ¬ s.heap.IsCell a v) (np : ∀ p ∈ X.pn ++ pins, p.1 ≠ a)
    (ok : ObjOk X.prog X.w (upd H a o) s.heap a o) : Inv X pins σ (upd H a o) s := by
  have off : ∀ {b : Addr} {u : HO}, H b = some u → upd H a o b = some u := fun {b u} e => by
    rw [upd_ne (fun q => by rw [q, na] at e; cases e)]
    exact e
  have offn : ∀ {b : Addr}, b ≠ a → H b = none → upd H a o b = none := fun hb e => by rw [upd_ne hb]; exact e
  have B := I.base
  exact
    { ok := I.ok
      os := I.os
      bare := I.bare
      base :=
        { keep := B.keep
          slot := B.slot
          free := fun b ob e n hx => offn (fun q => hx (q ▸ n0 ob (q ▸ e))) (B.free b ob e n hx)
          there := B.there
          tups := fun b xs e => off (B.tups b xs e)
          frzs := fun b ob u e => off (B.frzs b ob u e)
          tbls := fun b ps e => by
            obtain ⟨more, q⟩ := B.tbls b ps e
            exact ⟨more, off q⟩ }
      loc := I.loc
      cell := I.cell
      free := offn (Ne.symm nl) I.free
      freeC := fun x c e => offn (fun q => by
        obtain ⟨v, hv⟩ := I.cell x c e
        exact nc v (q ▸ hv)) (I.freeC x c e)
      pin := fun p hp => by
        obtain ⟨p1, p2, p3⟩ := I.pin p hp
        exact ⟨p1, offn (np p hp) p2, p3⟩
      hok := fun b u e => by
        by_cases hb : b = a
        · subst hb
          rw [upd_same] at e
          cases e
          exact ok
        · rw [upd_ne hb] at e
          exact (I.hok b u e).stay (fun _ _ _ q => q) (fun _ q => off q) fun _ _ q => off q
      len := I.len }
theorem inv_inSuite (a : Addr) (I : Inv X pins σ H s) : Inv (X.suite a (X.pn ++ pins)) [] σ H s :=
  { ok := I.ok.suite a (X.pn ++ pins), os := I.os, bare := I.bare, base := I.base, loc := I.loc, cell := I.cell, free := I.free, freeC := I.freeC, pin := fun p hp => I.pin p (by simpa using hp), hok := I.hok, len := I.len }
theorem inv_offSuite {a : Addr} {more : List (Addr × Obj)} (ok : X.Ok) (I : Inv (X.suite a (X.pn ++ pins)) more σ H s) : Inv X pins σ H s :=
  { ok := ok, os := I.os, bare := I.bare, base := I.base, loc := I.loc, cell := I.cell, free := I.free, freeC := I.freeC, pin := fun p hp => I.pin p (List.mem_append_left _ hp), hok := I.hok, len := I.len }
end
/-- what 'except c as n' wishes: n's slot is i; the suite finds the exception told -/
def wHold (K : PySem.W.Frag) (c : Value) (i : Nat) (ts : Addr → Addr → TS) (Wout : WX) (D : Ends) : WX := fun cls d σ H =>
  ∃ b, PySem.W.exmOne K cls c = some b ∧ (b = false → Wout cls d σ H) ∧ (b = true → d = none ∧ ∃ C, cls = .ref C ∧ ∀ a, H a = none →
    ts a C ⟨fun σ' H' => D.nx (σ'.set i none) H', D.rt, fun σ' H' => D.bk (σ'.set i none) H', fun σ' H' => D.ct (σ'.set i none) H'⟩ (σ.set i (some (.ref a))) (upd H a (.ext (ExT a C))))
section
variable {X : Cx} {x n : Str} {c : Value} {i : Nat} {body suite : List Stmt} {b₀ : Stmt} {np pos pos' : Pos} {tb : WX → TS} {ts : Addr → Addr → TS} {Wout : WX}
/-- an exception out of the body: caught, or passed on -/
theorem catch_hold {pins : List (Addr × Obj)} {D : Ends} {u : Value} {s1 : Shared} {xe : Value → Shared → Prop} (ok : X.Ok) (hs : X.stack = X.env :: X.outer) (hf : X.env.frame = some X.env.locals) (hN : X.N.Nodup) (hi : X.N[i]? = some n) (hln : X.env.kindOf n = some .local) (hc : Names X x c) (tk : Takes X Wout)
    (hsu : ∀ (a C : Addr) (pn : List (Addr × Obj)), PSs (X.suite a pn) (b₀ :: suite) (ts a C)) (q : XE (X.tr (X.pn ++ pins) xe) (wHold X.K c i ts Wout D) u s1) :
    wpAny (model X.prog X.w) X.A (noteFrame u X.env) (fun _ s2 => wpAny (model X.prog X.w) X.A (setFlight u none)
      (fun _ s3 => wpAny (model X.prog X.w) X.A (handleBy u X.env [.ExceptHandler (some (.Name x np)) (some n) (b₀ :: suite) pos']) (SP X pins D) X.xe s3) X.xe s2) X.xe s1 := by
  obtain ⟨a, B, s0, pins0, σ1, H1, cls, d, rfl, J0, ground, up0, sky, na, os, ag, b, eb, hno, hyes⟩ := q
  have J : Inv X pins σ1 H1 s0 := J0.ofTry ok
  have fr : X.A.frames = some (X.env :: X.outer) := ok.frames.trans (congrArg some hs)
  refine Sky.land (B := B) (L := X.env.locals) (Z := Zc cls d) Zc.steady fr hf (hs ▸ sky) fun g1 fly1 up1 => ?_
  -- the exception is no frame, and was not there
  have offFr : a ∉ frs (X.env :: X.outer) := by
    intro hm
    obtain ⟨oe, vs, e1, _, e2⟩ := fly1.there
    obtain ⟨_, o2, e3, e4⟩ := fly1.2.2.1.mem hm
    rw [e1] at e3
    cases e3
    exact e4 vs e2
  have offL : a ≠ X.env.locals := fun z => offFr (List.mem_filterMap.mpr ⟨X.env, .head _, z ▸ hf⟩)
  have new0 : ∀ ob, s0.heap.get? a = some ob → False := fun ob e => by
    have := ground a ob e (by rw [show (X.tr (X.pn ++ pins) xe).stack = X.env :: X.outer from hs]; exact offFr)
    rw [fly1.2.1] at this
    cases this
  have J1 : Inv X pins σ1 H1 { s1 with heap := g1 } := J.landed ground fly1.1 (up0.trans up1) os ag
  obtain ⟨o1, vs1, at1, z1, dt1⟩ := fly1.there
  have look1 : PySem.W.Looks (model X.prog X.w) g1 (typeOf (.ref a)) cls := fun _ _ _ _ k w => wpAny_typeOf_ref (k a o1 at1) (z1.1.symm ▸ w)
  have match1 := PySem.W.exm_one (M := model X.prog X.w) J1.kIn look1 eb
  refine wpAny_handleBy_cons (codeAny_handlers_test ?_) (fun z => by cases z)
  have class1 : ∀ {Q E : Value → Shared → Prop}, Q c { s1 with heap := g1 } → wpAny (model X.prog X.w) (X.A.mark (some (.ref a))) (eval (.Name x np) X.env) Q E { s1 with heap := g1 } := by
    intro Q E w
    have S1 := inv_inSuite a J1
    rcases hc with ⟨hg, hd, hm | ⟨hm, hv, hnn⟩⟩
    · exact ld_glob (X := X.suite a (X.pn ++ pins)) S1 hg hm w hd
    · exact ld_blt (X := X.suite a (X.pn ++ pins)) S1 hg hm hv w hnn hd
  refine class1 (match1.here ?_)
  cases b with
  | false =>
    refine wpAny_handleBy_nil ?_
    obtain ⟨_, _, _, o2, vs2, T, oT, tv, e1, _, e2, e3, _⟩ := id fly1
    unfold PySem.passOn
    refine wpAny_bind (wpAny_field e1 e2 e3 ?_)
    rw [if_neg (by simp : ¬ (Value.ref T == Value.none) = true)]
    have away : wpAny (model X.prog X.w) X.A (setFlight (.ref a) X.env.frame) (fun _ s4 => wpAny (model X.prog X.w) X.A (throw (.ref a) : Sem Flow) (SP X pins D) X.xe s4) X.xe { s1 with heap := g1 } := by
      rw [hf]
      refine HandSPX.setFlight_upZ fly1 fun g2 held2 up2 => ?_
      refine wpAny_throw (tk _ _ ⟨a, B, s0, pins, σ1, H1, cls, d, rfl, J, ground, (up0.trans up1).trans up2, .inr (.inr (hs.symm ▸ held2)), na, os, ag, hno rfl⟩)
    first
      | exact wpAny_bind (wpAny_pure (wpAny_bind away))
      | exact wpAny_bind away
  | true =>
    obtain ⟨rfl, C, rfl, go⟩ := hyes rfl
    refine codeAny_handlers_suite_as (HandSPX.lands_againZ fly1 fun g2 fly2 up2 => ?_)
    have J2 : Inv X pins σ1 H1 { s1 with heap := g2 } := J.landed ground fly2.1 ((up0.trans up1).trans up2) os ag
    obtain ⟨o2, vs2, at2, z2, dt2⟩ := fly2.there
    have ext2 : ObjOk X.prog X.w (upd H1 a (.ext (ExT a C))) g2 a (.ext (ExT a C)) :=
      ⟨⟨o2, at2, z2.1, z2.2, vs2, dt2⟩, ⟨o2, at2⟩, fun h h' ⟨o, e1, e2⟩ k => ⟨o, k o e1, e2⟩⟩
    have J3 : Inv X pins σ1 (upd H1 a (.ext (ExT a C))) { s1 with heap := g2 } := by
      refine inv_told J2 na (fun ob e => ?_) offL (fun v hv => ?_) (fun p hp hpa => ?_) ext2
      · refine Classical.byContradiction fun hx => ?_
        obtain ⟨o', e'⟩ := J.base.there a ob e hx
        exact new0 o' e'
      · obtain ⟨oc, e1, e2⟩ := hv
        rw [at2] at e1
        cases e1
        rw [dt2] at e2
        cases e2
      · exact new0 p.2 (hpa ▸ (J.pin p hp).1)
    refine store_ok (X := X.suite a (X.pn ++ pins)) (v := .ref a) (inv_inSuite a J3) hN hi (.inl hln) rfl (fun s5 S5 => ?_) (.inr hln)
    refine wpAny_mono ((hsu a C (X.pn ++ pins)).run [] s5 _ _ _ S5 (go a na)) (fun fl s6 w => ?_) fun _ _ z => z.elim
    have leave : ∀ {σ6 : L2.St} {H6 : Hp} {Q : Shared → Prop}, Inv (X.suite a (X.pn ++ pins)) [] σ6 H6 s6 → (∀ s7, Inv X pins (σ6.set i none) H6 s7 → Q s7) →
        wpAny (model X.prog X.w) X.A (do bindName X.env n .none; unbindBehindTheSuite X.env n pos') (fun _ s7 => Q s7) X.xe s6 := fun S6 k => gone_ok (inv_offSuite ok S6) hN hi hln k
    cases fl with
    | next =>
      obtain ⟨_, _, S6, w⟩ := w
      exact leave S6 fun _ J7 => ⟨_, _, J7, w⟩
    | brk =>
      obtain ⟨_, _, S6, w⟩ := w
      exact leave S6 fun _ J7 => ⟨_, _, J7, w⟩
    | cont =>
      obtain ⟨_, _, S6, w⟩ := w
      exact leave S6 fun _ J7 => ⟨_, _, J7, w⟩
    | ret v =>
      obtain ⟨_, _, _, S6, r, w⟩ := w
      exact leave S6 fun _ J7 => ⟨_, _, _, J7, r, w⟩
theorem ps_try_hold (hs : X.stack = X.env :: X.outer) (hf : X.env.frame = some X.env.locals) (hN : X.N.Nodup) (hi : X.N[i]? = some n) (hln : X.env.kindOf n = some .local) (hc : Names X x c) (tk : Takes X Wout)
    (hb : ∀ (W : WX) (pn : List (Addr × Obj)) (xe : Value → Shared → Prop), Takes (X.tr pn xe) W → PassesOwn (model X.prog X.w) X.A X.env xe → PSs (X.tr pn xe) body (tb W))
    (hsu : ∀ (a C : Addr) (pn : List (Addr × Obj)), PSs (X.suite a pn) (b₀ :: suite) (ts a C)) :
    PS X (.Try body [.ExceptHandler (some (.Name x np)) (some n) (b₀ :: suite) pos'] [] [] pos) (fun D σ H => tb (wHold X.K c i ts Wout D) D σ H) := by
  constructor
  intro pins s σ H D I h
  have ok := I.ok
  apply wpAny_Try_except
  have run1 := (hb (wHold X.K c i ts Wout D) (X.pn ++ pins) _ (fun u s1 q => catch_hold (np := np) (pos' := pos') ok hs hf hN hi hln hc tk hsu q) PassesOwn.looking).run [] s σ H D (I.toTry _) h
  refine wpAny_mono run1 (fun fl s1 w => ?_) fun _ _ z => z
  cases fl with
  | next =>
    obtain ⟨_, _, T1, w⟩ := w
    exact wpAny_execs_nil ⟨_, _, T1.ofTry ok, w⟩
  | brk =>
    obtain ⟨_, _, T1, w⟩ := w
    exact ⟨_, _, T1.ofTry ok, w⟩
  | cont =>
    obtain ⟨_, _, T1, w⟩ := w
    exact ⟨_, _, T1.ofTry ok, w⟩
  | ret v =>
    obtain ⟨_, _, _, T1, r, w⟩ := w
    exact ⟨_, _, _, T1.ofTry ok, r, w⟩
end
end Eng
set_option maxHeartbeats 1000000
/-! The engine, part 27: the program's exceptions: what is known of their classes; isinstance; try. -/
namespace Eng
open PySem PySem.Spec L2
open PyProof.Rows hiding St
/-- the classes by their numbers -/
def clN : Nat → Str
  | 0 => "PrimerError" | 1 => "NoText" | 2 => "Unfit" | 3 => "Unknown" | 4 => "Unlearnt" | 5 => "TooMany" | 6 => "Lacking" | 7 => "NoRow" | 8 => "NoDeed" | 9 => "Shelf" | _ => "Desk"
/-- whether class c is class j, or below it (cl: those that the text has) -/
def subC (cl : List Nat) (j c : Nat) : Option Bool := if cl.contains c = true then some (j == 0 || c == j) else none
structure Xf (K : PySem.W.Frag) (mg : Str → Option Value) (ca : Nat → Addr) (cl : List Nat) : Prop where
  g : ∀ c ∈ cl, mg (clN c) = some (.ref (ca c))
  x : ∀ c ∈ cl, PySem.W.excIn K (ca c) [.type "ValueError", .type "Exception", .type "BaseException", .type "object"] "ValueError.__new__" = true ∧ PySem.W.keepIn K (.ref (ca c)) = true ∧ PySem.W.subIn K (.ref (ca c)) (.type "BaseException") = some true ∧ PySem.W.typeIn K (.ref (ca c)) = some (.type "type")
  e : ∀ c ∈ cl, ExcC K (ca c)
  m : ∀ c ∈ cl, ∀ j ∈ cl, PySem.W.exmOne K (.ref (ca c)) (.ref (ca j)) = some (j == 0 || c == j)
  k : ∀ c ∈ cl, ∀ j ∈ cl, PySem.W.kitOne K (.ref (ca c)) (.ref (ca j)) = some (j == 0 || c == j)
  v : ∀ c ∈ cl, PySem.W.kitOne K (.ref (ca c)) (.type "ValueError") = some true
  n : mg "ValueError" = none
theorem subC_some {cl : List Nat} {j c : Nat} {b : Bool} (h : subC cl j c = some b) : c ∈ cl ∧ b = (j == 0 || c == j) := by
  unfold subC at h
  split at h
  · rename_i hc
    cases h
    exact ⟨by simpa using hc, rfl⟩
  · cases h
theorem bb_ve : bootBuiltins "ValueError" = some (.type "ValueError") := by decide +kernel
theorem bb_isi : bootBuiltins "isinstance" = some (.builtin "isinstance") := by decide +kernel
section
variable {X : Cx} {ca : Nat → Addr} {W : WX} {f : ES} {cl : List Nat}
theorem ext_inst {pins : List (Addr × Obj)} {s : Shared} {σ : L2.St} {H : Hp} {a C : Addr} (I : Inv X pins σ H s) (h : H a = some (.ext (ExT a C))) : ∃ oe, PySem.W.InstAt s.heap a oe C none := by
  obtain ⟨⟨o, e1, e2, e3, vs, e4⟩, _⟩ := I.hok a _ h
  obtain ⟨oc, od, dt, osl⟩ := o
  dsimp only at e2 e3 e4
  subst e2 e3 e4
  exact ⟨_, e1, rfl, rfl, trivial⟩
/-- isinstance(e, C), e told -/
def rIsX (K : PySem.W.Frag) : List V → Hp → VK → Prop := fun xs H Q => ∃ (a C : Addr) (t : V) (tv : Value) (b : Bool), xs = [.ref a, t] ∧ H a = some (.ext (ExT a C)) ∧ ExcC K C ∧ (∀ u, RelV t u → u = tv) ∧ PySem.W.kitOne K (.ref C) tv = some b ∧ Q (.bl b) H
theorem call_isX : CallR X (.builtin "isinstance") (rIsX X.K) := by
  intro pins s σ H xs us Q I r ⟨a, C, t, tv, b, ex, ha, ec, ht, eb, q⟩
  subst ex
  cases r with
  | cons r1 r2 =>
    cases r2 with
    | cons r2 r3 =>
      cases r3
      cases r1
      cases ht _ r2
      obtain ⟨oe, ia⟩ := ext_inst I ha
      exact PySem.W.kia_one (PySem.W.handS_kitx_exc ec.hg ec.hk ec.hs ec.hd ec.ha ec.hn ec.ht ec.hm) I.kIn ia eb (by intro z; cases z) fun tk => ⟨.bl b, H, I.kept (t' := tk) (fun _ _ w => w), rfl, q⟩
/-- .. (C, D, ..) -/
def rIsXT (K : PySem.W.Frag) : List V → Hp → VK → Prop := fun xs H Q => ∃ (a C p : Addr) (ts : List V) (tv : List Value) (b : Bool), xs = [.ref a, .ref p] ∧ H a = some (.ext (ExT a C)) ∧ ExcC K C ∧ H p = some (.tup ts) ∧ (∀ us, Vals ts us → us = tv) ∧ PySem.W.kitAny K (.ref C) tv = some b ∧ Q (.bl b) H
theorem call_isXT : CallR X (.builtin "isinstance") (rIsXT X.K) := by
  intro pins s σ H xs us Q I r ⟨a, C, p, ts, tv, b, ex, ha, ec, hp, ht, eb, q⟩
  subst ex
  cases r with
  | cons r1 r2 =>
    cases r2 with
    | cons r2 r3 =>
      cases r3
      cases r1
      cases r2
      obtain ⟨oe, ia⟩ := ext_inst I ha
      obtain ⟨its, rv, ⟨o, e1, e2, n, e3⟩, _⟩ := I.tuple (.inl (.inl hp))
      cases ht _ rv
      obtain ⟨oc, od, dt, osl⟩ := o
      dsimp only at e2 e3
      subst e2 e3
      exact PySem.W.kia_tup (PySem.W.handS_kitx_exc ec.hg ec.hk ec.hs ec.hd ec.ha ec.hn ec.ht ec.hm) I.kIn ia e1 eb (by intro z; cases z) fun tk => ⟨.bl b, H, I.kept (t' := tk) (fun _ _ w => w), rfl, q⟩
/-- isinstance of an exception: a class of the text (j), ValueError, a tuple of classes -/
def isxS (cl : List Nat) (j : Nat) : O → Option O
  | .exn c => (subC cl j c).map fun b => .val (.bool b)
  | _ => none
def isvS (cl : List Nat) : O → Option O
  | .exn c => if cl.contains c = true then some (.val (.bool true)) else none
  | _ => none
def isxT (cl js : List Nat) : O → Option O
  | .exn c => if cl.contains c = true then some (.val (.bool (js.any fun j => j == 0 || c == j))) else none
  | _ => none
variable {e : Expr} {p p2 pos : Pos} {x : Str}
theorem rb_exn {Z : Zs} {H : Hp} {c : Nat} {v : V} (h : Rb (gx X ca) Z H (.exn c) v) : ∃ a, v = .ref a ∧ H a = some (.ext (ExT a (ca c))) := by
  obtain ⟨F, h⟩ := h
  cases h with
  | exn e => exact ⟨_, rfl, e⟩
theorem se_isX (F : Xf X.K X.mg ca cl) (j : Nat) (hj : j ∈ cl) (he : PE X e (RdE X ca W f)) (hg : Gl X "isinstance") (hm : X.mg "isinstance" = none) (hg2 : Gl X (clN j)) (hd : (clN j == ("__debug__" : Str)) = false) (hs : notStar e = true) :
    PE X (.Call (.Name "isinstance" p) [e, .Name (clN j) p2] [] pos) (RdE X ca W (o1 (isxS cl j) f)) := by
  have h1 : PA X [e, .Name (clN j) p2] (tCons (RdE X ca W f) (tCons (tC (.ref (ca j))) tNil)) := pa_cons he (pa_cons (pe_glob hg2 (F.g j hj) rfl hd) pa_nil (star_cons rfl)) (star_cons hs)
  refine PE.imp (pe_callB (call_isX (X := X)) hg hm bb_isi h1 (by decide) (by decide) (star_cons hs) (star_plain (by rfl))) fun σ H Q q => (rd_o1 q).mono fun v H1 h => ?_
  obtain ⟨Z, a, o, zd, ha, e1, q⟩ := rsem1 h
  unfold isxS at e1
  split at e1
  · rename_i c
    cases e2 : subC cl j c with
    | none => rw [e2] at e1; cases e1
    | some b =>
      rw [e2] at e1
      cases e1
      obtain ⟨hc, rfl⟩ := subC_some e2
      obtain ⟨a', rfl, h3⟩ := rb_exn ha
      exact ⟨a', ca c, .ref (ca j), .ref (ca j), _, rfl, h3, F.e c hc, fun u r => r, F.k c hc j hj, q _ _ [] (Al.val (.bl _))⟩
  · cases e1
theorem se_isV (F : Xf X.K X.mg ca cl) (he : PE X e (RdE X ca W f)) (hg : Gl X "isinstance") (hm : X.mg "isinstance" = none) (hg2 : Gl X "ValueError") (hs : notStar e = true) :
    PE X (.Call (.Name "isinstance" p) [e, .Name "ValueError" p2] [] pos) (RdE X ca W (o1 (isvS cl) f)) := by
  have h1 : PA X [e, .Name "ValueError" p2] (tCons (RdE X ca W f) (tCons (tC (.ty "ValueError")) tNil)) := pa_cons he (pa_cons (pe_bltn hg2 F.n bb_ve rfl (by decide) (by decide)) pa_nil (star_cons rfl)) (star_cons hs)
  refine PE.imp (pe_callB (call_isX (X := X)) hg hm bb_isi h1 (by decide) (by decide) (star_cons hs) (star_plain (by rfl))) fun σ H Q q => (rd_o1 q).mono fun v H1 h => ?_
  obtain ⟨Z, a, o, zd, ha, e1, q⟩ := rsem1 h
  unfold isvS at e1
  split at e1
  · rename_i c
    split at e1
    · rename_i hc
      cases e1
      have hc : c ∈ cl := by simpa using hc
      obtain ⟨a', rfl, h3⟩ := rb_exn ha
      exact ⟨a', ca c, .ty "ValueError", .type "ValueError", _, rfl, h3, F.e c hc, fun u r => r, F.v c hc, q _ _ [] (Al.val (.bl _))⟩
    · cases e1
  · cases e1
/-- names of classes, written -/
theorem pa_cls (F : Xf X.K X.mg ca cl) : ∀ {js : List Nat} {es : List Expr}, Paired (fun (j : Nat) (e : Expr) => ∃ p, e = Expr.Name (clN j) p ∧ j ∈ cl ∧ Gl X (clN j) ∧ (clN j == ("__debug__" : Str)) = false) js es → PA X es (fun _ H Q => Q (js.map fun j => V.ref (ca j)) H)
  | _, _, .nil => pa_nil
  | _, _, .cons ⟨p, e, h1, h2, h3⟩ t => by
    subst e
    exact pa_cons (pe_glob (v := .ref (ca _)) h2 (F.g _ h1) rfl h3) (pa_cls F t) (star_cons rfl)
theorem vals_cls : ∀ (js : List Nat) (us : List Value), Vals (js.map fun j => V.ref (ca j)) us → us = js.map fun j => Value.ref (ca j)
  | [], _, h => by cases h; rfl
  | j :: js, _, h => by
    cases h with
    | cons r t => cases r; rw [vals_cls js _ t]; rfl
theorem kit_cls_any {K : PySem.W.Frag} {mg : Str → Option Value} (F : Xf K mg ca cl) {c : Nat} (hc : c ∈ cl) : ∀ js : List Nat, (∀ j ∈ js, j ∈ cl) → PySem.W.kitAny K (.ref (ca c)) (js.map fun j => Value.ref (ca j)) = some (js.any fun j => j == 0 || c == j)
  | [], _ => rfl
  | j :: js, h => by
    rw [List.map_cons, List.any_cons]
    unfold PySem.W.kitAny
    rw [F.k c hc j (h j (List.mem_cons_self ..))]
    cases (j == 0 || c == j) with
    | true => rfl
    | false => exact kit_cls_any F hc js fun j hj => h j (List.mem_cons_of_mem _ hj)
theorem se_isXT (F : Xf X.K X.mg ca cl) (js : List Nat) {es : List Expr} {x1 : Nat} (hes : Paired (fun (j : Nat) (e : Expr) => ∃ p, e = Expr.Name (clN j) p ∧ j ∈ cl ∧ Gl X (clN j) ∧ (clN j == ("__debug__" : Str)) = false) js es) (hin : ∀ j ∈ js, j ∈ cl) (hlen : js.length ≤ sizeLine)
    (he : PE X e (RdE X ca W f)) (hg : Gl X "isinstance") (hm : X.mg "isinstance" = none) (hs : notStar e = true) :
    PE X (.Call (.Name "isinstance" p) [e, .Tuple es x1 p2] [] pos) (RdE X ca W (o1 (isxT cl js) f)) := by
  have h1 : PA X [e, .Tuple es x1 p2] (tCons (RdE X ca W f) (tCons (tTup fun _ H Q => Q (js.map fun j => V.ref (ca j)) H) tNil)) := pa_cons he (pa_cons (pe_tup (pa_cls F hes)) pa_nil (star_cons rfl)) (star_cons hs)
  refine PE.imp (pe_callB (call_isXT (X := X)) hg hm bb_isi h1 (by decide) (by decide) (star_cons hs) (star_plain (by rfl))) fun σ H Q q => (rd_o1 q).mono fun v H1 h => ?_
  obtain ⟨Z, a, o, zd, ha, e1, q⟩ := rsem1 h
  unfold isxT at e1
  split at e1
  · rename_i c
    split at e1
    · rename_i hc
      cases e1
      have hc : c ∈ cl := by simpa using hc
      obtain ⟨a', rfl, h3⟩ := rb_exn ha
      refine ⟨by rw [List.length_map]; exact hlen, fun p0 np => ⟨a', ca c, p0, _, _, _, rfl, ?_, F.e c hc, upd_same, fun us r => vals_cls js us r, kit_cls_any F hc js hin, q _ _ [] ⟨same_new np, .val (.bl _), List.nodup_nil, fun _ h => by cases h⟩⟩⟩
      rw [upd_ne (fun z => by rw [z, np] at h3; cases h3)]
      exact h3
    · cases e1
  · cases e1
end

/-! ### try -/
/-- the name of an except clause goes -/
def gone (i : Nat) : SOut → SOut
  | .nx ρ => .nx (ρ.set i none)
  | .bk ρ => .bk (ρ.set i none)
  | .ct ρ => .ct (ρ.set i none)
  | .rt o ρ => .rt o ρ
  | _ => .stuck
def sTry (cl : List Nat) (j i : Nat) (b s : SS) : SS := fun ρ => match b ρ with
  | .exc c ρ1 => match subC cl j c with
    | some true => match setE i (.exn c) ρ1 with
      | some ρ2 => gone i (s ρ2)
      | none => .stuck
    | some false => .exc c ρ1
    | none => .stuck
  | o => o
section
variable {X : Cx} {ca : Nat → Addr} {W : WX} {b s : SS} {cl : List Nat} {i j : Nat} {θ : Nat → V} {G : Gx} {Z : Zs} {H : Hp} {σ : L2.St} {L : List Addr} {ρ : En}
theorem rep_gone (r : Rep θ G Z H ρ σ L) (i : Nat) : ∃ L', Rep θ G Z H (ρ.set i none) (σ.set i none) L' ∧ ∀ a ∈ L', a ∈ L := by
  cases e : ρ[i]? with
  | none =>
    refine ⟨L, ?_, fun _ h => h⟩
    have h1 := List.getElem?_eq_none_iff.mp e
    have h2 := r.sl.length
    rw [List.set_eq_of_length_le h1, List.set_eq_of_length_le (by omega)]
    exact r
  | some sl =>
    obtain ⟨L1, F, L2, x, rfl, e2, _, put⟩ := r.put e
    have rp := put (Z' := Z) (H' := H) (sl' := none) (x' := none) (F' := []) Kp.refl (fun _ _ _ q => q) .no List.nodup_nil (fun _ q => by cases q) (fun _ q => by cases q)
      (fun c hc => r.dis c ((List.mem_append.mp hc).elim (List.mem_append_left _) fun h => List.mem_append_right _ (List.mem_append_right _ h))) r.zd (fun o q => by cases q)
    refine ⟨_, rp, fun a ha => ?_⟩
    simp only [List.mem_append, List.nil_append] at ha ⊢
    exact ha.elim .inl fun h => .inr (.inr h)
variable {x n : Str} {body suite : List Stmt} {b₀ : Stmt} {np pos pos' : Pos}
theorem ss_try (F : Xf X.K X.mg ca cl) (hj : j ∈ cl) (hs : X.stack = X.env :: X.outer) (hf : X.env.frame = some X.env.locals) (hN : X.N.Nodup) (hi : X.N[i]? = some n) (hln : X.env.kindOf n = some .local) (hg : Gl X (clN j)) (hd : (clN j == ("__debug__" : Str)) = false) (tk : Takes X W)
    (hb : ∀ (W' : WX) (pn : List (Addr × Obj)) (xe : Value → Shared → Prop), Takes (X.tr pn xe) W' → PassesOwn (model X.prog X.w) X.A X.env xe → PSs (X.tr pn xe) body (RdS (X.tr pn xe) ca W' b))
    (hsu : ∀ (a : Addr) (pn : List (Addr × Obj)), PSs (X.suite a pn) (b₀ :: suite) (RdS (X.suite a pn) ca WF s)) :
    PS X (.Try body [.ExceptHandler (some (.Name (clN j) np)) (some n) (b₀ :: suite) pos'] [] [] pos) (RdS X ca W (sTry cl j i b s)) := by
  refine PS.imp (ps_try_hold (c := .ref (ca j)) (tb := fun W' => RdS X ca W' b) (ts := fun _ _ => RdS X ca WF s) hs hf hN hi hln ⟨hg, hd, .inl (F.g j hj)⟩ tk hb fun a C pn => hsu a pn) fun D σ H ⟨θ, Z, ρ, L, r, q⟩ => ⟨θ, Z, ρ, L, r, ?_⟩
  unfold sTry at q
  cases e : b ρ with
  | stuck => rw [e] at q; exact q
  | nx ρ1 => rw [e] at q; exact q
  | rt o ρ1 => rw [e] at q; exact q
  | bk ρ1 => rw [e] at q; exact q
  | ct ρ1 => rw [e] at q; exact q
  | exc c ρ1 =>
    rw [e] at q
    intro Z1 H1 L1 σ1 r1 s1
    simp only at q
    cases e2 : subC cl j c with
    | none => rw [e2] at q; exact q.elim
    | some k =>
      rw [e2] at q
      obtain ⟨hc, hk⟩ := subC_some e2
      refine ⟨k, by rw [hk]; exact F.m c hc j hj, fun z => ?_, fun z => ?_⟩
      · subst z
        exact q Z1 H1 L1 σ1 r1 s1
      · subst z
        refine ⟨rfl, ca c, rfl, fun a na => ?_⟩
        have al : Al (gx X ca) Z1 H1 (.exn c) (.ref a) (upd H1 a (.ext (ExT a (ca c)))) [a] := ⟨same_new na, .exn upd_same, by simp, fun a' h => by rw [List.mem_singleton] at h; rw [h]; exact na⟩
        have r2 := al.rep r1
        have s2 : Step Z1 L1 H1 Z1 ([a] ++ L1) (upd H1 a (.ext (ExT a (ca c)))) := al.step
        simp only at q
        cases e3 : setE i (.exn c) ρ1 with
        | none => rw [e3] at q; exact q.elim
        | some ρ2 =>
          rw [e3] at q
          obtain ⟨L3, r3, sub3⟩ := setE_ok r2 (al.held r1) e3
          have s3 := s1.trans (s2.sub (L1 := L3) sub3)
          refine ⟨θ, Z1, ρ2, L3, r3, ?_⟩
          simp only at q
          cases e4 : s ρ2 with
          | stuck => rw [e4] at q; exact q.elim
          | exc c' ρ3 => rw [e4] at q; exact q.elim
          | nx ρ3 =>
            rw [e4] at q
            intro Z4 H4 L4 σ4 r4 s4
            obtain ⟨L5, r5, sub5⟩ := rep_gone r4 i
            exact q Z4 H4 L5 _ r5 ((s3.trans s4).sub sub5)
          | bk ρ3 =>
            rw [e4] at q
            intro Z4 H4 L4 σ4 r4 s4
            obtain ⟨L5, r5, sub5⟩ := rep_gone r4 i
            exact q Z4 H4 L5 _ r5 ((s3.trans s4).sub sub5)
          | ct ρ3 =>
            rw [e4] at q
            intro Z4 H4 L4 σ4 r4 s4
            obtain ⟨L5, r5, sub5⟩ := rep_gone r4 i
            exact q Z4 H4 L5 _ r5 ((s3.trans s4).sub sub5)
          | rt o ρ3 =>
            rw [e4] at q
            intro Z4 H4 L4 F4 v4 σ4 r4 h4 s4
            exact q Z4 H4 L4 F4 v4 σ4 r4 h4 (s3.trans s4)
end
end Eng
set_option maxHeartbeats 1000000
/-! The engine, part 28: xs.index(y), xs.count(y), xs.insert(i, y), dict(pairs), d.pop(k). -/
namespace Eng
open PySem PySem.Spec L2
open PyProof.Rows hiding St
/-! ### methods that only read -/
/-- a method of a list that reads: the list's operand, one argument -/
def oRd (sem : O → O → Option O) (f g : ES) : ES := fun ρ => (f ρ).bind fun p ρ1 => match look ρ1 p with
  | some o0 => if o0.list?.isSome = true then (g ρ1).bind fun q ρ2 => match looks ρ2 [p, q] with
      | some os => put ρ2 (two sem os)
      | none => .stuck
    else .stuck
  | none => .stuck
section
variable {X : Cx} {ca : Nat → Addr} {W : WX} {f g : ES} {σ : L2.St} {H : Hp}
variable {o e : Expr} {apos pos : Pos} {k : Nat}
/-! ### xs.insert(i, y) -/
/-! ### dict(pairs) -/
def pairD : D → Option (D × D)
  | .tuple [k, v] => if (keyOf k).isSome = true then some (k, v) else none
  | _ => none
def pairsD : List D → Option (List (D × D))
  | [] => some []
  | d :: ds => match pairD d, pairsD ds with
    | some p, some ps => some (p :: ps)
    | _, _ => none
/-- later ones win, the place is the first one's -/
def mergeD (es ps : List (D × D)) : List (D × D) := ps.foldl (fun acc p => dput acc p.1 p.2) es
def dictS (o : O) : Option O := o.list?.bind fun ds => (pairsD ds).map fun ps => .dic (mergeD [] ps)
theorem pairs_dz {Z : Zs} {K : PySem.W.Frag} {H : Hp} : ∀ {ds : List D} {xs : List V} {ps : List (D × D)}, DzA Z K H ds xs → pairsD ds = some ps → ∃ (as : List Addr) (kvs : List (Key × V)), xs = as.map V.ref ∧ Paired (fun p kv => SqT K H p [kV kv.1, kv.2]) as kvs ∧
    DzA Z K H (ps.map (·.1)) (kvs.map fun p => kV p.1) ∧ DzA Z K H (ps.map (·.2)) (kvs.map (·.2))
  | [], _, _, h, e => by
    cases h
    cases e
    exact ⟨[], [], rfl, .nil, .nil, .nil⟩
  | d :: ds, _, ps, h, e => by
    cases h with
    | cons h t =>
      unfold pairsD at e
      split at e
      · rename_i p ps' e1 e2
        cases e
        obtain ⟨as, kvs, rfl, h1, h2, h3⟩ := pairs_dz t e2
        unfold pairD at e1
        split at e1
        · rename_i k v
          split at e1
          · rename_i hk
            cases e1
            cases h with
            | tup r hd =>
              rename_i a vs
              cases hd with
              | cons hd1 t1 =>
                cases t1 with
                | cons hd2 t2 =>
                  cases t2
                  rename_i kv vv
                  obtain ⟨κ, eκ⟩ : ∃ κ, kv = kV κ := by
                    cases k with
                    | str x => cases hd1; exact ⟨.inr x, rfl⟩
                    | int x => cases hd1; exact ⟨.inl x, rfl⟩
                    | _ => simp [keyOf] at hk
                  subst eκ
                  exact ⟨a :: as, (κ, vv) :: kvs, rfl, .cons r h1, .cons hd1 h2, .cons hd2 h3⟩
          · cases e1
        · cases e1
      · cases e
theorem merge_dz {Z : Zs} {K : PySem.W.Frag} {H : Hp} : ∀ (ps : List (D × D)) (kvs : List (Key × V)) (es : List (D × D)) (ks : List (Key × V)), DzA Z K H (ps.map (·.1)) (kvs.map fun p => kV p.1) → DzA Z K H (ps.map (·.2)) (kvs.map (·.2)) →
    DzA Z K H (es.map (·.1)) (ks.map fun p => kV p.1) → DzA Z K H (es.map (·.2)) (ks.map (·.2)) → (ks.map (·.1)).Nodup →
    DzA Z K H ((mergeD es ps).map (·.1)) ((mergeK ks kvs).map fun p => kV p.1) ∧ DzA Z K H ((mergeD es ps).map (·.2)) ((mergeK ks kvs).map (·.2)) ∧ ((mergeK ks kvs).map (·.1)).Nodup
  | [], [], es, ks, _, _, h3, h4, h5 => ⟨h3, h4, h5⟩
  | [], _ :: _, _, _, h, _, _, _, _ => by cases h
  | _ :: _, [], _, _, h, _, _, _, _ => by cases h
  | (k, d) :: ps, (κ, v) :: kvs, es, ks, h1, h2, h3, h4, h5 => by
    cases h1 with
    | cons a1 t1 =>
      cases h2 with
      | cons a2 t2 =>
        obtain ⟨q1, q2⟩ := dput_ok h3 h4 (key_dz a1) a1 a2
        exact merge_dz ps kvs (dput es k d) (putK ks κ v) t1 t2 q1 q2 (putK_nd h5)
theorem c_dict (hc : X.calm = true) : CallS X ca (.type "dict") (one dictS) := by
  intro pins s σ H xs us Q I r ⟨Z, os, o, zd, hp, e0, q⟩
  obtain ⟨a, rfl, e⟩ := one_some e0
  cases hp with
  | cons ha t =>
    cases t
    unfold dictS at e
    cases e1 : a.list? with
    | none => rw [e1] at e; cases e
    | some ds =>
      rw [e1] at e
      simp only [Option.bind_some] at e
      cases e2 : pairsD ds with
      | none => rw [e2] at e; cases e
      | some ps =>
        rw [e2] at e
        cases e
        obtain ⟨p, xs, rfl, hx, hd⟩ := rb_list ha e1
        obtain ⟨as, kvs, rfl, h1, h2, h3⟩ := pairs_dz hd e2
        obtain ⟨q1, q2, q3⟩ := merge_dz ps kvs [] [] h2 h3 .nil .nil List.nodup_nil
        refine call_dictP hc pins s σ H _ us Q I r ⟨p, as, kvs, rfl, .inl (.inl hx), h1, fun l nl => q _ _ [l] ⟨same_new nl, .dic upd_same (q1.kp (same_kp (same_new nl))) (q2.kp (same_kp (same_new nl))) q3, by simp, fun a ha => ?_⟩⟩
        rw [List.mem_singleton] at ha
        rw [ha]; exact nl
theorem bb_dict : bootBuiltins "dict" = some (.type "dict") := by decide +kernel
theorem se_dict {p : Pos} (hc : X.calm = true) (B : Blt X.mg) (hg : Gl X "dict") (hs : notStar e = true) (he : PE X e (RdE X ca W f)) : PE X (.Call (.Name "dict" p) [e] [] pos) (RdE X ca W (o1 dictS f)) := se_callTy (c_dict hc) hg B.dict bb_dict (sa_c hs he sa_nil) (by decide) (by decide) (by simp [hs])
/-! ### d.pop(k) -/
end
end Eng
set_option maxHeartbeats 1000000
/-! The engine, part 29: raise by the classes' facts; these facts at the head. -/
namespace Eng
open PySem PySem.Spec L2
open PyProof.Rows hiding St
section
variable {X : Cx} {ca : Nat → Addr} {W : WX} {cl : List Nat}
theorem ss_raiseX {m : Str} {j0 : Nat} {p p2 pos pos' : Pos} (F : Xf X.K X.mg ca cl) (j : Nat) (hj : j ∈ cl) (hc : X.calm = true) (tk : Takes X W) (hg : Gl X (clN j)) (hd : (clN j == ("__debug__" : Str)) = false) :
    PS X (.Raise (some (.Call (.Name (clN j) p) [.Constant (.str m) j0 p2] [] pos')) none pos) (RdS X ca W (sRaise j)) :=
  ss_raise rfl hc tk PySem.F.excBase_ValueError (F.x j hj).1 (F.g j hj) (F.x j hj).2.1 (raises_own (F.x j hj).2.2.1 (F.x j hj).2.2.2) hg hd
end
/-- a class of exceptions, looked at -/
def excB (K : PySem.W.Frag) (C : Addr) : Bool :=
  He.eqO (PySem.W.findIn K (.ref C) "__getattribute__") (some (some (.builtin "BaseException.__getattribute__"))) && (He.eqO (PySem.W.findIn K (.ref C) "__getattr__") (some none) && (decide (PySem.W.subIn K (.ref C) (.type "BaseException") = some true) &&
    (PySem.W.hasDictIn K C && (He.eqO (PySem.W.findIn K (.ref C) "__class__") (some (some (.builtin "object.__class__"))) && (He.eqO (PySem.W.specialIn K (.builtin "object.__class__") "__get__") (some (some (.builtin "getset_descriptor.__get__"))) &&
      (decide (PySem.W.takesIn K (.builtin "object.__class__") = some true) && decide (PySem.W.mroIn K C (.type "object") = some true)))))))
theorem excB_ok {K : PySem.W.Frag} {C : Addr} (h : excB K C = true) : ExcC K C := by
  unfold excB at h
  obtain ⟨h1, h⟩ := He.ba h
  obtain ⟨h2, h⟩ := He.ba h
  obtain ⟨h3, h⟩ := He.ba h
  obtain ⟨h4, h⟩ := He.ba h
  obtain ⟨h5, h⟩ := He.ba h
  obtain ⟨h6, h⟩ := He.ba h
  obtain ⟨h7, h8⟩ := He.ba h
  exact ⟨He.eqO_ok h1, He.eqO_ok h2, of_decide_eq_true h3, h4, He.eqO_ok h5, He.eqO_ok h6, of_decide_eq_true h7, of_decide_eq_true h8⟩
def caOf (K : PySem.W.Frag) (c : Nat) : Addr := He.ga K (clN c)
def veL : List Value := [.type "ValueError", .type "Exception", .type "BaseException", .type "object"]
def oneB (K : PySem.W.Frag) (C : Addr) : Bool := PySem.W.excIn K C veL "ValueError.__new__" && (PySem.W.keepIn K (.ref C) && (decide (PySem.W.subIn K (.ref C) (.type "BaseException") = some true) && decide (PySem.W.typeIn K (.ref C) = some (.type "type"))))
def clB (cl : List Nat) (K : PySem.W.Frag) : Bool :=
  (cl.all fun c => He.eqO (PySem.W.nsIn K mainGlobals (clN c)) (some (some (.ref (caOf K c)))) && (oneB K (caOf K c) && (excB K (caOf K c) && (decide (PySem.W.kitOne K (.ref (caOf K c)) (.type "ValueError") = some true) &&
    cl.all fun j => decide (PySem.W.exmOne K (.ref (caOf K c)) (.ref (caOf K j)) = some (j == 0 || c == j)) && decide (PySem.W.kitOne K (.ref (caOf K c)) (.ref (caOf K j)) = some (j == 0 || c == j)))))) &&
  He.eqO (PySem.W.nsIn K mainGlobals "ValueError") (some none)
theorem clB_ok {cl : List Nat} {K : PySem.W.Frag} {h : Heap} {mg : Str → Option Value} (X : K.In h) (G : h.Ns mainGlobals mg) (b : clB cl K = true) : Xf K mg (caOf K) cl := by
  unfold clB at b
  obtain ⟨b1, b2⟩ := He.ba b
  have all : ∀ c ∈ cl, He.eqO (PySem.W.nsIn K mainGlobals (clN c)) (some (some (.ref (caOf K c)))) = true ∧ oneB K (caOf K c) = true ∧ excB K (caOf K c) = true ∧ PySem.W.kitOne K (.ref (caOf K c)) (.type "ValueError") = some true ∧
      ∀ j ∈ cl, PySem.W.exmOne K (.ref (caOf K c)) (.ref (caOf K j)) = some (j == 0 || c == j) ∧ PySem.W.kitOne K (.ref (caOf K c)) (.ref (caOf K j)) = some (j == 0 || c == j) := fun c hc => by
    obtain ⟨g1, g⟩ := He.ba (List.all_eq_true.mp b1 c hc)
    obtain ⟨g2, g⟩ := He.ba g
    obtain ⟨g3, g⟩ := He.ba g
    obtain ⟨g4, g5⟩ := He.ba g
    exact ⟨g1, g2, g3, of_decide_eq_true g4, fun j hj => by
      obtain ⟨k1, k2⟩ := He.ba (List.all_eq_true.mp g5 j hj)
      exact ⟨of_decide_eq_true k1, of_decide_eq_true k2⟩⟩
  exact
    { g := fun c hc => PySem.W.mg_of X G (He.eqO_ok (all c hc).1)
      x := fun c hc => by
        have := (all c hc).2.1
        unfold oneB at this
        obtain ⟨c1, c⟩ := He.ba this
        obtain ⟨c2, c⟩ := He.ba c
        obtain ⟨c3, c4⟩ := He.ba c
        exact ⟨c1, c2, of_decide_eq_true c3, of_decide_eq_true c4⟩
      e := fun c hc => excB_ok (all c hc).2.2.1
      m := fun c hc j hj => ((all c hc).2.2.2.2 j hj).1
      k := fun c hc j hj => ((all c hc).2.2.2.2 j hj).2
      v := fun c hc => (all c hc).2.2.2.1
      n := PySem.W.mg_none_of X G (He.eqO_ok b2) }
/-! ### a hook with one more look -/
def obsM (n : Nat) (fa : List He.Fa) (fn : List He.FnD) (ex : PySem.W.Frag → Bool) (g : Addr → Option Obj) : He.Al × Bool := (He.obsG n fa fn g, ex (He.frG g (He.asG g n)))
def SaysM (fa : List He.Fa) (fn : List He.FnD) (ex : PySem.W.Frag → Bool) (K : PySem.W.Frag) : Prop := He.SaysE fa fn K ∧ ex K = true
def hookM (n : Nat) (fa : List He.Fa) (fn : List He.FnD) (ex : PySem.W.Frag → Bool) : PySem.W.Hook where
  α := He.Al × Bool
  obs := fun s => obsM n fa fn ex s.heap.get?
  val := fun _ => (He.valE fn, true)
  says := fun _ h => ∃ K : PySem.W.Frag, K.In h ∧ SaysM fa fn ex K
  of := fun _ _ e => ⟨_, He.frG_in, (Prod.mk.inj e).1, (Prod.mk.inj e).2⟩
  keeps := fun _ _ _ ⟨K, hK, c⟩ k => ⟨K, PySem.W.Frag.In.keeps hK k, c⟩
theorem obsM_eq {n : Nat} {fa : List He.Fa} {fn : List He.FnD} {ex : PySem.W.Frag → Bool} {g : Addr → Option Obj} {s : Shared} (h : ∀ a, g a = s.heap.get? a) : obsM n fa fn ex g = (hookM n fa fn ex).obs s := by
  have e : g = s.heap.get? := funext h
  rw [e]
  rfl
end Eng
set_option maxHeartbeats 1000000
/-! The engine, part 30: list(reversed(t)), tuple(reversed(t)), t a tuple. -/
namespace RL
open PySem PySem.Spec PyProof.Rows RT
section
variable {prog : Program} {w : World} {A : Around} {E : Value → Shared → Prop} {s : Shared} {R : Result → Shared → Prop} {it t S : Addr} {items : Array Value}
end
end RL
namespace Eng
open PySem PySem.Spec L2
open PyProof.Rows hiding St
section
variable {X : Cx} {ca : Nat → Addr} {W : WX} {f : ES}
/-- the items of a tuple, reversed -/
def listRvT : O → Option O
  | .val (.tuple ds) => some (.lst ds.reverse)
  | _ => none
def tupRvT : O → Option O
  | .val (.tuple ds) => some (.val (.tuple ds.reverse))
  | _ => none
end
end Eng
/-! The engine, part 31: a thing that a call tells anew, read, and then changed within. -/
namespace Eng
open PySem PySem.Spec L2
open PyProof.Rows hiding St

/-! ### data without lists -/
mutual
def lfD : D → Bool
  | .list _ => false
  | .tuple ds => lfA ds
  | .dict _ => false
  | _ => true
def lfA : List D → Bool
  | [] => true
  | d :: ds => lfD d && lfA ds
end
/-- what is kept of tuples, of the script -/
structure Tk (K : PySem.W.Frag) (H H' : Hp) : Prop where
  t : ∀ a xs, SqT K H a xs → SqT K H' a xs
  f : ∀ a ns, SqS K H a ns → SqS K H' a ns
section
variable {Z Z' : Zs} {K : PySem.W.Frag} {H H' : Hp} {G : Gx}
mutual
theorem Dz.free (k : Tk K H H') : ∀ {d : D} {v : V}, lfD d = true → Dz Z K H d v → Dz Z' K H' d v
  | .none, _, _, h => by cases h; exact .non
  | .bool _, _, _, h => by cases h; exact .bl _
  | .int _, _, _, h => by cases h; exact .int _
  | .str _, _, _, h => by cases h; exact .str _
  | .list _, _, e, h => by simp [lfD] at e
  | .tuple ds, _, e, h => by
    cases h with
    | tup r h => exact .tup (k.t _ _ r) (DzA.free k (by simpa [lfD] using e) h)
  | .dict _, _, e, h => by cases h
theorem DzA.free (k : Tk K H H') : ∀ {ds : List D} {vs : List V}, lfA ds = true → DzA Z K H ds vs → DzA Z' K H' ds vs
  | [], _, _, h => by cases h; exact .nil
  | d :: ds, _, e, h => by
    cases h with
    | cons h t =>
      have e2 : lfD d = true ∧ lfA ds = true := by simpa [lfA] using e
      exact .cons (Dz.free k e2.1 h) (DzA.free k e2.2 t)
end
def lfO : O → Bool
  | .val d => lfD d
  | .scr _ => true
  | .lst ds => lfA ds
  | .set _ => true
  | .dic es => lfA (es.map (·.1)) && lfA (es.map (·.2))
  | _ => false
theorem Ro.free {F : List Addr} {v : V} (k : Tk G.K H H') : ∀ {o : O}, lfO o = true → Ro G Z H o v F → (∀ a ∈ F, ∀ u, H a = some u → H' a = some u) → Ro G Z' H' o v F := by
  intro o e h hf
  cases h with
  | val h => exact .val (h.free k (by simpa [lfO] using e))
  | scr h => exact .scr (k.f _ _ h)
  | set e1 => exact .set (hf _ (by simp) _ e1)
  | lst e1 h => exact .lst (hf _ (by simp) _ e1) (h.free k (by simpa [lfO] using e))
  | dic e1 hk hv nd =>
    rename_i a kvs es
    have e2 : lfA (es.map (·.1)) = true ∧ lfA (es.map (·.2)) = true := by simpa [lfO] using e
    exact .dic (hf _ (by simp) _ e1) (hk.free k e2.1) (hv.free k e2.2) nd
  | dct e1 hx nd ne =>
    rename_i a xs es
    have e2 : lfA (es.map (·.1)) = true ∧ lfA (es.map (·.2)) = true := by simpa [lfO] using e
    have key : ∀ {xs : List (NestedKey × Addr × Value)} {es : List (D × D)}, Paired (NEnt Z G.K H) xs es → lfA (es.map (·.1)) = true → lfA (es.map (·.2)) = true → Paired (NEnt Z' G.K H') xs es := by
      intro xs es p
      induction p with
      | nil => intro _ _; exact .nil
      | cons h t ih =>
        intro a1 a2
        simp only [List.map_cons, lfA, Bool.and_eq_true] at a1 a2
        obtain ⟨h1, h2, h3, w, h4, h5⟩ := h
        exact .cons ⟨h1, h2, h3.free k a1.1, w, h4, h5.free k a2.1⟩ (ih a1.2 a2.2)
    exact .dct (hf _ (by simp) _ e1) (key hx e2.1 e2.2) nd ne
  | ins => simp [lfO] at e
  | exn => simp [lfO] at e
/-- slot by slot -/
theorem RoS.slots : ∀ {ρ : En} {σ : L2.St} {L : List Addr}, RoS G Z H ρ σ L → (∀ (j : Nat) (p : Bool) (o : O) (v : V) (F : List Addr), ρ[j]? = some (some (p, o)) → σ[j]? = some (some v) → Ro G Z H o v F → (∀ a ∈ F, a ∈ L) → Ro G Z' H' o v F) → RoS G Z' H' ρ σ L
  | _, _, _, .emp, _ => .emp
  | _, _, _, .no t, h => .no (RoS.slots t fun j p o v F e1 e2 h1 h2 => h (j + 1) p o v F (by simpa using e1) (by simpa using e2) h1 h2)
  | _, _, _, .yes h1 t, h => .yes (h 0 _ _ _ _ rfl rfl h1 fun a ha => List.mem_append_left _ ha) (RoS.slots t fun j p o v F e1 e2 h1 h2 => h (j + 1) p o v F (by simpa using e1) (by simpa using e2) h1 fun a ha => List.mem_append_right _ (h2 a ha))
end

/-! ### the slots that are known without lists -/
def strip1 : Sl → Sl
  | some (p, .val d) => if lfD d = true then some (p, .val d) else none
  | some (p, .scr ns) => some (p, .scr ns)
  | _ => none
def strip (ρ : En) : En := ρ.map strip1
section
variable {X : Cx} {ca : Nat → Addr} {W : WX} {G : Gx} {f : ES} {mid rest : SS}
variable {θ θ' : Nat → V} {Z Z' Z0 : Zs} {L L' L0 F : List Addr} {H H' H0 : Hp} {σ σ' : L2.St} {ρ ρ' : En} {Dn : Ends}
theorem RoS.strip : ∀ {ρ : En} {σ : L2.St} {L : List Addr}, RoS G Z H ρ σ L → RoS G (fun _ => False) H (Eng.strip ρ) σ []
  | _, _, _, .emp => .emp
  | _, _, _, .no t => .no (RoS.strip t)
  | _, _, _, .yes (p := p) (o := o) h t => by
    have t' := RoS.strip t
    have tk : Tk G.K H H := ⟨fun _ _ h => h, fun _ _ h => h⟩
    show RoS G _ H (strip1 (some (p, o)) :: Eng.strip _) _ []
    cases h with
    | val h =>
      unfold strip1
      simp only
      split
      · rename_i e
        exact .yes (F := []) (.val (h.free tk e)) t'
      · exact .no t'
    | scr h => exact .yes (F := []) (.scr h) t'
    | _ => exact .no t'
theorem strip_get {j : Nat} {p : Bool} {o : O} (e : (Eng.strip ρ)[j]? = some (some (p, o))) : ρ[j]? = some (some (p, o)) := by
  unfold Eng.strip at e
  rw [List.getElem?_map] at e
  cases q : ρ[j]? with
  | none => rw [q] at e; cases e
  | some sl =>
    rw [q] at e
    simp only [Option.map_some, Option.some.injEq] at e
    cases sl with
    | none => cases e
    | some po =>
      obtain ⟨p', o'⟩ := po
      cases o' with
      | val d =>
        simp only [strip1] at e
        split at e
        · exact congrArg some e
        · cases e
      | scr ns => exact congrArg some e
      | _ => cases e
theorem Rep.strip (r : Rep θ G Z H ρ σ L) : Rep θ G (fun _ => False) H (Eng.strip ρ) σ [] :=
  ⟨r.sl.strip, List.nodup_nil, fun _ h => (by cases h), fun _ h => h.elim, fun i o e => r.pn i o (strip_get e)⟩
/-! ### pins -/
def pinsE : List Nat → En → Option En
  | [], ρ => some ρ
  | j :: js, ρ => match ρ[j]? with
    | some (some (_, .val d)) => pinsE js (ρ.set j (some (true, .val d)))
    | _ => none
def unpins : List Nat → SOut → SOut
  | [], o => o
  | j :: js, o => unpS j (unpins js o)
/-! ### a block's first part, then what is told of the rest -/
def PoK (X : Cx) (ca : Nat → Addr) (W : WX) (θ : Nat → V) (Z : Zs) (L : List Addr) (H : Hp) (D : Ends) (K : L2.St → Hp → Prop) (T : En → Zs → List Addr → L2.St → Hp → Prop) : SOut → Prop
  | .nx ρ' => ∀ Z' H' L' σ', Rep θ (gx X ca) Z' H' ρ' σ' L' → Step Z L H Z' L' H' → K σ' H'
  | o => PoS X ca W θ Z L H D o
theorem PoK.step {D : Ends} {K : L2.St → Hp → Prop} {T : En → Zs → List Addr → L2.St → Hp → Prop} {o : SOut} {Z1 : Zs} {L1 : List Addr} {H1 : Hp} (q : PoK X ca W θ Z L H D K T o) (s : Step Z L H Z1 L1 H1) : PoK X ca W θ Z1 L1 H1 D K T o := by
  cases o with
  | nx ρ1 => exact fun Z' H' L' σ' r s' => q Z' H' L' σ' r (s.trans s')
  | stuck => exact (show PoS X ca W θ Z L H D .stuck from q).step s
  | exc c ρ1 => exact (show PoS X ca W θ Z L H D (.exc c ρ1) from q).step s
  | bk ρ1 => exact (show PoS X ca W θ Z L H D (.bk ρ1) from q).step s
  | ct ρ1 => exact (show PoS X ca W θ Z L H D (.ct ρ1) from q).step s
  | rt o ρ1 => exact (show PoS X ca W θ Z L H D (.rt o ρ1) from q).step s
/-! ### thawed -/
/-- what stands is changed at lists of T alone -/
def Chg (T : Zs) (H H' : Hp) : Prop := ∀ a o, H a = some o → ¬ (T a ∧ ∃ xs, o = .lst xs) → H' a = some o
theorem Chg.refl {T : Zs} : Chg T H H := fun _ _ e _ => e
theorem Chg.upd {T : Zs} {l : Addr} {xs : List V} {u : HO} (hl : T l) (e : H l = some (.lst xs)) : Chg T H (upd H l u) := fun a o ea hn => by
  have : a ≠ l := fun q => by
    subst q
    rw [e] at ea
    cases ea
    exact hn ⟨hl, _, rfl⟩
  rw [upd_ne this]
  exact ea
theorem Chg.tk {T : Zs} {K : PySem.W.Frag} (c : Chg T H H') : Tk K H H' where
  t := fun a xs r => by
    rcases r with (r | ⟨o, r⟩) | r
    · exact .inl (.inl (c _ _ r fun ⟨_, xs, e⟩ => by cases e))
    · exact .inl (.inr ⟨o, c _ _ r fun ⟨_, xs, e⟩ => by cases e⟩)
    · exact .inr r
  f := fun a ns r => by
    rcases r with ⟨o, r⟩ | r
    · exact .inl ⟨o, c _ _ r fun ⟨_, xs, e⟩ => by cases e⟩
    · exact .inr r
/-- slots are forgotten -/
def noneE : List Nat → En → En
  | [], ρ => ρ
  | i :: is, ρ => noneE is (ρ.set i none)
theorem Rep.noneE : ∀ {is : List Nat} {ρ : En} {L : List Addr}, Rep θ G Z H ρ σ L → ∃ L', Rep θ G Z H (Eng.noneE is ρ) σ L' ∧ ∀ a ∈ L', a ∈ L
  | [], _, L, r => ⟨L, r, fun _ h => h⟩
  | i :: is, ρ, L, r => by
    unfold Eng.noneE
    have one : ∃ L', Rep θ G Z H (ρ.set i none) σ L' ∧ ∀ a ∈ L', a ∈ L := by
      cases e : ρ[i]? with
      | none => exact ⟨L, by rw [List.set_eq_of_length_le (by rw [List.getElem?_eq_none_iff] at e; exact e)]; exact r, fun _ h => h⟩
      | some sl =>
        cases sl with
        | none =>
          have : ρ.set i none = ρ := by
            apply List.ext_getElem? fun k => ?_
            by_cases q : i = k
            · subst q; rw [List.getElem?_set_self (List.getElem?_eq_some_iff.mp e).1, e]
            · rw [List.getElem?_set_ne q]
          exact ⟨L, by rw [this]; exact r, fun _ h => h⟩
        | some po =>
          obtain ⟨p, o⟩ := po
          obtain ⟨F, L', v, _, _, r', _, _, h, _⟩ := r.lift e
          exact ⟨L', r', fun a ha => (h a).mp (List.mem_append_right _ ha)⟩
    obtain ⟨L1, r1, h1⟩ := one
    obtain ⟨L2, r2, h2⟩ := Rep.noneE (is := is) r1
    exact ⟨L2, r2, fun a ha => h1 a (h2 a ha)⟩
end
end Eng
/-! The engine, part 32: x = f(..), looked at, then changed within (its own lists are new). -/
namespace Eng
open PySem PySem.Spec L2
open PyProof.Rows hiding St

section
variable {X : Cx} {ca : Nat → Addr} {W : WX} {G : Gx} {f : ES} {mid rest : SS}
variable {θ θ' : Nat → V} {Z Z' Z0 : Zs} {L L' L0 F : List Addr} {H H' H0 : Hp} {σ σ' : L2.St} {ρ ρ' : En} {Dn : Ends}
end
end Eng
/-! The engine, part 33: the changing statements: x.clear(); x.append(["a"]), x[0].append("b"); for y in x: y.clear(). -/
namespace Eng
open PySem PySem.Spec L2
open PyProof.Rows hiding St
section
variable {X : Cx} {ca : Nat → Addr} {W : WX} {rest : SS}
/-! ### x.clear() -/
/-! ### x.append([a]); x[0].append(b) -/
/-! ### for y in x: y.clear(); x.clear() -/
end
end Eng
/-! The engine, part 34: f(..).append(y); list(d.values()). -/
namespace Eng
open PySem PySem.Spec L2
open PyProof.Rows hiding St
section
variable {X : Cx} {ca : Nat → Addr} {W : WX} {rest : SS} {f g : ES}
/-! ### f(..).append(y) -/
def oAppT (f g : ES) : ES := fun ρ => (f ρ).bind fun p ρ1 => match p with
  | .tmp (.lst ds) => (g ρ1).bind fun p2 ρ2 => match give ρ2 p2 with
    | some (_, ρ3) => if ds.length < sizeLine then .ok (.tmp (.val .none)) ρ3 else .stuck
    | none => .stuck
  | _ => .stuck
/-! ### list(d.values()) -/
end
end Eng
/-! The engine, part 35: names frozen, names dropped, ahead of statements. -/
namespace Eng
open PySem PySem.Spec L2
open PyProof.Rows hiding St
section
variable {X : Cx} {ca : Nat → Addr} {W : WX} {b : SS} {sts : List Stmt}
def sFrz (j : Nat) (b : SS) : SS := fun ρ => b (frz ρ j)
def sDrp (is : List Nat) (b : SS) : SS := fun ρ => b (dropE is ρ)
end
end Eng
set_option maxHeartbeats 1000000
/-! The engine, part 36: xs * k, xs a list. -/
namespace Eng
open PySem PySem.Spec L2
open PyProof.Rows hiding St
section
variable {X : Cx} {ca : Nat → Addr}
end
end Eng
set_option maxHeartbeats 1000000
/-! The engine, part 37: objects of own classes: fields read and stored. -/
namespace Eng
open PySem PySem.Spec L2
open PyProof.Rows hiding St
def fput (f : Str) (o : O) : List (Str × O) → List (Str × O)
  | [] => [(f, o)]
  | (g, x) :: r => if g = f then (g, o) :: r else (g, x) :: fput f o r
section
variable {G : Gx} {Z Z' : Zs} {H H' : Hp} {m : Str}
theorem look_cons {α : Type} (m n : Str) (x : α) (l : List (Str × α)) : ((n, x) :: l).lookup m = if n = m then some x else l.lookup m := by
  by_cases e : n = m
  · subst e; simp [List.lookup]
  · have : (m == n) = false := by simpa using fun q => e q.symm
    simp [List.lookup, this, e]
theorem RoF.look : ∀ {fs : List (Str × O)} {vs : List (Str × V)} {F : List Addr}, RoF G Z H fs vs F → (fs.lookup m = none → vs.lookup m = none) ∧ ∀ o, fs.lookup m = some o → ∃ v F', vs.lookup m = some v ∧ Ro G Z H o v F' ∧ ∀ a ∈ F', a ∈ F
  | _, _, _, .nil => ⟨fun _ => rfl, fun _ e => by cases e⟩
  | _, _, _, .cons (n := n) (o := o0) (v := v0) (fs := fs) (vs := vs) h t => by
    obtain ⟨i1, i2⟩ := RoF.look t
    rw [look_cons, look_cons]
    by_cases e : n = m
    · rw [if_pos e, if_pos e]
      exact ⟨fun q => (by cases q), fun o q => by cases q; exact ⟨_, _, rfl, h, fun a ha => List.mem_append_left _ ha⟩⟩
    · rw [if_neg e, if_neg e]
      refine ⟨i1, fun o q => ?_⟩
      obtain ⟨v, F', a1, a2, a3⟩ := i2 o q
      exact ⟨v, F', a1, a2, fun a ha => List.mem_append_right _ (a3 a ha)⟩
theorem RoF.length : ∀ {fs : List (Str × O)} {vs : List (Str × V)} {F : List Addr}, RoF G Z H fs vs F → vs.length = fs.length
  | _, _, _, .nil => rfl
  | _, _, _, .cons _ t => by rw [List.length_cons, List.length_cons, RoF.length t]
/-- a field is stored -/
theorem RoF.put {o : O} {y : V} {Fo : List Addr} (kp : Kp Z G.K H Z' H') (ho : Ro G Z' H' o y Fo) : ∀ {fs : List (Str × O)} {vs : List (Str × V)} {F : List Addr}, RoF G Z H fs vs F → (∀ a ∈ F, ∀ u, H a = some u → H' a = some u) →
    ∃ F', RoF G Z' H' (fput m o fs) (putF m y vs) F' ∧ (∀ a ∈ F', a ∈ Fo ∨ a ∈ F) ∧ ((Fo ++ F).Nodup → F'.Nodup)
  | _, _, _, .nil, _ => ⟨Fo ++ [], .cons ho .nil, fun a ha => by simpa using ha, fun nd => by simpa using nd⟩
  | _, _, _, .cons (n := n) (o := o0) (v := v0) (fs := fs) (vs := vs) (F := F1) (F' := F2) h t, hk => by
    show ∃ F', RoF G Z' H' (if n = m then (n, o) :: fs else (n, o0) :: fput m o fs) (if n = m then (n, y) :: vs else (n, v0) :: putF m y vs) F' ∧ _
    by_cases e : n = m
    · rw [if_pos e, if_pos e]
      refine ⟨Fo ++ F2, .cons ho (t.kp kp fun a ha => hk a (List.mem_append_right _ ha)), fun a ha => ?_, fun nd => ?_⟩
      · exact (List.mem_append.mp ha).elim .inl fun q => .inr (List.mem_append_right _ q)
      · have n1 := List.nodup_append.mp nd
        have n2 := List.nodup_append.mp n1.2.1
        exact List.nodup_append.mpr ⟨n1.1, n2.2.1, fun a ha b hb => n1.2.2 a ha b (List.mem_append_right _ hb)⟩
    · rw [if_neg e, if_neg e]
      obtain ⟨F', r, sub, ndp⟩ := RoF.put kp ho t fun a ha => hk a (List.mem_append_right _ ha)
      refine ⟨F1 ++ F', .cons (h.kp kp fun a ha => hk a (List.mem_append_left _ ha)) r, fun a ha => ?_, fun nd => ?_⟩
      · rcases List.mem_append.mp ha with q | q
        · exact .inr (List.mem_append_left _ q)
        · exact (sub a q).elim .inl fun q => .inr (List.mem_append_right _ q)
      · have n1 := List.nodup_append.mp nd
        have n2 := List.nodup_append.mp n1.2.1
        have n3 : (Fo ++ F2).Nodup := List.nodup_append.mpr ⟨n1.1, n2.2.1, fun a ha b hb => n1.2.2 a ha b (List.mem_append_right _ hb)⟩
        refine List.nodup_append.mpr ⟨n2.1, ndp n3, fun a ha b hb q => ?_⟩
        subst q
        rcases sub a hb with q | q
        · exact n1.2.2 a q a (List.mem_append_left _ ha) rfl
        · exact n2.2.2 a ha a q rfl
end
/-- a field that is data -/
def oFld (c i : Nat) (m : Str) : ES := fun ρ => match ρ[i]? with
  | some (some (_, .ins c' fs)) => if c' = c then match fs.lookup m with
      | some (.val d) => .ok (.tmp (.val d)) ρ
      | _ => .stuck
    else .stuck
  | _ => .stuck
/-- a field is stored -/
def sFld (c i : Nat) (m : Str) (g : ES) : SS := fun ρ => (g ρ).bindS fun p ρ1 => match giveUp ρ1 p with
  | some (o, ρ2) => match ρ2[i]? with
    | some (some (b, .ins c' fs)) => if c' = c ∧ fs.length < 900 then .nx (ρ2.set i (some (b, .ins c' (fput m o fs)))) else .stuck
    | _ => .stuck
  | none => .stuck
section
variable {X : Cx} {ca : Nat → Addr} {W : WX} {c i : Nat} {m x : Str} {p pos pos' : Pos} {g : ES} {value : Expr}
end
end Eng
set_option maxHeartbeats 1000000
/-! The engine, part 38: fields stored. -/
namespace Eng
open PySem PySem.Spec L2
open PyProof.Rows hiding St
section
variable {X : Cx} {ca : Nat → Addr} {W : WX} {c i : Nat} {m x : Str} {p pos pos' : Pos} {g : ES} {value : Expr}
variable {θ : Nat → V} {G : Gx} {Z : Zs} {H : Hp} {ρ : En} {σ : L2.St} {L : List Addr}
end
end Eng
set_option maxHeartbeats 1000000
/-! The engine, part 39: methods called. -/
namespace Eng
open PySem PySem.Spec L2
open PyProof.Rows hiding St
section
variable {X : Cx} {ca : Nat → Addr} {W : WX} {as : AS} {θ : Nat → V} {Z : Zs} {L : List Addr} {H : Hp} {σ : L2.St} {ρ : En}
end
/-- a method of a class -/
structure CalleeM (P : Program) (w : World) (K : PySem.W.Frag) (mg : Str → Option Value) (base : Heap) (ca : Nat → Addr) (k c : Nat) (m : Str) (n : Nat) (g : FSem) : Prop where
  ex : ∃ f fd ps, ps.length = n ∧ EFn P w K mg base k f fd ps (spF ⟨P, w, K, ca⟩ n g) ∧ Meth K (ca c) m f ∧ Binds K fd ps []
theorem CalleeM.mono {P : Program} {w : World} {K : PySem.W.Frag} {mg : Str → Option Value} {base : Heap} {ca : Nat → Addr} {j k c : Nat} {m : Str} {n : Nat} {g : FSem} (C : CalleeM P w K mg base ca j c m n g) (h : j ≤ k) : CalleeM P w K mg base ca k c m n g := by
  obtain ⟨f, fd, ps, h1, h2, h3⟩ := C.ex
  exact ⟨f, fd, ps, h1, h2.mono h, h3⟩
/-- a method called on the object in a slot -/
def oMeth (c i : Nat) (m : Str) (fn : FSem) (gs : List ES) : ES := fun ρ => match ρ[i]? with
  | some (some (_, .ins c' fs)) => if c' = c ∧ fs.lookup m = none then oCall fn (oAs (oNm i :: gs)) ρ else .stuck
  | _ => .stuck
section
variable {X : Cx} {ca : Nat → Addr} {W : WX} {c i k n : Nat} {m x : Str} {p pos apos : Pos} {fn : FSem} {gs : List ES} {e : Expr} {es : List Expr}
end
end Eng
set_option maxHeartbeats 1000000
/-! The engine, part 40: objects made. -/
namespace Eng
open PySem PySem.Spec L2
open PyProof.Rows hiding St
/-- a class that can be made without arguments -/
structure CalleeN (P : Program) (w : World) (K : PySem.W.Frag) (mg : Str → Option Value) (base : Heap) (ca : Nat → Addr) (k c : Nat) (g : FSem) : Prop where
  ex : ∃ f fd ps, ps.length = 1 ∧ EFn P w K mg base k f fd ps (spF ⟨P, w, K, ca⟩ 1 g) ∧ Mk K (ca c) f ∧ Binds K fd ps [] ∧ mg (clN c) = some (.ref (ca c))
theorem CalleeN.mono {P : Program} {w : World} {K : PySem.W.Frag} {mg : Str → Option Value} {base : Heap} {ca : Nat → Addr} {j k c : Nat} {g : FSem} (C : CalleeN P w K mg base ca j c g) (h : j ≤ k) : CalleeN P w K mg base ca k c g := by
  obtain ⟨f, fd, ps, h1, h2, h3⟩ := C.ex
  exact ⟨f, fd, ps, h1, h2.mono h, h3⟩
def oMake (c : Nat) (fn : FSem) : ES := fun ρ => match fn [.ins c []] with
  | .ret (.val .none) [x] => .ok (.tmp x) ρ
  | _ => .stuck
section
variable {X : Cx} {ca : Nat → Addr} {W : WX} {c k : Nat} {x : Str} {p pos : Pos} {fn : FSem}
end
end Eng
set_option maxHeartbeats 1000000
/-! The engine, part 41: a field that is a list. -/
namespace Eng
open PySem PySem.Spec L2
open PyProof.Rows hiding St
section
variable {G : Gx} {Z : Zs} {H : Hp} {m : Str} {ds : List D}
end
section
variable {X : Cx} {ca : Nat → Addr} {W : WX} {c i : Nat} {m m2 x : Str} {p p1 p2 pos : Pos} {θ : Nat → V} {G : Gx} {Z : Zs} {H : Hp} {ρ : En} {σ : L2.St} {L : List Addr}
/-! ### rules -/
/-- an operation on a field's thing -/
def oFldU (sem : O → Option O) (c i : Nat) (m : Str) : ES := fun ρ => match ρ[i]? with
  | some (some (_, .ins c' fs)) => if c' = c then match fs.lookup m with
      | some o => put ρ (sem o)
      | none => .stuck
    else .stuck
  | _ => .stuck
/-- self.m.append(self.m2), self.m.pop() -/
def sFldApp (c i : Nat) (m m2 : Str) : SS := fun ρ => match ρ[i]? with
  | some (some (b, .ins c' fs)) => if c' = c then match fs.lookup m, fs.lookup m2 with
      | some (.lst ds), some (.val d) => if ds.length < sizeLine then .nx (ρ.set i (some (b, .ins c' (fput m (.lst (ds ++ [d])) fs)))) else .stuck
      | _, _ => .stuck
    else .stuck
  | _ => .stuck
def oFldPop (c i : Nat) (m : Str) : ES := fun ρ => match ρ[i]? with
  | some (some (b, .ins c' fs)) => if c' = c then match fs.lookup m with
      | some (.lst ds) => match ds[ds.length - 1]? with
        | some d => .ok (.tmp (.val d)) (ρ.set i (some (b, .ins c' (fput m (.lst ds.dropLast) fs))))
        | none => .stuck
      | _ => .stuck
    else .stuck
  | _ => .stuck
end
end Eng
set_option maxHeartbeats 1000000
/-! The engine, part 42: an empty list field as a test; a class's own makers. -/
namespace Eng
open PySem PySem.Spec L2
open PyProof.Rows hiding St
section
variable {X : Cx} {ca : Nat → Addr} {W : WX} {c i : Nat} {m x : Str} {p p1 p2 pos : Pos}
end
end Eng
set_option maxHeartbeats 1000000
/-! The engine, part 43: a method called on the object in an object's only field. -/
namespace Eng
open PySem PySem.Spec L2
open PyProof.Rows hiding St
section
variable {X : Cx} {ca : Nat → Addr} {W : WX} {c c2 i k n : Nat} {m mm x : Str} {p pos apos fpos : Pos} {fn : FSem} {gs : List ES} {e : Expr} {es : List Expr}
end
end Eng
set_option maxHeartbeats 1000000
/-! The engine, part 44: a module's constant that is a tuple of texts. -/
namespace Eng
open PySem PySem.Spec L2
open PyProof.Rows hiding St
end Eng
set_option maxHeartbeats 1000000
/-! The engine, part 45: a def called while an exception is handled. -/
namespace Eng
open PySem PySem.Spec L2
open PyProof.Rows hiding St
structure EFnH (P : Program) (w : World) (K : PySem.W.Frag) (mg : Str → Option Value) (base : Heap) (k : Nat) (f : Addr) (fd : FuncData) (ps : List Str) (sp : Sp) : Prop where
  len : ∀ vs H Q E, sp vs H Q E → vs.length = ps.length
  go : ∀ (A : Around) (outer : List Env) (s : Shared) (H : Hp) (args : Args) (us : List Value) (vs : List V) (Q : VK) (E : XK), A.guards = some [] → L2H.RoomH k A → Env0 P w K mg base A outer s H → BindsTo s fd args (ps.zip us) → Vals vs us → sp vs H Q E →
    codeAny (model P w) A (.call (.ref f) args) (CR (L2.CX P w) outer P w H s Q E) s
theorem EFnH.mono {P : Program} {w : World} {K : PySem.W.Frag} {mg : Str → Option Value} {base : Heap} {j k : Nat} {f : Addr} {fd : FuncData} {ps : List Str} {sp : Sp} (F : EFnH P w K mg base j f fd ps sp) (h : j ≤ k) : EFnH P w K mg base k f fd ps sp :=
  ⟨F.len, fun A outer s H args us vs Q E hg hr => F.go A outer s H args us vs Q E hg (hr.mono h)⟩
section
variable {X : Cx} {k : Nat} {f : Addr} {fd : FuncData} {ps : List Str} {sp : Sp} {x : Str} {p pos : Pos} {e : Expr} {es : List Expr} {t : TA} {W : WX}
end
structure CalleeH (P : Program) (w : World) (K : PySem.W.Frag) (mg : Str → Option Value) (base : Heap) (ca : Nat → Addr) (k : Nat) (x : Str) (n : Nat) (g : FSem) : Prop where
  ex : ∃ f fd ps, ps.length = n ∧ EFnH P w K mg base k f fd ps (spF ⟨P, w, K, ca⟩ n g) ∧ mg x = some (.ref f) ∧ PySem.W.keepIn K (.ref f) = true ∧ Binds K fd ps []
theorem CalleeH.mono {P : Program} {w : World} {K : PySem.W.Frag} {mg : Str → Option Value} {base : Heap} {ca : Nat → Addr} {j k : Nat} {x : Str} {n : Nat} {g : FSem} (c : CalleeH P w K mg base ca j x n g) (h : j ≤ k) : CalleeH P w K mg base ca k x n g := by
  obtain ⟨f, fd, ps, h1, h2, h3⟩ := c.ex
  exact ⟨f, fd, ps, h1, h2.mono h, h3⟩
section
variable {X : Cx} {ca : Nat → Addr} {W : WX} {p pos : Pos} {e : Expr} {es : List Expr} {k : Nat} {x : Str}
end
end Eng
set_option maxHeartbeats 1000000
/-! The engine, part 46: xs[:1:-1]. -/
namespace Eng
open PySem PySem.Spec L2
open PyProof.Rows hiding St
section
variable {X : Cx} {ca : Nat → Addr} {W : WX} {f : ES}
end
end Eng
set_option maxHeartbeats 1000000
/-! The engine, part 47: a list comprehension that lets an exception out. -/
namespace Eng
open PySem PySem.Spec L2
open PyProof.Rows hiding St
section
variable {M : Model} {A : Around} {E : Value → Shared → Prop} {s : Shared}
end
/-! ### heaps but for one thing -/
section
variable {X : Cx} {pins : List (Addr × Obj)} {σ : L2.St} {H3 : Hp} {s3 : Shared} {scope : Scope} {cl : List (Str × Addr)} {fp : List Addr} {Q : Value → Shared → Prop} {D : Addr} {Wo : WX}
end
end Eng
set_option maxHeartbeats 1000000
/-! The engine, part 48: the comprehension's walk, with exceptions. -/
namespace Eng
open PySem PySem.Spec L2
open PyProof.Rows hiding St
section
variable {X : Cx}
end
end Eng
set_option maxHeartbeats 1000000
/-! The engine, part 49: list comprehensions whose element may raise. -/
namespace Eng
open PySem PySem.Spec L2
open PyProof.Rows hiding St
section
variable {X : Cx} {ca : Nat → Addr} {W : WX} {f g : ES} {as : AS} {G : Gx} {b : SS} {t : TS'} {it : IS}
variable {θ θ' : Nat → V} {Z Z1 Z0 Z' : Zs} {L L1 L0 L' F F0 : List Addr} {H H1 H0 H' : Hp} {σ σ' : L2.St} {ρ ρ1 ρ' : En} {Dn : Ends}
end
end Eng
set_option maxHeartbeats 3200000
/-! The engine, part 50: sorted(set(xs)), xs a list of ints. -/
namespace Eng
open PySem PySem.Spec L2
open PyProof.Rows hiding St
theorem int_at' : ∀ {us : List Value} {xs : List Int}, IntsAre us xs → ∀ {i : Nat} {v : Value}, us[i]? = some v → ∃ k t, xs[i]? = some k ∧ v = .int k t
  | _, _, .nil, _, _, h => by simp at h
  | _, _, .cons n t r, 0, v, h => by
    simp only [List.getElem?_cons_zero, Option.some.injEq] at h
    exact ⟨n, t, rfl, h.symm⟩
  | _, _, .cons n t r, i + 1, v, h => int_at' r (i := i) (by simpa using h)
section
variable {P : Program} {w : World} {A : Around} {E : Value → Shared → Prop} {s : Shared}
theorem call_set_listI {l : Addr} {items : Array Value} (ns : List Int) {Q : Value → Shared → Prop} (hh : A.handled = none) (hl : s.heap.IsList l items) (hi : IntsAre items.toList ns) (hb : ns.length + 1 < scanBound)
    (h : ∀ (h' : Heap) (tk c : Nat), SetR w h' s.heap.objs.size (fun j => decide (j ∈ ns)) c → c ≤ ns.length → (∀ b o, s.heap.get? b = some o → h'.get? b = some o) → Q (.ref s.heap.objs.size) { s with heap := h', toks := tk }) :
    wpAny (model P w) A (call (.type "set") [.ref l]) Q E s := by
  have size : items.size = ns.length := by rw [← Array.length_toList]; exact IntsAre.length hi
  obtain ⟨c, tl, hmro⟩ := F.called_set.mro
  have hmade := F.called_set.made
  have hsub := F.called_set.sub
  refine wpAny_call (codeAny_of_tree ?_)
  show wpAny _ _ (callAny (.type "set") _) _ _ _
  refine wpAny_pure ⟨Code.quiet_builtin _ (by decide +kernel), codeAny_builtin F.entry_type_call ?_⟩
  rw [Around.under_plain (weight_type_call_type "set" [.ref l] []) rfl]
  have h1 := F.called_set.notType
  have h2 := F.called_set.canCreate
  have hct := F.typeCall_set_1 (.ref l)
  repeat (any_goals (first | assumption | wp_step))
  refine codeAny_mono (new_set (.ref l) (E := E) (Q₁ := fun obj s₁ => obj = .ref s.heap.objs.size ∧ s₁ = { s with heap := s.heap.push (noSet w) }) ⟨rfl, rfl⟩) fun r s₁ hr => ?_
  cases r with
  | error e => exact hr
  | ok fl =>
    cases fl with
    | ret obj =>
      obtain ⟨rfl, rfl⟩ := hr
      have at0 : (s.heap.push (noSet w)).get? s.heap.objs.size = some (noSet w) := Heap.get?_push_size _ rfl
      have ty : Shared.TypeIs { s with heap := s.heap.push (noSet w) } (.ref s.heap.objs.size) "set" := ⟨_, at0, rfl⟩
      have hli := F.called_set.init.lookup
      have hbi := F.called_set.init.bind (.ref s.heap.objs.size)
      repeat (any_goals (first | assumption | wp_step))
      refine codeAny_mono (codeAny_call_builtin (R := wants (fun r s₂ => r = .none ∧ ∃ h' tk c, s₂ = { s with heap := h', toks := tk } ∧ SetR w h' s.heap.objs.size (fun j => decide (j ∈ ns)) c ∧ c ≤ ns.length ∧ ∀ b o, s.heap.get? b = some o → h'.get? b = some o) E)
        F.called_set.init.plain F.entry_set_init (check_set_init_1 ty ?_)) fun r₂ s₂ hr₂ => ?_
      · obtain ⟨⟨ocls, odict, odata, oslots⟩, hol, hcl, nl, hdl⟩ := hl
        simp only at hcl hdl
        subst hcl
        subst hdl
        have hol' := Heap.get?_push_of_some (h := s.heap) (noSet w) hol
        have hsls := F.sub_list_set
        have hslf := F.sub_list_frozenset
        have hne : (Value.type "list" == Value.type "dict") = false := by decide
        have hl1 : (s.heap.push (noSet w)).IsList l items := ⟨_, hol', rfl, nl, rfl⟩
        unfold Builtin.«set.__init__» noKeywords Builtin.Frozenset.updateFrom
        generalize hPI : pyIter = PI
        wp_walk
        subst hPI
        refine wpAny_pyIter_list hl1 (wpAny_bind (wpAny_runValue ?_))
        have old : l < s.heap.objs.size := Heap.lt_size hol
        have top : (s.heap.push (noSet w)).objs.size = s.heap.objs.size + 1 := Heap.size_push ..
        have hh3 : A.in1.in1.in1.handled = none := by simp [hh]
        have part : l ≠ (s.heap.push (noSet w)).objs.size := by rw [top]; exact Nat.ne_of_lt (Nat.lt_succ_of_lt old)
        have apart : s.heap.objs.size ∉ [(s.heap.push (noSet w)).objs.size, l] := by
          rw [top]
          intro hm
          rcases List.mem_cons.mp hm with q | q
          · exact Nat.ne_of_lt (Nat.lt_succ_self _) q
          · exact Nat.ne_of_gt old (List.mem_singleton.mp q)
        refine set_update_ints ((Walks.list hh3 _ l part items).toS) s.heap.objs.size apart ns size hb (fun i v hv => int_at' hi (by rw [Array.getElem?_toList]; exact hv)) (items.size - 0) 0 _ (by omega) (Nat.zero_le _) ⟨⟨_, Heap.get?_push_size _ rfl, rfl, rfl⟩, hl1.push _⟩ ?zero ?last
        case zero => exact ⟨0, Nat.le_refl 0, setR_new_at (Heap.get?_push_of_some _ at0)⟩
        case last =>
          intro s' c' m hc' x
          obtain ⟨h', g', d', tk', os'⟩ := s'
          obtain rfl : g' = s.gens := m.gens
          obtain rfl : d' = s.drawn := m.drawn
          obtain rfl : os' = s.os := m.os
          refine wpAny_pure (wpAny_pure ⟨rfl, h', tk', c', rfl, x, by rw [← size]; exact hc', fun b o e => ?_⟩)
          have lt := Heap.lt_size e
          refine m.heap b o (fun hm => ?_) (Heap.get?_push_of_some _ (Heap.get?_push_of_some _ e))
          rcases List.mem_cons.mp hm with q | q
          · exact Nat.ne_of_lt lt q
          · rw [List.mem_singleton, top] at q
            exact Nat.ne_of_lt (Nat.lt_succ_of_lt lt) q
      · cases r₂ with
        | error e => exact hr₂
        | ok fl₂ =>
          cases fl₂ with
          | ret r =>
            obtain ⟨rfl, h', tk, c', rfl, x, hc', keep⟩ := hr₂
            repeat (any_goals (first | assumption | wp_step))
            exact h _ _ _ x hc' keep
          | _ => exact hr₂.elim
    | _ => exact hr.elim

end
/-- the ints met, in order, each once -/
def leI (a b : Int) : Bool := decide (a ≤ b)
def ddI : List Int → List Int
  | [] => []
  | x :: xs => if x ∈ ddI xs then ddI xs else x :: ddI xs
theorem ddI_mem (k : Int) : ∀ ns : List Int, k ∈ ddI ns ↔ k ∈ ns
  | [] => Iff.rfl
  | x :: xs => by
    have ih := ddI_mem k xs
    unfold ddI
    split
    · rename_i h
      rw [ih, List.mem_cons]
      constructor
      · exact .inr
      · rintro (rfl | q)
        · exact ih.mp h
        · exact q
    · rw [List.mem_cons, List.mem_cons, ih]
theorem ddI_nodup : ∀ ns : List Int, (ddI ns).Nodup
  | [] => List.nodup_nil
  | x :: xs => by
    unfold ddI
    split
    · exact ddI_nodup xs
    · rename_i h
      exact List.nodup_cons.mpr ⟨h, ddI_nodup xs⟩
def sI (ns : List Int) : List Int := (ddI ns).mergeSort leI
theorem sI_mem (ns : List Int) (k : Int) : k ∈ sI ns ↔ k ∈ ns := by
  unfold sI
  rw [List.mem_mergeSort, ddI_mem]
theorem leI_pw (l : List Int) : (l.mergeSort leI).Pairwise (fun a b => a ≤ b) := by
  have := List.pairwise_mergeSort (le := leI) (fun a b c h1 h2 => by unfold leI at *; simp at *; omega) (fun a b => by unfold leI; simp; omega) l
  exact this.imp fun h => by unfold leI at h; simpa using h
theorem sI_eq {ns xs : List Int} (h : xs.Pairwise (· < ·)) (hm : ∀ k : Int, k ∈ xs ↔ k ∈ ns) : xs = sI ns := by
  have nd : xs.Nodup := h.imp fun q => by omega
  have nd2 : (sI ns).Nodup := (List.mergeSort_perm _ _).nodup_iff.mpr (ddI_nodup _)
  refine one_order (le := fun a b : Int => a ≤ b) (fun a b h1 h2 => by omega) ((List.perm_ext_iff_of_nodup nd nd2).mpr fun k => by rw [hm, sI_mem]) (h.imp fun q => by omega) (leI_pw _)
def asInts50 : List D → Option (List Int)
  | [] => some []
  | .int b :: ds => (asInts50 ds).map (b :: ·)
  | _ :: _ => none
theorem asInts50_eq : ∀ {ds : List D} {bs : List Int}, asInts50 ds = some bs → ds = bs.map PyData.int
  | [], bs, e => by simp only [asInts50, Option.some.injEq] at e; subst e; rfl
  | .int b :: ds, bs, e => by
    simp only [asInts50, Option.map_eq_some_iff] at e
    obtain ⟨cs, e1, rfl⟩ := e
    rw [asInts50_eq e1]; rfl
  | .none :: _, _, e => by cases e
  | .bool _ :: _, _, e => by cases e
  | .str _ :: _, _, e => by cases e
  | .list _ :: _, _, e => by cases e
  | .tuple _ :: _, _, e => by cases e
  | .dict _ :: _, _, e => by cases e
/-- sorted(set(xs)) -/
def sortSetI (o : O) : Option O := match o with
  | .lst ds => (asInts50 ds).bind fun ns => if ns.length < 63 then some (.lst ((sI ns).map .int)) else none
  | _ => none
section
variable {X : Cx} {ca : Nat → Addr} {W : WX} {f : ES}
def rSetLI (K : PySem.W.Frag) (w : World) : List V → Hp → VK → Prop := fun vs H Q => ∃ (l : Addr) (ns : List Int), vs = [V.ref l] ∧ SqL K H l (ns.map V.int) ∧ ns.length + 1 < scanBound ∧ ∀ a c, H a = none → c ≤ ns.length → Q (.ref a) (upd H a (SetO w a (fun j => decide (j ∈ ns)) c))
theorem cr_setLI (hc : X.calm = true) : CallR X (.type "set") (rSetLI X.K X.w) := by
  intro pins s σ H xs us Q I r h
  obtain ⟨l, ns, rfl, hl, hb, q⟩ := h
  rw [Vals.ref1 r]
  obtain ⟨its, rv, pl, hz⟩ := I.list hl
  have hn : H s.heap.objs.size = none := I.hok.fresh (Nat.le_refl _)
  exact call_set_listI ns (I.ok.hd hc) pl.isList (ints_of_vals rv) hb fun h' tk c R hcn k =>
    ⟨.ref s.heap.objs.size, _, I.laid (t' := tk) k (Nat.le_refl _) (setO_new R), rfl, q _ c hn hcn⟩
theorem se_sortSetI {e : Expr} {p p2 pos q2 : Pos} (hc : X.calm = true) (B : Blt X.mg) (hg : Gl X "sorted") (hg2 : Gl X "set") (hs : notStar e = true) (he : PE X e (RdE X ca W f)) :
    PE X (.Call (.Name "sorted" p) [.Call (.Name "set" p2) [e] [] q2] [] pos) (RdE X ca W (o1 sortSetI f)) := by
  have h1 : PE X (.Call (.Name "set" p2) [e] [] q2) _ := pe_callTy (cr_setLI hc) hg2 B.set bb_set (pa_cons he pa_nil (star_cons hs)) (by decide) (by decide) (star_cons hs) (star_plain (by rfl))
  refine PE.imp (pe_callB (cr_sortedSet hc) hg B.sorted bb_sorted (pa_cons h1 pa_nil (star_cons rfl)) (by decide) (by decide) (star_cons rfl) (star_plain (by rfl))) fun σ H Q q => (rd_o1 q).mono fun v H1 h => ?_
  obtain ⟨Z, a, o, zd, ha, e1, q⟩ := rsem1 h
  cases a with
  | lst ds =>
    simp only [sortSetI] at e1
    cases e2 : asInts50 ds with
    | none => rw [e2] at e1; cases e1
    | some ns =>
      rw [e2] at e1
      simp only [Option.bind_some] at e1
      split at e1
      · rename_i hb
        cases e1
        obtain ⟨F, ha⟩ := ha
        cases ha with
        | lst e3 hd =>
        rename_i l xs
        rw [asInts50_eq e2] at hd
        have hx := hd.ints
        subst hx
        have hs2 : SqL X.K H1 l (ns.map V.int) := .inl (.inl e3)
        refine ⟨l, ns, rfl, hs2, by unfold scanBound; omega, fun a c ha0 hcn => ⟨a, _, c, rfl, upd_same, by omega, fun out p hp hm _ hpn => ?_⟩⟩
        have eo : out = sI ns := sI_eq hp fun k => by rw [hm k, decide_eq_true_eq]
        subst eo
        have pa : p ≠ a := fun z => by rw [z, upd_same] at hpn; cases hpn
        have hp0 : H1 p = none := by rw [upd_ne pa] at hpn; exact hpn
        have same : Same H1 (upd (upd H1 a (SetO X.w a (fun j => decide (j ∈ ns)) c)) p (.lst ((sI ns).map V.int))) := (same_new ha0).trans (same_new hpn)
        refine q _ _ [p] ⟨same, .lst upd_same (dzA_ints _), by simp, fun b hb => ?_⟩
        rw [List.mem_singleton] at hb
        rw [hb]
        exact hp0
      · cases e1
  | _ => cases e1
end
end Eng
/-! The readings of the program's and the laws' defs (printed by wip/gen.py). -/
namespace Eng
open PySem PySem.Spec L2
open PyProof.Rows hiding St
/-- stem_of(word): 0 word -/
noncomputable def b_stem_of : SS :=
  (sRet (o2 ixS (oM1 splitS (oNm 0) (oC (.str "/"))) (oC (.int 0))))
noncomputable def f_stem_of : FSem := runF 1 b_stem_of
/-- _law_mix(_law_cell_here, _law_k): 0 _law_cell_here 1 _law_k 2 _law_by -/
noncomputable def b_l_mix : SS :=
  (sSeq (sAsg 2 (o2 addS (o2 addS (o2 mulS (o2 addS (o2 modS (oNm 0) (o2 powS (oC (.int 10)) (oC (.int 15)))) (oC (.int 1))) (oC (.int 48271))) (o2 mulS (o2 mulS (oNm 1) (oNm 1)) (oC (.int 16807)))) (o2 mulS (oNm 1) (oC (.int 7919)))))
  (sRet (o2 modS (o2 mulS (o2 modS (oNm 2) (oC (.int 2147483647))) (oC (.int 69621))) (oC (.int 2147483629)))))
noncomputable def f_l_mix : FSem := runF 3 b_l_mix
/-- _law_cell(_law_script, _law_k): 0 _law_script 1 _law_k 2 _law_seed -/
noncomputable def b_l_cell : SS :=
  (sSeq (sIf (tV (o2 ltS (oNm 1) (o1 lenS (oNm 0))))
    (sRet (o2 ixS (oNm 0) (oNm 1)))
    sNil)
  (sSeq (sAsg 2 (oC (.int 0)))
  (sSeq (sIf (tV (o2 gtS (o1 lenS (oNm 0)) (oC (.int 0))))
    (sAsg 2 (o2 ixS (oNm 0) (o2 modS (oNm 1) (o1 lenS (oNm 0)))))
    sNil)
  (sRet (o2 addS (o2 mulS (oC (.int 2)) (oCall f_l_mix (oAs [oNm 2, oNm 1]))) (oC (.int 1)))))))
noncomputable def f_l_cell : FSem := runF 3 b_l_cell
/-- _law_drawn(_law_cell_here, _law_many): 0 _law_cell_here 1 _law_many 2 _law_found 3 _law_left 4 _law_k -/
noncomputable def w_l_drawn_1 : SS :=
  (sIf (tV (o2 eqS (o2 modS (oNm 0) (oC (.int 2))) (oC (.int 0))))
      (sSeq (sExpr (oMutA appS 2 (oAs [o2 modS (oNm 3) (oC (.int 64))])))
      (sAsg 3 (o2 fdivS (oNm 3) (oC (.int 64)))))
      (sExpr (oMutA appS 2 (oAs [o2 modS (o2 fdivS (oCall f_l_mix (oAs [oNm 0, oNm 4])) (oC (.int 7))) (oC (.int 4096))]))))
noncomputable def b_l_drawn : SS :=
  (sSeq (sAsg 2 (oLst (oAs [])))
  (sSeq (sAsg 3 (o2 fdivS (oNm 0) (oC (.int 2))))
  (sSeq (sFor (iRng1 (oAs [oNm 1])) (.nm 4) [4]
    w_l_drawn_1)
  (sRet (oNm 2)))))
noncomputable def f_l_drawn : FSem := runF 5 b_l_drawn
/-- alike(row, other): 0 row 1 other -/
noncomputable def b_alike : SS :=
  (sRet (oAnd (o2 eqS (o2 ixS (oNm 0) (oC (.int 0))) (o2 ixS (oNm 1) (oC (.int 0)))) (o2 eqS (o1 sortS (o2 ixS (oNm 0) (oC (.int 1)))) (o1 sortS (o2 ixS (oNm 1) (oC (.int 1)))))))
noncomputable def f_alike : FSem := runF 2 b_alike
/-- words_of(book): 0 book 1 met 2 word 3 told 4 one -/
noncomputable def w_words_of_2 : SS :=
  (sPut 1 (oNm 4) (oC (.bool true)))
noncomputable def w_words_of_1 : SS :=
  (sSeq (sPut 1 (oNm 2) (oC (.bool true)))
    (sFor (iSeq (oNm 3)) (.nm 4) [4]
      w_words_of_2))
noncomputable def b_words_of : SS :=
  (sSeq (sAsg 1 (oDic0))
  (sSeq (sFor (iSeq (oNm 0)) (.tup [2, 3]) [2, 3, 4]
    w_words_of_1)
  (sRet (o1 sortS (oNm 1)))))
noncomputable def f_words_of : FSem := runF 5 b_words_of
/-- fresh_name(word, met): 0 word 1 met 2 number 3 name -/
noncomputable def w_fresh_name_1 : SS :=
  (sSeq (sAsg 3 (o2 addS (o2 addS (oCall f_stem_of (oAs [oNm 0])) (oC (.str "/"))) (o1 strS (oNm 2))))
    (sIf (tV (o2 notinS (oNm 3) (oNm 1)))
      (sRet (oNm 3))
      sNil))
noncomputable def b_fresh_name : SS :=
  (sSeq (sFor (iRng2 (oAs [oC (.int 2), o2 addS (oC (.int 99)) (oC (.int 1))])) (.nm 2) [2, 3]
    w_fresh_name_1)
  (sRaise 5))
noncomputable def f_fresh_name : FSem := runF 4 b_fresh_name
/-- new_names(one, other, same): 0 one 1 other 2 same 3 mine 4 theirs 5 met 6 word 7 found 8 name -/
noncomputable def w_new_names_1 : SS :=
  (sPut 5 (oNm 6) (oC (.bool true)))
noncomputable def w_new_names_2 : SS :=
  (sSeq (sAsg 8 (oNm 6))
    (sSeq (sIf (tAndC (tV (o2 inS (oNm 6) (oNm 3))) (tV (o2 notinS (oNm 6) (oNm 2))))
      (sSeq (sAsg 8 (oCall f_fresh_name (oAs [oNm 6, oNm 5])))
      (sPut 5 (oNm 8) (oC (.bool true))))
      sNil)
    (sExpr (oMutA appS 7 (oAs [oTup (oAs [oNm 6, oNm 8])])))))
noncomputable def b_new_names : SS :=
  (sSeq (sAsg 3 (oCall f_words_of (oAs [oNm 0])))
  (sSeq (sAsg 4 (oCall f_words_of (oAs [oNm 1])))
  (sSeq (sAsg 5 (oDic0))
  (sSeq (sFor (iSeq (o2 addS (oNm 3) (oNm 4))) (.nm 6) [6]
    w_new_names_1)
  (sSeq (sAsg 7 (oLst (oAs [])))
  (sSeq (sFor (iSeq (oNm 4)) (.nm 6) [6, 8]
    w_new_names_2)
  (sRet (oNm 7))))))))
noncomputable def f_new_names : FSem := runF 9 b_new_names
/-- _law_picked(_law_words, _law_begin, _law_step, _law_many): 0 _law_words 1 _law_begin 2 _law_step 3 _law_many 4 _law_rows 5 _law_k 6 _law_at -/
noncomputable def w_l_picked_1 : SS :=
  (sSeq (sAsg 6 (o2 modS (o2 addS (oNm 1) (o2 mulS (oNm 2) (oNm 5))) (oC (.int 64))))
    (sExpr (oMutA appS 4 (oAs [oTup (oAs [o2 ixS (oNm 0) (o2 modS (oNm 6) (oC (.int 8))), oTup (oAs [o2 ixS (oNm 0) (o2 fdivS (oNm 6) (oC (.int 8)))])])]))))
noncomputable def b_l_picked : SS :=
  (sSeq (sAsg 4 (oLst (oAs [])))
  (sSeq (sFor (iRng1 (oAs [oNm 3])) (.nm 5) [5, 6]
    w_l_picked_1)
  (sRet (o1 tupleS (oNm 4)))))
noncomputable def f_l_picked : FSem := runF 7 b_l_picked
end Eng
/-! The readings of the program's and the laws' defs (printed by wip/gen.py). -/
namespace Eng
open PySem PySem.Spec L2
open PyProof.Rows hiding St
end Eng
/-! The readings of the program's and the laws' defs (printed by wip/gen.py). -/
namespace Eng
open PySem PySem.Spec L2
open PyProof.Rows hiding St
/-- laid(one, other, same): 0 one 1 other 2 same 3 names 4 rows 5 word 6 told 7 row 8 each 9 there -/
noncomputable def c_laid_1 : ES :=
  oLc (iSeq (oNm 6)) (.nm 8) (tTrue) (o2 ixS (oNm 3) (oNm 8)) [8]
noncomputable def c_laid_2 : ES :=
  oLc (iSeq (oNm 4)) (.nm 9) (tTrue) (oCall f_alike (oAs [oNm 7, oNm 9])) [9]
noncomputable def w_laid_1 : SS :=
  (sSeq (sAsg 7 (oTup (oAs [o2 ixS (oNm 3) (oNm 5), o1 tupleS (c_laid_1)])))
    (sIf (tNotC (tV (o1 anyS (c_laid_2))))
      (sExpr (oMutA appS 4 (oAs [oNm 7])))
      sNil))
noncomputable def b_laid : SS :=
  (sSeq (sAsg 3 (o1 dictS (oCall f_new_names (oAs [oNm 0, oNm 1, oNm 2]))))
  (sSeq (sAsg 4 (o1 listS (oNm 0)))
  (sSeq (sFor (iSeq (oNm 1)) (.tup [5, 6]) [5, 6, 7]
    w_laid_1)
  (sSeq (sIf (tV (o2 gtS (o1 lenS (oNm 4)) (oC (.int 60))))
    (sRaise 5)
    sNil)
  (sRet (o1 tupleS (oNm 4)))))))
noncomputable def f_laid : FSem := runF 10 b_laid
/-- _law_tried(_law_way, _law_one, _law_other, _law_same): 0 _law_way 1 _law_one 2 _law_other 3 _law_same 4 _law_told 5 e 6 _law_others -/
noncomputable def b_l_tried_2 : SS :=
  (sSeq (sAsg 4 (oTup (oAs [oC .none, oLst (oAs [])])))
  (sSeq (sTry [0, 1, 2, 3, 4, 5, 6, 7, 8] 0 5
    (sIf (tV (o2 eqS (oNm 0) (oC (.int 0))))
      (sAsg 4 (oTup (oAs [oCall f_laid (oAs [oNm 1, oNm 2, oNm 3]), oLst (oAs [])])))
      (sAsg 4 (oTup (oAs [oCall f_new_names (oAs [oNm 1, oNm 2, oNm 3]), oLst (oAs [])]))))
    (sSeq (sAsg 6 (o1 (isxT [0, 1, 2, 3, 4, 5, 6, 7, 8] [6, 8, 7, 1, 2, 3, 4]) (oNm 5)))
    (sAsg 4 (oTup (oAs [oC .none, oLst (oAs [o1 (isxS [0, 1, 2, 3, 4, 5, 6, 7, 8] 5) (oNm 5), o1 (isvS [0, 1, 2, 3, 4, 5, 6, 7, 8]) (oNm 5), oNm 6])])))))
  (sRet (oNm 4))))
noncomputable def f_l_tried_2 : FSem := runF 7 b_l_tried_2
/-- _law_over_full(_law_one, _law_words, _law_number): 0 _law_one 1 _law_words 2 _law_number 3 _law_wide 4 _law_other 5 _law_word -/
noncomputable def c_l_over_full_2_1 : ES :=
  oLc (iSeq (oSl (oNm 1) oNoPart (oPart (o2 addS (oC (.int 1)) (o2 modS (oNm 2) (o1 lenS (oNm 1))))))) (.nm 5) (tTrue) (oTup (oAs [oNm 5, oTup (oAs [])])) [5]
noncomputable def w_l_over_full_2_1 : SS :=
  (sIf (tV (o2 neS (oCall f_l_tried_2 (oAs [oC (.int 0), oNm 3, oNm 4, oNm 1])) (oTup (oAs [oC .none, oLst (oAs [oC (.bool true), oC (.bool true), oC (.bool false)])]))))
      (sRet (oC (.bool false)))
      sNil)
noncomputable def b_l_over_full_2 : SS :=
  (sSeq (sAsg 3 (o2 addS (oNm 0) (o1 tupleS (c_l_over_full_2_1))))
  (sSeq (sFor (iSeq (oLst (oAs [oTup (oAs []), oSl (oNm 0) oNoPart (oPart (o2 modS (oNm 2) (oC (.int 7)))), oNm 3]))) (.nm 4) [4]
    w_l_over_full_2_1)
  (sRet (o2 eqS (oCall f_l_tried_2 (oAs [oC (.int 1), oNm 3, oSl (oNm 0) oNoPart (oPart (oC (.int 2))), oNm 1])) (oTup (oAs [o2 ixS (oCall f_l_tried_2 (oAs [oC (.int 1), oNm 0, oSl (oNm 0) oNoPart (oPart (oC (.int 2))), oNm 1])) (oC (.int 0)), oLst (oAs [])]))))))
noncomputable def f_l_over_full_2 : FSem := runF 6 b_l_over_full_2
/-- _law_full(_law_script): 0 _law_script 1 _law_drawn_here 2 _law_letters 3 _law_words 4 _law_many 5 _law_more 6 _law_one 7 _law_other 8 _law_same 9 _law_mine 10 _law_given 11 _law_word 12 _law_rows 13 _law_some 14 _law_found 15 _law_row 16 _law_k -/
noncomputable def c_l_full_2_1 : ES :=
  oLc (iRng1 (oAs [oC (.int 8)])) (.nm 16) (tTrue) (o2 ixS (oNm 2) (o2 addS (o2 modS (o2 ixS (oNm 1) (oC (.int 0))) (oC (.int 19))) (oNm 16))) [16]
noncomputable def c_l_full_2_2 : ES :=
  oLc (iRng1 (oAs [oC (.int 8)])) (.nm 16) (tOrC (tV (o2 eqS (o2 modS (o2 ixS (oNm 1) (o2 addS (oC (.int 9)) (oNm 16))) (oC (.int 2))) (oC (.int 0)))) (tV (o2 eqS (o2 modS (o2 ixS (oNm 1) (oC (.int 17))) (oC (.int 3))) (oC (.int 1))))) (o2 ixS (oNm 3) (oNm 16)) [16]
noncomputable def c_l_full_2_3 : ES :=
  oLc (iSeq (oNm 6)) (.nm 15) (tTrue) (o2 ixS (oNm 15) (oC (.int 0))) [15]
noncomputable def c_l_full_2_4 : ES :=
  oLc (iSeq (oNm 6)) (.nm 15) (tTrue) (o2 ixS (o2 ixS (oNm 15) (oC (.int 1))) (oC (.int 0))) [15]
noncomputable def w_l_full_2_1 : SS :=
  (sSeq (sPut 10 (oNm 11) (oNm 11))
    (sIf (tAndC (tV (o2 inS (oNm 11) (oNm 9))) (tV (o2 notinS (oNm 11) (oNm 8))))
      (sPut 10 (oNm 11) (o2 addS (oNm 11) (oC (.str "/2"))))
      sNil))
noncomputable def w_l_full_2_2 : SS :=
  (sSeq (sAsg 15 (oTup (oAs [o2 ixS (oNm 10) (oNm 11), oTup (oAs [o2 ixS (oNm 10) (o2 ixS (oNm 13) (oC (.int 0)))])])))
    (sIf (tV (o2 notinS (oNm 15) (oNm 12)))
      (sExpr (oMutA appS 12 (oAs [oNm 15])))
      sNil))
noncomputable def b_l_full_2 : SS :=
  (sSeq (sAsg 1 (oCall f_l_drawn (oAs [oCall f_l_cell (oAs [oNm 0, oC (.int 0)]), oC (.int 20)])))
  (sSeq (sAsg 2 (oC (.str "abcdefghijklmnopqrstuvwxyz")))
  (sSeq (sAsg 3 (c_l_full_2_1))
  (sSeq (sAsg 4 (o2 ixS (oLst (oAs [oC (.int 60), oC (.int 59), oC (.int 58), oC (.int 30), o2 modS (o2 ixS (oNm 1) (oC (.int 1))) (oC (.int 61))])) (o2 modS (o2 ixS (oNm 1) (oC (.int 2))) (oC (.int 5)))))
  (sSeq (sAsg 5 (o2 minS (oC (.int 60)) (o2 ixS (oLst (oAs [o2 subS (oC (.int 60)) (oNm 4), o2 subS (oC (.int 61)) (oNm 4), oC (.int 1), o2 modS (o2 ixS (oNm 1) (oC (.int 3))) (oC (.int 61))])) (o2 modS (o2 ixS (oNm 1) (oC (.int 4))) (oC (.int 4))))))
  (sSeq (sAsg 6 (oCall f_l_picked (oAs [oNm 3, o2 ixS (oNm 1) (oC (.int 5)), o2 addS (oC (.int 1)) (o2 mulS (oC (.int 2)) (o2 modS (o2 ixS (oNm 1) (oC (.int 6))) (oC (.int 32)))), oNm 4])))
  (sSeq (sAsg 7 (oCall f_l_picked (oAs [oNm 3, o2 ixS (oNm 1) (oC (.int 7)), o2 addS (oC (.int 1)) (o2 mulS (oC (.int 2)) (o2 modS (o2 ixS (oNm 1) (oC (.int 8))) (oC (.int 32)))), oNm 5])))
  (sSeq (sAsg 8 (c_l_full_2_2))
  (sSeq (sIf (tV (o2 eqS (o2 modS (o2 ixS (oNm 1) (oC (.int 17))) (oC (.int 3))) (oC (.int 2))))
    (sAsg 8 (oLst (oAs [])))
    sNil)
  (sSeq (sAsg 9 (o2 addS (c_l_full_2_3) (c_l_full_2_4)))
  (sSeq (sAsg 10 (oDic0))
  (sSeq (sFor (iSeq (oNm 3)) (.nm 11) [11]
    w_l_full_2_1)
  (sSeq (sAsg 12 (o1 listS (oNm 6)))
  (sSeq (sFor (iSeq (oNm 7)) (.tup [11, 13]) [11, 13, 15]
    w_l_full_2_2)
  (sSeq (sAsg 14 (oCall f_l_tried_2 (oAs [oC (.int 0), oNm 6, oNm 7, oNm 8])))
  (sSeq (sIf (tV (o2 gtS (o1 lenS (oNm 12)) (oC (.int 60))))
    (sRet (o2 eqS (oNm 14) (oTup (oAs [oC .none, oLst (oAs [oC (.bool true), oC (.bool true), oC (.bool false)])]))))
    sNil)
  (sSeq (sIf (tAndC (tV (o2 eqS (oNm 4) (oC (.int 60)))) (tNotC (tV (oCall f_l_over_full_2 (oAs [oNm 6, o1 sortS (o1 setC (oNm 9)), o2 ixS (oNm 1) (oC (.int 18))])))))
    (sRet (oC (.bool false)))
    sNil)
  (sRet (o2 eqS (oNm 14) (oTup (oAs [o1 tupleS (oNm 12), oLst (oAs [])])))))))))))))))))))))
noncomputable def f_l_full_2 : FSem := runF 17 b_l_full_2
end Eng
/-! The readings of the program's and the laws' defs (printed by wip/gen.py). -/
namespace Eng
open PySem PySem.Spec L2
open PyProof.Rows hiding St
end Eng
/-! The readings of the program's and the laws' defs (printed by wip/gen.py). -/
namespace Eng
open PySem PySem.Spec L2
open PyProof.Rows hiding St
end Eng
/-! The readings of the program's and the laws' defs (printed by wip/gen.py). -/
namespace Eng
open PySem PySem.Spec L2
open PyProof.Rows hiding St
end Eng
/-! The readings of the program's and the laws' defs (printed by wip/gen.py). -/
namespace Eng
open PySem PySem.Spec L2
open PyProof.Rows hiding St
end Eng
/-! The readings of the program's and the laws' defs (printed by wip/gen.py). -/
namespace Eng
open PySem PySem.Spec L2
open PyProof.Rows hiding St
end Eng
/-! The readings of the program's and the laws' defs (printed by wip/gen.py). -/
namespace Eng
open PySem PySem.Spec L2
open PyProof.Rows hiding St
end Eng
/-! The readings of the program's and the laws' defs (printed by wip/gen.py). -/
namespace Eng
open PySem PySem.Spec L2
open PyProof.Rows hiding St
/-- _law_senses(_law_script): 0 _law_script 1 _law_drawn_here 2 _law_letters 3 _law_stem 4 _law_left 5 _law_words 6 _law_head 7 _law_one 8 _law_some 9 _law_other 10 _law_told 11 _law_names 12 _law_due 13 _law_number 14 _law_k 15 _law_word 16 _law_name -/
noncomputable def c_l_senses_3_1 : ES :=
  oLc (iRng1 (oAs [o2 addS (oC (.int 1)) (o2 modS (o2 ixS (oNm 1) (oC (.int 0))) (oC (.int 8)))])) (.nm 14) (tTrue) (o2 ixS (oNm 2) (o2 modS (o2 ixS (oNm 1) (o2 addS (oC (.int 10)) (oNm 14))) (oC (.int 26)))) [14]
noncomputable def c_l_senses_3_2 : ES :=
  oLc (iRng1 (oAs [o2 modS (o2 ixS (oNm 1) (oC (.int 5))) (oC (.int 5))])) (.nm 14) (tTrue) (o2 addS (oC (.int 2)) (o2 modS (o2 ixS (oNm 1) (o2 addS (oC (.int 1)) (oNm 14))) (oC (.int 98)))) [14]
noncomputable def c_l_senses_3_3 : ES :=
  oLc (iRng2 (oAs [oC (.int 2), oC (.int 100)])) (.nm 13) (tV (o2 notinS (oNm 13) (oNm 4))) (o2 addS (o2 addS (oNm 3) (oC (.str "/"))) (o1 strS (oNm 13))) [13]
noncomputable def c_l_senses_3_4 : ES :=
  oLc (iRng1 (oAs [o2 fdivS (o2 addS (o1 lenS (oNm 5)) (oC (.int 7))) (oC (.int 8))])) (.nm 14) (tTrue) (oTup (oAs [oNm 6, o1 tupleS (oSl (oNm 5) (oPart (o2 mulS (oC (.int 8)) (oNm 14))) (oPart (o2 addS (o2 mulS (oC (.int 8)) (oNm 14)) (oC (.int 8)))))])) [14]
noncomputable def c_l_senses_3_5 : ES :=
  oLc (iRng1 (oAs [o2 addS (oC (.int 1)) (o2 modS (o2 modS (o2 ixS (oNm 1) (oC (.int 9))) (oC (.int 5))) (oC (.int 4)))])) (.nm 14) (tTrue) (o2 ixS (oNm 5) (o2 modS (o2 ixS (oNm 1) (o2 addS (oC (.int 6)) (oNm 14))) (o1 lenS (oNm 5)))) [14]
noncomputable def c_l_senses_3_6 : ES :=
  oLc (iSeq (oNm 8)) (.nm 15) (tTrue) (oTup (oAs [oNm 15, oTup (oAs [])])) [15]
noncomputable def c_l_senses_3_7 : ES :=
  oLc (iSeq (oSl (oNm 4) oNoPart (oPart (o1 lenS (oNm 8))))) (.nm 13) (tTrue) (o2 addS (o2 addS (oNm 3) (oC (.str "/"))) (o1 strS (oNm 13))) [13]
noncomputable def c_l_senses_3_8 : ES :=
  oLc (iRng1 (oAs [o1 lenS (oNm 8)])) (.nm 14) (tTrue) (oTup (oAs [o2 ixS (oNm 8) (oNm 14), o2 ixS (oNm 11) (oNm 14)])) [14]
noncomputable def c_l_senses_3_9 : ES :=
  oLc (iSeq (oNm 11)) (.nm 16) (tTrue) (oTup (oAs [oNm 16, oTup (oAs [])])) [16]
noncomputable def b_l_senses_3 : SS :=
  (sSeq (sAsg 1 (oCall f_l_drawn (oAs [oCall f_l_cell (oAs [oNm 0, oC (.int 1)]), oC (.int 20)])))
  (sSeq (sAsg 2 (oC (.str "abcdefghijklmnopqrstuvwxyz")))
  (sSeq (sAsg 3 (oM1 joinS (oC (.str "")) (c_l_senses_3_1)))
  (sSeq (sAsg 4 (o1 sortSetI (o2 addS (c_l_senses_3_2) (oSl (oLst (oAs [oC (.int 99), oC (.int 2)])) oNoPart (oPart (o2 modS (o2 ixS (oNm 1) (oC (.int 19))) (oC (.int 3))))))))
  (sSeq (sAsg 5 (o2 addS (oLst (oAs [oNm 3])) (c_l_senses_3_3)))
  (sSeq (sAsg 6 (o2 ixS (oLst (oAs [oC (.str "x"), oC (.str "y")])) (o1 intS' (o2 eqS (oNm 3) (oC (.str "x"))))))
  (sSeq (sAsg 7 (o1 tupleS (c_l_senses_3_4)))
  (sSeq (sAsg 8 (o1 sortS (o1 setC (o2 addS (c_l_senses_3_5) (oLst (oAs [o2 ixS (oNm 5) (oC (.int 0))]))))))
  (sSeq (sAsg 9 (o1 tupleS (c_l_senses_3_6)))
  (sSeq (sAsg 10 (oLst (oAs [oCall f_l_tried_2 (oAs [oC (.int 1), oNm 7, oNm 9, oLst (oAs [])]), oCall f_l_tried_2 (oAs [oC (.int 0), oNm 7, oNm 9, oLst (oAs [])])])))
  (sSeq (sIf (tV (o2 gtS (o1 lenS (oNm 8)) (o1 lenS (oNm 4))))
    (sRet (o2 eqS (oNm 10) (oLst (oAs [oTup (oAs [oC .none, oLst (oAs [oC (.bool true), oC (.bool true), oC (.bool false)])]), oTup (oAs [oC .none, oLst (oAs [oC (.bool true), oC (.bool true), oC (.bool false)])])]))))
    sNil)
  (sSeq (sAsg 11 (c_l_senses_3_7))
  (sSeq (sAsg 12 (c_l_senses_3_8))
  (sRet (o2 eqS (oNm 10) (oLst (oAs [oTup (oAs [oNm 12, oLst (oAs [])]), oTup (oAs [o2 addS (oNm 7) (o1 tupleS (c_l_senses_3_9)), oLst (oAs [])])])))))))))))))))))
noncomputable def f_l_senses_3 : FSem := runF 17 b_l_senses_3
/-- law(_law_script): 0 _law_script -/
noncomputable def b_law_81 : SS :=
  (sRet (oAnd (oCall f_l_full_2 (oAs [oNm 0])) (oCall f_l_senses_3 (oAs [oNm 0]))))
noncomputable def f_law_81 : FSem := runF 1 b_law_81
end Eng
/-! The readings evaluated: one equation a combinator. -/
namespace Eng
open PySem PySem.Spec L2
open PyProof.Rows hiding St

section
variable {ρ : En} {f g h : ES} {fs : List ES} {b c : SS} {t u : TS'} {i : Nat} {o : O} {d : D} {p q : Opd} {sem sem2 : O → O → Option O} {s1 : O → Option O}
@[simp] theorem slotO_zero (p : Bool) (o : O) : slotO (some (p, o) :: ρ) 0 = some o := rfl
@[simp] theorem slotO_zero' : slotO (none :: ρ) 0 = none := rfl
@[simp] theorem slotO_succ (x : Sl) : slotO (x :: ρ) (i + 1) = slotO ρ i := by simp [slotO]
@[simp] theorem look_tmp : look ρ (.tmp o) = some o := rfl
@[simp] theorem look_nm : look ρ (.nm i) = slotO ρ i := rfl
@[simp] theorem put_some : put ρ (some o) = .ok (.tmp o) ρ := rfl
@[simp] theorem put_none : put ρ none = .stuck := rfl
@[simp] theorem oNm_ap : oNm i ρ = match slotO ρ i with | some _ => .ok (.nm i) ρ | none => .stuck := rfl
@[simp] theorem oC_ap : oC d ρ = .ok (.tmp (.val d)) ρ := rfl
@[simp] theorem oAs_nil : oAs [] ρ = .ok [] ρ := rfl
@[simp] theorem oAs_cons : oAs (f :: fs) ρ = (f ρ).bind fun p ρ1 => (oAs fs ρ1).bind fun ps ρ2 => .ok (p :: ps) ρ2 := rfl
@[simp] theorem looks_nil : looks ρ [] = some [] := rfl
@[simp] theorem looks_cons (ps : List Opd) : looks ρ (p :: ps) = match look ρ p, looks ρ ps with | some o, some os => some (o :: os) | _, _ => none := rfl
def bin2 (sem : O → O → Option O) (ρ : En) (p q : Opd) : Out Opd := match look ρ p, look ρ q with
  | some a, some b => put ρ (sem a b)
  | _, _ => .stuck
@[simp] theorem o2_ap : o2 sem f g ρ = (f ρ).bind fun p ρ1 => (g ρ1).bind fun q ρ2 => bin2 sem ρ2 p q := by
  unfold o2 oF
  simp only [oAs_cons, oAs_nil]
  cases f ρ with
  | ok p ρ1 =>
    simp only [bind_ok]
    cases g ρ1 with
    | ok q ρ2 =>
      simp only [bind_ok, looks_cons, looks_nil, bin2]
      cases look ρ2 p <;> cases look ρ2 q <;> rfl
    | _ => rfl
  | _ => rfl
@[simp] theorem bin2_ap : bin2 sem ρ p q = match look ρ p, look ρ q with | some a, some b => put ρ (sem a b) | _, _ => .stuck := rfl
@[simp] theorem o1_ap : o1 s1 f ρ = (f ρ).bind fun p ρ1 => match look ρ1 p with | some a => put ρ1 (s1 a) | none => .stuck := by
  unfold o1 oF
  simp only [oAs_cons, oAs_nil]
  cases f ρ with
  | ok p ρ1 =>
    simp only [bind_ok, looks_cons, looks_nil]
    cases look ρ1 p <;> rfl
  | _ => rfl
@[simp] theorem oChain_ap : oChain sem sem2 f g h ρ = (f ρ).bind fun p ρ1 => (g ρ1).bind fun q ρ2 => match look ρ2 p, look ρ2 q with
    | some x, some y => match sem x y with
      | some (.val (.bool k)) => if k = true then (h ρ2).bind fun r ρ3 => bin2 sem2 ρ3 q r else .ok (.tmp (.val (.bool false))) ρ2
      | _ => .stuck
    | _, _ => .stuck := by
  unfold oChain
  cases f ρ with
  | ok p ρ1 =>
    simp only [bind_ok]
    cases g ρ1 with
    | ok q ρ2 =>
      simp only [bind_ok, looks_cons, looks_nil]
      cases look ρ2 p with
      | none => cases look ρ2 q <;> rfl
      | some x =>
        cases look ρ2 q with
        | none => rfl
        | some y =>
          simp only
          cases sem x y with
          | none => rfl
          | some o =>
            cases o with
            | val d =>
              cases d with
              | bool k =>
                simp only
                split
                · cases h ρ2 with
                  | ok r ρ3 =>
                    simp only [bind_ok, bin2]
                    cases look ρ3 q <;> cases look ρ3 r <;> rfl
                  | _ => rfl
                · rfl
              | _ => rfl
            | _ => rfl
    | _ => rfl
  | _ => rfl
@[simp] theorem tV_ap : tV f ρ = (f ρ).bind fun p ρ1 => match look ρ1 p with | some (.val (.bool b)) => .ok b ρ1 | _ => .stuck := rfl
@[simp] theorem tNotC_ap : tNotC t ρ = (t ρ).bind fun b ρ1 => .ok (!b) ρ1 := rfl
@[simp] theorem tAndC_ap : tAndC t u ρ = (t ρ).bind fun b ρ1 => if b = true then u ρ1 else .ok false ρ1 := rfl
@[simp] theorem tOrC_ap : tOrC t u ρ = (t ρ).bind fun b ρ1 => if b = true then .ok true ρ1 else u ρ1 := rfl
@[simp] theorem tTrue_ap : tTrue ρ = .ok true ρ := rfl
@[simp] theorem oNot_ap : oNot f ρ = (tV f ρ).bind fun b ρ1 => .ok (.tmp (.val (.bool (!b)))) ρ1 := by
  unfold oNot oT tNotC
  cases tV f ρ <;> rfl
@[simp] theorem oAnd_ap : oAnd f g ρ = (tV f ρ).bind fun b ρ1 => if b = true then g ρ1 else .ok (.tmp (.val (.bool false))) ρ1 := rfl
@[simp] theorem oOr_ap : oOr f g ρ = (tV f ρ).bind fun b ρ1 => if b = true then .ok (.tmp (.val (.bool true))) ρ1 else g ρ1 := rfl
@[simp] theorem oIf_ap : oIf t f g ρ = (t ρ).bind fun b ρ1 => if b = true then f ρ1 else g ρ1 := rfl
@[simp] theorem oSl_ap (lo hi : OS) : oSl f lo hi ρ = (f ρ).bind fun p ρ1 => (lo ρ1).bind fun l ρ2 => (hi ρ2).bind fun h ρ3 => match look ρ3 p with | some o => put ρ3 (slS l h o) | none => .stuck := rfl
@[simp] theorem oNoPart_ap : oNoPart ρ = .ok none ρ := rfl
@[simp] theorem oPart_ap : oPart f ρ = (f ρ).bind fun p ρ1 => match look ρ1 p with | some (.val (.int i)) => .ok (some i) ρ1 | _ => .stuck := rfl
@[simp] theorem oM1_ap (s : Str → O → Option O) : oM1 s f g ρ = (f ρ).bind fun p ρ1 => match look ρ1 p with | some (.val (.str a)) => (g ρ1).bind fun p2 ρ2 => (match look ρ2 p2 with | some o => put ρ2 (s a o) | none => .stuck) | _ => .stuck := rfl
@[simp] theorem oDic0_ap : oDic0 ρ = .ok (.tmp (.dic [])) ρ := rfl
@[simp] theorem take_tmp : take ρ (.tmp o) = some (o, ρ) := rfl
@[simp] theorem take_nm : take ρ (.nm i) = match slotO ρ i with | some (.val d) => some (.val d, ρ) | some (.scr ns) => some (.scr ns, ρ) | some (.lst ds) => some (.val (.list ds), frz ρ i) | _ => none := rfl
@[simp] theorem give_ap : give ρ p = match take ρ p with | some (.val d, ρ') => some (d, ρ') | some (.lst ds, ρ') => some (.list ds, ρ') | _ => none := rfl
@[simp] theorem gives_nil : gives ρ [] = some ([], ρ) := rfl
@[simp] theorem gives_cons (ps : List Opd) : gives ρ (p :: ps) = match give ρ p with | some (d, ρ1) => (match gives ρ1 ps with | some (ds, ρ2) => some (d :: ds, ρ2) | none => none) | none => none := rfl
@[simp] theorem frz_zero (p : Bool) (ds : List D) : frz (some (p, .lst ds) :: ρ) 0 = some (p, .val (.list ds)) :: ρ := by simp [frz]
@[simp] theorem frz_succ (x : Sl) : frz (x :: ρ) (i + 1) = x :: frz ρ i := by
  unfold frz
  simp only [List.getElem?_cons_succ]
  cases ρ[i]? with
  | none => rfl
  | some sl =>
    cases sl with
    | none => rfl
    | some po =>
      obtain ⟨p, o⟩ := po
      cases o <;> rfl
@[simp] theorem oLst_ap (as : AS) : oLst as ρ = (as ρ).bind fun ps ρ1 => match gives ρ1 ps with | some (ds, ρ2) => put ρ2 (if ds.length ≤ 1000 then some (.lst ds) else none) | none => .stuck := rfl
@[simp] theorem oTup_ap (as : AS) : oTup as ρ = (as ρ).bind fun ps ρ1 => match gives ρ1 ps with | some (ds, ρ2) => put ρ2 (if ds.length ≤ 1000 then some (.val (.tuple ds)) else none) | none => .stuck := rfl
/-! ### statements -/
@[simp] theorem sNil_ap : sNil ρ = .nx ρ := rfl
@[simp] theorem sSeq_ap : sSeq b c ρ = (b ρ).then c := rfl
@[simp] theorem sExpr_ap : sExpr f ρ = (f ρ).bindS fun _ ρ1 => .nx ρ1 := rfl
@[simp] theorem sIf_ap : sIf t b c ρ = (t ρ).bindS fun k ρ1 => if k = true then b ρ1 else c ρ1 := rfl
@[simp] theorem sBreak_ap : sBreak ρ = .bk ρ := rfl
@[simp] theorem sCont_ap : sCont ρ = .ct ρ := rfl
@[simp] theorem giveUp_tmp : giveUp ρ (.tmp o) = some (o, ρ) := rfl
@[simp] theorem giveUp_nm : giveUp ρ (.nm i) = match ρ[i]? with
    | some (some (_, .val d)) => some (.val d, ρ)
    | some (some (_, .scr ns)) => some (.scr ns, ρ)
    | some (some (false, o)) => some (o, ρ.set i none)
    | some (some (true, .lst ds)) => some (.val (.list ds), frz ρ i)
    | _ => none := rfl
@[simp] theorem sRet_ap : sRet f ρ = (f ρ).bindS fun p ρ1 => match giveUp ρ1 p with | some (o, ρ2) => .rt o ρ2 | none => .stuck := rfl
@[simp] theorem sRetN_ap : sRetN ρ = .rt (.val .none) ρ := rfl
@[simp] theorem sRaise_ap (c : Nat) : sRaise c ρ = .exc c ρ := rfl
@[simp] theorem setE_zero (o o' : O) : setE 0 o (some (false, o') :: ρ) = some (some (false, o) :: ρ) := by simp [setE]
@[simp] theorem setE_zero' (o : O) : setE 0 o (none :: ρ) = some (some (false, o) :: ρ) := by simp [setE]
@[simp] theorem setE_succ (o : O) (x : Sl) : setE (i + 1) o (x :: ρ) = (setE i o ρ).map (x :: ·) := by
  unfold setE
  simp only [List.getElem?_cons_succ]
  split <;> simp_all
@[simp] theorem takeM_ap : takeM ρ p = match take ρ p with | some x => some x | none => giveUp ρ p := rfl
@[simp] theorem stoE_ap : stoE i ρ p = match takeM ρ p with | some (o, ρ1) => (match setE i o ρ1 with | some ρ2 => .nx ρ2 | none => .stuck) | none => .stuck := rfl
@[simp] theorem sAsg_ap : sAsg i f ρ = (f ρ).bindS fun p ρ1 => stoE i ρ1 p := rfl
@[simp] theorem putAtE_ap (pd pk : Opd) : putAtE i ρ pd pk = match give ρ pd with
    | some (d, ρ1) => match give ρ1 pk with
      | some (k, ρ2) => match ρ2[i]? with
        | some (some (p, o)) => match setS o k d with
          | some o' => .nx (ρ2.set i (some (p, o')))
          | none => .stuck
        | _ => .stuck
      | none => .stuck
    | none => .stuck := rfl
@[simp] theorem sPut_ap : sPut i f g ρ = (g ρ).bindS fun pd ρ1 => match slotO ρ1 i with | some _ => (f ρ1).bindS fun pk ρ2 => putAtE i ρ2 pd pk | none => .stuck := rfl
@[simp] theorem sUnp_ap (T : Tgt) : sUnp T f ρ = (f ρ).bindS fun p ρ1 => match give ρ1 p with | some (d, ρ2) => (match T.put d ρ2 with | some ρ3 => .nx ρ3 | none => .stuck) | none => .stuck := rfl
@[simp] theorem Tgt_nm : (Tgt.nm i).put d ρ = setE i (.val d) ρ := rfl
@[simp] theorem Tgt_tup (is : List Nat) (ds : List D) : (Tgt.tup is).put (.tuple ds) ρ = setDs is ds ρ := rfl
@[simp] theorem setDs_nil : setDs [] [] ρ = some ρ := rfl
@[simp] theorem setDs_cons (is : List Nat) (ds : List D) : setDs (i :: is) (d :: ds) ρ = match setE i (.val d) ρ with | some ρ1 => setDs is ds ρ1 | none => none := rfl
@[simp] theorem mutE_ap (s : O → Option (O × D)) : mutE s i ρ = match ρ[i]? with | some (some (p, o)) => (match s o with | some (o', res) => .ok (.tmp (.val res)) (ρ.set i (some (p, o'))) | none => .stuck) | _ => .stuck := rfl
@[simp] theorem oMutA_ap (s : O → List D → Option (O × D)) (as : AS) : oMutA s i as ρ = match slotO ρ i with
    | some o0 => if isLstO o0 = true then (as ρ).bind fun ps ρ1 => (match gives ρ1 ps with | some (ds, ρ2) => mutE (fun o => s o ds) i ρ2 | none => .stuck) else .stuck
    | none => .stuck := rfl
@[simp] theorem oMut0_ap (s : O → Option (O × D)) : oMut0 s i ρ = match slotO ρ i with | some o0 => if isLstO o0 = true then mutE s i ρ else .stuck | none => .stuck := rfl
@[simp] theorem isLst_lst (ds : List D) : isLstO (.lst ds) = true := rfl
@[simp] theorem oExt_ap : oExt i f ρ = match slotO ρ i with
    | some o0 => if isLstO o0 = true then (f ρ).bind fun p ρ1 => (match look ρ1 p with
        | some o1 => match o1.seq? with
          | some zs => mutE (fun o => match o with
            | .lst ds => if ds.length + zs.length ≤ sizeLine then some (.lst (ds ++ zs), .none) else none
            | _ => none) i ρ1
          | none => .stuck
        | none => .stuck)
      else .stuck
    | none => .stuck := rfl
/-! ### loops -/
@[simp] theorem sFor_ap (it : IS) (T : Tgt) (fg : List Nat) : sFor it T fg b ρ = (it ρ).bindS fun x ρ1 => forW T fg b x ρ1 := rfl
@[simp] theorem forW_none (T : Tgt) (fg : List Nat) (ds : List D) : forW T fg b (none, ds) ρ = forL none T fg b ds ρ := rfl
@[simp] theorem iSeq_ap : iSeq f ρ = (f ρ).bind fun p ρ1 => itSeq ρ1 p := rfl
@[simp] theorem itSeq_lst (ds : List D) : itSeq ρ (.tmp (.lst ds)) = .ok (none, ds) ρ := rfl
@[simp] theorem itSeq_val : itSeq ρ (.tmp (.val d)) = match itemsD d with | some ds => .ok (none, ds) ρ | none => .stuck := rfl
@[simp] theorem itSeq_nm : itSeq ρ (.nm i) = match ρ[i]? with
    | some (some (_, .lst ds)) => .ok (some i, ds) ρ
    | some (some (_, .val d)) => match itemsD d with
      | some ds => .ok (none, ds) ρ
      | none => .stuck
    | _ => .stuck := rfl
@[simp] theorem itemsD_list (ds : List D) : itemsD (.list ds) = some ds := rfl
@[simp] theorem itemsD_tuple (ds : List D) : itemsD (.tuple ds) = some ds := rfl
@[simp] theorem iRng1_ap (as : AS) : iRng1 as ρ = (as ρ).bind fun ps ρ1 => match looks ρ1 ps with
      | some [.val (.int j)] => if j ≤ 1000000 ∧ -(2 ^ 62) ≤ j then .ok (none, rng 0 j.toNat) ρ1 else .stuck
      | _ => .stuck := rfl
@[simp] theorem iRng2_ap (as : AS) : iRng2 as ρ = (as ρ).bind fun ps ρ1 => match looks ρ1 ps with
      | some [.val (.int i), .val (.int j)] => if -1000000 ≤ i ∧ i ≤ 1000000 ∧ -1000000 ≤ j ∧ j ≤ 1000000 then .ok (none, rng i (j - i).toNat) ρ1 else .stuck
      | _ => .stuck := rfl
@[simp] theorem oLc_ap (it : IS) (T : Tgt) (own : List Nat) : oLc it T t f own ρ = (it ρ).bind fun x ρ1 => lcE T t f own x ρ1 := rfl
@[simp] theorem lcE_none (T : Tgt) (own : List Nat) (ds : List D) : lcE T t f own (none, ds) ρ = (lcW none T t f own ds ρ).bind fun acc ρ2 => .ok (.tmp (.lst acc)) ρ2 := rfl
@[simp] theorem dropE_nil : dropE [] ρ = ρ := rfl
@[simp] theorem dropE_cons (is : List Nat) : dropE (i :: is) ρ = dropE is (dropE1 i ρ) := rfl
@[simp] theorem dropE1_zero : dropE1 0 (some (false, o) :: ρ) = none :: ρ := rfl
@[simp] theorem dropE1_zero' : dropE1 0 (none :: ρ) = none :: ρ := rfl
@[simp] theorem dropE1_zeroT : dropE1 0 (some (true, o) :: ρ) = some (true, o) :: ρ := rfl
@[simp] theorem dropE1_succ (x : Sl) : dropE1 (i + 1) (x :: ρ) = x :: dropE1 i ρ := by
  unfold dropE1
  simp only [List.getElem?_cons_succ]
  split <;> simp_all
@[simp] theorem chkE_none : chkE none ρ = True := rfl
@[simp] theorem chkE_some (ds : List D) : chkE (some (i, ds)) ρ = (ρ[i]? = some (some (true, .lst ds))) := rfl
/-! ### calls -/
@[simp] theorem oCall_ap (fn : FSem) (as : AS) : oCall fn as ρ = (as ρ).bind fun ps ρ1 => callE fn ρ1 ps := rfl
@[simp] theorem callE_ap (fn : FSem) (ps : List Opd) : callE fn ρ ps = match lift ρ ps with
    | some (os, bs, ρ1) => match fn os with
      | .ret o fin => .ok (.tmp o) (backs ps bs fin ρ1)
      | .exc c fin => .exc c (backs ps bs fin ρ1)
      | .stuck => .stuck
    | none => .stuck := rfl
@[simp] theorem lift_nil : lift ρ [] = some ([], [], ρ) := rfl
@[simp] theorem lift_cons (ps : List Opd) : lift ρ (p :: ps) = match lift1 ρ p with
    | some (o, b, ρ1) => match lift ρ1 ps with
      | some (os, bs, ρ2) => some (o :: os, b :: bs, ρ2)
      | none => none
    | none => none := rfl
@[simp] theorem lift1_tmp : lift1 ρ (.tmp o) = some (o, none, ρ) := rfl
@[simp] theorem lift1_nm : lift1 ρ (.nm i) = match ρ[i]? with | some (some (p, o)) => if o.own = true then some (o, some p, ρ.set i none) else some (o, none, ρ) | _ => none := rfl
@[simp] theorem backs_nil (bs : List (Option Bool)) (fin : List O) : backs [] bs fin ρ = ρ := by cases bs <;> cases fin <;> rfl
@[simp] theorem backs_tmp (ps : List Opd) (b : Option Bool) (bs : List (Option Bool)) (x : O) (fin : List O) : backs (.tmp o :: ps) (b :: bs) (x :: fin) ρ = backs ps bs fin ρ := by cases b <;> rfl
@[simp] theorem backs_nm (ps : List Opd) (bs : List (Option Bool)) (x : O) (fin : List O) : backs (.nm i :: ps) (none :: bs) (x :: fin) ρ = backs ps bs fin ρ := rfl
@[simp] theorem backs_nmS (ps : List Opd) (p : Bool) (bs : List (Option Bool)) (x : O) (fin : List O) : backs (.nm i :: ps) (some p :: bs) (x :: fin) ρ = (backs ps bs fin ρ).set i (some (p, x)) := rfl
@[simp] theorem own_val : (O.val d).own = false := rfl
@[simp] theorem own_scr (ns : List Int) : (O.scr ns).own = false := rfl
@[simp] theorem own_lst (ds : List D) : (O.lst ds).own = true := rfl
@[simp] theorem own_dic (es : List (D × D)) : (O.dic es).own = true := rfl
@[simp] theorem own_set (xs : List Str) : (O.set xs).own = true := rfl
@[simp] theorem own_ins (c : Nat) (fs : List (Str × O)) : (O.ins c fs).own = true := rfl
theorem runF_ap (n : Nat) (os : List O) : runF n b os = match b (startE n os) with
  | .nx ρ => (match fins os ρ with | some fin => .ret (.val .none) fin | none => .stuck)
  | .rt o ρ => (match fins os ρ with | some fin => .ret o fin | none => .stuck)
  | .exc c ρ => (match fins os ρ with | some fin => .exc c fin | none => .stuck)
  | _ => .stuck := rfl
@[simp] theorem startE_ap (n : Nat) (os : List O) : startE n os = os.map (fun o => some (o.own, o)) ++ List.replicate (n - os.length) none := rfl
@[simp] theorem fins_nil : fins [] ρ = some [] := rfl
@[simp] theorem fins_val (os : List O) (sl : Sl) : fins (.val d :: os) (sl :: ρ) = match fins os ρ with | some r => some (.val d :: r) | none => none := rfl
@[simp] theorem fins_scr (ns : List Int) (os : List O) (sl : Sl) : fins (.scr ns :: os) (sl :: ρ) = match fins os ρ with | some r => some (.scr ns :: r) | none => none := rfl
@[simp] theorem fins_lst (ds : List D) (x : O) (os : List O) : fins (.lst ds :: os) (some (true, x) :: ρ) = match fins os ρ with | some r => some (x :: r) | none => none := rfl
@[simp] theorem fins_dic (es : List (D × D)) (x : O) (os : List O) : fins (.dic es :: os) (some (true, x) :: ρ) = match fins os ρ with | some r => some (x :: r) | none => none := rfl
/-! ### operations on data -/
@[simp] theorem addS_int (i j : Int) : addS (.val (.int i)) (.val (.int j)) = some (.val (.int (i + j))) := rfl
@[simp] theorem addS_str (x y : Str) : addS (.val (.str x)) (.val (.str y)) = if x.length + y.length ≤ sizeLine then some (.val (.str (x ++ y))) else none := rfl
@[simp] theorem addS_tup (x y : List D) : addS (.val (.tuple x)) (.val (.tuple y)) = if x.length + y.length ≤ sizeLine then some (.val (.tuple (x ++ y))) else none := rfl
@[simp] theorem addS_ll (x y : List D) : addS (.lst x) (.lst y) = if x.length + y.length ≤ sizeLine then some (.lst (x ++ y)) else none := rfl
@[simp] theorem addS_lv (x y : List D) : addS (.lst x) (.val (.list y)) = if x.length + y.length ≤ sizeLine then some (.lst (x ++ y)) else none := rfl
@[simp] theorem addS_vl (x y : List D) : addS (.val (.list x)) (.lst y) = if x.length + y.length ≤ sizeLine then some (.lst (x ++ y)) else none := rfl
@[simp] theorem addS_vv (x y : List D) : addS (.val (.list x)) (.val (.list y)) = if x.length + y.length ≤ sizeLine then some (.lst (x ++ y)) else none := rfl
@[simp] theorem subS_int (i j : Int) : subS (.val (.int i)) (.val (.int j)) = some (.val (.int (i - j))) := by simp [subS, intS]
@[simp] theorem mulS_int (i j : Int) : mulS (.val (.int i)) (.val (.int j)) = if (-(2 ^ 64) < i ∧ i < 2 ^ 64) ∨ (-(2 ^ 64) < j ∧ j < 2 ^ 64) then some (.val (.int (i * j))) else none := rfl
@[simp] theorem fdivS_int (i j : Int) : fdivS (.val (.int i)) (.val (.int j)) = if 0 < j ∧ j < 1073741824 then some (.val (.int (i / j))) else none := rfl
@[simp] theorem modS_int (i j : Int) : modS (.val (.int i)) (.val (.int j)) = if 0 < j then some (.val (.int (i % j))) else none := rfl
@[simp] theorem powS_int (i j : Int) : powS (.val (.int i)) (.val (.int j)) = if 0 ≤ j ∧ j ≤ 1000000 ∧ i.natAbs < 2 ^ 64 then some (.val (.int (i ^ j.toNat))) else none := rfl
@[simp] theorem negS_int (i : Int) : negS (.val (.int i)) = some (.val (.int (-i))) := rfl
@[simp] theorem ltS_int (i j : Int) : ltS (.val (.int i)) (.val (.int j)) = some (.val (.bool (decide (i < j)))) := rfl
@[simp] theorem leS_int (i j : Int) : leS (.val (.int i)) (.val (.int j)) = some (.val (.bool (decide (i ≤ j)))) := rfl
@[simp] theorem gtS_int (i j : Int) : gtS (.val (.int i)) (.val (.int j)) = some (.val (.bool (decide (j < i)))) := rfl
@[simp] theorem geS_int (i j : Int) : geS (.val (.int i)) (.val (.int j)) = some (.val (.bool (decide (j ≤ i)))) := rfl
@[simp] theorem leS_str (i j : Str) : leS (.val (.str i)) (.val (.str j)) = some (.val (.bool (!decide (j.cps.toList < i.cps.toList)))) := rfl
@[simp] theorem view_lst (ds : List D) : (O.lst ds).view? = some (.list ds) := rfl
@[simp] theorem view_val : (O.val d).view? = some d := rfl
@[simp] theorem seq_lst (ds : List D) : (O.lst ds).seq? = some ds := rfl
@[simp] theorem seq_list (ds : List D) : (O.val (.list ds)).seq? = some ds := rfl
@[simp] theorem seq_tup (ds : List D) : (O.val (.tuple ds)).seq? = some ds := rfl
@[simp] theorem list_lst (ds : List D) : (O.lst ds).list? = some ds := rfl
@[simp] theorem list_list (ds : List D) : (O.val (.list ds)).list? = some ds := rfl
@[simp] theorem eqS_int (i j : Int) : eqS (.val (.int i)) (.val (.int j)) = some (.val (.bool (i == j))) := by simp [eqS, eqD?, isStrD, SeqAt.shaped, PyData.eqv, PyData.canLay0, PyData.depth]
@[simp] theorem neS_int (i j : Int) : neS (.val (.int i)) (.val (.int j)) = some (.val (.bool (!(i == j)))) := by simp [neS, eqD?, isStrD, SeqAt.shaped, PyData.eqv, PyData.canLay0, PyData.depth]
@[simp] theorem eqS_str (i j : Str) : eqS (.val (.str i)) (.val (.str j)) = some (.val (.bool (i == j))) := by simp [eqS, eqD?, isStrD, PyData.eqv]
@[simp] theorem neS_str (i j : Str) : neS (.val (.str i)) (.val (.str j)) = some (.val (.bool (!(i == j)))) := by simp [neS, eqD?, isStrD, PyData.eqv]
@[simp] theorem eqS_bool (i j : Bool) : eqS (.val (.bool i)) (.val (.bool j)) = some (.val (.bool (i == j))) := by simp [eqS, eqD?, isStrD, SeqAt.shaped, PyData.eqv, PyData.canLay0, PyData.depth]
@[simp] theorem neS_bool (i j : Bool) : neS (.val (.bool i)) (.val (.bool j)) = some (.val (.bool (!(i == j)))) := by simp [neS, eqD?, isStrD, SeqAt.shaped, PyData.eqv, PyData.canLay0, PyData.depth]
@[simp] theorem lenS_str (z : Str) : lenS (.val (.str z)) = if z.length ≤ sizeLine then some (.val (.int z.length)) else none := rfl
@[simp] theorem lenS_list (ds : List D) : lenS (.val (.list ds)) = some (.val (.int ds.length)) := rfl
@[simp] theorem lenS_tup (ds : List D) : lenS (.val (.tuple ds)) = some (.val (.int ds.length)) := rfl
@[simp] theorem lenS_lst (ds : List D) : lenS (.lst ds) = some (.val (.int ds.length)) := rfl
@[simp] theorem lenS_scr (ns : List Int) : lenS (.scr ns) = some (.val (.int ns.length)) := rfl
@[simp] theorem listS_ap : listS o = o.seq?.map .lst := rfl
@[simp] theorem tupleS_ap : tupleS o = o.seq?.map fun ds => .val (.tuple ds) := rfl
@[simp] theorem allS_ap : allS o = o.list?.bind fun ds => (asBools ds).map fun bs => .val (.bool (bs.all id)) := rfl
@[simp] theorem anyS_ap : anyS o = o.list?.bind fun ds => (asBools ds).map fun bs => .val (.bool (bs.any id)) := rfl
@[simp] theorem sumS_ap : sumS o = o.list?.bind fun ds => (asInts ds).map fun bs => .val (.int bs.sum) := rfl
@[simp] theorem ixS_scr (ns : List Int) (i : Int) : ixS (.scr ns) (.val (.int i)) = (atI ns i).map fun n => .val (.int n) := rfl
@[simp] theorem ixS_lst (ds : List D) (i : Int) : ixS (.lst ds) (.val (.int i)) = (atI ds i).map .val := rfl
@[simp] theorem ixS_list (ds : List D) (i : Int) : ixS (.val (.list ds)) (.val (.int i)) = (atI ds i).map .val := rfl
@[simp] theorem ixS_tup (ds : List D) (i : Int) : ixS (.val (.tuple ds)) (.val (.int i)) = (atI ds i).map .val := rfl
@[simp] theorem ixS_str (z : Str) (i : Int) : ixS (.val (.str z)) (.val (.int i)) = if z.length ≤ sizeLine then (atI z.cps.toList i).map fun c => .val (.str ⟨#[c]⟩) else none := rfl
@[simp] theorem appS_ap (ds : List D) : appS (.lst ds) [d] = if ds.length < sizeLine then some (.lst (ds ++ [d]), .none) else none := rfl
@[simp] theorem strS_int (i : Int) : strS (.val (.int i)) = if i.natAbs.log2 < 1920 then some (.val (.str (Str.ofString (toString i)))) else none := rfl
theorem atI_nat' {α : Type} (xs : List α) (i : Int) (h : 0 ≤ i) (h2 : i < xs.length) : atI xs i = xs[i.toNat]? := by
  unfold atI ixN
  rw [if_pos h, if_pos h2]
  rfl
end
end Eng
/-! Loops and comprehensions over typed items. -/
namespace Eng
open PySem PySem.Spec L2
open PyProof.Rows hiding St

/-! ### one turn of a for -/
def turn (T : Tgt) (fg : List Nat) (b : SS) (d : D) (ρ : En) : SOut := match T.put d ρ with
  | none => .stuck
  | some ρ1 => match b ρ1 with
    | .nx ρ2 => .nx (dropE fg ρ2)
    | .ct ρ2 => .nx (dropE fg ρ2)
    | .bk ρ2 => .bk (dropE fg ρ2)
    | o => o
theorem turn_ap (T : Tgt) (fg : List Nat) (b : SS) (d : D) (ρ : En) : turn T fg b d ρ = match T.put d ρ with
  | none => .stuck
  | some ρ1 => match b ρ1 with
    | .nx ρ2 => .nx (dropE fg ρ2)
    | .ct ρ2 => .nx (dropE fg ρ2)
    | .bk ρ2 => .bk (dropE fg ρ2)
    | o => o := rfl
theorem forL_turn (T : Tgt) (fg : List Nat) (b : SS) (d : D) (ds : List D) (ρ : En) : forL none T fg b (d :: ds) ρ = match turn T fg b d ρ with
  | .nx ρ2 => forL none T fg b ds ρ2
  | .bk ρ2 => .nx ρ2
  | o => o := by
  unfold turn
  rw [forL]
  cases T.put d ρ with
  | none => rfl
  | some ρ1 =>
    simp only
    cases b ρ1 <;> simp [chkE]
/-- a for that hands back at the first such item, else leaves the state as it is -/
theorem forL_find {α : Type} {f : α → D} {T : Tgt} {fg : List Nat} {b : SS} {ρ : En} (p : α → Bool) (r : α → SOut) (hr : ∀ x, p x = true → (∃ o ρ', r x = .rt o ρ') ∨ ∃ c ρ', r x = .exc c ρ') : ∀ (xs : List α), (∀ x ∈ xs, turn T fg b (f x) ρ = if p x = true then r x else .nx ρ) →
    forL none T fg b (xs.map f) ρ = match xs.find? p with | some x => r x | none => .nx ρ
  | [], _ => rfl
  | x :: xs, h => by
    rw [List.map_cons, forL_turn, h x List.mem_cons_self, List.find?_cons]
    cases hp : p x with
    | true =>
      simp only [if_true]
      rcases hr x hp with ⟨o, ρ', e⟩ | ⟨c, ρ', e⟩ <;> rw [e]
    | false =>
      simp only [Bool.false_eq_true, if_false]
      exact forL_find p r hr xs fun y hy => h y (List.mem_cons_of_mem _ hy)
theorem forW_nm {T : Tgt} {fg : List Nat} {b : SS} {j : Nat} {ds : List D} {ρ : En} {o : O} (h : ρ[j]? = some (some (false, o))) : forW T fg b (some j, ds) ρ = unpS j (forL (some (j, ds)) T fg b ds (ρ.set j (some (true, o)))) := by
  simp [forW, h]
@[simp] theorem unpS_nx (j : Nat) (ρ : En) : unpS j (.nx ρ) = .nx (unpin j ρ) := rfl
@[simp] theorem unpin_zero (p : Bool) (o : O) (ρ : En) : unpin 0 (some (p, o) :: ρ) = some (false, o) :: ρ := rfl
@[simp] theorem unpin_succ (j : Nat) (x : Sl) (ρ : En) : unpin (j + 1) (x :: ρ) = x :: unpin j ρ := by
  unfold unpin
  simp only [List.getElem?_cons_succ]
  split <;> simp_all

/-! ### one turn of a comprehension -/
def lturn (T : Tgt) (t : TS') (f : ES) (own : List Nat) (d : D) (ρ : En) : Out (Option D) := match T.put d ρ with
  | none => .stuck
  | some ρ1 => match t ρ1 with
    | .ok b ρ2 => if b = true then match f ρ2 with
        | .ok p ρ3 => match give ρ3 p with
          | some (e, ρ4) => .ok (some e) (dropE own ρ4)
          | none => .stuck
        | _ => .stuck
      else .ok none (dropE own ρ2)
    | _ => .stuck
theorem lturn_ap (T : Tgt) (t : TS') (f : ES) (own : List Nat) (d : D) (ρ : En) : lturn T t f own d ρ = match T.put d ρ with
  | none => .stuck
  | some ρ1 => match t ρ1 with
    | .ok b ρ2 => if b = true then match f ρ2 with
        | .ok p ρ3 => match give ρ3 p with
          | some (e, ρ4) => .ok (some e) (dropE own ρ4)
          | none => .stuck
        | _ => .stuck
      else .ok none (dropE own ρ2)
    | _ => .stuck := rfl
theorem lcL_turn {c : Option (Nat × List D)} {T : Tgt} {t : TS'} {f : ES} {own : List Nat} {d : D} {ds acc : List D} {ρ ρ' : En} {r : Option D} (h : lturn T t f own d ρ = .ok r ρ') (hc : lcC c own ρ') : lcL c T t f own (d :: ds) acc ρ = lcL c T t f own ds (acc ++ r.toList) ρ' := by
  unfold lturn at h
  rw [lcL]
  cases e1 : T.put d ρ with
  | none => rw [e1] at h; cases h
  | some ρ1 =>
    rw [e1] at h
    simp only at h ⊢
    cases e2 : t ρ1 with
    | ok b ρ2 =>
      rw [e2] at h
      simp only at h ⊢
      cases b with
      | false =>
        simp only [Bool.false_eq_true, if_false, Out.ok.injEq] at h ⊢
        obtain ⟨rfl, rfl⟩ := h
        rw [if_pos hc]
        simp
      | true =>
        simp only [if_true] at h ⊢
        cases e3 : f ρ2 with
        | ok p ρ3 =>
          rw [e3] at h
          simp only at h ⊢
          cases e4 : give ρ3 p with
          | none => rw [e4] at h; cases h
          | some x =>
            obtain ⟨e, ρ4⟩ := x
            rw [e4] at h
            simp only [Out.ok.injEq] at h ⊢
            obtain ⟨rfl, rfl⟩ := h
            rw [if_pos hc]
            rfl
        | _ => rw [e3] at h; cases h
    | _ => rw [e2] at h; cases h
theorem lcL_map {α : Type} {f : α → D} {c : Option (Nat × List D)} {T : Tgt} {t : TS'} {g : ES} {own : List Nat} {ρ : En} (r : α → Option D) (hc : lcC c own ρ) : ∀ (xs : List α) (acc : List D), (∀ x ∈ xs, lturn T t g own (f x) ρ = .ok (r x) ρ) → lcL c T t g own (xs.map f) acc ρ = .ok (acc ++ xs.filterMap r) ρ
  | [], acc, _ => by simp [lcL]
  | x :: xs, acc, h => by
    rw [List.map_cons, lcL_turn (h x List.mem_cons_self) hc, lcL_map r hc xs _ fun y hy => h y (List.mem_cons_of_mem _ hy), List.filterMap_cons]
    cases r x <;> simp
theorem lcW_map {α : Type} {f : α → D} {c : Option (Nat × List D)} {T : Tgt} {t : TS'} {g : ES} {own : List Nat} {ρ : En} (r : α → Option D) (xs : List α) (hc : lcC c own (dropE own ρ)) (h : ∀ x ∈ xs, lturn T t g own (f x) (dropE own ρ) = .ok (r x) (dropE own ρ)) :
    lcW c T t g own (xs.map f) ρ = .ok (xs.filterMap r) (restE ρ own (dropE own ρ)) := by
  unfold lcW
  rw [if_pos hc, lcL_map r hc xs [] h]
  simp
theorem lcE_nm {T : Tgt} {t : TS'} {g : ES} {own : List Nat} {ρ : En} {j : Nat} {ds : List D} {o : O} (h : ρ[j]? = some (some (false, o))) : lcE T t g own (some j, ds) ρ = (lcW (some (j, ds)) T t g own ds (ρ.set j (some (true, o)))).bind fun acc ρ2 => .ok (.tmp (.lst acc)) (unpin j ρ2) := by
  simp [lcE, h]
theorem fm_map {α β : Type} (e : α → β) (xs : List α) : xs.filterMap (fun x => some (e x)) = xs.map e := by
  induction xs with
  | nil => rfl
  | cons x xs ih => simp [ih]
theorem fm_filter {α β : Type} (c : α → Bool) (e : α → β) (xs : List α) : xs.filterMap (fun x => if c x = true then some (e x) else none) = (xs.filter c).map e := by
  induction xs with
  | nil => rfl
  | cons x xs ih =>
    rw [List.filterMap_cons, List.filter_cons]
    cases c x <;> simp [ih]
/-- [e for x in xs] -/
theorem lc_all {α : Type} {f : α → D} {c : Option (Nat × List D)} {T : Tgt} {t : TS'} {g : ES} {own : List Nat} {ρ : En} (e : α → D) (xs : List α) (hc : lcC c own (dropE own ρ)) (h : ∀ x ∈ xs, lturn T t g own (f x) (dropE own ρ) = .ok (some (e x)) (dropE own ρ)) :
    lcW c T t g own (xs.map f) ρ = .ok (xs.map e) (restE ρ own (dropE own ρ)) := by
  rw [lcW_map (fun x => some (e x)) xs hc h, fm_map]
/-- [e for x in xs if c] -/
theorem lc_if {α : Type} {f : α → D} {c : Option (Nat × List D)} {T : Tgt} {t : TS'} {g : ES} {own : List Nat} {ρ : En} (k : α → Bool) (e : α → D) (xs : List α) (hc : lcC c own (dropE own ρ)) (h : ∀ x ∈ xs, lturn T t g own (f x) (dropE own ρ) = .ok (if k x = true then some (e x) else none) (dropE own ρ)) :
    lcW c T t g own (xs.map f) ρ = .ok ((xs.filter k).map e) (restE ρ own (dropE own ρ)) := by
  rw [lcW_map (fun x => if k x = true then some (e x) else none) xs hc h, fm_filter]
@[simp] theorem restE_nil (ρ0 ρ : En) : restE ρ0 [] ρ = ρ := rfl
@[simp] theorem restE_cons (ρ0 : En) (i : Nat) (is : List Nat) (ρ : En) : restE ρ0 (i :: is) ρ = match ρ[i]? with | some none => restE ρ0 is (rest1 ρ0 i ρ) | _ => restE ρ0 is ρ := rfl
@[simp] theorem rest1_ap (ρ0 : En) (i : Nat) (ρ : En) : rest1 ρ0 i ρ = match ρ0[i]? with | some (some (false, .val d)) => ρ.set i (some (false, .val d)) | _ => ρ := rfl
@[simp] theorem lcC_ap (c : Option (Nat × List D)) (own : List Nat) (ρ : En) : lcC c own ρ = (chkE c ρ ∧ ∀ i ∈ own, ρ[i]? = some none) := rfl
end Eng
/-! Loops that may hand back; further operations. -/
namespace Eng
open PySem PySem.Spec L2
open PyProof.Rows hiding St
@[simp] theorem isB_ap (a b : Bool) : isB (.val (.bool a)) (.val (.bool b)) = some (.val (.bool (decide (a = b)))) := rfl
@[simp] theorem isnotB_ap (a b : Bool) : isnotB (.val (.bool a)) (.val (.bool b)) = some (.val (.bool (!decide (a = b)))) := rfl
@[simp] theorem revO_tup (ds : List D) : revO (.val (.tuple ds)) = some (.val (.tuple ds.reverse)) := rfl
@[simp] theorem revO_lst (ds : List D) : revO (.lst ds) = some (.lst ds.reverse) := rfl
@[simp] theorem revO_list (ds : List D) : revO (.val (.list ds)) = some (.lst ds.reverse) := rfl
@[simp] theorem maxS_int (i j : Int) : maxS (.val (.int i)) (.val (.int j)) = some (.val (.int (if j > i then j else i))) := rfl
@[simp] theorem minS_int (i j : Int) : minS (.val (.int i)) (.val (.int j)) = some (.val (.int (if j < i then j else i))) := rfl
@[simp] theorem setS_lst (ds : List D) (i : Int) (d : D) : setS (.lst ds) (.int i) d = match ixN ds.length i with | some j => some (.lst (ds.set j d)) | none => none := rfl
theorem forLc_turn {c : Option (Nat × List D)} {T : Tgt} {fg : List Nat} {b : SS} {d : D} {ds : List D} {ρ ρ2 : En} (h : turn T fg b d ρ = .nx ρ2) (hc : chkE c ρ2) : forL c T fg b (d :: ds) ρ = forL c T fg b ds ρ2 := by
  unfold turn at h
  rw [forL]
  cases e : T.put d ρ with
  | none => rw [e] at h; cases h
  | some ρ1 =>
    rw [e] at h
    simp only at h ⊢
    cases eb : b ρ1 with
    | nx ρ3 => rw [eb] at h; cases h; simp [hc]
    | ct ρ3 => rw [eb] at h; cases h; simp [hc]
    | _ => rw [eb] at h; cases h
theorem forLc_exc {c : Option (Nat × List D)} {T : Tgt} {fg : List Nat} {b : SS} {d : D} {ds : List D} {ρ ρ2 : En} {k : Nat} (h : turn T fg b d ρ = .exc k ρ2) : forL c T fg b (d :: ds) ρ = .exc k ρ2 := by
  unfold turn at h
  rw [forL]
  cases e : T.put d ρ with
  | none => rw [e] at h; cases h
  | some ρ1 =>
    rw [e] at h
    simp only at h ⊢
    cases eb : b ρ1 with
    | exc k' ρ3 => rw [eb] at h; cases h; rfl
    | _ => rw [eb] at h; cases h
end Eng
/-! Texts, lists of texts, rows, books: the readings over typed things. -/
namespace Eng
open PySem PySem.Spec L2
open PyProof.Rows hiding St

abbrev Row := Str × List Str
def eW (ws : List Str) : D := .tuple (ws.map PyData.str)
def eRow (r : Row) : D := .tuple [.str r.1, eW r.2]
def eBk (b : List Row) : D := .tuple (b.map eRow)
def kd (ws : List Str) : List (D × D) := ws.map fun w => (.str w, .bool true)
def sortT (ws : List Str) : List Str := ws.mergeSort leT

theorem any_strs (ws : List Str) (x : Str) : ((ws.map PyData.str).any fun y => PyData.eqv y (.str x)) = decide (x ∈ ws) := by
  induction ws with
  | nil => rfl
  | cons w ws ih =>
    rw [List.map_cons, List.any_cons, ih, eqv_str]
    by_cases h : x = w
    · simp [h]
    · have : ¬ w = x := fun e => h e.symm
      simp [h, this]
theorem all_strs (ws : List Str) : (ws.map PyData.str).all isStrD = true := by
  simp [isStrD]
theorem hasS_strs (x : Str) (ws : List Str) (o : O) (h : o.seq? = some (ws.map PyData.str)) (hd : ∀ es, o ≠ .dic es) (hs : ∀ z, o ≠ .val (.str z)) : hasS (.val (.str x)) o = some (decide (x ∈ ws)) := by
  unfold hasS
  split
  · exact absurd rfl (hd _)
  · exact absurd rfl (hs _)
  · simp only [view_val, h, isStrD, all_strs, Bool.and_self, Bool.true_or, if_true, any_strs]
@[simp] theorem inS_lst (x : Str) (ws : List Str) : inS (.val (.str x)) (.lst (ws.map PyData.str)) = some (.val (.bool (decide (x ∈ ws)))) := by
  unfold inS
  rw [hasS_strs x ws _ rfl (by simp) (by simp)]
  rfl
@[simp] theorem inS_tup (x : Str) (ws : List Str) : inS (.val (.str x)) (.val (.tuple (ws.map PyData.str))) = some (.val (.bool (decide (x ∈ ws)))) := by
  unfold inS
  rw [hasS_strs x ws _ rfl (by simp) (by simp)]
  rfl
@[simp] theorem inS_list (x : Str) (ws : List Str) : inS (.val (.str x)) (.val (.list (ws.map PyData.str))) = some (.val (.bool (decide (x ∈ ws)))) := by
  unfold inS
  rw [hasS_strs x ws _ rfl (by simp) (by simp)]
  rfl
@[simp] theorem notinS_lst (x : Str) (ws : List Str) : notinS (.val (.str x)) (.lst (ws.map PyData.str)) = some (.val (.bool (!decide (x ∈ ws)))) := by
  unfold notinS
  rw [hasS_strs x ws _ rfl (by simp) (by simp)]
  rfl
@[simp] theorem notinS_tup (x : Str) (ws : List Str) : notinS (.val (.str x)) (.val (.tuple (ws.map PyData.str))) = some (.val (.bool (!decide (x ∈ ws)))) := by
  unfold notinS
  rw [hasS_strs x ws _ rfl (by simp) (by simp)]
  rfl
@[simp] theorem notinS_list (x : Str) (ws : List Str) : notinS (.val (.str x)) (.val (.list (ws.map PyData.str))) = some (.val (.bool (!decide (x ∈ ws)))) := by
  unfold notinS
  rw [hasS_strs x ws _ rfl (by simp) (by simp)]
  rfl
@[simp] theorem hasS_nil (x : Str) : inS (.val (.str x)) (.lst []) = some (.val (.bool false)) := inS_lst x []
@[simp] theorem notinS_nil (x : Str) : notinS (.val (.str x)) (.lst []) = some (.val (.bool true)) := notinS_lst x []
/-! ### dicts whose keys are texts -/
/-- a dict with text keys -/
def sd {β : Type} (f : β → D) (es : List (Str × β)) : List (D × D) := es.map fun e => (.str e.1, f e.2)
theorem dOk_sd {β : Type} (f : β → D) (es : List (Str × β)) (x : Str) : dOk (sd f es) (.str x) = true := by
  simp [dOk, sd, keyOf]
theorem dhas_sd {β : Type} (f : β → D) (es : List (Str × β)) (x : Str) : dhas (sd f es) (.str x) = decide (x ∈ es.map (·.1)) := by
  unfold dhas sd
  rw [List.any_map, ← any_strs, List.map_map, List.any_map]
  rfl
theorem dOk_kd (ws : List Str) (x : Str) : dOk (kd ws) (.str x) = true := by
  simp [dOk, kd, keyOf]
theorem dhas_kd (ws : List Str) (x : Str) : dhas (kd ws) (.str x) = decide (x ∈ ws) := by
  unfold dhas kd
  rw [List.any_map, ← any_strs, List.any_map]
  rfl
theorem dput_kd (ws : List Str) (x : Str) : dput (kd ws) (.str x) (.bool true) = kd (addT ws x) := by
  unfold dput addT
  rw [dhas_kd]
  by_cases h : x ∈ ws
  · simp only [h, decide_true, if_true]
    unfold kd
    rw [List.map_map]
    refine List.map_congr_left fun w hw => ?_
    simp only [Function.comp]
    split <;> rfl
  · simp only [h, decide_false, Bool.false_eq_true, if_false]
    unfold kd
    rw [List.map_append]
    rfl
@[simp] theorem inS_kd (x : Str) (ws : List Str) : inS (.val (.str x)) (.dic (kd ws)) = some (.val (.bool (decide (x ∈ ws)))) := by
  unfold inS hasS
  simp only [dOk_kd, dhas_kd, if_true]
  rfl
@[simp] theorem notinS_kd (x : Str) (ws : List Str) : notinS (.val (.str x)) (.dic (kd ws)) = some (.val (.bool (!decide (x ∈ ws)))) := by
  unfold notinS hasS
  simp only [dOk_kd, dhas_kd, if_true]
  rfl
theorem len_kd (ws : List Str) : (kd ws).length = ws.length := by simp [kd]
@[simp] theorem setS_kd (x : Str) (ws : List Str) : setS (.dic (kd ws)) (.str x) (.bool true) = if ws.length < sizeLine then some (.dic (kd (addT ws x))) else none := by
  unfold setS
  simp only [dOk_kd, dput_kd, len_kd, true_and]
theorem kd_nil : kd [] = [] := rfl
/-! ### sorted texts -/
theorem sortOk_strs (ws : List Str) : sortOk (ws.map PyData.str) = decide (ws.length ≤ sizeLine) := by
  unfold sortOk
  have h1 : ((ws.map PyData.str).all fun d => (ws.map PyData.str).all fun e => PySem.W.alike d e) = true := by
    simp [PySem.W.alike]
  have h2 : ((ws.map PyData.str).all noTup) = true := by simp [noTup]
  have h3 : ((ws.map PyData.str).all fun d => decide (d.depth ≤ 32)) = true := by simp [PyData.depth]
  rw [h1, h2, h3]
  simp
theorem sortS_seq (o : O) (ws : List Str) (h : o.seq? = some (ws.map PyData.str)) (hd : ∀ es, o ≠ .dic es) (hs : ∀ z, o ≠ .set z) : sortS o = if ws.length ≤ sizeLine then some (.lst ((sortT ws).map PyData.str)) else none := by
  unfold sortS
  split
  · exact absurd rfl (hd _)
  · exact absurd rfl (hs _)
  · rw [h]
    simp only [sortOk_strs, sortD_strs, decide_eq_true_eq]
    rfl
@[simp] theorem sortS_lst (ws : List Str) : sortS (.lst (ws.map PyData.str)) = if ws.length ≤ sizeLine then some (.lst ((sortT ws).map PyData.str)) else none := sortS_seq _ ws rfl (by simp) (by simp)
@[simp] theorem sortS_list (ws : List Str) : sortS (.val (.list (ws.map PyData.str))) = if ws.length ≤ sizeLine then some (.lst ((sortT ws).map PyData.str)) else none := sortS_seq _ ws rfl (by simp) (by simp)
@[simp] theorem sortS_tup (ws : List Str) : sortS (.val (.tuple (ws.map PyData.str))) = if ws.length ≤ sizeLine then some (.lst ((sortT ws).map PyData.str)) else none := sortS_seq _ ws rfl (by simp) (by simp)
@[simp] theorem sortS_set (ws : List Str) : sortS (.set ws) = if ws.length ≤ sizeLine then some (.lst ((sortT ws).map PyData.str)) else none := by
  unfold sortS
  simp only [sortOk_strs, sortD_strs, decide_eq_true_eq]
  rfl
theorem sortT_nil : sortT [] = [] := by simp [sortT]
@[simp] theorem sortS_nil : sortS (.lst []) = some (.lst []) := by
  have := sortS_lst []
  simpa [sortT_nil] using this
@[simp] theorem sortS_sd {β : Type} (f : β → D) (es : List (Str × β)) : sortS (.dic (sd f es)) = if es.length ≤ sizeLine then some (.lst ((sortT (es.map (·.1))).map PyData.str)) else none := by
  unfold sortS
  have h : (sd f es).map (·.1) = (es.map (·.1)).map PyData.str := by simp [sd]
  have h1 : ((sd f es).all fun e => (keyOf e.1).isSome) = true := by simp [sd, keyOf]
  simp only [h, h1, Bool.true_and, sortOk_strs, sortD_strs, decide_eq_true_eq, List.length_map]
  rfl
@[simp] theorem sortS_kd (ws : List Str) : sortS (.dic (kd ws)) = if ws.length ≤ sizeLine then some (.lst ((sortT ws).map PyData.str)) else none := by
  unfold sortS
  have h : (kd ws).map (·.1) = ws.map PyData.str := by simp [kd]
  have h1 : ((kd ws).all fun e => (keyOf e.1).isSome) = true := by simp [kd, keyOf]
  simp only [h, h1, Bool.true_and, sortOk_strs, sortD_strs, decide_eq_true_eq]
  rfl
theorem mem_sortT {ws : List Str} {x : Str} : x ∈ sortT ws ↔ x ∈ ws := (List.mergeSort_perm ws leT).mem_iff
theorem len_sortT (ws : List Str) : (sortT ws).length = ws.length := List.length_mergeSort ws
theorem sortT_nodup {ws : List Str} (h : ws.Nodup) : (sortT ws).Nodup := (List.mergeSort_perm ws leT).nodup_iff.mpr h
/-- two lists without doubles and with the same members are sorted alike -/
theorem sortT_ext {xs ys : List Str} (hx : xs.Nodup) (hy : ys.Nodup) (h : ∀ w, w ∈ xs ↔ w ∈ ys) : sortT xs = sortT ys := by
  have p : xs.Perm ys := (List.perm_ext_iff_of_nodup hx hy).mpr h
  exact one_order leT_anti (((List.mergeSort_perm xs leT).trans p).trans (List.mergeSort_perm ys leT).symm) (sortT_pairwise xs) (sortT_pairwise ys)
/-! ### sets -/
theorem setC_seq (o : O) (ws : List Str) (h : o.seq? = some (ws.map PyData.str)) : setC o = if ws.length + 1 < scanBound then some (.set (metT ws)) else none := by
  unfold setC
  rw [h]
  simp only [Option.bind_some, asStrs_map]
@[simp] theorem setC_lst (ws : List Str) : setC (.lst (ws.map PyData.str)) = if ws.length + 1 < scanBound then some (.set (metT ws)) else none := setC_seq _ ws rfl
@[simp] theorem setC_list (ws : List Str) : setC (.val (.list (ws.map PyData.str))) = if ws.length + 1 < scanBound then some (.set (metT ws)) else none := setC_seq _ ws rfl
@[simp] theorem setC_tup (ws : List Str) : setC (.val (.tuple (ws.map PyData.str))) = if ws.length + 1 < scanBound then some (.set (metT ws)) else none := setC_seq _ ws rfl
@[simp] theorem lenS_set (ws : List Str) : lenS (.set ws) = some (.val (.int ws.length)) := rfl
theorem len_addT (xs : List Str) (k : Str) : (addT xs k).length ≤ xs.length + 1 := by
  unfold addT
  split <;> simp
theorem len_foldT : ∀ (ys xs : List Str), (ys.foldl addT xs).length ≤ xs.length + ys.length
  | [], xs => by simp
  | y :: ys, xs => by
    have h1 := len_foldT ys (addT xs y)
    have h2 := len_addT xs y
    simp only [List.foldl_cons, List.length_cons]
    omega
theorem len_metT (ys : List Str) : (metT ys).length ≤ ys.length := by
  have := len_foldT ys []
  simpa [metT] using this
/-! ### loops -/
theorem forL_ix {α : Type} {f : α → D} {T : Tgt} {fg : List Nat} {b : SS} (I : List α → En → Prop) (ys : List α) (hs : ∀ done x rest ρ, ys = done ++ x :: rest → I done ρ → ∃ ρ', turn T fg b (f x) ρ = .nx ρ' ∧ I (done ++ [x]) ρ') : ∀ (xs done : List α) (ρ : En), ys = done ++ xs → I done ρ →
    ∃ ρ', forL none T fg b (xs.map f) ρ = .nx ρ' ∧ I ys ρ'
  | [], done, ρ, hy, h => ⟨ρ, rfl, by simpa [hy] using h⟩
  | x :: xs, done, ρ, hy, h => by
    obtain ⟨ρ1, h1, h2⟩ := hs done x xs ρ hy h
    obtain ⟨ρ2, h3, h4⟩ := forL_ix I ys hs xs (done ++ [x]) ρ1 (by simpa using hy) h2
    exact ⟨ρ2, by rw [List.map_cons, forL_turn, h1]; exact h3, h4⟩
/-- a for over items: what holds after so many of them -/
theorem forL_all {α : Type} {f : α → D} {T : Tgt} {fg : List Nat} {b : SS} (I : List α → En → Prop) (xs : List α) (ρ : En) (h0 : I [] ρ) (hs : ∀ done x rest ρ, xs = done ++ x :: rest → I done ρ → ∃ ρ', turn T fg b (f x) ρ = .nx ρ' ∧ I (done ++ [x]) ρ') :
    ∃ ρ', forL none T fg b (xs.map f) ρ = .nx ρ' ∧ I xs ρ' := forL_ix I xs hs xs [] ρ rfl h0
theorem forL_rng_ix {lo : Int} {T : Tgt} {fg : List Nat} {b : SS} (I : Nat → En → Prop) (n : Nat) (hs : ∀ k ρ, k < n → I k ρ → ∃ ρ', turn T fg b (.int (lo + (k : Nat))) ρ = .nx ρ' ∧ I (k + 1) ρ') : ∀ (m k : Nat) (ρ : En), k + m = n → I k ρ →
    ∃ ρ', forL none T fg b ((List.range' k m).map fun k => .int (lo + (k : Nat))) ρ = .nx ρ' ∧ I n ρ'
  | 0, k, ρ, hy, h => ⟨ρ, rfl, by simpa [← hy] using h⟩
  | m + 1, k, ρ, hy, h => by
    obtain ⟨ρ1, h1, h2⟩ := hs k ρ (by omega) h
    obtain ⟨ρ2, h3, h4⟩ := forL_rng_ix I n hs m (k + 1) ρ1 (by omega) h2
    exact ⟨ρ2, by rw [List.range'_succ, List.map_cons, forL_turn, h1]; exact h3, h4⟩
/-- for k in range(..): what holds after k turns -/
theorem forL_rng {lo : Int} {T : Tgt} {fg : List Nat} {b : SS} (I : Nat → En → Prop) (n : Nat) (ρ : En) (h0 : I 0 ρ) (hs : ∀ k ρ, k < n → I k ρ → ∃ ρ', turn T fg b (.int (lo + (k : Nat))) ρ = .nx ρ' ∧ I (k + 1) ρ') :
    ∃ ρ', forL none T fg b (rng lo n) ρ = .nx ρ' ∧ I n ρ' := by
  have := forL_rng_ix I n hs n 0 ρ (by omega) h0
  unfold rng
  rw [List.range_eq_range']
  exact this
/-- [e for k in range(..)] -/
theorem lc_rng {lo : Int} {c : Option (Nat × List D)} {T : Tgt} {t : TS'} {g : ES} {own : List Nat} {ρ : En} (e : Nat → D) (n : Nat) (hc : lcC c own (dropE own ρ)) (h : ∀ k, k < n → lturn T t g own (.int (lo + (k : Nat))) (dropE own ρ) = .ok (some (e k)) (dropE own ρ)) :
    lcW c T t g own (rng lo n) ρ = .ok ((List.range n).map e) (restE ρ own (dropE own ρ)) := by
  unfold rng
  exact lc_all e (List.range n) hc fun k hk => h k (List.mem_range.mp hk)
@[simp] theorem lcE_some (T : Tgt) (t : TS') (f : ES) (own : List Nat) (j : Nat) (ds : List D) (ρ : En) : lcE T t f own (some j, ds) ρ = match ρ[j]? with
    | some (some (true, _)) => (lcW (some (j, ds)) T t f own ds ρ).bind fun acc ρ2 => .ok (.tmp (.lst acc)) ρ2
    | some (some (false, o)) => (lcW (some (j, ds)) T t f own ds (ρ.set j (some (true, o)))).bind fun acc ρ2 => .ok (.tmp (.lst acc)) (unpin j ρ2)
    | _ => .stuck := rfl
@[simp] theorem forW_some (T : Tgt) (fg : List Nat) (b : SS) (j : Nat) (ds : List D) (ρ : En) : forW T fg b (some j, ds) ρ = match ρ[j]? with
    | some (some (true, _)) => forL (some (j, ds)) T fg b ds ρ
    | some (some (false, o)) => unpS j (forL (some (j, ds)) T fg b ds (ρ.set j (some (true, o))))
    | _ => .stuck := rfl
@[simp] theorem atI_zero {α : Type} (x : α) (xs : List α) : atI (x :: xs) 0 = some x := by
  rw [atI_nat' _ _ (by omega) (by simp)]
  rfl
@[simp] theorem atI_one {α : Type} (x y : α) (xs : List α) : atI (x :: y :: xs) 1 = some y := by
  rw [atI_nat' _ _ (by omega) (by simp; omega)]
  rfl
@[simp] theorem slS_str (z : Str) (lo hi : Option Int) : slS lo hi (.val (.str z)) = if z.length ≤ sizeLine then some (.val (.str (cutS z lo hi))) else none := rfl
@[simp] theorem slS_tup (ds : List D) (lo hi : Option Int) : slS lo hi (.val (.tuple ds)) = some (.val (.tuple (cutA ds lo hi))) := rfl
@[simp] theorem slS_lst (ds : List D) (lo hi : Option Int) : slS lo hi (.lst ds) = some (.lst (cutA ds lo hi)) := rfl
@[simp] theorem slS_list (ds : List D) (lo hi : Option Int) : slS lo hi (.val (.list ds)) = some (.lst (cutA ds lo hi)) := rfl
/-! ### the end of a def -/
def finO (os : List O) (so : SOut) : FOut := match so with
  | .nx ρ => (match fins os ρ with | some fin => .ret (.val .none) fin | none => .stuck)
  | .rt o ρ => (match fins os ρ with | some fin => .ret o fin | none => .stuck)
  | .exc c ρ => (match fins os ρ with | some fin => .exc c fin | none => .stuck)
  | _ => .stuck
theorem runF_fin (n : Nat) (b : SS) (os : List O) : runF n b os = finO os (b (startE n os)) := rfl
@[simp] theorem finO_nx (os : List O) (ρ : En) : finO os (.nx ρ) = (match fins os ρ with | some fin => .ret (.val .none) fin | none => .stuck) := rfl
@[simp] theorem finO_rt (os : List O) (o : O) (ρ : En) : finO os (.rt o ρ) = (match fins os ρ with | some fin => .ret o fin | none => .stuck) := rfl
@[simp] theorem finO_exc (os : List O) (c : Nat) (ρ : En) : finO os (.exc c ρ) = (match fins os ρ with | some fin => .exc c fin | none => .stuck) := rfl
end Eng
/-! The laws' makers of books: what they tell. -/
namespace Eng
open PySem PySem.Spec L2 SX
open PyProof.Rows hiding St
def mixI (c k : Int) : Int := ((c % 1000000000000000 + 1) * 48271 + k * k * 16807 + k * 7919) % 2147483647 * 69621 % 2147483629
theorem l_mix_eq (c k : Int) (h : -100000 ≤ k ∧ k ≤ 100000) : f_l_mix [.val (.int c), .val (.int k)] = .ret (.val (.int (mixI c k))) [.val (.int c), .val (.int k)] := by
  have h1 : -18446744073709551616 < k := by omega
  have h2 : k < 18446744073709551616 := by omega
  simp [f_l_mix, b_l_mix, runF_ap, h1, h2, mixI]
/-- a cell of the script, any whole number -/
theorem l_cell_ex (ns : List Int) (k : Int) (h : 0 ≤ k ∧ k ≤ 100000) : ∃ c, f_l_cell [.scr ns, .val (.int k)] = .ret (.val (.int c)) [.scr ns, .val (.int k)] := by
  by_cases hk : k < ns.length
  · have := atI_nat' ns k h.1 hk
    have hl : k.toNat < ns.length := by omega
    simp [f_l_cell, b_l_cell, runF_ap, hk, this, hl]
  · by_cases hn : ns = []
    · subst hn
      have e := fun c => l_mix_eq c k (by omega)
      have hk' : ¬ k < 0 := by omega
      simp [f_l_cell, b_l_cell, runF_ap, hk', e]
    · have hp : 0 < ns.length := by cases ns <;> simp_all
      have hp' : 0 < (ns.length : Int) := by omega
      have m1 := Int.emod_nonneg k (show (ns.length : Int) ≠ 0 by omega)
      have m2 := Int.emod_lt_of_pos k hp'
      have := atI_nat' ns (k % ns.length) m1 m2
      have hl : (k % ns.length).toNat < ns.length := by omega
      have e := fun c => l_mix_eq c k (by omega)
      simp [f_l_cell, b_l_cell, runF_ap, hk, hp, this, hl, e]
/-- the draws of a cell -/
def Dr (n : Nat) (ds : List Int) : Prop := ds.length = n ∧ ∀ d ∈ ds, 0 ≤ d ∧ d < 4096
theorem l_drawn_ex (c : Int) (n : Nat) (hn : n ≤ 1000) : ∃ ds : List Int, f_l_drawn [.val (.int c), .val (.int n)] = .ret (.lst (ds.map .int)) [.val (.int c), .val (.int n)] ∧ Dr n ds := by
  obtain ⟨ρ', e, ds, hd, left, rfl⟩ := forL_rng (lo := 0) (T := .nm 4) (fg := [4]) (b := w_l_drawn_1)
    (fun k ρ => ∃ ds : List Int, Dr k ds ∧ ∃ left : Int, ρ = [some (false, .val (.int c)), some (false, .val (.int n)), some (false, .lst (ds.map .int)), some (false, .val (.int left)), none])
    n [some (false, .val (.int c)), some (false, .val (.int n)), some (false, .lst []), some (false, .val (.int (c / 2))), none] ⟨[], by simp [Dr], c / 2, rfl⟩ (by
    rintro k ρ hk ⟨ds, ⟨hl, hd⟩, left, rfl⟩
    have e := l_mix_eq c k (by omega)
    have hz : ds.length < sizeLine := Nat.lt_of_lt_of_le (show ds.length < 1000 by omega) (by decide)
    by_cases hc : c % 2 = 0
    · refine ⟨_, by simp [turn_ap, w_l_drawn_1, hc, hz]; rfl, ds ++ [left % 64], ⟨by simp [hl], ?_⟩, left / 64, by simp⟩
      intro d hd'
      rw [List.mem_append, List.mem_singleton] at hd'
      rcases hd' with h | rfl
      · exact hd d h
      · omega
    · refine ⟨_, by simp [turn_ap, w_l_drawn_1, hc, hz, e]; rfl, ds ++ [mixI c k / 7 % 4096], ⟨by simp [hl], ?_⟩, left, by simp⟩
      intro d hd'
      rw [List.mem_append, List.mem_singleton] at hd'
      rcases hd' with h | rfl
      · exact hd d h
      · omega)
  refine ⟨ds, ?_, hd⟩
  have hb : (n : Int) ≤ 1000000 := by omega
  have hb' : (-4611686018427387904 : Int) ≤ n := by omega
  simp [f_l_drawn, b_l_drawn, runF_ap, hb, hb']
  rw [e]
  simp
def dat (ds : List Int) (i : Int) : Int := ds[i.toNat]?.getD 0
theorem Dr.at {n : Nat} {ds : List Int} (h : Dr n ds) (i : Int) (h0 : 0 ≤ i) (h1 : i < n) : atI (ds.map PyData.int) i = some (.int (dat ds i)) ∧ 0 ≤ dat ds i ∧ dat ds i < 4096 := by
  have hl : i.toNat < ds.length := by have := h.1; omega
  have e : dat ds i = ds[i.toNat] := by simp [dat, hl]
  rw [e]
  refine ⟨?_, h.2 _ (List.getElem_mem hl)⟩
  rw [atI_map, atI_nat' _ _ h0 (by have := h.1; omega), List.getElem?_eq_getElem hl]
  rfl
/-! ### words -/
/-- one to eight small letters -/
def Stem (l : List Nat) : Prop := 1 ≤ l.length ∧ l.length ≤ 8 ∧ ∀ c ∈ l, 97 ≤ c ∧ c ≤ 122
/-- a word: a stem, alone or with a number from 2 to 99 -/
def WW (w : Str) : Prop := ∃ l, Stem l ∧ (w = S l ∨ ∃ n : Nat, 2 ≤ n ∧ n ≤ 99 ∧ w = S (l ++ 47 :: TL.numL n))
theorem numL_len {n : Nat} (h : n ≤ 99) : (TL.numL n).length ≤ 2 := by
  by_cases h' : n < 10
  · rw [TL.numL_lt h']; simp
  · rw [TL.numL_step (by omega), TL.numL_lt (by omega)]; simp
theorem slash : (Str.ofString "/") = S [47] := by decide +kernel
theorem abc : (Str.ofString "abcdefghijklmnopqrstuvwxyz") = S ((List.range 26).map (97 + ·)) := by decide +kernel
theorem nostr : (Str.ofString "") = S [] := by decide +kernel
theorem Stem.no47 {l : List Nat} (h : Stem l) : 47 ∉ l := fun hm => by have := h.2.2 _ hm; omega
theorem num_no47 (n : Nat) : 47 ∉ TL.numL n := fun hm => by
  have := TL.numL_digits n 47 hm
  revert this
  decide
theorem WW.len {w : Str} (h : WW w) : w.length ≤ 11 ∧ 1 ≤ w.length := by
  obtain ⟨l, hl, rfl | ⟨n, h2, h9, rfl⟩⟩ := h
  · rw [S_len]; exact ⟨Nat.le_trans hl.2.1 (by decide), hl.1⟩
  · have := numL_len h9
    have := hl.1
    have := hl.2.1
    rw [S_len, List.length_append, List.length_cons]
    omega
theorem split_stem {l : List Nat} (h : Stem l) : Txt.split (S l) (Str.ofString "/") = [S l] := by
  rw [slash, split_S (by simp) (by decide), TL.spl_last1 h.no47]
  rfl
theorem split_sense {l : List Nat} (h : Stem l) (n : Nat) : Txt.split (S (l ++ 47 :: TL.numL n)) (Str.ofString "/") = [S l, S (TL.numL n)] := by
  have e := TL.spl_part1 (S := []) (p := l) (rest := TL.numL n) (acc := []) h.no47
  have e2 := TL.spl_last1 (S := []) (acc := []) (num_no47 n)
  rw [slash, split_S (by simp) (by decide)]
  rw [show l ++ 47 :: TL.numL n = l ++ ([47] ++ TL.numL n) by simp, e, e2]
  rfl
theorem WW.split {w : Str} (h : WW w) : ∃ l r, Stem l ∧ Txt.split w (Str.ofString "/") = S l :: r := by
  obtain ⟨l, hl, rfl | ⟨n, h2, h9, rfl⟩⟩ := h
  · exact ⟨l, [], hl, split_stem hl⟩
  · exact ⟨l, [S (TL.numL n)], hl, split_sense hl n⟩
theorem abc_at {i : Int} (h0 : 0 ≤ i) (h1 : i < 26) : atI (Str.ofString "abcdefghijklmnopqrstuvwxyz").cps.toList i = some (97 + i.toNat) := by
  have e : (Str.ofString "abcdefghijklmnopqrstuvwxyz").cps.toList = (List.range 26).map (97 + ·) := by rw [abc]
  rw [e, atI_nat' _ _ h0 (by simpa using h1), List.getElem?_map, List.getElem?_range (by omega)]
  rfl
theorem abc_len : (Str.ofString "abcdefghijklmnopqrstuvwxyz").length = 26 := by rw [abc, S_len]; rfl
theorem joinL_ones : ∀ l : List Nat, TL.joinL [] (l.map fun c => [c]) = l
  | [] => rfl
  | [c] => rfl
  | c :: d :: l => by
    have := joinL_ones (d :: l)
    simp only [List.map_cons] at this ⊢
    rw [TL.joinL, this]
    rfl
theorem join_ones (l : List Nat) : Txt.join (Str.ofString "") (l.map fun c => S [c]) = S l := by
  have := join_S [] (l.map fun c => [c])
  rw [List.map_map, joinL_ones] at this
  rw [nostr]
  exact this
theorem sub_len {α : Type} [DecidableEq α] : ∀ {xs ys : List α}, xs.Nodup → (∀ x ∈ xs, x ∈ ys) → xs.length ≤ ys.length
  | [], _, _, _ => Nat.zero_le _
  | x :: xs, ys, h, hs => by
    have hx : x ∈ ys := hs x List.mem_cons_self
    have h1 := List.nodup_cons.mp h
    have := sub_len (xs := xs) (ys := ys.erase x) h1.2 fun y hy => (List.mem_erase_of_ne fun (e : y = x) => h1.1 (e ▸ hy)).mpr (hs y (List.mem_cons_of_mem _ hy))
    rw [List.length_erase_of_mem hx] at this
    have := List.length_pos_of_mem hx
    simp only [List.length_cons]
    omega
def ltr (d : Int) : Nat := 97 + (d % 26).toNat
theorem stem_of {l : List Nat} (h1 : 1 ≤ l.length) (h2 : l.length ≤ 8) (h3 : ∀ c ∈ l, 97 ≤ c ∧ c ≤ 122) : Stem l := ⟨h1, h2, h3⟩
theorem ltr_low (d : Int) : 97 ≤ ltr d ∧ ltr d ≤ 122 := by
  unfold ltr
  have := Int.emod_nonneg d (show (26 : Int) ≠ 0 by decide)
  have := Int.emod_lt_of_pos d (show (0 : Int) < 26 by decide)
  omega
theorem cat_slash (l : List Nat) (n : Nat) : S l ++ Str.ofString "/" ++ S (TL.numL n) = S (l ++ 47 :: TL.numL n) := by
  rw [slash, S_cat, S_cat]
  simp
theorem sum_ones {α : Type} : ∀ xs : List α, (xs.map fun _ => 1).sum = xs.length
  | [] => rfl
  | x :: xs => by
    rw [List.map_cons, List.sum_cons, sum_ones xs, List.length_cons]
    omega
end Eng
/-! The laws' makers of books, II: names, told words, books. -/
namespace Eng
open PySem PySem.Spec L2 SX
open PyProof.Rows hiding St
theorem small {n m : Nat} (h : n ≤ m) (hm : m < sizeLine := by decide) : n < sizeLine := Nat.lt_of_le_of_lt h hm
/-- words told: nought to eight of these, no two alike -/
def Td (ns ws : List Str) : Prop := ws.length ≤ 8 ∧ ws.Nodup ∧ ∀ w ∈ ws, w ∈ ns
theorem at_strs {ns : List Str} {i : Int} (h0 : 0 ≤ i) (h1 : i < ns.length) : ∃ w, atI (ns.map PyData.str) i = some (.str w) ∧ w ∈ ns := by
  have hl : i.toNat < ns.length := by omega
  refine ⟨ns[i.toNat], ?_, List.getElem_mem hl⟩
  rw [atI_map, atI_nat' _ _ h0 h1, List.getElem?_eq_getElem hl]
  rfl
end Eng
/-! The laws' makers of books, III: rows as keys, books. -/
namespace Eng
open PySem PySem.Spec L2 SX
open PyProof.Rows hiding St
theorem eqvAll_strs (a b : List Str) : PyData.eqvAll (a.map PyData.str) (b.map PyData.str) = decide (a = b) := by
  induction a generalizing b with
  | nil => cases b <;> simp [PyData.eqvAll]
  | cons x a ih =>
    cases b with
    | nil => simp [PyData.eqvAll]
    | cons y b =>
      simp only [List.map_cons, PyData.eqvAll, PyData.eqv, ih]
      by_cases h : x = y
      · by_cases h2 : a = b <;> simp [h, h2]
      · simp [h]
theorem eqv_eW (a b : List Str) : PyData.eqv (eW a) (eW b) = decide (a = b) := by
  simp only [eW, PyData.eqv, eqvAll_strs]
theorem eqv_row (r s : Row) : PyData.eqv (eRow r) (eRow s) = decide (r = s) := by
  obtain ⟨x, a⟩ := r
  obtain ⟨y, b⟩ := s
  simp only [eRow, PyData.eqv, PyData.eqvAll, eqv_eW]
  by_cases h : x = y
  · by_cases h2 : a = b <;> simp [h, h2]
  · simp [h]
theorem nkeys_strs (ws : List Str) : nkey.nkeys (ws.map PyData.str) = some (ws.map NestedKey.text) := by
  induction ws with
  | nil => rfl
  | cons w ws ih => simp [nkey.nkeys, nkey, ih]
theorem depth_texts (ws : List Str) : NestedKey.depthAll (ws.map NestedKey.text) = 0 := by
  induction ws with
  | nil => simp [NestedKey.depthAll]
  | cons w ws ih => simp [NestedKey.depthAll, NestedKey.depth, ih]
theorem nkey_row (r : Row) : (nkOf (eRow r)).isSome = true := by
  obtain ⟨x, a⟩ := r
  unfold nkOf
  simp [eRow, eW, nkey, nkey.nkeys, nkeys_strs, NestedKey.depth, NestedKey.depthAll, depth_texts]
/-- a dict whose keys are rows -/
def rd (rs : List Row) : List (D × D) := rs.map fun r => (eRow r, .bool true)
def addR (rs : List Row) (r : Row) : List Row := if r ∈ rs then rs else rs ++ [r]
theorem dOk_rd (rs : List Row) (r : Row) : dOk (rd rs) (eRow r) = true := by
  simp [dOk, rd, nkey_row]
theorem dhas_rd (rs : List Row) (r : Row) : dhas (rd rs) (eRow r) = decide (r ∈ rs) := by
  unfold dhas rd
  rw [List.any_map]
  induction rs with
  | nil => simp
  | cons s rs ih =>
    rw [List.any_cons, ih]
    simp only [Function.comp, eqv_row]
    by_cases h : s = r
    · simp [h]
    · have : ¬ r = s := fun e => h e.symm
      simp [h, this]
theorem dput_rd (rs : List Row) (r : Row) : dput (rd rs) (eRow r) (.bool true) = rd (addR rs r) := by
  unfold dput addR
  rw [dhas_rd]
  by_cases h : r ∈ rs
  · simp only [h, decide_true, if_true]
    unfold rd
    rw [List.map_map]
    refine List.map_congr_left fun w hw => ?_
    simp only [Function.comp]
    split <;> rfl
  · simp only [h, decide_false, Bool.false_eq_true, if_false]
    unfold rd
    rw [List.map_append]
    rfl
@[simp] theorem inS_rd (r : Row) (rs : List Row) : inS (.val (eRow r)) (.dic (rd rs)) = some (.val (.bool (decide (r ∈ rs)))) := by
  unfold inS hasS
  simp only [dOk_rd, dhas_rd, if_true]
  rfl
@[simp] theorem notinS_rd (r : Row) (rs : List Row) : notinS (.val (eRow r)) (.dic (rd rs)) = some (.val (.bool (!decide (r ∈ rs)))) := by
  unfold notinS hasS
  simp only [dOk_rd, dhas_rd, if_true]
  rfl
theorem len_rd (rs : List Row) : (rd rs).length = rs.length := by simp [rd]
@[simp] theorem setS_rd (r : Row) (rs : List Row) : setS (.dic (rd rs)) (eRow r) (.bool true) = if rs.length < sizeLine then some (.dic (rd (addR rs r))) else none := by
  unfold setS
  simp only [dOk_rd, dput_rd, len_rd, true_and]
@[simp] theorem ixS_row0 (r : Row) : ixS (.val (eRow r)) (.val (.int 0)) = some (.val (.str r.1)) := by
  simp [eRow]
@[simp] theorem ixS_row1 (r : Row) : ixS (.val (eRow r)) (.val (.int 1)) = some (.val (eW r.2)) := by
  simp [eRow]
@[simp] theorem seq_eW (ws : List Str) : (O.val (eW ws)).seq? = some (ws.map .str) := rfl
@[simp] theorem itemsD_eW (ws : List Str) : itemsD (eW ws) = some (ws.map .str) := rfl
@[simp] theorem sortS_eW (ws : List Str) : sortS (.val (eW ws)) = if ws.length ≤ sizeLine then some (.lst ((sortT ws).map PyData.str)) else none := sortS_tup ws
@[simp] theorem inS_eW (x : Str) (ws : List Str) : inS (.val (.str x)) (.val (eW ws)) = some (.val (.bool (decide (x ∈ ws)))) := inS_tup x ws
@[simp] theorem notinS_eW (x : Str) (ws : List Str) : notinS (.val (.str x)) (.val (eW ws)) = some (.val (.bool (!decide (x ∈ ws)))) := notinS_tup x ws
@[simp] theorem lenS_eW (ws : List Str) : lenS (.val (eW ws)) = some (.val (.int ws.length)) := by simp [eW]
/-- the row with its words told sorted -/
def keyR (r : Row) : Row := (r.1, sortT r.2)
/-- a row of a book over these words -/
def Rw (ns : List Str) (r : Row) : Prop := r.1 ∈ ns ∧ Td ns r.2
/-- a book: at most so many rows, no two alike, over these words -/
structure Bk (ns : List Str) (n : Nat) (b : List Row) : Prop where
  len : b.length ≤ n
  row : ∀ r ∈ b, Rw ns r
  key : (b.map keyR).Nodup
theorem Bk.mono {ns : List Str} {n m : Nat} {b : List Row} (h : Bk ns n b) (hn : n ≤ m) : Bk ns m b := ⟨Nat.le_trans h.len hn, h.row, h.key⟩
end Eng
/-! Rounds. -/
namespace Eng
open PySem PySem.Spec L2 SX
open PyProof.Rows hiding St
/-- a book that the defs are asked about -/
structure Bo (b : List Row) : Prop where
  len : b.length ≤ 200
  row : ∀ r ∈ b, WW r.1 ∧ r.2.length ≤ 20 ∧ ∀ w ∈ r.2, WW w
theorem Bk.bo {ns : List Str} {n : Nat} {b : List Row} (h : Bk ns n b) (hn : n ≤ 200) (hw : ∀ w ∈ ns, WW w) : Bo b :=
  ⟨Nat.le_trans h.len hn, fun r hr => by
    have := h.row r hr
    exact ⟨hw _ this.1, Nat.le_trans this.2.1 (by decide), fun w h2 => hw _ (this.2.2.2 w h2)⟩⟩
@[simp] theorem itemsD_eBk (b : List Row) : itemsD (eBk b) = some (b.map eRow) := rfl
@[simp] theorem lenS_eBk (b : List Row) : lenS (.val (eBk b)) = some (.val (.int b.length)) := by simp [eBk]
@[simp] theorem Tgt_row (i j : Nat) (r : Row) (ρ : En) : (Tgt.tup [i, j]).put (eRow r) ρ = setDs [i, j] [.str r.1, eW r.2] ρ := rfl
@[simp] theorem own_eRow (r : Row) : (O.val (eRow r)).own = false := rfl
theorem anyS_map {α : Type} (f : α → Bool) (xs : List α) : anyS (.lst (xs.map fun x => PyData.bool (f x))) = some (.val (.bool (xs.any f))) := by
  have : (xs.map fun x => PyData.bool (f x)) = (xs.map f).map PyData.bool := by rw [List.map_map]; rfl
  rw [this]
  simp only [anyS_ap, list_lst, Option.bind_some, asBools_map, Option.map_some]
  rw [List.any_map]
  rfl
theorem WW.ok {w : Str} (h : WW w) : PyData.strOk w = true := by
  have key : ∀ l : List Nat, (∀ c ∈ l, c < 200) → PyData.strOk (S l) = true := fun l hl => by
    unfold PyData.strOk
    rw [← Array.all_toList]
    simp only [List.all_eq_true, decide_eq_true_eq]
    intro c hc
    have := hl c hc
    omega
  obtain ⟨l, hl, rfl | ⟨n, h2, h9, rfl⟩⟩ := h
  · exact key l fun c hc => by have := hl.2.2 c hc; omega
  · refine key _ fun c hc => ?_
    rcases List.mem_append.mp hc with h | h
    · have := hl.2.2 c h; omega
    · rcases List.mem_cons.mp h with rfl | h
      · omega
      · have := TL.numL_digits n c h
        omega
theorem canAll_strs {ws : List Str} (h : ∀ w ∈ ws, WW w) : PyData.canLayAll0 (ws.map PyData.str) = true := by
  induction ws with
  | nil => rfl
  | cons w ws ih =>
    simp only [List.map_cons, PyData.canLayAll0, PyData.canLay0, Bool.and_eq_true]
    exact ⟨(h w List.mem_cons_self).ok, ih fun v hv => h v (List.mem_cons_of_mem _ hv)⟩
theorem depthAll_strs (ws : List Str) : PyData.depthAll (ws.map PyData.str) = 0 := by
  induction ws with
  | nil => rfl
  | cons w ws ih => simp [PyData.depthAll, PyData.depth, ih]
theorem shaped_list {ws : List Str} (h : ∀ w ∈ ws, WW w) : SeqAt.shaped (.list (ws.map PyData.str)) = true := by
  unfold SeqAt.shaped
  simp [PyData.canLay0, canAll_strs h, PyData.depth, depthAll_strs]
theorem eqS_lsts {a b : List Str} (ha : ∀ w ∈ a, WW w) (hb : ∀ w ∈ b, WW w) : eqS (.lst (a.map PyData.str)) (.lst (b.map PyData.str)) = some (.val (.bool (decide (a = b)))) := by
  simp only [eqS, view_lst, eqD?, shaped_list ha, shaped_list hb, Bool.and_self, Bool.or_true, if_true, PyData.eqv, eqvAll_strs, Option.map_some]
/-! ### rounds, plainly -/
/-- the row's word is new, and what is told is known -/
def rdy (k : List Str) (r : Row) : Bool := !decide (r.1 ∈ k) && r.2.all fun w => decide (w ∈ k)
def heads (b : List Row) : List Str := b.map (·.1)
/-- the words that come next -/
def frs (b : List Row) (k : List Str) : List Str := sortT (metT (heads (b.filter (rdy k))))
def rndF (b : List Row) : Nat → List Str → List (List Str)
  | 0, _ => []
  | n + 1, k => if frs b k = [] then [] else frs b k :: rndF b n (k ++ frs b k)
/-- the rounds of a book -/
def rnd (b : List Row) : List (List Str) := rndF b (b.length + 1) []
theorem frs_mem {b : List Row} {k : List Str} {w : Str} : w ∈ frs b k ↔ ∃ r ∈ b, r.1 = w ∧ rdy k r = true := by
  unfold frs heads
  rw [mem_sortT, mem_metT, List.mem_map]
  constructor
  · rintro ⟨r, hr, rfl⟩
    rw [List.mem_filter] at hr
    exact ⟨r, hr.1, rfl, hr.2⟩
  · rintro ⟨r, hr, rfl, h⟩
    exact ⟨r, List.mem_filter.mpr ⟨hr, h⟩, rfl⟩
theorem frs_nodup (b : List Row) (k : List Str) : (frs b k).Nodup := sortT_nodup (metT_nodup _)
theorem frs_new {b : List Row} {k : List Str} {w : Str} (h : w ∈ frs b k) : w ∉ k := by
  obtain ⟨r, hr, rfl, q⟩ := frs_mem.mp h
  unfold rdy at q
  simp only [Bool.and_eq_true, Bool.not_eq_true', decide_eq_false_iff_not] at q
  exact q.1
/-- rows whose word is not known: fewer and fewer -/
def left (b : List Row) (k : List Str) : Nat := (b.filter fun r => !decide (r.1 ∈ k)).length
theorem left_le (b : List Row) (k : List Str) : left b k ≤ b.length := List.length_filter_le _ _
theorem filter_lt {α : Type} {p q : α → Bool} : ∀ {l : List α}, (∀ x ∈ l, q x = true → p x = true) → (∃ x ∈ l, p x = true ∧ q x = false) → (l.filter q).length < (l.filter p).length
  | [], _, h => by obtain ⟨x, hx, _⟩ := h; simp at hx
  | x :: l, hpq, h => by
    have le : (l.filter q).length ≤ (l.filter p).length := by
      clear h
      induction l with
      | nil => simp
      | cons y l ih =>
        have ih := ih fun z hz => hpq z (by simp only [List.mem_cons] at hz ⊢; rcases hz with h | h; exact .inl h; exact .inr (.inr h))
        have hy := hpq y (by simp)
        rw [List.filter_cons, List.filter_cons]
        cases hq : q y with
        | true => simp [hy hq]; omega
        | false =>
          cases hp : p y with
          | true => simp; omega
          | false => simp; omega
    rw [List.filter_cons, List.filter_cons]
    cases hq : q x with
    | true =>
      have hp := hpq x List.mem_cons_self hq
      simp only [hp, if_true, List.length_cons]
      have : (l.filter q).length < (l.filter p).length := filter_lt (fun y hy => hpq y (List.mem_cons_of_mem _ hy)) (by
        obtain ⟨y, hy, h1, h2⟩ := h
        rcases List.mem_cons.mp hy with rfl | hy
        · rw [hq] at h2; cases h2
        · exact ⟨y, hy, h1, h2⟩)
      omega
    | false =>
      simp only [Bool.false_eq_true, if_false]
      cases hp : p x with
      | true => simp only [if_true, List.length_cons]; omega
      | false =>
        simp only [Bool.false_eq_true, if_false]
        exact filter_lt (fun y hy => hpq y (List.mem_cons_of_mem _ hy)) (by
          obtain ⟨y, hy, h1, h2⟩ := h
          rcases List.mem_cons.mp hy with rfl | hy
          · rw [hp] at h1; cases h1
          · exact ⟨y, hy, h1, h2⟩)
theorem left_lt {b : List Row} {k : List Str} (h : frs b k ≠ []) : left b (k ++ frs b k) < left b k := by
  obtain ⟨w, hw⟩ := List.exists_mem_of_ne_nil _ h
  obtain ⟨r, hr, e, q⟩ := frs_mem.mp hw
  have hn := frs_new hw
  refine filter_lt (fun s hs h1 => ?_) ⟨r, hr, ?_, ?_⟩
  · simp only [List.mem_append, Bool.not_eq_true', decide_eq_false_iff_not] at h1 ⊢
    exact fun h => h1 (.inl h)
  · simpa [e] using hn
  · simp [e, hw]
end Eng
/-! Rounds: the defs. -/
namespace Eng
open PySem PySem.Spec L2 SX
open PyProof.Rows hiding St
theorem metT_snoc (xs : List Str) (x : Str) : metT (xs ++ [x]) = addT (metT xs) x := by
  unfold metT
  rw [List.foldl_append]
  rfl
/-- words that are heads of rows, none twice: what is known -/
def Kn (b : List Row) (k : List Str) : Prop := k.Nodup ∧ ∀ w ∈ k, w ∈ heads b
theorem Kn.len {b : List Row} {k : List Str} (h : Kn b k) : k.length ≤ b.length := by
  have := sub_len h.1 h.2
  unfold heads at this
  rwa [List.length_map] at this
theorem Kn.nil (b : List Row) : Kn b [] := ⟨List.nodup_nil, by simp⟩
theorem frs_head {b : List Row} {k : List Str} {w : Str} (h : w ∈ frs b k) : w ∈ heads b := by
  obtain ⟨r, hr, rfl, _⟩ := frs_mem.mp h
  exact List.mem_map_of_mem hr
theorem Kn.add {b : List Row} {k : List Str} {w : Str} (h : Kn b k) (hw : w ∈ heads b) : Kn b (addT k w) := ⟨addT_nodup h.1, fun v hv => by
  rcases mem_addT.mp hv with h1 | rfl
  · exact h.2 v h1
  · exact hw⟩
theorem Kn.app {b : List Row} {k : List Str} (h : Kn b k) : Kn b (k ++ frs b k) := ⟨List.nodup_append.mpr ⟨h.1, frs_nodup b k, fun a ha c hc e => frs_new hc (e ▸ ha)⟩, fun v hv => by
  rcases List.mem_append.mp hv with h1 | h1
  · exact h.2 v h1
  · exact frs_head h1⟩
def eL (ws : List Str) : D := .list (ws.map PyData.str)
@[simp] theorem itemsD_eL (ws : List Str) : itemsD (eL ws) = some (ws.map .str) := rfl
@[simp] theorem list_eL (ws : List Str) : PyData.list (ws.map PyData.str) = eL ws := rfl
end Eng
/-! The law's rounds; learnt; order. -/
namespace Eng
open PySem PySem.Spec L2 SX
open PyProof.Rows hiding St
/-! ### what the rounds are -/
theorem rndF_flat {b : List Row} : ∀ {n : Nat} {k : List Str}, Kn b k → Kn b (k ++ (rndF b n k).flatten)
  | 0, k, h => by simpa [rndF] using h
  | n + 1, k, h => by
    unfold rndF
    split
    · simpa using h
    · have := rndF_flat (n := n) h.app
      simpa using this
theorem rnd_kn (b : List Row) : Kn b (rnd b).flatten := by
  have := rndF_flat (n := b.length + 1) (Kn.nil b)
  simpa [rnd] using this
end Eng
/-! Orders. -/
namespace Eng
open PySem PySem.Spec L2 SX
open PyProof.Rows hiding St
theorem ixS_eBk {b : List Row} {i : Nat} {r : Row} (h : b[i]? = some r) : ixS (.val (eBk b)) (.val (.int (i : Int))) = some (.val (eRow r)) := by
  have hl : i < b.length := (List.getElem?_eq_some_iff.mp h).1
  have : atI (b.map eRow) (i : Int) = some (eRow r) := by
    rw [atI_map, atI_nat' _ _ (by omega) (by omega)]
    simp [h]
  simp [eBk, this]
/-- a step: a word, the place of a row -/
abbrev Stp := Str × Nat
theorem addT_new {k : List Str} {w : Str} (h : w ∉ k) : addT k w = k ++ [w] := by
  unfold addT
  rw [if_neg h]
/-! ### steps walked -/
def Walk (b : List Row) : List Str → List Stp → Prop
  | _, [] => True
  | k, (w, n) :: st => w ∉ k ∧ (∃ r, b[n]? = some r ∧ r.1 = w ∧ ∀ v ∈ r.2, v ∈ k) ∧ Walk b (k ++ [w]) st
theorem Walk.at {b : List Row} : ∀ {done : List Stp} {k : List Str} {w : Str} {n : Nat} {rest : List Stp}, Walk b k (done ++ (w, n) :: rest) → w ∉ k ++ done.map (·.1) ∧ ∃ r, b[n]? = some r ∧ r.1 = w ∧ ∀ v ∈ r.2, v ∈ k ++ done.map (·.1)
  | [], k, w, n, rest, h => by
    obtain ⟨r, h2, h3, h4⟩ := h.2.1
    exact ⟨by simpa using h.1, r, h2, h3, by simpa using h4⟩
  | (v, m) :: done, k, w, n, rest, h => by
    have := Walk.at (done := done) h.2.2
    simpa using this
end Eng
/-! Words of books, rows of words, wider books. -/
namespace Eng
open PySem PySem.Spec L2 SX
open PyProof.Rows hiding St
/-- all words that stand in a book, as they stand -/
def wl (b : List Row) : List Str := (b.map fun r => r.1 :: r.2).flatten
/-- all words of a book, sorted -/
def wds (b : List Row) : List Str := sortT (metT (wl b))
theorem wl_len : ∀ {b : List Row}, (∀ r ∈ b, r.2.length ≤ 20) → (wl b).length ≤ b.length * 21
  | [], _ => by simp [wl]
  | r :: b, h => by
    have h1 := h r List.mem_cons_self
    have h2 := wl_len (b := b) fun s hs => h s (List.mem_cons_of_mem _ hs)
    simp only [wl, List.map_cons, List.flatten_cons, List.length_append, List.length_cons] at h2 ⊢
    omega
theorem wl_app (a b : List Row) : wl (a ++ b) = wl a ++ wl b := by simp [wl]
theorem Bo.wl_len {b : List Row} (h : Bo b) : (wl b).length ≤ 4200 := by
  have h1 := Eng.wl_len (b := b) fun r hr => (h.row r hr).2.1
  have := h.len
  omega
theorem Bo.sub {b done rest : List Row} (h : Bo b) (e : b = done ++ rest) : Bo done := ⟨by
  have := h.len
  rw [e] at this
  simp at this
  omega, fun r hr => h.row r (by rw [e]; exact List.mem_append.mpr (.inl hr))⟩
theorem words_of_eq (b : List Row) (hb : Bo b) : f_words_of [.val (eBk b)] = .ret (.lst ((wds b).map .str)) [.val (eBk b)] := by
  obtain ⟨ρ', e, rfl⟩ := forL_all (f := eRow) (T := .tup [2, 3]) (fg := [2, 3, 4]) (b := w_words_of_1)
    (fun done ρ => ρ = [some (false, .val (eBk b)), some (false, .dic (kd (metT (wl done)))), none, none, none]) b
    [some (false, .val (eBk b)), some (false, .dic (kd [])), none, none, none] rfl (by
    rintro done r rest ρ hd rfl
    have hd1 := (hb.sub (rest := r :: rest) hd).wl_len
    have hr := (hb.row r (by rw [hd]; simp)).2.1
    obtain ⟨ρ2, e, rfl⟩ := forL_all (f := PyData.str) (T := .nm 4) (fg := [4]) (b := w_words_of_2)
      (fun d2 ρ => ρ = [some (false, .val (eBk b)), some (false, .dic (kd (metT (wl done ++ r.1 :: d2)))), some (false, .val (.str r.1)), some (false, .val (eW r.2)), none]) r.2
      [some (false, .val (eBk b)), some (false, .dic (kd (metT (wl done ++ [r.1])))), some (false, .val (.str r.1)), some (false, .val (eW r.2)), none] rfl (by
      rintro d2 x r2 ρ hd2 rfl
      refine ⟨_, ?_, rfl⟩
      have z : (metT (wl done ++ r.1 :: d2)).length < sizeLine := by
        have h1 := len_metT (wl done ++ r.1 :: d2)
        have h2 : d2.length ≤ r.2.length := by rw [hd2]; simp
        rw [List.length_append, List.length_cons] at h1
        exact small (m := 5000) (by omega)
      have q : wl done ++ r.1 :: (d2 ++ [x]) = (wl done ++ r.1 :: d2) ++ [x] := by simp
      rw [q, metT_snoc]
      simp [-List.map_map, turn_ap, w_words_of_2, z])
    refine ⟨_, ?_, rfl⟩
    have z : (metT (wl done)).length < sizeLine := small (m := 5000) (Nat.le_trans (len_metT _) (by omega))
    have q : wl (done ++ [r]) = wl done ++ r.1 :: r.2 := by rw [wl_app]; simp [wl]
    rw [q]
    rw [metT_snoc] at e
    simp [-List.map_map, turn_ap, w_words_of_1, z, e])
  have z : (metT (wl b)).length ≤ sizeLine := Nat.le_of_lt (small (m := 5000) (Nat.le_trans (len_metT _) (by have := hb.wl_len; omega)))
  simp [-List.map_map, f_words_of, b_words_of, runF_ap]
  rw [← kd_nil, e]
  simp [-List.map_map, z, wds]
theorem wds_mem {b : List Row} {w : Str} : w ∈ wds b ↔ ∃ r ∈ b, w = r.1 ∨ w ∈ r.2 := by
  unfold wds wl
  rw [mem_sortT, mem_metT, List.mem_flatten]
  constructor
  · rintro ⟨l, hl, hw⟩
    obtain ⟨r, hr, rfl⟩ := List.mem_map.mp hl
    exact ⟨r, hr, List.mem_cons.mp hw⟩
  · rintro ⟨r, hr, h⟩
    exact ⟨_, List.mem_map_of_mem hr, List.mem_cons.mpr h⟩
theorem wds_nodup (b : List Row) : (wds b).Nodup := sortT_nodup (metT_nodup _)
theorem wds_WW {b : List Row} (hb : Bo b) : ∀ w ∈ wds b, WW w := fun w h => by
  obtain ⟨r, hr, rfl | h⟩ := wds_mem.mp h
  · exact (hb.row r hr).1
  · exact (hb.row r hr).2.2 w h
/-- the places of a word's rows -/
def hd? (b : List Row) (w : Str) (i : Nat) : Bool := match b[i]? with
  | some r => decide (r.1 = w)
  | none => false
def plcs (b : List Row) (w : Str) : List Nat := (List.range b.length).filter (hd? b w)
def eN (i : Nat) : D := .int (i : Int)
/-! ### rows in books -/
theorem Bo.ww {b : List Row} (h : Bo b) : ∀ r ∈ b, WW r.1 ∧ ∀ w ∈ r.2, WW w := fun r hr => ⟨(h.row r hr).1, (h.row r hr).2.2⟩
end Eng
/-! Data within all lines: repr, ==. -/
namespace Eng
open PySem PySem.Spec L2 SX
open PyProof.Rows hiding St
/-- data that lies within the lines: at most so deep, at most so heavy -/
structure Gd (d : D) (k W : Nat) : Prop where
  lay : d.canLay0 = true
  shw : d.showable = true
  shrt : d.intsShort 13 = true
  deep : d.depth ≤ k
  heavy : d.weight ≤ W
theorem Gd.mono {d : D} {k k' W W' : Nat} (h : Gd d k W) (hk : k ≤ k') (hW : W ≤ W') : Gd d k' W' := ⟨h.lay, h.shw, h.shrt, Nat.le_trans h.deep hk, Nat.le_trans h.heavy hW⟩
theorem Gd.str {x : Str} (h : PyData.strOk x = true) {n : Nat} (hl : x.length ≤ n) : Gd (.str x) 0 n := ⟨by simpa [PyData.canLay0] using h, by simp [PyData.showable], by simp [PyData.intsShort], by simp [PyData.depth], by simpa [PyData.weight, Str.length] using hl⟩
theorem WW.gd {w : Str} (h : WW w) : Gd (.str w) 0 11 := .str h.ok h.len.1
theorem Gd.bool (b : Bool) : Gd (.bool b) 0 0 := ⟨by simp [PyData.canLay0], by simp [PyData.showable], by simp [PyData.intsShort], by simp [PyData.depth], by simp [PyData.weight]⟩
theorem Gd.nul : Gd .none 0 0 := ⟨by simp [PyData.canLay0], by simp [PyData.showable], by simp [PyData.intsShort], by simp [PyData.depth], by simp [PyData.weight]⟩
theorem log2_le {n : Nat} (h : n < 1000000000000) : n.log2 ≤ 40 := by
  by_cases h0 : n = 0
  · subst h0; decide
  · have := (Nat.log2_lt h0 (k := 41)).mpr (by omega)
    omega
theorem Gd.int {i : Int} (h0 : 0 ≤ i) (h : i < 1000000000000) : Gd (.int i) 0 41 := by
  have hl := log2_le (n := i.natAbs) (by omega)
  refine ⟨by simp [PyData.canLay0], ?_, ?_, by simp [PyData.depth], ?_⟩
  · simp only [PyData.showable, decide_eq_true_eq]
    omega
  · simp only [PyData.intsShort, decide_eq_true_eq]
    have : (Str.ofString (toString i)).length ≤ 12 := toString_length_le h0 (by decide) (by show i < 1000000000000; exact h)
    have e : PyData.shown (.int i) = Str.ofString (toString i) := by rw [PyData.shown]
    rw [e]
    omega
  · simp only [PyData.weight]
    split <;> omega
theorem Gd.all {xs : List D} {k W : Nat} (h : ∀ x ∈ xs, Gd x k W) : PyData.canLayAll0 xs = true ∧ PyData.showableAll xs = true ∧ PyData.intsShortAll 13 xs = true ∧ PyData.depthAll xs ≤ k ∧ PyData.weightAll xs ≤ xs.length * (W + 1) := by
  induction xs with
  | nil => exact ⟨rfl, rfl, rfl, Nat.zero_le _, by simp [PyData.weightAll]⟩
  | cons x xs ih =>
    have g := h x List.mem_cons_self
    obtain ⟨i1, i2, i3, i4, i5⟩ := ih fun y hy => h y (List.mem_cons_of_mem _ hy)
    have := g.heavy
    refine ⟨by simp [PyData.canLayAll0, g.lay, i1], by simp [PyData.showableAll, g.shw, i2], by simp [PyData.intsShortAll, g.shrt, i3], ?_, ?_⟩
    · simp only [PyData.depthAll]
      exact Nat.max_le.mpr ⟨g.deep, i4⟩
    · simp only [PyData.weightAll, List.length_cons, Nat.add_mul]
      omega
theorem Gd.list {xs : List D} {k W : Nat} (h : ∀ x ∈ xs, Gd x k W) : Gd (.list xs) (k + 1) (xs.length * (W + 1)) := by
  obtain ⟨i1, i2, i3, i4, i5⟩ := Gd.all h
  exact ⟨by simpa [PyData.canLay0] using i1, by simpa [PyData.showable] using i2, by simpa [PyData.intsShort] using i3, by simpa [PyData.depth] using i4, by simpa [PyData.weight] using i5⟩
theorem Gd.tup {xs : List D} {k W : Nat} (h : ∀ x ∈ xs, Gd x k W) : Gd (.tuple xs) (k + 1) (xs.length * (W + 1)) := by
  obtain ⟨i1, i2, i3, i4, i5⟩ := Gd.all h
  exact ⟨by simpa [PyData.canLay0] using i1, by simpa [PyData.showable] using i2, by simpa [PyData.intsShort] using i3, by simpa [PyData.depth] using i4, by simpa [PyData.weight] using i5⟩
theorem Gd.map {α : Type} {f : α → D} {xs : List α} {k W : Nat} (h : ∀ x ∈ xs, Gd (f x) k W) : ∀ y ∈ xs.map f, Gd y k W := fun y hy => by
  obtain ⟨x, hx, rfl⟩ := List.mem_map.mp hy
  exact h x hx
theorem Gd.shaped {d : D} {k W : Nat} (h : Gd d k W) (hk : k ≤ 64) : SeqAt.shaped d = true := by
  unfold SeqAt.shaped
  have := h.deep
  simp [h.lay]
  omega
theorem Gd.repr {o : O} {d : D} {k W : Nat} (ho : o.view? = some d) (h : Gd d k W) (hk : k ≤ 32) (hW : W ≤ 1048576) : reprS o = some (.val (.str d.shown)) := by
  have h1 : d.layable0 = true := by
    unfold PyData.layable0
    have := h.deep
    have := h.heavy
    simp [h.lay]
    omega
  have h2 := shown_le13 h1 h.shrt
  have h3 : d.shown.length ≤ sizeLine := Nat.le_trans h2 (by decide)
  unfold reprS
  rw [ho]
  have := h.deep
  simp only
  rw [if_pos ⟨h.shw, PyData.hasDict_of_canLay d h.lay, by omega, h3⟩]
theorem Gd.eq {a b : O} {d : D} {k W : Nat} (ha : a.view? = some d) (hb : b.view? = some d) (h : Gd d k W) (hk : k ≤ 64) : eqS a b = some (.val (.bool true)) := by
  unfold eqS
  rw [ha, hb]
  simp [eqD?, h.shaped hk, SeqAt.eqv_refl d h.lay]
theorem Gd.ne {a b : O} {d : D} {k W : Nat} (ha : a.view? = some d) (hb : b.view? = some d) (h : Gd d k W) (hk : k ≤ 64) : neS a b = some (.val (.bool false)) := by
  unfold neS
  rw [ha, hb]
  simp [eqD?, h.shaped hk, SeqAt.eqv_refl d h.lay]
theorem Gd.strs {ws : List Str} (h : ∀ w ∈ ws, WW w) : Gd (.list (ws.map PyData.str)) 1 (ws.length * 12) := by
  have := Gd.list (xs := ws.map PyData.str) (k := 0) (W := 11) (Gd.map fun w hw => (h w hw).gd)
  rwa [List.length_map] at this
theorem Gd.eW {ws : List Str} (h : ∀ w ∈ ws, WW w) : Gd (eW ws) 1 (ws.length * 12) := by
  have := Gd.tup (xs := ws.map PyData.str) (k := 0) (W := 11) (Gd.map fun w hw => (h w hw).gd)
  rwa [List.length_map] at this
theorem Gd.row {r : Row} (h : WW r.1 ∧ r.2.length ≤ 20 ∧ ∀ w ∈ r.2, WW w) : Gd (eRow r) 2 500 := by
  have h1 := Gd.eW h.2.2
  have h2 := h.1.gd
  have := Gd.tup (xs := [.str r.1, Eng.eW r.2]) (k := 1) (W := 240) (by
    intro x hx
    simp only [List.mem_cons, List.not_mem_nil, or_false] at hx
    rcases hx with rfl | rfl
    · exact h2.mono (by omega) (by omega)
    · exact h1.mono (by omega) (by have := h.2.1; omega))
  exact this.mono (Nat.le_refl _) (by simp)
end Eng
/-! Wider books. -/
namespace Eng
open PySem PySem.Spec L2 SX
open PyProof.Rows hiding St
/-- all words told in a book -/
def tw (b : List Row) : List Str := (b.map (·.2)).flatten
theorem mem_heads {b : List Row} {w : Str} : w ∈ heads b ↔ ∃ r ∈ b, r.1 = w := by
  unfold heads
  rw [List.mem_map]
/-- a book with few words -/
structure Bf (b : List Row) : Prop where
  bo : Bo b
  few : (heads b).length + (tw b).length ≤ 2000
theorem addS_bk (a m : List Row) : addS (.val (eBk a)) (.val (.tuple (m.map eRow))) = if a.length + m.length ≤ sizeLine then some (.val (eBk (a ++ m))) else none := by
  simp [eBk]
end Eng
/-! Orders that may be none. -/
namespace Eng
open PySem PySem.Spec L2 SX
open PyProof.Rows hiding St
/-- a step that may be none: a word, a whole number -/
abbrev SI := Str × Int
/-- the row at a place, where it is one -/
def at? (b : List Row) (i : Int) : Option Row := if 0 ≤ i then b[i.toNat]? else none
theorem at_some {b : List Row} {i : Int} {r : Row} (h : at? b i = some r) : 0 ≤ i ∧ i < b.length ∧ ixS (.val (eBk b)) (.val (.int i)) = some (.val (eRow r)) ∧ r ∈ b := by
  unfold at? at h
  split at h
  · rename_i h0
    have hl := (List.getElem?_eq_some_iff.mp h).1
    refine ⟨h0, by omega, ?_, List.mem_of_getElem? h⟩
    have := ixS_eBk h
    rwa [Int.toNat_of_nonneg h0] at this
  · cases h
/-- one step of an order -/
def stO (b : List Row) (k : List Str) (p : SI) : Option (List Str) := if p.1 ∈ k then none else match at? b p.2 with
  | some r => if r.1 = p.1 ∧ (r.2.all fun v => decide (v ∈ k)) = true then some (k ++ [p.1]) else none
  | none => none
theorem stO_some {b : List Row} {k k' : List Str} {p : SI} (h : stO b k p = some k') : p.1 ∉ k ∧ k' = k ++ [p.1] ∧ ∃ r, at? b p.2 = some r ∧ r.1 = p.1 ∧ (r.2.all fun v => decide (v ∈ k)) = true := by
  unfold stO at h
  split at h
  · cases h
  · rename_i hn
    split at h
    · rename_i r e
      split at h
      · rename_i hc
        cases h
        exact ⟨hn, rfl, r, e, hc⟩
      · cases h
    · cases h
theorem Kn.st {b : List Row} {k k' : List Str} {p : SI} (hk : Kn b k) (h : stO b k p = some k') : Kn b k' := by
  obtain ⟨h1, rfl, r, h2, h3, _⟩ := stO_some h
  have := hk.add (w := p.1) (mem_heads.mpr ⟨r, (at_some h2).2.2.2, h3⟩)
  rwa [addT_new h1] at this
end Eng
/-! What is learnt; knots. -/
namespace Eng
open PySem PySem.Spec L2 SX
open PyProof.Rows hiding St
/-! ### closures -/
/-- what is learnt, as it is learnt -/
def cls (b : List Row) : List Str := (rnd b).flatten
def lrn (b : List Row) : List Str := sortT (cls b)
theorem rndF_end {b : List Row} : ∀ {n : Nat} {k : List Str}, left b k < n → frs b (k ++ (rndF b n k).flatten) = []
  | 0, _, h => absurd h (Nat.not_lt_zero _)
  | n + 1, k, h => by
    unfold rndF
    split
    · rename_i e
      simpa using e
    · rename_i h0
      have := left_lt h0
      have ih := rndF_end (b := b) (n := n) (k := k ++ frs b k) (by omega)
      simpa using ih
theorem cls_end (b : List Row) : frs b (cls b) = [] := by
  have := rndF_end (b := b) (n := b.length + 1) (k := []) (by have := left_le b []; omega)
  simpa [cls, rnd] using this
/-- whoever knows all words told learns -/
theorem cls_closed {b : List Row} {r : Row} (hr : r ∈ b) (h : ∀ v ∈ r.2, v ∈ cls b) : r.1 ∈ cls b := by
  refine Classical.byContradiction fun hn => ?_
  have : r.1 ∈ frs b (cls b) := frs_mem.mpr ⟨r, hr, rfl, by
    unfold rdy
    simp only [hn, decide_false, Bool.not_false, Bool.true_and, List.all_eq_true, decide_eq_true_eq]
    exact h⟩
  rw [cls_end] at this
  cases this
/-- by what is closed all that is learnt is had -/
theorem rndF_min {b : List Row} {S : Str → Prop} (hS : ∀ r ∈ b, (∀ v ∈ r.2, S v) → S r.1) : ∀ {n : Nat} {k : List Str}, (∀ v ∈ k, S v) → ∀ v ∈ k ++ (rndF b n k).flatten, S v
  | 0, k, h => by simpa [rndF] using h
  | n + 1, k, h => by
    unfold rndF
    split
    · simpa using h
    · have h2 : ∀ v ∈ k ++ frs b k, S v := fun v hv => by
        rcases List.mem_append.mp hv with h1 | h1
        · exact h v h1
        · obtain ⟨r, hr, rfl, q⟩ := frs_mem.mp h1
          unfold rdy at q
          simp only [Bool.and_eq_true, List.all_eq_true, decide_eq_true_eq] at q
          exact hS r hr fun u hu => h u (q.2 u hu)
      have := rndF_min hS (n := n) h2
      simpa using this
theorem cls_min {b : List Row} {S : Str → Prop} (hS : ∀ r ∈ b, (∀ v ∈ r.2, S v) → S r.1) {w : Str} (h : w ∈ cls b) : S w := by
  have := rndF_min hS (n := b.length + 1) (k := []) (by simp)
  exact this w (by simpa [cls, rnd] using h)
theorem cls_kn (b : List Row) : Kn b (cls b) := rnd_kn b
theorem lrn_mem {b : List Row} {w : Str} : w ∈ lrn b ↔ w ∈ cls b := mem_sortT
/-! ### what is held back -/
/-- words that hold one another back -/
def Hs (b : List Row) (S : List Str) : Prop := ∀ w ∈ S, ∀ r ∈ b, r.1 = w → ∃ v ∈ r.2, v ∈ S
theorem Hs.not {b : List Row} {S : List Str} (h : Hs b S) {w : Str} (hw : w ∈ S) : w ∉ cls b := fun hc => by
  have := cls_min (S := fun v => v ∉ S) (b := b) (fun r hr hv hs => by
    obtain ⟨v, h1, h2⟩ := h r.1 hs r hr rfl
    exact hv v h1 h2) hc
  exact this hw
def bk1 (b : List Row) (S : List Str) (i : Nat) : Str := (((b[i]?.getD (Str.ofString "", [])).2.filter fun v => decide (v ∈ S)).head?).getD (Str.ofString "")
/-- for each row of a word the first word told that is held -/
def blk (b : List Row) (w : Str) (S : List Str) : List Str := (plcs b w).map (bk1 b S)
end Eng
/-! The law's words; its knots of given words. -/
namespace Eng
open PySem PySem.Spec L2 SX
open PyProof.Rows hiding St
def zipI : Option (List D × En) → Out (Option Nat × List D)
  | some ([.list ds, .tuple es], ρ2) => if (zipD ds es).length ≤ sizeLine then .ok (none, zipD ds es) ρ2 else .stuck
  | _ => .stuck
@[simp] theorem iZip_ap (f g : ES) (ρ : En) : iZip f g ρ = (oAs [f, g] ρ).bind fun ps ρ1 => zipI (gives ρ1 ps) := rfl
@[simp] theorem zipI_tup (ds es : List D) (ρ : En) : zipI (some ([.list ds, .tuple es], ρ)) = if (zipD ds es).length ≤ sizeLine then .ok (none, zipD ds es) ρ else .stuck := rfl
@[simp] theorem zipI_eW (ds : List D) (ws : List Str) (ρ : En) : zipI (some ([.list ds, eW ws], ρ)) = if (zipD ds (ws.map PyData.str)).length ≤ sizeLine then .ok (none, zipD ds (ws.map PyData.str)) ρ else .stuck := rfl
/-! ### the greatest knot of given words -/
def okH (b : List Row) (S : List Str) (w : Str) : Bool := (b.filter fun r => decide (r.1 = w)).all fun r => r.2.any fun v => decide (v ∈ S)
def hst (b : List Row) (S : List Str) : List Str := S.filter (okH b S)
def hfx (b : List Row) : Nat → List Str → List Str
  | 0, S => S
  | n + 1, S => if (hst b S).length < S.length then hfx b n (hst b S) else hst b S
theorem forLc_ix {α : Type} {f : α → D} {T : Tgt} {fg : List Nat} {b : SS} {c : Option (Nat × List D)} (I : List α → En → Prop) (ys : List α) (hc : ∀ done ρ, I done ρ → chkE c ρ) (hs : ∀ done x rest ρ, ys = done ++ x :: rest → I done ρ → ∃ ρ', turn T fg b (f x) ρ = .nx ρ' ∧ I (done ++ [x]) ρ') : ∀ (xs done : List α) (ρ : En), ys = done ++ xs → I done ρ →
    ∃ ρ', forL c T fg b (xs.map f) ρ = .nx ρ' ∧ I ys ρ'
  | [], done, ρ, hy, h => ⟨ρ, rfl, by simpa [hy] using h⟩
  | x :: xs, done, ρ, hy, h => by
    obtain ⟨ρ1, h1, h2⟩ := hs done x xs ρ hy h
    obtain ⟨ρ2, h3, h4⟩ := forLc_ix I ys hc hs xs (done ++ [x]) ρ1 (by simpa using hy) h2
    exact ⟨ρ2, by rw [List.map_cons, forLc_turn h1 (hc _ _ h2)]; exact h3, h4⟩
/-- a for over items, that may stand in a name: what holds after so many of them -/
theorem forLc_all {α : Type} {f : α → D} {T : Tgt} {fg : List Nat} {b : SS} (c : Option (Nat × List D)) (I : List α → En → Prop) (xs : List α) (ρ : En) (hc : ∀ done ρ, I done ρ → chkE c ρ) (h0 : I [] ρ) (hs : ∀ done x rest ρ, xs = done ++ x :: rest → I done ρ → ∃ ρ', turn T fg b (f x) ρ = .nx ρ' ∧ I (done ++ [x]) ρ') :
    ∃ ρ', forL c T fg b (xs.map f) ρ = .nx ρ' ∧ I xs ρ' := forLc_ix I xs hc hs xs [] ρ rfl h0
end Eng
/-! What is a knot. -/
namespace Eng
open PySem PySem.Spec L2 SX
open PyProof.Rows hiding St
end Eng
/-! Prices, plainly; dicts from texts to whole numbers. -/
namespace Eng
open PySem PySem.Spec L2 SX
open PyProof.Rows hiding St
/-- a dict of prices -/
abbrev Cs := List (Str × Int)
def eCs (C : Cs) : List (D × D) := sd PyData.int C
def cget (C : Cs) (w : Str) : Option Int := (C.find? fun e => decide (e.1 = w)).map (·.2)
def cput (C : Cs) (w : Str) (v : Int) : Cs := if w ∈ C.map (·.1) then C.map (fun e => if e.1 = w then (e.1, v) else e) else C ++ [(w, v)]
theorem eqv_s (x y : Str) : PyData.eqv (.str x) (.str y) = decide (x = y) := by
  rw [eqv_str]
  by_cases h : x = y <;> simp [h]
theorem dget_cs (C : Cs) (w : Str) : dget (eCs C) (.str w) = (cget C w).map PyData.int := by
  unfold dget eCs sd cget
  rw [List.find?_map]
  have : ((fun e : D × D => PyData.eqv e.1 (.str w)) ∘ fun e : Str × Int => ((.str e.1, .int e.2) : D × D)) = fun e : Str × Int => decide (e.1 = w) := by
    funext e
    exact eqv_s _ _
  rw [this]
  cases C.find? fun e => decide (e.1 = w) <;> rfl
theorem dput_cs (C : Cs) (w : Str) (v : Int) : dput (eCs C) (.str w) (.int v) = eCs (cput C w v) := by
  unfold dput cput
  have h := dhas_sd PyData.int C w
  unfold eCs
  rw [h]
  by_cases hm : w ∈ C.map (·.1)
  · simp only [hm, decide_true, if_true]
    unfold sd
    rw [List.map_map, List.map_map]
    refine List.map_congr_left fun e _ => ?_
    simp only [Function.comp, eqv_s]
    by_cases hw : e.1 = w <;> simp [hw]
  · simp only [hm, decide_false, Bool.false_eq_true, if_false]
    unfold sd
    rw [List.map_append]
    rfl
theorem len_cs (C : Cs) : (eCs C).length = C.length := by simp [eCs, sd]
@[simp] theorem inS_cs (x : Str) (C : Cs) : inS (.val (.str x)) (.dic (eCs C)) = some (.val (.bool (decide (x ∈ C.map (·.1))))) := by
  unfold inS hasS eCs
  simp only [dOk_sd, dhas_sd, if_true]
  rfl
@[simp] theorem notinS_cs (x : Str) (C : Cs) : notinS (.val (.str x)) (.dic (eCs C)) = some (.val (.bool (!decide (x ∈ C.map (·.1))))) := by
  unfold notinS hasS eCs
  simp only [dOk_sd, dhas_sd, if_true]
  rfl
@[simp] theorem ixS_cs (x : Str) (C : Cs) : ixS (.dic (eCs C)) (.val (.str x)) = (cget C x).map fun i => .val (.int i) := by
  show (if dOk (eCs C) (.str x) = true then (dget (eCs C) (.str x)).map O.val else none) = _
  have h : dOk (eCs C) (.str x) = true := dOk_sd _ _ _
  rw [if_pos h, dget_cs, Option.map_map]
  rfl
@[simp] theorem setS_cs (x : Str) (v : Int) (C : Cs) : setS (.dic (eCs C)) (.str x) (.int v) = if C.length < sizeLine then some (.dic (eCs (cput C x v))) else none := by
  unfold setS
  have h : dOk (eCs C) (.str x) = true := dOk_sd _ _ _
  simp only [h, dput_cs, len_cs, true_and]
@[simp] theorem sortS_cs (C : Cs) : sortS (.dic (eCs C)) = if C.length ≤ sizeLine then some (.lst ((sortT (C.map (·.1))).map PyData.str)) else none := sortS_sd PyData.int C
theorem cget_none {C : Cs} {w : Str} : cget C w = none ↔ w ∉ C.map (·.1) := by
  unfold cget
  rw [Option.map_eq_none_iff, List.find?_eq_none]
  simp only [decide_eq_true_eq, List.mem_map, not_exists, not_and]
theorem cget_mem {C : Cs} {w : Str} {v : Int} (h : cget C w = some v) : w ∈ C.map (·.1) := Classical.byContradiction fun hn => by
  rw [cget_none.mpr hn] at h
  cases h
theorem cget_some {C : Cs} {w : Str} (h : w ∈ C.map (·.1)) : ∃ v, cget C w = some v := by
  cases e : cget C w with
  | some v => exact ⟨v, rfl⟩
  | none => exact absurd h (cget_none.mp e)
theorem cget_cons (e : Str × Int) (C : Cs) (w : Str) : cget (e :: C) w = if e.1 = w then some e.2 else cget C w := by
  unfold cget
  rw [List.find?_cons]
  by_cases h : e.1 = w <;> simp [h]
theorem cget_app (C : Cs) (w v : Str) (x : Int) : cget (C ++ [(w, x)]) v = match cget C v with | some y => some y | none => if w = v then some x else none := by
  induction C with
  | nil => rw [List.nil_append, cget_cons]; rfl
  | cons e C ih =>
    rw [List.cons_append, cget_cons, cget_cons, ih]
    by_cases h : e.1 = v <;> simp [h]
theorem cget_map (C : Cs) (w v : Str) (x : Int) : cget (C.map fun e => if e.1 = w then (e.1, x) else e) v = if v = w ∧ w ∈ C.map (·.1) then some x else cget C v := by
  induction C with
  | nil => simp [cget]
  | cons e C ih =>
    rw [List.map_cons, cget_cons, cget_cons, ih]
    by_cases h1 : e.1 = w
    · by_cases h2 : v = w
      · subst h2; simp [h1]
      · have h3 : ¬ e.1 = v := fun q => h2 (q.symm.trans h1)
        have h4 : ¬ w = v := fun q => h2 q.symm
        simp [h1, h2, h3, h4]
    · by_cases h2 : v = w
      · subst h2
        have h3 : ¬ v = e.1 := fun q => h1 q.symm
        have h4 : (v ∈ (e :: C).map (·.1)) ↔ v ∈ C.map (·.1) := by
          rw [List.map_cons, List.mem_cons]
          exact ⟨fun h => h.resolve_left h3, .inr⟩
        simp only [h1, if_false, h4]
      · by_cases h3 : e.1 = v <;> simp [h1, h2, h3]
theorem cget_put (C : Cs) (w v : Str) (x : Int) : cget (cput C w x) v = if v = w then some x else cget C v := by
  unfold cput
  split
  · rename_i h
    rw [cget_map]
    by_cases hv : v = w <;> simp [hv, h]
  · rename_i h
    rw [cget_app]
    by_cases hv : v = w
    · subst hv
      rw [cget_none.mpr h]
    · have : ¬ w = v := fun q => hv q.symm
      simp only [this, hv, if_false]
      cases cget C v <;> rfl
theorem cput_keys (C : Cs) (w : Str) (x : Int) : (cput C w x).map (·.1) = addT (C.map (·.1)) w := by
  unfold cput addT
  split
  · rw [List.map_map]
    refine List.map_congr_left fun e _ => ?_
    simp only [Function.comp]
    split <;> rfl
  · rw [List.map_append]
    rfl
/-! ### prices by a row -/
def pby (C : Cs) (ws : List Str) : Option Int := ws.foldlM (fun L w => (cget C w).map (L + ·)) 1
theorem pby_go (C : Cs) : ∀ (ws : List Str) (L : Int), ws.foldlM (fun L w => (cget C w).map (L + ·)) L = if (ws.all fun w => decide (w ∈ C.map (·.1))) = true then some (L + (ws.map fun w => (cget C w).getD 0).sum) else none
  | [], L => by simp
  | w :: ws, L => by
    rw [List.foldlM_cons]
    cases e : cget C w with
    | none =>
      have := cget_none.mp e
      simp only [List.all_cons, this, decide_false, Bool.false_and, Bool.false_eq_true, if_false, Option.map_none]
      rfl
    | some v =>
      have := cget_mem e
      show (ws.foldlM (fun L w => (cget C w).map (L + ·)) (L + v)) = _
      rw [pby_go C ws (L + v)]
      simp only [List.all_cons, this, decide_true, Bool.true_and, List.map_cons, e, Option.getD_some, List.sum_cons]
      split
      · rw [Int.add_assoc]
      · rfl
theorem pby_all (C : Cs) (ws : List Str) : pby C ws = if (ws.all fun w => decide (w ∈ C.map (·.1))) = true then some (1 + (ws.map fun w => (cget C w).getD 0).sum) else none := pby_go C ws 1
/-- one row's turn -/
def stC (s : Cs × Bool) (r : Row) : Cs × Bool := match pby s.1 r.2 with
  | none => s
  | some L => match cget s.1 r.1 with
    | none => (cput s.1 r.1 L, true)
    | some c => if L < c then (cput s.1 r.1 L, true) else s
def passC (b : List Row) (C : Cs) : Cs × Bool := b.foldl stC (C, false)
def itC (b : List Row) : Nat → Cs → Option Cs
  | 0, _ => none
  | n + 1, C => if (passC b C).2 = true then itC b n (passC b C).1 else some (passC b C).1
/-- what holds of the prices all the time -/
structure Iv (b : List Row) (C : Cs) : Prop where
  kn : Kn b (C.map (·.1))
  pos : ∀ w c, cget C w = some c → 1 ≤ c
  row : ∀ w c, cget C w = some c → ∃ r ∈ b, r.1 = w ∧ ∃ L, pby C r.2 = some L ∧ L ≤ c
theorem sum_le {α : Type} {f g : α → Int} : ∀ {xs : List α}, (∀ x ∈ xs, f x ≤ g x) → (xs.map f).sum ≤ (xs.map g).sum
  | [], _ => Int.le_refl _
  | x :: xs, h => by
    have h1 := h x List.mem_cons_self
    have h2 := sum_le fun y hy => h y (List.mem_cons_of_mem _ hy)
    simp only [List.map_cons, List.sum_cons]
    omega
theorem sum_pos {α : Type} {f : α → Int} : ∀ {xs : List α}, (∀ x ∈ xs, 0 ≤ f x) → 0 ≤ (xs.map f).sum
  | [], _ => Int.le_refl _
  | x :: xs, h => by
    have h1 := h x List.mem_cons_self
    have h2 := sum_pos fun y hy => h y (List.mem_cons_of_mem _ hy)
    simp only [List.map_cons, List.sum_cons]
    omega
theorem pby_some {C : Cs} {ws : List Str} {L : Int} (h : pby C ws = some L) : (∀ w ∈ ws, w ∈ C.map (·.1)) ∧ L = 1 + (ws.map fun w => (cget C w).getD 0).sum := by
  rw [pby_all] at h
  split at h
  · rename_i h1
    cases h
    exact ⟨fun w hw => of_decide_eq_true (List.all_eq_true.mp h1 w hw), rfl⟩
  · cases h
theorem pby_of {C : Cs} {ws : List Str} (h : ∀ w ∈ ws, w ∈ C.map (·.1)) : pby C ws = some (1 + (ws.map fun w => (cget C w).getD 0).sum) := by
  rw [pby_all, if_pos (List.all_eq_true.mpr fun w hw => decide_eq_true (h w hw))]
/-- lower prices all over -/
theorem pby_mono {C E : Cs} (h : ∀ w c, cget C w = some c → ∃ d, cget E w = some d ∧ d ≤ c) {ws : List Str} {L : Int} (hp : pby C ws = some L) : ∃ M, pby E ws = some M ∧ M ≤ L := by
  obtain ⟨h1, rfl⟩ := pby_some hp
  have hE : ∀ w ∈ ws, w ∈ E.map (·.1) := fun w hw => by
    obtain ⟨c, hc⟩ := cget_some (h1 w hw)
    obtain ⟨d, hd, _⟩ := h w c hc
    exact cget_mem hd
  refine ⟨_, pby_of hE, ?_⟩
  have := sum_le (f := fun w => (cget E w).getD 0) (g := fun w => (cget C w).getD 0) (xs := ws) (fun w hw => by
    obtain ⟨c, hc⟩ := cget_some (h1 w hw)
    obtain ⟨d, hd, hle⟩ := h w c hc
    rw [hc, hd]
    exact hle)
  omega
theorem Iv.put {b : List Row} {C : Cs} (h : Iv b C) {r : Row} (hr : r ∈ b) {L : Int} (hp : pby C r.2 = some L) (hlt : ∀ c, cget C r.1 = some c → L < c) : Iv b (cput C r.1 L) := by
  have hL : 1 ≤ L := by
    obtain ⟨h1, rfl⟩ := pby_some hp
    have := sum_pos (f := fun w => (cget C w).getD 0) (xs := r.2) (fun w hw => by
      obtain ⟨c, hc⟩ := cget_some (h1 w hw)
      rw [hc]
      have := h.pos w c hc
      show 0 ≤ c
      omega)
    omega
  have low : ∀ w c, cget C w = some c → ∃ d, cget (cput C r.1 L) w = some d ∧ d ≤ c := fun w c hc => by
    rw [cget_put]
    by_cases hw : w = r.1
    · subst hw
      exact ⟨L, by simp, Int.le_of_lt (hlt c hc)⟩
    · exact ⟨c, by simp [hw, hc], Int.le_refl _⟩
  refine ⟨?_, fun w c hc => ?_, fun w c hc => ?_⟩
  · rw [cput_keys]
    exact h.kn.add (List.mem_map_of_mem hr)
  · rw [cget_put] at hc
    split at hc
    · cases hc; exact hL
    · exact h.pos w c hc
  · rw [cget_put] at hc
    split at hc
    · rename_i hw
      cases hc
      obtain ⟨M, hM, hle⟩ := pby_mono low hp
      exact ⟨r, hr, hw.symm, M, hM, hle⟩
    · obtain ⟨r', hr', e, M, hM, hle⟩ := h.row w c hc
      obtain ⟨M', hM', hle'⟩ := pby_mono low hM
      exact ⟨r', hr', e, M', hM', by omega⟩
/-- how much may fall yet -/
def mea (b : List Row) (C : Cs) : Nat × Nat := (b.length - (C.map (·.1)).length, (C.map fun e => e.2.toNat).sum)
theorem sum_put : ∀ (C : Cs) (w : Str) (L c : Int), (C.map (·.1)).Nodup → cget C w = some c → 0 ≤ L → L < c → ((C.map fun e => if e.1 = w then (e.1, L) else e).map fun e => e.2.toNat).sum < (C.map fun e => e.2.toNat).sum
  | [], _, _, _, _, h, _, _ => by simp [cget] at h
  | e :: C, w, L, c, nd, h, h0, hlt => by
    rw [cget_cons] at h
    rw [List.map_cons] at nd
    have nd := List.nodup_cons.mp nd
    by_cases hw : e.1 = w
    · rw [if_pos hw] at h
      cases h
      have same : (C.map fun e => if e.1 = w then (e.1, L) else e) = C := by
        have : (C.map fun e => if e.1 = w then (e.1, L) else e) = C.map id := List.map_congr_left fun x hx => by
          have : ¬ x.1 = w := fun q => nd.1 (by rw [hw, ← q]; exact List.mem_map_of_mem hx)
          simp [this]
        rw [this, List.map_id]
      simp only [List.map_cons, hw, if_true, same, List.sum_cons]
      omega
    · rw [if_neg hw] at h
      have := sum_put C w L c nd.2 h h0 hlt
      simp only [List.map_cons, hw, if_false, List.sum_cons]
      omega
theorem stC_iv {b : List Row} {C : Cs} {f : Bool} (h : Iv b C) {r : Row} (hr : r ∈ b) : Iv b (stC (C, f) r).1 ∧ ((stC (C, f) r) = (C, f) ∨ ((stC (C, f) r).2 = true ∧ Prod.Lex Nat.lt Nat.lt (mea b (stC (C, f) r).1) (mea b C))) := by
  unfold stC
  cases hp : pby C r.2 with
  | none => exact ⟨h, .inl rfl⟩
  | some L =>
    simp only
    have hL : 0 ≤ L := by
      obtain ⟨h1, rfl⟩ := pby_some hp
      have := sum_pos (f := fun w => (cget C w).getD 0) (xs := r.2) (fun w hw => by
        obtain ⟨c, hc⟩ := cget_some (h1 w hw)
        rw [hc]
        have := h.pos w c hc
        show 0 ≤ c
        omega)
      omega
    cases hc : cget C r.1 with
    | none =>
      simp only
      refine ⟨h.put hr hp (fun c q => by rw [hc] at q; cases q), .inr ⟨trivial, ?_⟩⟩
      refine Prod.Lex.left _ _ ?_
      have hn := cget_none.mp hc
      have h2 := (h.kn.add (w := r.1) (List.mem_map_of_mem hr)).len
      rw [addT_new hn, List.length_append, List.length_singleton] at h2
      rw [cput_keys, addT_new hn, List.length_append, List.length_singleton]
      show b.length - ((C.map (·.1)).length + 1) < b.length - (C.map (·.1)).length
      omega
    | some c =>
      simp only
      split
      · rename_i hlt
        refine ⟨h.put hr hp (fun c' q => by rw [hc] at q; cases q; exact hlt), .inr ⟨by first | rfl | trivial, ?_⟩⟩
        unfold mea
        rw [cput_keys]
        have hm := cget_mem hc
        have e1 : addT (C.map (·.1)) r.1 = C.map (·.1) := by unfold addT; rw [if_pos hm]
        rw [e1]
        refine Prod.Lex.right _ ?_
        unfold cput
        rw [if_pos hm]
        exact sum_put C r.1 L c h.kn.1 hc hL hlt
      · exact ⟨h, .inl rfl⟩
theorem lex_trans {a c d : Nat × Nat} (h1 : Prod.Lex Nat.lt Nat.lt a c) (h2 : Prod.Lex Nat.lt Nat.lt c d) : Prod.Lex Nat.lt Nat.lt a d := by
  rw [Prod.lex_def] at *
  have : ∀ x y, Nat.lt x y ↔ x < y := fun _ _ => Iff.rfl
  simp only [this] at *
  omega
theorem fold_iv {b : List Row} : ∀ (rs : List Row) (C : Cs) (f : Bool), (∀ r ∈ rs, r ∈ b) → Iv b C → Iv b (rs.foldl stC (C, f)).1 ∧ ((rs.foldl stC (C, f)) = (C, f) ∨ ((rs.foldl stC (C, f)).2 = true ∧ Prod.Lex Nat.lt Nat.lt (mea b (rs.foldl stC (C, f)).1) (mea b C)))
  | [], C, f, _, h => ⟨h, .inl rfl⟩
  | r :: rs, C, f, hs, h => by
    obtain ⟨h1, h2⟩ := stC_iv (f := f) h (hs r List.mem_cons_self)
    rw [List.foldl_cons]
    obtain ⟨C1, f1, hst⟩ : ∃ C1 f1, stC (C, f) r = (C1, f1) := ⟨_, _, rfl⟩
    rw [hst] at h1 h2 ⊢
    obtain ⟨h3, h4⟩ := fold_iv rs C1 f1 (fun x hx => hs x (List.mem_cons_of_mem _ hx)) h1
    refine ⟨h3, ?_⟩
    rcases h2 with h2 | ⟨h2, h2'⟩
    · cases h2
      exact h4
    · rcases h4 with h4 | ⟨h4, h4'⟩
      · rw [h4]
        exact .inr ⟨h2, h2'⟩
      · exact .inr ⟨h4, lex_trans h4' h2'⟩
end Eng
/-! Prices: the defs. -/
namespace Eng
open PySem PySem.Spec L2 SX
open PyProof.Rows hiding St
theorem Iv.nil (b : List Row) : Iv b [] := ⟨Kn.nil b, by simp [cget], by simp [cget]⟩
theorem passC_iv {b : List Row} {C : Cs} (h : Iv b C) : Iv b (passC b C).1 ∧ (passC b C = (C, false) ∨ ((passC b C).2 = true ∧ Prod.Lex Nat.lt Nat.lt (mea b (passC b C).1) (mea b C))) := fold_iv b C false (fun _ h => h) h
theorem it_ex (b : List Row) (C : Cs) (h : Iv b C) : ∃ n C', itC b n C = some C' ∧ Iv b C' ∧ passC b C' = (C', false) := by
  have wf : WellFounded (InvImage (Prod.Lex Nat.lt Nat.lt) (mea b)) := InvImage.wf _ (Prod.lex Nat.lt_wfRel Nat.lt_wfRel).wf
  induction C using wf.induction with
  | _ C ih =>
    obtain ⟨h1, h2⟩ := passC_iv h
    rcases h2 with h2 | ⟨h2, h3⟩
    · refine ⟨1, C, ?_, h, h2⟩
      unfold itC
      rw [h2]
      rfl
    · obtain ⟨n, C', e1, e2, e3⟩ := ih _ h3 h1
      refine ⟨n + 1, C', ?_, e2, e3⟩
      unfold itC
      rw [if_pos h2]
      exact e1
theorem Iv.len {b : List Row} {C : Cs} (h : Iv b C) (hb : Bo b) : C.length ≤ 200 := by
  have h1 := h.kn.len
  rw [List.length_map] at h1
  exact Nat.le_trans h1 hb.len
/-- the prices of a book -/
noncomputable def csts (b : List Row) : Cs := Classical.choose (Classical.choose_spec (it_ex b [] (Iv.nil b)))
/-! ### the law's prices -/
/-! ### where nothing falls any more -/
end Eng
/-! The other maker of books: draws, words. -/
namespace Eng
open PySem PySem.Spec L2 SX
open PyProof.Rows hiding St
/-- a source of draws: drawn from so many times at most -/
def Sc (T : Nat) (s : List Int) : Prop := ∃ a t c, s = [a, t, c] ∧ 0 ≤ t ∧ t ≤ T
theorem Sc.mono {T U : Nat} {s : List Int} (h : Sc T s) (hT : T ≤ U) : Sc U s := by
  obtain ⟨a, t, c, e, h1, h2⟩ := h
  exact ⟨a, t, c, e, h1, by omega⟩
end Eng
/-! The other maker of books, II: words. -/
namespace Eng
open PySem PySem.Spec L2 SX
open PyProof.Rows hiding St
end Eng
/-! The other maker of books, III: rows, books. -/
namespace Eng
open PySem PySem.Spec L2 SX
open PyProof.Rows hiding St
/-- a row over these words -/
def Rg (ns : List Str) (r : Row) : Prop := r.1 ∈ ns ∧ r.2.length ≤ 8 ∧ ∀ w ∈ r.2, w ∈ ns
/-- a row is laid behind others, where none is alike -/
def layR (b : List Row) (r : Row) : List Row := if (b.find? fun x => decide (x.1 = r.1) && decide (sortT x.2 = sortT r.2)).isSome then b else b ++ [r]
theorem layR_len (b : List Row) (r : Row) : (layR b r).length ≤ b.length + 1 := by
  unfold layR
  split <;> simp
theorem layR_mem {b : List Row} {r x : Row} (h : x ∈ layR b r) : x ∈ b ∨ x = r := by
  unfold layR at h
  split at h
  · exact .inl h
  · exact (List.mem_append.mp h).imp id fun q => List.mem_singleton.mp q
/-- a book of such rows -/
structure Bg (ns : List Str) (n : Nat) (b : List Row) : Prop where
  len : b.length ≤ n
  row : ∀ r ∈ b, Rg ns r
theorem Bg.bo {ns : List Str} {n : Nat} {b : List Row} (h : Bg ns n b) (hn : n ≤ 200) (hw : ∀ w ∈ ns, WW w) : Bo b := ⟨Nat.le_trans h.len hn, fun r hr => by
  have := h.row r hr
  exact ⟨hw _ this.1, by have := this.2.1; omega, fun w h2 => hw _ (this.2.2 w h2)⟩⟩
theorem Bg.lay {ns : List Str} {n : Nat} {b : List Row} {r : Row} (h : Bg ns n b) (hr : Rg ns r) : Bg ns (n + 1) (layR b r) := ⟨Nat.le_trans (layR_len b r) (by have := h.len; omega), fun x hx => by
  rcases layR_mem hx with q | rfl
  · exact h.row x q
  · exact hr⟩
theorem Bg.mono {ns : List Str} {n m : Nat} {b : List Row} (h : Bg ns n b) (hn : n ≤ m) : Bg ns m b := ⟨Nat.le_trans h.len hn, h.row⟩
end Eng
/-! The other maker of books, IV: wider books. -/
namespace Eng
open PySem PySem.Spec L2 SX
open PyProof.Rows hiding St
end Eng
/-! Law k13. -/
namespace Eng
open PySem PySem.Spec L2 SX
open PyProof.Rows hiding St
/-! ### steps that are drawn -/
theorem cutA_map {α β : Type} (f : α → β) (xs : List α) (lo hi : Option Int) : cutA (xs.map f) lo hi = (cutA xs lo hi).map f := by
  unfold cutA
  rw [List.length_map, ← List.map_drop, ← List.map_take]
end Eng
/-! Law k22. -/
namespace Eng
open PySem PySem.Spec L2 SX
open PyProof.Rows hiding St
@[simp] theorem slS_scr (ns : List Int) (lo hi : Option Int) : slS lo hi (.scr ns) = some (.lst (cutA (ns.map PyData.int) lo hi)) := rfl
@[simp] theorem listRevS_lst (ds : List D) : listRevS (.lst ds) = some (.lst ds.reverse) := rfl
/-! ### best rows -/
structure Ib (b : List Row) (n : Nat) (B : Cs) : Prop where
  kn : Kn b (B.map (·.1))
  val : ∀ w i, cget B w = some i → ∃ k : Nat, i = (k : Int) ∧ k < n ∧ ∃ r, b[k]? = some r ∧ r.1 = w ∧ ∃ c, cget (csts b) w = some c ∧ pby (csts b) r.2 = some c
  all : ∀ k r, k < n → b[k]? = some r → ∀ c, cget (csts b) r.1 = some c → pby (csts b) r.2 = some c → r.1 ∈ B.map (·.1)
end Eng
/-! Law k21. -/
namespace Eng
open PySem PySem.Spec L2 SX
open PyProof.Rows hiding St
end Eng
/-! Law k14. -/
namespace Eng
open PySem PySem.Spec L2 SX
open PyProof.Rows hiding St
/-- the words told in a word's rows -/
def tolds (b : List Row) (w : Str) : List (List Str) := (b.filter fun r => decide (r.1 = w)).map (·.2)
theorem Bf.rev {b : List Row} (h : Bf b) : Bf b.reverse := ⟨⟨by rw [List.length_reverse]; exact h.bo.len, fun r hr => h.bo.row r (List.mem_reverse.mp hr)⟩, by
  have h1 : (heads b.reverse).length = (heads b).length := by simp [heads]
  have h2 : (tw b.reverse).length = (tw b).length := by
    unfold tw
    rw [List.map_reverse, List.length_flatten, List.length_flatten, List.map_reverse, List.sum_reverse]
  have := h.few
  omega⟩
end Eng
/-! Dicts from texts to anything; which words lean on which. -/
namespace Eng
open PySem PySem.Spec L2 SX
open PyProof.Rows hiding St
theorem sq_nx {a c : SS} {ρ ρ1 : En} (h : a ρ = .nx ρ1) : sSeq a c ρ = c ρ1 := by simp [h]
section
variable {β : Type} (f : β → D)
def gget (C : List (Str × β)) (w : Str) : Option β := (C.find? fun e => decide (e.1 = w)).map (·.2)
end
section
variable {β : Type}
end
/-! ### straight -/
/-- the words told in a word's rows -/
def tl (b : List Row) (w : Str) : List Str := (tolds b w).flatten
theorem tl_mem {b : List Row} {w v : Str} : v ∈ tl b w ↔ ∃ r ∈ b, r.1 = w ∧ v ∈ r.2 := by
  unfold tl tolds
  simp only [List.mem_flatten, List.mem_map, List.mem_filter, decide_eq_true_eq]
  constructor
  · rintro ⟨l, ⟨r, ⟨h1, h2⟩, rfl⟩, h3⟩
    exact ⟨r, h1, h2, h3⟩
  · rintro ⟨r, h1, h2, h3⟩
    exact ⟨r.2, ⟨r, ⟨h1, h2⟩, rfl⟩, h3⟩
abbrev Ld := List (Str × List Str)
/-- all words, each with the words told in its rows -/
structure Sg (ks : List Str) (b : List Row) (C : Ld) : Prop where
  keys : C.map (·.1) = ks
  get : ∀ w ∈ ks, gget C w = some (tl b w)
end Eng
/-! Which words lean on which, II. -/
namespace Eng
open PySem PySem.Spec L2 SX
open PyProof.Rows hiding St
/-- w leans on v, straight or through others -/
inductive Rc (b : List Row) (w : Str) : Str → Prop
  | st {r : Row} {v : Str} (hr : r ∈ b) (h : r.1 = w) (hv : v ∈ r.2) : Rc b w v
  | go {r : Row} {v : Str} (hr : r ∈ b) (h : Rc b w r.1) (hv : v ∈ r.2) : Rc b w v
theorem Rc.wds {b : List Row} {w v : Str} (h : Rc b w v) : v ∈ wds b := by
  cases h with
  | st hr _ hv => exact wds_mem.mpr ⟨_, hr, .inr hv⟩
  | go hr _ hv => exact wds_mem.mpr ⟨_, hr, .inr hv⟩
theorem Rc.tl {b : List Row} {w u v : Str} (h : Rc b w u) (hv : v ∈ tl b u) : Rc b w v := by
  obtain ⟨r, hr, e, hv⟩ := tl_mem.mp hv
  exact .go hr (e ▸ h) hv
@[simp] theorem seq_eL (ws : List Str) : (O.val (eL ws)).seq? = some (ws.map .str) := rfl
/-- on the way from w -/
structure Mt (b : List Row) (w : Str) (met fresh : List Str) : Prop where
  nd : met.Nodup
  m : ∀ v ∈ met, Rc b w v
  f : ∀ v ∈ fresh, Rc b w v
  a : ∀ v ∈ Eng.tl b w, v ∈ met ∨ v ∈ fresh
  c : ∀ u ∈ met, ∀ v ∈ Eng.tl b u, v ∈ met ∨ v ∈ fresh
  z : fresh.length ≤ 2000 * (met.length + 1)
theorem Mt.len {b : List Row} {w : Str} {met fresh : List Str} (h : Mt b w met fresh) (hW : (wds b).length ≤ 2000) : met.length ≤ 2000 :=
  Nat.le_trans (sub_len h.nd fun v hv => (h.m v hv).wds) hW
end Eng
/-! Which words lean on which, III: under, over; the law's; the kinds of refusals. -/
namespace Eng
open PySem PySem.Spec L2 SX
open PyProof.Rows hiding St
/-! ### the law's words beneath -/
def Jb (b : List Row) (w : Str) (k : List Str) : Prop := k.Nodup ∧ ∀ v ∈ k, Rc b w v
theorem Jb.len {b : List Row} {w : Str} {k : List Str} (h : Jb b w k) (hW : (wds b).length ≤ 2000) : k.length ≤ 2000 := Nat.le_trans (sub_len h.1 fun v hv => (h.2 v hv).wds) hW
theorem sortT_wds (b : List Row) : sortT (wds b) = wds b := by
  have h := sortT_ext (xs := wds b) (ys := metT (wl b)) (wds_nodup b) (metT_nodup _) (fun w => by unfold wds; rw [mem_sortT])
  rw [h]
  rfl
/-! ### the kinds of refusals -/
@[simp] theorem own_exn (c : Nat) : (O.exn c).own = true := rfl
@[simp] theorem fins_exn (c : Nat) (x : O) (os : List O) (ρ : En) : fins (.exn c :: os) (some (true, x) :: ρ) = match fins os ρ with | some r => some (x :: r) | none => none := rfl
@[simp] theorem gone_nx (i : Nat) (ρ : En) : gone i (.nx ρ) = .nx (ρ.set i none) := rfl
@[simp] theorem oRd_ap (sem : O → O → Option O) (f g : ES) (ρ : En) : oRd sem f g ρ = (f ρ).bind fun p ρ1 => match look ρ1 p with
  | some o0 => if o0.list?.isSome = true then (g ρ1).bind fun q ρ2 => match looks ρ2 [p, q] with
      | some os => put ρ2 (two sem os)
      | none => .stuck
    else .stuck
  | none => .stuck := rfl
@[simp] theorem isS_exn (c : Nat) : isS (.exn c) (.val .none) = some (.val (.bool false)) := rfl
@[simp] theorem isS_non : isS (.val .none) (.val .none) = some (.val (.bool true)) := rfl
@[simp] theorem isS_lst (ds : List D) : isS (.lst ds) (.val .none) = some (.val (.bool false)) := rfl
end Eng
/-! Law k31. -/
namespace Eng
open PySem PySem.Spec L2 SX
open PyProof.Rows hiding St
end Eng
/-! Law k12. -/
namespace Eng
open PySem PySem.Spec L2 SX
open PyProof.Rows hiding St
end Eng
/-! Law k13: the answer. -/
namespace Eng
open PySem PySem.Spec L2 SX
open PyProof.Rows hiding St
theorem Dr.cut {n : Nat} {ds : List Int} (h : Dr n ds) (k : Nat) (hk : k ≤ n) : Dr (n - k) (cutA ds (some (k : Int)) none) := by
  have e : cutA ds (some (k : Int)) none = ds.drop k := by
    unfold cutA
    rw [HT.sIx_nat, HT.sIx_none, h.1, Nat.min_eq_left hk]
    rw [List.take_of_length_le (by rw [List.length_drop, h.1]; exact Nat.le_refl _)]
  rw [e]
  exact ⟨by rw [List.length_drop, h.1], fun d hd => h.2 d (List.mem_of_mem_drop hd)⟩
end Eng
/-! Law k16. -/
namespace Eng
open PySem PySem.Spec L2 SX
open PyProof.Rows hiding St
theorem cls_mono {b c : List Row} (h : ∀ r ∈ b, r ∈ c) {w : Str} (hw : w ∈ cls b) : w ∈ cls c := cls_min (S := fun v => v ∈ cls c) (fun r hr hv => cls_closed (h r hr) hv) hw
theorem cutA_take {α : Type} (xs : List α) (i : Int) (h : 0 ≤ i) : cutA xs none (some i) = xs.take i.toNat := by
  unfold cutA
  obtain ⟨n, rfl⟩ : ∃ n : Nat, i = (n : Int) := ⟨i.toNat, by omega⟩
  rw [HT.sIx_nat, HT.sIx_none, Int.toNat_natCast, List.drop_zero, Nat.sub_zero]
  by_cases hn : n ≤ xs.length
  · rw [Nat.min_eq_left hn]
  · rw [Nat.min_eq_right (by omega), List.take_of_length_le (Nat.le_refl _), List.take_of_length_le (by omega)]
theorem slS_bk (b : List Row) (lo hi : Option Int) : slS lo hi (.val (eBk b)) = some (.val (eBk (cutA b lo hi))) := by
  unfold eBk
  rw [slS_tup, cutA_map]
theorem addS_bk2 (a m : List Row) : addS (.val (eBk a)) (.val (eBk m)) = if a.length + m.length ≤ sizeLine then some (.val (eBk (a ++ m))) else none := addS_bk a m
theorem Bo.mem {b c : List Row} (h : Bo b) (hl : c.length ≤ 200) (hm : ∀ r ∈ c, r ∈ b) : Bo c := ⟨hl, fun r hr => h.row r (hm r hr)⟩
end Eng
/-! The laws' learnt words; books trimmed. -/
namespace Eng
open PySem PySem.Spec L2 SX
open PyProof.Rows hiding St
/-- what is known meanwhile -/
def Jl (b : List Row) (k : List Str) : Prop := Kn b k ∧ ∀ w ∈ k, w ∈ cls b
theorem Jl.nil (b : List Row) : Jl b [] := ⟨Kn.nil b, by simp⟩
/-! ### trimmed -/
/-- the book without one row -/
def cut1 (b : List Row) (i : Nat) : List Row := b.take i ++ b.drop (i + 1)
theorem cut1_sub (b : List Row) (i : Nat) : (cut1 b i).Sublist b := by
  unfold cut1
  have h := List.take_append_drop i b
  have : (b.take i ++ b.drop (i + 1)).Sublist (b.take i ++ b.drop i) := List.Sublist.append (List.Sublist.refl _) (by
    rw [show b.drop (i + 1) = (b.drop i).drop 1 by rw [List.drop_drop]]
    exact List.drop_sublist _ _)
  rwa [h] at this
theorem cutA_pre {α : Type} (xs : List α) (n : Nat) : cutA xs none (some (n : Int)) = xs.take n := by
  have := cutA_take xs (n : Int) (by omega)
  simpa using this
/-- none of the first rows can be left out -/
def Fst (b : List Row) (n : Nat) : Prop := ∀ i, i < n → i < b.length → lrn (cut1 b i) ≠ lrn b
theorem lrn_eq {b c : List Row} (h : ∀ w, w ∈ cls b ↔ w ∈ cls c) : lrn b = lrn c := sortT_ext (cls_kn b).1 (cls_kn c).1 h
theorem cls_eq {b c : List Row} (h : lrn b = lrn c) (w : Str) : w ∈ cls b ↔ w ∈ cls c := by rw [← lrn_mem, h, lrn_mem]
theorem mem_cut1 {b : List Row} {i : Nat} {r : Row} : r ∈ cut1 b i ↔ ∃ j, j ≠ i ∧ b[j]? = some r := by
  unfold cut1
  rw [List.mem_append]
  constructor
  · rintro (h | h)
    · obtain ⟨j, hj⟩ := List.mem_iff_getElem?.mp h
      rw [List.getElem?_take] at hj
      split at hj
      · exact ⟨j, by omega, hj⟩
      · cases hj
    · obtain ⟨j, hj⟩ := List.mem_iff_getElem?.mp h
      rw [List.getElem?_drop] at hj
      exact ⟨i + 1 + j, by omega, hj⟩
  · rintro ⟨j, hj, e⟩
    rcases Nat.lt_or_gt_of_ne hj with h | h
    · refine .inl (List.mem_iff_getElem?.mpr ⟨j, ?_⟩)
      rw [List.getElem?_take, if_pos h, e]
    · refine .inr (List.mem_iff_getElem?.mpr ⟨j - (i + 1), ?_⟩)
      rw [List.getElem?_drop, show i + 1 + (j - (i + 1)) = j by omega, e]
theorem cut1_get {b : List Row} {i : Nat} (h : i < b.length) (m : Nat) : (cut1 b i)[m]? = if m < i then b[m]? else b[m + 1]? := by
  unfold cut1
  have hl : (b.take i).length = i := by rw [List.length_take]; omega
  split
  · rename_i h1
    rw [List.getElem?_append_left (by omega), List.getElem?_take, if_pos h1]
  · rename_i h1
    rw [List.getElem?_append_right (by omega), List.getElem?_drop, hl, show i + 1 + (m - i) = m + 1 by omega]
theorem Fst.cut {b : List Row} {i : Nat} (hi : i < b.length) (h : Fst b i) (e : lrn (cut1 b i) = lrn b) : Fst (cut1 b i) i := fun j hj hl q => by
  have hjb : j < b.length := by omega
  refine h j hj hjb (lrn_eq fun w => ⟨fun hw => cls_mono (fun r hr => (cut1_sub b j).subset hr) hw, fun hw => ?_⟩)
  have hw2 : w ∈ cls (cut1 (cut1 b i) j) := (cls_eq (q.trans e) w).mpr hw
  refine cls_mono (fun r hr => ?_) hw2
  obtain ⟨m, hm, em⟩ := mem_cut1.mp hr
  rw [cut1_get hi] at em
  split at em
  · exact mem_cut1.mpr ⟨m, hm, em⟩
  · exact mem_cut1.mpr ⟨m + 1, by omega, em⟩
/-! ### the law's looks -/
theorem Gd.bk {b : List Row} (h : Bo b) : Gd (eBk b) 3 (b.length * 501) := by
  have := Gd.tup (Gd.map (f := eRow) (xs := b) fun r hr => Gd.row (h.row r hr))
  rwa [List.length_map] at this
end Eng
/-! Books without a word's rows; what a word must have. -/
namespace Eng
open PySem PySem.Spec L2 SX
open PyProof.Rows hiding St
/-! ### the law's learnt words of a list of rows -/
end Eng
/-! Pictures that suffice. -/
namespace Eng
open PySem PySem.Spec L2 SX
open PyProof.Rows hiding St
/-! ### the law's own -/
/-! ### drawn words -/
/-! ### strange words -/
end Eng
/-! The law's own looks at orders and knots. -/
namespace Eng
open PySem PySem.Spec L2 SX
open PyProof.Rows hiding St
/-! ### orders -/
/-! ### knots -/
def kn (b : List Row) (S : List Str) : List Row := S.map fun w => (w, blk b w S)
end Eng
/-! Law k41. -/
namespace Eng
open PySem PySem.Spec L2 SX
open PyProof.Rows hiding St
end Eng
/-! Law k42. -/
namespace Eng
open PySem PySem.Spec L2 SX
open PyProof.Rows hiding St
/-- without a word -/
def lo (l : List Str) (w : Str) : List Str := l.filter fun v => !decide (v = w)
end Eng
/-! Cores: knots of words of which no fewer have one. -/
namespace Eng
open PySem PySem.Spec L2 SX
open PyProof.Rows hiding St
/-! ### held among some words -/
@[simp] theorem inS_eLw (x : Str) (ws : List Str) : inS (.val (.str x)) (.val (eL ws)) = some (.val (.bool (decide (x ∈ ws)))) := inS_list x ws
def ha (b : List Row) (ws : List Str) : List Str := hfx b (ws.length + 1) ws
/-! ### the core -/
/-- a knot of words, of which no fewer have one -/
structure Cr (b : List Row) (S : List Str) : Prop where
  ne : S ≠ []
  nod : S.Nodup
  srt : S.Pairwise fun x y => leT x y = true
  wds : ∀ w ∈ S, w ∈ wds b
  hs : Hs b S
  min : ∀ w ∈ S, ∀ T, Hs b T → (∀ v ∈ T, v ∈ S ∧ v ≠ w) → T = []
/-! ### beside pictures -/
end Eng
/-! Law k34. -/
namespace Eng
open PySem PySem.Spec L2 SX
open PyProof.Rows hiding St
end Eng
/-! Knots apart. -/
namespace Eng
open PySem PySem.Spec L2 SX
open PyProof.Rows hiding St
/-! ### the law's held words -/
/-! ### the law -/
end Eng
/-! The fewest words, and their papers. -/
namespace Eng
open PySem PySem.Spec L2 SX
open PyProof.Rows hiding St
/-! ### lists of so many words -/
def sts : List Str → Nat → List (List Str)
  | _, 0 => [[]]
  | [], _ + 1 => []
  | w :: ws, m + 1 => (sts ws m).map (w :: ·) ++ sts ws (m + 1)
/-! ### the fewest words -/
/-! ### papers -/
end Eng
/-! Books cut; law k46. -/
namespace Eng
open PySem PySem.Spec L2 SX
open PyProof.Rows hiding St
/-! ### law k46 -/
end Eng
/-! Law k44: the paper gone along. -/
namespace Eng
open PySem PySem.Spec L2 SX
open PyProof.Rows hiding St
end Eng
/-! The looks of the laws over the other maker's books. -/
namespace Eng
open PySem PySem.Spec L2 SX
open PyProof.Rows hiding St
/-! ### knots -/
/-! ### orders -/
end Eng
/-! Law k64: its books, and the answer. -/
namespace Eng
open PySem PySem.Spec L2 SX
open PyProof.Rows hiding St
def RowOk (r : Row) : Prop := WW r.1 ∧ r.2.length ≤ 20 ∧ ∀ w ∈ r.2, WW w
/-- rows so far -/
def RR (n : Nat) (rs : List Row) : Prop := rs.length ≤ n ∧ ∀ r ∈ rs, RowOk r
theorem RR.bo {n : Nat} {rs : List Row} (h : RR n rs) (hn : n ≤ 200) : Bo rs := ⟨Nat.le_trans h.1 hn, h.2⟩
theorem RR.mono {n m : Nat} {rs : List Row} (h : RR n rs) (hn : n ≤ m) : RR m rs := ⟨Nat.le_trans h.1 hn, h.2⟩
theorem RR.add {n : Nat} {rs : List Row} {r : Row} (h : RR n rs) (hr : RowOk r) : RR (n + 1) (rs ++ [r]) := ⟨by have := h.1; simp; omega, fun q hq => (List.mem_append.mp hq).elim (h.2 q) fun e => by rw [List.mem_singleton.mp e]; exact hr⟩
end Eng
/-! The makers of names for the laws of laying. -/
namespace Eng
open PySem PySem.Spec L2 SX
open PyProof.Rows hiding St
end Eng
/-! New names. -/
namespace Eng
open PySem PySem.Spec L2 SX
open PyProof.Rows hiding St
def stm (w : Str) : Str := (Txt.split w (Str.ofString "/")).headD (Str.ofString "")
def nmF (w : Str) (n : Nat) : Str := stm w ++ Str.ofString "/" ++ S (TL.numL n)
theorem stm_ex {w : Str} (h : WW w) : ∃ st, Stem st ∧ stm w = S st := by
  obtain ⟨l, r, hl, e⟩ := h.split
  exact ⟨l, hl, by unfold stm; rw [e]; rfl⟩
theorem nmF_WW {w : Str} (h : WW w) {n : Nat} (h2 : 2 ≤ n) (h9 : n ≤ 99) : WW (nmF w n) := by
  obtain ⟨st, hst, e⟩ := stm_ex h
  unfold nmF
  rw [e, cat_slash]
  exact ⟨st, hst, .inr ⟨n, h2, h9, rfl⟩⟩
theorem S_inj' {a b : List Nat} (h : S a = S b) : a = b := by
  have := congrArg (fun s : Str => s.cps.toList) h
  simpa [S] using this
theorem nmF_inj {w : Str} (h : WW w) {m n : Nat} (e : nmF w m = nmF w n) : m = n := by
  obtain ⟨st, hst, es⟩ := stm_ex h
  unfold nmF at e
  rw [es, cat_slash, cat_slash] at e
  have := S_inj' e
  have := List.append_cancel_left this
  exact TL.numL_inj (by simpa using this)
theorem split_ok {w : Str} (h : WW w) : ∃ r, splitS w (.val (.str (Str.ofString "/"))) = some (.lst ((stm w :: r).map .str)) := by
  obtain ⟨l, r, hl, e⟩ := h.split
  have l0 := h.len
  have sl1 : w.length + 2 ≤ sizeLine := Nat.le_trans (show w.length + 2 ≤ 13 by omega) (by decide)
  have sl2 : (Str.ofString "/").length = 1 := by rw [slash]; rfl
  refine ⟨r, ?_⟩
  show (if ((Str.ofString "/").length == 0) = false ∧ w.length + 2 ≤ sizeLine then some (O.lst ((Txt.split w (Str.ofString "/")).map PyData.str)) else none) = _
  have es : stm w = S l := by unfold stm; rw [e]; rfl
  rw [e, es]
  simp [sl1, sl2]
theorem stem_of_eq (w : Str) (h : WW w) : f_stem_of [.val (.str w)] = .ret (.val (.str (stm w))) [.val (.str w)] := by
  obtain ⟨r, sp⟩ := split_ok h
  simp [-List.map_map, f_stem_of, b_stem_of, runF_ap, sp]
theorem nm_adds {w : Str} (h : WW w) {n : Nat} (h2 : 2 ≤ n) (h9 : n ≤ 99) : addS (.val (.str (stm w))) (.val (.str (Str.ofString "/"))) = some (.val (.str (stm w ++ Str.ofString "/"))) ∧ strS (.val (.int (n : Int))) = some (.val (.str (S (TL.numL n)))) ∧ addS (.val (.str (stm w ++ Str.ofString "/"))) (.val (.str (S (TL.numL n)))) = some (.val (.str (nmF w n))) := by
  obtain ⟨st, hst, e⟩ := stm_ex h
  have sl2 : (Str.ofString "/").length = 1 := by rw [slash]; rfl
  have g4 : (stm w).length + (Str.ofString "/").length ≤ sizeLine := by rw [e, S_len, sl2]; exact Nat.le_trans (show st.length + 1 ≤ 9 by have := hst.2.1; omega) (by decide)
  have g5 : (n : Int).natAbs.log2 < 1920 := Nat.lt_of_lt_of_le (Nat.log2_lt (by omega) |>.mpr (show n < 2 ^ 7 by omega)) (by decide)
  have g6 : Str.ofString (Int.repr (n : Int)) = S (TL.numL n) := num_S n
  have g7 : (stm w ++ Str.ofString "/").length + (S (TL.numL n)).length ≤ sizeLine := by
    rw [e, slash, S_cat, S_len, S_len, List.length_append]
    exact Nat.le_trans (show st.length + [47].length + (TL.numL n).length ≤ 11 by have := hst.2.1; have := numL_len h9; simp; omega) (by decide)
  refine ⟨by rw [addS_str, if_pos g4], ?_, by rw [addS_str, if_pos g7]; rfl⟩
  show (if (n : Int).natAbs.log2 < 1920 then some (O.val (.str (Str.ofString (Int.repr (n : Int))))) else none) = _
  rw [if_pos g5, g6]
def frq (w : Str) (met : List Str) : Option Nat := ((List.range 98).map (2 + ·)).find? fun n => !decide (nmF w n ∈ met)
def fnw (w : Str) (met : List Str) : Str := nmF w ((frq w met).getD 2)
theorem frq_some {w : Str} {met : List Str} {n : Nat} (h : frq w met = some n) : 2 ≤ n ∧ n ≤ 99 ∧ nmF w n ∉ met := by
  unfold frq at h
  have h1 := List.mem_of_find?_eq_some h
  have h2 := List.find?_some h
  obtain ⟨k, hk, rfl⟩ := List.mem_map.mp h1
  have := List.mem_range.mp hk
  exact ⟨by omega, by omega, by simpa using h2⟩
theorem frq_ex {w : Str} (hw : WW w) {met : List Str} (h : met.length < 98) : ∃ n, frq w met = some n := by
  cases e : frq w met with
  | some n => exact ⟨n, rfl⟩
  | none =>
    exfalso
    unfold frq at e
    rw [List.find?_eq_none] at e
    have hs : ∀ x ∈ ((List.range 98).map (2 + ·)).map (nmF w), x ∈ met := fun x hx => by
      obtain ⟨n, hn, rfl⟩ := List.mem_map.mp hx
      have := e n hn
      simpa using this
    have nd : (((List.range 98).map (2 + ·)).map (nmF w)).Nodup := by
      refine List.pairwise_map.mpr (List.pairwise_map.mpr (List.nodup_range.imp fun hab q => hab ?_))
      have := nmF_inj hw q
      omega
    have := sub_len nd hs
    simp at this
    omega
theorem fresh_name_eq (w : Str) (hw : WW w) (met : List Str) : f_fresh_name [.val (.str w), .dic (kd met)] = match frq w met with | some n => .ret (.val (.str (nmF w n))) [.val (.str w), .dic (kd met)] | none => .exc 5 [.val (.str w), .dic (kd met)] := by
  have so := stem_of_eq w hw
  have fo := forL_find (f := fun n : Nat => PyData.int (n : Int)) (T := .nm 2) (fg := [2, 3]) (b := w_fresh_name_1) (ρ := [some (false, .val (.str w)), some (true, .dic (kd met)), none, none]) (fun n => !decide (nmF w n ∈ met)) (fun n => .rt (.val (.str (nmF w n))) [some (false, .val (.str w)), some (true, .dic (kd met)), some (false, .val (.int (n : Int))), some (false, .val (.str (nmF w n)))]) (fun n _ => .inl ⟨_, _, rfl⟩) ((List.range 98).map (2 + ·)) (by
    intro n hn
    obtain ⟨k, hk, hkn⟩ := List.mem_map.mp hn
    have := List.mem_range.mp hk
    obtain ⟨q1, q2, q3⟩ := nm_adds hw (n := n) (by omega) (by omega)
    have t0 : ∀ ρ : En, (Tgt.nm 2).put (.int (n : Int)) ρ = setE 2 (.val (.int (n : Int))) ρ := fun ρ => rfl
    have a1 : (sAsg 3 (o2 addS (o2 addS (oCall f_stem_of (oAs [oNm 0])) (oC (.str "/"))) (o1 strS (oNm 2)))) [some (false, .val (.str w)), some (true, .dic (kd met)), some (false, .val (.int (n : Int))), none] = .nx [some (false, .val (.str w)), some (true, .dic (kd met)), some (false, .val (.int (n : Int))), some (false, .val (.str (nmF w n)))] := by
      simp [-List.map_map, -addS_str, -strS_int, so, q1, q2, q3]
    rw [turn_ap, t0]
    simp only [setE_succ, setE_zero', Option.map_some]
    rw [w_fresh_name_1, sq_nx a1]
    by_cases h : nmF w n ∈ met <;> simp [-List.map_map, h])
  have er : ((List.range 98).map (2 + ·)).map (fun n : Nat => PyData.int (n : Int)) = rng 2 98 := by
    unfold rng
    rw [List.map_map]
    exact List.map_congr_left fun k _ => by simp
  rw [er] at fo
  have s0 : startE 4 [.val (.str w), .dic (kd met)] = [some (false, .val (.str w)), some (true, .dic (kd met)), none, none] := rfl
  have ef : (((List.range 98).map (2 + ·)).find? fun n => !decide (nmF w n ∈ met)) = frq w met := rfl
  rw [ef] at fo
  rw [f_fresh_name, runF_fin, s0, b_fresh_name]
  cases h : frq w met with
  | some n =>
    rw [h] at fo
    simp [-List.map_map, fo]
  | none =>
    rw [h] at fo
    simp [-List.map_map, fo]
/-! ### new names -/
abbrev Pr := Str × Str
def eP (p : Pr) : D := .tuple [.str p.1, .str p.2]
def stN (mine same : List Str) (s : List Pr × List Str) (w : Str) : List Pr × List Str := if w ∈ mine ∧ w ∉ same then (s.1 ++ [(w, fnw w s.2)], addT s.2 (fnw w s.2)) else (s.1 ++ [(w, w)], s.2)
def nnS (mine theirs same : List Str) : List Pr × List Str := theirs.foldl (stN mine same) ([], metT (mine ++ theirs))
def nn (mine theirs same : List Str) : List Pr := (nnS mine theirs same).1
/-- what the names are so far -/
structure Jn (mine theirs same : List Str) (done : List Str) (s : List Pr × List Str) : Prop where
  fst : s.1.map (·.1) = done
  met : ∀ x, x ∈ s.2 ↔ (x ∈ mine ∨ x ∈ theirs) ∨ x ∈ s.1.map (·.2)
  len : s.2.length ≤ mine.length + theirs.length + done.length
  nod : (s.1.map (·.2)).Nodup
  ww : ∀ x ∈ s.1.map (·.2), WW x
  old : ∀ p ∈ s.1, p.2 = p.1 ∨ (p.2 ∉ mine ∧ p.2 ∉ theirs)
  keep : ∀ p ∈ s.1, p.1 ∉ mine ∨ p.1 ∈ same → p.2 = p.1
  new : ∀ p ∈ s.1, p.1 ∈ mine ∧ p.1 ∉ same → p.2 ∉ mine ∧ p.2 ∉ theirs
theorem Jn.nil (mine theirs same : List Str) : Jn mine theirs same [] ([], metT (mine ++ theirs)) := ⟨rfl, fun x => by rw [mem_metT]; simp, by have := metT_len (mine ++ theirs); simpa using this, by simp, by simp, by simp, by simp, by simp⟩
theorem Jn.step {mine theirs same done rest : List Str} {w : Str} {s : List Pr × List Str} (h : Jn mine theirs same done s) (ht : theirs = done ++ w :: rest) (hn : theirs.Nodup) (hW : ∀ v ∈ theirs, WW v) (hl : mine.length + 2 * theirs.length < 98) : Jn mine theirs same (done ++ [w]) (stN mine same s w) := by
  have hwt : w ∈ theirs := by rw [ht]; simp
  have hdl : done.length < theirs.length := by rw [ht]; simp
  unfold stN
  by_cases q : w ∈ mine ∧ w ∉ same
  · rw [if_pos q]
    obtain ⟨n, hf⟩ := frq_ex (hW w hwt) (met := s.2) (by have := h.len; omega)
    obtain ⟨n2, n9, nm⟩ := frq_some hf
    have e : fnw w s.2 = nmF w n := by unfold fnw; rw [hf]; rfl
    rw [e]
    have nm' : ¬ ((nmF w n ∈ mine ∨ nmF w n ∈ theirs) ∨ nmF w n ∈ s.1.map (·.2)) := fun q => nm ((h.met _).mpr q)
    refine ⟨by simp [h.fst], fun x => ?_, ?_, ?_, ?_, ?_, ?_, ?_⟩
    · rw [addT_new nm, List.mem_append, h.met]
      simp only [List.map_append, List.map_cons, List.map_nil, List.mem_append, List.mem_singleton]
      exact or_assoc
    · rw [addT_new nm]
      have := h.len
      simp only [List.length_append, List.length_singleton]
      omega
    · simp only [List.map_append, List.map_cons, List.map_nil]
      rw [List.nodup_append]
      refine ⟨h.nod, by simp, fun x hx y hy e => ?_⟩
      rw [List.mem_singleton.mp hy] at e
      exact nm' (.inr (e ▸ hx))
    · intro x hx
      simp only [List.map_append, List.map_cons, List.map_nil, List.mem_append, List.mem_singleton] at hx
      rcases hx with hx | rfl
      · exact h.ww x hx
      · exact nmF_WW (hW w hwt) n2 n9
    · intro p hp
      rcases List.mem_append.mp hp with hp | hp
      · exact h.old p hp
      · rw [List.mem_singleton.mp hp]
        exact .inr ⟨fun q => nm' (.inl (.inl q)), fun q => nm' (.inl (.inr q))⟩
    · intro p hp hc
      rcases List.mem_append.mp hp with hp | hp
      · exact h.keep p hp hc
      · rw [List.mem_singleton.mp hp] at hc ⊢
        rcases hc with hc | hc
        · exact absurd q.1 hc
        · exact absurd hc q.2
    · intro p hp hc
      rcases List.mem_append.mp hp with hp | hp
      · exact h.new p hp hc
      · rw [List.mem_singleton.mp hp]
        exact ⟨fun q => nm' (.inl (.inl q)), fun q => nm' (.inl (.inr q))⟩
  · rw [if_neg q]
    refine ⟨by simp [h.fst], fun x => ?_, ?_, ?_, ?_, ?_, ?_, ?_⟩
    · rw [h.met]
      simp only [List.map_append, List.map_cons, List.map_nil, List.mem_append, List.mem_singleton]
      constructor
      · rintro (h1 | h1)
        · exact .inl h1
        · exact .inr (.inl h1)
      · rintro (h1 | h1 | rfl)
        · exact .inl h1
        · exact .inr h1
        · exact .inl (.inr hwt)
    · have := h.len
      simp only [List.length_append, List.length_singleton]
      omega
    · simp only [List.map_append, List.map_cons, List.map_nil]
      rw [List.nodup_append]
      refine ⟨h.nod, by simp, fun x hx y hy e => ?_⟩
      rw [List.mem_singleton.mp hy] at e
      subst e
      obtain ⟨p, hp, hpx⟩ := List.mem_map.mp hx
      rcases h.old p hp with h1 | ⟨_, h2⟩
      · have : p.1 ∈ done := by rw [← h.fst]; exact List.mem_map.mpr ⟨p, hp, rfl⟩
        rw [h1] at hpx
        rw [ht, List.nodup_append] at hn
        exact hn.2.2 p.1 this x (by simp) hpx
      · exact h2 (hpx ▸ hwt)
    · intro x hx
      simp only [List.map_append, List.map_cons, List.map_nil, List.mem_append, List.mem_singleton] at hx
      rcases hx with hx | rfl
      · exact h.ww x hx
      · exact hW x hwt
    · intro p hp
      rcases List.mem_append.mp hp with hp | hp
      · exact h.old p hp
      · rw [List.mem_singleton.mp hp]
        exact .inl rfl
    · intro p hp hc
      rcases List.mem_append.mp hp with hp | hp
      · exact h.keep p hp hc
      · rw [List.mem_singleton.mp hp]
    · intro p hp hc
      rcases List.mem_append.mp hp with hp | hp
      · exact h.new p hp hc
      · rw [List.mem_singleton.mp hp] at hc
        exact absurd hc q
theorem nn_J {mine theirs same : List Str} (hn : theirs.Nodup) (hW : ∀ v ∈ theirs, WW v) (hl : mine.length + 2 * theirs.length < 98) : Jn mine theirs same theirs (nnS mine theirs same) := by
  have key : ∀ (rest done : List Str) (s : List Pr × List Str), theirs = done ++ rest → Jn mine theirs same done s → Jn mine theirs same theirs (rest.foldl (stN mine same) s) := by
    intro rest
    induction rest with
    | nil => intro done s h hJ; rw [List.append_nil] at h; rw [h] at hJ ⊢; exact hJ
    | cons w rest ih =>
      intro done s h hJ
      exact ih (done ++ [w]) _ (by rw [h]; simp) (hJ.step h hn hW hl)
  exact key theirs [] _ rfl (Jn.nil mine theirs same)
theorem nn_turn_l (a b : List Row) (same : List Str) (s : List Pr × List Str) (w : Str) (hw : WW w) (hm : s.2.length < 98) (hp : s.1.length < 98) : turn (.nm 6) [6, 8] w_new_names_2 (.str w) [some (false, .val (eBk a)), some (false, .val (eBk b)), some (true, .lst (same.map .str)), some (false, .lst ((wds a).map .str)), some (true, .lst ((wds b).map .str)), some (false, .dic (kd s.2)), none, some (false, .lst (s.1.map eP)), none] = .nx [some (false, .val (eBk a)), some (false, .val (eBk b)), some (true, .lst (same.map .str)), some (false, .lst ((wds a).map .str)), some (true, .lst ((wds b).map .str)), some (false, .dic (kd (stN (wds a) same s w).2)), none, some (false, .lst ((stN (wds a) same s w).1.map eP)), none] := by
  have t0 : ∀ ρ : En, (Tgt.nm 6).put (.str w) ρ = setE 6 (.val (.str w)) ρ := fun ρ => rfl
  have z1 : s.1.length < sizeLine := small (m := 100) (by omega)
  have z2 : s.2.length < sizeLine := small (m := 100) (by omega)
  rw [turn_ap, t0]
  simp only [setE_succ, setE_zero', Option.map_some]
  have a1 : (sAsg 8 (oNm 6)) [some (false, .val (eBk a)), some (false, .val (eBk b)), some (true, .lst (same.map .str)), some (false, .lst ((wds a).map .str)), some (true, .lst ((wds b).map .str)), some (false, .dic (kd s.2)), some (false, .val (.str w)), some (false, .lst (s.1.map eP)), none] = .nx [some (false, .val (eBk a)), some (false, .val (eBk b)), some (true, .lst (same.map .str)), some (false, .lst ((wds a).map .str)), some (true, .lst ((wds b).map .str)), some (false, .dic (kd s.2)), some (false, .val (.str w)), some (false, .lst (s.1.map eP)), some (false, .val (.str w))] := by
    simp [-List.map_map]
  rw [w_new_names_2, sq_nx a1]
  by_cases q1 : w ∈ wds a
  · by_cases q2 : w ∈ same
    · have es : stN (wds a) same s w = (s.1 ++ [(w, w)], s.2) := if_neg fun q => q.2 q2
      have ep : PyData.tuple [.str w, .str w] = eP (w, w) := rfl
      rw [es]
      simp [-List.map_map, q1, q2, z1, ep]
    · have es : stN (wds a) same s w = (s.1 ++ [(w, fnw w s.2)], addT s.2 (fnw w s.2)) := if_pos ⟨q1, q2⟩
      obtain ⟨k, hf⟩ := frq_ex hw (met := s.2) hm
      have fq := fresh_name_eq w hw s.2
      rw [hf] at fq
      simp only at fq
      have en : nmF w k = fnw w s.2 := by unfold fnw; rw [hf]; rfl
      rw [en] at fq
      have ep : PyData.tuple [.str w, .str (fnw w s.2)] = eP (w, fnw w s.2) := rfl
      rw [es]
      simp [-List.map_map, q1, q2, z1, z2, ep, fq]
  · have es : stN (wds a) same s w = (s.1 ++ [(w, w)], s.2) := if_neg fun q => q1 q.1
    have ep : PyData.tuple [.str w, .str w] = eP (w, w) := rfl
    rw [es]
    simp [-List.map_map, q1, z1, ep]
theorem new_names_l (a b : List Row) (ha : Bo a) (hb : Bo b) (same : List Str) (hl : (wds a).length + 2 * (wds b).length < 98) : f_new_names [.val (eBk a), .val (eBk b), .lst (same.map .str)] = .ret (.lst ((nn (wds a) (wds b) same).map eP)) [.val (eBk a), .val (eBk b), .lst (same.map .str)] := by
  have wa := words_of_eq a ha
  have wb := words_of_eq b hb
  have s0 : startE 9 [.val (eBk a), .val (eBk b), .lst (same.map .str)] = [some (false, .val (eBk a)), some (false, .val (eBk b)), some (true, .lst (same.map .str)), none, none, none, none, none, none] := rfl
  have a1 : (sAsg 3 (oCall f_words_of (oAs [oNm 0]))) [some (false, .val (eBk a)), some (false, .val (eBk b)), some (true, .lst (same.map .str)), none, none, none, none, none, none] =
      .nx [some (false, .val (eBk a)), some (false, .val (eBk b)), some (true, .lst (same.map .str)), some (false, .lst ((wds a).map .str)), none, none, none, none, none] := by
    simp [-List.map_map, wa]
  have a2 : (sAsg 4 (oCall f_words_of (oAs [oNm 1]))) [some (false, .val (eBk a)), some (false, .val (eBk b)), some (true, .lst (same.map .str)), some (false, .lst ((wds a).map .str)), none, none, none, none, none] =
      .nx [some (false, .val (eBk a)), some (false, .val (eBk b)), some (true, .lst (same.map .str)), some (false, .lst ((wds a).map .str)), some (false, .lst ((wds b).map .str)), none, none, none, none] := by
    simp [-List.map_map, wb]
  have a3 : (sAsg 5 (oDic0)) [some (false, .val (eBk a)), some (false, .val (eBk b)), some (true, .lst (same.map .str)), some (false, .lst ((wds a).map .str)), some (false, .lst ((wds b).map .str)), none, none, none, none] =
      .nx [some (false, .val (eBk a)), some (false, .val (eBk b)), some (true, .lst (same.map .str)), some (false, .lst ((wds a).map .str)), some (false, .lst ((wds b).map .str)), some (false, .dic (kd [])), none, none, none] := by
    simp [-List.map_map, kd_nil]
  have z : (wds a).length + (wds b).length ≤ sizeLine := Nat.le_of_lt (small (m := 100) (by omega))
  have ad : addS (.lst ((wds a).map .str)) (.lst ((wds b).map .str)) = some (.lst ((wds a ++ wds b).map .str)) := by
    rw [addS_ll, List.length_map, List.length_map, if_pos z, List.map_append]
  obtain ⟨_, e1, rfl⟩ := forL_all (f := PyData.str) (T := .nm 6) (fg := [6]) (b := w_new_names_1)
    (fun done ρ => ρ = [some (false, .val (eBk a)), some (false, .val (eBk b)), some (true, .lst (same.map .str)), some (false, .lst ((wds a).map .str)), some (false, .lst ((wds b).map .str)), some (false, .dic (kd (metT done))), none, none, none]) (wds a ++ wds b) [some (false, .val (eBk a)), some (false, .val (eBk b)), some (true, .lst (same.map .str)), some (false, .lst ((wds a).map .str)), some (false, .lst ((wds b).map .str)), some (false, .dic (kd [])), none, none, none] rfl (by
    rintro done x rest ρ hd rfl
    refine ⟨_, ?_, rfl⟩
    rw [metT_snoc]
    have z : (metT done).length < sizeLine := small (m := 100) (by
      have := metT_len done
      have := congrArg List.length hd
      simp only [List.length_append, List.length_cons] at this
      omega)
    simp [-List.map_map, turn_ap, w_new_names_1, z])
  have a4 : (sFor (iSeq (o2 addS (oNm 3) (oNm 4))) (.nm 6) [6] w_new_names_1) [some (false, .val (eBk a)), some (false, .val (eBk b)), some (true, .lst (same.map .str)), some (false, .lst ((wds a).map .str)), some (false, .lst ((wds b).map .str)), some (false, .dic (kd [])), none, none, none] = .nx [some (false, .val (eBk a)), some (false, .val (eBk b)), some (true, .lst (same.map .str)), some (false, .lst ((wds a).map .str)), some (false, .lst ((wds b).map .str)), some (false, .dic (kd (metT (wds a ++ wds b)))), none, none, none] := by
    simp [-List.map_map, -List.map_append, -addS_ll, ad, e1]
  have a5 : (sAsg 7 (oLst (oAs []))) [some (false, .val (eBk a)), some (false, .val (eBk b)), some (true, .lst (same.map .str)), some (false, .lst ((wds a).map .str)), some (false, .lst ((wds b).map .str)), some (false, .dic (kd (metT (wds a ++ wds b)))), none, none, none] =
      .nx [some (false, .val (eBk a)), some (false, .val (eBk b)), some (true, .lst (same.map .str)), some (false, .lst ((wds a).map .str)), some (false, .lst ((wds b).map .str)), some (false, .dic (kd (metT (wds a ++ wds b)))), none, some (false, .lst []), none] := by
    simp [-List.map_map]
  obtain ⟨_, e2, s, hs, hJ, rfl⟩ := forLc_all (f := PyData.str) (T := .nm 6) (fg := [6, 8]) (b := w_new_names_2) (some (4, (wds b).map .str))
    (fun done ρ => ∃ s, s = done.foldl (stN (wds a) same) ([], metT (wds a ++ wds b)) ∧ Jn (wds a) (wds b) same done s ∧ ρ = [some (false, .val (eBk a)), some (false, .val (eBk b)), some (true, .lst (same.map .str)), some (false, .lst ((wds a).map .str)), some (true, .lst ((wds b).map .str)), some (false, .dic (kd s.2)), none, some (false, .lst (s.1.map eP)), none]) (wds b) [some (false, .val (eBk a)), some (false, .val (eBk b)), some (true, .lst (same.map .str)), some (false, .lst ((wds a).map .str)), some (true, .lst ((wds b).map .str)), some (false, .dic (kd (metT (wds a ++ wds b)))), none, some (false, .lst []), none] (by rintro done ρ ⟨s, _, _, rfl⟩; rfl) ⟨_, rfl, Jn.nil _ _ _, rfl⟩ (by
    rintro done w rest ρ hd ⟨s, hs, hJ, rfl⟩
    have hdl : done.length < (wds b).length := by rw [hd]; simp
    have hl1 := hJ.len
    have hl2 : s.1.length = done.length := by rw [← hJ.fst, List.length_map]
    have hwW := wds_WW hb w (by rw [hd]; simp)
    exact ⟨_, nn_turn_l a b same s w hwW (by omega) (by omega), _, by rw [List.foldl_append, ← hs]; rfl, hJ.step hd (wds_nodup b) (wds_WW hb) hl, rfl⟩)
  have a6 : (sFor (iSeq (oNm 4)) (.nm 6) [6, 8] w_new_names_2) [some (false, .val (eBk a)), some (false, .val (eBk b)), some (true, .lst (same.map .str)), some (false, .lst ((wds a).map .str)), some (false, .lst ((wds b).map .str)), some (false, .dic (kd (metT (wds a ++ wds b)))), none, some (false, .lst []), none] = .nx [some (false, .val (eBk a)), some (false, .val (eBk b)), some (true, .lst (same.map .str)), some (false, .lst ((wds a).map .str)), some (false, .lst ((wds b).map .str)), some (false, .dic (kd s.2)), none, some (false, .lst (s.1.map eP)), none] := by
    simp [-List.map_map, forW_nm, e2]
  have en : s.1 = nn (wds a) (wds b) same := by rw [hs]; rfl
  rw [f_new_names, runF_fin, s0, b_new_names, sq_nx a1, sq_nx a2, sq_nx a3, sq_nx a4, sq_nx a5, sq_nx a6, ← en]
  simp [-List.map_map]
end Eng
/-! Law k61. -/
namespace Eng
open PySem PySem.Spec L2 SX
open PyProof.Rows hiding St
end Eng
/-! Books laid together; law k63. -/
namespace Eng
open PySem PySem.Spec L2 SX
open PyProof.Rows hiding St
/-! ### names looked up -/
def pget (Q : List Pr) (w : Str) : Option Str := (Q.find? fun p => decide (p.1 = w)).map (·.2)
theorem dget_sdP (Q : List Pr) (w : Str) : dget (sd PyData.str Q) (.str w) = (pget Q w).map PyData.str := by
  unfold dget sd pget
  rw [List.find?_map]
  have : ((fun e : D × D => PyData.eqv e.1 (.str w)) ∘ fun e : Pr => (PyData.str e.1, PyData.str e.2)) = fun p => decide (p.1 = w) := by
    funext p
    exact eqv_s p.1 w
  rw [this]
  cases Q.find? fun p => decide (p.1 = w) <;> rfl
theorem ixS_sdP (Q : List Pr) (w : Str) : ixS (.dic (sd PyData.str Q)) (.val (.str w)) = (pget Q w).map fun v => .val (.str v) := by
  have h := dOk_sd PyData.str Q w
  show (if dOk (sd PyData.str Q) (.str w) = true then (dget (sd PyData.str Q) (.str w)).map O.val else none) = _
  rw [if_pos h, dget_sdP, Option.map_map]
  rfl
theorem pairs_P : ∀ Q : List Pr, pairsD (Q.map eP) = some (sd PyData.str Q)
  | [] => rfl
  | e :: Q => by
    rw [List.map_cons, pairsD, pairs_P Q]
    rfl
theorem merge_P : ∀ (Q E : List Pr), ((E ++ Q).map (·.1)).Nodup → mergeD (sd PyData.str E) (sd PyData.str Q) = sd PyData.str (E ++ Q)
  | [], E, _ => by rw [List.append_nil]; rfl
  | e :: Q, E, h => by
    have hn : e.1 ∉ E.map (·.1) := fun q => by
      rw [List.map_append, List.nodup_append] at h
      exact h.2.2 e.1 q e.1 (by simp) rfl
    have e1 : dput (sd PyData.str E) (.str e.1) (.str e.2) = sd PyData.str (E ++ [e]) := by
      unfold dput
      rw [dhas_sd, if_neg (by simpa using hn)]
      unfold sd
      rw [List.map_append]
      rfl
    have ih := merge_P Q (E ++ [e]) (by simpa using h)
    show mergeD (dput (sd PyData.str E) (.str e.1) (.str e.2)) (sd PyData.str Q) = _
    rw [e1, ih]
    simp
theorem dictS_P (Q : List Pr) (h : (Q.map (·.1)).Nodup) : dictS (.lst (Q.map eP)) = some (.dic (sd PyData.str Q)) := by
  have e := merge_P Q [] (by simpa using h)
  show (pairsD (Q.map eP)).map (fun ps => O.dic (mergeD [] ps)) = _
  rw [pairs_P]
  show some (O.dic (mergeD (sd PyData.str []) (sd PyData.str Q))) = _
  rw [e]
  rfl
def rho (Q : List Pr) (w : Str) : Str := (pget Q w).getD w
theorem pget_mem {Q : List Pr} {w : Str} (h : w ∈ Q.map (·.1)) : ∃ v, pget Q w = some v ∧ (w, v) ∈ Q := by
  unfold pget
  cases e : Q.find? fun p => decide (p.1 = w) with
  | some p =>
    have h1 := List.find?_some e
    have h2 := List.mem_of_find?_eq_some e
    simp only [decide_eq_true_eq] at h1
    exact ⟨p.2, rfl, by rw [← h1]; exact h2⟩
  | none =>
    exfalso
    obtain ⟨p, hp, hpw⟩ := List.mem_map.mp h
    have := List.find?_eq_none.mp e p hp
    simp at this
    exact this hpw
theorem rho_get {Q : List Pr} {w : Str} (h : w ∈ Q.map (·.1)) : pget Q w = some (rho Q w) ∧ (w, rho Q w) ∈ Q := by
  obtain ⟨v, hv, hm⟩ := pget_mem h
  have : rho Q w = v := by unfold rho; rw [hv]; rfl
  rw [this]
  exact ⟨hv, hm⟩
theorem ixS_rho {Q : List Pr} {w : Str} (h : w ∈ Q.map (·.1)) : ixS (.dic (sd PyData.str Q)) (.val (.str w)) = some (.val (.str (rho Q w))) := by
  rw [ixS_sdP, (rho_get h).1]
  rfl
/-! ### laid -/
def alkB (r s : Row) : Bool := decide (r.1 = s.1) && decide (sortT r.2 = sortT s.2)
theorem alike_eq (r s : Row) (hr : WW r.1 ∧ r.2.length ≤ 20 ∧ ∀ w ∈ r.2, WW w) (hs : WW s.1 ∧ s.2.length ≤ 20 ∧ ∀ w ∈ s.2, WW w) : f_alike [.val (eRow r), .val (eRow s)] = .ret (.val (.bool (alkB r s))) [.val (eRow r), .val (eRow s)] := by
  have s1 : sortS (.val (eW r.2)) = some (.lst ((sortT r.2).map .str)) := by
    show sortS (.val (.tuple (r.2.map .str))) = _
    rw [sortS_tup, if_pos (Nat.le_of_lt (small (m := 20) hr.2.1))]
  have s2 : sortS (.val (eW s.2)) = some (.lst ((sortT s.2).map .str)) := by
    show sortS (.val (.tuple (s.2.map .str))) = _
    rw [sortS_tup, if_pos (Nat.le_of_lt (small (m := 20) hs.2.1))]
  have q := eqS_lsts (a := sortT r.2) (b := sortT s.2) (fun w h => hr.2.2 w (mem_sortT.mp h)) (fun w h => hs.2.2 w (mem_sortT.mp h))
  unfold alkB
  by_cases h : r.1 = s.1
  · simp [-List.map_map, f_alike, b_alike, runF_ap, s1, s2, q, h]
  · simp [-List.map_map, f_alike, b_alike, runF_ap, h]
def ren (Q : List Pr) (r : Row) : Row := (rho Q r.1, r.2.map (rho Q))
def stA (rows : List Row) (r : Row) : List Row := if (rows.any fun s => alkB r s) = true then rows else rows ++ [r]
def lai (Q : List Pr) (a b : List Row) : List Row := (b.map (ren Q)).foldl stA a
theorem stA_len (rows : List Row) (r : Row) : (stA rows r).length ≤ rows.length + 1 := by unfold stA; split <;> simp
theorem foldA_len : ∀ (rs rows : List Row), (rs.foldl stA rows).length ≤ rows.length + rs.length
  | [], rows => by simp
  | r :: rs, rows => by
    rw [List.foldl_cons]
    have h1 := foldA_len rs (stA rows r)
    have h2 := stA_len rows r
    rw [List.length_cons]
    omega
theorem foldA_mem : ∀ (rs rows : List Row) {s : Row}, s ∈ rs.foldl stA rows → s ∈ rows ∨ s ∈ rs
  | [], rows, s, h => .inl h
  | r :: rs, rows, s, h => by
    rw [List.foldl_cons] at h
    rcases foldA_mem rs _ h with h | h
    · unfold stA at h
      split at h
      · exact .inl h
      · rcases List.mem_append.mp h with h | h
        · exact .inl h
        · rw [List.mem_singleton.mp h]
          exact .inr List.mem_cons_self
    · exact .inr (List.mem_cons_of_mem _ h)
/-- what a book's rows must be -/
def RO (r : Row) : Prop := WW r.1 ∧ r.2.length ≤ 20 ∧ ∀ w ∈ r.2, WW w
theorem laid_turn (a b : List Row) (hb : Bo b) (x2 : Sl) (Q : List Pr) (hQ1 : ∀ w ∈ wds b, w ∈ Q.map (·.1)) (hQW : ∀ w ∈ wds b, WW (rho Q w)) (rows : List Row) (hr : ∀ s ∈ rows, RO s) (hl : rows.length ≤ 1000) (r : Row) (hrb : r ∈ b) : turn (.tup [5, 6]) [5, 6, 7] w_laid_1 (eRow r) [some (false, .val (eBk a)), some (false, .val (eBk b)), x2, some (false, .dic (sd PyData.str Q)), some (false, .lst (rows.map eRow)), none, none, none, none, none] = .nx [some (false, .val (eBk a)), some (false, .val (eBk b)), x2, some (false, .dic (sd PyData.str Q)), some (false, .lst ((stA rows (ren Q r)).map eRow)), none, none, none, none, none] := by
  have h1 := hQ1 r.1 (wds_mem.mpr ⟨r, hrb, .inl rfl⟩)
  have h2 : ∀ v ∈ r.2, v ∈ Q.map (·.1) := fun v hv => hQ1 v (wds_mem.mpr ⟨r, hrb, .inr hv⟩)
  have i1 := ixS_rho h1
  have hro := hb.row r hrb
  have hren : RO (ren Q r) := ⟨hQW _ (wds_mem.mpr ⟨r, hrb, .inl rfl⟩), by show (r.2.map (rho Q)).length ≤ 20; rw [List.length_map]; exact hro.2.1, fun w hw => by
    obtain ⟨v, hv, rfl⟩ := List.mem_map.mp hw
    exact hQW _ (wds_mem.mpr ⟨r, hrb, .inr hv⟩)⟩
  have z : rows.length < sizeLine := small (m := 1000) hl
  have c1 := lc_all (f := PyData.str) (c := none) (T := .nm 8) (t := tTrue) (g := o2 ixS (oNm 3) (oNm 8)) (own := [8])
    (ρ := [some (false, .val (eBk a)), some (false, .val (eBk b)), x2, some (false, .dic (sd PyData.str Q)), some (false, .lst (rows.map eRow)), some (false, .val (.str r.1)), some (false, .val (eW r.2)), none, none, none]) (fun v => .str (rho Q v)) r.2 (by simp) (by
    intro v hv
    have := ixS_rho (h2 v hv)
    simp [-List.map_map, -List.mem_map, lturn_ap, this])
  have em : (r.2.map fun v => PyData.str (rho Q v)) = (r.2.map (rho Q)).map .str := by rw [List.map_map]; rfl
  rw [em] at c1
  simp [-List.map_map] at c1
  have et : PyData.tuple [.str (rho Q r.1), .tuple ((r.2.map (rho Q)).map .str)] = eRow (ren Q r) := rfl
  have a1 : (sAsg 7 (oTup (oAs [o2 ixS (oNm 3) (oNm 5), o1 tupleS (c_laid_1)]))) [some (false, .val (eBk a)), some (false, .val (eBk b)), x2, some (false, .dic (sd PyData.str Q)), some (false, .lst (rows.map eRow)), some (false, .val (.str r.1)), some (false, .val (eW r.2)), none, none, none] = .nx [some (false, .val (eBk a)), some (false, .val (eBk b)), x2, some (false, .dic (sd PyData.str Q)), some (false, .lst (rows.map eRow)), some (false, .val (.str r.1)), some (false, .val (eW r.2)), some (false, .val (eRow (ren Q r))), none, none] := by
    simp [-List.map_map, i1, c_laid_1, c1, et]
  have c2 := lc_all (f := eRow) (c := some (4, rows.map eRow)) (T := .nm 9) (t := tTrue) (g := (oCall f_alike (oAs [oNm 7, oNm 9]))) (own := [9])
    (ρ := [some (false, .val (eBk a)), some (false, .val (eBk b)), x2, some (false, .dic (sd PyData.str Q)), some (true, .lst (rows.map eRow)), some (false, .val (.str r.1)), some (false, .val (eW r.2)), some (false, .val (eRow (ren Q r))), none, none]) (fun s => .bool (alkB (ren Q r) s)) rows (by simp) (by
    intro s hs
    have := alike_eq (ren Q r) s hren (hr s hs)
    simp [-List.map_map, lturn_ap, this])
  simp [-List.map_map] at c2
  have ay := anyS_map (fun s => alkB (ren Q r) s) rows
  have c3 : c_laid_2 [some (false, .val (eBk a)), some (false, .val (eBk b)), x2, some (false, .dic (sd PyData.str Q)), some (false, .lst (rows.map eRow)), some (false, .val (.str r.1)), some (false, .val (eW r.2)), some (false, .val (eRow (ren Q r))), none, none] = .ok (.tmp (.lst (rows.map fun s => .bool (alkB (ren Q r) s)))) [some (false, .val (eBk a)), some (false, .val (eBk b)), x2, some (false, .dic (sd PyData.str Q)), some (false, .lst (rows.map eRow)), some (false, .val (.str r.1)), some (false, .val (eW r.2)), some (false, .val (eRow (ren Q r))), none, none] := by
    simp [-List.map_map, c_laid_2, lcE_nm, c2]
  have t0 : (Tgt.tup [5, 6]).put (eRow r) [some (false, .val (eBk a)), some (false, .val (eBk b)), x2, some (false, .dic (sd PyData.str Q)), some (false, .lst (rows.map eRow)), none, none, none, none, none] = some [some (false, .val (eBk a)), some (false, .val (eBk b)), x2, some (false, .dic (sd PyData.str Q)), some (false, .lst (rows.map eRow)), some (false, .val (.str r.1)), some (false, .val (eW r.2)), none, none, none] := by simp
  rw [turn_ap, t0]
  simp only
  rw [w_laid_1, sq_nx a1]
  unfold stA
  cases q : (rows.any fun s => alkB (ren Q r) s) <;> rw [q] at ay <;> simp [-List.map_map, -anyS_ap, c3, ay, z]
theorem nn_rho {mine theirs same : List Str} (J : Jn mine theirs same theirs (nnS mine theirs same)) : (∀ w ∈ theirs, w ∈ (nn mine theirs same).map (·.1)) ∧ ∀ w ∈ theirs, WW (rho (nn mine theirs same) w) := by
  have h1 : (nn mine theirs same).map (·.1) = theirs := J.fst
  refine ⟨fun w hw => by rw [h1]; exact hw, fun w hw => ?_⟩
  have := (rho_get (Q := nn mine theirs same) (w := w) (by rw [h1]; exact hw)).2
  exact J.ww _ (List.mem_map.mpr ⟨_, this, rfl⟩)
/-! ### what is learnt in books laid together -/
/-! ### alone -/
theorem nn_same {mine theirs same : List Str} (h : ∀ w ∈ theirs, w ∈ mine → w ∈ same) : nn mine theirs same = theirs.map fun w => (w, w) := by
  have key : ∀ (ws : List Str) (s : List Pr × List Str), (∀ w ∈ ws, w ∈ mine → w ∈ same) → (ws.foldl (stN mine same) s).1 = s.1 ++ ws.map fun w => (w, w) := by
    intro ws
    induction ws with
    | nil => intro s _; simp
    | cons w ws ih =>
      intro s hs
      have e : stN mine same s w = (s.1 ++ [(w, w)], s.2) := if_neg fun q => q.2 (hs w List.mem_cons_self q.1)
      rw [List.foldl_cons, e, ih _ fun v hv => hs v (List.mem_cons_of_mem _ hv)]
      simp
  have := key theirs ([], metT (mine ++ theirs)) h
  simpa [nn, nnS] using this
theorem wds_nil : wds [] = [] := by
  unfold wds wl
  simp [metT, sortT]
theorem Bo.nil : Bo [] := ⟨by simp, by simp⟩
end Eng
/-! What is told anew: the reading evaluated. -/
namespace Eng
open PySem PySem.Spec L2 SX
open PyProof.Rows hiding St
theorem lfA_map {α : Type} {f : α → D} {xs : List α} (h : ∀ x ∈ xs, lfD (f x) = true) : lfA (xs.map f) = true := by
  induction xs with
  | nil => simp [lfA]
  | cons x xs ih =>
    rw [List.map_cons, lfA, h x List.mem_cons_self, ih fun y hy => h y (List.mem_cons_of_mem _ hy)]
    rfl
@[simp] theorem lfD_str (x : Str) : lfD (.str x) = true := by simp [lfD]
@[simp] theorem lfD_int (x : Int) : lfD (.int x) = true := by simp [lfD]
@[simp] theorem lfD_bool (x : Bool) : lfD (.bool x) = true := by simp [lfD]
@[simp] theorem lfD_none : lfD .none = true := by simp [lfD]
@[simp] theorem lfA_strs (xs : List Str) : lfA (xs.map PyData.str) = true := lfA_map fun _ _ => lfD_str _
@[simp] theorem lfA_ints (xs : List Int) : lfA (xs.map PyData.int) = true := lfA_map fun _ _ => lfD_int _
@[simp] theorem lfD_eW (xs : List Str) : lfD (eW xs) = true := by unfold eW; rw [lfD]; exact lfA_strs xs
@[simp] theorem lfD_eRow (r : Row) : lfD (eRow r) = true := by unfold eRow; simp [lfD, lfA]
@[simp] theorem lfD_eBk (b : List Row) : lfD (eBk b) = true := by unfold eBk; rw [lfD]; exact lfA_map fun _ _ => lfD_eRow _
@[simp] theorem lfO_val (d : D) : lfO (.val d) = lfD d := rfl
@[simp] theorem lfO_scr (ns : List Int) : lfO (.scr ns) = true := rfl
@[simp] theorem lfO_lst (ds : List D) : lfO (.lst ds) = lfA ds := rfl
@[simp] theorem strip_nil : strip [] = [] := rfl
@[simp] theorem strip_cons (sl : Sl) (ρ : En) : strip (sl :: ρ) = strip1 sl :: strip ρ := rfl
@[simp] theorem strip1_none : strip1 none = none := rfl
@[simp] theorem strip1_val (p : Bool) (d : D) : strip1 (some (p, .val d)) = if lfD d = true then some (p, .val d) else none := rfl
@[simp] theorem strip1_scr (p : Bool) (ns : List Int) : strip1 (some (p, .scr ns)) = some (p, .scr ns) := rfl
@[simp] theorem strip1_lst (p : Bool) (ds : List D) : strip1 (some (p, .lst ds)) = none := rfl
@[simp] theorem strip1_dic (p : Bool) (ds : List (D × D)) : strip1 (some (p, .dic ds)) = none := rfl
@[simp] theorem pinsE_nil (ρ : En) : pinsE [] ρ = some ρ := rfl
@[simp] theorem unpins_nil (o : SOut) : unpins [] o = o := rfl
@[simp] theorem unpins_cons (j : Nat) (js : List Nat) (o : SOut) : unpins (j :: js) o = unpS j (unpins js o) := rfl
@[simp] theorem unpS_rt (j : Nat) (o : O) (ρ : En) : unpS j (.rt o ρ) = .rt o (unpin j ρ) := rfl
@[simp] theorem unpin_zero_none (ρ : En) : unpin 0 (none :: ρ) = none :: ρ := rfl
@[simp] theorem noneE_nil (ρ : En) : noneE [] ρ = ρ := rfl
@[simp] theorem noneE_cons (i : Nat) (is : List Nat) (ρ : En) : noneE (i :: is) ρ = noneE is (ρ.set i none) := rfl
@[simp] theorem sFrz_ap (j : Nat) (b : SS) (ρ : En) : sFrz j b ρ = b (frz ρ j) := rfl
@[simp] theorem sDrp_ap (is : List Nat) (b : SS) (ρ : En) : sDrp is b ρ = b (dropE is ρ) := rfl
@[simp] theorem oAppT_ap (f g : ES) (ρ : En) : oAppT f g ρ = (f ρ).bind fun p ρ1 => match p with
  | .tmp (.lst ds) => (g ρ1).bind fun p2 ρ2 => match give ρ2 p2 with
    | some (_, ρ3) => if ds.length < sizeLine then .ok (.tmp (.val .none)) ρ3 else .stuck
    | none => .stuck
  | _ => .stuck := rfl
@[simp] theorem listRvT_tup (ds : List D) : listRvT (.val (.tuple ds)) = some (.lst ds.reverse) := rfl
@[simp] theorem tupRvT_tup (ds : List D) : tupRvT (.val (.tuple ds)) = some (.val (.tuple ds.reverse)) := rfl
end Eng
/-! Law k94: the second book, the words told to be the same. -/
namespace Eng
open PySem PySem.Spec L2 SX
open PyProof.Rows hiding St
end Eng
/-! Law k94: names and books laid together, as the law reckons them. -/
namespace Eng
open PySem PySem.Spec L2 SX
open PyProof.Rows hiding St
theorem slash2 (w : Str) (h : WW w) : addS (.val (.str (stm w))) (.val (.str (Str.ofString "/2"))) = some (.val (.str (nmF w 2))) := by
  obtain ⟨st, hst, e⟩ := stm_ex h
  have s2 : Str.ofString "/2" = S [47, 50] := by decide +kernel
  have n2 : TL.numL 2 = [50] := by decide +kernel
  have z : (S st).length + (S [47, 50]).length ≤ sizeLine := by rw [S_len, S_len]; exact Nat.le_trans (show st.length + [47, 50].length ≤ 10 by have := hst.2.1; simp; omega) (by decide)
  unfold nmF
  rw [e, s2, addS_str, if_pos z, cat_slash, S_cat, n2]
end Eng
/-! Law k94. -/
namespace Eng
open PySem PySem.Spec L2 SX
open PyProof.Rows hiding St
/-! ### the book laid together, as the law reckons it -/
theorem laid_gen (a b : List Row) (ha : Bo a) (hb : Bo b) (same : List Str) (hl : (wds a).length + 2 * (wds b).length < 98) (hl2 : a.length + b.length ≤ 300) : f_laid [.val (eBk a), .val (eBk b), .lst (same.map .str)] = if 60 < (lai (nn (wds a) (wds b) same) a b).length then .exc 5 [.val (eBk a), .val (eBk b), .lst (same.map .str)] else .ret (.val (eBk (lai (nn (wds a) (wds b) same) a b))) [.val (eBk a), .val (eBk b), .lst (same.map .str)] := by
  have nq := new_names_l a b ha hb same hl
  have J := nn_J (mine := wds a) (theirs := wds b) (same := same) (wds_nodup b) (wds_WW hb) hl
  obtain ⟨r1, r2⟩ := nn_rho J
  have hn : ((nn (wds a) (wds b) same).map (·.1)).Nodup := by rw [show (nn (wds a) (wds b) same).map (·.1) = wds b from J.fst]; exact wds_nodup b
  generalize nn (wds a) (wds b) same = Q at *
  have dq := dictS_P Q hn
  have s0 : startE 10 [.val (eBk a), .val (eBk b), .lst (same.map .str)] = [some (false, .val (eBk a)), some (false, .val (eBk b)), some (true, .lst (same.map .str)), none, none, none, none, none, none, none] := rfl
  have a1 : (sAsg 3 (o1 dictS (oCall f_new_names (oAs [oNm 0, oNm 1, oNm 2])))) [some (false, .val (eBk a)), some (false, .val (eBk b)), some (true, .lst (same.map .str)), none, none, none, none, none, none, none] =
      .nx [some (false, .val (eBk a)), some (false, .val (eBk b)), some (true, .lst (same.map .str)), some (false, .dic (sd PyData.str Q)), none, none, none, none, none, none] := by
    simp [-List.map_map, nq, dq]
  have lb : listS (.val (eBk a)) = some (.lst (a.map eRow)) := rfl
  have a2 : (sAsg 4 (o1 listS (oNm 0))) [some (false, .val (eBk a)), some (false, .val (eBk b)), some (true, .lst (same.map .str)), some (false, .dic (sd PyData.str Q)), none, none, none, none, none, none] = .nx [some (false, .val (eBk a)), some (false, .val (eBk b)), some (true, .lst (same.map .str)), some (false, .dic (sd PyData.str Q)), some (false, .lst (a.map eRow)), none, none, none, none, none] := by
    simp [-List.map_map, -listS_ap, lb]
  obtain ⟨_, e, rfl⟩ := forL_all (f := eRow) (T := .tup [5, 6]) (fg := [5, 6, 7]) (b := w_laid_1)
    (fun done ρ => ρ = [some (false, .val (eBk a)), some (false, .val (eBk b)), some (true, .lst (same.map .str)), some (false, .dic (sd PyData.str Q)), some (false, .lst (((done.map (ren Q)).foldl stA a).map eRow)), none, none, none, none, none]) b [some (false, .val (eBk a)), some (false, .val (eBk b)), some (true, .lst (same.map .str)), some (false, .dic (sd PyData.str Q)), some (false, .lst (a.map eRow)), none, none, none, none, none] rfl (by
    rintro done r rest ρ hd rfl
    have hrb : r ∈ b := by rw [hd]; simp
    have hlen := foldA_len (done.map (ren Q)) a
    have hdl : done.length ≤ b.length := by rw [hd]; simp
    rw [List.length_map] at hlen
    have hro : ∀ s ∈ (done.map (ren Q)).foldl stA a, RO s := fun s hs => by
      rcases foldA_mem _ _ hs with hs | hs
      · exact ha.row s hs
      · obtain ⟨u, hu, rfl⟩ := List.mem_map.mp hs
        have hub : u ∈ b := by rw [hd]; exact List.mem_append_left _ hu
        refine ⟨r2 _ (wds_mem.mpr ⟨u, hub, .inl rfl⟩), by show (u.2.map (rho Q)).length ≤ 20; rw [List.length_map]; exact (hb.row u hub).2.1, fun w hw => ?_⟩
        obtain ⟨v, hv, rfl⟩ := List.mem_map.mp hw
        exact r2 _ (wds_mem.mpr ⟨u, hub, .inr hv⟩)
    refine ⟨_, laid_turn a b hb _ Q r1 r2 _ hro (by omega) r hrb, ?_⟩
    rw [List.map_append, List.foldl_append]
    rfl)
  have hll := foldA_len (b.map (ren Q)) a
  rw [List.length_map] at hll
  have ef : (b.map (ren Q)).foldl stA a = lai Q a b := rfl
  rw [ef] at hll e
  have tu : tupleS (.lst ((lai Q a b).map eRow)) = some (.val (eBk (lai Q a b))) := rfl
  rw [f_laid, runF_fin, s0, b_laid, sq_nx a1, sq_nx a2]
  generalize lai Q a b = L at *
  by_cases h : 60 < L.length
  · have h' : (60 : Int) < L.length := by omega
    rw [if_pos h]
    simp [-List.map_map, -tupleS_ap, e, h, h']
  · have h' : ¬ (60 : Int) < L.length := by omega
    rw [if_neg h]
    simp [-List.map_map, -tupleS_ap, e, h, h', tu]
end Eng
/-! Words, told of any text. -/
namespace Eng
open PySem PySem.Spec L2 SX
open PyProof.Rows hiding St
def lowB (c : Nat) : Bool := decide (97 ≤ c ∧ c ≤ 122)
def stmB (l : List Nat) : Bool := (decide (1 ≤ l.length) && decide (l.length ≤ 8)) && l.all lowB
/-! ### words -/
end Eng
/-! Words and rows, told of any text. -/
namespace Eng
open PySem PySem.Spec L2 SX
open PyProof.Rows hiding St
/-! ### rows -/
/-- a row of texts not too long -/
structure RS (r : Row) : Prop where
  hd : r.1.length + 2 ≤ sizeLine
  ln : r.2.length ≤ 1000000
  tw : ∀ w ∈ r.2, w.length + 2 ≤ sizeLine
theorem small3 {m : Nat} (h : m ≤ 1000000) : m ≤ sizeLine := Nat.le_trans h (by decide)
end Eng
/-! Law k01. -/
namespace Eng
open PySem PySem.Spec L2 SX
open PyProof.Rows hiding St
end Eng
/-! Law k01: the number of a text's sense. -/
namespace Eng
open PySem PySem.Spec L2 SX
open PyProof.Rows hiding St
def nums : List Nat := (List.range 98).map (2 + ·)
end Eng
/-! Books read and shown. -/
namespace Eng
open PySem PySem.Spec L2 SX
open PyProof.Rows hiding St
/-! ### texts joined and split -/
def okT (t : Str) : Prop := ∀ c ∈ t.cps.toList, c < 0x110000
theorem okT.ok {t : Str} (h : okT t) : PyData.strOk t = true := by
  unfold PyData.strOk
  rw [← Array.all_toList]
  simp only [List.all_eq_true, decide_eq_true_eq]
  exact h
theorem joinL_mem (y : List Nat) : ∀ (ps : List (List Nat)) (p : List Nat), p ∈ ps → ∀ c ∈ p, c ∈ TL.joinL y ps
  | [], _, h, _, _ => by cases h
  | [p], q, h, c, hc => by
    rw [List.mem_singleton.mp h] at hc
    exact hc
  | p :: q :: r, x, h, c, hc => by
    show c ∈ p ++ (y ++ TL.joinL y (q :: r))
    rcases List.mem_cons.mp h with rfl | h
    · exact List.mem_append_left _ hc
    · exact List.mem_append_right _ (List.mem_append_right _ (joinL_mem y (q :: r) x h c hc))
theorem split_mem {t y p : Str} (h : p ∈ Txt.split t y) : ∀ c ∈ p.cps.toList, c ∈ t.cps.toList := fun c hc => by
  have j : Str.join y (Txt.split t y) = t := StrLaws.join_split t y
  have e : t.cps.toList = TL.joinL y.cps.toList ((Txt.split t y).map fun x => x.cps.toList) := by
    conv => lhs; rw [← j]
    exact TL.tl_join y _
  rw [e]
  exact joinL_mem _ _ p.cps.toList (List.mem_map.mpr ⟨p, h, rfl⟩) c hc
theorem okT.split {t y p : Str} (h : okT t) (hp : p ∈ Txt.split t y) : okT p := fun c hc => h c (split_mem hp c hc)
theorem str_beq (a b : Str) : (a == b) = decide (a = b) := by
  by_cases h : a = b
  · subst h; simp
  · rw [decide_eq_false h]
    exact beq_eq_false_iff_ne.mpr h
/-! ### a book that fits -/
/-! ### a row read -/
end Eng
/-! Books read and shown, of rows that are words. -/
namespace Eng
open PySem PySem.Spec L2 SX
open PyProof.Rows hiding St
/-! ### the text of a row -/
theorem WW.signs {w : Str} (h : WW w) : ∀ c ∈ w.cps.toList, 47 ≤ c ∧ c ≤ 122 := by
  obtain ⟨l, hl, rfl | ⟨n, h2, h9, rfl⟩⟩ := h
  · intro c hc
    have := hl.2.2 c hc
    omega
  · intro c hc
    have hc : c ∈ l ++ 47 :: TL.numL n := hc
    rcases List.mem_append.mp hc with hc | hc
    · have := hl.2.2 c hc
      omega
    · rcases List.mem_cons.mp hc with rfl | hc
      · omega
      · have := TL.numL_digits n c hc
        omega
/-- a row of words, at most eight told -/
def R8 (r : Row) : Prop := WW r.1 ∧ r.2.length ≤ 8 ∧ r.2.Nodup ∧ ∀ w ∈ r.2, WW w
theorem R8.rs {r : Row} (h : R8 r) : RS r := ⟨by have := h.1.len.1; exact small3 (by omega), by have := h.2.1; omega, fun w hw => by have := (h.2.2.2 w hw).len.1; exact small3 (by omega)⟩
end Eng
/-! The text of a book as the laws write it; law k05. -/
namespace Eng
open PySem PySem.Spec L2 SX
open PyProof.Rows hiding St
theorem Td.r8 {ns : List Str} {r : Row} (h : Rw ns r) (hw : ∀ w ∈ ns, WW w) : R8 r := ⟨hw _ h.1, h.2.1, h.2.2.1, fun w q => hw _ (h.2.2.2 w q)⟩
theorem Gd.txt {t : Str} (h : okT t) {n : Nat} (hl : t.length ≤ n) : Gd (.str t) 0 n := .str h.ok hl
end Eng
/-! Law k15: the law's own walk along pairs. -/
namespace Eng
open PySem PySem.Spec L2 SX
open PyProof.Rows hiding St
end Eng
/-! Law k15: the pairs made here, and bent. -/
namespace Eng
open PySem PySem.Spec L2 SX
open PyProof.Rows hiding St
@[simp] theorem inS_eL (x : Str) (ws : List Str) : inS (.val (.str x)) (.val (eL ws)) = some (.val (.bool (decide (x ∈ ws)))) := inS_list x ws
theorem tolds_snoc (b : List Row) (r : Row) (w : Str) : tolds (b ++ [r]) w = tolds b w ++ if r.1 = w then [r.2] else [] := by
  unfold tolds
  rw [List.filter_append, List.map_append]
  by_cases h : r.1 = w <;> simp [h]
/-- blocks for the rows of a word -/
def Gb (b : List Row) (S : List Str) (w : Str) (bl : List Str) : Prop := bl.length = (tolds b w).length ∧ ∀ p ∈ (tolds b w).zip bl, p.2 ∈ p.1 ∧ p.2 ∈ S
theorem Gb.stay {b : List Row} {S : List Str} {r : Row} {w : Str} {bl : List Str} (h : Gb b S w bl) (hr : r.1 ≠ w) : Gb (b ++ [r]) S w bl := by
  unfold Gb
  rw [tolds_snoc, if_neg hr, List.append_nil]
  exact h
end Eng
/-! Law k15: bent pairs, and the answer. -/
namespace Eng
open PySem PySem.Spec L2 SX
open PyProof.Rows hiding St
end Eng
/-! The laws' own look at a word and at a book (laws k03, k06). -/
namespace Eng
open PySem PySem.Spec L2 SX
open PyProof.Rows hiding St
def lwB (w : Str) : Bool := match Txt.split w (Str.ofString "/") with
  | [] => false
  | p :: _ => stmB p.cps.toList && (decide (w.cps.toList.drop p.cps.toList.length = []) || decide (w.cps.toList.drop p.cps.toList.length ∈ nums.map fun n => 47 :: TL.numL n))
end Eng
/-! The laws' own look at a book; what they say of the kinds (laws k03, k06). -/
namespace Eng
open PySem PySem.Spec L2 SX
open PyProof.Rows hiding St
/-- a row of texts -/
structure RG (r : Row) : Prop where
  rs : RS r
  oh : okT r.1
  ot : ∀ w ∈ r.2, okT w
end Eng
/-! Law k65: new names where there may be none left; laid of told names. -/
namespace Eng
open PySem PySem.Spec L2 SX
open PyProof.Rows hiding St
def stM (mine same : List Str) (s : List Pr × List Str) (w : Str) : Option (List Pr × List Str) := if w ∈ mine ∧ w ∉ same then (match frq w s.2 with
    | some n => some (s.1 ++ [(w, nmF w n)], addT s.2 (nmF w n))
    | none => none) else some (s.1 ++ [(w, w)], s.2)
def nnM (mine theirs same : List Str) : Option (List Pr × List Str) := theirs.foldlM (stM mine same) ([], metT (mine ++ theirs))
@[simp] theorem unpS_exc (j c : Nat) (ρ : En) : unpS j (.exc c ρ) = .exc c (unpin j ρ) := rfl
abbrev eNw (a b : List Row) (same : List Str) (s : List Pr × List Str) : En := [some (false, .val (eBk a)), some (false, .val (eBk b)), some (true, .lst (same.map .str)), some (false, .lst ((wds a).map .str)), some (true, .lst ((wds b).map .str)), some (false, .dic (kd s.2)), none, some (false, .lst (s.1.map eP)), none]
theorem nn_turnM (a b : List Row) (same : List Str) (s : List Pr × List Str) (w : Str) (hw : WW w) (hm : s.2.length < 1000) (hp : s.1.length < 1000) : (∃ s', stM (wds a) same s w = some s' ∧ turn (.nm 6) [6, 8] w_new_names_2 (.str w) (eNw a b same s) = .nx (eNw a b same s')) ∨ (stM (wds a) same s w = none ∧ turn (.nm 6) [6, 8] w_new_names_2 (.str w) (eNw a b same s) = .exc 5 [some (false, .val (eBk a)), some (false, .val (eBk b)), some (true, .lst (same.map .str)), some (false, .lst ((wds a).map .str)), some (true, .lst ((wds b).map .str)), some (false, .dic (kd s.2)), some (false, .val (.str w)), some (false, .lst (s.1.map eP)), some (false, .val (.str w))]) := by
  have t0 : ∀ ρ : En, (Tgt.nm 6).put (.str w) ρ = setE 6 (.val (.str w)) ρ := fun ρ => rfl
  have z1 : s.1.length < sizeLine := small (m := 1000) (by omega)
  have z2 : s.2.length < sizeLine := small (m := 1000) (by omega)
  rw [turn_ap, t0]
  simp only [setE_succ, setE_zero', Option.map_some]
  have a1 : (sAsg 8 (oNm 6)) [some (false, .val (eBk a)), some (false, .val (eBk b)), some (true, .lst (same.map .str)), some (false, .lst ((wds a).map .str)), some (true, .lst ((wds b).map .str)), some (false, .dic (kd s.2)), some (false, .val (.str w)), some (false, .lst (s.1.map eP)), none] = .nx [some (false, .val (eBk a)), some (false, .val (eBk b)), some (true, .lst (same.map .str)), some (false, .lst ((wds a).map .str)), some (true, .lst ((wds b).map .str)), some (false, .dic (kd s.2)), some (false, .val (.str w)), some (false, .lst (s.1.map eP)), some (false, .val (.str w))] := by
    simp [-List.map_map]
  rw [w_new_names_2, sq_nx a1]
  by_cases q1 : w ∈ wds a
  · by_cases q2 : w ∈ same
    · have es : stM (wds a) same s w = some (s.1 ++ [(w, w)], s.2) := if_neg fun q => q.2 q2
      have ep : PyData.tuple [.str w, .str w] = eP (w, w) := rfl
      refine .inl ⟨_, es, ?_⟩
      simp [-List.map_map, q1, q2, z1, ep]
    · have es : stM (wds a) same s w = (match frq w s.2 with
        | some n => some (s.1 ++ [(w, nmF w n)], addT s.2 (nmF w n))
        | none => none) := if_pos ⟨q1, q2⟩
      have fq := fresh_name_eq w hw s.2
      cases hf : frq w s.2 with
      | some n =>
        rw [hf] at fq es
        simp only at fq es
        have ep : PyData.tuple [.str w, .str (nmF w n)] = eP (w, nmF w n) := rfl
        refine .inl ⟨_, es, ?_⟩
        generalize nmF w n = v at *
        simp [-List.map_map, q1, q2, z1, z2, ep, fq]
      | none =>
        rw [hf] at fq es
        simp only at fq es
        refine .inr ⟨es, ?_⟩
        simp [-List.map_map, q1, q2, z1, z2, fq]
  · have es : stM (wds a) same s w = some (s.1 ++ [(w, w)], s.2) := if_neg fun q => q1 q.1
    have ep : PyData.tuple [.str w, .str w] = eP (w, w) := rfl
    refine .inl ⟨_, es, ?_⟩
    simp [-List.map_map, q1, z1, ep]
theorem stM_len {mine same : List Str} {s s' : List Pr × List Str} {w : Str} (h : stM mine same s w = some s') : s'.1.length = s.1.length + 1 ∧ s'.2.length ≤ s.2.length + 1 := by
  unfold stM at h
  split at h
  · split at h
    · injection h with h
      subst h
      refine ⟨by simp, ?_⟩
      show (addT _ _).length ≤ _
      unfold addT
      split <;> simp
    · cases h
  · injection h with h
    subst h
    exact ⟨by simp, by simp⟩
theorem new_names_M (a b : List Row) (ha : Bo a) (hb : Bo b) (same : List Str) (hl : (wds a).length + 2 * (wds b).length < 400) : f_new_names [.val (eBk a), .val (eBk b), .lst (same.map .str)] = match nnM (wds a) (wds b) same with
    | some s => .ret (.lst (s.1.map eP)) [.val (eBk a), .val (eBk b), .lst (same.map .str)]
    | none => .exc 5 [.val (eBk a), .val (eBk b), .lst (same.map .str)] := by
  have wa := words_of_eq a ha
  have wb := words_of_eq b hb
  have s0 : startE 9 [.val (eBk a), .val (eBk b), .lst (same.map .str)] = [some (false, .val (eBk a)), some (false, .val (eBk b)), some (true, .lst (same.map .str)), none, none, none, none, none, none] := rfl
  have a1 : (sAsg 3 (oCall f_words_of (oAs [oNm 0]))) [some (false, .val (eBk a)), some (false, .val (eBk b)), some (true, .lst (same.map .str)), none, none, none, none, none, none] =
      .nx [some (false, .val (eBk a)), some (false, .val (eBk b)), some (true, .lst (same.map .str)), some (false, .lst ((wds a).map .str)), none, none, none, none, none] := by
    simp [-List.map_map, wa]
  have a2 : (sAsg 4 (oCall f_words_of (oAs [oNm 1]))) [some (false, .val (eBk a)), some (false, .val (eBk b)), some (true, .lst (same.map .str)), some (false, .lst ((wds a).map .str)), none, none, none, none, none] =
      .nx [some (false, .val (eBk a)), some (false, .val (eBk b)), some (true, .lst (same.map .str)), some (false, .lst ((wds a).map .str)), some (false, .lst ((wds b).map .str)), none, none, none, none] := by
    simp [-List.map_map, wb]
  have a3 : (sAsg 5 (oDic0)) [some (false, .val (eBk a)), some (false, .val (eBk b)), some (true, .lst (same.map .str)), some (false, .lst ((wds a).map .str)), some (false, .lst ((wds b).map .str)), none, none, none, none] =
      .nx [some (false, .val (eBk a)), some (false, .val (eBk b)), some (true, .lst (same.map .str)), some (false, .lst ((wds a).map .str)), some (false, .lst ((wds b).map .str)), some (false, .dic (kd [])), none, none, none] := by
    simp [-List.map_map, kd_nil]
  have z : (wds a).length + (wds b).length ≤ sizeLine := Nat.le_of_lt (small (m := 1000) (by omega))
  have ad : addS (.lst ((wds a).map .str)) (.lst ((wds b).map .str)) = some (.lst ((wds a ++ wds b).map .str)) := by
    rw [addS_ll, List.length_map, List.length_map, if_pos z, List.map_append]
  obtain ⟨_, e1, rfl⟩ := forL_all (f := PyData.str) (T := .nm 6) (fg := [6]) (b := w_new_names_1)
    (fun done ρ => ρ = [some (false, .val (eBk a)), some (false, .val (eBk b)), some (true, .lst (same.map .str)), some (false, .lst ((wds a).map .str)), some (false, .lst ((wds b).map .str)), some (false, .dic (kd (metT done))), none, none, none]) (wds a ++ wds b) [some (false, .val (eBk a)), some (false, .val (eBk b)), some (true, .lst (same.map .str)), some (false, .lst ((wds a).map .str)), some (false, .lst ((wds b).map .str)), some (false, .dic (kd [])), none, none, none] rfl (by
    rintro done x rest ρ hd rfl
    refine ⟨_, ?_, rfl⟩
    rw [metT_snoc]
    have z : (metT done).length < sizeLine := small (m := 1000) (by
      have := metT_len done
      have := congrArg List.length hd
      simp only [List.length_append, List.length_cons] at this
      omega)
    simp [-List.map_map, turn_ap, w_new_names_1, z])
  have a4 : (sFor (iSeq (o2 addS (oNm 3) (oNm 4))) (.nm 6) [6] w_new_names_1) [some (false, .val (eBk a)), some (false, .val (eBk b)), some (true, .lst (same.map .str)), some (false, .lst ((wds a).map .str)), some (false, .lst ((wds b).map .str)), some (false, .dic (kd [])), none, none, none] = .nx [some (false, .val (eBk a)), some (false, .val (eBk b)), some (true, .lst (same.map .str)), some (false, .lst ((wds a).map .str)), some (false, .lst ((wds b).map .str)), some (false, .dic (kd (metT (wds a ++ wds b)))), none, none, none] := by
    simp [-List.map_map, -List.map_append, -addS_ll, ad, e1]
  have a5 : (sAsg 7 (oLst (oAs []))) [some (false, .val (eBk a)), some (false, .val (eBk b)), some (true, .lst (same.map .str)), some (false, .lst ((wds a).map .str)), some (false, .lst ((wds b).map .str)), some (false, .dic (kd (metT (wds a ++ wds b)))), none, none, none] =
      .nx [some (false, .val (eBk a)), some (false, .val (eBk b)), some (true, .lst (same.map .str)), some (false, .lst ((wds a).map .str)), some (false, .lst ((wds b).map .str)), some (false, .dic (kd (metT (wds a ++ wds b)))), none, some (false, .lst []), none] := by
    simp [-List.map_map]
  have key : ∀ (xs : List Str) (s : List Pr × List Str), (∀ w ∈ xs, WW w) → s.1.length + xs.length < 1000 → s.2.length + xs.length < 1000 →
      (∃ s', xs.foldlM (stM (wds a) same) s = some s' ∧ forL (some (4, (wds b).map .str)) (.nm 6) [6, 8] w_new_names_2 (xs.map .str) (eNw a b same s) = .nx (eNw a b same s')) ∨
      (xs.foldlM (stM (wds a) same) s = none ∧ ∃ x5 x6 x7 x8, forL (some (4, (wds b).map .str)) (.nm 6) [6, 8] w_new_names_2 (xs.map .str) (eNw a b same s) = .exc 5 [some (false, .val (eBk a)), some (false, .val (eBk b)), some (true, .lst (same.map .str)), some (false, .lst ((wds a).map .str)), some (true, .lst ((wds b).map .str)), x5, x6, x7, x8]) := by
    intro xs
    induction xs with
    | nil => intro s _ _ _; exact .inl ⟨s, rfl, rfl⟩
    | cons w xs ih =>
      intro s hw h1 h2
      rw [List.length_cons] at h1 h2
      rw [List.map_cons, List.foldlM_cons]
      rcases nn_turnM a b same s w (hw w List.mem_cons_self) (by omega) (by omega) with ⟨s', e1, e2⟩ | ⟨e1, e2⟩
      · obtain ⟨l1, l2⟩ := stM_len e1
        rw [forLc_turn e2 (by simp), e1]
        exact ih s' (fun x hx => hw x (List.mem_cons_of_mem _ hx)) (by omega) (by omega)
      · rw [forLc_exc e2, e1]
        exact .inr ⟨rfl, _, _, _, _, rfl⟩
  have ml := metT_len (wds a ++ wds b)
  rw [List.length_append] at ml
  rw [f_new_names, runF_fin, s0, b_new_names, sq_nx a1, sq_nx a2, sq_nx a3, sq_nx a4, sq_nx a5]
  rcases key (wds b) ([], metT (wds a ++ wds b)) (wds_WW hb) (by simp; omega) (by simp only; omega) with ⟨s', e1, e2⟩ | ⟨e1, x5, x6, x7, x8, e2⟩
  · have e1 : nnM (wds a) (wds b) same = some s' := e1
    rw [e1]
    simp only [eNw, List.map_nil] at e2
    simp [-List.map_map, forW_nm, e2]
  · have e1 : nnM (wds a) (wds b) same = none := e1
    rw [e1]
    simp only [eNw, List.map_nil] at e2
    simp [-List.map_map, forW_nm, e2]
theorem laid_of (a b : List Row) (ha : Bo a) (hb : Bo b) (same : List Str) (Q : List Pr) (nq : f_new_names [.val (eBk a), .val (eBk b), .lst (same.map .str)] = .ret (.lst (Q.map eP)) [.val (eBk a), .val (eBk b), .lst (same.map .str)]) (r1 : ∀ w ∈ wds b, w ∈ Q.map (·.1)) (r2 : ∀ w ∈ wds b, WW (rho Q w)) (hn : (Q.map (·.1)).Nodup) (hl2 : a.length + b.length ≤ 300) : f_laid [.val (eBk a), .val (eBk b), .lst (same.map .str)] = if 60 < (lai Q a b).length then .exc 5 [.val (eBk a), .val (eBk b), .lst (same.map .str)] else .ret (.val (eBk (lai Q a b))) [.val (eBk a), .val (eBk b), .lst (same.map .str)] := by
  have dq := dictS_P Q hn
  have s0 : startE 10 [.val (eBk a), .val (eBk b), .lst (same.map .str)] = [some (false, .val (eBk a)), some (false, .val (eBk b)), some (true, .lst (same.map .str)), none, none, none, none, none, none, none] := rfl
  have a1 : (sAsg 3 (o1 dictS (oCall f_new_names (oAs [oNm 0, oNm 1, oNm 2])))) [some (false, .val (eBk a)), some (false, .val (eBk b)), some (true, .lst (same.map .str)), none, none, none, none, none, none, none] =
      .nx [some (false, .val (eBk a)), some (false, .val (eBk b)), some (true, .lst (same.map .str)), some (false, .dic (sd PyData.str Q)), none, none, none, none, none, none] := by
    simp [-List.map_map, nq, dq]
  have lb : listS (.val (eBk a)) = some (.lst (a.map eRow)) := rfl
  have a2 : (sAsg 4 (o1 listS (oNm 0))) [some (false, .val (eBk a)), some (false, .val (eBk b)), some (true, .lst (same.map .str)), some (false, .dic (sd PyData.str Q)), none, none, none, none, none, none] = .nx [some (false, .val (eBk a)), some (false, .val (eBk b)), some (true, .lst (same.map .str)), some (false, .dic (sd PyData.str Q)), some (false, .lst (a.map eRow)), none, none, none, none, none] := by
    simp [-List.map_map, -listS_ap, lb]
  obtain ⟨_, e, rfl⟩ := forL_all (f := eRow) (T := .tup [5, 6]) (fg := [5, 6, 7]) (b := w_laid_1)
    (fun done ρ => ρ = [some (false, .val (eBk a)), some (false, .val (eBk b)), some (true, .lst (same.map .str)), some (false, .dic (sd PyData.str Q)), some (false, .lst (((done.map (ren Q)).foldl stA a).map eRow)), none, none, none, none, none]) b [some (false, .val (eBk a)), some (false, .val (eBk b)), some (true, .lst (same.map .str)), some (false, .dic (sd PyData.str Q)), some (false, .lst (a.map eRow)), none, none, none, none, none] rfl (by
    rintro done r rest ρ hd rfl
    have hrb : r ∈ b := by rw [hd]; simp
    have hlen := foldA_len (done.map (ren Q)) a
    have hdl : done.length ≤ b.length := by rw [hd]; simp
    rw [List.length_map] at hlen
    have hro : ∀ s ∈ (done.map (ren Q)).foldl stA a, RO s := fun s hs => by
      rcases foldA_mem _ _ hs with hs | hs
      · exact ha.row s hs
      · obtain ⟨u, hu, rfl⟩ := List.mem_map.mp hs
        have hub : u ∈ b := by rw [hd]; exact List.mem_append_left _ hu
        refine ⟨r2 _ (wds_mem.mpr ⟨u, hub, .inl rfl⟩), by show (u.2.map (rho Q)).length ≤ 20; rw [List.length_map]; exact (hb.row u hub).2.1, fun w hw => ?_⟩
        obtain ⟨v, hv, rfl⟩ := List.mem_map.mp hw
        exact r2 _ (wds_mem.mpr ⟨u, hub, .inr hv⟩)
    refine ⟨_, laid_turn a b hb _ Q r1 r2 _ hro (by omega) r hrb, ?_⟩
    rw [List.map_append, List.foldl_append]
    rfl)
  have hll := foldA_len (b.map (ren Q)) a
  rw [List.length_map] at hll
  have ef : (b.map (ren Q)).foldl stA a = lai Q a b := rfl
  rw [ef] at hll e
  have tu : tupleS (.lst ((lai Q a b).map eRow)) = some (.val (eBk (lai Q a b))) := rfl
  rw [f_laid, runF_fin, s0, b_laid, sq_nx a1, sq_nx a2]
  generalize lai Q a b = L at *
  by_cases h : 60 < L.length
  · have h' : (60 : Int) < L.length := by omega
    rw [if_pos h]
    simp [-List.map_map, -tupleS_ap, e, h, h']
  · have h' : ¬ (60 : Int) < L.length := by omega
    rw [if_neg h]
    simp [-List.map_map, -tupleS_ap, e, h, h', tu]
theorem laid_no (a b : List Row) (same : List Str) (nq : f_new_names [.val (eBk a), .val (eBk b), .lst (same.map .str)] = .exc 5 [.val (eBk a), .val (eBk b), .lst (same.map .str)]) : f_laid [.val (eBk a), .val (eBk b), .lst (same.map .str)] = .exc 5 [.val (eBk a), .val (eBk b), .lst (same.map .str)] := by
  have s0 : startE 10 [.val (eBk a), .val (eBk b), .lst (same.map .str)] = [some (false, .val (eBk a)), some (false, .val (eBk b)), some (true, .lst (same.map .str)), none, none, none, none, none, none, none] := rfl
  rw [f_laid, runF_fin, s0, b_laid]
  simp [-List.map_map, nq]
/-! ### what the law's try tells -/
def noT : D := .tuple [.none, .list [.bool true, .bool true, .bool false]]
def okT2 (d : D) : D := .tuple [d, .list []]
theorem tried_laid (a b : List Row) (same : List Str) (L : List Row) (m : f_laid [.val (eBk a), .val (eBk b), .lst (same.map .str)] = .ret (.val (eBk L)) [.val (eBk a), .val (eBk b), .lst (same.map .str)]) : f_l_tried_2 [.val (.int 0), .val (eBk a), .val (eBk b), .lst (same.map .str)] = .ret (.val (okT2 (eBk L))) [.val (.int 0), .val (eBk a), .val (eBk b), .lst (same.map .str)] := by
  have s0 : startE 7 [.val (.int 0), .val (eBk a), .val (eBk b), .lst (same.map .str)] = [some (false, .val (.int 0)), some (false, .val (eBk a)), some (false, .val (eBk b)), some (true, .lst (same.map .str)), none, none, none] := rfl
  have e : okT2 (eBk L) = .tuple [eBk L, .list []] := rfl
  rw [f_l_tried_2, runF_fin, s0, b_l_tried_2, e]
  simp [-List.map_map, sTry, m, gone]
theorem tried_new (a b : List Row) (same : List Str) (Q : List Pr) (m : f_new_names [.val (eBk a), .val (eBk b), .lst (same.map .str)] = .ret (.lst (Q.map eP)) [.val (eBk a), .val (eBk b), .lst (same.map .str)]) : f_l_tried_2 [.val (.int 1), .val (eBk a), .val (eBk b), .lst (same.map .str)] = .ret (.val (okT2 (.list (Q.map eP)))) [.val (.int 1), .val (eBk a), .val (eBk b), .lst (same.map .str)] := by
  have s0 : startE 7 [.val (.int 1), .val (eBk a), .val (eBk b), .lst (same.map .str)] = [some (false, .val (.int 1)), some (false, .val (eBk a)), some (false, .val (eBk b)), some (true, .lst (same.map .str)), none, none, none] := rfl
  have e : okT2 (.list (Q.map eP)) = .tuple [.list (Q.map eP), .list []] := rfl
  rw [f_l_tried_2, runF_fin, s0, b_l_tried_2, e]
  simp [-List.map_map, sTry, m, gone]
theorem tried_laid_no (a b : List Row) (same : List Str) (m : f_laid [.val (eBk a), .val (eBk b), .lst (same.map .str)] = .exc 5 [.val (eBk a), .val (eBk b), .lst (same.map .str)]) : f_l_tried_2 [.val (.int 0), .val (eBk a), .val (eBk b), .lst (same.map .str)] = .ret (.val noT) [.val (.int 0), .val (eBk a), .val (eBk b), .lst (same.map .str)] := by
  have s0 : startE 7 [.val (.int 0), .val (eBk a), .val (eBk b), .lst (same.map .str)] = [some (false, .val (.int 0)), some (false, .val (eBk a)), some (false, .val (eBk b)), some (true, .lst (same.map .str)), none, none, none] := rfl
  have e : noT = .tuple [.none, .list [.bool true, .bool true, .bool false]] := rfl
  rw [f_l_tried_2, runF_fin, s0, b_l_tried_2, e]
  simp [-List.map_map, sTry, m, gone, subC, isxS, isvS, isxT]
theorem tried_new_no (a b : List Row) (same : List Str) (m : f_new_names [.val (eBk a), .val (eBk b), .lst (same.map .str)] = .exc 5 [.val (eBk a), .val (eBk b), .lst (same.map .str)]) : f_l_tried_2 [.val (.int 1), .val (eBk a), .val (eBk b), .lst (same.map .str)] = .ret (.val noT) [.val (.int 1), .val (eBk a), .val (eBk b), .lst (same.map .str)] := by
  have s0 : startE 7 [.val (.int 1), .val (eBk a), .val (eBk b), .lst (same.map .str)] = [some (false, .val (.int 1)), some (false, .val (eBk a)), some (false, .val (eBk b)), some (true, .lst (same.map .str)), none, none, none] := rfl
  have e : noT = .tuple [.none, .list [.bool true, .bool true, .bool false]] := rfl
  rw [f_l_tried_2, runF_fin, s0, b_l_tried_2, e]
  simp [-List.map_map, sTry, m, gone, subC, isxS, isvS, isxT]
end Eng
/-! The shelf. -/
namespace Eng
open PySem PySem.Spec L2 SX
open PyProof.Rows hiding St
theorem np1 : ¬ (Str.ofString "now" = Str.ofString "past") := by decide +kernel
theorem nk_turned : ¬ (Str.ofString "now" = Str.ofString "turned") := by decide +kernel
theorem pk_turned : ¬ (Str.ofString "past" = Str.ofString "turned") := by decide +kernel
theorem nk_place_of : ¬ (Str.ofString "now" = Str.ofString "place_of") := by decide +kernel
theorem pk_place_of : ¬ (Str.ofString "past" = Str.ofString "place_of") := by decide +kernel
theorem nk_put : ¬ (Str.ofString "now" = Str.ofString "put") := by decide +kernel
theorem pk_put : ¬ (Str.ofString "past" = Str.ofString "put") := by decide +kernel
theorem nk_take : ¬ (Str.ofString "now" = Str.ofString "take") := by decide +kernel
theorem pk_take : ¬ (Str.ofString "past" = Str.ofString "take") := by decide +kernel
theorem nk_back : ¬ (Str.ofString "now" = Str.ofString "back") := by decide +kernel
theorem pk_back : ¬ (Str.ofString "past" = Str.ofString "back") := by decide +kernel
theorem nk_book : ¬ (Str.ofString "now" = Str.ofString "book") := by decide +kernel
theorem pk_book : ¬ (Str.ofString "past" = Str.ofString "book") := by decide +kernel
theorem nk_learnt_now : ¬ (Str.ofString "now" = Str.ofString "learnt_now") := by decide +kernel
theorem pk_learnt_now : ¬ (Str.ofString "past" = Str.ofString "learnt_now") := by decide +kernel
theorem nk_deeds : ¬ (Str.ofString "now" = Str.ofString "deeds") := by decide +kernel
theorem pk_deeds : ¬ (Str.ofString "past" = Str.ofString "deeds") := by decide +kernel
/-- a shelf: its book, the books ahead -/
def shF (b : List Row) (ps : List (List Row)) : List (Str × O) := [(Str.ofString "now", .val (eBk b)), (Str.ofString "past", .lst (ps.map eBk))]
@[simp] theorem fins_ins (c : Nat) (fs : List (Str × O)) (os : List O) (x : O) (ρ : En) : fins (.ins c fs :: os) (some (true, x) :: ρ) = match fins os ρ with | some r => some (x :: r) | none => none := rfl
@[simp] theorem sh_now (b : List Row) (ps : List (List Row)) : (shF b ps).lookup (Str.ofString "now") = some (.val (eBk b)) := by
  unfold shF
  rw [look_cons, if_pos rfl]
@[simp] theorem sh_past (b : List Row) (ps : List (List Row)) : (shF b ps).lookup (Str.ofString "past") = some (.lst (ps.map eBk)) := by
  unfold shF
  rw [look_cons, if_neg np1, look_cons, if_pos rfl]
@[simp] theorem sh_putN (b c : List Row) (ps : List (List Row)) : fput (Str.ofString "now") (.val (eBk c)) (shF b ps) = shF c ps := by
  unfold shF fput
  rw [if_pos rfl]
@[simp] theorem sh_putP (b : List Row) (ps : List (List Row)) (ds : List D) : fput (Str.ofString "past") (.lst ds) (shF b ps) = [(Str.ofString "now", .val (eBk b)), (Str.ofString "past", .lst ds)] := by
  unfold shF fput
  rw [if_neg np1]
  unfold fput
  rw [if_pos rfl]
@[simp] theorem sh_len (b : List Row) (ps : List (List Row)) : (shF b ps).length = 2 := rfl
@[simp] theorem sh_turned (b : List Row) (ps : List (List Row)) : (shF b ps).lookup (Str.ofString "turned") = none := by
  unfold shF
  rw [look_cons, if_neg nk_turned, look_cons, if_neg pk_turned]
  rfl
@[simp] theorem sh_place_of (b : List Row) (ps : List (List Row)) : (shF b ps).lookup (Str.ofString "place_of") = none := by
  unfold shF
  rw [look_cons, if_neg nk_place_of, look_cons, if_neg pk_place_of]
  rfl
@[simp] theorem sh_put (b : List Row) (ps : List (List Row)) : (shF b ps).lookup (Str.ofString "put") = none := by
  unfold shF
  rw [look_cons, if_neg nk_put, look_cons, if_neg pk_put]
  rfl
@[simp] theorem sh_take (b : List Row) (ps : List (List Row)) : (shF b ps).lookup (Str.ofString "take") = none := by
  unfold shF
  rw [look_cons, if_neg nk_take, look_cons, if_neg pk_take]
  rfl
@[simp] theorem sh_back (b : List Row) (ps : List (List Row)) : (shF b ps).lookup (Str.ofString "back") = none := by
  unfold shF
  rw [look_cons, if_neg nk_back, look_cons, if_neg pk_back]
  rfl
@[simp] theorem sh_book (b : List Row) (ps : List (List Row)) : (shF b ps).lookup (Str.ofString "book") = none := by
  unfold shF
  rw [look_cons, if_neg nk_book, look_cons, if_neg pk_book]
  rfl
@[simp] theorem sh_learnt_now (b : List Row) (ps : List (List Row)) : (shF b ps).lookup (Str.ofString "learnt_now") = none := by
  unfold shF
  rw [look_cons, if_neg nk_learnt_now, look_cons, if_neg pk_learnt_now]
  rfl
@[simp] theorem sh_deeds (b : List Row) (ps : List (List Row)) : (shF b ps).lookup (Str.ofString "deeds") = none := by
  unfold shF
  rw [look_cons, if_neg nk_deeds, look_cons, if_neg pk_deeds]
  rfl
@[simp] theorem oFld_ap (c i : Nat) (m : Str) (ρ : En) : oFld c i m ρ = match ρ[i]? with
  | some (some (_, .ins c' fs)) => if c' = c then match fs.lookup m with
      | some (.val d) => .ok (.tmp (.val d)) ρ
      | _ => .stuck
    else .stuck
  | _ => .stuck := rfl
@[simp] theorem sFld_ap (c i : Nat) (m : Str) (g : ES) (ρ : En) : sFld c i m g ρ = (g ρ).bindS fun p ρ1 => match giveUp ρ1 p with
  | some (o, ρ2) => match ρ2[i]? with
    | some (some (b, .ins c' fs)) => if c' = c ∧ fs.length < 900 then .nx (ρ2.set i (some (b, .ins c' (fput m o fs)))) else .stuck
    | _ => .stuck
  | none => .stuck := rfl
@[simp] theorem oMeth_ap (c i : Nat) (m : Str) (fn : FSem) (gs : List ES) (ρ : En) : oMeth c i m fn gs ρ = match ρ[i]? with
  | some (some (_, .ins c' fs)) => if c' = c ∧ fs.lookup m = none then oCall fn (oAs (oNm i :: gs)) ρ else .stuck
  | _ => .stuck := rfl
@[simp] theorem oFldU_ap (sem : O → Option O) (c i : Nat) (m : Str) (ρ : En) : oFldU sem c i m ρ = match ρ[i]? with
  | some (some (_, .ins c' fs)) => if c' = c then match fs.lookup m with
      | some o => put ρ (sem o)
      | none => .stuck
    else .stuck
  | _ => .stuck := rfl
@[simp] theorem sFldApp_ap (c i : Nat) (m m2 : Str) (ρ : En) : sFldApp c i m m2 ρ = match ρ[i]? with
  | some (some (b, .ins c' fs)) => if c' = c then match fs.lookup m, fs.lookup m2 with
      | some (.lst ds), some (.val d) => if ds.length < sizeLine then .nx (ρ.set i (some (b, .ins c' (fput m (.lst (ds ++ [d])) fs)))) else .stuck
      | _, _ => .stuck
    else .stuck
  | _ => .stuck := rfl
@[simp] theorem oFldPop_ap (c i : Nat) (m : Str) (ρ : En) : oFldPop c i m ρ = match ρ[i]? with
  | some (some (b, .ins c' fs)) => if c' = c then match fs.lookup m with
      | some (.lst ds) => match ds[ds.length - 1]? with
        | some d => .ok (.tmp (.val d)) (ρ.set i (some (b, .ins c' (fput m (.lst ds.dropLast) fs))))
        | none => .stuck
      | _ => .stuck
    else .stuck
  | _ => .stuck := rfl
@[simp] theorem oMake_ap (c : Nat) (fn : FSem) (ρ : En) : oMake c fn ρ = match fn [.ins c []] with
  | .ret (.val .none) [x] => .ok (.tmp x) ρ
  | _ => .stuck := rfl
/-! ### the methods -/
end Eng
/-! The shelf: rows put in, taken out, taken back. -/
namespace Eng
open PySem PySem.Spec L2 SX
open PyProof.Rows hiding St
/-- words told, as a list or a tuple -/
inductive Tl (ts : List Str) : D → Prop
  | lst : Tl ts (eL ts)
  | tup : Tl ts (eW ts)
/-- rows of texts that are in order (no line crossed) -/
structure RT (w : Str) (ts : List Str) : Prop where
  rs : RS (w, ts)
  hd : okT w
  tw : ∀ v ∈ ts, okT v
theorem WW.okT {w : Str} (h : WW w) : okT w := fun c hc => by have := h.signs c hc; omega
@[simp] theorem isnot_int (k : Int) : isnotS (.val (.int k)) (.val .none) = some (.val (.bool true)) := rfl
@[simp] theorem isnot_non : isnotS (.val .none) (.val .none) = some (.val (.bool false)) := rfl
@[simp] theorem is_int (k : Int) : isS (.val (.int k)) (.val .none) = some (.val (.bool false)) := rfl
@[simp] theorem is_non : isS (.val .none) (.val .none) = some (.val (.bool true)) := rfl
/-- the told words as they are handed over -/
inductive Ho (ts : List Str) : O → Prop
  | lst : Ho ts (.lst (ts.map .str))
  | val {d : D} (h : Tl ts d) : Ho ts (.val d)
end Eng
/-! Law k03: books with one thing spoilt. -/
namespace Eng
open PySem PySem.Spec L2 SX
open PyProof.Rows hiding St
structure RQ (r : Row) : Prop where
  oh : okT r.1 ∧ r.1.length ≤ 40
  ln : r.2.length ≤ 40
  ot : ∀ w ∈ r.2, okT w ∧ w.length ≤ 40
theorem RQ.rg {r : Row} (h : RQ r) : RG r := ⟨⟨Nat.le_trans (show _ ≤ 42 by have := h.oh.2; omega) (by decide), by have := h.ln; omega, fun w hw => Nat.le_trans (show _ ≤ 42 by have := (h.ot w hw).2; omega) (by decide)⟩, h.oh.1, fun w hw => (h.ot w hw).1⟩
theorem WW.q {w : Str} (h : WW w) : Eng.okT w ∧ w.length ≤ 40 := ⟨h.okT, by have := h.len; omega⟩
theorem R8.rq {r : Row} (h : R8 r) : RQ r := ⟨h.1.q, by have := h.2.1; omega, fun w hw => (h.2.2.2 w hw).q⟩
theorem Gd.rq {r : Row} (h : RQ r) : Gd (eRow r) 2 4000 := by
  have h1 : Gd (Eng.eW r.2) 1 (r.2.length * 41) := by
    have := Gd.tup (xs := r.2.map PyData.str) (k := 0) (W := 40) (Gd.map fun w hw => Gd.str (h.ot w hw).1.ok (h.ot w hw).2)
    rw [List.length_map] at this
    exact this
  have hl := h.ln
  have := Gd.tup (xs := [.str r.1, Eng.eW r.2]) (k := 1) (W := 1700) (by
    intro x hx
    simp only [List.mem_cons, List.not_mem_nil, or_false] at hx
    rcases hx with rfl | rfl
    · exact (Gd.str h.oh.1.ok h.oh.2).mono (by omega) (by omega)
    · exact h1.mono (by omega) (by omega))
  exact this.mono (by omega) (by simp)
theorem Gd.bq {b : List Row} (h : ∀ r ∈ b, RQ r) (hl : b.length ≤ 150) : ∃ W, W ≤ 1048576 ∧ Gd (eBk b) 3 W := by
  have := Gd.tup (xs := b.map eRow) (k := 2) (W := 4000) (Gd.map fun r hr => Gd.rq (h r hr))
  rw [List.length_map] at this
  exact ⟨b.length * 4001, by omega, this⟩
end Eng
/-! Law k65: a stem and its senses. -/
namespace Eng
open PySem PySem.Spec L2 SX
open PyProof.Rows hiding St
def nw (st : List Nat) (n : Nat) : Str := S (st ++ 47 :: TL.numL n)
theorem nw_inj {st : List Nat} {m n : Nat} (e : nw st m = nw st n) : m = n := by
  have := S_inj' e
  have := List.append_cancel_left this
  exact TL.numL_inj (by simpa using this)
theorem nw_ne {st l : List Nat} {n : Nat} (h : 47 ∉ l) : nw st n ≠ S l := fun e => by
  have := S_inj' e
  exact h (by rw [← this]; simp)
theorem nw_WW {st : List Nat} (h : Stem st) {n : Nat} (h2 : 2 ≤ n) (h9 : n ≤ 99) : WW (nw st n) := ⟨st, h, .inr ⟨n, h2, h9, rfl⟩⟩
def r98 : List Nat := (List.range 98).map (2 + ·)
theorem r98_mem {n : Nat} : n ∈ r98 ↔ 2 ≤ n ∧ n ≤ 99 := by
  unfold r98
  rw [List.mem_map]
  constructor
  · rintro ⟨k, hk, rfl⟩
    have := List.mem_range.mp hk
    omega
  · rintro ⟨h2, h9⟩
    exact ⟨n - 2, List.mem_range.mpr (by omega), by omega⟩
def free (L : List Nat) : List Nat := r98.filter fun n => !decide (n ∈ L)
theorem free_mem {L : List Nat} {n : Nat} : n ∈ free L ↔ (2 ≤ n ∧ n ≤ 99) ∧ n ∉ L := by
  unfold free
  rw [List.mem_filter, r98_mem]
  simp
def wsS (st : List Nat) (L : List Nat) : List Str := S st :: (free L).map (nw st)
/-- the numbers left: rising, from 2 to 99 -/
structure Lf (L : List Nat) : Prop where
  up : L.Pairwise (· < ·)
  rg : ∀ n ∈ L, 2 ≤ n ∧ n ≤ 99
theorem stm_of {st : List Nat} (hst : Stem st) {L : List Nat} {w : Str} (h : w ∈ wsS st L) : stm w = S st ∧ WW w := by
  rcases List.mem_cons.mp h with rfl | h
  · exact ⟨by unfold stm; rw [split_stem hst]; rfl, ⟨st, hst, .inl rfl⟩⟩
  · obtain ⟨n, hn, rfl⟩ := List.mem_map.mp h
    have := (free_mem.mp hn).1
    exact ⟨by unfold stm nw; rw [split_sense hst]; rfl, nw_WW hst this.1 this.2⟩
theorem nmF_of {st : List Nat} (hst : Stem st) {L : List Nat} {w : Str} (h : w ∈ wsS st L) (n : Nat) : nmF w n = nw st n := by
  unfold nmF
  rw [(stm_of hst h).1, cat_slash]
  rfl
theorem frq_at {w : Str} {met : List Str} {n : Nat} (h2 : 2 ≤ n) (h9 : n ≤ 99) (hn : nmF w n ∉ met) (hs : ∀ m, 2 ≤ m → m < n → nmF w m ∈ met) : frq w met = some n := by
  unfold frq
  rw [List.find?_map]
  have : (List.range 98).find? ((fun n => !decide (nmF w n ∈ met)) ∘ (2 + ·)) = some (n - 2) := by
    rw [List.find?_range_eq_some]
    have e : 2 + (n - 2) = n := by omega
    refine ⟨?_, List.mem_range.mpr (by omega), fun j hj => ?_⟩
    · simp only [Function.comp, e]
      simpa using hn
    · have := hs (2 + j) (by omega) (by omega)
      simpa [Function.comp] using this
  rw [this]
  simp
  omega
theorem frq_no {w : Str} {met : List Str} (hs : ∀ m, 2 ≤ m → m ≤ 99 → nmF w m ∈ met) : frq w met = none := by
  unfold frq
  rw [List.find?_eq_none]
  intro n hn
  have := r98_mem.mp hn
  simpa using hs n this.1 this.2
/-- what the words met are behind k names -/
structure MtL (st : List Nat) (L : List Nat) (mine : List Str) (met : List Str) (k : Nat) : Prop where
  mem : ∀ n, 2 ≤ n → n ≤ 99 → (nw st n ∈ met ↔ n ∉ L ∨ n ∈ L.take k)
theorem frq_L {st L : List Nat} {w : Str} {mine met : List Str} {k : Nat} (hst : Stem st) (hL : Lf L) (hw : w ∈ wsS st L) (h : MtL st L mine met k) : frq w met = L[k]? := by
  by_cases hk : k < L.length
  · rw [List.getElem?_eq_getElem hk]
    have rg := hL.rg L[k] (List.getElem_mem hk)
    refine frq_at rg.1 rg.2 ?_ fun m h2 hm => ?_
    · rw [nmF_of hst hw, h.mem _ rg.1 rg.2]
      rintro (q | q)
      · exact q (List.getElem_mem hk)
      · obtain ⟨j, hj, e⟩ := List.getElem_of_mem q
        rw [List.length_take] at hj
        rw [List.getElem_take] at e
        have := List.pairwise_iff_getElem.mp hL.up j k (by omega) hk (by omega)
        omega
    · rw [nmF_of hst hw, h.mem m h2 (by omega)]
      by_cases q : m ∈ L
      · right
        obtain ⟨j, hj, e⟩ := List.getElem_of_mem q
        have hjk : j < k := by
          rcases Nat.lt_trichotomy j k with z | z | z
          · exact z
          · subst z; omega
          · have := List.pairwise_iff_getElem.mp hL.up k j hk hj z
            omega
        rw [List.mem_take_iff_getElem]
        exact ⟨j, by omega, e⟩
      · exact .inl q
  · rw [List.getElem?_eq_none (by omega)]
    refine frq_no fun m h2 h9 => ?_
    rw [nmF_of hst hw, h.mem m h2 h9, List.take_of_length_le (by omega)]
    by_cases q : m ∈ L
    · exact .inr q
    · exact .inl q
theorem nnM_L {st L : List Nat} (hst : Stem st) (hL : Lf L) (mine sm : List Str) (hm : ∀ w ∈ sm, w ∈ wsS st L ∧ w ∈ mine) (m0 : MtL st L mine (metT (mine ++ sm)) 0) :
    (L.length < sm.length → nnM mine sm [] = none) ∧ (sm.length ≤ L.length → ∃ met, nnM mine sm [] = some (sm.zip ((L.take sm.length).map (nw st)), met)) := by
  have key : ∀ (rest done : List Str) (s : List Pr × List Str), sm = done ++ rest → done.length ≤ L.length → s.1 = done.zip ((L.take done.length).map (nw st)) → MtL st L mine s.2 done.length →
      (L.length < sm.length → rest.foldlM (stM mine []) s = none) ∧ (sm.length ≤ L.length → ∃ met, rest.foldlM (stM mine []) s = some (sm.zip ((L.take sm.length).map (nw st)), met)) := by
    intro rest
    induction rest with
    | nil =>
      intro done s hd hl hs _
      rw [List.append_nil] at hd
      subst hd
      exact ⟨fun q => by omega, fun _ => ⟨s.2, by rw [← hs]; rfl⟩⟩
    | cons w rest ih =>
      intro done s hd hl hs hM
      have hw := hm w (by rw [hd]; simp)
      have fq := frq_L hst hL hw.1 hM
      have len : sm.length = done.length + (rest.length + 1) := by rw [hd]; simp
      rw [List.foldlM_cons]
      have es : stM mine [] s w = (match frq w s.2 with
        | some n => some (s.1 ++ [(w, nmF w n)], addT s.2 (nmF w n))
        | none => none) := if_pos ⟨hw.2, by simp⟩
      by_cases hk : done.length < L.length
      · rw [List.getElem?_eq_getElem hk] at fq
        rw [fq] at es
        simp only [nmF_of hst hw.1] at es
        rw [es]
        have tk : L.take (done.length + 1) = L.take done.length ++ [L[done.length]] := by rw [List.take_succ, List.getElem?_eq_getElem hk]; rfl
        have rg := hL.rg _ (List.getElem_mem hk)
        refine ih (done ++ [w]) (s.1 ++ [(w, nw st L[done.length])], addT s.2 (nw st L[done.length])) (by rw [hd]; simp) (by simp; omega) ?_ ⟨fun n h2 h9 => ?_⟩
        · show s.1 ++ [(w, nw st L[done.length])] = _
          rw [List.length_append, List.length_cons, List.length_nil, tk, List.map_append, List.zip_append (by rw [List.length_map, List.length_take]; omega), ← hs]
          rfl
        · show nw st n ∈ addT s.2 (nw st L[done.length]) ↔ _
          have ad : nw st n ∈ addT s.2 (nw st L[done.length]) ↔ nw st n ∈ s.2 ∨ n = L[done.length] := by
            unfold addT
            split
            · rename_i q
              constructor
              · exact .inl
              · rintro (q2 | rfl)
                · exact q2
                · exact q
            · rw [List.mem_append, List.mem_singleton]
              constructor
              · rintro (q | q)
                · exact .inl q
                · exact .inr (nw_inj q)
              · rintro (q | rfl)
                · exact .inl q
                · exact .inr rfl
          rw [ad, hM.mem n h2 h9, List.length_append, List.length_cons, List.length_nil, tk, List.mem_append, List.mem_singleton, or_assoc]
      · rw [List.getElem?_eq_none (by omega)] at fq
        rw [fq] at es
        simp only at es
        rw [es]
        exact ⟨fun _ => rfl, fun q => by omega⟩
  exact key sm [] ([], metT (mine ++ sm)) rfl (Nat.zero_le _) (by simp) (by simpa using m0)
/-! ### the book of the stem -/
def chk (hd : Str) (W : List Str) : List Row := (List.range ((W.length + 7) / 8)).map fun k => (hd, (W.drop (8 * k)).take 8)
theorem chk_mem {hd : Str} {W : List Str} (hne : W ≠ []) {w : Str} : w ∈ wds (chk hd W) ↔ w = hd ∨ w ∈ W := by
  have hp : 0 < W.length := List.length_pos_iff.mpr hne
  rw [wds_mem]
  constructor
  · rintro ⟨r, hr, h⟩
    obtain ⟨k, hk, rfl⟩ := List.mem_map.mp hr
    rcases h with h | h
    · exact .inl h
    · exact .inr (List.mem_of_mem_drop (List.mem_of_mem_take h))
  · rintro (rfl | h)
    · exact ⟨_, List.mem_map.mpr ⟨0, List.mem_range.mpr (by omega), rfl⟩, .inl rfl⟩
    · obtain ⟨i, hi, rfl⟩ := List.getElem_of_mem h
      refine ⟨_, List.mem_map.mpr ⟨i / 8, List.mem_range.mpr (by omega), rfl⟩, .inr ?_⟩
      show W[i] ∈ (W.drop (8 * (i / 8))).take 8
      rw [List.mem_take_iff_getElem]
      refine ⟨i % 8, by rw [List.length_drop]; omega, ?_⟩
      rw [List.getElem_drop]
      congr 1
      omega
theorem mt0 {st L : List Nat} (hst : Stem st) {hd : Str} (hh : ∃ c, hd = S [c] ∧ c ≠ 47) {sm : List Str} (hs : ∀ w ∈ sm, w ∈ wsS st L) : MtL st L (wds (chk hd (wsS st L))) (metT (wds (chk hd (wsS st L)) ++ sm)) 0 := ⟨fun n h2 h9 => by
  obtain ⟨c, rfl, hc⟩ := hh
  have n47 : 47 ∉ [c] := by simpa using fun q => hc q.symm
  have iW : nw st n ∈ wsS st L ↔ n ∉ L := by
    unfold wsS
    rw [List.mem_cons]
    constructor
    · rintro (q | q)
      · exact (nw_ne hst.no47 q).elim
      · obtain ⟨m, hm, e⟩ := List.mem_map.mp q
        rw [← nw_inj e]
        exact (free_mem.mp hm).2
    · exact fun q => .inr (List.mem_map.mpr ⟨n, free_mem.mpr ⟨⟨h2, h9⟩, q⟩, rfl⟩)
  rw [mem_metT, List.mem_append, chk_mem (by unfold wsS; simp), List.take_zero]
  constructor
  · rintro ((q | q) | q)
    · exact (nw_ne n47 q).elim
    · exact .inl (iW.mp q)
    · exact .inl (iW.mp (hs _ q))
  · rintro (q | q)
    · exact .inl (.inr (iW.mpr q))
    · cases q⟩
/-! ### the laid book -/
theorem foldA_far : ∀ (rs rows : List Row), (∀ r ∈ rs, ∀ s ∈ rows, alkB r s = false) → rs.Pairwise (fun r s => alkB s r = false) → rs.foldl stA rows = rows ++ rs
  | [], rows, _, _ => by simp
  | r :: rs, rows, h, p => by
    rw [List.pairwise_cons] at p
    have e : stA rows r = rows ++ [r] := by
      unfold stA
      have : (rows.any fun s => alkB r s) = false := List.any_eq_false.mpr fun s hs => by rw [h r List.mem_cons_self s hs]; decide
      rw [this]; rfl
    rw [List.foldl_cons, e, foldA_far rs (rows ++ [r]) (fun q hq s hs => by
      rcases List.mem_append.mp hs with hs | hs
      · exact h q (List.mem_cons_of_mem _ hq) s hs
      · rw [List.mem_singleton.mp hs]
        exact p.1 q hq) p.2]
    simp
theorem zipL_fst {α β : Type} : ∀ {xs : List α} {ys : List β}, xs.length = ys.length → (xs.zip ys).map (·.1) = xs
  | [], [], _ => rfl
  | x :: xs, y :: ys, h => by
    simp only [List.zip_cons_cons, List.map_cons]
    rw [zipL_fst (by simpa using h)]
theorem rho_zip {sm nms : List Str} (hn : sm.Nodup) (hl : sm.length = nms.length) : sm.map (rho (sm.zip nms)) = nms := by
  refine List.ext_getElem (by simpa using hl) fun k h1 h2 => ?_
  rw [List.length_map] at h1
  rw [List.getElem_map]
  have g := (rho_get (Q := sm.zip nms) (w := sm[k]) (by rw [zipL_fst hl]; exact List.getElem_mem h1)).2
  obtain ⟨j, hj, e⟩ := List.getElem_of_mem g
  rw [List.getElem_zip] at e
  injection e with e1 e2
  have hj1 : j < sm.length := by rw [List.length_zip] at hj; omega
  have : j = k := by
    rcases Nat.lt_trichotomy j k with z | z | z
    · exact absurd e1 (List.pairwise_iff_getElem.mp hn j k hj1 h1 z)
    · exact z
    · exact absurd e1.symm (List.pairwise_iff_getElem.mp hn k j h1 hj1 z)
  subst this
  exact e2.symm
end Eng
/-! Law k65: the walk of the stem's law. -/
namespace Eng
open PySem PySem.Spec L2 SX
open PyProof.Rows hiding St
def eI (L : List Nat) : List D := L.map fun n : Nat => PyData.int (n : Int)
theorem eI_ints (L : List Nat) : eI L = (L.map fun n : Nat => (n : Int)).map PyData.int := by unfold eI; rw [List.map_map]; rfl
theorem eqv_int (i j : Int) : PyData.eqv (.int i) (.int j) = (i == j) := by simp [PyData.eqv]
theorem notin_eI (n : Nat) (hn : n ≤ 100) (L : List Nat) (hL : ∀ m ∈ L, m ≤ 100) : notinS (.val (.int (n : Int))) (.lst (eI L)) = some (.val (.bool (!decide (n ∈ L)))) := by
  have s1 : SeqAt.shaped (.int (n : Int)) = true := (Gd.int (i := (n : Int)) (by omega) (by omega)).shaped (by omega)
  have s2 : SeqAt.shaped (.list (eI L)) = true := (Gd.list (Gd.map (f := fun n : Nat => PyData.int (n : Int)) (xs := L) fun m hm => Gd.int (i := (m : Int)) (by omega) (by have := hL m hm; omega))).shaped (by omega)
  have ev : (eI L).any (fun y => PyData.eqv y (.int (n : Int))) = decide (n ∈ L) := by
    unfold eI
    rw [List.any_map]
    clear s2 hL
    induction L with
    | nil => rfl
    | cons m L ih =>
      rw [List.any_cons, ih]
      simp only [Function.comp, eqv_int]
      by_cases h : m = n
      · subst h; simp
      · have h1 : ¬ (m : Int) = n := by omega
        have h2 : ¬ n = m := fun e => h e.symm
        simp [h1, h2]
  show (hasS (.val (.int (n : Int))) (.lst (eI L))).map (fun k => O.val (.bool (!k))) = _
  unfold hasS
  simp only [view_val, seq_lst, s1, s2, Bool.and_self, Bool.or_true, if_true, ev, Option.map_some]
theorem cut8 (W : List Str) (k : Nat) : slS (some (8 * (k : Int))) (some (8 * (k : Int) + 8)) (.lst (W.map .str)) = some (.lst (((W.drop (8 * k)).take 8).map .str)) := by
  rw [slS_lst, cutA_map]
  have e1 : (8 * (k : Int)) = ((8 * k : Nat) : Int) := by omega
  have e2 : (8 * (k : Int) + 8) = ((8 * k + 8 : Nat) : Int) := by omega
  have e : cutA W (some (8 * (k : Int))) (some (8 * (k : Int) + 8)) = (W.drop (8 * k)).take 8 := by
    rw [e2, e1]
    unfold cutA
    rw [HT.sIx_nat, HT.sIx_nat]
    by_cases h : 8 * k ≤ W.length
    · rw [Nat.min_eq_left h, List.take_eq_take_iff, List.length_drop]
      omega
    · rw [Nat.min_eq_right (by omega), Nat.min_eq_right (by omega), List.drop_of_length_le (by omega), List.drop_of_length_le (by omega), List.take_nil, List.take_nil]
  rw [e]
theorem nw_adds {st : List Nat} (h : Stem st) {n : Nat} (h2 : 2 ≤ n) (h9 : n ≤ 99) : addS (.val (.str (S st))) (.val (.str (Str.ofString "/"))) = some (.val (.str (S st ++ Str.ofString "/"))) ∧ strS (.val (.int (n : Int))) = some (.val (.str (S (TL.numL n)))) ∧ addS (.val (.str (S st ++ Str.ofString "/"))) (.val (.str (S (TL.numL n)))) = some (.val (.str (nw st n))) := by
  have e : stm (S st) = S st := by unfold stm; rw [split_stem h]; rfl
  have q := nm_adds (w := S st) ⟨st, h, .inl rfl⟩ h2 h9
  have e2 : nmF (S st) n = nw st n := by unfold nmF; rw [e, cat_slash]; rfl
  rw [e2, e] at q
  exact q
/-- the left numbers, as the law draws them -/
theorem left_ex (xs : List Int) (hx : ∀ x ∈ xs, 2 ≤ x ∧ x ≤ 99) : ∃ L : List Nat, (sI xs).map PyData.int = eI L ∧ Lf L ∧ L.length ≤ xs.length := by
  have mem := sI_mem xs
  have pw := leI_pw (ddI xs)
  have nd : (sI xs).Nodup := (List.mergeSort_perm _ _).nodup_iff.mpr (ddI_nodup xs)
  have rg : ∀ x ∈ sI xs, 2 ≤ x ∧ x ≤ 99 := fun x h => hx x ((mem x).mp h)
  have up : (sI xs).Pairwise (· < ·) := by
    have p2 : (sI xs).Pairwise (fun a b => a ≤ b) := pw
    refine (p2.and nd).imp fun h => ?_
    have := h.1
    have := h.2
    omega
  have hl : (sI xs).length ≤ xs.length := by
    have := sub_len nd fun x h => (mem x).mp h
    exact this
  refine ⟨(sI xs).map Int.toNat, ?_, ⟨?_, ?_⟩, by rw [List.length_map]; exact hl⟩
  · have e9 : ((sI xs).map Int.toNat).map (fun n : Nat => (n : Int)) = sI xs := by
      rw [List.map_map]
      refine (List.map_congr_left (g := id) fun x h => ?_).trans (List.map_id _)
      have := rg x h
      show ((x.toNat : Nat) : Int) = x
      omega
    rw [eI_ints, e9]
  · rw [List.pairwise_map]
    refine (List.pairwise_iff_getElem.mpr fun i j hi hj hij => ?_)
    have h1 := rg _ (List.getElem_mem hi)
    have := List.pairwise_iff_getElem.mp up i j hi hj hij
    omega
  · intro n hn
    obtain ⟨x, h, rfl⟩ := List.mem_map.mp hn
    have := rg x h
    omega
theorem l_senses_eq (ns : List Int) : f_l_senses_3 [.scr ns] = .ret (.val (.bool true)) [.scr ns] := by
  obtain ⟨c, ec⟩ := l_cell_ex ns 1 (by omega)
  obtain ⟨ds, ed, hds⟩ := l_drawn_ex c 20 (by omega)
  simp at ed
  have s0 : startE 17 [.scr ns] = [some (false, .scr ns), none, none, none, none, none, none, none, none, none, none, none, none, none, none, none, none] := rfl
  have p0 : (sAsg 1 (oCall f_l_drawn (oAs [oCall f_l_cell (oAs [oNm 0, oC (.int 1)]), oC (.int 20)]))) [some (false, .scr ns), none, none, none, none, none, none, none, none, none, none, none, none, none, none, none, none] =
      .nx [some (false, .scr ns), some (false, .lst (ds.map .int)), none, none, none, none, none, none, none, none, none, none, none, none, none, none, none] := by
    simp [-List.map_map, ec, ed]
  have p1 : (sAsg 2 (oC (.str "abcdefghijklmnopqrstuvwxyz"))) [some (false, .scr ns), some (false, .lst (ds.map .int)), none, none, none, none, none, none, none, none, none, none, none, none, none, none, none] =
      .nx [some (false, .scr ns), some (false, .lst (ds.map .int)), some (false, .val (.str (Str.ofString "abcdefghijklmnopqrstuvwxyz"))), none, none, none, none, none, none, none, none, none, none, none, none, none, none] := by
    simp [-List.map_map]
  obtain ⟨a0, b0, d0⟩ := hds.at 0 (by omega) (by omega)
  obtain ⟨m, em⟩ : ∃ m : Nat, (m : Int) = 1 + dat ds 0 % 8 := ⟨(1 + dat ds 0 % 8).toNat, by omega⟩
  have hm : 1 ≤ m ∧ m ≤ 8 := by omega
  have c1 : lcW none (.nm 14) tTrue (o2 ixS (oNm 2) (o2 modS (o2 ixS (oNm 1) (o2 addS (oC (.int 10)) (oNm 14))) (oC (.int 26)))) [14] (rng 0 m) [some (false, .scr ns), some (false, .lst (ds.map .int)), some (false, .val (.str (Str.ofString "abcdefghijklmnopqrstuvwxyz"))), none, none, none, none, none, none, none, none, none, none, none, none, none, none] = .ok (((List.range m).map fun k => S [ltr (dat ds (10 + (k : Nat)))]).map .str) [some (false, .scr ns), some (false, .lst (ds.map .int)), some (false, .val (.str (Str.ofString "abcdefghijklmnopqrstuvwxyz"))), none, none, none, none, none, none, none, none, none, none, none, none, none, none] := by
    rw [lc_rng (fun k => .str (S [ltr (dat ds (10 + (k : Nat)))])) m (by simp) (fun k hk => by
      obtain ⟨a1, a2, a3⟩ := hds.at (10 + (k : Nat)) (by omega) (by omega)
      have b := abc_at (i := dat ds (10 + (k : Nat)) % 26) (by omega) (by omega)
      have l : (Str.ofString "abcdefghijklmnopqrstuvwxyz").length ≤ sizeLine := by rw [abc_len]; decide
      simp [lturn_ap, a1, b, l, ltr, S])]
    simp
  obtain ⟨st, hst, jj⟩ : ∃ st, Stem st ∧ joinS (Str.ofString "") (.lst (((List.range m).map fun k => S [ltr (dat ds (10 + (k : Nat)))]).map .str)) = some (.val (.str (S st))) := by
    refine ⟨(List.range m).map fun k => ltr (dat ds (10 + (k : Nat))), stem_of (by simp; omega) (by simp; omega) (fun c hc => by
      obtain ⟨k, _, rfl⟩ := List.mem_map.mp hc
      exact ltr_low _), ?_⟩
    have js : (((List.range m).map fun k => S [ltr (dat ds (10 + (k : Nat)))]).map (·.length)).sum + ((List.range m).map fun k => S [ltr (dat ds (10 + (k : Nat)))]).length * (Str.ofString "").length ≤ 16777216 := by
      rw [nostr, S_len, List.map_map]
      have : (List.map ((fun x => x.length) ∘ fun k : Nat => S [ltr (dat ds (10 + (k : Nat)))]) (List.range m)) = (List.range m).map fun _ => 1 := List.map_congr_left fun k _ => by simp [S_len]
      rw [this, sum_ones]
      simp
      omega
    have j1 := join_ones ((List.range m).map fun k => ltr (dat ds (10 + (k : Nat))))
    rw [List.map_map] at j1
    unfold joinS
    simp only [seq_lst, Option.bind_some, asStrs_map]
    rw [if_pos js]
    exact congrArg (fun x => some (O.val (PyData.str x))) j1
  have hm1 : (m : Int) ≤ 1000000 := by omega
  have hm2 : (-4611686018427387904 : Int) ≤ (m : Int) := by omega
  have p2 : (sAsg 3 (oM1 joinS (oC (.str "")) (c_l_senses_3_1))) [some (false, .scr ns), some (false, .lst (ds.map .int)), some (false, .val (.str (Str.ofString "abcdefghijklmnopqrstuvwxyz"))), none, none, none, none, none, none, none, none, none, none, none, none, none, none] =
      .nx [some (false, .scr ns), some (false, .lst (ds.map .int)), some (false, .val (.str (Str.ofString "abcdefghijklmnopqrstuvwxyz"))), some (false, .val (.str (S st))), none, none, none, none, none, none, none, none, none, none, none, none, none] := by
    simp [-List.map_map, c_l_senses_3_1, a0, hm1, hm2, ← em, c1, jj]
  clear c1 jj
  obtain ⟨a5, b5, d5⟩ := hds.at 5 (by omega) (by omega)
  obtain ⟨a19, b19, d19⟩ := hds.at 19 (by omega) (by omega)
  obtain ⟨q, eq⟩ : ∃ q : Nat, (q : Int) = dat ds 5 % 5 := ⟨(dat ds 5 % 5).toNat, by omega⟩
  have hq : q ≤ 4 := by omega
  have c2 : lcW none (.nm 14) tTrue (o2 addS (oC (.int 2)) (o2 modS (o2 ixS (oNm 1) (o2 addS (oC (.int 1)) (oNm 14))) (oC (.int 98)))) [14] (rng 0 q) [some (false, .scr ns), some (false, .lst (ds.map .int)), some (false, .val (.str (Str.ofString "abcdefghijklmnopqrstuvwxyz"))), some (false, .val (.str (S st))), none, none, none, none, none, none, none, none, none, none, none, none, none] = .ok (((List.range q).map fun k => 2 + dat ds (1 + (k : Nat)) % 98).map .int) [some (false, .scr ns), some (false, .lst (ds.map .int)), some (false, .val (.str (Str.ofString "abcdefghijklmnopqrstuvwxyz"))), some (false, .val (.str (S st))), none, none, none, none, none, none, none, none, none, none, none, none, none] := by
    rw [lc_rng (fun k => .int (2 + dat ds (1 + (k : Nat)) % 98)) q (by simp) (fun k hk => by
      obtain ⟨a1, a2, a3⟩ := hds.at (1 + (k : Nat)) (by omega) (by omega)
      simp [lturn_ap, a1])]
    simp
  obtain ⟨t, et⟩ : ∃ t : Nat, (t : Int) = dat ds 19 % 3 := ⟨(dat ds 19 % 3).toNat, by omega⟩
  obtain ⟨xs, exs, hxs, hxl⟩ : ∃ xs : List Int, addS (.lst (((List.range q).map fun k => 2 + dat ds (1 + (k : Nat)) % 98).map .int)) (.lst (cutA [PyData.int 99, PyData.int 2] none (some (t : Int)))) = some (.lst (xs.map .int)) ∧ (∀ x ∈ xs, 2 ≤ x ∧ x ≤ 99) ∧ xs.length ≤ 6 := by
    have e2 : cutA [PyData.int 99, PyData.int 2] none (some (t : Int)) = (([99, 2] : List Int).take t).map .int := by
      rw [cutA_pre]
      have ht : t = 0 ∨ t = 1 ∨ t = 2 := by omega
      rcases ht with rfl | rfl | rfl <;> rfl
    have lt := List.length_take_le t ([99, 2] : List Int)
    have l2 : (([99, 2] : List Int).take t).length ≤ 2 := by rw [List.length_take]; simp; omega
    refine ⟨((List.range q).map fun k => 2 + dat ds (1 + (k : Nat)) % 98) ++ ([99, 2] : List Int).take t, ?_, ?_, ?_⟩
    · rw [e2, addS_ll, if_pos (small3 (by simp only [List.length_map, List.length_range]; omega)), List.map_append]
    · intro x hx
      rcases List.mem_append.mp hx with h | h
      · obtain ⟨k, _, rfl⟩ := List.mem_map.mp h
        omega
      · have := List.mem_of_mem_take h
        simp only [List.mem_cons, List.not_mem_nil, or_false] at this
        omega
    · rw [List.length_append, List.length_map, List.length_range]
      omega
  obtain ⟨L, eL, hL, hLl⟩ := left_ex xs hxs
  have so : sortSetI (.lst (xs.map .int)) = some (.lst (eI L)) := by
    have i1 : asInts50 (xs.map PyData.int) = some xs := by
      clear exs hxs hxl eL hLl
      induction xs with
      | nil => rfl
      | cons x xs ih => simp [asInts50, ih]
    simp only [sortSetI, i1, Option.bind_some, if_pos (show xs.length < 63 by omega), eL]
  have hq1 : (q : Int) ≤ 1000000 := by omega
  have hq2 : (-4611686018427387904 : Int) ≤ (q : Int) := by omega
  have p3 : (sAsg 4 (o1 sortSetI (o2 addS (c_l_senses_3_2) (oSl (oLst (oAs [oC (.int 99), oC (.int 2)])) oNoPart (oPart (o2 modS (o2 ixS (oNm 1) (oC (.int 19))) (oC (.int 3)))))))) [some (false, .scr ns), some (false, .lst (ds.map .int)), some (false, .val (.str (Str.ofString "abcdefghijklmnopqrstuvwxyz"))), some (false, .val (.str (S st))), none, none, none, none, none, none, none, none, none, none, none, none, none] =
      .nx [some (false, .scr ns), some (false, .lst (ds.map .int)), some (false, .val (.str (Str.ofString "abcdefghijklmnopqrstuvwxyz"))), some (false, .val (.str (S st))), some (false, .lst (eI L)), none, none, none, none, none, none, none, none, none, none, none, none] := by
    simp [-List.map_map, -addS_ll, -sortSetI, c_l_senses_3_2, a5, a19, hq1, hq2, ← eq, ← et, c2, exs, so]
  clear c2 exs so
  have hL100 : ∀ n ∈ L, n ≤ 100 := fun n h => by have := hL.rg n h; omega
  have c3 := lc_if (f := fun n : Nat => PyData.int (n : Int)) (c := none) (T := .nm 13) (t := tV (o2 notinS (oNm 13) (oNm 4))) (g := o2 addS (o2 addS (oNm 3) (oC (.str "/"))) (o1 strS (oNm 13))) (own := [13]) (ρ := [some (false, .scr ns), some (false, .lst (ds.map .int)), some (false, .val (.str (Str.ofString "abcdefghijklmnopqrstuvwxyz"))), some (false, .val (.str (S st))), some (false, .lst (eI L)), none, none, none, none, none, none, none, none, none, none, none, none]) (fun n => !decide (n ∈ L)) (fun n => .str (nw st n)) r98 (by simp) (by
    intro n hn
    have rg := r98_mem.mp hn
    have ni := notin_eI n (by omega) L hL100
    obtain ⟨q1, q2, q3⟩ := nw_adds hst rg.1 rg.2
    by_cases h : n ∈ L
    · simp [-addS_str, -strS_int, lturn_ap, ni, h]
    · simp [-addS_str, -strS_int, lturn_ap, ni, h, q1, q2, q3])
  have er : r98.map (fun n : Nat => PyData.int (n : Int)) = rng 2 98 := by
    unfold rng r98
    rw [List.map_map]
    exact List.map_congr_left fun k _ => by simp
  have ew : ((free L).map fun n => PyData.str (nw st n)) = ((free L).map (nw st)).map .str := by rw [List.map_map]; rfl
  have ef : r98.filter (fun n => !decide (n ∈ L)) = free L := rfl
  rw [er, ef, ew] at c3
  have fl : (free L).length ≤ 98 := Nat.le_trans (List.length_filter_le _ _) (by unfold r98; simp)
  have ad : addS (.lst [PyData.str (S st)]) (.lst (((free L).map (nw st)).map .str)) = some (.lst ((wsS st L).map .str)) := by
    rw [addS_ll, if_pos (small3 (by simp; omega))]
    rfl
  simp [-List.map_map] at c3
  have p4 : (sAsg 5 (o2 addS (oLst (oAs [oNm 3])) (c_l_senses_3_3))) [some (false, .scr ns), some (false, .lst (ds.map .int)), some (false, .val (.str (Str.ofString "abcdefghijklmnopqrstuvwxyz"))), some (false, .val (.str (S st))), some (false, .lst (eI L)), none, none, none, none, none, none, none, none, none, none, none, none] =
      .nx [some (false, .scr ns), some (false, .lst (ds.map .int)), some (false, .val (.str (Str.ofString "abcdefghijklmnopqrstuvwxyz"))), some (false, .val (.str (S st))), some (false, .lst (eI L)), some (false, .lst ((wsS st L).map .str)), none, none, none, none, none, none, none, none, none, none, none] := by
    simp [-List.map_map, -addS_ll, c_l_senses_3_3, c3, ad]
  clear c3 ad ew er
  obtain ⟨hd, hh, hh2, eh⟩ : ∃ hd : Str, (∃ c, hd = S [c] ∧ c ≠ 47) ∧ (WW hd ∧ hd ∉ wsS st L) ∧ (sAsg 6 (o2 ixS (oLst (oAs [oC (.str "x"), oC (.str "y")])) (o1 intS' (o2 eqS (oNm 3) (oC (.str "x")))))) [some (false, .scr ns), some (false, .lst (ds.map .int)), some (false, .val (.str (Str.ofString "abcdefghijklmnopqrstuvwxyz"))), some (false, .val (.str (S st))), some (false, .lst (eI L)), some (false, .lst ((wsS st L).map .str)), none, none, none, none, none, none, none, none, none, none, none] = .nx [some (false, .scr ns), some (false, .lst (ds.map .int)), some (false, .val (.str (Str.ofString "abcdefghijklmnopqrstuvwxyz"))), some (false, .val (.str (S st))), some (false, .lst (eI L)), some (false, .lst ((wsS st L).map .str)), some (false, .val (.str hd)), none, none, none, none, none, none, none, none, none, none] := by
    have x1 : (Str.ofString "x") = S [120] := by decide +kernel
    have y1 : (Str.ofString "y") = S [121] := by decide +kernel
    have eq2 := eqS_str (S st) (Str.ofString "x")
    have it0 : intS' (.val (.bool false)) = some (.val (.int 0)) := rfl
    have it1 : intS' (.val (.bool true)) = some (.val (.int 1)) := rfl
    rw [str_beq] at eq2
    have ww : ∀ c, c = 120 ∨ c = 121 → WW (S [c]) := fun c hc => ⟨[c], stem_of (by simp) (by simp) (fun d hd => by have : d = c := by simpa using hd
                                                                                                                   omega), .inl rfl⟩
    have no : ∀ c, c = 120 ∨ c = 121 → S st ≠ S [c] → S [c] ∉ wsS st L := fun c hc hne hm => by
      rcases List.mem_cons.mp hm with h | h
      · exact hne h.symm
      · obtain ⟨n, hn, e⟩ := List.mem_map.mp h
        exact nw_ne (l := [c]) (by simp; omega) e
    by_cases h : S st = Str.ofString "x"
    · refine ⟨Str.ofString "y", ⟨121, y1, by omega⟩, ⟨by rw [y1]; exact ww 121 (.inr rfl), by
        rw [y1]
        exact no 121 (.inr rfl) fun e => by rw [h, x1] at e; have := S_inj' e; simp at this⟩, ?_⟩
      rw [decide_eq_true h] at eq2
      simp [-List.map_map, -eqS_str, eq2, it0, it1]
    · refine ⟨Str.ofString "x", ⟨120, x1, by omega⟩, ⟨by rw [x1]; exact ww 120 (.inl rfl), by
        rw [x1]
        exact no 120 (.inl rfl) fun e => h (by rw [e, x1])⟩, ?_⟩
      rw [decide_eq_false h] at eq2
      simp [-List.map_map, -eqS_str, eq2, it0, it1]
  have wlb : 1 ≤ (wsS st L).length ∧ (wsS st L).length ≤ 99 := by unfold wsS; rw [List.length_cons, List.length_map]; omega
  obtain ⟨n8, en8⟩ : ∃ n8 : Nat, n8 = ((wsS st L).length + 7) / 8 := ⟨_, rfl⟩
  have en8i : (((wsS st L).length : Int) + 7) / 8 = (n8 : Int) := by omega
  have c4 : lcW none (.nm 14) tTrue (oTup (oAs [oNm 6, o1 tupleS (oSl (oNm 5) (oPart (o2 mulS (oC (.int 8)) (oNm 14))) (oPart (o2 addS (o2 mulS (oC (.int 8)) (oNm 14)) (oC (.int 8)))))])) [14] (rng 0 n8) [some (false, .scr ns), some (false, .lst (ds.map .int)), some (false, .val (.str (Str.ofString "abcdefghijklmnopqrstuvwxyz"))), some (false, .val (.str (S st))), some (false, .lst (eI L)), some (false, .lst ((wsS st L).map .str)), some (false, .val (.str hd)), none, none, none, none, none, none, none, none, none, none] = .ok ((chk hd (wsS st L)).map eRow) [some (false, .scr ns), some (false, .lst (ds.map .int)), some (false, .val (.str (Str.ofString "abcdefghijklmnopqrstuvwxyz"))), some (false, .val (.str (S st))), some (false, .lst (eI L)), some (false, .lst ((wsS st L).map .str)), some (false, .val (.str hd)), none, none, none, none, none, none, none, none, none, none] := by
    have e4 : (chk hd (wsS st L)).map eRow = (List.range n8).map fun k => eRow (hd, ((wsS st L).drop (8 * k)).take 8) := by unfold chk; rw [List.map_map, en8]; rfl
    rw [e4, lc_rng (fun k => eRow (hd, ((wsS st L).drop (8 * k)).take 8)) n8 (by simp) (fun k hk => by
      have c8 := cut8 (wsS st L) k
      have ek : PyData.tuple [.str hd, .tuple ((((wsS st L).drop (8 * k)).take 8).map .str)] = eRow (hd, ((wsS st L).drop (8 * k)).take 8) := rfl
      generalize (wsS st L).map PyData.str = WS at *
      have hk2 : (-18446744073709551616 : Int) < k ∧ (k : Int) < 18446744073709551616 := by omega
      simp [-List.map_map, -slS_lst, -List.map_take, -List.map_drop, lturn_ap, c8, ek, hk2])]
    simp
  have hn1 : (n8 : Int) ≤ 1000000 := by omega
  have hn2 : (-4611686018427387904 : Int) ≤ n8 := by omega
  have tu : tupleS (.lst ((chk hd (wsS st L)).map eRow)) = some (.val (eBk (chk hd (wsS st L)))) := rfl
  have len5 : lenS (.lst ((wsS st L).map .str)) = some (.val (.int (wsS st L).length)) := by rw [lenS_lst, List.length_map]
  have p5 : (sAsg 7 (o1 tupleS (c_l_senses_3_4))) [some (false, .scr ns), some (false, .lst (ds.map .int)), some (false, .val (.str (Str.ofString "abcdefghijklmnopqrstuvwxyz"))), some (false, .val (.str (S st))), some (false, .lst (eI L)), some (false, .lst ((wsS st L).map .str)), some (false, .val (.str hd)), none, none, none, none, none, none, none, none, none, none] =
      .nx [some (false, .scr ns), some (false, .lst (ds.map .int)), some (false, .val (.str (Str.ofString "abcdefghijklmnopqrstuvwxyz"))), some (false, .val (.str (S st))), some (false, .lst (eI L)), some (false, .lst ((wsS st L).map .str)), some (false, .val (.str hd)), some (false, .val (eBk (chk hd (wsS st L)))), none, none, none, none, none, none, none, none, none] := by
    simp [-List.map_map, -tupleS_ap, -lenS_lst, c_l_senses_3_4, len5, en8i, hn1, hn2, c4, tu]
  clear c4 tu
  obtain ⟨a9, b9, d9⟩ := hds.at 9 (by omega) (by omega)
  obtain ⟨p, ep⟩ : ∃ p : Nat, (p : Int) = 1 + dat ds 9 % 5 % 4 := ⟨(1 + dat ds 9 % 5 % 4).toNat, by omega⟩
  have hp : 1 ≤ p ∧ p ≤ 4 := by omega
  have hp1 : (p : Int) ≤ 1000000 := by omega
  have hp2 : (-4611686018427387904 : Int) ≤ (p : Int) := by omega
  have hwp : (0 : Int) < (wsS st L).length := by omega
  have hwp' : 0 < (wsS st L).length := by omega
  obtain ⟨pick, hpick, hpick2⟩ : ∃ pick : Nat → Str, (∀ k, pick k ∈ wsS st L) ∧ ∀ k : Nat, atI ((wsS st L).map PyData.str) (dat ds (6 + (k : Nat)) % (wsS st L).length) = some (.str (pick k)) := by
    have : ∀ k : Nat, ∃ w, w ∈ wsS st L ∧ atI ((wsS st L).map PyData.str) (dat ds (6 + (k : Nat)) % (wsS st L).length) = some (.str w) := fun k => by
      obtain ⟨w, h1, h2⟩ := at_strs (ns := wsS st L) (Int.emod_nonneg (dat ds (6 + (k : Nat))) (show ((wsS st L).length : Int) ≠ 0 by omega)) (Int.emod_lt_of_pos (dat ds (6 + (k : Nat))) hwp)
      exact ⟨w, h2, h1⟩
    exact ⟨fun k => (this k).choose, fun k => (this k).choose_spec.1, fun k => (this k).choose_spec.2⟩
  have c5 : lcW none (.nm 14) tTrue (o2 ixS (oNm 5) (o2 modS (o2 ixS (oNm 1) (o2 addS (oC (.int 6)) (oNm 14))) (o1 lenS (oNm 5)))) [14] (rng 0 p) [some (false, .scr ns), some (false, .lst (ds.map .int)), some (false, .val (.str (Str.ofString "abcdefghijklmnopqrstuvwxyz"))), some (false, .val (.str (S st))), some (false, .lst (eI L)), some (false, .lst ((wsS st L).map .str)), some (false, .val (.str hd)), some (false, .val (eBk (chk hd (wsS st L)))), none, none, none, none, none, none, none, none, none] = .ok (((List.range p).map pick).map .str) [some (false, .scr ns), some (false, .lst (ds.map .int)), some (false, .val (.str (Str.ofString "abcdefghijklmnopqrstuvwxyz"))), some (false, .val (.str (S st))), some (false, .lst (eI L)), some (false, .lst ((wsS st L).map .str)), some (false, .val (.str hd)), some (false, .val (eBk (chk hd (wsS st L)))), none, none, none, none, none, none, none, none, none] := by
    rw [lc_rng (fun k => .str (pick k)) p (by simp) (fun k hk => by
      obtain ⟨a1, a2, a3⟩ := hds.at (6 + (k : Nat)) (by omega) (by omega)
      have q := hpick2 k
      generalize (wsS st L).map PyData.str = WS at *
      simp [-List.map_map, -lenS_lst, lturn_ap, a1, len5, hwp, hwp', q])]
    simp
  have h5 : atI ((wsS st L).map PyData.str) 0 = some (.str (S st)) := by unfold wsS; exact atI_zero _ _
  have ad : addS (.lst (((List.range p).map pick).map .str)) (.lst [.str (S st)]) = some (.lst (((List.range p).map pick ++ [S st]).map .str)) := by
    rw [addS_ll, if_pos (small3 (by simp; omega)), List.map_append]
    rfl
  have sc : setC (.lst (((List.range p).map pick ++ [S st]).map .str)) = some (.set (metT ((List.range p).map pick ++ [S st]))) := by
    rw [setC_lst, if_pos (by
      have : 3001 < scanBound := by decide
      simp
      omega)]
  have ml := metT_len ((List.range p).map pick ++ [S st])
  rw [List.length_append, List.length_map, List.length_range, List.length_cons, List.length_nil] at ml
  have ss : sortS (.set (metT ((List.range p).map pick ++ [S st]))) = some (.lst ((sortT (metT ((List.range p).map pick ++ [S st]))).map .str)) := by
    rw [sortS_set, if_pos (small3 (by omega))]
  obtain ⟨sm, esm⟩ : ∃ sm, sm = sortT (metT ((List.range p).map pick ++ [S st])) := ⟨_, rfl⟩
  have smW : ∀ w ∈ sm, w ∈ wsS st L := fun w h => by
    rw [esm, mem_sortT, mem_metT, List.mem_append] at h
    rcases h with h | h
    · obtain ⟨k, _, rfl⟩ := List.mem_map.mp h
      exact hpick k
    · rw [List.mem_singleton.mp h]
      exact List.mem_cons_self
  have smN : sm.Nodup := by rw [esm]; exact sortT_nodup (metT_nodup _)
  have smS : sortT sm = sm := by
    have : sortT sm = sortT (metT ((List.range p).map pick ++ [S st])) := sortT_ext smN (metT_nodup _) fun w => by rw [esm, mem_sortT]
    rw [this, ← esm]
  have smL : sm.length ≤ 5 := by rw [esm, len_sortT]; omega
  rw [← esm] at ss
  have p6 : (sAsg 8 (o1 sortS (o1 setC (o2 addS (c_l_senses_3_5) (oLst (oAs [o2 ixS (oNm 5) (oC (.int 0))])))))) [some (false, .scr ns), some (false, .lst (ds.map .int)), some (false, .val (.str (Str.ofString "abcdefghijklmnopqrstuvwxyz"))), some (false, .val (.str (S st))), some (false, .lst (eI L)), some (false, .lst ((wsS st L).map .str)), some (false, .val (.str hd)), some (false, .val (eBk (chk hd (wsS st L)))), none, none, none, none, none, none, none, none, none] =
      .nx [some (false, .scr ns), some (false, .lst (ds.map .int)), some (false, .val (.str (Str.ofString "abcdefghijklmnopqrstuvwxyz"))), some (false, .val (.str (S st))), some (false, .lst (eI L)), some (false, .lst ((wsS st L).map .str)), some (false, .val (.str hd)), some (false, .val (eBk (chk hd (wsS st L)))), some (false, .lst (sm.map .str)), none, none, none, none, none, none, none, none] := by
    simp [-List.map_map, -addS_ll, -setC_lst, -sortS_set, -lenS_lst, -List.map_append, c_l_senses_3_5, a9, hp1, hp2, ← ep, c5, h5, ad, sc, ss]
  clear c5 ad sc ss
  have c6 := lc_all (f := PyData.str) (c := some (8, sm.map .str)) (T := .nm 15) (t := tTrue) (g := oTup (oAs [oNm 15, oTup (oAs [])])) (own := [15]) (ρ := [some (false, .scr ns), some (false, .lst (ds.map .int)), some (false, .val (.str (Str.ofString "abcdefghijklmnopqrstuvwxyz"))), some (false, .val (.str (S st))), some (false, .lst (eI L)), some (false, .lst ((wsS st L).map .str)), some (false, .val (.str hd)), some (false, .val (eBk (chk hd (wsS st L)))), some (true, .lst (sm.map .str)), none, none, none, none, none, none, none, none]) (fun w => eRow (w, [])) sm (by simp) (by
    intro w hw
    have er : PyData.tuple [.str w, .tuple []] = eRow (w, []) := rfl
    simp [lturn_ap, er])
  have eB : (sm.map fun w => eRow (w, [])) = (sm.map fun w => ((w, []) : Row)).map eRow := by rw [List.map_map]; rfl
  rw [eB] at c6
  have tuB : tupleS (.lst ((sm.map fun w => ((w, []) : Row)).map eRow)) = some (.val (eBk (sm.map fun w => ((w, []) : Row)))) := rfl
  simp [-List.map_map] at c6
  have p7 : (sAsg 9 (o1 tupleS (c_l_senses_3_6))) [some (false, .scr ns), some (false, .lst (ds.map .int)), some (false, .val (.str (Str.ofString "abcdefghijklmnopqrstuvwxyz"))), some (false, .val (.str (S st))), some (false, .lst (eI L)), some (false, .lst ((wsS st L).map .str)), some (false, .val (.str hd)), some (false, .val (eBk (chk hd (wsS st L)))), some (false, .lst (sm.map .str)), none, none, none, none, none, none, none, none] =
      .nx [some (false, .scr ns), some (false, .lst (ds.map .int)), some (false, .val (.str (Str.ofString "abcdefghijklmnopqrstuvwxyz"))), some (false, .val (.str (S st))), some (false, .lst (eI L)), some (false, .lst ((wsS st L).map .str)), some (false, .val (.str hd)), some (false, .val (eBk (chk hd (wsS st L)))), some (false, .lst (sm.map .str)), some (false, .val (eBk (sm.map fun w => ((w, []) : Row)))), none, none, none, none, none, none, none] := by
    simp [-List.map_map, -tupleS_ap, c_l_senses_3_6, c6, tuB]
  clear c6 tuB
  obtain ⟨A, eA⟩ : ∃ A, A = chk hd (wsS st L) := ⟨_, rfl⟩
  obtain ⟨B, eBB⟩ : ∃ B, B = sm.map fun w => ((w, []) : Row) := ⟨_, rfl⟩
  have wW : ∀ w ∈ wsS st L, WW w := fun w h => (stm_of hst h).2
  have rowA : ∀ r ∈ A, r.1 = hd ∧ r.2.length ≤ 8 ∧ ∀ w ∈ r.2, w ∈ wsS st L := fun r hr => by
    rw [eA] at hr
    obtain ⟨k, _, rfl⟩ := List.mem_map.mp hr
    exact ⟨rfl, List.length_take_le _ _, fun w hw => List.mem_of_mem_drop (List.mem_of_mem_take hw)⟩
  have lenA : A.length ≤ 13 := by rw [eA]; unfold chk; rw [List.length_map, List.length_range]; omega
  have boA : Bo A := ⟨by omega, fun r hr => by
    obtain ⟨h1, h2, h3⟩ := rowA r hr
    exact ⟨by rw [h1]; exact hh2.1, by omega, fun w hw => wW w (h3 w hw)⟩⟩
  have rowB' : ∀ r ∈ B, r.1 ∈ sm ∧ r.2 = [] := fun r hr => by
    rw [eBB] at hr
    obtain ⟨w, hw, rfl⟩ := List.mem_map.mp hr
    exact ⟨hw, rfl⟩
  have boB : Bo B := ⟨by rw [eBB, List.length_map]; omega, fun r hr => by
    obtain ⟨h1, h2⟩ := rowB' r hr
    exact ⟨wW _ (smW _ h1), by rw [h2]; simp, by rw [h2]; simp⟩⟩
  have wB : wds B = sm := by
    have : sortT (metT (wl B)) = sortT sm := sortT_ext (metT_nodup _) smN fun w => by
      rw [← mem_sortT, show sortT (metT (wl B)) = wds B from rfl, wds_mem]
      constructor
      · rintro ⟨r, hr, h⟩
        obtain ⟨h1, h2⟩ := rowB' r hr
        rcases h with rfl | h
        · exact h1
        · rw [h2] at h; cases h
      · intro h
        exact ⟨(w, []), by rw [eBB]; exact List.mem_map.mpr ⟨w, h, rfl⟩, .inl rfl⟩
    exact this.trans smS
  have wA : ∀ w, w ∈ wds A ↔ w = hd ∨ w ∈ wsS st L := fun w => by rw [eA]; exact chk_mem (by unfold wsS; simp)
  have lwA : (wds A).length ≤ 100 := by
    have := sub_len (ys := hd :: wsS st L) (wds_nodup A) fun w h => by
      rcases (wA w).mp h with rfl | h
      · exact List.mem_cons_self
      · exact List.mem_cons_of_mem _ h
    rw [List.length_cons] at this
    omega
  have m0 : MtL st L (wds A) (metT (wds A ++ sm)) 0 := by rw [eA]; exact mt0 hst hh smW
  obtain ⟨no, yes⟩ := nnM_L hst hL (wds A) sm (fun w h => ⟨smW w h, (wA w).mpr (.inr (smW w h))⟩) m0
  have nm := new_names_M A B boA boB [] (by rw [wB]; omega)
  rw [wB] at nm
  rw [← eA, ← eBB] at p7
  rw [← eA] at p5 p6
  have lg : gtS (.val (.int sm.length)) (.val (.int L.length)) = some (.val (.bool (decide ((L.length : Int) < sm.length)))) := rfl
  have ls : lenS (.lst (sm.map .str)) = some (.val (.int sm.length)) := by rw [lenS_lst, List.length_map]
  have lL : lenS (.lst (eI L)) = some (.val (.int L.length)) := by rw [lenS_lst]; unfold eI; rw [List.length_map]
  rw [f_l_senses_3, runF_fin, s0, b_l_senses_3, sq_nx p0, sq_nx p1, sq_nx p2, sq_nx p3, sq_nx p4, sq_nx eh, sq_nx p5, sq_nx p6, sq_nx p7]
  clear p0 p1 p2 p3 p4 eh p5 p6 p7
  by_cases hc : L.length < sm.length
  · rw [no hc] at nm
    simp only at nm
    have t1 := tried_new_no A B [] nm
    have t2 := tried_laid_no A B [] (laid_no A B [] nm)
    simp only [List.map_nil] at t1 t2
    have q0 : (sAsg 10 (oLst (oAs [oCall f_l_tried_2 (oAs [oC (.int 1), oNm 7, oNm 9, oLst (oAs [])]), oCall f_l_tried_2 (oAs [oC (.int 0), oNm 7, oNm 9, oLst (oAs [])])]))) [some (false, .scr ns), some (false, .lst (ds.map .int)), some (false, .val (.str (Str.ofString "abcdefghijklmnopqrstuvwxyz"))), some (false, .val (.str (S st))), some (false, .lst (eI L)), some (false, .lst ((wsS st L).map .str)), some (false, .val (.str hd)), some (false, .val (eBk A)), some (false, .lst (sm.map .str)), some (false, .val (eBk B)), none, none, none, none, none, none, none] =
        .nx [some (false, .scr ns), some (false, .lst (ds.map .int)), some (false, .val (.str (Str.ofString "abcdefghijklmnopqrstuvwxyz"))), some (false, .val (.str (S st))), some (false, .lst (eI L)), some (false, .lst ((wsS st L).map .str)), some (false, .val (.str hd)), some (false, .val (eBk A)), some (false, .lst (sm.map .str)), some (false, .val (eBk B)), some (false, .lst [noT, noT]), none, none, none, none, none, none] := by
      simp [-List.map_map, t1, t2]
    have hc' : (L.length : Int) < sm.length := by omega
    have g : Gd (.list [noT, noT]) 3 100 := by
      have h1 : Gd (.list [PyData.bool true, .bool true, .bool false]) 1 3 := (Gd.list (k := 0) (W := 0) (fun x hx => by
        simp only [List.mem_cons, List.not_mem_nil, or_false] at hx
        rcases hx with rfl | rfl | rfl <;> exact Gd.bool _)).mono (by omega) (by simp)
      have h2 : Gd noT 2 8 := (Gd.tup (xs := [PyData.none, .list [PyData.bool true, .bool true, .bool false]]) (k := 1) (W := 3) (fun x hx => by
        simp only [List.mem_cons, List.not_mem_nil, or_false] at hx
        rcases hx with rfl | rfl
        · exact Gd.nul.mono (by omega) (by omega)
        · exact h1)).mono (by omega) (by simp)
      exact (Gd.list (xs := [noT, noT]) (k := 2) (W := 8) (fun x hx => by
        simp only [List.mem_cons, List.not_mem_nil, or_false] at hx
        rcases hx with rfl | rfl <;> exact h2)).mono (by omega) (by simp)
    have q := Gd.eq (a := .lst [noT, noT]) (b := .lst [noT, noT]) rfl rfl g (by omega)
    have en : PyData.tuple [.none, .list [.bool true, .bool true, .bool false]] = noT := rfl
    rw [sq_nx q0]
    simp [-List.map_map, -lenS_lst, ls, lL, lg, hc', en, q]
  · obtain ⟨met, en⟩ := yes (by omega)
    rw [en] at nm
    simp only at nm
    obtain ⟨nms, enm⟩ : ∃ nms, nms = (L.take sm.length).map (nw st) := ⟨_, rfl⟩
    rw [← enm] at nm
    have lnm : sm.length = nms.length := by rw [enm, List.length_map, List.length_take]; omega
    have nmE : ∀ v ∈ nms, ∃ n, n ∈ L ∧ v = nw st n := fun v hv => by
      rw [enm] at hv
      obtain ⟨n, hn, rfl⟩ := List.mem_map.mp hv
      exact ⟨n, List.mem_of_mem_take hn, rfl⟩
    have nmW : ∀ v ∈ nms, WW v := fun v hv => by
      obtain ⟨n, hn, rfl⟩ := nmE v hv
      have := hL.rg n hn
      exact nw_WW hst this.1 this.2
    have nmN : nms.Nodup := by
      rw [enm]
      refine List.pairwise_map.mpr (((hL.up.sublist (List.take_sublist _ _))).imp fun h e => ?_)
      have := nw_inj e
      omega
    have rz := rho_zip smN lnm
    have zf := zipL_fst lnm
    have rW : ∀ w ∈ sm, rho (sm.zip nms) w ∈ nms := fun w h => by
      have : rho (sm.zip nms) w ∈ sm.map (rho (sm.zip nms)) := List.mem_map.mpr ⟨w, h, rfl⟩
      rwa [rz] at this
    have lo := laid_of A B boA boB [] (sm.zip nms) nm (by rw [wB, zf]; exact fun _ h => h) (fun w h => nmW _ (rW w (wB ▸ h))) (by rw [zf]; exact smN) (by have := boB.len; have : B.length ≤ 5 := (by rw [eBB, List.length_map]; exact smL); omega)
    have eR : B.map (ren (sm.zip nms)) = nms.map fun v => ((v, []) : Row) := by
      have h1 : B.map (ren (sm.zip nms)) = (sm.map (rho (sm.zip nms))).map fun v => ((v, []) : Row) := by
        rw [eBB, List.map_map, List.map_map]
        exact List.map_congr_left fun w _ => rfl
      rw [h1, rz]
    have la : lai (sm.zip nms) A B = A ++ nms.map fun v => ((v, []) : Row) := by
      unfold lai
      rw [eR]
      refine foldA_far _ _ (fun r hr s hs => ?_) ?_
      · obtain ⟨v, hv, rfl⟩ := List.mem_map.mp hr
        have h1 := (rowA s hs).1
        unfold alkB
        have : ¬ v = s.1 := fun e => by
          obtain ⟨n, hn, e2⟩ := nmE v hv
          obtain ⟨c, ec, hc47⟩ := hh
          rw [h1, ec, e2] at e
          exact nw_ne (l := [c]) (by simpa using fun q => hc47 q.symm) e
        simp [this]
      · refine List.pairwise_map.mpr (nmN.imp fun h => ?_)
        unfold alkB
        simp
        exact fun e => h e.symm
    rw [la, if_neg (by rw [List.length_append, List.length_map]; omega)] at lo
    obtain ⟨C, eC⟩ : ∃ C, C = nms.map fun v => ((v, []) : Row) := ⟨_, rfl⟩
    rw [← eC] at lo
    have t1 := tried_new A B [] (sm.zip nms) nm
    have t2 := tried_laid A B [] (A ++ C) lo
    simp only [List.map_nil] at t1 t2
    have hc' : ¬ (L.length : Int) < sm.length := by omega
    have q0 : (sAsg 10 (oLst (oAs [oCall f_l_tried_2 (oAs [oC (.int 1), oNm 7, oNm 9, oLst (oAs [])]), oCall f_l_tried_2 (oAs [oC (.int 0), oNm 7, oNm 9, oLst (oAs [])])]))) [some (false, .scr ns), some (false, .lst (ds.map .int)), some (false, .val (.str (Str.ofString "abcdefghijklmnopqrstuvwxyz"))), some (false, .val (.str (S st))), some (false, .lst (eI L)), some (false, .lst ((wsS st L).map .str)), some (false, .val (.str hd)), some (false, .val (eBk A)), some (false, .lst (sm.map .str)), some (false, .val (eBk B)), none, none, none, none, none, none, none] =
        .nx [some (false, .scr ns), some (false, .lst (ds.map .int)), some (false, .val (.str (Str.ofString "abcdefghijklmnopqrstuvwxyz"))), some (false, .val (.str (S st))), some (false, .lst (eI L)), some (false, .lst ((wsS st L).map .str)), some (false, .val (.str hd)), some (false, .val (eBk A)), some (false, .lst (sm.map .str)), some (false, .val (eBk B)), some (false, .lst [okT2 (.list ((sm.zip nms).map eP)), okT2 (eBk (A ++ C))]), none, none, none, none, none, none] := by
      simp [-List.map_map, t1, t2]
    have q1 : (sIf (tV (o2 gtS (o1 lenS (oNm 8)) (o1 lenS (oNm 4)))) (sRet (o2 eqS (oNm 10) (oLst (oAs [oTup (oAs [oC .none, oLst (oAs [oC (.bool true), oC (.bool true), oC (.bool false)])]), oTup (oAs [oC .none, oLst (oAs [oC (.bool true), oC (.bool true), oC (.bool false)])])])))) sNil) [some (false, .scr ns), some (false, .lst (ds.map .int)), some (false, .val (.str (Str.ofString "abcdefghijklmnopqrstuvwxyz"))), some (false, .val (.str (S st))), some (false, .lst (eI L)), some (false, .lst ((wsS st L).map .str)), some (false, .val (.str hd)), some (false, .val (eBk A)), some (false, .lst (sm.map .str)), some (false, .val (eBk B)), some (false, .lst [okT2 (.list ((sm.zip nms).map eP)), okT2 (eBk (A ++ C))]), none, none, none, none, none, none] =
        .nx [some (false, .scr ns), some (false, .lst (ds.map .int)), some (false, .val (.str (Str.ofString "abcdefghijklmnopqrstuvwxyz"))), some (false, .val (.str (S st))), some (false, .lst (eI L)), some (false, .lst ((wsS st L).map .str)), some (false, .val (.str hd)), some (false, .val (eBk A)), some (false, .lst (sm.map .str)), some (false, .val (eBk B)), some (false, .lst [okT2 (.list ((sm.zip nms).map eP)), okT2 (eBk (A ++ C))]), none, none, none, none, none, none] := by
      simp [-List.map_map, -lenS_lst, ls, lL, lg, hc']
    have ct : slS none (some (sm.length : Int)) (.lst (eI L)) = some (.lst (eI (L.take sm.length))) := by
      rw [slS_lst, cutA_pre]
      unfold eI
      rw [List.map_take]
    have c7 := lc_all (f := fun n : Nat => PyData.int (n : Int)) (c := none) (T := .nm 13) (t := tTrue) (g := o2 addS (o2 addS (oNm 3) (oC (.str "/"))) (o1 strS (oNm 13))) (own := [13]) (ρ := [some (false, .scr ns), some (false, .lst (ds.map .int)), some (false, .val (.str (Str.ofString "abcdefghijklmnopqrstuvwxyz"))), some (false, .val (.str (S st))), some (false, .lst (eI L)), some (false, .lst ((wsS st L).map .str)), some (false, .val (.str hd)), some (false, .val (eBk A)), some (false, .lst (sm.map .str)), some (false, .val (eBk B)), some (false, .lst [okT2 (.list ((sm.zip nms).map eP)), okT2 (eBk (A ++ C))]), none, none, none, none, none, none]) (fun n => .str (nw st n)) (L.take sm.length) (by simp) (by
      intro n hn
      have rg := hL.rg n (List.mem_of_mem_take hn)
      obtain ⟨q1, q2, q3⟩ := nw_adds hst rg.1 rg.2
      simp [-addS_str, -strS_int, lturn_ap, q1, q2, q3])
    have e7 : (L.take sm.length).map (fun n : Nat => PyData.int (n : Int)) = eI (L.take sm.length) := rfl
    have e7b : ((L.take sm.length).map fun n => PyData.str (nw st n)) = nms.map .str := by rw [enm, List.map_map]; rfl
    rw [e7, e7b] at c7
    simp [-List.map_map, -List.map_take] at c7
    have q2 : (sAsg 11 (c_l_senses_3_7)) [some (false, .scr ns), some (false, .lst (ds.map .int)), some (false, .val (.str (Str.ofString "abcdefghijklmnopqrstuvwxyz"))), some (false, .val (.str (S st))), some (false, .lst (eI L)), some (false, .lst ((wsS st L).map .str)), some (false, .val (.str hd)), some (false, .val (eBk A)), some (false, .lst (sm.map .str)), some (false, .val (eBk B)), some (false, .lst [okT2 (.list ((sm.zip nms).map eP)), okT2 (eBk (A ++ C))]), none, none, none, none, none, none] =
        .nx [some (false, .scr ns), some (false, .lst (ds.map .int)), some (false, .val (.str (Str.ofString "abcdefghijklmnopqrstuvwxyz"))), some (false, .val (.str (S st))), some (false, .lst (eI L)), some (false, .lst ((wsS st L).map .str)), some (false, .val (.str hd)), some (false, .val (eBk A)), some (false, .lst (sm.map .str)), some (false, .val (eBk B)), some (false, .lst [okT2 (.list ((sm.zip nms).map eP)), okT2 (eBk (A ++ C))]), some (false, .lst (nms.map .str)), none, none, none, none, none] := by
      simp [-List.map_map, -lenS_lst, -slS_lst, c_l_senses_3_7, ls, ct, c7]
    have c8 : lcW none (.nm 14) tTrue (oTup (oAs [o2 ixS (oNm 8) (oNm 14), o2 ixS (oNm 11) (oNm 14)])) [14] (rng 0 sm.length) [some (false, .scr ns), some (false, .lst (ds.map .int)), some (false, .val (.str (Str.ofString "abcdefghijklmnopqrstuvwxyz"))), some (false, .val (.str (S st))), some (false, .lst (eI L)), some (false, .lst ((wsS st L).map .str)), some (false, .val (.str hd)), some (false, .val (eBk A)), some (false, .lst (sm.map .str)), some (false, .val (eBk B)), some (false, .lst [okT2 (.list ((sm.zip nms).map eP)), okT2 (eBk (A ++ C))]), some (false, .lst (nms.map .str)), none, none, none, none, none] = .ok ((sm.zip nms).map eP) [some (false, .scr ns), some (false, .lst (ds.map .int)), some (false, .val (.str (Str.ofString "abcdefghijklmnopqrstuvwxyz"))), some (false, .val (.str (S st))), some (false, .lst (eI L)), some (false, .lst ((wsS st L).map .str)), some (false, .val (.str hd)), some (false, .val (eBk A)), some (false, .lst (sm.map .str)), some (false, .val (eBk B)), some (false, .lst [okT2 (.list ((sm.zip nms).map eP)), okT2 (eBk (A ++ C))]), some (false, .lst (nms.map .str)), none, none, none, none, none] := by
      have e8 : (sm.zip nms).map eP = (List.range sm.length).map fun k => eP (sm[k]?.getD hd, nms[k]?.getD hd) := by
        refine List.ext_getElem (by simp [List.length_zip]; omega) fun i h1 h2 => ?_
        rw [List.length_map, List.length_zip] at h1
        rw [List.getElem_map, List.getElem_map, List.getElem_zip, List.getElem_range]
        rw [List.getElem?_eq_getElem (by omega), List.getElem?_eq_getElem (by omega)]
        rfl
      rw [e8, lc_rng (fun k => eP (sm[k]?.getD hd, nms[k]?.getD hd)) sm.length (by simp) (fun k hk => by
        have i1 : atI (sm.map PyData.str) (k : Int) = some (.str (sm[k]?.getD hd)) := by
          rw [atI_map, atI_nat' _ _ (by omega) (by omega)]
          have : ((k : Int)).toNat = k := by omega
          rw [this, List.getElem?_eq_getElem hk]
          rfl
        have i2 : atI (nms.map PyData.str) (k : Int) = some (.str (nms[k]?.getD hd)) := by
          rw [atI_map, atI_nat' _ _ (by omega) (by omega)]
          have : ((k : Int)).toNat = k := by omega
          rw [this, List.getElem?_eq_getElem (by omega)]
          rfl
        have ep : PyData.tuple [.str (sm[k]?.getD hd), .str (nms[k]?.getD hd)] = eP (sm[k]?.getD hd, nms[k]?.getD hd) := rfl
        generalize sm.map PyData.str = X1 at *
        generalize nms.map PyData.str = X2 at *
        simp [-List.map_map, lturn_ap, i1, i2, ep])]
      simp
    have hs1 : (sm.length : Int) ≤ 1000000 := by omega
    have hs2 : (-4611686018427387904 : Int) ≤ (sm.length : Int) := by omega
    have q3 : (sAsg 12 (c_l_senses_3_8)) [some (false, .scr ns), some (false, .lst (ds.map .int)), some (false, .val (.str (Str.ofString "abcdefghijklmnopqrstuvwxyz"))), some (false, .val (.str (S st))), some (false, .lst (eI L)), some (false, .lst ((wsS st L).map .str)), some (false, .val (.str hd)), some (false, .val (eBk A)), some (false, .lst (sm.map .str)), some (false, .val (eBk B)), some (false, .lst [okT2 (.list ((sm.zip nms).map eP)), okT2 (eBk (A ++ C))]), some (false, .lst (nms.map .str)), none, none, none, none, none] =
        .nx [some (false, .scr ns), some (false, .lst (ds.map .int)), some (false, .val (.str (Str.ofString "abcdefghijklmnopqrstuvwxyz"))), some (false, .val (.str (S st))), some (false, .lst (eI L)), some (false, .lst ((wsS st L).map .str)), some (false, .val (.str hd)), some (false, .val (eBk A)), some (false, .lst (sm.map .str)), some (false, .val (eBk B)), some (false, .lst [okT2 (.list ((sm.zip nms).map eP)), okT2 (eBk (A ++ C))]), some (false, .lst (nms.map .str)), some (false, .lst ((sm.zip nms).map eP)), none, none, none, none] := by
      simp [-List.map_map, -lenS_lst, c_l_senses_3_8, ls, hs1, hs2, c8]
    have c9 := lc_all (f := PyData.str) (c := some (11, nms.map .str)) (T := .nm 16) (t := tTrue) (g := oTup (oAs [oNm 16, oTup (oAs [])])) (own := [16]) (ρ := [some (false, .scr ns), some (false, .lst (ds.map .int)), some (false, .val (.str (Str.ofString "abcdefghijklmnopqrstuvwxyz"))), some (false, .val (.str (S st))), some (false, .lst (eI L)), some (false, .lst ((wsS st L).map .str)), some (false, .val (.str hd)), some (false, .val (eBk A)), some (false, .lst (sm.map .str)), some (false, .val (eBk B)), some (false, .lst [okT2 (.list ((sm.zip nms).map eP)), okT2 (eBk (A ++ C))]), some (true, .lst (nms.map .str)), some (false, .val (.list ((sm.zip nms).map eP))), none, none, none, none]) (fun w => eRow (w, [])) nms (by simp) (by
      intro w hw
      have er : PyData.tuple [.str w, .tuple []] = eRow (w, []) := rfl
      simp [lturn_ap, er])
    have eB2 : (nms.map fun w => eRow (w, [])) = C.map eRow := by rw [eC, List.map_map]; rfl
    rw [eB2] at c9
    simp [-List.map_map] at c9
    have tuC : tupleS (.lst (C.map eRow)) = some (.val (eBk C)) := rfl
    have lC : C.length ≤ 5 := by rw [eC, List.length_map]; omega
    have adA : addS (.val (eBk A)) (.val (eBk C)) = some (.val (eBk (A ++ C))) := by rw [addS_bk2, if_pos (small3 (by omega))]
    have rq : ∀ r ∈ A ++ C, RQ r := fun r hr => by
      rcases List.mem_append.mp hr with h | h
      · obtain ⟨h1, h2, h3⟩ := rowA r h
        exact ⟨by rw [h1]; exact hh2.1.q, by omega, fun w hw => (wW w (h3 w hw)).q⟩
      · rw [eC] at h
        obtain ⟨v, hv, rfl⟩ := List.mem_map.mp h
        exact ⟨(nmW v hv).q, by simp, by simp⟩
    obtain ⟨W0, _, g1⟩ := Gd.bq rq (by rw [List.length_append]; omega)
    have g2 : Gd (.list ((sm.zip nms).map eP)) 2 100000 := by
      have : ∀ p ∈ sm.zip nms, Gd (eP p) 1 24 := fun p hp => by
        have h1 := List.of_mem_zip hp
        exact (Gd.tup (xs := [.str p.1, .str p.2]) (k := 0) (W := 11) (fun x hx => by
          simp only [List.mem_cons, List.not_mem_nil, or_false] at hx
          rcases hx with rfl | rfl
          · exact (wW _ (smW _ h1.1)).gd
          · exact (nmW _ h1.2).gd)).mono (by omega) (by simp)
      exact (Gd.list (Gd.map this)).mono (by omega) (by rw [List.length_map, List.length_zip]; omega)
    have g0 : Gd (.list []) 1 0 := (Gd.list (xs := []) (k := 0) (W := 0) (by simp)).mono (by omega) (by simp)
    have gt : ∀ (d : D) (k W : Nat), Gd d k W → 1 ≤ k → Gd (okT2 d) (k + 1) (2 * (W + 1)) := fun d k W g hk => (Gd.tup (xs := [d, .list []]) (fun x hx => by
      simp only [List.mem_cons, List.not_mem_nil, or_false] at hx
      rcases hx with rfl | rfl
      · exact g
      · exact g0.mono (by omega) (by omega))).mono (by omega) (by simp)
    have g3 := gt _ _ _ (g2.mono (k' := 3) (W' := W0 + 100000) (by omega) (by omega)) (by omega)
    have g4 := gt _ _ _ (g1.mono (k' := 3) (W' := W0 + 100000) (by omega) (by omega)) (by omega)
    have g5 := Gd.list (xs := [okT2 (.list ((sm.zip nms).map eP)), okT2 (eBk (A ++ C))]) (fun x hx => by
      simp only [List.mem_cons, List.not_mem_nil, or_false] at hx
      rcases hx with rfl | rfl
      · exact g3
      · exact g4)
    have q := Gd.eq (a := .lst [okT2 (.list ((sm.zip nms).map eP)), okT2 (eBk (A ++ C))]) (b := .lst [okT2 (.list ((sm.zip nms).map eP)), okT2 (eBk (A ++ C))]) rfl rfl g5 (by omega)
    have o1 : PyData.tuple [.list ((sm.zip nms).map eP), .list []] = okT2 (.list ((sm.zip nms).map eP)) := rfl
    have o2' : PyData.tuple [eBk (A ++ C), .list []] = okT2 (eBk (A ++ C)) := rfl
    rw [sq_nx q0, sq_nx q1, sq_nx q2, sq_nx q3]
    simp [-List.map_map, -tupleS_ap, -addS_tup, c_l_senses_3_9, c9, tuC, adA, o1, o2', q]
end Eng
/-! Whether a row stands; law k62. -/
namespace Eng
open PySem PySem.Spec L2 SX
open PyProof.Rows hiding St
end Eng
/-! Law k62. -/
namespace Eng
open PySem PySem.Spec L2 SX
open PyProof.Rows hiding St
theorem dput_sdP_new (Q : List Pr) (w v : Str) (h : w ∉ Q.map (·.1)) : dput (sd PyData.str Q) (.str w) (.str v) = sd PyData.str (Q ++ [(w, v)]) := by
  unfold dput
  rw [dhas_sd, if_neg (by simpa using h)]
  unfold sd
  rw [List.map_append]
  rfl
theorem dput_sdP_old (Q : List Pr) (w u v : Str) (h : w ∉ Q.map (·.1)) : dput (sd PyData.str (Q ++ [(w, u)])) (.str w) (.str v) = sd PyData.str (Q ++ [(w, v)]) := by
  unfold dput
  rw [dhas_sd, if_pos (by simp)]
  unfold sd
  rw [List.map_append, List.map_append, List.map_append, List.map_map]
  congr 1
  · refine List.map_congr_left fun p hp => ?_
    have : ¬ p.1 = w := fun e => h (e ▸ List.mem_map.mpr ⟨p, hp, rfl⟩)
    simp only [Function.comp]
    rw [eqv_str]
    simp [Ne.symm this, this]
  · simp only [List.map_cons, List.map_nil]
    rw [eqv_str]
    simp
theorem setS_sdP (Q : List Pr) (w v : Str) (hl : Q.length < sizeLine) : setS (.dic (sd PyData.str Q)) (.str w) (.str v) = some (.dic (dput (sd PyData.str Q) (.str w) (.str v))) := by
  unfold setS
  have : (sd PyData.str Q).length < sizeLine := by unfold sd; rw [List.length_map]; exact hl
  simp [dOk_sd, this]
end Eng
/-! Law k65: books of rows that tell one letter of a letter. -/
namespace Eng
open PySem PySem.Spec L2 SX
open PyProof.Rows hiding St
/-- eight letters -/
structure W8 (W : List Str) : Prop where
  nd : W.Nodup
  len : W.length = 8
  ltr : ∀ w ∈ W, ∃ c, 97 ≤ c ∧ c ≤ 122 ∧ w = S [c]
theorem W8.ww {W : List Str} (h : W8 W) {w : Str} (hw : w ∈ W) : WW w := by
  obtain ⟨c, h1, h2, rfl⟩ := h.ltr w hw
  exact ⟨[c], stem_of (by simp) (by simp) (fun d hd => by have : d = c := (by simpa using hd); omega), .inl rfl⟩
theorem W8.nm2 {W : List Str} (h : W8 W) {w : Str} (hw : w ∈ W) : ∃ c, w = S [c] ∧ nmF w 2 = S [c, 47, 50] := by
  obtain ⟨c, h1, h2, rfl⟩ := h.ltr w hw
  refine ⟨c, rfl, ?_⟩
  have hst : Stem [c] := stem_of (by simp) (by simp) (fun d hd => by have : d = c := (by simpa using hd); omega)
  have e : stm (S [c]) = S [c] := by unfold stm; rw [split_stem hst]; rfl
  unfold nmF
  rw [e, cat_slash]
  have : TL.numL 2 = [50] := by decide +kernel
  rw [this]
  rfl
theorem W8.slash2 {W : List Str} (h : W8 W) {w : Str} (hw : w ∈ W) : addS (.val (.str w)) (.val (.str (Str.ofString "/2"))) = some (.val (.str (nmF w 2))) := by
  obtain ⟨c, rfl, e⟩ := h.nm2 hw
  have s2 : (Str.ofString "/2") = S [47, 50] := by decide +kernel
  rw [addS_str, s2, if_pos (by rw [S_len, S_len]; show 3 ≤ sizeLine; decide), S_cat, e]
  rfl
/-- a row of one letter told -/
def R1 (W : List Str) (r : Row) : Prop := ∃ w ∈ W, ∃ v ∈ W, r = (w, [v])
theorem W8.bo {W : List Str} (h : W8 W) {A : List Row} (hA : ∀ r ∈ A, R1 W r) (hl : A.length ≤ 200) : Bo A := ⟨hl, fun r hr => by
  obtain ⟨w, hw, v, hv, rfl⟩ := hA r hr
  exact ⟨h.ww hw, by simp, fun u hu => by rw [List.mem_singleton.mp hu]; exact h.ww hv⟩⟩
theorem wds_W {W : List Str} {A : List Row} (hA : ∀ r ∈ A, R1 W r) : ∀ w ∈ wds A, w ∈ W := fun w h => by
  obtain ⟨r, hr, q⟩ := wds_mem.mp h
  obtain ⟨u, hu, v, hv, rfl⟩ := hA r hr
  rcases q with rfl | q
  · exact hu
  · rw [List.mem_singleton.mp q]; exact hv
theorem wds_W8 {W : List Str} (h : W8 W) {A : List Row} (hA : ∀ r ∈ A, R1 W r) : (wds A).length ≤ 8 := by
  have := sub_len (wds_nodup A) (wds_W hA)
  rw [h.len] at this
  exact this
/-- the law's given name -/
def gvn (mine same : List Str) (w : Str) : Str := if w ∈ mine ∧ w ∉ same then nmF w 2 else w
theorem nnM_8 {W : List Str} (h : W8 W) (mine theirs same : List Str) (hm : ∀ w ∈ mine, w ∈ W) (ht : ∀ w ∈ theirs, w ∈ W) (hn : theirs.Nodup) : ∃ met, nnM mine theirs same = some (theirs.map fun w => (w, gvn mine same w), met) := by
  have key : ∀ (rest done : List Str) (s : List Pr × List Str), theirs = done ++ rest → s.1 = done.map (fun w => (w, gvn mine same w)) → (∀ x ∈ s.2, x ∈ W ∨ ∃ u ∈ done, x = nmF u 2) →
      ∃ met, rest.foldlM (stM mine same) s = some (theirs.map fun w => (w, gvn mine same w), met) := by
    intro rest
    induction rest with
    | nil =>
      intro done s hd hs _
      rw [List.append_nil] at hd
      subst hd
      exact ⟨s.2, by rw [← hs]; rfl⟩
    | cons w rest ih =>
      intro done s hd hs hM
      have hwt : w ∈ theirs := by rw [hd]; simp
      have hw := ht w hwt
      rw [List.foldlM_cons]
      by_cases q : w ∈ mine ∧ w ∉ same
      · have nin : nmF w 2 ∉ s.2 := fun hx => by
          obtain ⟨c, e1, e2⟩ := h.nm2 hw
          rcases hM _ hx with hx | ⟨u, hu, e⟩
          · obtain ⟨d, _, _, e3⟩ := h.ltr _ hx
            rw [e2] at e3
            have := S_inj' e3
            simp at this
          · have huW := ht u (by rw [hd]; exact List.mem_append_left _ hu)
            obtain ⟨d, e3, e4⟩ := h.nm2 huW
            rw [e2, e4] at e
            have e5 := S_inj' e
            simp at e5
            have : w = u := by rw [e1, e3, e5]
            subst this
            rw [hd] at hn
            exact (List.nodup_append.mp hn).2.2 w hu w List.mem_cons_self rfl
        have fq : frq w s.2 = some 2 := frq_at (by omega) (by omega) nin fun m h2 hm => by omega
        have es : stM mine same s w = some (s.1 ++ [(w, nmF w 2)], addT s.2 (nmF w 2)) := by
          unfold stM
          rw [if_pos q, fq]
        rw [es]
        refine ih (done ++ [w]) _ (by rw [hd]; simp) ?_ fun x hx => ?_
        · show s.1 ++ [(w, nmF w 2)] = _
          rw [hs, List.map_append]
          have : gvn mine same w = nmF w 2 := if_pos q
          rw [List.map_cons, List.map_nil, this]
        · have hx : x ∈ addT s.2 (nmF w 2) := hx
          have : x ∈ s.2 ∨ x = nmF w 2 := by
            unfold addT at hx
            split at hx
            · exact .inl hx
            · rcases List.mem_append.mp hx with hx | hx
              · exact .inl hx
              · exact .inr (List.mem_singleton.mp hx)
          rcases this with hx | rfl
          · rcases hM x hx with h | ⟨u, hu, e⟩
            · exact .inl h
            · exact .inr ⟨u, List.mem_append_left _ hu, e⟩
          · exact .inr ⟨w, by simp, rfl⟩
      · have es : stM mine same s w = some (s.1 ++ [(w, w)], s.2) := if_neg q
        rw [es]
        refine ih (done ++ [w]) _ (by rw [hd]; simp) ?_ fun x hx => ?_
        · show s.1 ++ [(w, w)] = _
          rw [hs, List.map_append]
          have : gvn mine same w = w := if_neg q
          rw [List.map_cons, List.map_nil, this]
        · rcases hM x hx with h | ⟨u, hu, e⟩
          · exact .inl h
          · exact .inr ⟨u, List.mem_append_left _ hu, e⟩
  exact key theirs [] ([], metT (mine ++ theirs)) rfl rfl fun x hx => by
    rw [mem_metT, List.mem_append] at hx
    rcases hx with hx | hx
    · exact .inl (hm x hx)
    · exact .inl (ht x hx)
theorem rho_map (f : Str → Str) : ∀ {ws : List Str} {w : Str}, w ∈ ws → rho (ws.map fun w => (w, f w)) w = f w := fun {ws w} h => by
  have g := (rho_get (Q := ws.map fun w => (w, f w)) (w := w) (by rw [List.map_map]; exact List.mem_map.mpr ⟨w, h, rfl⟩)).2
  obtain ⟨u, _, e⟩ := List.mem_map.mp g
  injection e with e1 e2
  rw [← e2, e1]
/-! ### rows in a list -/
theorem notin_rows (a : List Row) (ha : ∀ s ∈ a, RO s) (r : Row) (hr : RO r) : notinS (.val (eRow r)) (.lst (a.map eRow)) = some (.val (.bool (!decide (r ∈ a)))) := by
  have g : ∀ r : Row, RO r → Gd (eRow r) 2 1000 := fun r h => by
    have h1 := Gd.tup (xs := r.2.map PyData.str) (Gd.map (f := PyData.str) (xs := r.2) fun w hw => (h.2.2 w hw).gd)
    have := Gd.tup (xs := [.str r.1, .tuple (r.2.map .str)]) (k := 1) (W := 300) (by
      intro x hx
      simp only [List.mem_cons, List.not_mem_nil, or_false] at hx
      rcases hx with rfl | rfl
      · exact h.1.gd.mono (by omega) (by omega)
      · exact h1.mono (by omega) (by rw [List.length_map]; have := h.2.1; omega))
    exact this.mono (Nat.le_refl _) (by simp)
  have s1 : SeqAt.shaped (eRow r) = true := (g r hr).shaped (by omega)
  have s2 : SeqAt.shaped (.list (a.map eRow)) = true := (Gd.list (Gd.map (f := eRow) (xs := a) fun s hs => g s (ha s hs))).shaped (by omega)
  have ev : (a.map eRow).any (fun y => PyData.eqv y (eRow r)) = decide (r ∈ a) := by
    rw [List.any_map]
    clear s2 ha
    induction a with
    | nil => rfl
    | cons s a ih =>
      rw [List.any_cons, ih]
      simp only [Function.comp, eqv_row]
      by_cases h : s = r
      · simp [h]
      · have : ¬ r = s := fun e => h e.symm
        simp [h, this]
  show (hasS (.val (eRow r)) (.lst (a.map eRow))).map (fun k => O.val (.bool (!k))) = _
  unfold hasS
  simp only [view_val, seq_lst, s1, s2, Bool.and_self, Bool.or_true, if_true, ev, Option.map_some]
def stR (rows : List Row) (r : Row) : List Row := if r ∈ rows then rows else rows ++ [r]
theorem alkB_one {w v : Str} {s : Row} (hs : ∃ a b, s = (a, [b])) : alkB (w, [v]) s = decide ((w, [v]) = s) := by
  obtain ⟨a, b, rfl⟩ := hs
  have e1 : ∀ x : Str, sortT [x] = [x] := fun x => by simp [sortT]
  unfold alkB
  simp only [e1]
  by_cases h : w = a <;> by_cases h2 : v = b <;> simp [h, h2]
theorem foldR_A : ∀ (rs rows : List Row), (∀ r ∈ rs, ∃ a b, r = (a, [b])) → (∀ s ∈ rows, ∃ a b, s = (a, [b])) → rs.foldl stR rows = rs.foldl stA rows
  | [], _, _, _ => rfl
  | r :: rs, rows, h, hr => by
    obtain ⟨a, b, er⟩ := h r List.mem_cons_self
    subst er
    have e : stR rows (a, [b]) = stA rows (a, [b]) := by
      unfold stR stA
      have : (rows.any fun s => alkB (a, [b]) s) = decide ((a, [b]) ∈ rows) := by
        rw [Bool.eq_iff_iff, List.any_eq_true, decide_eq_true_eq]
        constructor
        · rintro ⟨s, hs, q⟩
          rw [alkB_one (hr s hs), decide_eq_true_eq] at q
          rw [q]; exact hs
        · intro q
          exact ⟨_, q, by rw [alkB_one ⟨a, b, rfl⟩]; simp⟩
      rw [this]
      simp only [decide_eq_true_eq]
    rw [List.foldl_cons, List.foldl_cons, e]
    refine foldR_A rs _ (fun x hx => h x (List.mem_cons_of_mem _ hx)) fun s hs => ?_
    unfold stA at hs
    split at hs
    · exact hr s hs
    · rcases List.mem_append.mp hs with hs | hs
      · exact hr s hs
      · exact ⟨a, b, List.mem_singleton.mp hs⟩
theorem foldA_ge : ∀ (rs rows : List Row), rows.length ≤ (rs.foldl stA rows).length
  | [], _ => Nat.le_refl _
  | r :: rs, rows => by
    rw [List.foldl_cons]
    refine Nat.le_trans ?_ (foldA_ge rs (stA rows r))
    unfold stA
    split <;> simp
/-! ### a full book with more -/
theorem Gd.okT2 {d : D} {k W : Nat} (g : Gd d k W) (hk : 1 ≤ k) : Gd (Eng.okT2 d) (k + 1) (2 * (W + 1)) := (Gd.tup (xs := [d, .list []]) (fun x hx => by
  have g0 : Gd (.list []) 1 0 := (Gd.list (xs := []) (k := 0) (W := 0) (by simp)).mono (by omega) (by simp)
  simp only [List.mem_cons, List.not_mem_nil, or_false] at hx
  rcases hx with rfl | rfl
  · exact g
  · exact g0.mono (by omega) (by omega))).mono (by omega) (by simp)
theorem Gd.noT : Gd Eng.noT 2 8 := by
  have h1 : Gd (.list [PyData.bool true, .bool true, .bool false]) 1 3 := (Gd.list (k := 0) (W := 0) (fun x hx => by
    simp only [List.mem_cons, List.not_mem_nil, or_false] at hx
    rcases hx with rfl | rfl | rfl <;> exact Gd.bool _)).mono (by omega) (by simp)
  exact (Gd.tup (xs := [PyData.none, .list [PyData.bool true, .bool true, .bool false]]) (k := 1) (W := 3) (fun x hx => by
    simp only [List.mem_cons, List.not_mem_nil, or_false] at hx
    rcases hx with rfl | rfl
    · exact Gd.nul.mono (by omega) (by omega)
    · exact h1)).mono (by omega) (by simp)
theorem over65 {W : List Str} (h : W8 W) (A : List Row) (hA : ∀ r ∈ A, R1 W r) (hl : A.length = 60) (V : List Str) (hV : V = wds A) (n : Int) (hn : 0 ≤ n ∧ n < 5000) : f_l_over_full_2 [.val (eBk A), .lst (V.map .str), .val (.int n)] = .ret (.val (.bool true)) [.val (eBk A), .lst (V.map .str), .val (.int n)] := by
  have s0 : startE 6 [.val (eBk A), .lst (V.map .str), .val (.int n)] = [some (false, .val (eBk A)), some (true, .lst (V.map .str)), some (false, .val (.int n)), none, none, none] := rfl
  have v8 : V.length ≤ 8 := by rw [hV]; exact wds_W8 h hA
  have v1 : 0 < V.length := by
    obtain ⟨r, hr⟩ := List.exists_mem_of_length_pos (show 0 < A.length by omega)
    rw [hV]
    exact List.length_pos_of_mem (wds_mem.mpr ⟨r, hr, .inl rfl⟩)
  have v1i : (0 : Int) < V.length := by omega
  obtain ⟨k, ek⟩ : ∃ k : Nat, (k : Int) = 1 + n % V.length := ⟨(1 + n % V.length).toNat, by have := Int.emod_nonneg n (show (V.length : Int) ≠ 0 by omega); omega⟩
  have hk : 1 ≤ k := by have := Int.emod_nonneg n (show (V.length : Int) ≠ 0 by omega); omega
  have lV : lenS (.lst (V.map .str)) = some (.val (.int V.length)) := by rw [lenS_lst, List.length_map]
  have ct : slS none (some (k : Int)) (.lst (V.map .str)) = some (.lst ((V.take k).map .str)) := by rw [slS_lst, cutA_pre, List.map_take]
  have vW : ∀ v ∈ V, WW v := fun v hv => by rw [hV] at hv; exact h.ww (wds_W hA v hv)
  have c1 := lc_all (f := PyData.str) (c := none) (T := .nm 5) (t := tTrue) (g := oTup (oAs [oNm 5, oTup (oAs [])])) (own := [5]) (ρ := [some (false, .val (eBk A)), some (true, .lst (V.map .str)), some (false, .val (.int n)), none, none, none]) (fun w => eRow (w, [])) (V.take k) (by simp) (by
    intro w hw
    have er : PyData.tuple [.str w, .tuple []] = eRow (w, []) := rfl
    simp [lturn_ap, er])
  obtain ⟨C, eC⟩ : ∃ C, C = (V.take k).map fun w => ((w, []) : Row) := ⟨_, rfl⟩
  have eC2 : ((V.take k).map fun w => eRow (w, [])) = C.map eRow := by rw [eC, List.map_map]; rfl
  have lC : 1 ≤ C.length ∧ C.length ≤ 8 := by rw [eC, List.length_map, List.length_take]; omega
  rw [eC2] at c1
  simp [-List.map_map, -List.map_take] at c1
  have tu : tupleS (.lst (C.map eRow)) = some (.val (eBk C)) := rfl
  have ad : addS (.val (eBk A)) (.val (eBk C)) = some (.val (eBk (A ++ C))) := by rw [addS_bk2, if_pos (small3 (by omega))]
  have p0 : (sAsg 3 (o2 addS (oNm 0) (o1 tupleS (c_l_over_full_2_1)))) [some (false, .val (eBk A)), some (true, .lst (V.map .str)), some (false, .val (.int n)), none, none, none] = .nx [some (false, .val (eBk A)), some (true, .lst (V.map .str)), some (false, .val (.int n)), some (false, .val (eBk (A ++ C))), none, none] := by
    simp [-List.map_map, -List.map_take, -tupleS_ap, -addS_tup, -lenS_lst, -slS_lst, c_l_over_full_2_1, lV, v1, v1i, ← ek, ct, c1, tu, ad]
  have hC : ∀ r ∈ C, WW r.1 ∧ r.1 ∈ V ∧ r.2 = [] := fun r hr => by
    rw [eC] at hr
    obtain ⟨w, hw, rfl⟩ := List.mem_map.mp hr
    have := List.mem_of_mem_take hw
    exact ⟨vW _ this, this, rfl⟩
  obtain ⟨D0, eD⟩ : ∃ D0, D0 = A ++ C := ⟨_, rfl⟩
  have boD : Bo D0 := ⟨by rw [eD, List.length_append]; omega, fun r hr => by
    rw [eD] at hr
    rcases List.mem_append.mp hr with hr | hr
    · exact (h.bo hA (by omega)).row r hr
    · obtain ⟨h1, _, h3⟩ := hC r hr
      exact ⟨h1, by rw [h3]; simp, by rw [h3]; simp⟩⟩
  have wdD : ∀ w ∈ wds D0, w ∈ V := fun w hw => by
    obtain ⟨r, hr, q⟩ := wds_mem.mp hw
    rw [eD] at hr
    rcases List.mem_append.mp hr with hr | hr
    · rw [hV]; exact wds_mem.mpr ⟨r, hr, q⟩
    · obtain ⟨_, h2, h3⟩ := hC r hr
      rcases q with rfl | q
      · exact h2
      · rw [h3] at q; cases q
  have lwD : (wds D0).length ≤ 8 := Nat.le_trans (sub_len (wds_nodup D0) wdD) v8
  have lD : 61 ≤ D0.length ∧ D0.length ≤ 68 := by rw [eD, List.length_append]; omega
  have lo : ∀ O' : List Row, Bo O' → (wds O').length ≤ 8 → O'.length ≤ 100 → f_l_tried_2 [.val (.int 0), .val (eBk D0), .val (eBk O'), .lst (V.map .str)] = .ret (.val noT) [.val (.int 0), .val (eBk D0), .val (eBk O'), .lst (V.map .str)] := fun O' hO hw hO2 => by
    refine tried_laid_no D0 O' V ?_
    have lg := laid_gen D0 O' boD hO V (by omega) (by omega)
    rw [if_pos (by have := foldA_ge (O'.map (ren (nn (wds D0) (wds O') V))) D0; unfold lai; omega)] at lg
    exact lg
  obtain ⟨j, ej⟩ : ∃ j : Nat, (j : Int) = n % 7 := ⟨(n % 7).toNat, by omega⟩
  have cj : slS none (some (j : Int)) (.val (eBk A)) = some (.val (eBk (A.take j))) := by rw [slS_bk, cutA_pre]
  have eq0 : ∀ d e : D, d = noT → e = noT → neS (.val d) (.val e) = some (.val (.bool false)) := fun d e h1 h2 => by
    subst h1 h2
    have q := Gd.eq (a := .val noT) (b := .val noT) rfl rfl Gd.noT (by omega)
    unfold eqS at q
    unfold neS
    simp only [view_val] at q ⊢
    cases z : eqD? noT noT with
    | none => rw [z] at q; cases q
    | some b =>
      rw [z] at q
      simp only [Option.map_some, Option.some.injEq, O.val.injEq, PyData.bool.injEq] at q
      rw [q]
      rfl
  have nq := eq0 noT noT rfl rfl
  rw [← eD] at p0
  obtain ⟨_, e, rfl⟩ := forL_all (f := eBk) (T := .nm 4) (fg := [4]) (b := w_l_over_full_2_1)
    (fun _ ρ => ρ = [some (false, .val (eBk A)), some (true, .lst (V.map .str)), some (false, .val (.int n)), some (false, .val (eBk D0)), none, none]) [[], A.take j, D0] [some (false, .val (eBk A)), some (true, .lst (V.map .str)), some (false, .val (.int n)), some (false, .val (eBk D0)), none, none] rfl (by
    rintro done O' rest ρ hd rfl
    have hm : O' ∈ [[], A.take j, D0] := by rw [hd]; simp
    have hAj : ∀ r ∈ A.take j, R1 W r := fun r hr => hA r (List.mem_of_mem_take hr)
    have t := lo O' (by
      simp only [List.mem_cons, List.not_mem_nil, or_false] at hm
      rcases hm with rfl | rfl | rfl
      · exact Bo.nil
      · exact h.bo hAj (by rw [List.length_take]; omega)
      · exact boD) (by
      simp only [List.mem_cons, List.not_mem_nil, or_false] at hm
      rcases hm with rfl | rfl | rfl
      · rw [wds_nil]; simp
      · exact wds_W8 h hAj
      · exact lwD) (by
      simp only [List.mem_cons, List.not_mem_nil, or_false] at hm
      rcases hm with rfl | rfl | rfl
      · simp
      · rw [List.length_take]; omega
      · omega)
    have en : PyData.tuple [.none, .list [.bool true, .bool true, .bool false]] = noT := rfl
    refine ⟨_, ?_, rfl⟩
    simp [-List.map_map, turn_ap, w_l_over_full_2_1, t, en, nq])
  have b0 : PyData.tuple [] = eBk [] := rfl
  have e' : forL none (.nm 4) [4] w_l_over_full_2_1 [eBk [], eBk (A.take j), eBk D0] [some (false, .val (eBk A)), some (true, .lst (V.map .str)), some (false, .val (.int n)), some (false, .val (eBk D0)), none, none] = .nx [some (false, .val (eBk A)), some (true, .lst (V.map .str)), some (false, .val (.int n)), some (false, .val (eBk D0)), none, none] := e
  have p1 : (sFor (iSeq (oLst (oAs [oTup (oAs []), oSl (oNm 0) oNoPart (oPart (o2 modS (oNm 2) (oC (.int 7)))), oNm 3]))) (.nm 4) [4] w_l_over_full_2_1) [some (false, .val (eBk A)), some (true, .lst (V.map .str)), some (false, .val (.int n)), some (false, .val (eBk D0)), none, none] = .nx [some (false, .val (eBk A)), some (true, .lst (V.map .str)), some (false, .val (.int n)), some (false, .val (eBk D0)), none, none] := by
    simp [-List.map_map, -slS_tup, ← ej, cj, b0, e']
  have c2 : slS none (some (2 : Int)) (.val (eBk A)) = some (.val (eBk (A.take 2))) := by
    have := cutA_pre A 2
    rw [slS_bk]
    exact congrArg (fun x => some (O.val (eBk x))) this
  have h2 : ∀ r ∈ A.take 2, R1 W r := fun r hr => hA r (List.mem_of_mem_take hr)
  have bo2 : Bo (A.take 2) := h.bo h2 (by rw [List.length_take]; omega)
  have l2 := wds_W8 h h2
  have inV : ∀ w ∈ wds (A.take 2), w ∈ V := fun w hw => by
    obtain ⟨r, hr, q⟩ := wds_mem.mp hw
    rw [hV]
    exact wds_mem.mpr ⟨r, List.mem_of_mem_take hr, q⟩
  have n1 := new_names_l D0 (A.take 2) boD bo2 V (by omega)
  have n2 := new_names_l A (A.take 2) (h.bo hA (by omega)) bo2 V (by have := wds_W8 h hA; omega)
  rw [nn_same fun w hw _ => inV w hw] at n1 n2
  have t1 := tried_new _ _ _ _ n1
  have t2 := tried_new _ _ _ _ n2
  obtain ⟨Q, eQ⟩ : ∃ Q, Q = (wds (A.take 2)).map fun w => (w, w) := ⟨_, rfl⟩
  rw [← eQ] at t1 t2
  have gQ : Gd (.list (Q.map eP)) 2 1000 := by
    have : ∀ p ∈ Q, Gd (eP p) 1 24 := fun p hp => by
      rw [eQ] at hp
      obtain ⟨w, hw, rfl⟩ := List.mem_map.mp hp
      have := vW w (inV w hw)
      exact (Gd.tup (xs := [.str w, .str w]) (k := 0) (W := 11) (fun x hx => by
        simp only [List.mem_cons, List.not_mem_nil, or_false] at hx
        rcases hx with rfl | rfl <;> exact this.gd)).mono (by omega) (by simp)
    exact (Gd.list (Gd.map this)).mono (by omega) (by rw [List.length_map, eQ, List.length_map]; omega)
  have q := Gd.eq (a := .val (okT2 (.list (Q.map eP)))) (b := .val (okT2 (.list (Q.map eP)))) rfl rfl (Gd.okT2 gQ (by omega)) (by omega)
  have i0 : ixS (.val (okT2 (.list (Q.map eP)))) (.val (.int 0)) = some (.val (.list (Q.map eP))) := rfl
  have ot : PyData.tuple [.list (Q.map eP), .list []] = okT2 (.list (Q.map eP)) := rfl
  rw [f_l_over_full_2, runF_fin, s0, b_l_over_full_2, sq_nx p0, sq_nx p1]
  simp [-List.map_map, -slS_tup, -ixS_tup, c2, t1, t2, i0, ot, q]
end Eng
/-! Law k65: the walk. -/
namespace Eng
open PySem PySem.Spec L2 SX
open PyProof.Rows hiding St
theorem picked_ex {W : List Str} (hW : W.length = 8) (b s : Int) (hb : 0 ≤ b ∧ b < 5000) (hs : 0 ≤ s ∧ s ≤ 100) (M : Nat) (hM : M ≤ 60) : ∃ A, (∀ r ∈ A, R1 W r) ∧ A.length = M ∧ f_l_picked [.lst (W.map .str), .val (.int b), .val (.int s), .val (.int (M : Int))] = .ret (.val (eBk A)) [.lst (W.map .str), .val (.int b), .val (.int s), .val (.int (M : Int))] := by
  have s0 : startE 7 [.lst (W.map .str), .val (.int b), .val (.int s), .val (.int (M : Int))] = [some (true, .lst (W.map .str)), some (false, .val (.int b)), some (false, .val (.int s)), some (false, .val (.int (M : Int))), none, none, none] := rfl
  have p0 : (sAsg 4 (oLst (oAs []))) [some (true, .lst (W.map .str)), some (false, .val (.int b)), some (false, .val (.int s)), some (false, .val (.int (M : Int))), none, none, none] =
      .nx [some (true, .lst (W.map .str)), some (false, .val (.int b)), some (false, .val (.int s)), some (false, .val (.int (M : Int))), some (false, .lst (([] : List Row).map eRow)), none, none] := by
    simp [-List.map_map]
  obtain ⟨ρ', e, A, hA, lA, rfl⟩ := forL_rng (lo := 0) (T := .nm 5) (fg := [5, 6]) (b := w_l_picked_1) (fun k ρ => ∃ A : List Row, (∀ r ∈ A, R1 W r) ∧ A.length = k ∧ ρ = [some (true, .lst (W.map .str)), some (false, .val (.int b)), some (false, .val (.int s)), some (false, .val (.int (M : Int))), some (false, .lst (A.map eRow)), none, none]) M [some (true, .lst (W.map .str)), some (false, .val (.int b)), some (false, .val (.int s)), some (false, .val (.int (M : Int))), some (false, .lst (([] : List Row).map eRow)), none, none] ⟨[], by simp, rfl, rfl⟩ (by
    rintro k ρ hk ⟨A, hA, lA, rfl⟩
    obtain ⟨at_, hat⟩ : ∃ a, a = (b + s * (0 + (k : Nat))) % 64 := ⟨_, rfl⟩
    have h0 : 0 ≤ at_ ∧ at_ < 64 := by omega
    have hm : (-18446744073709551616 : Int) < s ∧ s < 18446744073709551616 := by omega
    have m1 : mulS (.val (.int s)) (.val (.int (0 + (k : Nat)))) = some (.val (.int (s * (0 + (k : Nat))))) := by rw [mulS_int, if_pos (.inl ⟨by omega, by omega⟩)]
    have d1 : modS (.val (.int (b + s * (0 + (k : Nat))))) (.val (.int 64)) = some (.val (.int at_)) := by rw [modS_int, if_pos (by omega), hat]
    have t0 : (Tgt.nm 5).put (.int (0 + (k : Nat))) [some (true, .lst (W.map .str)), some (false, .val (.int b)), some (false, .val (.int s)), some (false, .val (.int (M : Int))), some (false, .lst (A.map eRow)), none, none] = some [some (true, .lst (W.map .str)), some (false, .val (.int b)), some (false, .val (.int s)), some (false, .val (.int (M : Int))), some (false, .lst (A.map eRow)), some (false, .val (.int (0 + (k : Nat)))), none] := by simp
    have a1 : (sAsg 6 (o2 modS (o2 addS (oNm 1) (o2 mulS (oNm 2) (oNm 5))) (oC (.int 64)))) [some (true, .lst (W.map .str)), some (false, .val (.int b)), some (false, .val (.int s)), some (false, .val (.int (M : Int))), some (false, .lst (A.map eRow)), some (false, .val (.int (0 + (k : Nat)))), none] = .nx [some (true, .lst (W.map .str)), some (false, .val (.int b)), some (false, .val (.int s)), some (false, .val (.int (M : Int))), some (false, .lst (A.map eRow)), some (false, .val (.int (0 + (k : Nat)))), some (false, .val (.int at_))] := by simp [-List.map_map, -mulS_int, -modS_int, -Int.zero_add, m1, d1]
    obtain ⟨w, ew, hw⟩ := at_strs (ns := W) (i := at_ % 8) (by omega) (by omega)
    obtain ⟨v, ev, hv⟩ := at_strs (ns := W) (i := at_ / 8) (by omega) (by omega)
    have er : PyData.tuple [.str w, .tuple [.str v]] = eRow (w, [v]) := rfl
    have z : A.length < sizeLine := small (m := 100) (by omega)
    refine ⟨[some (true, .lst (W.map .str)), some (false, .val (.int b)), some (false, .val (.int s)), some (false, .val (.int (M : Int))), some (false, .lst (A.map eRow ++ [eRow (w, [v])])), none, none], ?_, A ++ [(w, [v])], ?_, ?_, ?_⟩
    · rw [turn_ap, t0]
      simp only
      rw [w_l_picked_1, sq_nx a1]
      simp [-List.map_map, ew, ev, er, z]
    · intro r hr
      rcases List.mem_append.mp hr with hr | hr
      · exact hA r hr
      · exact ⟨w, hw, v, hv, List.mem_singleton.mp hr⟩
    · simp; omega
    · simp)
  have hM1 : (M : Int) ≤ 1000000 := by omega
  have hM2 : (-4611686018427387904 : Int) ≤ (M : Int) := by omega
  have tu : tupleS (.lst (A.map eRow)) = some (.val (eBk A)) := rfl
  simp only [List.map_nil] at e
  refine ⟨A, hA, lA, ?_⟩
  rw [f_l_picked, runF_fin, s0, b_l_picked, sq_nx p0]
  simp [-List.map_map, -tupleS_ap, hM1, hM2, e, tu]
theorem l_full_eq (ns : List Int) : f_l_full_2 [.scr ns] = .ret (.val (.bool true)) [.scr ns] := by
  obtain ⟨c, ec⟩ := l_cell_ex ns 0 (by omega)
  obtain ⟨ds, ed, hds⟩ := l_drawn_ex c 20 (by omega)
  simp at ed
  obtain ⟨a0, b0, d0⟩ := hds.at 0 (by omega) (by omega)
  obtain ⟨a1, b1, d1⟩ := hds.at 1 (by omega) (by omega)
  obtain ⟨a2, b2, d2⟩ := hds.at 2 (by omega) (by omega)
  obtain ⟨a3, b3, d3⟩ := hds.at 3 (by omega) (by omega)
  obtain ⟨a4, b4, d4⟩ := hds.at 4 (by omega) (by omega)
  obtain ⟨a5, b5, d5⟩ := hds.at 5 (by omega) (by omega)
  obtain ⟨a6, b6, d6⟩ := hds.at 6 (by omega) (by omega)
  obtain ⟨a7, b7, d7⟩ := hds.at 7 (by omega) (by omega)
  obtain ⟨a8, b8, d8⟩ := hds.at 8 (by omega) (by omega)
  obtain ⟨a17, b17, d17⟩ := hds.at 17 (by omega) (by omega)
  obtain ⟨a18, b18, d18⟩ := hds.at 18 (by omega) (by omega)
  have s0 : startE 17 [.scr ns] = [some (false, .scr ns), none, none, none, none, none, none, none, none, none, none, none, none, none, none, none, none] := rfl
  have p0 : (sAsg 1 (oCall f_l_drawn (oAs [oCall f_l_cell (oAs [oNm 0, oC (.int 0)]), oC (.int 20)]))) [some (false, .scr ns), none, none, none, none, none, none, none, none, none, none, none, none, none, none, none, none] =
      .nx [some (false, .scr ns), some (false, .lst (ds.map .int)), none, none, none, none, none, none, none, none, none, none, none, none, none, none, none] := by
    simp [-List.map_map, ec, ed]
  have p1 : (sAsg 2 (oC (.str "abcdefghijklmnopqrstuvwxyz"))) [some (false, .scr ns), some (false, .lst (ds.map .int)), none, none, none, none, none, none, none, none, none, none, none, none, none, none, none] =
      .nx [some (false, .scr ns), some (false, .lst (ds.map .int)), some (false, .val (.str (Str.ofString "abcdefghijklmnopqrstuvwxyz"))), none, none, none, none, none, none, none, none, none, none, none, none, none, none] := by
    simp [-List.map_map]
  have c1 : lcW none (.nm 16) tTrue (o2 ixS (oNm 2) (o2 addS (o2 modS (o2 ixS (oNm 1) (oC (.int 0))) (oC (.int 19))) (oNm 16))) [16] (rng 0 8) [some (false, .scr ns), some (false, .lst (ds.map .int)), some (false, .val (.str (Str.ofString "abcdefghijklmnopqrstuvwxyz"))), none, none, none, none, none, none, none, none, none, none, none, none, none, none] = .ok (((List.range 8).map fun k => S [97 + (dat ds 0 % 19 + (k : Nat)).toNat]).map .str) [some (false, .scr ns), some (false, .lst (ds.map .int)), some (false, .val (.str (Str.ofString "abcdefghijklmnopqrstuvwxyz"))), none, none, none, none, none, none, none, none, none, none, none, none, none, none] := by
    rw [lc_rng (fun k => .str (S [97 + (dat ds 0 % 19 + (k : Nat)).toNat])) 8 (by simp) (fun k hk => by
      have b := abc_at (i := dat ds 0 % 19 + (k : Nat)) (by omega) (by omega)
      have l : (Str.ofString "abcdefghijklmnopqrstuvwxyz").length ≤ sizeLine := by rw [abc_len]; decide
      simp [lturn_ap, a0, b, l, S])]
    simp
  obtain ⟨W, eWW⟩ : ∃ W, W = (List.range 8).map fun k : Nat => S [97 + (dat ds 0 % 19 + (k : Nat)).toNat] := ⟨_, rfl⟩
  have h8 : W8 W := ⟨by
    rw [eWW]
    refine List.pairwise_map.mpr (List.nodup_range.imp fun hab q => hab ?_)
    have := S_inj' q
    simp only [List.cons.injEq, and_true] at this
    omega, by rw [eWW]; simp, fun w hw => by
    rw [eWW] at hw
    obtain ⟨k, hk, rfl⟩ := List.mem_map.mp hw
    have := List.mem_range.mp hk
    exact ⟨_, by omega, by omega, rfl⟩⟩
  rw [← eWW] at c1
  have p2 : (sAsg 3 (c_l_full_2_1)) [some (false, .scr ns), some (false, .lst (ds.map .int)), some (false, .val (.str (Str.ofString "abcdefghijklmnopqrstuvwxyz"))), none, none, none, none, none, none, none, none, none, none, none, none, none, none] =
      .nx [some (false, .scr ns), some (false, .lst (ds.map .int)), some (false, .val (.str (Str.ofString "abcdefghijklmnopqrstuvwxyz"))), some (false, .lst (W.map .str)), none, none, none, none, none, none, none, none, none, none, none, none, none] := by
    simp [-List.map_map, c_l_full_2_1, c1]
  clear c1
  obtain ⟨M, hM, eM⟩ : ∃ M : Nat, M ≤ 60 ∧ atI [PyData.int 60, .int 59, .int 58, .int 30, .int (dat ds 1 % 61)] (dat ds 2 % 5) = some (.int (M : Int)) := by
    have h : dat ds 2 % 5 = 0 ∨ dat ds 2 % 5 = 1 ∨ dat ds 2 % 5 = 2 ∨ dat ds 2 % 5 = 3 ∨ dat ds 2 % 5 = 4 := by omega
    rcases h with h | h | h | h | h
    · exact ⟨60, by omega, by rw [h]; rfl⟩
    · exact ⟨59, by omega, by rw [h]; rfl⟩
    · exact ⟨58, by omega, by rw [h]; rfl⟩
    · exact ⟨30, by omega, by rw [h]; rfl⟩
    · refine ⟨(dat ds 1 % 61).toNat, by omega, ?_⟩
      have e : (((dat ds 1 % 61).toNat : Nat) : Int) = dat ds 1 % 61 := by omega
      rw [h, e]
      rfl
  have p3 : (sAsg 4 (o2 ixS (oLst (oAs [oC (.int 60), oC (.int 59), oC (.int 58), oC (.int 30), o2 modS (o2 ixS (oNm 1) (oC (.int 1))) (oC (.int 61))])) (o2 modS (o2 ixS (oNm 1) (oC (.int 2))) (oC (.int 5))))) [some (false, .scr ns), some (false, .lst (ds.map .int)), some (false, .val (.str (Str.ofString "abcdefghijklmnopqrstuvwxyz"))), some (false, .lst (W.map .str)), none, none, none, none, none, none, none, none, none, none, none, none, none] =
      .nx [some (false, .scr ns), some (false, .lst (ds.map .int)), some (false, .val (.str (Str.ofString "abcdefghijklmnopqrstuvwxyz"))), some (false, .lst (W.map .str)), some (false, .val (.int (M : Int))), none, none, none, none, none, none, none, none, none, none, none, none] := by
    simp [-List.map_map, a1, a2, eM]
  obtain ⟨N, x, hN, eN, mN⟩ : ∃ (N : Nat) (x : Int), N ≤ 60 ∧ atI [PyData.int (60 - (M : Int)), .int (61 - (M : Int)), .int 1, .int (dat ds 3 % 61)] (dat ds 4 % 4) = some (.int x) ∧ minS (.val (.int 60)) (.val (.int x)) = some (.val (.int (N : Int))) := by
    have h : dat ds 4 % 4 = 0 ∨ dat ds 4 % 4 = 1 ∨ dat ds 4 % 4 = 2 ∨ dat ds 4 % 4 = 3 := by omega
    have key : ∀ x : Int, 0 ≤ x → ∃ N : Nat, N ≤ 60 ∧ minS (.val (.int 60)) (.val (.int x)) = some (.val (.int (N : Int))) := fun x hx => by
      rw [minS_int]
      by_cases q : x < 60
      · refine ⟨x.toNat, by omega, ?_⟩
        rw [if_pos q]
        have : ((x.toNat : Nat) : Int) = x := by omega
        rw [this]
      · exact ⟨60, by omega, by rw [if_neg q]; rfl⟩
    rcases h with h | h | h | h
    · obtain ⟨N, h1, h2⟩ := key (60 - (M : Int)) (by omega)
      exact ⟨N, _, h1, by rw [h]; rfl, h2⟩
    · obtain ⟨N, h1, h2⟩ := key (61 - (M : Int)) (by omega)
      exact ⟨N, _, h1, by rw [h]; rfl, h2⟩
    · obtain ⟨N, h1, h2⟩ := key 1 (by omega)
      exact ⟨N, _, h1, by rw [h]; rfl, h2⟩
    · obtain ⟨N, h1, h2⟩ := key (dat ds 3 % 61) (by omega)
      exact ⟨N, _, h1, by rw [h]; rfl, h2⟩
  have p4 : (sAsg 5 (o2 minS (oC (.int 60)) (o2 ixS (oLst (oAs [o2 subS (oC (.int 60)) (oNm 4), o2 subS (oC (.int 61)) (oNm 4), oC (.int 1), o2 modS (o2 ixS (oNm 1) (oC (.int 3))) (oC (.int 61))])) (o2 modS (o2 ixS (oNm 1) (oC (.int 4))) (oC (.int 4)))))) [some (false, .scr ns), some (false, .lst (ds.map .int)), some (false, .val (.str (Str.ofString "abcdefghijklmnopqrstuvwxyz"))), some (false, .lst (W.map .str)), some (false, .val (.int (M : Int))), none, none, none, none, none, none, none, none, none, none, none, none] =
      .nx [some (false, .scr ns), some (false, .lst (ds.map .int)), some (false, .val (.str (Str.ofString "abcdefghijklmnopqrstuvwxyz"))), some (false, .lst (W.map .str)), some (false, .val (.int (M : Int))), some (false, .val (.int (N : Int))), none, none, none, none, none, none, none, none, none, none, none] := by
    simp [-List.map_map, -minS_int, a3, a4, eN, mN]
  obtain ⟨A, hA, lA, pA⟩ := picked_ex (W := W) h8.len (dat ds 5) (1 + 2 * (dat ds 6 % 32)) (by omega) (by omega) M hM
  obtain ⟨B, hB, lB, pB⟩ := picked_ex (W := W) h8.len (dat ds 7) (1 + 2 * (dat ds 8 % 32)) (by omega) (by omega) N hN
  have p5 : (sAsg 6 (oCall f_l_picked (oAs [oNm 3, o2 ixS (oNm 1) (oC (.int 5)), o2 addS (oC (.int 1)) (o2 mulS (oC (.int 2)) (o2 modS (o2 ixS (oNm 1) (oC (.int 6))) (oC (.int 32)))), oNm 4]))) [some (false, .scr ns), some (false, .lst (ds.map .int)), some (false, .val (.str (Str.ofString "abcdefghijklmnopqrstuvwxyz"))), some (false, .lst (W.map .str)), some (false, .val (.int (M : Int))), some (false, .val (.int (N : Int))), none, none, none, none, none, none, none, none, none, none, none] =
      .nx [some (false, .scr ns), some (false, .lst (ds.map .int)), some (false, .val (.str (Str.ofString "abcdefghijklmnopqrstuvwxyz"))), some (false, .lst (W.map .str)), some (false, .val (.int (M : Int))), some (false, .val (.int (N : Int))), some (false, .val (eBk A)), none, none, none, none, none, none, none, none, none, none] := by
    simp [-List.map_map, a5, a6, pA]
  have p6 : (sAsg 7 (oCall f_l_picked (oAs [oNm 3, o2 ixS (oNm 1) (oC (.int 7)), o2 addS (oC (.int 1)) (o2 mulS (oC (.int 2)) (o2 modS (o2 ixS (oNm 1) (oC (.int 8))) (oC (.int 32)))), oNm 5]))) [some (false, .scr ns), some (false, .lst (ds.map .int)), some (false, .val (.str (Str.ofString "abcdefghijklmnopqrstuvwxyz"))), some (false, .lst (W.map .str)), some (false, .val (.int (M : Int))), some (false, .val (.int (N : Int))), some (false, .val (eBk A)), none, none, none, none, none, none, none, none, none, none] =
      .nx [some (false, .scr ns), some (false, .lst (ds.map .int)), some (false, .val (.str (Str.ofString "abcdefghijklmnopqrstuvwxyz"))), some (false, .lst (W.map .str)), some (false, .val (.int (M : Int))), some (false, .val (.int (N : Int))), some (false, .val (eBk A)), some (false, .val (eBk B)), none, none, none, none, none, none, none, none, none] := by
    simp [-List.map_map, a7, a8, pB]
  have c2 := lc_if (f := fun k : Nat => PyData.int (0 + (k : Nat))) (c := none) (T := .nm 16) (t := (tOrC (tV (o2 eqS (o2 modS (o2 ixS (oNm 1) (o2 addS (oC (.int 9)) (oNm 16))) (oC (.int 2))) (oC (.int 0)))) (tV (o2 eqS (o2 modS (o2 ixS (oNm 1) (oC (.int 17))) (oC (.int 3))) (oC (.int 1)))))) (g := (o2 ixS (oNm 3) (oNm 16))) (own := [16]) (ρ := [some (false, .scr ns), some (false, .lst (ds.map .int)), some (false, .val (.str (Str.ofString "abcdefghijklmnopqrstuvwxyz"))), some (false, .lst (W.map .str)), some (false, .val (.int (M : Int))), some (false, .val (.int (N : Int))), some (false, .val (eBk A)), some (false, .val (eBk B)), none, none, none, none, none, none, none, none, none]) (fun k => (dat ds (9 + (k : Nat)) % 2 == 0) || (dat ds 17 % 3 == 1)) (fun k => .str (W[k]?.getD (Str.ofString ""))) (List.range 8) (by simp) (by
    intro k hk
    have hk := List.mem_range.mp hk
    obtain ⟨a1', _, _⟩ := hds.at (9 + (k : Nat)) (by omega) (by omega)
    have l8 := h8.len
    have i1 : atI (W.map PyData.str) (k : Int) = some (.str (W[k]?.getD (Str.ofString ""))) := by
      rw [atI_map, atI_nat' _ _ (by omega) (by omega)]
      have : ((k : Int)).toNat = k := by omega
      rw [this, List.getElem?_eq_getElem (by omega)]
      rfl
    generalize W.map PyData.str = WS at *
    cases q1 : (dat ds (9 + (k : Nat)) % 2 == 0)
    · cases q2 : (dat ds 17 % 3 == 1)
      · simp [-List.map_map, -beq_iff_eq, -Int.reduceBEq, lturn_ap, a1', a17, q1, q2]
      · simp [-List.map_map, -beq_iff_eq, -Int.reduceBEq, lturn_ap, a1', a17, q1, q2, i1]
    · simp [-List.map_map, -beq_iff_eq, -Int.reduceBEq, lturn_ap, a1', a17, q1, i1])
  have e2 : (List.range 8).map (fun k : Nat => PyData.int (0 + (k : Nat))) = rng 0 8 := rfl
  rw [e2] at c2
  obtain ⟨sm0, esm0⟩ : ∃ sm0, sm0 = ((List.range 8).filter fun k => (dat ds (9 + (k : Nat)) % 2 == 0) || (dat ds 17 % 3 == 1)).map fun k => W[k]?.getD (Str.ofString "") := ⟨_, rfl⟩
  have e3 : (((List.range 8).filter fun k => (dat ds (9 + (k : Nat)) % 2 == 0) || (dat ds 17 % 3 == 1)).map fun k => PyData.str (W[k]?.getD (Str.ofString ""))) = sm0.map .str := by rw [esm0, List.map_map]; rfl
  rw [e3] at c2
  simp [-List.map_map] at c2
  have p7 : (sAsg 8 (c_l_full_2_2)) [some (false, .scr ns), some (false, .lst (ds.map .int)), some (false, .val (.str (Str.ofString "abcdefghijklmnopqrstuvwxyz"))), some (false, .lst (W.map .str)), some (false, .val (.int (M : Int))), some (false, .val (.int (N : Int))), some (false, .val (eBk A)), some (false, .val (eBk B)), none, none, none, none, none, none, none, none, none] =
      .nx [some (false, .scr ns), some (false, .lst (ds.map .int)), some (false, .val (.str (Str.ofString "abcdefghijklmnopqrstuvwxyz"))), some (false, .lst (W.map .str)), some (false, .val (.int (M : Int))), some (false, .val (.int (N : Int))), some (false, .val (eBk A)), some (false, .val (eBk B)), some (false, .lst (sm0.map .str)), none, none, none, none, none, none, none, none] := by
    simp [-List.map_map, c_l_full_2_2, c2]
  clear c2 e3 e2 esm0
  obtain ⟨sm, p8⟩ : ∃ sm : List Str, (sIf (tV (o2 eqS (o2 modS (o2 ixS (oNm 1) (oC (.int 17))) (oC (.int 3))) (oC (.int 2)))) (sAsg 8 (oLst (oAs []))) sNil) [some (false, .scr ns), some (false, .lst (ds.map .int)), some (false, .val (.str (Str.ofString "abcdefghijklmnopqrstuvwxyz"))), some (false, .lst (W.map .str)), some (false, .val (.int (M : Int))), some (false, .val (.int (N : Int))), some (false, .val (eBk A)), some (false, .val (eBk B)), some (false, .lst (sm0.map .str)), none, none, none, none, none, none, none, none] = .nx [some (false, .scr ns), some (false, .lst (ds.map .int)), some (false, .val (.str (Str.ofString "abcdefghijklmnopqrstuvwxyz"))), some (false, .lst (W.map .str)), some (false, .val (.int (M : Int))), some (false, .val (.int (N : Int))), some (false, .val (eBk A)), some (false, .val (eBk B)), some (false, .lst (sm.map .str)), none, none, none, none, none, none, none, none] := by
    by_cases q : dat ds 17 % 3 = 2
    · exact ⟨[], by simp [-List.map_map, a17, q]⟩
    · exact ⟨sm0, by simp [-List.map_map, a17, q]⟩
  have c3 := lc_all (f := eRow) (c := none) (T := .nm 15) (t := tTrue) (g := o2 ixS (oNm 15) (oC (.int 0))) (own := [15]) (ρ := [some (false, .scr ns), some (false, .lst (ds.map .int)), some (false, .val (.str (Str.ofString "abcdefghijklmnopqrstuvwxyz"))), some (false, .lst (W.map .str)), some (false, .val (.int (M : Int))), some (false, .val (.int (N : Int))), some (false, .val (eBk A)), some (false, .val (eBk B)), some (false, .lst (sm.map .str)), none, none, none, none, none, none, none, none]) (fun r => .str r.1) A (by simp) (by
    intro r hr
    have i2 : ixS (.val (eRow r)) (.val (.int 0)) = some (.val (.str r.1)) := rfl
    simp [-List.map_map, lturn_ap, i2])
  have c4 := lc_all (f := eRow) (c := none) (T := .nm 15) (t := tTrue) (g := o2 ixS (o2 ixS (oNm 15) (oC (.int 1))) (oC (.int 0))) (own := [15]) (ρ := [some (false, .scr ns), some (false, .lst (ds.map .int)), some (false, .val (.str (Str.ofString "abcdefghijklmnopqrstuvwxyz"))), some (false, .lst (W.map .str)), some (false, .val (.int (M : Int))), some (false, .val (.int (N : Int))), some (false, .val (eBk A)), some (false, .val (eBk B)), some (false, .lst (sm.map .str)), none, none, none, none, none, none, none, none]) (fun r => .str (r.2.head?.getD (Str.ofString ""))) A (by simp) (by
    intro r hr
    obtain ⟨w, hw, v, hv, rfl⟩ := hA r hr
    have i2 : ixS (.val (eRow (w, [v]))) (.val (.int 1)) = some (.val (eW [v])) := rfl
    have i3 : ixS (.val (eW [v])) (.val (.int 0)) = some (.val (.str v)) := rfl
    simp [-List.map_map, lturn_ap, i2, i3])
  obtain ⟨mn, emn⟩ : ∃ mn, mn = A.map (·.1) ++ A.map fun r => r.2.head?.getD (Str.ofString "") := ⟨_, rfl⟩
  have f3 : A.map (fun r => PyData.str r.1) = (A.map (·.1)).map .str := by rw [List.map_map]; rfl
  have f4 : A.map (fun r => PyData.str (r.2.head?.getD (Str.ofString ""))) = (A.map fun r => r.2.head?.getD (Str.ofString "")).map .str := by rw [List.map_map]; rfl
  rw [f3] at c3
  rw [f4] at c4
  have ad : addS (.lst ((A.map (·.1)).map .str)) (.lst ((A.map fun r => r.2.head?.getD (Str.ofString "")).map .str)) = some (.lst (mn.map .str)) := by
    rw [addS_ll, if_pos (small3 (by simp; omega)), emn, List.map_append]
  have itA : itemsD (eBk A) = some (A.map eRow) := rfl
  have mnW : ∀ w, w ∈ mn ↔ w ∈ wds A := fun w => by
    rw [emn, List.mem_append, wds_mem]
    constructor
    · rintro (h | h)
      · obtain ⟨r, hr, rfl⟩ := List.mem_map.mp h
        exact ⟨r, hr, .inl rfl⟩
      · obtain ⟨r, hr, rfl⟩ := List.mem_map.mp h
        obtain ⟨u, hu, v, hv, rfl⟩ := hA r hr
        exact ⟨_, hr, .inr (by simp)⟩
    · rintro ⟨r, hr, h⟩
      rcases h with rfl | h
      · exact .inl (List.mem_map.mpr ⟨r, hr, rfl⟩)
      · refine .inr (List.mem_map.mpr ⟨r, hr, ?_⟩)
        obtain ⟨u, hu, v, hv, rfl⟩ := hA r hr
        exact (List.mem_singleton.mp h).symm
  have mnL : mn.length ≤ 120 := by rw [emn, List.length_append, List.length_map, List.length_map]; omega
  simp [-List.map_map] at c3 c4
  have p9 : (sAsg 9 (o2 addS (c_l_full_2_3) (c_l_full_2_4))) [some (false, .scr ns), some (false, .lst (ds.map .int)), some (false, .val (.str (Str.ofString "abcdefghijklmnopqrstuvwxyz"))), some (false, .lst (W.map .str)), some (false, .val (.int (M : Int))), some (false, .val (.int (N : Int))), some (false, .val (eBk A)), some (false, .val (eBk B)), some (false, .lst (sm.map .str)), none, none, none, none, none, none, none, none] =
      .nx [some (false, .scr ns), some (false, .lst (ds.map .int)), some (false, .val (.str (Str.ofString "abcdefghijklmnopqrstuvwxyz"))), some (false, .lst (W.map .str)), some (false, .val (.int (M : Int))), some (false, .val (.int (N : Int))), some (false, .val (eBk A)), some (false, .val (eBk B)), some (false, .lst (sm.map .str)), some (false, .lst (mn.map .str)), none, none, none, none, none, none, none] := by
    simp [-List.map_map, -addS_ll, c_l_full_2_3, c_l_full_2_4, itA, c3, c4, ad]
  clear c3 c4 ad f3 f4
  have p10 : (sAsg 10 (oDic0)) [some (false, .scr ns), some (false, .lst (ds.map .int)), some (false, .val (.str (Str.ofString "abcdefghijklmnopqrstuvwxyz"))), some (false, .lst (W.map .str)), some (false, .val (.int (M : Int))), some (false, .val (.int (N : Int))), some (false, .val (eBk A)), some (false, .val (eBk B)), some (false, .lst (sm.map .str)), some (false, .lst (mn.map .str)), none, none, none, none, none, none, none] =
      .nx [some (false, .scr ns), some (false, .lst (ds.map .int)), some (false, .val (.str (Str.ofString "abcdefghijklmnopqrstuvwxyz"))), some (false, .lst (W.map .str)), some (false, .val (.int (M : Int))), some (false, .val (.int (N : Int))), some (false, .val (eBk A)), some (false, .val (eBk B)), some (false, .lst (sm.map .str)), some (false, .lst (mn.map .str)), some (false, .dic (sd PyData.str [])), none, none, none, none, none, none] := by
    simp [-List.map_map, show sd PyData.str ([] : List Pr) = [] from rfl]
  obtain ⟨_, e1, rfl⟩ := forLc_all (f := PyData.str) (T := .nm 11) (fg := [11]) (b := w_l_full_2_1) (some (3, W.map .str))
    (fun done ρ => ρ = [some (false, .scr ns), some (false, .lst (ds.map .int)), some (false, .val (.str (Str.ofString "abcdefghijklmnopqrstuvwxyz"))), some (true, .lst (W.map .str)), some (false, .val (.int (M : Int))), some (false, .val (.int (N : Int))), some (false, .val (eBk A)), some (false, .val (eBk B)), some (false, .lst (sm.map .str)), some (false, .lst (mn.map .str)), some (false, .dic (sd PyData.str (done.map fun w => (w, gvn (wds A) sm w)))), none, none, none, none, none, none]) W [some (false, .scr ns), some (false, .lst (ds.map .int)), some (false, .val (.str (Str.ofString "abcdefghijklmnopqrstuvwxyz"))), some (true, .lst (W.map .str)), some (false, .val (.int (M : Int))), some (false, .val (.int (N : Int))), some (false, .val (eBk A)), some (false, .val (eBk B)), some (false, .lst (sm.map .str)), some (false, .lst (mn.map .str)), some (false, .dic (sd PyData.str [])), none, none, none, none, none, none] (by rintro done ρ rfl; rfl) rfl (by
    rintro done w rest ρ hd rfl
    refine ⟨[some (false, .scr ns), some (false, .lst (ds.map .int)), some (false, .val (.str (Str.ofString "abcdefghijklmnopqrstuvwxyz"))), some (true, .lst (W.map .str)), some (false, .val (.int (M : Int))), some (false, .val (.int (N : Int))), some (false, .val (eBk A)), some (false, .val (eBk B)), some (false, .lst (sm.map .str)), some (false, .lst (mn.map .str)), some (false, .dic (sd PyData.str ((done ++ [w]).map fun w => (w, gvn (wds A) sm w)))), none, none, none, none, none, none], ?_, rfl⟩
    have hwW : w ∈ W := by rw [hd]; simp
    have hnd : w ∉ done := fun q => by
      have := h8.nd
      rw [hd] at this
      exact (List.nodup_append.mp this).2.2 w q w List.mem_cons_self rfl
    have hdl : done.length ≤ 8 := by rw [← h8.len, hd]; simp
    obtain ⟨Q, eQ⟩ : ∃ Q : List Pr, Q = done.map fun w => (w, gvn (wds A) sm w) := ⟨_, rfl⟩
    have hQ : w ∉ Q.map (·.1) := fun q => by
      rw [eQ, List.map_map] at q
      obtain ⟨u, hu, e⟩ := List.mem_map.mp q
      exact hnd (e ▸ hu)
    have lQ : Q.length ≤ 8 := by rw [eQ, List.length_map]; omega
    have sz : Q.length < sizeLine := small (m := 100) (by omega)
    have sz2 : (Q ++ [(w, w)]).length < sizeLine := small (m := 100) (by rw [List.length_append]; simp; omega)
    have st1 : setS (.dic (sd PyData.str Q)) (.str w) (.str w) = some (.dic (sd PyData.str (Q ++ [(w, w)]))) := by rw [setS_sdP Q w w sz, dput_sdP_new Q w w hQ]
    have st2 : setS (.dic (sd PyData.str (Q ++ [(w, w)]))) (.str w) (.str (nmF w 2)) = some (.dic (sd PyData.str (Q ++ [(w, nmF w 2)]))) := by rw [setS_sdP _ w _ sz2, dput_sdP_old Q w w _ hQ]
    have sl := h8.slash2 hwW
    have eQ2 : (done ++ [w]).map (fun w => (w, gvn (wds A) sm w)) = Q ++ [(w, gvn (wds A) sm w)] := by rw [List.map_append, ← eQ]; rfl
    rw [eQ2, ← eQ]
    have i1 : inS (.val (.str w)) (.lst (mn.map .str)) = some (.val (.bool (decide (w ∈ wds A)))) := by rw [inS_lst, decide_eq_decide.mpr (mnW w)]
    by_cases q1 : w ∈ wds A
    · rw [decide_eq_true q1] at i1
      by_cases q2 : w ∈ sm
      · have eg : gvn (wds A) sm w = w := if_neg fun q => q.2 q2
        rw [eg]
        simp [-List.map_map, -inS_lst, -addS_str, turn_ap, w_l_full_2_1, st1, i1, q2]
      · have eg : gvn (wds A) sm w = nmF w 2 := if_pos ⟨q1, q2⟩
        rw [eg]
        generalize nmF w 2 = w2 at *
        simp [-List.map_map, -inS_lst, -addS_str, turn_ap, w_l_full_2_1, st1, st2, i1, q2, sl]
    · rw [decide_eq_false q1] at i1
      have eg : gvn (wds A) sm w = w := if_neg fun q => q1 q.1
      rw [eg]
      simp [-List.map_map, -inS_lst, -addS_str, turn_ap, w_l_full_2_1, st1, i1])
  obtain ⟨G, eG⟩ : ∃ G : List Pr, G = W.map fun w => (w, gvn (wds A) sm w) := ⟨_, rfl⟩
  rw [← eG] at e1
  have p11 : (sFor (iSeq (oNm 3)) (.nm 11) [11] w_l_full_2_1) [some (false, .scr ns), some (false, .lst (ds.map .int)), some (false, .val (.str (Str.ofString "abcdefghijklmnopqrstuvwxyz"))), some (false, .lst (W.map .str)), some (false, .val (.int (M : Int))), some (false, .val (.int (N : Int))), some (false, .val (eBk A)), some (false, .val (eBk B)), some (false, .lst (sm.map .str)), some (false, .lst (mn.map .str)), some (false, .dic (sd PyData.str [])), none, none, none, none, none, none] =
      .nx [some (false, .scr ns), some (false, .lst (ds.map .int)), some (false, .val (.str (Str.ofString "abcdefghijklmnopqrstuvwxyz"))), some (false, .lst (W.map .str)), some (false, .val (.int (M : Int))), some (false, .val (.int (N : Int))), some (false, .val (eBk A)), some (false, .val (eBk B)), some (false, .lst (sm.map .str)), some (false, .lst (mn.map .str)), some (false, .dic (sd PyData.str G)), none, none, none, none, none, none] := by
    simp [-List.map_map, forW_nm, e1]
  have lb : listS (.val (eBk A)) = some (.lst (A.map eRow)) := rfl
  have p12 : (sAsg 12 (o1 listS (oNm 6))) [some (false, .scr ns), some (false, .lst (ds.map .int)), some (false, .val (.str (Str.ofString "abcdefghijklmnopqrstuvwxyz"))), some (false, .lst (W.map .str)), some (false, .val (.int (M : Int))), some (false, .val (.int (N : Int))), some (false, .val (eBk A)), some (false, .val (eBk B)), some (false, .lst (sm.map .str)), some (false, .lst (mn.map .str)), some (false, .dic (sd PyData.str G)), none, none, none, none, none, none] =
      .nx [some (false, .scr ns), some (false, .lst (ds.map .int)), some (false, .val (.str (Str.ofString "abcdefghijklmnopqrstuvwxyz"))), some (false, .lst (W.map .str)), some (false, .val (.int (M : Int))), some (false, .val (.int (N : Int))), some (false, .val (eBk A)), some (false, .val (eBk B)), some (false, .lst (sm.map .str)), some (false, .lst (mn.map .str)), some (false, .dic (sd PyData.str G)), none, some (false, .lst (A.map eRow)), none, none, none, none] := by
    simp [-List.map_map, -listS_ap, lb]
  have gW : ∀ w ∈ W, WW (gvn (wds A) sm w) := fun w hw => by
    unfold gvn
    split
    · exact nmF_WW (h8.ww hw) (by omega) (by omega)
    · exact h8.ww hw
  have gI : ∀ w ∈ W, ixS (.dic (sd PyData.str G)) (.val (.str w)) = some (.val (.str (gvn (wds A) sm w))) := fun w hw => by
    have h1 : w ∈ G.map (·.1) := by rw [eG, List.map_map]; exact List.mem_map.mpr ⟨w, hw, rfl⟩
    rw [ixS_rho h1, eG, rho_map _ hw]
  have ROA : ∀ s ∈ A, RO s := fun s hs => (h8.bo hA (by omega)).row s hs
  have fold_in : ∀ (rs rows : List Row) (P : Row → Prop), (∀ r ∈ rs, P r) → (∀ r ∈ rows, P r) → (∀ r ∈ rs.foldl stR rows, P r) ∧ (rs.foldl stR rows).length ≤ rows.length + rs.length := by
    intro rs
    induction rs with
    | nil => intro rows P _ h2; exact ⟨h2, by simp⟩
    | cons r rs ih =>
      intro rows P h1 h2
      have h3 : ∀ q ∈ stR rows r, P q := fun q hq => by
        unfold stR at hq
        split at hq
        · exact h2 q hq
        · rcases List.mem_append.mp hq with hq | hq
          · exact h2 q hq
          · rw [List.mem_singleton.mp hq]; exact h1 r List.mem_cons_self
      have l3 : (stR rows r).length ≤ rows.length + 1 := by unfold stR; split <;> simp
      obtain ⟨i1, i2⟩ := ih (stR rows r) P (fun q hq => h1 q (List.mem_cons_of_mem _ hq)) h3
      rw [List.foldl_cons, List.length_cons]
      exact ⟨i1, by omega⟩
  have grO : ∀ r, R1 W r → RO (gvn (wds A) sm r.1, r.2.map (gvn (wds A) sm)) := fun r hr => by
    obtain ⟨w, hw, v, hv, rfl⟩ := hr
    exact ⟨gW w hw, by simp, fun u hu => by
      have : u = gvn (wds A) sm v := by simpa using hu
      rw [this]; exact gW v hv⟩
  obtain ⟨_, e2, rfl⟩ := forL_all (f := eRow) (T := .tup [11, 13]) (fg := [11, 13, 15]) (b := w_l_full_2_2)
    (fun done ρ => ρ = [some (false, .scr ns), some (false, .lst (ds.map .int)), some (false, .val (.str (Str.ofString "abcdefghijklmnopqrstuvwxyz"))), some (false, .lst (W.map .str)), some (false, .val (.int (M : Int))), some (false, .val (.int (N : Int))), some (false, .val (eBk A)), some (false, .val (eBk B)), some (false, .lst (sm.map .str)), some (false, .lst (mn.map .str)), some (false, .dic (sd PyData.str G)), none, some (false, .lst (((done.map fun r => ((gvn (wds A) sm r.1, r.2.map (gvn (wds A) sm)) : Row)).foldl stR A).map eRow)), none, none, none, none]) B [some (false, .scr ns), some (false, .lst (ds.map .int)), some (false, .val (.str (Str.ofString "abcdefghijklmnopqrstuvwxyz"))), some (false, .lst (W.map .str)), some (false, .val (.int (M : Int))), some (false, .val (.int (N : Int))), some (false, .val (eBk A)), some (false, .val (eBk B)), some (false, .lst (sm.map .str)), some (false, .lst (mn.map .str)), some (false, .dic (sd PyData.str G)), none, some (false, .lst (A.map eRow)), none, none, none, none] rfl (by
    rintro done r rest ρ hd rfl
    refine ⟨[some (false, .scr ns), some (false, .lst (ds.map .int)), some (false, .val (.str (Str.ofString "abcdefghijklmnopqrstuvwxyz"))), some (false, .lst (W.map .str)), some (false, .val (.int (M : Int))), some (false, .val (.int (N : Int))), some (false, .val (eBk A)), some (false, .val (eBk B)), some (false, .lst (sm.map .str)), some (false, .lst (mn.map .str)), some (false, .dic (sd PyData.str G)), none, some (false, .lst ((((done ++ [r]).map fun r => ((gvn (wds A) sm r.1, r.2.map (gvn (wds A) sm)) : Row)).foldl stR A).map eRow)), none, none, none, none], ?_, rfl⟩
    have hrB : r ∈ B := by rw [hd]; simp
    have hdB : ∀ q ∈ done, q ∈ B := fun q hq => by rw [hd]; exact List.mem_append_left _ hq
    have hdl : done.length ≤ 60 := by
      have : done.length ≤ B.length := by rw [hd]; simp
      omega
    obtain ⟨R0, eR0⟩ : ∃ R0, R0 = (done.map fun r => ((gvn (wds A) sm r.1, r.2.map (gvn (wds A) sm)) : Row)).foldl stR A := ⟨_, rfl⟩
    obtain ⟨f1, f2⟩ := fold_in (done.map fun r => ((gvn (wds A) sm r.1, r.2.map (gvn (wds A) sm)) : Row)) A RO (fun q hq => by
      obtain ⟨u, hu, rfl⟩ := List.mem_map.mp hq
      exact grO u (hB u (hdB u hu))) ROA
    rw [← eR0] at f1 f2
    rw [List.length_map] at f2
    have hR1 := hB r hrB
    obtain ⟨x, ex⟩ : ∃ x : Row, x = (gvn (wds A) sm r.1, r.2.map (gvn (wds A) sm)) := ⟨_, rfl⟩
    have e9 : ((done ++ [r]).map fun r => ((gvn (wds A) sm r.1, r.2.map (gvn (wds A) sm)) : Row)).foldl stR A = stR R0 x := by
      rw [List.map_append, List.foldl_append, ← eR0, ex]
      rfl
    rw [e9, ← eR0]
    have ox : RO x := by rw [ex]; exact grO r hR1
    have ni := notin_rows R0 f1 x ox
    obtain ⟨w, hw, v, hv, er⟩ := hR1
    have g1 := gI w hw
    have g2 := gI v hv
    have i3 : ixS (.val (eW [v])) (.val (.int 0)) = some (.val (.str v)) := rfl
    have ek : PyData.tuple [.str (gvn (wds A) sm w), .tuple [.str (gvn (wds A) sm v)]] = eRow x := by rw [ex, er]; rfl
    have z : R0.length < sizeLine := small (m := 200) (by omega)
    have t0 : (Tgt.tup [11, 13]).put (eRow r) [some (false, .scr ns), some (false, .lst (ds.map .int)), some (false, .val (.str (Str.ofString "abcdefghijklmnopqrstuvwxyz"))), some (false, .lst (W.map .str)), some (false, .val (.int (M : Int))), some (false, .val (.int (N : Int))), some (false, .val (eBk A)), some (false, .val (eBk B)), some (false, .lst (sm.map .str)), some (false, .lst (mn.map .str)), some (false, .dic (sd PyData.str G)), none, some (false, .lst (R0.map eRow)), none, none, none, none] = some [some (false, .scr ns), some (false, .lst (ds.map .int)), some (false, .val (.str (Str.ofString "abcdefghijklmnopqrstuvwxyz"))), some (false, .lst (W.map .str)), some (false, .val (.int (M : Int))), some (false, .val (.int (N : Int))), some (false, .val (eBk A)), some (false, .val (eBk B)), some (false, .lst (sm.map .str)), some (false, .lst (mn.map .str)), some (false, .dic (sd PyData.str G)), some (false, .val (.str w)), some (false, .lst (R0.map eRow)), some (false, .val (eW [v])), none, none, none] := by rw [er]; simp
    have a1 : (sAsg 15 (oTup (oAs [o2 ixS (oNm 10) (oNm 11), oTup (oAs [o2 ixS (oNm 10) (o2 ixS (oNm 13) (oC (.int 0)))])]))) [some (false, .scr ns), some (false, .lst (ds.map .int)), some (false, .val (.str (Str.ofString "abcdefghijklmnopqrstuvwxyz"))), some (false, .lst (W.map .str)), some (false, .val (.int (M : Int))), some (false, .val (.int (N : Int))), some (false, .val (eBk A)), some (false, .val (eBk B)), some (false, .lst (sm.map .str)), some (false, .lst (mn.map .str)), some (false, .dic (sd PyData.str G)), some (false, .val (.str w)), some (false, .lst (R0.map eRow)), some (false, .val (eW [v])), none, none, none] = .nx [some (false, .scr ns), some (false, .lst (ds.map .int)), some (false, .val (.str (Str.ofString "abcdefghijklmnopqrstuvwxyz"))), some (false, .lst (W.map .str)), some (false, .val (.int (M : Int))), some (false, .val (.int (N : Int))), some (false, .val (eBk A)), some (false, .val (eBk B)), some (false, .lst (sm.map .str)), some (false, .lst (mn.map .str)), some (false, .dic (sd PyData.str G)), some (false, .val (.str w)), some (false, .lst (R0.map eRow)), some (false, .val (eW [v])), none, some (false, .val (eRow x)), none] := by simp [-List.map_map, g1, g2, i3, ek]
    rw [turn_ap, t0]
    simp only
    rw [w_l_full_2_2, sq_nx a1]
    by_cases h : x ∈ R0
    · have : stR R0 x = R0 := if_pos h
      rw [this]
      rw [decide_eq_true h] at ni
      simp [-List.map_map, ni]
    · have : stR R0 x = R0 ++ [x] := if_neg h
      rw [this]
      rw [decide_eq_false h] at ni
      simp [-List.map_map, ni, z])
  obtain ⟨R, eR⟩ : ∃ R, R = (B.map fun r => ((gvn (wds A) sm r.1, r.2.map (gvn (wds A) sm)) : Row)).foldl stR A := ⟨_, rfl⟩
  rw [← eR] at e2
  have itB : itemsD (eBk B) = some (B.map eRow) := rfl
  have p13 : (sFor (iSeq (oNm 7)) (.tup [11, 13]) [11, 13, 15] w_l_full_2_2) [some (false, .scr ns), some (false, .lst (ds.map .int)), some (false, .val (.str (Str.ofString "abcdefghijklmnopqrstuvwxyz"))), some (false, .lst (W.map .str)), some (false, .val (.int (M : Int))), some (false, .val (.int (N : Int))), some (false, .val (eBk A)), some (false, .val (eBk B)), some (false, .lst (sm.map .str)), some (false, .lst (mn.map .str)), some (false, .dic (sd PyData.str G)), none, some (false, .lst (A.map eRow)), none, none, none, none] =
      .nx [some (false, .scr ns), some (false, .lst (ds.map .int)), some (false, .val (.str (Str.ofString "abcdefghijklmnopqrstuvwxyz"))), some (false, .lst (W.map .str)), some (false, .val (.int (M : Int))), some (false, .val (.int (N : Int))), some (false, .val (eBk A)), some (false, .val (eBk B)), some (false, .lst (sm.map .str)), some (false, .lst (mn.map .str)), some (false, .dic (sd PyData.str G)), none, some (false, .lst (R.map eRow)), none, none, none, none] := by
    simp [-List.map_map, itB, e2]
  have boA := h8.bo hA (show A.length ≤ 200 by omega)
  have boB := h8.bo hB (show B.length ≤ 200 by omega)
  obtain ⟨met, en⟩ := nnM_8 h8 (wds A) (wds B) sm (wds_W hA) (wds_W hB) (wds_nodup B)
  have lwA := wds_W8 h8 hA
  have lwB := wds_W8 h8 hB
  have nm := new_names_M A B boA boB sm (by omega)
  rw [en] at nm
  simp only at nm
  obtain ⟨Q, eQ⟩ : ∃ Q : List Pr, Q = (wds B).map fun w => (w, gvn (wds A) sm w) := ⟨_, rfl⟩
  rw [← eQ] at nm
  have q1 : Q.map (·.1) = wds B := by
    rw [eQ, List.map_map]
    exact (List.map_congr_left (g := id) fun w _ => rfl).trans (List.map_id _)
  have q2 : ∀ w ∈ wds B, rho Q w = gvn (wds A) sm w := fun w hw => by rw [eQ]; exact rho_map _ hw
  have lo := laid_of A B boA boB sm Q nm (by rw [q1]; exact fun _ h => h) (fun w h => by rw [q2 w h]; exact gW w (wds_W hB w h)) (by rw [q1]; exact wds_nodup B) (by omega)
  have la : lai Q A B = R := by
    rw [eR]
    unfold lai
    have e1 : B.map (ren Q) = B.map fun r => ((gvn (wds A) sm r.1, r.2.map (gvn (wds A) sm)) : Row) := List.map_congr_left fun r hr => by
      unfold ren
      rw [q2 r.1 (wds_mem.mpr ⟨r, hr, .inl rfl⟩), List.map_congr_left fun v hv => q2 v (wds_mem.mpr ⟨r, hr, .inr hv⟩)]
    rw [e1]
    refine (foldR_A _ _ (fun r hr => ?_) fun s hs => ?_).symm
    · obtain ⟨u, hu, rfl⟩ := List.mem_map.mp hr
      obtain ⟨w, hw, v, hv, rfl⟩ := hB u hu
      exact ⟨_, _, rfl⟩
    · obtain ⟨w, hw, v, hv, rfl⟩ := hA s hs
      exact ⟨_, _, rfl⟩
  rw [la] at lo
  have oR : ∀ r ∈ R, RO r := by
    rw [eR]
    exact (fold_in _ A RO (fun q hq => by
      obtain ⟨u, hu, rfl⟩ := List.mem_map.mp hq
      exact grO u (hB u hu)) ROA).1
  have tu : tupleS (.lst (R.map eRow)) = some (.val (eBk R)) := rfl
  have en2 : PyData.tuple [.none, .list [.bool true, .bool true, .bool false]] = noT := rfl
  have lR : lenS (.lst (R.map eRow)) = some (.val (.int R.length)) := by rw [lenS_lst, List.length_map]
  rw [f_l_full_2, runF_fin, s0, b_l_full_2, sq_nx p0, sq_nx p1, sq_nx p2, sq_nx p3, sq_nx p4, sq_nx p5, sq_nx p6, sq_nx p7, sq_nx p8, sq_nx p9, sq_nx p10, sq_nx p11, sq_nx p12, sq_nx p13]
  clear p0 p1 p2 p3 p4 p5 p6 p7 p8 p9 p10 p11 p12 p13 e1 e2
  by_cases hc : 60 < R.length
  · rw [if_pos hc] at lo
    have t := tried_laid_no A B sm lo
    have q0 : (sAsg 14 (oCall f_l_tried_2 (oAs [oC (.int 0), oNm 6, oNm 7, oNm 8]))) [some (false, .scr ns), some (false, .lst (ds.map .int)), some (false, .val (.str (Str.ofString "abcdefghijklmnopqrstuvwxyz"))), some (false, .lst (W.map .str)), some (false, .val (.int (M : Int))), some (false, .val (.int (N : Int))), some (false, .val (eBk A)), some (false, .val (eBk B)), some (false, .lst (sm.map .str)), some (false, .lst (mn.map .str)), some (false, .dic (sd PyData.str G)), none, some (false, .lst (R.map eRow)), none, none, none, none] =
        .nx [some (false, .scr ns), some (false, .lst (ds.map .int)), some (false, .val (.str (Str.ofString "abcdefghijklmnopqrstuvwxyz"))), some (false, .lst (W.map .str)), some (false, .val (.int (M : Int))), some (false, .val (.int (N : Int))), some (false, .val (eBk A)), some (false, .val (eBk B)), some (false, .lst (sm.map .str)), some (false, .lst (mn.map .str)), some (false, .dic (sd PyData.str G)), none, some (false, .lst (R.map eRow)), none, some (false, .val noT), none, none] := by
      simp [-List.map_map, t]
    have hc' : (60 : Int) < R.length := by omega
    have q := Gd.eq (a := .val noT) (b := .val noT) rfl rfl Gd.noT (by omega)
    rw [sq_nx q0]
    simp [-List.map_map, -lenS_lst, lR, hc', en2, q]
  · rw [if_neg hc] at lo
    have t := tried_laid A B sm R lo
    have q0 : (sAsg 14 (oCall f_l_tried_2 (oAs [oC (.int 0), oNm 6, oNm 7, oNm 8]))) [some (false, .scr ns), some (false, .lst (ds.map .int)), some (false, .val (.str (Str.ofString "abcdefghijklmnopqrstuvwxyz"))), some (false, .lst (W.map .str)), some (false, .val (.int (M : Int))), some (false, .val (.int (N : Int))), some (false, .val (eBk A)), some (false, .val (eBk B)), some (false, .lst (sm.map .str)), some (false, .lst (mn.map .str)), some (false, .dic (sd PyData.str G)), none, some (false, .lst (R.map eRow)), none, none, none, none] =
        .nx [some (false, .scr ns), some (false, .lst (ds.map .int)), some (false, .val (.str (Str.ofString "abcdefghijklmnopqrstuvwxyz"))), some (false, .lst (W.map .str)), some (false, .val (.int (M : Int))), some (false, .val (.int (N : Int))), some (false, .val (eBk A)), some (false, .val (eBk B)), some (false, .lst (sm.map .str)), some (false, .lst (mn.map .str)), some (false, .dic (sd PyData.str G)), none, some (false, .lst (R.map eRow)), none, some (false, .val (okT2 (eBk R))), none, none] := by
      simp [-List.map_map, t]
    have hc' : ¬ (60 : Int) < R.length := by omega
    have q1 : (sIf (tV (o2 gtS (o1 lenS (oNm 12)) (oC (.int 60)))) (sRet (o2 eqS (oNm 14) (oTup (oAs [oC .none, oLst (oAs [oC (.bool true), oC (.bool true), oC (.bool false)])])))) sNil) [some (false, .scr ns), some (false, .lst (ds.map .int)), some (false, .val (.str (Str.ofString "abcdefghijklmnopqrstuvwxyz"))), some (false, .lst (W.map .str)), some (false, .val (.int (M : Int))), some (false, .val (.int (N : Int))), some (false, .val (eBk A)), some (false, .val (eBk B)), some (false, .lst (sm.map .str)), some (false, .lst (mn.map .str)), some (false, .dic (sd PyData.str G)), none, some (false, .lst (R.map eRow)), none, some (false, .val (okT2 (eBk R))), none, none] =
        .nx [some (false, .scr ns), some (false, .lst (ds.map .int)), some (false, .val (.str (Str.ofString "abcdefghijklmnopqrstuvwxyz"))), some (false, .lst (W.map .str)), some (false, .val (.int (M : Int))), some (false, .val (.int (N : Int))), some (false, .val (eBk A)), some (false, .val (eBk B)), some (false, .lst (sm.map .str)), some (false, .lst (mn.map .str)), some (false, .dic (sd PyData.str G)), none, some (false, .lst (R.map eRow)), none, some (false, .val (okT2 (eBk R))), none, none] := by
      simp [-List.map_map, -lenS_lst, lR, hc']
    have q2' : (sIf (tAndC (tV (o2 eqS (oNm 4) (oC (.int 60)))) (tNotC (tV (oCall f_l_over_full_2 (oAs [oNm 6, o1 sortS (o1 setC (oNm 9)), o2 ixS (oNm 1) (oC (.int 18))]))))) (sRet (oC (.bool false))) sNil) [some (false, .scr ns), some (false, .lst (ds.map .int)), some (false, .val (.str (Str.ofString "abcdefghijklmnopqrstuvwxyz"))), some (false, .lst (W.map .str)), some (false, .val (.int (M : Int))), some (false, .val (.int (N : Int))), some (false, .val (eBk A)), some (false, .val (eBk B)), some (false, .lst (sm.map .str)), some (false, .lst (mn.map .str)), some (false, .dic (sd PyData.str G)), none, some (false, .lst (R.map eRow)), none, some (false, .val (okT2 (eBk R))), none, none] = .nx [some (false, .scr ns), some (false, .lst (ds.map .int)), some (false, .val (.str (Str.ofString "abcdefghijklmnopqrstuvwxyz"))), some (false, .lst (W.map .str)), some (false, .val (.int (M : Int))), some (false, .val (.int (N : Int))), some (false, .val (eBk A)), some (false, .val (eBk B)), some (false, .lst (sm.map .str)), some (false, .lst (mn.map .str)), some (false, .dic (sd PyData.str G)), none, some (false, .lst (R.map eRow)), none, some (false, .val (okT2 (eBk R))), none, none] := by
      by_cases h60 : M = 60
      · have sc : setC (.lst (mn.map .str)) = some (.set (metT mn)) := by
          rw [setC_lst, if_pos (by
            have : 3001 < scanBound := by decide
            omega)]
        have ml := metT_len mn
        have ss : sortS (.set (metT mn)) = some (.lst ((sortT (metT mn)).map .str)) := by rw [sortS_set, if_pos (small3 (by omega))]
        have eV : sortT (metT mn) = wds A := by
          have : sortT (metT mn) = sortT (wds A) := sortT_ext (metT_nodup _) (wds_nodup A) fun w => by rw [mem_metT, mnW]
          rw [this, sortT_wds]
        rw [eV] at ss
        have ov := over65 h8 A hA (by omega) (wds A) rfl (dat ds 18) ⟨b18, by omega⟩
        simp [-List.map_map, -setC_lst, -sortS_set, h60, sc, ss, a18, ov]
      · have h61 : ¬ (M : Int) = 60 := by omega
        simp [-List.map_map, h61, h60]
    have gR : Gd (eBk R) 3 1048576 := by
      obtain ⟨W0, h1, h2⟩ := Gd.bq (b := R) (fun r hr => by
        have := oR r hr
        exact ⟨this.1.q, by have := this.2.1; omega, fun w hw => (this.2.2 w hw).q⟩) (by omega)
      exact h2.mono (Nat.le_refl _) h1
    have q := Gd.eq (a := .val (okT2 (eBk R))) (b := .val (okT2 (eBk R))) rfl rfl (Gd.okT2 gR (by omega)) (by omega)
    have o1 : PyData.tuple [eBk R, .list []] = okT2 (eBk R) := rfl
    rw [sq_nx q0, sq_nx q1, sq_nx q2']
    simp [-List.map_map, -tupleS_ap, tu, o1, q]
theorem answer65 (ns : List Int) : ∃ fin, f_law_81 [.scr ns] = .ret (.val (.bool true)) fin := by
  have f := l_full_eq ns
  have s := l_senses_eq ns
  refine ⟨[.scr ns], ?_⟩
  simp [f_law_81, b_law_81, runF_ap, f, s]
end Eng
set_option maxHeartbeats 4000000
namespace Eng
open PySem PySem.Spec L2
open PyProof.Rows hiding St
def top (i : Nat) : Stmt := PySem.Challenge.pw_primer_k65_no_room.main.body.getD i (.Pass ⟨0, 0, 0, 0⟩)
def mth (i j : Nat) : Stmt := match top i with
  | .ClassDef _ _ _ body .. => body.getD j (.Pass ⟨0, 0, 0, 0⟩)
  | s => s
section
variable {P : Program} {w : World} {K : PySem.W.Frag} {mg : Str → Option Value} {base : Heap} {ca : Nat → Addr}

theorem sc__law_mix : FnScope ["_law_cell_here", "_law_k", "_law_by"] ["_law_cell_here", "_law_k"] (defScope (top 22)) := ⟨rfl, rfl, rfl, by decide +kernel, rfl, by decide +kernel, by decide +kernel⟩
theorem ok__law_mix {f : Addr} {fd : FuncData} (F : Fun K "_law_mix" "_law_mix" (top 22) f fd) (hm : mg "_law_mix" = some (.ref f)) (hB : Blt mg) : Callee P w K mg base ca 1 "_law_mix" 2 f_l_mix := by
  refine ⟨f, fd, ["_law_cell_here", "_law_k"], rfl, efn_body (N := ["_law_cell_here", "_law_k", "_law_by"]) (b := b_l_mix) F sc__law_mix fun cdv A outer s H E hg hr => ?_, hm, F.kp, F.binds fun _ _ _ _ _ _ us hl => match us, hl with | [_, _], _ => rfl⟩
  have hG : (cxOf (L2.CX P w) P w K mg base ["_law_cell_here", "_law_k", "_law_by"] "_law_mix" (defScope (top 22)) f cdv A outer s H E).A.guards = some [] := by
    rw [← hg]; exact deeper_guards _ _
  have tk : Takes (cxOf (L2.CX P w) P w K mg base ["_law_cell_here", "_law_k", "_law_by"] "_law_mix" (defScope (top 22)) f cdv A outer s H E) (fun cls d _ H => E cls d H) := takes_of rfl rfl rfl rfl
  have nd := sc__law_mix.nd
  have hp : PassesOwn _ _ _ (cxOf (L2.CX P w) P w K mg base ["_law_cell_here", "_law_k", "_law_by"] "_law_mix" (defScope (top 22)) f cdv A outer s H E).xe := passes_of rfl
  exact (ss_cons (ss_asg (i := 2) nd rfl (by first | exact .inl rfl | exact .inr rfl) (se_bin bin_add (se_bin bin_add (se_bin bin_mul (se_bin bin_add (se_bin bin_mod (se_n 0 rfl (by first | exact .inl rfl | exact .inr (.inl rfl) | exact .inr (.inr rfl)) rfl rfl) (se_bin bin_pow se_int se_int)) se_int) se_int) (se_bin bin_mul (se_bin bin_mul (se_n 1 rfl (by first | exact .inl rfl | exact .inr (.inl rfl) | exact .inr (.inr rfl)) rfl rfl) (se_n 1 rfl (by first | exact .inl rfl | exact .inr (.inl rfl) | exact .inr (.inr rfl)) rfl rfl)) se_int)) (se_bin bin_mul (se_n 1 rfl (by first | exact .inl rfl | exact .inr (.inl rfl) | exact .inr (.inr rfl)) rfl rfl) se_int)) rfl (by first | exact .inl rfl | exact .inr rfl))
  (ss_one (ss_ret (se_bin bin_mod (se_bin bin_mul (se_bin bin_mod (se_n 2 rfl (by first | exact .inl rfl | exact .inr (.inl rfl) | exact .inr (.inr rfl)) rfl rfl) se_int) se_int) se_int))))
theorem sc__law_cell : FnScope ["_law_script", "_law_k", "_law_seed"] ["_law_script", "_law_k"] (defScope (top 23)) := ⟨rfl, rfl, rfl, by decide +kernel, rfl, by decide +kernel, by decide +kernel⟩
theorem ok__law_cell {f : Addr} {fd : FuncData} (F : Fun K "_law_cell" "_law_cell" (top 23) f fd) (hm : mg "_law_cell" = some (.ref f)) (hB : Blt mg) (c__law_mix : Callee P w K mg base ca 1 "_law_mix" 2 f_l_mix) : Callee P w K mg base ca 2 "_law_cell" 2 f_l_cell := by
  refine ⟨f, fd, ["_law_script", "_law_k"], rfl, efn_body (N := ["_law_script", "_law_k", "_law_seed"]) (b := b_l_cell) F sc__law_cell fun cdv A outer s H E hg hr => ?_, hm, F.kp, F.binds fun _ _ _ _ _ _ us hl => match us, hl with | [_, _], _ => rfl⟩
  have hG : (cxOf (L2.CX P w) P w K mg base ["_law_script", "_law_k", "_law_seed"] "_law_cell" (defScope (top 23)) f cdv A outer s H E).A.guards = some [] := by
    rw [← hg]; exact deeper_guards _ _
  have tk : Takes (cxOf (L2.CX P w) P w K mg base ["_law_script", "_law_k", "_law_seed"] "_law_cell" (defScope (top 23)) f cdv A outer s H E) (fun cls d _ H => E cls d H) := takes_of rfl rfl rfl rfl
  have nd := sc__law_cell.nd
  have hp : PassesOwn _ _ _ (cxOf (L2.CX P w) P w K mg base ["_law_script", "_law_k", "_law_seed"] "_law_cell" (defScope (top 23)) f cdv A outer s H E).xe := passes_of rfl
  exact (ss_cons (ss_if (st_cmp bin_lt (se_n 1 rfl (by first | exact .inl rfl | exact .inr (.inl rfl) | exact .inr (.inr rfl)) rfl rfl) (se_len hB rfl rfl (se_n 0 rfl (by first | exact .inl rfl | exact .inr (.inl rfl) | exact .inr (.inr rfl)) rfl rfl)) rfl)
    (ss_one (ss_ret (se_ix (hu65 hr) (se_n 0 rfl (by first | exact .inl rfl | exact .inr (.inl rfl) | exact .inr (.inr rfl)) rfl rfl) (se_n 1 rfl (by first | exact .inl rfl | exact .inr (.inl rfl) | exact .inr (.inr rfl)) rfl rfl) (fun _ _ => rfl))))
    ss_nil)
  (ss_cons (ss_asg (i := 2) nd rfl (by first | exact .inl rfl | exact .inr rfl) se_int rfl (by first | exact .inl rfl | exact .inr rfl))
  (ss_cons (ss_if (st_cmp bin_gt (se_len hB rfl rfl (se_n 0 rfl (by first | exact .inl rfl | exact .inr (.inl rfl) | exact .inr (.inr rfl)) rfl rfl)) se_int rfl)
    (ss_one (ss_asg (i := 2) nd rfl (by first | exact .inl rfl | exact .inr rfl) (se_ix (hu65 hr) (se_n 0 rfl (by first | exact .inl rfl | exact .inr (.inl rfl) | exact .inr (.inr rfl)) rfl rfl) (se_bin bin_mod (se_n 1 rfl (by first | exact .inl rfl | exact .inr (.inl rfl) | exact .inr (.inr rfl)) rfl rfl) (se_len hB rfl rfl (se_n 0 rfl (by first | exact .inl rfl | exact .inr (.inl rfl) | exact .inr (.inr rfl)) rfl rfl))) (fun _ _ => rfl)) rfl (by first | exact .inl rfl | exact .inr rfl)))
    ss_nil)
  (ss_one (ss_ret (se_bin bin_add (se_bin bin_mul se_int (se_c c__law_mix hG hr tk rfl rfl rfl rfl (sa_c rfl (se_n 2 rfl (by first | exact .inl rfl | exact .inr (.inl rfl) | exact .inr (.inr rfl)) rfl rfl) (sa_c rfl (se_n 1 rfl (by first | exact .inl rfl | exact .inr (.inl rfl) | exact .inr (.inr rfl)) rfl rfl) sa_nil)))) se_int))))))
theorem sc__law_drawn : FnScope ["_law_cell_here", "_law_many", "_law_found", "_law_left", "_law_k"] ["_law_cell_here", "_law_many"] (defScope (top 24)) := ⟨rfl, rfl, rfl, by decide +kernel, rfl, by decide +kernel, by decide +kernel⟩
theorem ok__law_drawn {f : Addr} {fd : FuncData} (F : Fun K "_law_drawn" "_law_drawn" (top 24) f fd) (hm : mg "_law_drawn" = some (.ref f)) (hB : Blt mg) (c__law_mix : Callee P w K mg base ca 1 "_law_mix" 2 f_l_mix) : Callee P w K mg base ca 2 "_law_drawn" 2 f_l_drawn := by
  refine ⟨f, fd, ["_law_cell_here", "_law_many"], rfl, efn_body (N := ["_law_cell_here", "_law_many", "_law_found", "_law_left", "_law_k"]) (b := b_l_drawn) F sc__law_drawn fun cdv A outer s H E hg hr => ?_, hm, F.kp, F.binds fun _ _ _ _ _ _ us hl => match us, hl with | [_, _], _ => rfl⟩
  have hG : (cxOf (L2.CX P w) P w K mg base ["_law_cell_here", "_law_many", "_law_found", "_law_left", "_law_k"] "_law_drawn" (defScope (top 24)) f cdv A outer s H E).A.guards = some [] := by
    rw [← hg]; exact deeper_guards _ _
  have tk : Takes (cxOf (L2.CX P w) P w K mg base ["_law_cell_here", "_law_many", "_law_found", "_law_left", "_law_k"] "_law_drawn" (defScope (top 24)) f cdv A outer s H E) (fun cls d _ H => E cls d H) := takes_of rfl rfl rfl rfl
  have nd := sc__law_drawn.nd
  have hp : PassesOwn _ _ _ (cxOf (L2.CX P w) P w K mg base ["_law_cell_here", "_law_many", "_law_found", "_law_left", "_law_k"] "_law_drawn" (defScope (top 24)) f cdv A outer s H E).xe := passes_of rfl
  exact (ss_cons (ss_asg (i := 2) nd rfl (by first | exact .inl rfl | exact .inr rfl) (se_lst sa_nil) rfl (by first | exact .inl rfl | exact .inr rfl))
  (ss_cons (ss_asg (i := 3) nd rfl (by first | exact .inl rfl | exact .inr rfl) (se_bin bin_fdiv (se_n 0 rfl (by first | exact .inl rfl | exact .inr (.inl rfl) | exact .inr (.inr rfl)) rfl rfl) se_int) rfl (by first | exact .inl rfl | exact .inr rfl))
  (ss_cons (ss_for (fg := [4]) hp rfl (si_rng1 rfl hB.range (sa_c rfl (se_n 1 rfl (by first | exact .inl rfl | exact .inr (.inl rfl) | exact .inr (.inr rfl)) rfl rfl) sa_nil) rfl) (sg_name (i := 4) nd rfl (by first | exact .inl rfl | exact .inr rfl) (by first | exact .inl rfl | exact .inr rfl))
    (ss_one (ss_if (st_cmp (bin_eq (hu64 hr)) (se_bin bin_mod (se_n 0 rfl (by first | exact .inl rfl | exact .inr (.inl rfl) | exact .inr (.inr rfl)) rfl rfl) se_int) se_int rfl)
      (ss_cons (ss_expr (se_app (j := 2) rfl (by first | exact .inl rfl | exact .inr (.inl rfl) | exact .inr (.inr rfl)) rfl rfl (se_bin bin_mod (se_n 3 rfl (by first | exact .inl rfl | exact .inr (.inl rfl) | exact .inr (.inr rfl)) rfl rfl) se_int) rfl rfl rfl rfl) rfl)
      (ss_one (ss_asg (i := 3) nd rfl (by first | exact .inl rfl | exact .inr rfl) (se_bin bin_fdiv (se_n 3 rfl (by first | exact .inl rfl | exact .inr (.inl rfl) | exact .inr (.inr rfl)) rfl rfl) se_int) rfl (by first | exact .inl rfl | exact .inr rfl))))
      (ss_one (ss_expr (se_app (j := 2) rfl (by first | exact .inl rfl | exact .inr (.inl rfl) | exact .inr (.inr rfl)) rfl rfl (se_bin bin_mod (se_bin bin_fdiv (se_c c__law_mix hG hr tk rfl rfl rfl rfl (sa_c rfl (se_n 0 rfl (by first | exact .inl rfl | exact .inr (.inl rfl) | exact .inr (.inr rfl)) rfl rfl) (sa_c rfl (se_n 4 rfl (by first | exact .inl rfl | exact .inr (.inl rfl) | exact .inr (.inr rfl)) rfl rfl) sa_nil))) se_int) se_int) rfl rfl rfl rfl) rfl)))) (fun _ => rfl))
  (ss_one (ss_ret (se_n 2 rfl (by first | exact .inl rfl | exact .inr (.inl rfl) | exact .inr (.inr rfl)) rfl rfl))))))
theorem sc_alike : FnScope ["row", "other"] ["row", "other"] (defScope (top 13)) := ⟨rfl, rfl, rfl, by decide +kernel, rfl, by decide +kernel, by decide +kernel⟩
theorem ok_alike {f : Addr} {fd : FuncData} (F : Fun K "alike" "alike" (top 13) f fd) (hm : mg "alike" = some (.ref f)) (hB : Blt mg) : Callee P w K mg base ca 1 "alike" 2 f_alike := by
  refine ⟨f, fd, ["row", "other"], rfl, efn_body (N := ["row", "other"]) (b := b_alike) F sc_alike fun cdv A outer s H E hg hr => ?_, hm, F.kp, F.binds fun _ _ _ _ _ _ us hl => match us, hl with | [_, _], _ => rfl⟩
  have hG : (cxOf (L2.CX P w) P w K mg base ["row", "other"] "alike" (defScope (top 13)) f cdv A outer s H E).A.guards = some [] := by
    rw [← hg]; exact deeper_guards _ _
  have tk : Takes (cxOf (L2.CX P w) P w K mg base ["row", "other"] "alike" (defScope (top 13)) f cdv A outer s H E) (fun cls d _ H => E cls d H) := takes_of rfl rfl rfl rfl
  have nd := sc_alike.nd
  have hp : PassesOwn _ _ _ (cxOf (L2.CX P w) P w K mg base ["row", "other"] "alike" (defScope (top 13)) f cdv A outer s H E).xe := passes_of rfl
  exact (ss_one (ss_ret (se_and (se_cmp (bin_eq (hu64 hr)) (se_ix (hu65 hr) (se_n 0 rfl (by first | exact .inl rfl | exact .inr (.inl rfl) | exact .inr (.inr rfl)) rfl rfl) se_int (fun _ _ => rfl)) (se_ix (hu65 hr) (se_n 1 rfl (by first | exact .inl rfl | exact .inr (.inl rfl) | exact .inr (.inr rfl)) rfl rfl) se_int (fun _ _ => rfl)) rfl) (se_one (se_cmp (bin_eq (hu64 hr)) (se_sorted rfl hr hB rfl rfl (se_ix (hu65 hr) (se_n 0 rfl (by first | exact .inl rfl | exact .inr (.inl rfl) | exact .inr (.inr rfl)) rfl rfl) se_int (fun _ _ => rfl))) (se_sorted rfl hr hB rfl rfl (se_ix (hu65 hr) (se_n 1 rfl (by first | exact .inl rfl | exact .inr (.inl rfl) | exact .inr (.inr rfl)) rfl rfl) se_int (fun _ _ => rfl))) rfl)))))
theorem sc_stem_of : FnScope ["word"] ["word"] (defScope (top 11)) := ⟨rfl, rfl, rfl, by decide +kernel, rfl, by decide +kernel, by decide +kernel⟩
theorem ok_stem_of {f : Addr} {fd : FuncData} (F : Fun K "stem_of" "stem_of" (top 11) f fd) (hm : mg "stem_of" = some (.ref f)) (hB : Blt mg) : Callee P w K mg base ca 1 "stem_of" 1 f_stem_of := by
  refine ⟨f, fd, ["word"], rfl, efn_body (N := ["word"]) (b := b_stem_of) F sc_stem_of fun cdv A outer s H E hg hr => ?_, hm, F.kp, F.binds fun _ _ _ _ _ _ us hl => match us, hl with | [_], _ => rfl⟩
  have hG : (cxOf (L2.CX P w) P w K mg base ["word"] "stem_of" (defScope (top 11)) f cdv A outer s H E).A.guards = some [] := by
    rw [← hg]; exact deeper_guards _ _
  have tk : Takes (cxOf (L2.CX P w) P w K mg base ["word"] "stem_of" (defScope (top 11)) f cdv A outer s H E) (fun cls d _ H => E cls d H) := takes_of rfl rfl rfl rfl
  have nd := sc_stem_of.nd
  have hp : PassesOwn _ _ _ (cxOf (L2.CX P w) P w K mg base ["word"] "stem_of" (defScope (top 11)) f cdv A outer s H E).xe := passes_of rfl
  exact (ss_one (ss_ret (se_ix (hu65 hr) (se_split (se_n 0 rfl (by first | exact .inl rfl | exact .inr (.inl rfl) | exact .inr (.inr rfl)) rfl rfl) se_str rfl rfl rfl) se_int (fun _ _ => rfl))))
theorem sc_fresh_name : FnScope ["word", "met", "number", "name"] ["word", "met"] (defScope (top 18)) := ⟨rfl, rfl, rfl, by decide +kernel, rfl, by decide +kernel, by decide +kernel⟩
theorem ok_fresh_name {f : Addr} {fd : FuncData} (F : Fun K "fresh_name" "fresh_name" (top 18) f fd) (hm : mg "fresh_name" = some (.ref f)) (hB : Blt mg) (c_stem_of : Callee P w K mg base ca 1 "stem_of" 1 f_stem_of) (hX : Xf K mg ca [0, 1, 2, 3, 4, 5, 6, 7, 8]) {t_SENSES : Tok} (k_SENSES : mg "SENSES" = some (.int 99 t_SENSES)) : Callee P w K mg base ca 2 "fresh_name" 2 f_fresh_name := by
  refine ⟨f, fd, ["word", "met"], rfl, efn_body (N := ["word", "met", "number", "name"]) (b := b_fresh_name) F sc_fresh_name fun cdv A outer s H E hg hr => ?_, hm, F.kp, F.binds fun _ _ _ _ _ _ us hl => match us, hl with | [_, _], _ => rfl⟩
  have hG : (cxOf (L2.CX P w) P w K mg base ["word", "met", "number", "name"] "fresh_name" (defScope (top 18)) f cdv A outer s H E).A.guards = some [] := by
    rw [← hg]; exact deeper_guards _ _
  have tk : Takes (cxOf (L2.CX P w) P w K mg base ["word", "met", "number", "name"] "fresh_name" (defScope (top 18)) f cdv A outer s H E) (fun cls d _ H => E cls d H) := takes_of rfl rfl rfl rfl
  have nd := sc_fresh_name.nd
  have hp : PassesOwn _ _ _ (cxOf (L2.CX P w) P w K mg base ["word", "met", "number", "name"] "fresh_name" (defScope (top 18)) f cdv A outer s H E).xe := passes_of rfl
  exact (ss_cons (ss_for (fg := [2, 3]) hp rfl (si_rng2 rfl hB.range (sa_c rfl se_int (sa_c rfl (se_bin bin_add (se_glob (v := .int 99) rfl k_SENSES ⟨_, rfl⟩ rfl (fun _ _ => .int _)) se_int) sa_nil)) rfl rfl) (sg_name (i := 2) nd rfl (by first | exact .inl rfl | exact .inr rfl) (by first | exact .inl rfl | exact .inr rfl))
    (ss_cons (ss_asg (i := 3) nd rfl (by first | exact .inl rfl | exact .inr rfl) (se_bin bin_add (se_bin bin_add (se_c c_stem_of hG hr tk rfl rfl rfl rfl (sa_c rfl (se_n 0 rfl (by first | exact .inl rfl | exact .inr (.inl rfl) | exact .inr (.inr rfl)) rfl rfl) sa_nil)) se_str) (se_strC hB rfl rfl (se_n 2 rfl (by first | exact .inl rfl | exact .inr (.inl rfl) | exact .inr (.inr rfl)) rfl rfl))) rfl (by first | exact .inl rfl | exact .inr rfl))
    (ss_one (ss_if (st_cmp (bin_notin (hu65 hr)) (se_n 3 rfl (by first | exact .inl rfl | exact .inr (.inl rfl) | exact .inr (.inr rfl)) rfl rfl) (se_n 1 rfl (by first | exact .inl rfl | exact .inr (.inl rfl) | exact .inr (.inr rfl)) rfl rfl) rfl)
      (ss_one (ss_ret (se_n 3 rfl (by first | exact .inl rfl | exact .inr (.inl rfl) | exact .inr (.inr rfl)) rfl rfl)))
      ss_nil))) (fun _ => rfl))
  (ss_one (ss_raiseX hX 5 (by decide) rfl tk rfl rfl)))
theorem sc_words_of : FnScope ["book", "met", "word", "told", "one"] ["book"] (defScope (top 14)) := ⟨rfl, rfl, rfl, by decide +kernel, rfl, by decide +kernel, by decide +kernel⟩
theorem ok_words_of {f : Addr} {fd : FuncData} (F : Fun K "words_of" "words_of" (top 14) f fd) (hm : mg "words_of" = some (.ref f)) (hB : Blt mg) : Callee P w K mg base ca 1 "words_of" 1 f_words_of := by
  refine ⟨f, fd, ["book"], rfl, efn_body (N := ["book", "met", "word", "told", "one"]) (b := b_words_of) F sc_words_of fun cdv A outer s H E hg hr => ?_, hm, F.kp, F.binds fun _ _ _ _ _ _ us hl => match us, hl with | [_], _ => rfl⟩
  have hG : (cxOf (L2.CX P w) P w K mg base ["book", "met", "word", "told", "one"] "words_of" (defScope (top 14)) f cdv A outer s H E).A.guards = some [] := by
    rw [← hg]; exact deeper_guards _ _
  have tk : Takes (cxOf (L2.CX P w) P w K mg base ["book", "met", "word", "told", "one"] "words_of" (defScope (top 14)) f cdv A outer s H E) (fun cls d _ H => E cls d H) := takes_of rfl rfl rfl rfl
  have nd := sc_words_of.nd
  have hp : PassesOwn _ _ _ (cxOf (L2.CX P w) P w K mg base ["book", "met", "word", "told", "one"] "words_of" (defScope (top 14)) f cdv A outer s H E).xe := passes_of rfl
  exact (ss_cons (ss_asg (i := 1) nd rfl (by first | exact .inl rfl | exact .inr rfl) se_dic0 rfl (by first | exact .inl rfl | exact .inr rfl))
  (ss_cons (ss_for (fg := [2, 3, 4]) hp rfl (si_seq (se_n 0 rfl (by first | exact .inl rfl | exact .inr (.inl rfl) | exact .inr (.inr rfl)) rfl rfl)) (sg_tup rfl (sg_cons (pg_name (i := 2) nd rfl (by first | exact .inl rfl | exact .inr rfl) (by first | exact .inl rfl | exact .inr rfl)) (sg_cons (pg_name (i := 3) nd rfl (by first | exact .inl rfl | exact .inr rfl) (by first | exact .inl rfl | exact .inr rfl)) sg_nil rfl) rfl) rfl rfl)
    (ss_cons (ss_put (i := 1) (hu65 hr) rfl (by first | exact .inl rfl | exact .inr (.inl rfl) | exact .inr (.inr rfl)) rfl rfl (se_n 2 rfl (by first | exact .inl rfl | exact .inr (.inl rfl) | exact .inr (.inr rfl)) rfl rfl) se_bl rfl rfl rfl (fun _ => rfl))
    (ss_one (ss_for (fg := [4]) hp rfl (si_seq (se_n 3 rfl (by first | exact .inl rfl | exact .inr (.inl rfl) | exact .inr (.inr rfl)) rfl rfl)) (sg_name (i := 4) nd rfl (by first | exact .inl rfl | exact .inr rfl) (by first | exact .inl rfl | exact .inr rfl))
      (ss_one (ss_put (i := 1) (hu65 hr) rfl (by first | exact .inl rfl | exact .inr (.inl rfl) | exact .inr (.inr rfl)) rfl rfl (se_n 4 rfl (by first | exact .inl rfl | exact .inr (.inl rfl) | exact .inr (.inr rfl)) rfl rfl) se_bl rfl rfl rfl (fun _ => rfl))) (fun _ => rfl)))) (fun _ => rfl))
  (ss_one (ss_ret (se_sorted rfl hr hB rfl rfl (se_n 1 rfl (by first | exact .inl rfl | exact .inr (.inl rfl) | exact .inr (.inr rfl)) rfl rfl))))))
theorem sc_new_names : FnScope ["one", "other", "same", "mine", "theirs", "met", "word", "found", "name"] ["one", "other", "same"] (defScope (top 19)) := ⟨rfl, rfl, rfl, by decide +kernel, rfl, by decide +kernel, by decide +kernel⟩
theorem ok_new_names {f : Addr} {fd : FuncData} (F : Fun K "new_names" "new_names" (top 19) f fd) (hm : mg "new_names" = some (.ref f)) (hB : Blt mg) (c_words_of : Callee P w K mg base ca 2 "words_of" 1 f_words_of) (c_fresh_name : Callee P w K mg base ca 2 "fresh_name" 2 f_fresh_name) : Callee P w K mg base ca 3 "new_names" 3 f_new_names := by
  refine ⟨f, fd, ["one", "other", "same"], rfl, efn_body (N := ["one", "other", "same", "mine", "theirs", "met", "word", "found", "name"]) (b := b_new_names) F sc_new_names fun cdv A outer s H E hg hr => ?_, hm, F.kp, F.binds fun _ _ _ _ _ _ us hl => match us, hl with | [_, _, _], _ => rfl⟩
  have hG : (cxOf (L2.CX P w) P w K mg base ["one", "other", "same", "mine", "theirs", "met", "word", "found", "name"] "new_names" (defScope (top 19)) f cdv A outer s H E).A.guards = some [] := by
    rw [← hg]; exact deeper_guards _ _
  have tk : Takes (cxOf (L2.CX P w) P w K mg base ["one", "other", "same", "mine", "theirs", "met", "word", "found", "name"] "new_names" (defScope (top 19)) f cdv A outer s H E) (fun cls d _ H => E cls d H) := takes_of rfl rfl rfl rfl
  have nd := sc_new_names.nd
  have hp : PassesOwn _ _ _ (cxOf (L2.CX P w) P w K mg base ["one", "other", "same", "mine", "theirs", "met", "word", "found", "name"] "new_names" (defScope (top 19)) f cdv A outer s H E).xe := passes_of rfl
  exact (ss_cons (ss_asg (i := 3) nd rfl (by first | exact .inl rfl | exact .inr rfl) (se_c c_words_of hG hr tk rfl rfl rfl rfl (sa_c rfl (se_n 0 rfl (by first | exact .inl rfl | exact .inr (.inl rfl) | exact .inr (.inr rfl)) rfl rfl) sa_nil)) rfl (by first | exact .inl rfl | exact .inr rfl))
  (ss_cons (ss_asg (i := 4) nd rfl (by first | exact .inl rfl | exact .inr rfl) (se_c c_words_of hG hr tk rfl rfl rfl rfl (sa_c rfl (se_n 1 rfl (by first | exact .inl rfl | exact .inr (.inl rfl) | exact .inr (.inr rfl)) rfl rfl) sa_nil)) rfl (by first | exact .inl rfl | exact .inr rfl))
  (ss_cons (ss_asg (i := 5) nd rfl (by first | exact .inl rfl | exact .inr rfl) se_dic0 rfl (by first | exact .inl rfl | exact .inr rfl))
  (ss_cons (ss_for (fg := [6]) hp rfl (si_seq (se_bin bin_add (se_n 3 rfl (by first | exact .inl rfl | exact .inr (.inl rfl) | exact .inr (.inr rfl)) rfl rfl) (se_n 4 rfl (by first | exact .inl rfl | exact .inr (.inl rfl) | exact .inr (.inr rfl)) rfl rfl))) (sg_name (i := 6) nd rfl (by first | exact .inl rfl | exact .inr rfl) (by first | exact .inl rfl | exact .inr rfl))
    (ss_one (ss_put (i := 5) (hu65 hr) rfl (by first | exact .inl rfl | exact .inr (.inl rfl) | exact .inr (.inr rfl)) rfl rfl (se_n 6 rfl (by first | exact .inl rfl | exact .inr (.inl rfl) | exact .inr (.inr rfl)) rfl rfl) se_bl rfl rfl rfl (fun _ => rfl))) (fun _ => rfl))
  (ss_cons (ss_asg (i := 7) nd rfl (by first | exact .inl rfl | exact .inr rfl) (se_lst sa_nil) rfl (by first | exact .inl rfl | exact .inr rfl))
  (ss_cons (ss_for (fg := [6, 8]) hp rfl (si_seq (se_n 4 rfl (by first | exact .inl rfl | exact .inr (.inl rfl) | exact .inr (.inr rfl)) rfl rfl)) (sg_name (i := 6) nd rfl (by first | exact .inl rfl | exact .inr rfl) (by first | exact .inl rfl | exact .inr rfl))
    (ss_cons (ss_asg (i := 8) nd rfl (by first | exact .inl rfl | exact .inr rfl) (se_n 6 rfl (by first | exact .inl rfl | exact .inr (.inl rfl) | exact .inr (.inr rfl)) rfl rfl) rfl (by first | exact .inl rfl | exact .inr rfl))
    (ss_cons (ss_if (PW.pt (st_and (st_cmp (bin_in (hu65 hr)) (se_n 6 rfl (by first | exact .inl rfl | exact .inr (.inl rfl) | exact .inr (.inr rfl)) rfl rfl) (se_n 3 rfl (by first | exact .inl rfl | exact .inr (.inl rfl) | exact .inr (.inr rfl)) rfl rfl) rfl) (st_and1 (st_cmp (bin_notin (hu65 hr)) (se_n 6 rfl (by first | exact .inl rfl | exact .inr (.inl rfl) | exact .inr (.inr rfl)) rfl rfl) (se_n 2 rfl (by first | exact .inl rfl | exact .inr (.inl rfl) | exact .inr (.inr rfl)) rfl rfl) rfl))))
      (ss_cons (ss_asg (i := 8) nd rfl (by first | exact .inl rfl | exact .inr rfl) (se_c c_fresh_name hG hr tk rfl rfl rfl rfl (sa_c rfl (se_n 6 rfl (by first | exact .inl rfl | exact .inr (.inl rfl) | exact .inr (.inr rfl)) rfl rfl) (sa_c rfl (se_n 5 rfl (by first | exact .inl rfl | exact .inr (.inl rfl) | exact .inr (.inr rfl)) rfl rfl) sa_nil))) rfl (by first | exact .inl rfl | exact .inr rfl))
      (ss_one (ss_put (i := 5) (hu65 hr) rfl (by first | exact .inl rfl | exact .inr (.inl rfl) | exact .inr (.inr rfl)) rfl rfl (se_n 8 rfl (by first | exact .inl rfl | exact .inr (.inl rfl) | exact .inr (.inr rfl)) rfl rfl) se_bl rfl rfl rfl (fun _ => rfl))))
      ss_nil)
    (ss_one (ss_expr (se_app (j := 7) rfl (by first | exact .inl rfl | exact .inr (.inl rfl) | exact .inr (.inr rfl)) rfl rfl (se_tup (sa_c rfl (se_n 6 rfl (by first | exact .inl rfl | exact .inr (.inl rfl) | exact .inr (.inr rfl)) rfl rfl) (sa_c rfl (se_n 8 rfl (by first | exact .inl rfl | exact .inr (.inl rfl) | exact .inr (.inr rfl)) rfl rfl) sa_nil))) rfl rfl rfl rfl) rfl)))) (fun _ => rfl))
  (ss_one (ss_ret (se_n 7 rfl (by first | exact .inl rfl | exact .inr (.inl rfl) | exact .inr (.inr rfl)) rfl rfl)))))))))
theorem sc_laid : FnScope ["one", "other", "same", "names", "rows", "word", "told", "row", "each", "there"] ["one", "other", "same"] (defScope (top 20)) := ⟨rfl, rfl, rfl, by decide +kernel, rfl, by decide +kernel, by decide +kernel⟩
theorem ok_laid {f : Addr} {fd : FuncData} (F : Fun K "laid" "laid" (top 20) f fd) (hm : mg "laid" = some (.ref f)) (hB : Blt mg) (c_new_names : Callee P w K mg base ca 3 "new_names" 3 f_new_names) (c_alike : Callee P w K mg base ca 3 "alike" 2 f_alike) (hX : Xf K mg ca [0, 1, 2, 3, 4, 5, 6, 7, 8]) {t_MOST : Tok} (k_MOST : mg "MOST" = some (.int 60 t_MOST)) : Callee P w K mg base ca 4 "laid" 3 f_laid := by
  refine ⟨f, fd, ["one", "other", "same"], rfl, efn_body (N := ["one", "other", "same", "names", "rows", "word", "told", "row", "each", "there"]) (b := b_laid) F sc_laid fun cdv A outer s H E hg hr => ?_, hm, F.kp, F.binds fun _ _ _ _ _ _ us hl => match us, hl with | [_, _, _], _ => rfl⟩
  have hG : (cxOf (L2.CX P w) P w K mg base ["one", "other", "same", "names", "rows", "word", "told", "row", "each", "there"] "laid" (defScope (top 20)) f cdv A outer s H E).A.guards = some [] := by
    rw [← hg]; exact deeper_guards _ _
  have tk : Takes (cxOf (L2.CX P w) P w K mg base ["one", "other", "same", "names", "rows", "word", "told", "row", "each", "there"] "laid" (defScope (top 20)) f cdv A outer s H E) (fun cls d _ H => E cls d H) := takes_of rfl rfl rfl rfl
  have nd := sc_laid.nd
  have hp : PassesOwn _ _ _ (cxOf (L2.CX P w) P w K mg base ["one", "other", "same", "names", "rows", "word", "told", "row", "each", "there"] "laid" (defScope (top 20)) f cdv A outer s H E).xe := passes_of rfl
  exact (ss_cons (ss_asg (i := 3) nd rfl (by first | exact .inl rfl | exact .inr rfl) (se_dict rfl hB rfl rfl (se_c c_new_names hG hr tk rfl rfl rfl rfl (sa_c rfl (se_n 0 rfl (by first | exact .inl rfl | exact .inr (.inl rfl) | exact .inr (.inr rfl)) rfl rfl) (sa_c rfl (se_n 1 rfl (by first | exact .inl rfl | exact .inr (.inl rfl) | exact .inr (.inr rfl)) rfl rfl) (sa_c rfl (se_n 2 rfl (by first | exact .inl rfl | exact .inr (.inl rfl) | exact .inr (.inr rfl)) rfl rfl) sa_nil))))) rfl (by first | exact .inl rfl | exact .inr rfl))
  (ss_cons (ss_asg (i := 4) nd rfl (by first | exact .inl rfl | exact .inr rfl) (se_list hB rfl rfl (se_n 0 rfl (by first | exact .inl rfl | exact .inr (.inl rfl) | exact .inr (.inr rfl)) rfl rfl)) rfl (by first | exact .inl rfl | exact .inr rfl))
  (ss_cons (ss_for (fg := [5, 6, 7]) hp rfl (si_seq (se_n 1 rfl (by first | exact .inl rfl | exact .inr (.inl rfl) | exact .inr (.inr rfl)) rfl rfl)) (sg_tup rfl (sg_cons (pg_name (i := 5) nd rfl (by first | exact .inl rfl | exact .inr rfl) (by first | exact .inl rfl | exact .inr rfl)) (sg_cons (pg_name (i := 6) nd rfl (by first | exact .inl rfl | exact .inr rfl) (by first | exact .inl rfl | exact .inr rfl)) sg_nil rfl) rfl) rfl rfl)
    (ss_cons (ss_asg (i := 7) nd rfl (by first | exact .inl rfl | exact .inr rfl) (se_tup (sa_c rfl (se_ix (hu65 hr) (se_n 3 rfl (by first | exact .inl rfl | exact .inr (.inl rfl) | exact .inr (.inr rfl)) rfl rfl) (se_n 5 rfl (by first | exact .inl rfl | exact .inr (.inl rfl) | exact .inr (.inr rfl)) rfl rfl) (fun _ _ => rfl)) (sa_c rfl (se_tuple hB rfl rfl (se_lc (own := [("each", 8)]) (by decide) rfl nd (si_seq (se_n 6 rfl (by first | exact .inl rfl | exact .inr (.inl rfl) | exact .inr (.inr rfl)) rfl rfl)) (by exact blkOk_by (by kernel_rfl)) (fun _ _ _ _ _ => (sg_name (i := 8) nd rfl (by first | exact .inl rfl | exact .inr rfl) (by first | exact .inl rfl | exact .inr rfl))) (fun _ _ _ _ _ => st_yes) (fun _ _ _ _ _ => (se_ix (hu65 hr) (se_n 3 rfl (by first | exact .inl rfl | exact .inr (.inl rfl) | exact .inr (.inr rfl)) rfl rfl) (se_n 8 rfl (by first | exact .inl rfl | exact .inr (.inl rfl) | exact .inr (.inr rfl)) rfl rfl) (fun _ _ => rfl))) (fun _ => rfl))) sa_nil))) rfl (by first | exact .inl rfl | exact .inr rfl))
    (ss_one (ss_if (st_not (st_val (se_any rfl hB rfl rfl (se_lc (own := [("there", 9)]) (by decide) rfl nd (si_seq (se_n 4 rfl (by first | exact .inl rfl | exact .inr (.inl rfl) | exact .inr (.inr rfl)) rfl rfl)) (by exact blkOk_by (by kernel_rfl)) (fun _ _ _ _ _ => (sg_name (i := 9) nd rfl (by first | exact .inl rfl | exact .inr rfl) (by first | exact .inl rfl | exact .inr rfl))) (fun _ _ _ _ _ => st_yes) (fun _ _ _ _ _ => (se_c c_alike hG hr takes0 rfl rfl rfl rfl (sa_c rfl (se_n 7 rfl (by first | exact .inl rfl | exact .inr (.inl rfl) | exact .inr (.inr rfl)) rfl rfl) (sa_c rfl (se_n 9 rfl (by first | exact .inl rfl | exact .inr (.inl rfl) | exact .inr (.inr rfl)) rfl rfl) sa_nil)))) (fun _ => rfl))) (fun _ => rfl)))
      (ss_one (ss_expr (se_app (j := 4) rfl (by first | exact .inl rfl | exact .inr (.inl rfl) | exact .inr (.inr rfl)) rfl rfl (se_n 7 rfl (by first | exact .inl rfl | exact .inr (.inl rfl) | exact .inr (.inr rfl)) rfl rfl) rfl rfl rfl rfl) rfl))
      ss_nil))) (fun _ => rfl))
  (ss_cons (ss_if (st_cmp bin_gt (se_len hB rfl rfl (se_n 4 rfl (by first | exact .inl rfl | exact .inr (.inl rfl) | exact .inr (.inr rfl)) rfl rfl)) (se_glob (v := .int 60) rfl k_MOST ⟨_, rfl⟩ rfl (fun _ _ => .int _)) rfl)
    (ss_one (ss_raiseX hX 5 (by decide) rfl tk rfl rfl))
    ss_nil)
  (ss_one (ss_ret (se_tuple hB rfl rfl (se_n 4 rfl (by first | exact .inl rfl | exact .inr (.inl rfl) | exact .inr (.inr rfl)) rfl rfl))))))))
theorem sc__law_tried : FnScope ["_law_way", "_law_one", "_law_other", "_law_same", "_law_told", "e", "_law_others"] ["_law_way", "_law_one", "_law_other", "_law_same"] (defScope (top 25)) := ⟨rfl, rfl, rfl, by decide +kernel, rfl, by decide +kernel, by decide +kernel⟩
theorem ok__law_tried {f : Addr} {fd : FuncData} (F : Fun K "_law_tried" "_law_tried" (top 25) f fd) (hm : mg "_law_tried" = some (.ref f)) (hB : Blt mg) (c_laid : Callee P w K mg base ca 4 "laid" 3 f_laid) (c_new_names : Callee P w K mg base ca 4 "new_names" 3 f_new_names) (hX : Xf K mg ca [0, 1, 2, 3, 4, 5, 6, 7, 8]) : Callee P w K mg base ca 5 "_law_tried" 4 f_l_tried_2 := by
  refine ⟨f, fd, ["_law_way", "_law_one", "_law_other", "_law_same"], rfl, efn_body (N := ["_law_way", "_law_one", "_law_other", "_law_same", "_law_told", "e", "_law_others"]) (b := b_l_tried_2) F sc__law_tried fun cdv A outer s H E hg hr => ?_, hm, F.kp, F.binds fun _ _ _ _ _ _ us hl => match us, hl with | [_, _, _, _], _ => rfl⟩
  have hG : (cxOf (L2.CX P w) P w K mg base ["_law_way", "_law_one", "_law_other", "_law_same", "_law_told", "e", "_law_others"] "_law_tried" (defScope (top 25)) f cdv A outer s H E).A.guards = some [] := by
    rw [← hg]; exact deeper_guards _ _
  have tk : Takes (cxOf (L2.CX P w) P w K mg base ["_law_way", "_law_one", "_law_other", "_law_same", "_law_told", "e", "_law_others"] "_law_tried" (defScope (top 25)) f cdv A outer s H E) (fun cls d _ H => E cls d H) := takes_of rfl rfl rfl rfl
  have nd := sc__law_tried.nd
  have hp : PassesOwn _ _ _ (cxOf (L2.CX P w) P w K mg base ["_law_way", "_law_one", "_law_other", "_law_same", "_law_told", "e", "_law_others"] "_law_tried" (defScope (top 25)) f cdv A outer s H E).xe := passes_of rfl
  exact (ss_cons (ss_asg (i := 4) nd rfl (by first | exact .inl rfl | exact .inr rfl) (se_tup (sa_c rfl se_non (sa_c rfl (se_lst sa_nil) sa_nil))) rfl (by first | exact .inl rfl | exact .inr rfl))
  (ss_cons (ss_try (j := 0) (i := 5) hX (by decide) rfl rfl nd rfl rfl rfl rfl tk
    (fun W' pn' xe' tkb hpb => (ss_one (ss_if (st_cmp (bin_eq (hu64 hr)) (se_n 0 rfl (by first | exact .inl rfl | exact .inr (.inl rfl) | exact .inr (.inr rfl)) rfl rfl) se_int rfl)
      (ss_one (ss_asg (i := 4) nd rfl (by first | exact .inl rfl | exact .inr rfl) (se_tup (sa_c rfl (se_c c_laid hG hr tkb rfl rfl rfl rfl (sa_c rfl (se_n 1 rfl (by first | exact .inl rfl | exact .inr (.inl rfl) | exact .inr (.inr rfl)) rfl rfl) (sa_c rfl (se_n 2 rfl (by first | exact .inl rfl | exact .inr (.inl rfl) | exact .inr (.inr rfl)) rfl rfl) (sa_c rfl (se_n 3 rfl (by first | exact .inl rfl | exact .inr (.inl rfl) | exact .inr (.inr rfl)) rfl rfl) sa_nil)))) (sa_c rfl (se_lst sa_nil) sa_nil))) rfl (by first | exact .inl rfl | exact .inr rfl)))
      (ss_one (ss_asg (i := 4) nd rfl (by first | exact .inl rfl | exact .inr rfl) (se_tup (sa_c rfl (se_c c_new_names hG hr tkb rfl rfl rfl rfl (sa_c rfl (se_n 1 rfl (by first | exact .inl rfl | exact .inr (.inl rfl) | exact .inr (.inr rfl)) rfl rfl) (sa_c rfl (se_n 2 rfl (by first | exact .inl rfl | exact .inr (.inl rfl) | exact .inr (.inr rfl)) rfl rfl) (sa_c rfl (se_n 3 rfl (by first | exact .inl rfl | exact .inr (.inl rfl) | exact .inr (.inr rfl)) rfl rfl) sa_nil)))) (sa_c rfl (se_lst sa_nil) sa_nil))) rfl (by first | exact .inl rfl | exact .inr rfl))))))
    (fun a' pn' => (ss_cons (ss_asg (i := 6) nd rfl (by first | exact .inl rfl | exact .inr rfl) (se_isXT hX [6, 8, 7, 1, 2, 3, 4] (.cons ⟨_, rfl, by decide, rfl, rfl⟩ (.cons ⟨_, rfl, by decide, rfl, rfl⟩ (.cons ⟨_, rfl, by decide, rfl, rfl⟩ (.cons ⟨_, rfl, by decide, rfl, rfl⟩ (.cons ⟨_, rfl, by decide, rfl, rfl⟩ (.cons ⟨_, rfl, by decide, rfl, rfl⟩ (.cons ⟨_, rfl, by decide, rfl, rfl⟩ .nil))))))) (by decide) (by decide) (se_n 5 rfl (by first | exact .inl rfl | exact .inr (.inl rfl) | exact .inr (.inr rfl)) rfl rfl) rfl hB.isi rfl) rfl (by first | exact .inl rfl | exact .inr rfl))
    (ss_one (ss_asg (i := 4) nd rfl (by first | exact .inl rfl | exact .inr rfl) (se_tup (sa_c rfl se_non (sa_c rfl (se_lst (sa_c rfl (se_isX hX 5 (by decide) (se_n 5 rfl (by first | exact .inl rfl | exact .inr (.inl rfl) | exact .inr (.inr rfl)) rfl rfl) rfl hB.isi rfl rfl rfl) (sa_c rfl (se_isV hX (se_n 5 rfl (by first | exact .inl rfl | exact .inr (.inl rfl) | exact .inr (.inr rfl)) rfl rfl) rfl hB.isi rfl rfl) (sa_c rfl (se_n 6 rfl (by first | exact .inl rfl | exact .inr (.inl rfl) | exact .inr (.inr rfl)) rfl rfl) sa_nil)))) sa_nil))) rfl (by first | exact .inl rfl | exact .inr rfl))))))
  (ss_one (ss_ret (se_n 4 rfl (by first | exact .inl rfl | exact .inr (.inl rfl) | exact .inr (.inr rfl)) rfl rfl)))))
theorem sc__law_over_full : FnScope ["_law_one", "_law_words", "_law_number", "_law_wide", "_law_other", "_law_word"] ["_law_one", "_law_words", "_law_number"] (defScope (top 28)) := ⟨rfl, rfl, rfl, by decide +kernel, rfl, by decide +kernel, by decide +kernel⟩
theorem ok__law_over_full {f : Addr} {fd : FuncData} (F : Fun K "_law_over_full" "_law_over_full" (top 28) f fd) (hm : mg "_law_over_full" = some (.ref f)) (hB : Blt mg) (c__law_tried : Callee P w K mg base ca 5 "_law_tried" 4 f_l_tried_2) : Callee P w K mg base ca 6 "_law_over_full" 3 f_l_over_full_2 := by
  refine ⟨f, fd, ["_law_one", "_law_words", "_law_number"], rfl, efn_body (N := ["_law_one", "_law_words", "_law_number", "_law_wide", "_law_other", "_law_word"]) (b := b_l_over_full_2) F sc__law_over_full fun cdv A outer s H E hg hr => ?_, hm, F.kp, F.binds fun _ _ _ _ _ _ us hl => match us, hl with | [_, _, _], _ => rfl⟩
  have hG : (cxOf (L2.CX P w) P w K mg base ["_law_one", "_law_words", "_law_number", "_law_wide", "_law_other", "_law_word"] "_law_over_full" (defScope (top 28)) f cdv A outer s H E).A.guards = some [] := by
    rw [← hg]; exact deeper_guards _ _
  have tk : Takes (cxOf (L2.CX P w) P w K mg base ["_law_one", "_law_words", "_law_number", "_law_wide", "_law_other", "_law_word"] "_law_over_full" (defScope (top 28)) f cdv A outer s H E) (fun cls d _ H => E cls d H) := takes_of rfl rfl rfl rfl
  have nd := sc__law_over_full.nd
  have hp : PassesOwn _ _ _ (cxOf (L2.CX P w) P w K mg base ["_law_one", "_law_words", "_law_number", "_law_wide", "_law_other", "_law_word"] "_law_over_full" (defScope (top 28)) f cdv A outer s H E).xe := passes_of rfl
  exact (ss_cons (ss_asg (i := 3) nd rfl (by first | exact .inl rfl | exact .inr rfl) (se_bin bin_add (se_n 0 rfl (by first | exact .inl rfl | exact .inr (.inl rfl) | exact .inr (.inr rfl)) rfl rfl) (se_tuple hB rfl rfl (se_lc (own := [("_law_word", 5)]) (by decide) rfl nd (si_seq (se_slice (se_n 1 rfl (by first | exact .inl rfl | exact .inr (.inl rfl) | exact .inr (.inr rfl)) rfl rfl) so_none (so_some (se_bin bin_add se_int (se_bin bin_mod (se_n 2 rfl (by first | exact .inl rfl | exact .inr (.inl rfl) | exact .inr (.inr rfl)) rfl rfl) (se_len hB rfl rfl (se_n 1 rfl (by first | exact .inl rfl | exact .inr (.inl rfl) | exact .inr (.inr rfl)) rfl rfl))))))) (by exact blkOk_by (by kernel_rfl)) (fun _ _ _ _ _ => (sg_name (i := 5) nd rfl (by first | exact .inl rfl | exact .inr rfl) (by first | exact .inl rfl | exact .inr rfl))) (fun _ _ _ _ _ => st_yes) (fun _ _ _ _ _ => (se_tup (sa_c rfl (se_n 5 rfl (by first | exact .inl rfl | exact .inr (.inl rfl) | exact .inr (.inr rfl)) rfl rfl) (sa_c rfl (se_tup sa_nil) sa_nil)))) (fun _ => rfl)))) rfl (by first | exact .inl rfl | exact .inr rfl))
  (ss_cons (ss_for (fg := [4]) hp rfl (si_seq (se_lst (sa_c rfl (se_tup sa_nil) (sa_c rfl (se_slice (se_n 0 rfl (by first | exact .inl rfl | exact .inr (.inl rfl) | exact .inr (.inr rfl)) rfl rfl) so_none (so_some (se_bin bin_mod (se_n 2 rfl (by first | exact .inl rfl | exact .inr (.inl rfl) | exact .inr (.inr rfl)) rfl rfl) se_int))) (sa_c rfl (se_n 3 rfl (by first | exact .inl rfl | exact .inr (.inl rfl) | exact .inr (.inr rfl)) rfl rfl) sa_nil))))) (sg_name (i := 4) nd rfl (by first | exact .inl rfl | exact .inr rfl) (by first | exact .inl rfl | exact .inr rfl))
    (ss_one (ss_if (st_cmp (bin_ne (hu64 hr)) (se_c c__law_tried hG hr tk rfl rfl rfl rfl (sa_c rfl se_int (sa_c rfl (se_n 3 rfl (by first | exact .inl rfl | exact .inr (.inl rfl) | exact .inr (.inr rfl)) rfl rfl) (sa_c rfl (se_n 4 rfl (by first | exact .inl rfl | exact .inr (.inl rfl) | exact .inr (.inr rfl)) rfl rfl) (sa_c rfl (se_n 1 rfl (by first | exact .inl rfl | exact .inr (.inl rfl) | exact .inr (.inr rfl)) rfl rfl) sa_nil))))) (se_tup (sa_c rfl se_non (sa_c rfl (se_lst (sa_c rfl se_bl (sa_c rfl se_bl (sa_c rfl se_bl sa_nil)))) sa_nil))) rfl)
      (ss_one (ss_ret se_bl))
      ss_nil)) (fun _ => rfl))
  (ss_one (ss_ret (se_cmp (bin_eq (hu64 hr)) (se_c c__law_tried hG hr tk rfl rfl rfl rfl (sa_c rfl se_int (sa_c rfl (se_n 3 rfl (by first | exact .inl rfl | exact .inr (.inl rfl) | exact .inr (.inr rfl)) rfl rfl) (sa_c rfl (se_slice (se_n 0 rfl (by first | exact .inl rfl | exact .inr (.inl rfl) | exact .inr (.inr rfl)) rfl rfl) so_none (so_some se_int)) (sa_c rfl (se_n 1 rfl (by first | exact .inl rfl | exact .inr (.inl rfl) | exact .inr (.inr rfl)) rfl rfl) sa_nil))))) (se_tup (sa_c rfl (se_ix (hu65 hr) (se_c c__law_tried hG hr tk rfl rfl rfl rfl (sa_c rfl se_int (sa_c rfl (se_n 0 rfl (by first | exact .inl rfl | exact .inr (.inl rfl) | exact .inr (.inr rfl)) rfl rfl) (sa_c rfl (se_slice (se_n 0 rfl (by first | exact .inl rfl | exact .inr (.inl rfl) | exact .inr (.inr rfl)) rfl rfl) so_none (so_some se_int)) (sa_c rfl (se_n 1 rfl (by first | exact .inl rfl | exact .inr (.inl rfl) | exact .inr (.inr rfl)) rfl rfl) sa_nil))))) se_int (fun _ _ => rfl)) (sa_c rfl (se_lst sa_nil) sa_nil))) rfl)))))
theorem sc__law_picked : FnScope ["_law_words", "_law_begin", "_law_step", "_law_many", "_law_rows", "_law_k", "_law_at"] ["_law_words", "_law_begin", "_law_step", "_law_many"] (defScope (top 26)) := ⟨rfl, rfl, rfl, by decide +kernel, rfl, by decide +kernel, by decide +kernel⟩
theorem ok__law_picked {f : Addr} {fd : FuncData} (F : Fun K "_law_picked" "_law_picked" (top 26) f fd) (hm : mg "_law_picked" = some (.ref f)) (hB : Blt mg) : Callee P w K mg base ca 1 "_law_picked" 4 f_l_picked := by
  refine ⟨f, fd, ["_law_words", "_law_begin", "_law_step", "_law_many"], rfl, efn_body (N := ["_law_words", "_law_begin", "_law_step", "_law_many", "_law_rows", "_law_k", "_law_at"]) (b := b_l_picked) F sc__law_picked fun cdv A outer s H E hg hr => ?_, hm, F.kp, F.binds fun _ _ _ _ _ _ us hl => match us, hl with | [_, _, _, _], _ => rfl⟩
  have hG : (cxOf (L2.CX P w) P w K mg base ["_law_words", "_law_begin", "_law_step", "_law_many", "_law_rows", "_law_k", "_law_at"] "_law_picked" (defScope (top 26)) f cdv A outer s H E).A.guards = some [] := by
    rw [← hg]; exact deeper_guards _ _
  have tk : Takes (cxOf (L2.CX P w) P w K mg base ["_law_words", "_law_begin", "_law_step", "_law_many", "_law_rows", "_law_k", "_law_at"] "_law_picked" (defScope (top 26)) f cdv A outer s H E) (fun cls d _ H => E cls d H) := takes_of rfl rfl rfl rfl
  have nd := sc__law_picked.nd
  have hp : PassesOwn _ _ _ (cxOf (L2.CX P w) P w K mg base ["_law_words", "_law_begin", "_law_step", "_law_many", "_law_rows", "_law_k", "_law_at"] "_law_picked" (defScope (top 26)) f cdv A outer s H E).xe := passes_of rfl
  exact (ss_cons (ss_asg (i := 4) nd rfl (by first | exact .inl rfl | exact .inr rfl) (se_lst sa_nil) rfl (by first | exact .inl rfl | exact .inr rfl))
  (ss_cons (ss_for (fg := [5, 6]) hp rfl (si_rng1 rfl hB.range (sa_c rfl (se_n 3 rfl (by first | exact .inl rfl | exact .inr (.inl rfl) | exact .inr (.inr rfl)) rfl rfl) sa_nil) rfl) (sg_name (i := 5) nd rfl (by first | exact .inl rfl | exact .inr rfl) (by first | exact .inl rfl | exact .inr rfl))
    (ss_cons (ss_asg (i := 6) nd rfl (by first | exact .inl rfl | exact .inr rfl) (se_bin bin_mod (se_bin bin_add (se_n 1 rfl (by first | exact .inl rfl | exact .inr (.inl rfl) | exact .inr (.inr rfl)) rfl rfl) (se_bin bin_mul (se_n 2 rfl (by first | exact .inl rfl | exact .inr (.inl rfl) | exact .inr (.inr rfl)) rfl rfl) (se_n 5 rfl (by first | exact .inl rfl | exact .inr (.inl rfl) | exact .inr (.inr rfl)) rfl rfl))) se_int) rfl (by first | exact .inl rfl | exact .inr rfl))
    (ss_one (ss_expr (se_app (j := 4) rfl (by first | exact .inl rfl | exact .inr (.inl rfl) | exact .inr (.inr rfl)) rfl rfl (se_tup (sa_c rfl (se_ix (hu65 hr) (se_n 0 rfl (by first | exact .inl rfl | exact .inr (.inl rfl) | exact .inr (.inr rfl)) rfl rfl) (se_bin bin_mod (se_n 6 rfl (by first | exact .inl rfl | exact .inr (.inl rfl) | exact .inr (.inr rfl)) rfl rfl) se_int) (fun _ _ => rfl)) (sa_c rfl (se_tup (sa_c rfl (se_ix (hu65 hr) (se_n 0 rfl (by first | exact .inl rfl | exact .inr (.inl rfl) | exact .inr (.inr rfl)) rfl rfl) (se_bin bin_fdiv (se_n 6 rfl (by first | exact .inl rfl | exact .inr (.inl rfl) | exact .inr (.inr rfl)) rfl rfl) se_int) (fun _ _ => rfl)) sa_nil)) sa_nil))) rfl rfl rfl rfl) rfl))) (fun _ => rfl))
  (ss_one (ss_ret (se_tuple hB rfl rfl (se_n 4 rfl (by first | exact .inl rfl | exact .inr (.inl rfl) | exact .inr (.inr rfl)) rfl rfl))))))
theorem sc__law_full : FnScope ["_law_script", "_law_drawn_here", "_law_letters", "_law_words", "_law_many", "_law_more", "_law_one", "_law_other", "_law_same", "_law_mine", "_law_given", "_law_word", "_law_rows", "_law_some", "_law_found", "_law_row", "_law_k"] ["_law_script"] (defScope (top 27)) := ⟨rfl, rfl, rfl, by decide +kernel, rfl, by decide +kernel, by decide +kernel⟩
theorem ok__law_full {f : Addr} {fd : FuncData} (F : Fun K "_law_full" "_law_full" (top 27) f fd) (hm : mg "_law_full" = some (.ref f)) (hB : Blt mg) (c__law_drawn : Callee P w K mg base ca 6 "_law_drawn" 2 f_l_drawn) (c__law_cell : Callee P w K mg base ca 6 "_law_cell" 2 f_l_cell) (c__law_picked : Callee P w K mg base ca 6 "_law_picked" 4 f_l_picked) (c__law_tried : Callee P w K mg base ca 6 "_law_tried" 4 f_l_tried_2) (c__law_over_full : Callee P w K mg base ca 6 "_law_over_full" 3 f_l_over_full_2) : Callee P w K mg base ca 7 "_law_full" 1 f_l_full_2 := by
  refine ⟨f, fd, ["_law_script"], rfl, efn_body (N := ["_law_script", "_law_drawn_here", "_law_letters", "_law_words", "_law_many", "_law_more", "_law_one", "_law_other", "_law_same", "_law_mine", "_law_given", "_law_word", "_law_rows", "_law_some", "_law_found", "_law_row", "_law_k"]) (b := b_l_full_2) F sc__law_full fun cdv A outer s H E hg hr => ?_, hm, F.kp, F.binds fun _ _ _ _ _ _ us hl => match us, hl with | [_], _ => rfl⟩
  have hG : (cxOf (L2.CX P w) P w K mg base ["_law_script", "_law_drawn_here", "_law_letters", "_law_words", "_law_many", "_law_more", "_law_one", "_law_other", "_law_same", "_law_mine", "_law_given", "_law_word", "_law_rows", "_law_some", "_law_found", "_law_row", "_law_k"] "_law_full" (defScope (top 27)) f cdv A outer s H E).A.guards = some [] := by
    rw [← hg]; exact deeper_guards _ _
  have tk : Takes (cxOf (L2.CX P w) P w K mg base ["_law_script", "_law_drawn_here", "_law_letters", "_law_words", "_law_many", "_law_more", "_law_one", "_law_other", "_law_same", "_law_mine", "_law_given", "_law_word", "_law_rows", "_law_some", "_law_found", "_law_row", "_law_k"] "_law_full" (defScope (top 27)) f cdv A outer s H E) (fun cls d _ H => E cls d H) := takes_of rfl rfl rfl rfl
  have nd := sc__law_full.nd
  have hp : PassesOwn _ _ _ (cxOf (L2.CX P w) P w K mg base ["_law_script", "_law_drawn_here", "_law_letters", "_law_words", "_law_many", "_law_more", "_law_one", "_law_other", "_law_same", "_law_mine", "_law_given", "_law_word", "_law_rows", "_law_some", "_law_found", "_law_row", "_law_k"] "_law_full" (defScope (top 27)) f cdv A outer s H E).xe := passes_of rfl
  exact (ss_cons (ss_asg (i := 1) nd rfl (by first | exact .inl rfl | exact .inr rfl) (se_c c__law_drawn hG hr tk rfl rfl rfl rfl (sa_c rfl (se_c c__law_cell hG hr tk rfl rfl rfl rfl (sa_c rfl (se_n 0 rfl (by first | exact .inl rfl | exact .inr (.inl rfl) | exact .inr (.inr rfl)) rfl rfl) (sa_c rfl se_int sa_nil))) (sa_c rfl se_int sa_nil))) rfl (by first | exact .inl rfl | exact .inr rfl))
  (ss_cons (ss_asg (i := 2) nd rfl (by first | exact .inl rfl | exact .inr rfl) se_str rfl (by first | exact .inl rfl | exact .inr rfl))
  (ss_cons (ss_asg (i := 3) nd rfl (by first | exact .inl rfl | exact .inr rfl) (se_lc (own := [("_law_k", 16)]) (by decide) rfl nd (si_rng1 rfl hB.range (sa_c rfl se_int sa_nil) rfl) (by exact blkOk_by (by kernel_rfl)) (fun _ _ _ _ _ => (sg_name (i := 16) nd rfl (by first | exact .inl rfl | exact .inr rfl) (by first | exact .inl rfl | exact .inr rfl))) (fun _ _ _ _ _ => st_yes) (fun _ _ _ _ _ => (se_ix (hu65 hr) (se_n 2 rfl (by first | exact .inl rfl | exact .inr (.inl rfl) | exact .inr (.inr rfl)) rfl rfl) (se_bin bin_add (se_bin bin_mod (se_ix (hu65 hr) (se_n 1 rfl (by first | exact .inl rfl | exact .inr (.inl rfl) | exact .inr (.inr rfl)) rfl rfl) se_int (fun _ _ => rfl)) se_int) (se_n 16 rfl (by first | exact .inl rfl | exact .inr (.inl rfl) | exact .inr (.inr rfl)) rfl rfl)) (fun _ _ => rfl))) (fun _ => rfl)) rfl (by first | exact .inl rfl | exact .inr rfl))
  (ss_cons (ss_asg (i := 4) nd rfl (by first | exact .inl rfl | exact .inr rfl) (se_ix (hu65 hr) (se_lst (sa_c rfl se_int (sa_c rfl se_int (sa_c rfl se_int (sa_c rfl se_int (sa_c rfl (se_bin bin_mod (se_ix (hu65 hr) (se_n 1 rfl (by first | exact .inl rfl | exact .inr (.inl rfl) | exact .inr (.inr rfl)) rfl rfl) se_int (fun _ _ => rfl)) se_int) sa_nil)))))) (se_bin bin_mod (se_ix (hu65 hr) (se_n 1 rfl (by first | exact .inl rfl | exact .inr (.inl rfl) | exact .inr (.inr rfl)) rfl rfl) se_int (fun _ _ => rfl)) se_int) (fun _ _ => rfl)) rfl (by first | exact .inl rfl | exact .inr rfl))
  (ss_cons (ss_asg (i := 5) nd rfl (by first | exact .inl rfl | exact .inr rfl) (se_min rfl hB rfl rfl rfl se_int (se_ix (hu65 hr) (se_lst (sa_c rfl (se_bin bin_sub se_int (se_n 4 rfl (by first | exact .inl rfl | exact .inr (.inl rfl) | exact .inr (.inr rfl)) rfl rfl)) (sa_c rfl (se_bin bin_sub se_int (se_n 4 rfl (by first | exact .inl rfl | exact .inr (.inl rfl) | exact .inr (.inr rfl)) rfl rfl)) (sa_c rfl se_int (sa_c rfl (se_bin bin_mod (se_ix (hu65 hr) (se_n 1 rfl (by first | exact .inl rfl | exact .inr (.inl rfl) | exact .inr (.inr rfl)) rfl rfl) se_int (fun _ _ => rfl)) se_int) sa_nil))))) (se_bin bin_mod (se_ix (hu65 hr) (se_n 1 rfl (by first | exact .inl rfl | exact .inr (.inl rfl) | exact .inr (.inr rfl)) rfl rfl) se_int (fun _ _ => rfl)) se_int) (fun _ _ => rfl))) rfl (by first | exact .inl rfl | exact .inr rfl))
  (ss_cons (ss_asg (i := 6) nd rfl (by first | exact .inl rfl | exact .inr rfl) (se_c c__law_picked hG hr tk rfl rfl rfl rfl (sa_c rfl (se_n 3 rfl (by first | exact .inl rfl | exact .inr (.inl rfl) | exact .inr (.inr rfl)) rfl rfl) (sa_c rfl (se_ix (hu65 hr) (se_n 1 rfl (by first | exact .inl rfl | exact .inr (.inl rfl) | exact .inr (.inr rfl)) rfl rfl) se_int (fun _ _ => rfl)) (sa_c rfl (se_bin bin_add se_int (se_bin bin_mul se_int (se_bin bin_mod (se_ix (hu65 hr) (se_n 1 rfl (by first | exact .inl rfl | exact .inr (.inl rfl) | exact .inr (.inr rfl)) rfl rfl) se_int (fun _ _ => rfl)) se_int))) (sa_c rfl (se_n 4 rfl (by first | exact .inl rfl | exact .inr (.inl rfl) | exact .inr (.inr rfl)) rfl rfl) sa_nil))))) rfl (by first | exact .inl rfl | exact .inr rfl))
  (ss_cons (ss_asg (i := 7) nd rfl (by first | exact .inl rfl | exact .inr rfl) (se_c c__law_picked hG hr tk rfl rfl rfl rfl (sa_c rfl (se_n 3 rfl (by first | exact .inl rfl | exact .inr (.inl rfl) | exact .inr (.inr rfl)) rfl rfl) (sa_c rfl (se_ix (hu65 hr) (se_n 1 rfl (by first | exact .inl rfl | exact .inr (.inl rfl) | exact .inr (.inr rfl)) rfl rfl) se_int (fun _ _ => rfl)) (sa_c rfl (se_bin bin_add se_int (se_bin bin_mul se_int (se_bin bin_mod (se_ix (hu65 hr) (se_n 1 rfl (by first | exact .inl rfl | exact .inr (.inl rfl) | exact .inr (.inr rfl)) rfl rfl) se_int (fun _ _ => rfl)) se_int))) (sa_c rfl (se_n 5 rfl (by first | exact .inl rfl | exact .inr (.inl rfl) | exact .inr (.inr rfl)) rfl rfl) sa_nil))))) rfl (by first | exact .inl rfl | exact .inr rfl))
  (ss_cons (ss_setLc (i := 8) (own := [("_law_k", 16)]) (by decide) rfl nd rfl rfl (sw_true rfl rfl rfl (by decide +kernel)) (si_rng1 rfl hB.range (sa_c rfl se_int sa_nil) rfl) (by exact blkOk_by (by kernel_rfl)) (fun _ _ _ _ _ => (sg_name (i := 16) nd rfl (by first | exact .inl rfl | exact .inr rfl) (by first | exact .inl rfl | exact .inr rfl))) (fun _ _ _ _ _ => (st_ifone (PW.pt (st_or (st_cmp (bin_eq (hu64 hr)) (se_bin bin_mod (se_ix (hu65 hr) (se_n 1 rfl (by first | exact .inl rfl | exact .inr (.inl rfl) | exact .inr (.inr rfl)) rfl rfl) (se_bin bin_add se_int (se_n 16 rfl (by first | exact .inl rfl | exact .inr (.inl rfl) | exact .inr (.inr rfl)) rfl rfl)) (fun _ _ => rfl)) se_int) se_int rfl) (st_or1 (st_cmp (bin_eq (hu64 hr)) (se_bin bin_mod (se_ix (hu65 hr) (se_n 1 rfl (by first | exact .inl rfl | exact .inr (.inl rfl) | exact .inr (.inr rfl)) rfl rfl) se_int (fun _ _ => rfl)) se_int) se_int rfl)))))) (fun _ _ _ _ _ => (se_ix (hu65 hr) (se_n 3 rfl (by first | exact .inl rfl | exact .inr (.inl rfl) | exact .inr (.inr rfl)) rfl rfl) (se_n 16 rfl (by first | exact .inl rfl | exact .inr (.inl rfl) | exact .inr (.inr rfl)) rfl rfl) (fun _ _ => rfl))) (fun _ => rfl))
  (ss_cons (ss_if (st_cmp (bin_eq (hu64 hr)) (se_bin bin_mod (se_ix (hu65 hr) (se_n 1 rfl (by first | exact .inl rfl | exact .inr (.inl rfl) | exact .inr (.inr rfl)) rfl rfl) se_int (fun _ _ => rfl)) se_int) se_int rfl)
    (ss_one (ss_asg (i := 8) nd rfl (by first | exact .inl rfl | exact .inr rfl) (se_lst sa_nil) rfl (by first | exact .inl rfl | exact .inr rfl)))
    ss_nil)
  (ss_cons (ss_asg (i := 9) nd rfl (by first | exact .inl rfl | exact .inr rfl) (se_bin bin_add (se_lc (own := [("_law_row", 15)]) (by decide) rfl nd (si_seq (se_n 6 rfl (by first | exact .inl rfl | exact .inr (.inl rfl) | exact .inr (.inr rfl)) rfl rfl)) (by exact blkOk_by (by kernel_rfl)) (fun _ _ _ _ _ => (sg_name (i := 15) nd rfl (by first | exact .inl rfl | exact .inr rfl) (by first | exact .inl rfl | exact .inr rfl))) (fun _ _ _ _ _ => st_yes) (fun _ _ _ _ _ => (se_ix (hu65 hr) (se_n 15 rfl (by first | exact .inl rfl | exact .inr (.inl rfl) | exact .inr (.inr rfl)) rfl rfl) se_int (fun _ _ => rfl))) (fun _ => rfl)) (se_lc (own := [("_law_row", 15)]) (by decide) rfl nd (si_seq (se_n 6 rfl (by first | exact .inl rfl | exact .inr (.inl rfl) | exact .inr (.inr rfl)) rfl rfl)) (by exact blkOk_by (by kernel_rfl)) (fun _ _ _ _ _ => (sg_name (i := 15) nd rfl (by first | exact .inl rfl | exact .inr rfl) (by first | exact .inl rfl | exact .inr rfl))) (fun _ _ _ _ _ => st_yes) (fun _ _ _ _ _ => (se_ix (hu65 hr) (se_ix (hu65 hr) (se_n 15 rfl (by first | exact .inl rfl | exact .inr (.inl rfl) | exact .inr (.inr rfl)) rfl rfl) se_int (fun _ _ => rfl)) se_int (fun _ _ => rfl))) (fun _ => rfl))) rfl (by first | exact .inl rfl | exact .inr rfl))
  (ss_cons (ss_asg (i := 10) nd rfl (by first | exact .inl rfl | exact .inr rfl) se_dic0 rfl (by first | exact .inl rfl | exact .inr rfl))
  (ss_cons (ss_for (fg := [11]) hp rfl (si_seq (se_n 3 rfl (by first | exact .inl rfl | exact .inr (.inl rfl) | exact .inr (.inr rfl)) rfl rfl)) (sg_name (i := 11) nd rfl (by first | exact .inl rfl | exact .inr rfl) (by first | exact .inl rfl | exact .inr rfl))
    (ss_cons (ss_put (i := 10) (hu65 hr) rfl (by first | exact .inl rfl | exact .inr (.inl rfl) | exact .inr (.inr rfl)) rfl rfl (se_n 11 rfl (by first | exact .inl rfl | exact .inr (.inl rfl) | exact .inr (.inr rfl)) rfl rfl) (se_n 11 rfl (by first | exact .inl rfl | exact .inr (.inl rfl) | exact .inr (.inr rfl)) rfl rfl) rfl rfl rfl (fun _ => rfl))
    (ss_one (ss_if (PW.pt (st_and (st_cmp (bin_in (hu65 hr)) (se_n 11 rfl (by first | exact .inl rfl | exact .inr (.inl rfl) | exact .inr (.inr rfl)) rfl rfl) (se_n 9 rfl (by first | exact .inl rfl | exact .inr (.inl rfl) | exact .inr (.inr rfl)) rfl rfl) rfl) (st_and1 (st_cmp (bin_notin (hu65 hr)) (se_n 11 rfl (by first | exact .inl rfl | exact .inr (.inl rfl) | exact .inr (.inr rfl)) rfl rfl) (se_n 8 rfl (by first | exact .inl rfl | exact .inr (.inl rfl) | exact .inr (.inr rfl)) rfl rfl) rfl))))
      (ss_one (ss_put (i := 10) (hu65 hr) rfl (by first | exact .inl rfl | exact .inr (.inl rfl) | exact .inr (.inr rfl)) rfl rfl (se_n 11 rfl (by first | exact .inl rfl | exact .inr (.inl rfl) | exact .inr (.inr rfl)) rfl rfl) (se_bin bin_add (se_n 11 rfl (by first | exact .inl rfl | exact .inr (.inl rfl) | exact .inr (.inr rfl)) rfl rfl) se_str) rfl rfl rfl (fun _ => rfl)))
      ss_nil))) (fun _ => rfl))
  (ss_cons (ss_asg (i := 12) nd rfl (by first | exact .inl rfl | exact .inr rfl) (se_list hB rfl rfl (se_n 6 rfl (by first | exact .inl rfl | exact .inr (.inl rfl) | exact .inr (.inr rfl)) rfl rfl)) rfl (by first | exact .inl rfl | exact .inr rfl))
  (ss_cons (ss_for (fg := [11, 13, 15]) hp rfl (si_seq (se_n 7 rfl (by first | exact .inl rfl | exact .inr (.inl rfl) | exact .inr (.inr rfl)) rfl rfl)) (sg_tup rfl (sg_cons (pg_name (i := 11) nd rfl (by first | exact .inl rfl | exact .inr rfl) (by first | exact .inl rfl | exact .inr rfl)) (sg_cons (pg_name (i := 13) nd rfl (by first | exact .inl rfl | exact .inr rfl) (by first | exact .inl rfl | exact .inr rfl)) sg_nil rfl) rfl) rfl rfl)
    (ss_cons (ss_asg (i := 15) nd rfl (by first | exact .inl rfl | exact .inr rfl) (se_tup (sa_c rfl (se_ix (hu65 hr) (se_n 10 rfl (by first | exact .inl rfl | exact .inr (.inl rfl) | exact .inr (.inr rfl)) rfl rfl) (se_n 11 rfl (by first | exact .inl rfl | exact .inr (.inl rfl) | exact .inr (.inr rfl)) rfl rfl) (fun _ _ => rfl)) (sa_c rfl (se_tup (sa_c rfl (se_ix (hu65 hr) (se_n 10 rfl (by first | exact .inl rfl | exact .inr (.inl rfl) | exact .inr (.inr rfl)) rfl rfl) (se_ix (hu65 hr) (se_n 13 rfl (by first | exact .inl rfl | exact .inr (.inl rfl) | exact .inr (.inr rfl)) rfl rfl) se_int (fun _ _ => rfl)) (fun _ _ => rfl)) sa_nil)) sa_nil))) rfl (by first | exact .inl rfl | exact .inr rfl))
    (ss_one (ss_if (st_cmp (bin_notin (hu65 hr)) (se_n 15 rfl (by first | exact .inl rfl | exact .inr (.inl rfl) | exact .inr (.inr rfl)) rfl rfl) (se_n 12 rfl (by first | exact .inl rfl | exact .inr (.inl rfl) | exact .inr (.inr rfl)) rfl rfl) rfl)
      (ss_one (ss_expr (se_app (j := 12) rfl (by first | exact .inl rfl | exact .inr (.inl rfl) | exact .inr (.inr rfl)) rfl rfl (se_n 15 rfl (by first | exact .inl rfl | exact .inr (.inl rfl) | exact .inr (.inr rfl)) rfl rfl) rfl rfl rfl rfl) rfl))
      ss_nil))) (fun _ => rfl))
  (ss_cons (ss_asg (i := 14) nd rfl (by first | exact .inl rfl | exact .inr rfl) (se_c c__law_tried hG hr tk rfl rfl rfl rfl (sa_c rfl se_int (sa_c rfl (se_n 6 rfl (by first | exact .inl rfl | exact .inr (.inl rfl) | exact .inr (.inr rfl)) rfl rfl) (sa_c rfl (se_n 7 rfl (by first | exact .inl rfl | exact .inr (.inl rfl) | exact .inr (.inr rfl)) rfl rfl) (sa_c rfl (se_n 8 rfl (by first | exact .inl rfl | exact .inr (.inl rfl) | exact .inr (.inr rfl)) rfl rfl) sa_nil))))) rfl (by first | exact .inl rfl | exact .inr rfl))
  (ss_cons (ss_if (st_cmp bin_gt (se_len hB rfl rfl (se_n 12 rfl (by first | exact .inl rfl | exact .inr (.inl rfl) | exact .inr (.inr rfl)) rfl rfl)) se_int rfl)
    (ss_one (ss_ret (se_cmp (bin_eq (hu64 hr)) (se_n 14 rfl (by first | exact .inl rfl | exact .inr (.inl rfl) | exact .inr (.inr rfl)) rfl rfl) (se_tup (sa_c rfl se_non (sa_c rfl (se_lst (sa_c rfl se_bl (sa_c rfl se_bl (sa_c rfl se_bl sa_nil)))) sa_nil))) rfl)))
    ss_nil)
  (ss_cons (ss_if (PW.pt (st_and (st_cmp (bin_eq (hu64 hr)) (se_n 4 rfl (by first | exact .inl rfl | exact .inr (.inl rfl) | exact .inr (.inr rfl)) rfl rfl) se_int rfl) (st_and1 (st_not (st_val (se_c c__law_over_full hG hr tk rfl rfl rfl rfl (sa_c rfl (se_n 6 rfl (by first | exact .inl rfl | exact .inr (.inl rfl) | exact .inr (.inr rfl)) rfl rfl) (sa_c rfl (se_sorted rfl hr hB rfl rfl (se_setC rfl hr hB rfl rfl (se_n 9 rfl (by first | exact .inl rfl | exact .inr (.inl rfl) | exact .inr (.inr rfl)) rfl rfl))) (sa_c rfl (se_ix (hu65 hr) (se_n 1 rfl (by first | exact .inl rfl | exact .inr (.inl rfl) | exact .inr (.inr rfl)) rfl rfl) se_int (fun _ _ => rfl)) sa_nil)))) (fun _ => rfl))))))
    (ss_one (ss_ret se_bl))
    ss_nil)
  (ss_one (ss_ret (se_cmp (bin_eq (hu64 hr)) (se_n 14 rfl (by first | exact .inl rfl | exact .inr (.inl rfl) | exact .inr (.inr rfl)) rfl rfl) (se_tup (sa_c rfl (se_tuple hB rfl rfl (se_n 12 rfl (by first | exact .inl rfl | exact .inr (.inl rfl) | exact .inr (.inr rfl)) rfl rfl)) (sa_c rfl (se_lst sa_nil) sa_nil))) rfl))))))))))))))))))))
theorem sc__law_senses : FnScope ["_law_script", "_law_drawn_here", "_law_letters", "_law_stem", "_law_left", "_law_words", "_law_head", "_law_one", "_law_some", "_law_other", "_law_told", "_law_names", "_law_due", "_law_number", "_law_k", "_law_word", "_law_name"] ["_law_script"] (defScope (top 29)) := ⟨rfl, rfl, rfl, by decide +kernel, rfl, by decide +kernel, by decide +kernel⟩
theorem ok__law_senses {f : Addr} {fd : FuncData} (F : Fun K "_law_senses" "_law_senses" (top 29) f fd) (hm : mg "_law_senses" = some (.ref f)) (hB : Blt mg) (c__law_drawn : Callee P w K mg base ca 5 "_law_drawn" 2 f_l_drawn) (c__law_cell : Callee P w K mg base ca 5 "_law_cell" 2 f_l_cell) (c__law_tried : Callee P w K mg base ca 5 "_law_tried" 4 f_l_tried_2) : Callee P w K mg base ca 6 "_law_senses" 1 f_l_senses_3 := by
  refine ⟨f, fd, ["_law_script"], rfl, efn_body (N := ["_law_script", "_law_drawn_here", "_law_letters", "_law_stem", "_law_left", "_law_words", "_law_head", "_law_one", "_law_some", "_law_other", "_law_told", "_law_names", "_law_due", "_law_number", "_law_k", "_law_word", "_law_name"]) (b := b_l_senses_3) F sc__law_senses fun cdv A outer s H E hg hr => ?_, hm, F.kp, F.binds fun _ _ _ _ _ _ us hl => match us, hl with | [_], _ => rfl⟩
  have hG : (cxOf (L2.CX P w) P w K mg base ["_law_script", "_law_drawn_here", "_law_letters", "_law_stem", "_law_left", "_law_words", "_law_head", "_law_one", "_law_some", "_law_other", "_law_told", "_law_names", "_law_due", "_law_number", "_law_k", "_law_word", "_law_name"] "_law_senses" (defScope (top 29)) f cdv A outer s H E).A.guards = some [] := by
    rw [← hg]; exact deeper_guards _ _
  have tk : Takes (cxOf (L2.CX P w) P w K mg base ["_law_script", "_law_drawn_here", "_law_letters", "_law_stem", "_law_left", "_law_words", "_law_head", "_law_one", "_law_some", "_law_other", "_law_told", "_law_names", "_law_due", "_law_number", "_law_k", "_law_word", "_law_name"] "_law_senses" (defScope (top 29)) f cdv A outer s H E) (fun cls d _ H => E cls d H) := takes_of rfl rfl rfl rfl
  have nd := sc__law_senses.nd
  have hp : PassesOwn _ _ _ (cxOf (L2.CX P w) P w K mg base ["_law_script", "_law_drawn_here", "_law_letters", "_law_stem", "_law_left", "_law_words", "_law_head", "_law_one", "_law_some", "_law_other", "_law_told", "_law_names", "_law_due", "_law_number", "_law_k", "_law_word", "_law_name"] "_law_senses" (defScope (top 29)) f cdv A outer s H E).xe := passes_of rfl
  exact (ss_cons (ss_asg (i := 1) nd rfl (by first | exact .inl rfl | exact .inr rfl) (se_c c__law_drawn hG hr tk rfl rfl rfl rfl (sa_c rfl (se_c c__law_cell hG hr tk rfl rfl rfl rfl (sa_c rfl (se_n 0 rfl (by first | exact .inl rfl | exact .inr (.inl rfl) | exact .inr (.inr rfl)) rfl rfl) (sa_c rfl se_int sa_nil))) (sa_c rfl se_int sa_nil))) rfl (by first | exact .inl rfl | exact .inr rfl))
  (ss_cons (ss_asg (i := 2) nd rfl (by first | exact .inl rfl | exact .inr rfl) se_str rfl (by first | exact .inl rfl | exact .inr rfl))
  (ss_cons (ss_asg (i := 3) nd rfl (by first | exact .inl rfl | exact .inr rfl) (se_join se_str (se_lc (own := [("_law_k", 14)]) (by decide) rfl nd (si_rng1 rfl hB.range (sa_c rfl (se_bin bin_add se_int (se_bin bin_mod (se_ix (hu65 hr) (se_n 1 rfl (by first | exact .inl rfl | exact .inr (.inl rfl) | exact .inr (.inr rfl)) rfl rfl) se_int (fun _ _ => rfl)) se_int)) sa_nil) rfl) (by exact blkOk_by (by kernel_rfl)) (fun _ _ _ _ _ => (sg_name (i := 14) nd rfl (by first | exact .inl rfl | exact .inr rfl) (by first | exact .inl rfl | exact .inr rfl))) (fun _ _ _ _ _ => st_yes) (fun _ _ _ _ _ => (se_ix (hu65 hr) (se_n 2 rfl (by first | exact .inl rfl | exact .inr (.inl rfl) | exact .inr (.inr rfl)) rfl rfl) (se_bin bin_mod (se_ix (hu65 hr) (se_n 1 rfl (by first | exact .inl rfl | exact .inr (.inl rfl) | exact .inr (.inr rfl)) rfl rfl) (se_bin bin_add se_int (se_n 14 rfl (by first | exact .inl rfl | exact .inr (.inl rfl) | exact .inr (.inr rfl)) rfl rfl)) (fun _ _ => rfl)) se_int) (fun _ _ => rfl))) (fun _ => rfl)) rfl rfl rfl) rfl (by first | exact .inl rfl | exact .inr rfl))
  (ss_cons (ss_asg (i := 4) nd rfl (by first | exact .inl rfl | exact .inr rfl) (se_sortSetI rfl hB rfl rfl rfl (se_bin bin_add (se_lc (own := [("_law_k", 14)]) (by decide) rfl nd (si_rng1 rfl hB.range (sa_c rfl (se_bin bin_mod (se_ix (hu65 hr) (se_n 1 rfl (by first | exact .inl rfl | exact .inr (.inl rfl) | exact .inr (.inr rfl)) rfl rfl) se_int (fun _ _ => rfl)) se_int) sa_nil) rfl) (by exact blkOk_by (by kernel_rfl)) (fun _ _ _ _ _ => (sg_name (i := 14) nd rfl (by first | exact .inl rfl | exact .inr rfl) (by first | exact .inl rfl | exact .inr rfl))) (fun _ _ _ _ _ => st_yes) (fun _ _ _ _ _ => (se_bin bin_add se_int (se_bin bin_mod (se_ix (hu65 hr) (se_n 1 rfl (by first | exact .inl rfl | exact .inr (.inl rfl) | exact .inr (.inr rfl)) rfl rfl) (se_bin bin_add se_int (se_n 14 rfl (by first | exact .inl rfl | exact .inr (.inl rfl) | exact .inr (.inr rfl)) rfl rfl)) (fun _ _ => rfl)) se_int))) (fun _ => rfl)) (se_slice (se_lst (sa_c rfl se_int (sa_c rfl se_int sa_nil))) so_none (so_some (se_bin bin_mod (se_ix (hu65 hr) (se_n 1 rfl (by first | exact .inl rfl | exact .inr (.inl rfl) | exact .inr (.inr rfl)) rfl rfl) se_int (fun _ _ => rfl)) se_int))))) rfl (by first | exact .inl rfl | exact .inr rfl))
  (ss_cons (ss_asg (i := 5) nd rfl (by first | exact .inl rfl | exact .inr rfl) (se_bin bin_add (se_lst (sa_c rfl (se_n 3 rfl (by first | exact .inl rfl | exact .inr (.inl rfl) | exact .inr (.inr rfl)) rfl rfl) sa_nil)) (se_lc (own := [("_law_number", 13)]) (by decide) rfl nd (si_rng2 rfl hB.range (sa_c rfl se_int (sa_c rfl se_int sa_nil)) rfl rfl) (by exact blkOk_by (by kernel_rfl)) (fun _ _ _ _ _ => (sg_name (i := 13) nd rfl (by first | exact .inl rfl | exact .inr rfl) (by first | exact .inl rfl | exact .inr rfl))) (fun _ _ _ _ _ => (st_ifone (st_cmp (bin_notin (hu65 hr)) (se_n 13 rfl (by first | exact .inl rfl | exact .inr (.inl rfl) | exact .inr (.inr rfl)) rfl rfl) (se_n 4 rfl (by first | exact .inl rfl | exact .inr (.inl rfl) | exact .inr (.inr rfl)) rfl rfl) rfl))) (fun _ _ _ _ _ => (se_bin bin_add (se_bin bin_add (se_n 3 rfl (by first | exact .inl rfl | exact .inr (.inl rfl) | exact .inr (.inr rfl)) rfl rfl) se_str) (se_strC hB rfl rfl (se_n 13 rfl (by first | exact .inl rfl | exact .inr (.inl rfl) | exact .inr (.inr rfl)) rfl rfl)))) (fun _ => rfl))) rfl (by first | exact .inl rfl | exact .inr rfl))
  (ss_cons (ss_asg (i := 6) nd rfl (by first | exact .inl rfl | exact .inr rfl) (se_ix (hu65 hr) (se_lst (sa_c rfl se_str (sa_c rfl se_str sa_nil))) (se_intC hB rfl rfl (se_cmp (bin_eq (hu64 hr)) (se_n 3 rfl (by first | exact .inl rfl | exact .inr (.inl rfl) | exact .inr (.inr rfl)) rfl rfl) se_str rfl)) (fun _ _ => rfl)) rfl (by first | exact .inl rfl | exact .inr rfl))
  (ss_cons (ss_asg (i := 7) nd rfl (by first | exact .inl rfl | exact .inr rfl) (se_tuple hB rfl rfl (se_lc (own := [("_law_k", 14)]) (by decide) rfl nd (si_rng1 rfl hB.range (sa_c rfl (se_bin bin_fdiv (se_bin bin_add (se_len hB rfl rfl (se_n 5 rfl (by first | exact .inl rfl | exact .inr (.inl rfl) | exact .inr (.inr rfl)) rfl rfl)) se_int) se_int) sa_nil) rfl) (by exact blkOk_by (by kernel_rfl)) (fun _ _ _ _ _ => (sg_name (i := 14) nd rfl (by first | exact .inl rfl | exact .inr rfl) (by first | exact .inl rfl | exact .inr rfl))) (fun _ _ _ _ _ => st_yes) (fun _ _ _ _ _ => (se_tup (sa_c rfl (se_n 6 rfl (by first | exact .inl rfl | exact .inr (.inl rfl) | exact .inr (.inr rfl)) rfl rfl) (sa_c rfl (se_tuple hB rfl rfl (se_slice (se_n 5 rfl (by first | exact .inl rfl | exact .inr (.inl rfl) | exact .inr (.inr rfl)) rfl rfl) (so_some (se_bin bin_mul se_int (se_n 14 rfl (by first | exact .inl rfl | exact .inr (.inl rfl) | exact .inr (.inr rfl)) rfl rfl))) (so_some (se_bin bin_add (se_bin bin_mul se_int (se_n 14 rfl (by first | exact .inl rfl | exact .inr (.inl rfl) | exact .inr (.inr rfl)) rfl rfl)) se_int)))) sa_nil)))) (fun _ => rfl))) rfl (by first | exact .inl rfl | exact .inr rfl))
  (ss_cons (ss_asg (i := 8) nd rfl (by first | exact .inl rfl | exact .inr rfl) (se_sorted rfl hr hB rfl rfl (se_setC rfl hr hB rfl rfl (se_bin bin_add (se_lc (own := [("_law_k", 14)]) (by decide) rfl nd (si_rng1 rfl hB.range (sa_c rfl (se_bin bin_add se_int (se_bin bin_mod (se_bin bin_mod (se_ix (hu65 hr) (se_n 1 rfl (by first | exact .inl rfl | exact .inr (.inl rfl) | exact .inr (.inr rfl)) rfl rfl) se_int (fun _ _ => rfl)) se_int) se_int)) sa_nil) rfl) (by exact blkOk_by (by kernel_rfl)) (fun _ _ _ _ _ => (sg_name (i := 14) nd rfl (by first | exact .inl rfl | exact .inr rfl) (by first | exact .inl rfl | exact .inr rfl))) (fun _ _ _ _ _ => st_yes) (fun _ _ _ _ _ => (se_ix (hu65 hr) (se_n 5 rfl (by first | exact .inl rfl | exact .inr (.inl rfl) | exact .inr (.inr rfl)) rfl rfl) (se_bin bin_mod (se_ix (hu65 hr) (se_n 1 rfl (by first | exact .inl rfl | exact .inr (.inl rfl) | exact .inr (.inr rfl)) rfl rfl) (se_bin bin_add se_int (se_n 14 rfl (by first | exact .inl rfl | exact .inr (.inl rfl) | exact .inr (.inr rfl)) rfl rfl)) (fun _ _ => rfl)) (se_len hB rfl rfl (se_n 5 rfl (by first | exact .inl rfl | exact .inr (.inl rfl) | exact .inr (.inr rfl)) rfl rfl))) (fun _ _ => rfl))) (fun _ => rfl)) (se_lst (sa_c rfl (se_ix (hu65 hr) (se_n 5 rfl (by first | exact .inl rfl | exact .inr (.inl rfl) | exact .inr (.inr rfl)) rfl rfl) se_int (fun _ _ => rfl)) sa_nil))))) rfl (by first | exact .inl rfl | exact .inr rfl))
  (ss_cons (ss_asg (i := 9) nd rfl (by first | exact .inl rfl | exact .inr rfl) (se_tuple hB rfl rfl (se_lc (own := [("_law_word", 15)]) (by decide) rfl nd (si_seq (se_n 8 rfl (by first | exact .inl rfl | exact .inr (.inl rfl) | exact .inr (.inr rfl)) rfl rfl)) (by exact blkOk_by (by kernel_rfl)) (fun _ _ _ _ _ => (sg_name (i := 15) nd rfl (by first | exact .inl rfl | exact .inr rfl) (by first | exact .inl rfl | exact .inr rfl))) (fun _ _ _ _ _ => st_yes) (fun _ _ _ _ _ => (se_tup (sa_c rfl (se_n 15 rfl (by first | exact .inl rfl | exact .inr (.inl rfl) | exact .inr (.inr rfl)) rfl rfl) (sa_c rfl (se_tup sa_nil) sa_nil)))) (fun _ => rfl))) rfl (by first | exact .inl rfl | exact .inr rfl))
  (ss_cons (ss_asg (i := 10) nd rfl (by first | exact .inl rfl | exact .inr rfl) (se_lst (sa_c rfl (se_c c__law_tried hG hr tk rfl rfl rfl rfl (sa_c rfl se_int (sa_c rfl (se_n 7 rfl (by first | exact .inl rfl | exact .inr (.inl rfl) | exact .inr (.inr rfl)) rfl rfl) (sa_c rfl (se_n 9 rfl (by first | exact .inl rfl | exact .inr (.inl rfl) | exact .inr (.inr rfl)) rfl rfl) (sa_c rfl (se_lst sa_nil) sa_nil))))) (sa_c rfl (se_c c__law_tried hG hr tk rfl rfl rfl rfl (sa_c rfl se_int (sa_c rfl (se_n 7 rfl (by first | exact .inl rfl | exact .inr (.inl rfl) | exact .inr (.inr rfl)) rfl rfl) (sa_c rfl (se_n 9 rfl (by first | exact .inl rfl | exact .inr (.inl rfl) | exact .inr (.inr rfl)) rfl rfl) (sa_c rfl (se_lst sa_nil) sa_nil))))) sa_nil))) rfl (by first | exact .inl rfl | exact .inr rfl))
  (ss_cons (ss_if (st_cmp bin_gt (se_len hB rfl rfl (se_n 8 rfl (by first | exact .inl rfl | exact .inr (.inl rfl) | exact .inr (.inr rfl)) rfl rfl)) (se_len hB rfl rfl (se_n 4 rfl (by first | exact .inl rfl | exact .inr (.inl rfl) | exact .inr (.inr rfl)) rfl rfl)) rfl)
    (ss_one (ss_ret (se_cmp (bin_eq (hu64 hr)) (se_n 10 rfl (by first | exact .inl rfl | exact .inr (.inl rfl) | exact .inr (.inr rfl)) rfl rfl) (se_lst (sa_c rfl (se_tup (sa_c rfl se_non (sa_c rfl (se_lst (sa_c rfl se_bl (sa_c rfl se_bl (sa_c rfl se_bl sa_nil)))) sa_nil))) (sa_c rfl (se_tup (sa_c rfl se_non (sa_c rfl (se_lst (sa_c rfl se_bl (sa_c rfl se_bl (sa_c rfl se_bl sa_nil)))) sa_nil))) sa_nil))) rfl)))
    ss_nil)
  (ss_cons (ss_asg (i := 11) nd rfl (by first | exact .inl rfl | exact .inr rfl) (se_lc (own := [("_law_number", 13)]) (by decide) rfl nd (si_seq (se_slice (se_n 4 rfl (by first | exact .inl rfl | exact .inr (.inl rfl) | exact .inr (.inr rfl)) rfl rfl) so_none (so_some (se_len hB rfl rfl (se_n 8 rfl (by first | exact .inl rfl | exact .inr (.inl rfl) | exact .inr (.inr rfl)) rfl rfl))))) (by exact blkOk_by (by kernel_rfl)) (fun _ _ _ _ _ => (sg_name (i := 13) nd rfl (by first | exact .inl rfl | exact .inr rfl) (by first | exact .inl rfl | exact .inr rfl))) (fun _ _ _ _ _ => st_yes) (fun _ _ _ _ _ => (se_bin bin_add (se_bin bin_add (se_n 3 rfl (by first | exact .inl rfl | exact .inr (.inl rfl) | exact .inr (.inr rfl)) rfl rfl) se_str) (se_strC hB rfl rfl (se_n 13 rfl (by first | exact .inl rfl | exact .inr (.inl rfl) | exact .inr (.inr rfl)) rfl rfl)))) (fun _ => rfl)) rfl (by first | exact .inl rfl | exact .inr rfl))
  (ss_cons (ss_setLc (i := 12) (own := [("_law_k", 14)]) (by decide) rfl nd rfl rfl (sw_true rfl rfl rfl (by decide +kernel)) (si_rng1 rfl hB.range (sa_c rfl (se_len hB rfl rfl (se_n 8 rfl (by first | exact .inl rfl | exact .inr (.inl rfl) | exact .inr (.inr rfl)) rfl rfl)) sa_nil) rfl) (by exact blkOk_by (by kernel_rfl)) (fun _ _ _ _ _ => (sg_name (i := 14) nd rfl (by first | exact .inl rfl | exact .inr rfl) (by first | exact .inl rfl | exact .inr rfl))) (fun _ _ _ _ _ => st_yes) (fun _ _ _ _ _ => (se_tup (sa_c rfl (se_ix (hu65 hr) (se_n 8 rfl (by first | exact .inl rfl | exact .inr (.inl rfl) | exact .inr (.inr rfl)) rfl rfl) (se_n 14 rfl (by first | exact .inl rfl | exact .inr (.inl rfl) | exact .inr (.inr rfl)) rfl rfl) (fun _ _ => rfl)) (sa_c rfl (se_ix (hu65 hr) (se_n 11 rfl (by first | exact .inl rfl | exact .inr (.inl rfl) | exact .inr (.inr rfl)) rfl rfl) (se_n 14 rfl (by first | exact .inl rfl | exact .inr (.inl rfl) | exact .inr (.inr rfl)) rfl rfl) (fun _ _ => rfl)) sa_nil)))) (fun _ => rfl))
  (ss_one (ss_ret (se_cmp (bin_eq (hu64 hr)) (se_n 10 rfl (by first | exact .inl rfl | exact .inr (.inl rfl) | exact .inr (.inr rfl)) rfl rfl) (se_lst (sa_c rfl (se_tup (sa_c rfl (se_n 12 rfl (by first | exact .inl rfl | exact .inr (.inl rfl) | exact .inr (.inr rfl)) rfl rfl) (sa_c rfl (se_lst sa_nil) sa_nil))) (sa_c rfl (se_tup (sa_c rfl (se_bin bin_add (se_n 7 rfl (by first | exact .inl rfl | exact .inr (.inl rfl) | exact .inr (.inr rfl)) rfl rfl) (se_tuple hB rfl rfl (se_lc (own := [("_law_name", 16)]) (by decide) rfl nd (si_seq (se_n 11 rfl (by first | exact .inl rfl | exact .inr (.inl rfl) | exact .inr (.inr rfl)) rfl rfl)) (by exact blkOk_by (by kernel_rfl)) (fun _ _ _ _ _ => (sg_name (i := 16) nd rfl (by first | exact .inl rfl | exact .inr rfl) (by first | exact .inl rfl | exact .inr rfl))) (fun _ _ _ _ _ => st_yes) (fun _ _ _ _ _ => (se_tup (sa_c rfl (se_n 16 rfl (by first | exact .inl rfl | exact .inr (.inl rfl) | exact .inr (.inr rfl)) rfl rfl) (sa_c rfl (se_tup sa_nil) sa_nil)))) (fun _ => rfl)))) (sa_c rfl (se_lst sa_nil) sa_nil))) sa_nil))) rfl))))))))))))))))
theorem sc_law : FnScope ["_law_script"] ["_law_script"] (defScope (top 30)) := ⟨rfl, rfl, rfl, by decide +kernel, rfl, by decide +kernel, by decide +kernel⟩
theorem ok_law {f : Addr} {fd : FuncData} (F : Fun K "law" "law" (top 30) f fd) (hB : Blt mg) (c__law_senses : Callee P w K mg base ca 7 "_law_senses" 1 f_l_senses_3) (c__law_full : Callee P w K mg base ca 7 "_law_full" 1 f_l_full_2) : EFn P w K mg base 8 f fd ["_law_script"] (spF ⟨P, w, K, ca⟩ 1 f_law_81) := by
  refine efn_body (N := ["_law_script"]) (b := b_law_81) F sc_law fun cdv A outer s H E hg hr => ?_
  have hG : (cxOf (L2.CX P w) P w K mg base ["_law_script"] "law" (defScope (top 30)) f cdv A outer s H E).A.guards = some [] := by
    rw [← hg]; exact deeper_guards _ _
  have tk : Takes (cxOf (L2.CX P w) P w K mg base ["_law_script"] "law" (defScope (top 30)) f cdv A outer s H E) (fun cls d _ H => E cls d H) := takes_of rfl rfl rfl rfl
  have nd := sc_law.nd
  have hp : PassesOwn _ _ _ (cxOf (L2.CX P w) P w K mg base ["_law_script"] "law" (defScope (top 30)) f cdv A outer s H E).xe := passes_of rfl
  exact (ss_one (ss_ret (se_and (se_c c__law_full hG hr tk rfl rfl rfl rfl (sa_c rfl (se_n 0 rfl (by first | exact .inl rfl | exact .inr (.inl rfl) | exact .inr (.inr rfl)) rfl rfl) sa_nil)) (se_one (se_c c__law_senses hG hr tk rfl rfl rfl rfl (sa_c rfl (se_n 0 rfl (by first | exact .inl rfl | exact .inr (.inl rfl) | exact .inr (.inr rfl)) rfl rfl) sa_nil))))))
end
def d_0 : He.FnD := ⟨("_law_mix", none), "_law_mix", "_law_mix", defArgs (top 22), defBody (top 22), defScope (top 22)⟩
def d_1 : He.FnD := ⟨("_law_cell", none), "_law_cell", "_law_cell", defArgs (top 23), defBody (top 23), defScope (top 23)⟩
def d_2 : He.FnD := ⟨("_law_drawn", none), "_law_drawn", "_law_drawn", defArgs (top 24), defBody (top 24), defScope (top 24)⟩
def d_3 : He.FnD := ⟨("alike", none), "alike", "alike", defArgs (top 13), defBody (top 13), defScope (top 13)⟩
def d_4 : He.FnD := ⟨("stem_of", none), "stem_of", "stem_of", defArgs (top 11), defBody (top 11), defScope (top 11)⟩
def d_5 : He.FnD := ⟨("fresh_name", none), "fresh_name", "fresh_name", defArgs (top 18), defBody (top 18), defScope (top 18)⟩
def d_6 : He.FnD := ⟨("words_of", none), "words_of", "words_of", defArgs (top 14), defBody (top 14), defScope (top 14)⟩
def d_7 : He.FnD := ⟨("new_names", none), "new_names", "new_names", defArgs (top 19), defBody (top 19), defScope (top 19)⟩
def d_8 : He.FnD := ⟨("laid", none), "laid", "laid", defArgs (top 20), defBody (top 20), defScope (top 20)⟩
def d_9 : He.FnD := ⟨("_law_tried", none), "_law_tried", "_law_tried", defArgs (top 25), defBody (top 25), defScope (top 25)⟩
def d_10 : He.FnD := ⟨("_law_over_full", none), "_law_over_full", "_law_over_full", defArgs (top 28), defBody (top 28), defScope (top 28)⟩
def d_11 : He.FnD := ⟨("_law_picked", none), "_law_picked", "_law_picked", defArgs (top 26), defBody (top 26), defScope (top 26)⟩
def d_12 : He.FnD := ⟨("_law_full", none), "_law_full", "_law_full", defArgs (top 27), defBody (top 27), defScope (top 27)⟩
def d_13 : He.FnD := ⟨("_law_senses", none), "_law_senses", "_law_senses", defArgs (top 29), defBody (top 29), defScope (top 29)⟩
def d_14 : He.FnD := ⟨("law", none), "law", "law", defArgs (top 30), defBody (top 30), defScope (top 30)⟩
def fn : List He.FnD := [d_0, d_1, d_2, d_3, d_4, d_5, d_6, d_7, d_8, d_9, d_10, d_11, d_12, d_13, d_14]
def fa : List He.Fa := [.glo "_law_mix", .keep "_law_mix", .glo "_law_cell", .keep "_law_cell", .glo "_law_drawn", .keep "_law_drawn", .glo "alike", .keep "alike", .glo "stem_of", .keep "stem_of", .glo "fresh_name", .keep "fresh_name", .glo "words_of", .keep "words_of", .glo "new_names", .keep "new_names", .glo "laid", .keep "laid", .glo "_law_tried", .keep "_law_tried", .glo "_law_over_full", .keep "_law_over_full", .glo "_law_picked", .keep "_law_picked", .glo "_law_full", .keep "_law_full", .glo "_law_senses", .keep "_law_senses", .glo "law", .keep "law", .free "len", .free "range", .free "sorted", .free "set", .free "tuple", .free "list", .free "all", .free "any", .free "sum", .free "max", .free "min", .free "str", .free "int", .free "dict", .free "repr", .free "isinstance", .free "zip", .free "enumerate", .free "reversed", .free "bool", .int "MOST" 60, .int "SENSES" 99]
abbrev R : PySem.W.OpenRow := PySem.W.OpenLaw.row PySem.Challenge.rw_primer_k65_no_room
abbrev hk : PySem.W.Hook := hookM 4 fa fn (clB [0, 1, 2, 3, 4, 5, 6, 7, 8])
def ob (s : PySem.W.SharedT) : He.Al × Bool := obsM 4 fa fn (clB [0, 1, 2, 3, 4, 5, 6, 7, 8]) (HandSHeadRun.getT s)
theorem ob_eq (s : PySem.W.SharedT) : ob s = hk.obs s.abs := obsM_eq (HandSHeadRun.getT_eq s)
def loose : List PySem.Str := (["PrimerError", "NoText", "Unfit", "Unknown", "Unlearnt", "TooMany", "Lacking", "NoRow", "NoDeed", "stem_of", "alike", "words_of", "MOST", "SENSES", "fresh_name", "new_names", "laid", "_law_mix", "_law_cell", "_law_drawn", "_law_tried", "_law_picked", "_law_full", "_law_over_full", "_law_senses"] : List PySem.Str)
theorem run (w : World) : HandSHeadRun.RunEq R (PySem.W.view R.prog [30]) hk ob 14900 loose w := by
  intro os
  kernel_rfl
theorem facts {P : Program} {w : World} {K : PySem.W.Frag} {h : Heap} {mg : Str → Option Value} {f : Addr} (X : K.In h) (G : h.Ns mainGlobals mg) (hfa : mg ("law" : Str) = some (.ref f)) (cM : SaysM fa fn (clB [0, 1, 2, 3, 4, 5, 6, 7, 8]) K) :
    ∃ (fd : FuncData) (ca : Nat → Addr), (∀ (s : Shared) (v : Value), BindsTo s fd ⟨[v], []⟩ [("_law_script", v)]) ∧ ∀ base : Heap, K.In base → base.Ns mainGlobals mg → EFn P w K mg base 8 f fd ["_law_script"] (spF ⟨P, w, K, ca⟩ 1 f_law_81) := by
  have c := cM.1
  have hX := clB_ok X G cM.2
  have hB : Blt mg := ⟨He.free_ok X G (c.fact 30 (f := .free "len") rfl), He.free_ok X G (c.fact 31 (f := .free "range") rfl), He.free_ok X G (c.fact 32 (f := .free "sorted") rfl), He.free_ok X G (c.fact 33 (f := .free "set") rfl), He.free_ok X G (c.fact 34 (f := .free "tuple") rfl), He.free_ok X G (c.fact 35 (f := .free "list") rfl), He.free_ok X G (c.fact 36 (f := .free "all") rfl), He.free_ok X G (c.fact 37 (f := .free "any") rfl), He.free_ok X G (c.fact 38 (f := .free "sum") rfl), He.free_ok X G (c.fact 39 (f := .free "max") rfl), He.free_ok X G (c.fact 40 (f := .free "min") rfl), He.free_ok X G (c.fact 41 (f := .free "str") rfl), He.free_ok X G (c.fact 42 (f := .free "int") rfl), He.free_ok X G (c.fact 43 (f := .free "dict") rfl), He.free_ok X G (c.fact 44 (f := .free "repr") rfl), He.free_ok X G (c.fact 45 (f := .free "isinstance") rfl), He.free_ok X G (c.fact 46 (f := .free "zip") rfl), He.free_ok X G (c.fact 47 (f := .free "enumerate") rfl), He.free_ok X G (c.fact 48 (f := .free "reversed") rfl), He.free_ok X G (c.fact 49 (f := .free "bool") rfl)⟩
  obtain ⟨t_MOST, k_MOST⟩ := He.int_ok X G (c.fact 50 (f := .int "MOST" 60) rfl)
  obtain ⟨t_SENSES, k_SENSES⟩ := He.int_ok X G (c.fact 51 (f := .int "SENSES" 99) rfl)
  have m__law_mix := He.glo_ok X G (c.fact 0 (f := .glo "_law_mix") rfl)
  obtain ⟨_, _, _, _, _, _, _, _, _, l_0, q_0⟩ := c.def_ 0 (d := d_0) rfl
  have F__law_mix : Fun K "_law_mix" "_law_mix" (top 22) (He.ga K "_law_mix") _ := fun_mk l_0 q_0 (He.keep_ok (c.fact 1 (f := .keep "_law_mix") rfl))
  have m__law_cell := He.glo_ok X G (c.fact 2 (f := .glo "_law_cell") rfl)
  obtain ⟨_, _, _, _, _, _, _, _, _, l_1, q_1⟩ := c.def_ 1 (d := d_1) rfl
  have F__law_cell : Fun K "_law_cell" "_law_cell" (top 23) (He.ga K "_law_cell") _ := fun_mk l_1 q_1 (He.keep_ok (c.fact 3 (f := .keep "_law_cell") rfl))
  have m__law_drawn := He.glo_ok X G (c.fact 4 (f := .glo "_law_drawn") rfl)
  obtain ⟨_, _, _, _, _, _, _, _, _, l_2, q_2⟩ := c.def_ 2 (d := d_2) rfl
  have F__law_drawn : Fun K "_law_drawn" "_law_drawn" (top 24) (He.ga K "_law_drawn") _ := fun_mk l_2 q_2 (He.keep_ok (c.fact 5 (f := .keep "_law_drawn") rfl))
  have m_alike := He.glo_ok X G (c.fact 6 (f := .glo "alike") rfl)
  obtain ⟨_, _, _, _, _, _, _, _, _, l_3, q_3⟩ := c.def_ 3 (d := d_3) rfl
  have F_alike : Fun K "alike" "alike" (top 13) (He.ga K "alike") _ := fun_mk l_3 q_3 (He.keep_ok (c.fact 7 (f := .keep "alike") rfl))
  have m_stem_of := He.glo_ok X G (c.fact 8 (f := .glo "stem_of") rfl)
  obtain ⟨_, _, _, _, _, _, _, _, _, l_4, q_4⟩ := c.def_ 4 (d := d_4) rfl
  have F_stem_of : Fun K "stem_of" "stem_of" (top 11) (He.ga K "stem_of") _ := fun_mk l_4 q_4 (He.keep_ok (c.fact 9 (f := .keep "stem_of") rfl))
  have m_fresh_name := He.glo_ok X G (c.fact 10 (f := .glo "fresh_name") rfl)
  obtain ⟨_, _, _, _, _, _, _, _, _, l_5, q_5⟩ := c.def_ 5 (d := d_5) rfl
  have F_fresh_name : Fun K "fresh_name" "fresh_name" (top 18) (He.ga K "fresh_name") _ := fun_mk l_5 q_5 (He.keep_ok (c.fact 11 (f := .keep "fresh_name") rfl))
  have m_words_of := He.glo_ok X G (c.fact 12 (f := .glo "words_of") rfl)
  obtain ⟨_, _, _, _, _, _, _, _, _, l_6, q_6⟩ := c.def_ 6 (d := d_6) rfl
  have F_words_of : Fun K "words_of" "words_of" (top 14) (He.ga K "words_of") _ := fun_mk l_6 q_6 (He.keep_ok (c.fact 13 (f := .keep "words_of") rfl))
  have m_new_names := He.glo_ok X G (c.fact 14 (f := .glo "new_names") rfl)
  obtain ⟨_, _, _, _, _, _, _, _, _, l_7, q_7⟩ := c.def_ 7 (d := d_7) rfl
  have F_new_names : Fun K "new_names" "new_names" (top 19) (He.ga K "new_names") _ := fun_mk l_7 q_7 (He.keep_ok (c.fact 15 (f := .keep "new_names") rfl))
  have m_laid := He.glo_ok X G (c.fact 16 (f := .glo "laid") rfl)
  obtain ⟨_, _, _, _, _, _, _, _, _, l_8, q_8⟩ := c.def_ 8 (d := d_8) rfl
  have F_laid : Fun K "laid" "laid" (top 20) (He.ga K "laid") _ := fun_mk l_8 q_8 (He.keep_ok (c.fact 17 (f := .keep "laid") rfl))
  have m__law_tried := He.glo_ok X G (c.fact 18 (f := .glo "_law_tried") rfl)
  obtain ⟨_, _, _, _, _, _, _, _, _, l_9, q_9⟩ := c.def_ 9 (d := d_9) rfl
  have F__law_tried : Fun K "_law_tried" "_law_tried" (top 25) (He.ga K "_law_tried") _ := fun_mk l_9 q_9 (He.keep_ok (c.fact 19 (f := .keep "_law_tried") rfl))
  have m__law_over_full := He.glo_ok X G (c.fact 20 (f := .glo "_law_over_full") rfl)
  obtain ⟨_, _, _, _, _, _, _, _, _, l_10, q_10⟩ := c.def_ 10 (d := d_10) rfl
  have F__law_over_full : Fun K "_law_over_full" "_law_over_full" (top 28) (He.ga K "_law_over_full") _ := fun_mk l_10 q_10 (He.keep_ok (c.fact 21 (f := .keep "_law_over_full") rfl))
  have m__law_picked := He.glo_ok X G (c.fact 22 (f := .glo "_law_picked") rfl)
  obtain ⟨_, _, _, _, _, _, _, _, _, l_11, q_11⟩ := c.def_ 11 (d := d_11) rfl
  have F__law_picked : Fun K "_law_picked" "_law_picked" (top 26) (He.ga K "_law_picked") _ := fun_mk l_11 q_11 (He.keep_ok (c.fact 23 (f := .keep "_law_picked") rfl))
  have m__law_full := He.glo_ok X G (c.fact 24 (f := .glo "_law_full") rfl)
  obtain ⟨_, _, _, _, _, _, _, _, _, l_12, q_12⟩ := c.def_ 12 (d := d_12) rfl
  have F__law_full : Fun K "_law_full" "_law_full" (top 27) (He.ga K "_law_full") _ := fun_mk l_12 q_12 (He.keep_ok (c.fact 25 (f := .keep "_law_full") rfl))
  have m__law_senses := He.glo_ok X G (c.fact 26 (f := .glo "_law_senses") rfl)
  obtain ⟨_, _, _, _, _, _, _, _, _, l_13, q_13⟩ := c.def_ 13 (d := d_13) rfl
  have F__law_senses : Fun K "_law_senses" "_law_senses" (top 29) (He.ga K "_law_senses") _ := fun_mk l_13 q_13 (He.keep_ok (c.fact 27 (f := .keep "_law_senses") rfl))
  have m_law := He.glo_ok X G (c.fact 28 (f := .glo "law") rfl)
  obtain ⟨_, _, _, _, _, _, _, _, _, l_14, q_14⟩ := c.def_ 14 (d := d_14) rfl
  have F_law : Fun K "law" "law" (top 30) (He.ga K "law") _ := fun_mk l_14 q_14 (He.keep_ok (c.fact 29 (f := .keep "law") rfl))
  rw [m_law] at hfa
  cases hfa
  refine ⟨_, caOf K, F_law.binds1 fun _ _ _ _ _ _ us hl => match us, hl with | [_], _ => rfl, fun base hb hg => ?_⟩
  have c__law_mix := ok__law_mix (P := P) (w := w) (base := base) (ca := caOf K) F__law_mix m__law_mix hB
  have c__law_cell := ok__law_cell (P := P) (w := w) (base := base) (ca := caOf K) F__law_cell m__law_cell hB (c__law_mix.mono (by decide))
  have c__law_drawn := ok__law_drawn (P := P) (w := w) (base := base) (ca := caOf K) F__law_drawn m__law_drawn hB (c__law_mix.mono (by decide))
  have c_alike := ok_alike (P := P) (w := w) (base := base) (ca := caOf K) F_alike m_alike hB
  have c_stem_of := ok_stem_of (P := P) (w := w) (base := base) (ca := caOf K) F_stem_of m_stem_of hB
  have c_fresh_name := ok_fresh_name (P := P) (w := w) (base := base) (ca := caOf K) F_fresh_name m_fresh_name hB (c_stem_of.mono (by decide)) hX k_SENSES
  have c_words_of := ok_words_of (P := P) (w := w) (base := base) (ca := caOf K) F_words_of m_words_of hB
  have c_new_names := ok_new_names (P := P) (w := w) (base := base) (ca := caOf K) F_new_names m_new_names hB (c_words_of.mono (by decide)) (c_fresh_name.mono (by decide))
  have c_laid := ok_laid (P := P) (w := w) (base := base) (ca := caOf K) F_laid m_laid hB (c_new_names.mono (by decide)) (c_alike.mono (by decide)) hX k_MOST
  have c__law_tried := ok__law_tried (P := P) (w := w) (base := base) (ca := caOf K) F__law_tried m__law_tried hB (c_laid.mono (by decide)) (c_new_names.mono (by decide)) hX
  have c__law_over_full := ok__law_over_full (P := P) (w := w) (base := base) (ca := caOf K) F__law_over_full m__law_over_full hB (c__law_tried.mono (by decide))
  have c__law_picked := ok__law_picked (P := P) (w := w) (base := base) (ca := caOf K) F__law_picked m__law_picked hB
  have c__law_full := ok__law_full (P := P) (w := w) (base := base) (ca := caOf K) F__law_full m__law_full hB (c__law_drawn.mono (by decide)) (c__law_cell.mono (by decide)) (c__law_picked.mono (by decide)) (c__law_tried.mono (by decide)) (c__law_over_full.mono (by decide))
  have c__law_senses := ok__law_senses (P := P) (w := w) (base := base) (ca := caOf K) F__law_senses m__law_senses hB (c__law_drawn.mono (by decide)) (c__law_cell.mono (by decide)) (c__law_tried.mono (by decide))
  exact ok_law F_law hB (c__law_senses.mono (by decide)) (c__law_full.mono (by decide))
end Eng
open PySem PySem.W PySem.Calls PyProof.Rows
theorem Eng.answer (ns : List Int) (_ : ns.length ≤ 63) : ∃ fin, Eng.f_law_81 [.scr ns] = .ret (.val (.bool true)) fin := Eng.answer65 ns
set_option maxHeartbeats 0 in
theorem PySem.Challenge.cw_primer_k65_no_room_holds : PySem.Challenge.rw_primer_k65_no_room.Holds := by
  w_on; o_law
  refine HandSHeadRun.head_any (r := OpenLaw.row PySem.Challenge.rw_primer_k65_no_room) (q := view (OpenLaw.row PySem.Challenge.rw_primer_k65_no_room).prog [30]) (H := Eng.hk) (ob := Eng.ob) (M := 14900) (loose := Eng.loose) (d := HandSHeadRun.topDef (OpenLaw.row PySem.Challenge.rw_primer_k65_no_room).prog 30) (kwd := []) Eng.ob_eq
    (by kernel_rfl) (fun s => by kernel_rfl) Eng.run (by kernel_rfl) (by kernel_rfl) (by kernel_rfl) (by rfl) (by first | assumption | decide +kernel) (by decide +kernel) ⟨rfl, rfl, rfl, rfl, rfl, by decide +kernel⟩ ?hw ?hc
  case hw => w_witness2
  case hc =>
    refine Eng.walk_law (l := PySem.Challenge.rw_primer_k65_no_room) (n := 63) (k := 8) (x := "_law_script") rfl (by decide) (by kernel_rfl) ⟨rfl, by decide, by decide⟩ ?F Eng.answer
    intro w mg fa h Y G hmg0
    obtain ⟨K, KX, c⟩ := Y
    have hmg : mg ("law" : PySem.Str) = some (.ref fa) := by
      have e : (HandSHeadRun.topDef (OpenLaw.row PySem.Challenge.rw_primer_k65_no_room).prog 30).name = ("law" : PySem.Str) := by kernel_rfl
      rw [← e]
      exact hmg0
    obtain ⟨fd, ca, hb, hF⟩ := Eng.facts (P := (PySem.Challenge.rw_primer_k65_no_room).prog) (w := w) KX G hmg c
    exact ⟨K, fd, ca, KX, hb, hF⟩
