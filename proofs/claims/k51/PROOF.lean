import PyProof.Rows.All
import Wide.All
import OpenK.AllK
import Wide.FinOn
import HandS.ForMost
import HandS.Exc
import HandS.TryOnly
import HandS.ExcOwn
import HandS.ExcCtx
import HandS.WordsExc
import HandS.More
import KE.KDictKeyed
import KE.KeyNested
import HandS.Set
import HandS.Deep
import HandS.TupAny
import KE.SortData
import HandS.WordsDict
import HandS.SetFor
import HandS.Text
import HandS.Walk
import HandS.Zip
import PyProof.Draws
import PyProof.EnumMake
import HandS.Iter
import HandS.ForSpec
import HandS.IsInst
import PyProof.ReprRoads
import HandS.EndBits
import HandS.HeadHook1
import HandS.Style
import HandS.Rev
import HandS.ExcIs
import HandS.Dict
import KE.DataFind
import HandS.Head0
import HandS.Head1
import HandS.Head2
import HandS.Words
import HandS.HotCalls
import HandS.Strs
import HandS.Codes
import PySem.Challenge.RW_primer_k51_a_shelf_walked
set_option Elab.async false
set_option linter.all false
set_option maxRecDepth 100000
/-! The engine, part 1: data, owned objects, the state relation. -/
namespace Eng
open PySem PySem.Spec L2
open PyProof.Rows hiding St

abbrev D := PyData
abbrev Zs := Addr → Prop

mutual
/-- a value reads as a datum all of whose lists are frozen (in Z) -/
inductive Dz (Z : Zs) (K : PySem.W.Frag) (H : Hp) : D → V → Prop
  | non : Dz Z K H .none .non
  | bl (b : Bool) : Dz Z K H (.bool b) (.bl b)
  | int (i : Int) : Dz Z K H (.int i) (.int i)
  | str (x : Str) : Dz Z K H (.str x) (.str x)
  | lst {a : Addr} {xs : List V} {ds : List D} (z : Z a) (r : H a = some (.lst xs)) (h : DzA Z K H ds xs) : Dz Z K H (.list ds) (.ref a)
  | tup {a : Addr} {xs : List V} {ds : List D} (r : SqT K H a xs) (h : DzA Z K H ds xs) : Dz Z K H (.tuple ds) (.ref a)
  | dic {a : Addr} {ob : Obj} {kvs : List (Key × V)} {es : List (D × D)} (r : H a = some (.frz ob (.dK kvs))) (nd : (kvs.map (·.1)).Nodup) (hk : DzA Z K H (es.map (·.1)) (kvs.map fun p => kV p.1)) (hv : DzA Z K H (es.map (·.2)) (kvs.map (·.2))) : Dz Z K H (.dict es) (.ref a)
inductive DzA (Z : Zs) (K : PySem.W.Frag) (H : Hp) : List D → List V → Prop
  | nil : DzA Z K H [] []
  | cons {d : D} {v : V} {ds : List D} {vs : List V} (h : Dz Z K H d v) (t : DzA Z K H ds vs) : DzA Z K H (d :: ds) (v :: vs)
end

/-- the script: a list of ints that is locked, or written -/
def SqS (K : PySem.W.Frag) (H : Hp) (a : Addr) (ns : List Int) : Prop :=
  (∃ ob, H a = some (.frz ob (.lst (ns.map V.int)))) ∨
    ∃ (o : Obj) (its : Array Value) (n : Nat), K.lookup a = some o ∧ o.cls = .type "list" ∧ o.dict = none ∧ o.data = .seq its n ∧ its.size ≤ sizeLine ∧ Vals (ns.map V.int) its.toList
theorem SqS.sq {K : PySem.W.Frag} {H : Hp} {a : Addr} {ns : List Int} (h : SqS K H a ns) : SqL K H a (ns.map V.int) := by
  rcases h with ⟨ob, h⟩ | h
  · exact .inl (.inr ⟨ob, h⟩)
  · exact .inr h
/-- what a change of the heap keeps of frozen data -/
structure Kp (Z : Zs) (K : PySem.W.Frag) (H : Hp) (Z' : Zs) (H' : Hp) : Prop where
  z : ∀ a, Z a → Z' a
  r : ∀ a xs, Z a → H a = some (.lst xs) → H' a = some (.lst xs)
  t : ∀ a xs, SqT K H a xs → SqT K H' a xs
  f : ∀ a ns, SqS K H a ns → SqS K H' a ns
  g : ∀ a ob u, H a = some (.frz ob u) → H' a = some (.frz ob u)

section
variable {Z Z' : Zs} {K : PySem.W.Frag} {H H' : Hp}
theorem Dz.kp (k : Kp Z K H Z' H') {d : D} {v : V} (h : Dz Z K H d v) : Dz Z' K H' d v :=
  Dz.rec (motive_1 := fun d v _ => Dz Z' K H' d v) (motive_2 := fun ds vs _ => DzA Z' K H' ds vs) .non .bl .int .str (fun z r _ ih => .lst (k.z _ z) (k.r _ _ z r) ih) (fun r _ ih => .tup (k.t _ _ r) ih)
    (fun r nd _ _ ih1 ih2 => .dic (k.g _ _ _ r) nd ih1 ih2) .nil (fun _ _ ih1 ih2 => .cons ih1 ih2) h
theorem DzA.kp (k : Kp Z K H Z' H') : ∀ {ds : List D} {vs : List V}, DzA Z K H ds vs → DzA Z' K H' ds vs
  | [], _, h => by cases h; exact .nil
  | d :: ds, _, h => by
    cases h with
    | cons h t => exact .cons (Dz.kp k h) (DzA.kp k t)
mutual
theorem Dz.dp : ∀ {d : D} {v : V}, Dz Z K H d v → d.hasDict = false → Dp K H v d
  | .none, _, h, _ => by cases h; exact .non
  | .bool _, _, h, _ => by cases h; exact .bl _
  | .int _, _, h, _ => by cases h; exact .int _
  | .str _, _, h, _ => by cases h; exact .str _
  | .list ds, _, h, c => by
    cases h with
    | lst z r h => exact .lst (.inl (.inl r)) (DzA.dp h (by simpa [PyData.hasDict] using c))
  | .tuple ds, _, h, c => by
    cases h with
    | tup r h => exact .tup r (DzA.dp h (by simpa [PyData.hasDict] using c))
  | .dict _, _, h, c => by simp [PyData.hasDict] at c
theorem DzA.dp : ∀ {ds : List D} {vs : List V}, DzA Z K H ds vs → PyData.hasDictAll ds = false → DpAll K H vs ds
  | [], _, h, _ => by cases h; exact .nil
  | d :: ds, _, h, c => by
    cases h with
    | cons h t =>
      have c2 : d.hasDict = false ∧ PyData.hasDictAll ds = false := by simpa [PyData.hasDictAll] using c
      exact .cons (Dz.dp h c2.1) (DzA.dp t c2.2)
end
theorem DzA.length : ∀ {ds : List D} {vs : List V}, DzA Z K H ds vs → vs.length = ds.length
  | _, _, .nil => rfl
  | _, _, .cons _ t => by rw [List.length_cons, List.length_cons, DzA.length t]
theorem DzA.append : ∀ {ds es : List D} {vs ws : List V}, DzA Z K H ds vs → DzA Z K H es ws → DzA Z K H (ds ++ es) (vs ++ ws)
  | _, _, _, _, .nil, h => h
  | _, _, _, _, .cons h t, h' => .cons h (DzA.append t h')
theorem DzA.get : ∀ {ds : List D} {vs : List V} {i : Nat} {d : D}, DzA Z K H ds vs → ds[i]? = some d → ∃ v, vs[i]? = some v ∧ Dz Z K H d v
  | _, _, _, _, .nil, e => by simp at e
  | _, _, 0, d, .cons h t, e => by
    have e' := Option.some.inj (show some _ = some d by simpa using e)
    subst e'
    exact ⟨_, rfl, h⟩
  | _, _, i + 1, d, .cons h t, e => by
    obtain ⟨v, h1, h2⟩ := DzA.get (i := i) t (by simpa using e)
    exact ⟨v, by simpa using h1, h2⟩
theorem DzA.take : ∀ {ds : List D} {vs : List V} (n : Nat), DzA Z K H ds vs → DzA Z K H (ds.take n) (vs.take n)
  | _, _, 0, _ => .nil
  | _, _, _ + 1, .nil => .nil
  | _, _, n + 1, .cons h t => .cons h (DzA.take n t)
theorem DzA.drop : ∀ {ds : List D} {vs : List V} (n : Nat), DzA Z K H ds vs → DzA Z K H (ds.drop n) (vs.drop n)
  | _, _, 0, h => h
  | _, _, _ + 1, .nil => .nil
  | _, _, n + 1, .cons h t => DzA.drop n t
theorem DzA.reverse : ∀ {ds : List D} {vs : List V}, DzA Z K H ds vs → DzA Z K H ds.reverse vs.reverse
  | _, _, .nil => .nil
  | _, _, .cons h t => by
    rw [List.reverse_cons, List.reverse_cons]
    exact DzA.append (DzA.reverse t) (.cons h .nil)
theorem DzA.set : ∀ {ds : List D} {vs : List V} {d : D} {v : V} (i : Nat), DzA Z K H ds vs → Dz Z K H d v → DzA Z K H (ds.set i d) (vs.set i v)
  | _, _, _, _, _, .nil, _ => .nil
  | _, _, _, _, 0, .cons _ t, h => .cons h t
  | _, _, _, _, i + 1, .cons h t, h' => .cons h (DzA.set i t h')
theorem DzA.dropLast : ∀ {ds : List D} {vs : List V}, DzA Z K H ds vs → DzA Z K H ds.dropLast vs.dropLast
  | _, _, .nil => .nil
  | _, _, .cons _ .nil => .nil
  | _, _, .cons h (.cons h' t) => .cons h (DzA.dropLast (.cons h' t))
theorem DzA.strs : ∀ {xs : List Str} {vs : List V}, DzA Z K H (xs.map PyData.str) vs → vs = xs.map V.str
  | [], _, h => by cases h; rfl
  | x :: xs, _, h => by
    cases h with
    | cons h t =>
      cases h
      rw [DzA.strs t]; rfl
theorem DzA.ints : ∀ {xs : List Int} {vs : List V}, DzA Z K H (xs.map PyData.int) vs → vs = xs.map V.int
  | [], _, h => by cases h; rfl
  | x :: xs, _, h => by
    cases h with
    | cons h t =>
      cases h
      rw [DzA.ints t]; rfl
theorem DzA.bls : ∀ {xs : List Bool} {vs : List V}, DzA Z K H (xs.map PyData.bool) vs → vs = xs.map V.bl
  | [], _, h => by cases h; rfl
  | x :: xs, _, h => by
    cases h with
    | cons h t =>
      cases h
      rw [DzA.bls t]; rfl
end

/-- the text of a set's entry -/
def txt (e : Int × Value) : Str := match e.2 with
  | .str x _ => x
  | _ => Str.empty
/-- at a stands a set of just the texts xs -/
def SetT (w : World) (h : Heap) (a : Addr) (xs : List Str) : Prop :=
  ∃ (o : Obj) (es : Array (Int × Value)) (ep : Nat) (t : SetTable), (h.get? a = some o ∧ o.ExactSet ∧ o.data = .set es ep t) ∧ (∀ e ∈ es.toList, ∃ x tk, e = (hashStr w x, Value.str x tk)) ∧
    (es.toList.map txt).Perm xs ∧ xs.Nodup ∧ (es.size < scanBound ∧ t.fits es.size = true ∧ Ris t.place.toList ∧ (w.params.followText "set-order" = true ∨ t.led = true))
/-- an object of the frame's own, its inner data frozen; a datum; an instance -/
inductive O where
  | val (d : D)
  | scr (ns : List Int)
  | set (xs : List Str)
  | lst (ds : List D)
  | dic (es : List (D × D))
  | ins (c : Nat) (fs : List (Str × O))
  | exn (c : Nat)
  | yng (d : D) (e : Option D)
  | ols (fs : List (Str × O))
  | junk

/-- at a stands an exception of the class C -/
def ExT (a C : Addr) (h : Heap) : Prop := ∃ o, h.get? a = some o ∧ o.cls = .ref C ∧ o.dict = none ∧ ∃ vs, o.data = .fields vs ∧ vs[2]? = some .none
/-- the key of a dict with nested tuples as keys -/
def nkey : D → Option NestedKey
  | .none => some .none
  | .int i => some (.num i)
  | .str x => some (.text x)
  | .tuple ds => (nkeys ds).map .tup
  | _ => none
where nkeys : List D → Option (List NestedKey)
  | [] => some []
  | d :: ds => match nkey d, nkeys ds with
    | some k, some ks => some (k :: ks)
    | _, _ => none

/-- what the context of a program gives -/
structure Gx where
  P : Program
  w : World
  K : PySem.W.Frag
  ca : Nat → Addr

/-- a dict with nested keys, by its own object alone -/
def NDict (G : Gx) (a : Addr) (xs : List (NestedKey × Addr × Value)) : Heap → Prop := fun h =>
  ∃ o es ep, h.get? a = some o ∧ o.ExactDict ∧ o.data = .dict es ep ∧ es.toList = xs.map (entryOfKey (nestedKind G.P G.w)) ∧ (xs.map (·.1)).Nodup ∧ (a == sysModules) = false ∧ xs.length ≤ sizeLine

def NEnt (Z : Zs) (K : PySem.W.Frag) (H : Hp) (x : NestedKey × Addr × Value) (e : D × D) : Prop :=
  nkey e.1 = some x.1 ∧ x.1.depth ≤ 8 ∧ Dz Z K H e.1 (.ref x.2.1) ∧ ∃ v, RelV v x.2.2 ∧ Dz Z K H e.2 v

mutual
/-- the object o stands at v; F: the addresses that it owns -/
inductive Ro (G : Gx) (Z : Zs) (H : Hp) : O → V → List Addr → Prop
  | val {d : D} {v : V} (h : Dz Z G.K H d v) : Ro G Z H (.val d) v []
  | scr {a : Addr} {ns : List Int} (h : SqS G.K H a ns) : Ro G Z H (.scr ns) (.ref a) []
  | set {a : Addr} {xs : List Str} (e : H a = some (.ext fun h => SetT G.w h a xs)) : Ro G Z H (.set xs) (.ref a) [a]
  | lst {a : Addr} {xs : List V} {ds : List D} (e : H a = some (.lst xs)) (h : DzA Z G.K H ds xs) : Ro G Z H (.lst ds) (.ref a) [a]
  | dic {a : Addr} {kvs : List (Key × V)} {es : List (D × D)} (e : H a = some (.dK kvs)) (hk : DzA Z G.K H (es.map (·.1)) (kvs.map fun p => kV p.1)) (hv : DzA Z G.K H (es.map (·.2)) (kvs.map (·.2)))
      (nd : (kvs.map (·.1)).Nodup) : Ro G Z H (.dic es) (.ref a) [a]
  | dct {a : Addr} {xs : List (NestedKey × Addr × Value)} {es : List (D × D)} (e : H a = some (.ext (NDict G a xs))) (hx : Paired (NEnt Z G.K H) xs es) (nd : (xs.map (·.1)).Nodup) (ne : xs ≠ []) : Ro G Z H (.dic es) (.ref a) [a]
  | ins {a dx : Addr} {c : Nat} {vs : List (Str × V)} {fs : List (Str × O)} {F : List Addr} (e : H a = some (.ins (G.ca c) dx vs)) (h : RoF G Z H fs vs F) : Ro G Z H (.ins c fs) (.ref a) (a :: F)
  | exn {a : Addr} {c : Nat} (e : H a = some (.ext (ExT a (G.ca c)))) : Ro G Z H (.exn c) (.ref a) [a]
  | yng {b : Addr} {d : D} {F : List Addr} (h : Dz (fun a => a ∈ F) G.K H d (.ref b)) (mu : ∀ a ∈ F, ∃ xs, H a = some (.lst xs)) : Ro G Z H (.yng d none) (.ref b) F
  | yng2 {a : Addr} {x y : V} {d e : D} {F : List Addr} (r : SqT G.K H a [x, y]) (h : Dz (fun a => a ∈ F) G.K H d x) (mu : ∀ a ∈ F, ∃ xs, H a = some (.lst xs)) (h2 : Dz Z G.K H e y) : Ro G Z H (.yng d (some e)) (.ref a) F
  | ols {a : Addr} {vs : List (Str × V)} {fs : List (Str × O)} {F : List Addr} (z : Z a) (e : H a = some (.lst (vs.map (·.2)))) (h : RoF G Z H fs vs F) : Ro G Z H (.ols fs) (.ref a) F
  | junk {a : Addr} : Ro G Z H .junk (.ref a) []
inductive RoF (G : Gx) (Z : Zs) (H : Hp) : List (Str × O) → List (Str × V) → List Addr → Prop
  | nil : RoF G Z H [] [] []
  | cons {n : Str} {o : O} {v : V} {fs : List (Str × O)} {vs : List (Str × V)} {F F' : List Addr} (h : Ro G Z H o v F) (t : RoF G Z H fs vs F') : RoF G Z H ((n, o) :: fs) ((n, v) :: vs) (F ++ F')
end

section
variable {G : Gx} {Z Z' : Zs} {H H' : Hp}
mutual
theorem Ro.kp (k : Kp Z G.K H Z' H') : ∀ {o : O} {v : V} {F : List Addr}, Ro G Z H o v F → (∀ a ∈ F, ∀ u, H a = some u → H' a = some u) → Ro G Z' H' o v F
  | .val _, _, _, h, _ => by
    cases h with
    | val h => exact .val (h.kp k)
  | .scr _, _, _, h, _ => by
    cases h with
    | scr h => exact .scr (k.f _ _ h)
  | .set _, _, _, h, hf => by
    cases h with
    | set e => exact .set (hf _ (by simp) _ e)
  | .lst _, _, _, h, hf => by
    cases h with
    | lst e h => exact .lst (hf _ (by simp) _ e) (h.kp k)
  | .dic _, _, _, h, hf => by
    cases h with
    | dic e hk hv nd => exact .dic (hf _ (by simp) _ e) (hk.kp k) (hv.kp k) nd
    | dct e hx nd ne => exact .dct (hf _ (by simp) _ e) (Paired.mapP hx fun p q ⟨h1, h2, h3, v, h4, h5⟩ => ⟨h1, h2, h3.kp k, v, h4, h5.kp k⟩) nd ne
  | .ins _ fs, _, _, h, hf => by
    cases h with
    | ins e h => exact .ins (hf _ (by simp) _ e) (RoF.kp k h fun a ha => hf a (List.mem_cons_of_mem _ ha))
  | .exn _, _, _, h, hf => by
    cases h with
    | exn e => exact .exn (hf _ (by simp) _ e)
  | .yng _ _, _, _, h, hf => by
    cases h with
    | yng h mu => exact .yng (h.kp ⟨fun _ h => h, fun a xs z e => hf a z _ e, k.t, k.f, k.g⟩) fun a ha => (mu a ha).imp fun xs e => hf a ha _ e
    | yng2 r h mu h2 => exact .yng2 (k.t _ _ r) (h.kp ⟨fun _ h => h, fun a xs z e => hf a z _ e, k.t, k.f, k.g⟩) (fun a ha => (mu a ha).imp fun xs e => hf a ha _ e) (h2.kp k)
  | .ols fs, _, _, h, hf => by
    cases h with
    | ols z e h => exact .ols (k.z _ z) (k.r _ _ z e) (RoF.kp k h hf)
  | .junk, _, _, h, hf => by
    cases h with
    | junk => exact .junk
theorem RoF.kp (k : Kp Z G.K H Z' H') : ∀ {fs : List (Str × O)} {vs : List (Str × V)} {F : List Addr}, RoF G Z H fs vs F → (∀ a ∈ F, ∀ u, H a = some u → H' a = some u) → RoF G Z' H' fs vs F
  | [], _, _, h, _ => by cases h; exact .nil
  | (n, o) :: fs, _, _, h, hf => by
    cases h with
    | cons h t => exact .cons (Ro.kp k h fun a ha => hf a (List.mem_append_left _ ha)) (RoF.kp k t fun a ha => hf a (List.mem_append_right _ ha))
end
mutual
theorem Ro.mut : ∀ {o : O} {v : V} {F : List Addr}, Ro G Z H o v F → ∀ a ∈ F, Mut (H a)
  | .val _, _, _, h, a, ha => by
    cases h with
    | val h => cases ha
  | .scr _, _, _, h, a, ha => by
    cases h with
    | scr h => cases ha
  | .set _, _, _, h, a, ha => by
    cases h with
    | set e => rw [List.mem_singleton] at ha; subst ha; rw [e]; trivial
  | .lst _, _, _, h, a, ha => by
    cases h with
    | lst e h => rw [List.mem_singleton] at ha; subst ha; rw [e]; trivial
  | .dic _, _, _, h, a, ha => by
    cases h with
    | dic e hk hv nd => rw [List.mem_singleton] at ha; subst ha; rw [e]; trivial
    | dct e hx nd ne => rw [List.mem_singleton] at ha; subst ha; rw [e]; trivial
  | .ins _ fs, _, _, h, a, ha => by
    cases h with
    | ins e h =>
      rcases List.mem_cons.mp ha with q | ha
      · subst q; rw [e]; trivial
      · exact RoF.mut h a ha
  | .exn _, _, _, h, a, ha => by
    cases h with
    | exn e => rw [List.mem_singleton] at ha; subst ha; rw [e]; trivial
  | .yng _ _, _, _, h, a, ha => by
    cases h with
    | yng h mu => obtain ⟨xs, e⟩ := mu a ha; rw [e]; trivial
    | yng2 r h mu h2 => obtain ⟨xs, e⟩ := mu a ha; rw [e]; trivial
  | .ols fs, _, _, h, a, ha => by
    cases h with
    | ols z e h => exact RoF.mut h a ha
  | .junk, _, _, h, a, ha => by
    cases h with
    | junk => cases ha
theorem RoF.mut : ∀ {fs : List (Str × O)} {vs : List (Str × V)} {F : List Addr}, RoF G Z H fs vs F → ∀ a ∈ F, Mut (H a)
  | [], _, _, h, a, ha => by cases h; cases ha
  | (n, o) :: fs, _, _, h, a, ha => by
    cases h with
    | cons h t =>
      rcases List.mem_append.mp ha with ha | ha
      · exact Ro.mut h a ha
      · exact RoF.mut t a ha
end
end

/-! ### steps -/
structure Step (Z : Zs) (L : List Addr) (H : Hp) (Z' : Zs) (M : List Addr) (H' : Hp) : Prop where
  keep : ∀ a o, H a = some o → a ∉ L → H' a = some o
  zmono : ∀ a, Z a → Z' a
  znew : ∀ a, Z' a → Z a ∨ a ∈ L ∨ H a = none
  lnew : ∀ a ∈ M, a ∈ L ∨ H a = none

section
variable {K : PySem.W.Frag} {Z Z1 Z2 : Zs} {H H1 H2 : Hp} {L M L1 M2 F : List Addr}
theorem Step.refl : Step Z L H Z L H := ⟨fun _ _ e _ => e, fun _ h => h, fun _ h => .inl h, fun _ h => .inl h⟩
theorem Step.sub (s : Step Z L H Z1 M H1) (h : ∀ a ∈ L1, a ∈ M) : Step Z L H Z1 L1 H1 := ⟨s.keep, s.zmono, s.znew, fun a ha => s.lnew a (h a ha)⟩
/-- a further step of a part; F stands aside -/
theorem Step.then (s : Step Z L H Z1 (F ++ L1) H1) (t : Step Z1 L1 H1 Z2 M2 H2) : Step Z L H Z2 (F ++ M2) H2 where
  keep := fun a o e hn => t.keep a o (s.keep a o e hn) fun hl => by
    rcases s.lnew a (List.mem_append_right _ hl) with q | q
    · exact hn q
    · rw [e] at q; cases q
  zmono := fun a h => t.zmono a (s.zmono a h)
  znew := fun a h => by
    have none_of : H1 a = none → a ∈ L ∨ H a = none := fun q => by
      by_cases hl : a ∈ L
      · exact .inl hl
      · cases e : H a with
        | none => exact .inr rfl
        | some o => rw [s.keep a o e hl] at q; cases q
    rcases t.znew a h with q | q | q
    · exact s.znew a q
    · exact .inr (s.lnew a (List.mem_append_right _ q))
    · exact .inr (none_of q)
  lnew := fun a h => by
    have none_of : H1 a = none → a ∈ L ∨ H a = none := fun q => by
      by_cases hl : a ∈ L
      · exact .inl hl
      · cases e : H a with
        | none => exact .inr rfl
        | some o => rw [s.keep a o e hl] at q; cases q
    rcases List.mem_append.mp h with h | h
    · exact s.lnew a (List.mem_append_left _ h)
    · rcases t.lnew a h with q | q
      · exact s.lnew a (List.mem_append_right _ q)
      · exact none_of q
theorem Step.trans (s : Step Z L H Z1 L1 H1) (t : Step Z1 L1 H1 Z2 M2 H2) : Step Z L H Z2 M2 H2 := Step.then (F := []) s t
/-- frozen data is kept -/
theorem Step.kp (s : Step Z L H Z1 M H1) (mu : ∀ a ∈ L, Mut (H a)) (dis : ∀ a ∈ L, ¬ Z a) : Kp Z K H Z1 H1 where
  z := s.zmono
  r := fun a xs z r => by
    have hn : a ∉ L := fun h => dis a h z
    exact s.keep _ _ r hn
  t := fun a xs r => by
    rcases r with (r | ⟨o, r⟩) | r
    · refine .inl (.inl (s.keep _ _ r fun h => ?_))
      have := mu a h
      rw [r] at this
      exact this
    · refine .inl (.inr ⟨o, s.keep _ _ r fun h => ?_⟩)
      have := mu a h
      rw [r] at this
      exact this
    · exact .inr r
  f := fun a ns r => by
    rcases r with ⟨ob, r⟩ | r
    · refine .inl ⟨ob, s.keep _ _ r fun h => ?_⟩
      have := mu a h
      rw [r] at this
      exact this
    · exact .inr r
  g := fun a ob u r => s.keep _ _ r fun h => by
    have := mu a h
    rw [r] at this
    exact this
end

/-! ### the slots -/
/-- a slot: unknown, or an object (pin: a parameter's own, not to be stored over) -/
abbrev Sl := Option (Bool × O)
abbrev En := List Sl

inductive RoS (G : Gx) (Z : Zs) (H : Hp) : En → St → List Addr → Prop
  | emp : RoS G Z H [] [] []
  | no {ρ : En} {σ : St} {x : Option V} {L : List Addr} (t : RoS G Z H ρ σ L) : RoS G Z H (none :: ρ) (x :: σ) L
  | yes {ρ : En} {σ : St} {p : Bool} {o : O} {v : V} {F L : List Addr} (h : Ro G Z H o v F) (t : RoS G Z H ρ σ L) : RoS G Z H (some (p, o) :: ρ) (some v :: σ) (F ++ L)

section
variable {G : Gx} {Z Z' : Zs} {H H' : Hp}
theorem RoS.kp (k : Kp Z G.K H Z' H') : ∀ {ρ : En} {σ : St} {L : List Addr}, RoS G Z H ρ σ L → (∀ a ∈ L, ∀ u, H a = some u → H' a = some u) → RoS G Z' H' ρ σ L
  | _, _, _, .emp, _ => .emp
  | _, _, _, .no t, hf => .no (RoS.kp k t hf)
  | _, _, _, .yes h t, hf => .yes (h.kp k fun a ha => hf a (List.mem_append_left _ ha)) (RoS.kp k t fun a ha => hf a (List.mem_append_right _ ha))
theorem RoS.mut : ∀ {ρ : En} {σ : St} {L : List Addr}, RoS G Z H ρ σ L → ∀ a ∈ L, Mut (H a)
  | _, _, _, .emp, _, h => by cases h
  | _, _, _, .no t, a, h => RoS.mut t a h
  | _, _, _, .yes h t, a, ha => by
    rcases List.mem_append.mp ha with ha | ha
    · exact h.mut a ha
    · exact RoS.mut t a ha
theorem RoS.length : ∀ {ρ : En} {σ : St} {L : List Addr}, RoS G Z H ρ σ L → ρ.length = σ.length
  | _, _, _, .emp => rfl
  | _, _, _, .no t => by rw [List.length_cons, List.length_cons, RoS.length t]
  | _, _, _, .yes _ t => by rw [List.length_cons, List.length_cons, RoS.length t]
/-- a slot is read: its object, and the rest -/
theorem RoS.get : ∀ {ρ : En} {σ : St} {L : List Addr} {i : Nat} {p : Bool} {o : O}, RoS G Z H ρ σ L → ρ[i]? = some (some (p, o)) → ∃ v F, σ[i]? = some (some v) ∧ Ro G Z H o v F ∧ (∀ a ∈ F, a ∈ L)
  | _, _, _, _, _, _, .emp, e => by simp at e
  | _, _, _, 0, _, _, .no t, e => by simp at e
  | _, _, _, i + 1, _, _, .no t, e => by
    obtain ⟨v, F, h1, h2, h3⟩ := RoS.get (i := i) t (by simpa using e)
    exact ⟨v, F, by simpa using h1, h2, h3⟩
  | _, _, _, 0, p, o, .yes h t, e => by
    simp only [List.getElem?_cons_zero, Option.some.injEq, Prod.mk.injEq] at e
    obtain ⟨rfl, rfl⟩ := e
    exact ⟨_, _, rfl, h, fun a ha => List.mem_append_left _ ha⟩
  | _, _, _, i + 1, _, _, .yes h t, e => by
    obtain ⟨v, F, h1, h2, h3⟩ := RoS.get (i := i) t (by simpa using e)
    exact ⟨v, F, by simpa using h1, h2, fun a ha => List.mem_append_right _ (h3 a ha)⟩
end

/-- the state: slots ρ at σ, in all L owned; pinned ones at their θ -/
structure Rep (θ : Nat → V) (G : Gx) (Z : Zs) (H : Hp) (ρ : En) (σ : St) (L : List Addr) : Prop where
  sl : RoS G Z H ρ σ L
  nd : L.Nodup
  dis : ∀ a ∈ L, ¬ Z a
  zd : ∀ a, Z a → H a ≠ none
  pn : ∀ i o, ρ[i]? = some (some (true, o)) → σ[i]? = some (some (θ i))
end Eng
/-! The engine, part 2: outcomes, operands, readings of expressions. -/
namespace Eng
open PySem PySem.Spec L2
open PyProof.Rows hiding St

inductive Out (α : Type) where
  | ok (a : α) (ρ : En)
  | exc (c : Nat) (ρ : En)
  | stuck
def Out.bind {α β : Type} : Out α → (α → En → Out β) → Out β
  | .ok a ρ, f => f a ρ
  | .exc c ρ, _ => .exc c ρ
  | .stuck, _ => .stuck
@[simp] theorem bind_ok {α β : Type} (a : α) (ρ : En) (f : α → En → Out β) : (Out.ok a ρ).bind f = f a ρ := rfl
@[simp] theorem bind_exc {α β : Type} (c : Nat) (ρ : En) (f : α → En → Out β) : (Out.exc c ρ : Out α).bind f = .exc c ρ := rfl
@[simp] theorem bind_stuck {α β : Type} (f : α → En → Out β) : (Out.stuck : Out α).bind f = .stuck := rfl

inductive Opd where
  | tmp (o : O)
  | nm (i : Nat)
abbrev ES := En → Out Opd
abbrev AS := En → Out (List Opd)
abbrev TS' := En → Out Bool

def slotO (ρ : En) (i : Nat) : Option O := match ρ[i]? with
  | some (some po) => some po.2
  | _ => none
def look (ρ : En) : Opd → Option O
  | .tmp o => some o
  | .nm i => slotO ρ i
def looks (ρ : En) : List Opd → Option (List O)
  | [] => some []
  | p :: ps => match look ρ p, looks ρ ps with
    | some o, some os => some (o :: os)
    | _, _ => none
/-- an answer that may be lacking -/
def put (ρ : En) : Option O → Out Opd
  | some o => .ok (.tmp o) ρ
  | none => .stuck

/-! ### operands that are held -/
inductive OpsOk (G : Gx) (Z : Zs) (H : Hp) (σ : L2.St) : List Opd → List V → List Addr → Prop
  | nil : OpsOk G Z H σ [] [] []
  | tmp {o : O} {v : V} {F F' : List Addr} {ps : List Opd} {vs : List V} (h : Ro G Z H o v F) (t : OpsOk G Z H σ ps vs F') : OpsOk G Z H σ (.tmp o :: ps) (v :: vs) (F ++ F')
  | nm {i : Nat} {v : V} {F' : List Addr} {ps : List Opd} {vs : List V} (h : σ[i]? = some (some v)) (t : OpsOk G Z H σ ps vs F') : OpsOk G Z H σ (.nm i :: ps) (v :: vs) F'
structure Held (G : Gx) (Z : Zs) (H : Hp) (σ : L2.St) (L : List Addr) (ps : List Opd) (vs : List V) (F : List Addr) : Prop where
  ok : OpsOk G Z H σ ps vs F
  nd : (F ++ L).Nodup
  dis : ∀ a ∈ F, ¬ Z a

section
variable {θ : Nat → V} {G : Gx} {Z Z1 Z2 : Zs} {H H1 H2 : Hp} {σ : L2.St} {L L1 L2' F F1 F2 : List Addr} {ps qs : List Opd} {vs ws : List V} {ρ ρ1 : En}
theorem OpsOk.kp (k : Kp Z1 G.K H1 Z2 H2) : ∀ {ps : List Opd} {vs : List V} {F : List Addr}, OpsOk G Z1 H1 σ ps vs F → (∀ a ∈ F, ∀ u, H1 a = some u → H2 a = some u) → OpsOk G Z2 H2 σ ps vs F
  | _, _, _, .nil, _ => .nil
  | _, _, _, .tmp h t, hf => .tmp (h.kp k fun a ha => hf a (List.mem_append_left _ ha)) (OpsOk.kp k t fun a ha => hf a (List.mem_append_right _ ha))
  | _, _, _, .nm h t, hf => .nm h (OpsOk.kp k t hf)
theorem OpsOk.mut : ∀ {ps : List Opd} {vs : List V} {F : List Addr}, OpsOk G Z H σ ps vs F → ∀ a ∈ F, Mut (H a)
  | _, _, _, .nil, _, h => by cases h
  | _, _, _, .tmp h t, a, ha => (List.mem_append.mp ha).elim (h.mut a) (OpsOk.mut t a)
  | _, _, _, .nm _ t, a, ha => OpsOk.mut t a ha
theorem OpsOk.append : ∀ {ps qs : List Opd} {vs ws : List V} {F F' : List Addr}, OpsOk G Z H σ ps vs F → OpsOk G Z H σ qs ws F' → OpsOk G Z H σ (ps ++ qs) (vs ++ ws) (F ++ F')
  | _, _, _, _, _, _, .nil, h => h
  | _, _, _, _, _, _, .tmp h t, h' => by
    rw [List.append_assoc]
    exact .tmp h (OpsOk.append t h')
  | _, _, _, _, _, _, .nm h t, h' => .nm h (OpsOk.append t h')
theorem mut_some {H : Hp} {a : Addr} (m : Mut (H a)) : H a ≠ none := fun e => by rw [e] at m; exact m
/-- held operands are held on when a part of the state has gone a step -/
theorem Held.carry (h : Held G Z1 H1 σ L1 ps vs F1) (r : Rep θ G Z1 H1 ρ1 σ L1) (s : Step Z1 L1 H1 Z2 (F2 ++ L2') H2) (nd : (F2 ++ L2').Nodup) : Held G Z2 H2 σ (F2 ++ L2') ps vs F1 := by
  have mu := h.ok.mut
  have nL : ∀ a ∈ F1, a ∉ L1 := fun a ha hl => (List.nodup_append.mp h.nd).2.2 a ha a hl rfl
  refine ⟨h.ok.kp (s.kp r.sl.mut r.dis) fun a ha u e => s.keep a u e (nL a ha), ?_, fun a ha z => ?_⟩
  · refine List.nodup_append.mpr ⟨(List.nodup_append.mp h.nd).1, nd, fun a ha b hb e => ?_⟩
    subst e
    rcases s.lnew a hb with q | q
    · exact nL a ha q
    · exact mut_some (mu a ha) q
  · rcases s.znew a z with q | q | q
    · exact h.dis a ha q
    · exact nL a ha q
    · exact mut_some (mu a ha) q
theorem Held.join (h1 : Held G Z H σ (F2 ++ L) ps vs F1) (h2 : Held G Z H σ L qs ws F2) : Held G Z H σ L (ps ++ qs) (vs ++ ws) (F1 ++ F2) :=
  ⟨h1.ok.append h2.ok, by rw [List.append_assoc]; exact h1.nd, fun a ha => (List.mem_append.mp ha).elim (h1.dis a) (h2.dis a)⟩
theorem Held.none (r : Rep θ G Z H ρ σ L) : Held G Z H σ L [] [] [] := ⟨.nil, r.nd, fun _ h => by cases h⟩
/-- it can be read -/
def Rb (G : Gx) (Z : Zs) (H : Hp) (o : O) (v : V) : Prop := ∃ F, Ro G Z H o v F
theorem slotO_some {ρ : En} {i : Nat} {o : O} (e : slotO ρ i = some o) : ∃ p, ρ[i]? = some (some (p, o)) := by
  unfold slotO at e
  split at e
  · rename_i po h
    cases e
    exact ⟨po.1, h⟩
  · cases e
theorem Rep.look (r : Rep θ G Z H ρ σ L) {i : Nat} {o : O} {v : V} (e : slotO ρ i = some o) (hv : σ[i]? = some (some v)) : Rb G Z H o v := by
  obtain ⟨p, e⟩ := slotO_some e
  obtain ⟨v', F, h1, h2, _⟩ := r.sl.get e
  rw [hv] at h1
  cases h1
  exact ⟨F, h2⟩
theorem OpsOk.looks (r : Rep θ G Z H ρ σ L) : ∀ {ps : List Opd} {vs : List V} {F : List Addr} {os : List O}, OpsOk G Z H σ ps vs F → looks ρ ps = some os → Paired (Rb G Z H) os vs
  | _, _, _, _, .nil, e => by
    cases e
    exact .nil
  | _, _, _, os, .tmp (ps := ps) h t, e => by
    unfold Eng.looks at e
    cases q : Eng.looks ρ ps with
    | none => rw [q] at e; simp [look] at e
    | some us =>
      rw [q] at e
      simp only [look, Option.some.injEq] at e
      subst e
      exact .cons ⟨_, h⟩ (OpsOk.looks r t q)
  | _, _, _, os, .nm (i := i) (ps := ps) h t, e => by
    unfold Eng.looks at e
    cases q : Eng.looks ρ ps with
    | none => rw [q] at e; cases q2 : slotO ρ i <;> simp [look, q2] at e
    | some us =>
      cases q2 : slotO ρ i with
      | none => simp [look, q2] at e
      | some o =>
        rw [q] at e
        simp only [look, q2, Option.some.injEq] at e
        subst e
        exact .cons (r.look q2 h) (OpsOk.looks r t q)
end

/-! ### an answer at a new object -/
structure Al (G : Gx) (Z : Zs) (H : Hp) (o : O) (v : V) (H' : Hp) (F : List Addr) : Prop where
  same : Same H H'
  ro : Ro G Z H' o v F
  nd : F.Nodup
  new : ∀ a ∈ F, H a = none
section
variable {θ : Nat → V} {G : Gx} {Z : Zs} {H H' : Hp} {σ : L2.St} {L F : List Addr} {ρ : En} {o : O} {v : V}
theorem same_kp {K : PySem.W.Frag} (s : Same H H') : Kp Z K H Z H' := ⟨fun _ h => h, fun a xs _ e => s _ _ e, fun a xs h => by
  rcases h with (e | ⟨o, e⟩) | e
  · exact .inl (.inl (s _ _ e))
  · exact .inl (.inr ⟨o, s _ _ e⟩)
  · exact .inr e, fun a ns h => by
  rcases h with ⟨ob, e⟩ | e
  · exact .inl ⟨ob, s _ _ e⟩
  · exact .inr e, fun a ob u e => s _ _ e⟩
theorem Rep.same (r : Rep θ G Z H ρ σ L) (s : Same H H') : Rep θ G Z H' ρ σ L :=
  ⟨r.sl.kp (same_kp s) fun a _ u e => s a u e, r.nd, r.dis, fun a z e => by
    cases q : H a with
    | none => exact r.zd a z q
    | some o => (rw [s a o q] at e; cases e), r.pn⟩
theorem Al.rep (x : Al G Z H o v H' F) (r : Rep θ G Z H ρ σ L) : Rep θ G Z H' ρ σ L := r.same x.same
theorem Al.disj (x : Al G Z H o v H' F) (r : Rep θ G Z H ρ σ L) : (F ++ L).Nodup ∧ ∀ a ∈ F, ¬ Z a :=
  ⟨List.nodup_append.mpr ⟨x.nd, r.nd, fun a ha b hb e => by subst e; exact mut_some (r.sl.mut a hb) (x.new a ha)⟩, fun a ha z => r.zd a z (x.new a ha)⟩
theorem Al.held (x : Al G Z H o v H' F) (r : Rep θ G Z H ρ σ L) : Held G Z H' σ L [.tmp o] [v] F := by
  obtain ⟨h1, h2⟩ := x.disj r
  have h3 : OpsOk G Z H' σ [.tmp o] [v] (F ++ []) := .tmp x.ro .nil
  rw [List.append_nil] at h3
  exact ⟨h3, h1, h2⟩
theorem Al.step (x : Al G Z H o v H' F) : Step Z L H Z (F ++ L) H' :=
  ⟨fun a u e _ => x.same a u e, fun _ z => z, fun _ z => .inl z, fun a ha => (List.mem_append.mp ha).elim (fun h => .inr (x.new a h)) .inl⟩
theorem Al.val {d : D} {v : V} (h : Dz Z G.K H d v) : Al G Z H (.val d) v H [] := ⟨fun _ _ e => e, .val h, List.nodup_nil, fun _ h => by cases h⟩
theorem same_new {p : Addr} {o : HO} (h : H p = none) : Same H (upd H p o) := fun b x e => by
  rw [upd_ne (ne_of_none e h)]
  exact e
theorem Al.lst {ds : List D} {xs : List V} {p : Addr} (h : DzA Z G.K H ds xs) (np : H p = none) : Al G Z H (.lst ds) (.ref p) (upd H p (.lst xs)) [p] :=
  ⟨same_new np, .lst upd_same (h.kp (same_kp (same_new np))), by simp, fun a ha => by
    rw [List.mem_singleton] at ha
    rw [ha]; exact np⟩
theorem Al.tup {ds : List D} {xs : List V} {p : Addr} (h : DzA Z G.K H ds xs) (np : H p = none) : Al G Z H (.val (.tuple ds)) (.ref p) (upd H p (.tup xs)) [] :=
  ⟨same_new np, .val (.tup (.inl (.inl upd_same)) (h.kp (same_kp (same_new np)))), List.nodup_nil, fun _ h => by cases h⟩
end

/-! ### the readings -/
section
variable (X : Cx) (ca : Nat → Addr) (W : WX)
abbrev gx : Gx := ⟨X.prog, X.w, X.K, ca⟩
/-- what is wanted behind an expression; behind a list of them -/
def PoE (θ : Nat → V) (Z : Zs) (L : List Addr) (H : Hp) (σ : L2.St) (Q : VK) : Out Opd → Prop
  | .ok p ρ' => ∀ Z' H' L' F v, Rep θ (gx X ca) Z' H' ρ' σ L' → Held (gx X ca) Z' H' σ L' [p] [v] F → Step Z L H Z' (F ++ L') H' → Q v H'
  | .exc c ρ' => ∀ Z' H' L', Rep θ (gx X ca) Z' H' ρ' σ L' → Step Z L H Z' L' H' → W (.ref (ca c)) none σ H'
  | .stuck => False
def PoA (θ : Nat → V) (Z : Zs) (L : List Addr) (H : Hp) (σ : L2.St) (Q : List V → Hp → Prop) : Out (List Opd) → Prop
  | .ok ps ρ' => ∀ Z' H' L' F vs, Rep θ (gx X ca) Z' H' ρ' σ L' → Held (gx X ca) Z' H' σ L' ps vs F → Step Z L H Z' (F ++ L') H' → Q vs H'
  | .exc c ρ' => ∀ Z' H' L', Rep θ (gx X ca) Z' H' ρ' σ L' → Step Z L H Z' L' H' → W (.ref (ca c)) none σ H'
  | .stuck => False
def PoT (θ : Nat → V) (Z : Zs) (L : List Addr) (H : Hp) (σ : L2.St) (Q : Bool → Hp → Prop) : Out Bool → Prop
  | .ok b ρ' => ∀ Z' H' L', Rep θ (gx X ca) Z' H' ρ' σ L' → Step Z L H Z' L' H' → Q b H'
  | .exc c ρ' => ∀ Z' H' L', Rep θ (gx X ca) Z' H' ρ' σ L' → Step Z L H Z' L' H' → W (.ref (ca c)) none σ H'
  | .stuck => False
def RdE (f : ES) : TE := fun σ H Q => ∃ θ Z ρ L, Rep θ (gx X ca) Z H ρ σ L ∧ PoE X ca W θ Z L H σ Q (f ρ)
def RdA (f : AS) : TA := fun σ H Q => ∃ θ Z ρ L, Rep θ (gx X ca) Z H ρ σ L ∧ PoA X ca W θ Z L H σ Q (f ρ)
def RdT (f : TS') : TT := fun σ H Q => ∃ θ Z ρ L, Rep θ (gx X ca) Z H ρ σ L ∧ PoT X ca W θ Z L H σ Q (f ρ)
end

theorem PE.imp {X : Cx} {e : Expr} {t t' : TE} (h : PE X e t) (i : ∀ σ H Q, t' σ H Q → t σ H Q) : PE X e t' := ⟨fun pins s σ H Q I q => h.run pins s σ H Q I (i σ H Q q)⟩
theorem PT.imp {X : Cx} {e : Expr} {t t' : TT} (h : PT X e t) (i : ∀ σ H Q, t' σ H Q → t σ H Q) : PT X e t' := ⟨fun pins s σ H Q I q => h.run pins s σ H Q I (i σ H Q q)⟩
theorem PW.imp {X : Cx} {e : Expr} {t t' : TT} (h : PW X e t) (i : ∀ σ H Q, t' σ H Q → t σ H Q) : PW X e t' := ⟨fun wh pins s σ H Q I q => h.run wh pins s σ H Q I (i σ H Q q)⟩
theorem PA.imp {X : Cx} {es : List Expr} {t t' : TA} (h : PA X es t) (i : ∀ σ H Q, t' σ H Q → t σ H Q) : PA X es t' := ⟨fun pos pins s σ H Q I q => h.run pos pins s σ H Q I (i σ H Q q)⟩

/-! ### the combinators of expressions -/
def oNm (i : Nat) : ES := fun ρ => match slotO ρ i with
  | some _ => .ok (.nm i) ρ
  | none => .stuck
def oC (d : D) : ES := fun ρ => .ok (.tmp (.val d)) ρ
def oAs : List ES → AS
  | [] => fun ρ => .ok [] ρ
  | f :: fs => fun ρ => (f ρ).bind fun p ρ1 => (oAs fs ρ1).bind fun ps ρ2 => .ok (p :: ps) ρ2
/-- an operation on operands that are read -/
def oF (sem : List O → Option O) (as : AS) : ES := fun ρ => (as ρ).bind fun ps ρ1 => match looks ρ1 ps with
  | some os => put ρ1 (sem os)
  | none => .stuck
def two (sem : O → O → Option O) : List O → Option O
  | [a, b] => sem a b
  | _ => none
def one (sem : O → Option O) : List O → Option O
  | [a] => sem a
  | _ => none
/-- two operands -/
def o2 (sem : O → O → Option O) (a b : ES) : ES := oF (two sem) (oAs [a, b])

section
variable {X : Cx} {ca : Nat → Addr} {W : WX} {a b e : Expr} {es : List Expr} {f g : ES} {fs : AS} {pos : Pos}
theorem se_name {i : Nat} {x : Str} (hN : X.N[i]? = some x) (hv : Vis X.env.scope x) (hd : (x == ("__debug__" : Str)) = false) (hcd : (x == ("__classdict__" : Str)) = false) : PE X (.Name x pos) (RdE X ca W (oNm i)) :=
  PE.imp (pe_var hN hv hd hcd) fun σ H Q ⟨θ, Z, ρ, L, r, q⟩ => by
    unfold oNm at q
    cases e : slotO ρ i with
    | none => rw [e] at q; exact q.elim
    | some o =>
      rw [e] at q
      obtain ⟨p, e'⟩ := slotO_some e
      obtain ⟨v, F, h1, h2, _⟩ := r.sl.get e'
      exact ⟨v, h1, q Z H L [] v r ⟨.nm h1 .nil, r.nd, fun _ h => by cases h⟩ Step.refl⟩
theorem rd_const {d : D} {v : V} (h : ∀ Z H, Dz Z X.K H d v) : ∀ σ H Q, RdE X ca W (oC d) σ H Q → tC v σ H Q := fun σ H Q ⟨θ, Z, ρ, L, r, q⟩ =>
  q Z H L [] v r ((Al.val (G := gx X ca) (h Z H)).held r) Step.refl
theorem se_int {i : Int} {j : Nat} : PE X (.Constant (.int i) j pos) (RdE X ca W (oC (.int i))) := PE.imp pe_int (rd_const fun _ _ => .int i)
theorem se_bl {i : Bool} {j : Nat} : PE X (.Constant (.bool i) j pos) (RdE X ca W (oC (.bool i))) := PE.imp pe_bl (rd_const fun _ _ => .bl i)
theorem se_str {x : Str} {j : Nat} : PE X (.Constant (.str x) j pos) (RdE X ca W (oC (.str x))) := PE.imp pe_str (rd_const fun _ _ => .str x)
theorem se_non {j : Nat} : PE X (.Constant .none j pos) (RdE X ca W (oC .none)) := PE.imp pe_non (rd_const fun _ _ => .non)
/-- a module's constant -/
theorem se_glob {x : Str} {d : D} {v : V} {u : Value} (hg : Gl X x) (hm : X.mg x = some u) (r : RelV v u) (hd : (x == ("__debug__" : Str)) = false) (h : ∀ Z H, Dz Z X.K H d v) : PE X (.Name x pos) (RdE X ca W (oC d)) := PE.imp (pe_glob hg hm r hd) (rd_const h)

/-- one expression, then others -/
theorem seq2 {θ : Nat → V} {Z : Zs} {ρ : En} {L : List Addr} {σ : L2.St} {H : Hp} {Q : List V → Hp → Prop} {ta : TE} (r : Rep θ (gx X ca) Z H ρ σ L)
    (q : PoA X ca W θ Z L H σ Q ((f ρ).bind fun p ρ1 => (fs ρ1).bind fun ps ρ2 => .ok (p :: ps) ρ2)) (ha : ∀ Q', RdE X ca W f σ H Q' → ta σ H Q') : ta σ H fun x H1 => RdA X ca W fs σ H1 fun xs H2 => Q (x :: xs) H2 := by
  refine ha _ ⟨θ, Z, ρ, L, r, ?_⟩
  cases e : f ρ with
  | stuck => rw [e] at q; exact q
  | exc c ρ1 => rw [e] at q; exact q
  | ok p ρ1 =>
    rw [e] at q
    intro Z1 H1 L1 F1 v1 r1 h1 s1
    refine ⟨θ, Z1, ρ1, L1, r1, ?_⟩
    simp only [bind_ok] at q
    cases e2 : fs ρ1 with
    | stuck => rw [e2] at q; exact q
    | exc c ρ2 =>
      rw [e2] at q
      intro Z2 H2 L2 r2 s2
      exact q Z2 H2 L2 r2 ((s1.sub fun a h => List.mem_append_right _ h).trans s2)
    | ok ps ρ2 =>
      rw [e2] at q
      intro Z2 H2 L2 F2 vs r2 h2 s2
      have h3 := (h1.carry r1 s2 h2.nd).join h2
      exact q Z2 H2 L2 (F1 ++ F2) (v1 :: vs) r2 h3 (by rw [List.append_assoc]; exact s1.then s2)
theorem RdE.mono {σ : L2.St} {H : Hp} {Q Q' : VK} (h : RdE X ca W f σ H Q) (i : ∀ v H, Q v H → Q' v H) : RdE X ca W f σ H Q' := by
  obtain ⟨θ, Z, ρ, L, r, q⟩ := h
  refine ⟨θ, Z, ρ, L, r, ?_⟩
  cases e : f ρ with
  | stuck => rw [e] at q; exact q
  | exc c ρ1 => rw [e] at q; exact q
  | ok p ρ1 => rw [e] at q; exact fun Z1 H1 L1 F v r1 h1 s1 => i _ _ (q Z1 H1 L1 F v r1 h1 s1)
theorem rdA_one {σ : L2.St} {H : Hp} {Q : List V → Hp → Prop} (h : RdA X ca W (oAs [g]) σ H Q) : RdE X ca W g σ H fun y H1 => Q [y] H1 := by
  obtain ⟨θ, Z, ρ, L, r, q⟩ := h
  refine ⟨θ, Z, ρ, L, r, ?_⟩
  unfold oAs at q
  cases e : g ρ with
  | stuck => rw [e] at q; exact q
  | exc c ρ1 => rw [e] at q; exact q
  | ok p ρ1 => rw [e] at q; exact fun Z1 H1 L1 F v r1 h1 s1 => q Z1 H1 L1 F [v] r1 h1 s1
theorem sa_nil : PA X [] (RdA X ca W (oAs [])) := PA.imp pa_nil fun σ H Q ⟨θ, Z, ρ, L, r, q⟩ => q Z H L [] [] r (Held.none r) Step.refl
theorem sa_cons {fs : List ES} (ha : PE X e (RdE X ca W f)) (hr : PA X es (RdA X ca W (oAs fs))) (hs : starEach (e :: es) X.env = (false, eval e X.env) :: starEach es X.env) : PA X (e :: es) (RdA X ca W (oAs (f :: fs))) :=
  PA.imp (pa_cons ha hr hs) fun σ H Q ⟨θ, Z, ρ, L, r, q⟩ => seq2 (fs := oAs fs) r q fun _ h => h

/-- an operation's semantics on values -/
def RSem (sem : List O → Option O) : List V → Hp → VK → Prop := fun xs H Q =>
  ∃ Z os r, (∀ a, Z a → H a ≠ none) ∧ Paired (Rb (gx X ca) Z H) os xs ∧ sem os = some r ∧ ∀ v H' F, Al (gx X ca) Z H r v H' F → Q v H'
/-- what an operation's reading gives back to the whole -/
theorem fin_op {sem : List O → Option O} {θ : Nat → V} {Z : Zs} {L : List Addr} {H : Hp} {σ : L2.St} {Q : VK} {ps : List Opd} {ρ1 : En} {Z1 : Zs} {H1 : Hp} {L1 F : List Addr} {vs : List V}
    (q : PoE X ca W θ Z L H σ Q (match looks ρ1 ps with | some os => put ρ1 (sem os) | none => .stuck)) (r1 : Rep θ (gx X ca) Z1 H1 ρ1 σ L1) (h1 : Held (gx X ca) Z1 H1 σ L1 ps vs F) (s1 : Step Z L H Z1 (F ++ L1) H1) :
    RSem (X := X) (ca := ca) sem vs H1 Q := by
  cases e : looks ρ1 ps with
  | none => rw [e] at q; exact q.elim
  | some os =>
    rw [e] at q
    cases e2 : sem os with
    | none => simp only [e2, put] at q; exact q.elim
    | some o =>
      simp only [e2, put] at q
      refine ⟨Z1, os, o, r1.zd, h1.ok.looks r1 e, e2, fun v H' F' x => ?_⟩
      exact q Z1 H' L1 F' v (x.rep r1) (x.held r1) ((s1.sub fun a h => List.mem_append_right _ h).trans x.step)
theorem rd_oF {sem : List O → Option O} {σ : L2.St} {H : Hp} {Q : VK} (h : RdE X ca W (oF sem fs) σ H Q) : RdA X ca W fs σ H fun vs H1 => RSem (X := X) (ca := ca) sem vs H1 Q := by
  obtain ⟨θ, Z, ρ, L, r, q⟩ := h
  refine ⟨θ, Z, ρ, L, r, ?_⟩
  unfold oF at q
  cases e : fs ρ with
  | stuck => rw [e] at q; exact q
  | exc c ρ1 => rw [e] at q; exact q
  | ok ps ρ1 =>
    rw [e] at q
    intro Z1 H1 L1 F vs r1 h1 s1
    exact fin_op q r1 h1 s1
/-- binary operators -/
def BinS (X : Cx) (ca : Nat → Addr) (op : Value → Value → Sem Value) (sem : O → O → Option O) : Prop := OpR X op (fun x y H Q => RSem (X := X) (ca := ca) (two sem) [x, y] H Q)
theorem rd_o2 {sem : O → O → Option O} {σ : L2.St} {H : Hp} {Q : VK} (h : RdE X ca W (o2 sem f g) σ H Q) : tOp (fun x y H Q => RSem (X := X) (ca := ca) (two sem) [x, y] H Q) (RdE X ca W f) (RdE X ca W g) σ H Q := by
  obtain ⟨θ, Z, ρ, L, r, q⟩ := rd_oF h
  have h1 := seq2 (fs := oAs [g]) (ta := RdE X ca W f) (Q := fun vs H1 => RSem (X := X) (ca := ca) (two sem) vs H1 Q) r q (fun _ h => h)
  exact h1.mono fun v H1 h2 => rdA_one h2
theorem se_bin {sem : O → O → Option O} {op : Operator} (ho : BinS X ca (binaryOp op) sem) (ha : PE X a (RdE X ca W f)) (hb : PE X b (RdE X ca W g)) : PE X (.BinOp a op b pos) (RdE X ca W (o2 sem f g)) :=
  PE.imp (pe_op ho ha hb) fun _ _ _ h => rd_o2 h
theorem se_cmp {sem : O → O → Option O} {op : CmpOp} (ho : BinS X ca (compareOp op) sem) (ha : PE X a (RdE X ca W f)) (hb : PE X b (RdE X ca W g)) (hm : behindInMarks op b = false) : PE X (.Compare a [op] [b] pos) (RdE X ca W (o2 sem f g)) :=
  PE.imp (pe_cmpR ho ha hb hm) fun _ _ _ h => rd_o2 h
end
end Eng
set_option maxHeartbeats 1000000
/-! The engine, part 3: operators. -/
namespace Eng
open PySem PySem.Spec L2
open PyProof.Rows hiding St

/-! ### views -/
def O.list? : O → Option (List D)
  | .lst ds => some ds
  | .val (.list ds) => some ds
  | _ => none
def O.tup? : O → Option (List D)
  | .val (.tuple ds) => some ds
  | _ => none
def O.seq? : O → Option (List D)
  | .lst ds => some ds
  | .val (.list ds) => some ds
  | .val (.tuple ds) => some ds
  | _ => none
def O.view? : O → Option D
  | .lst ds => some (.list ds)
  | .val d => some d
  | _ => none
section
variable {G : Gx} {Z : Zs} {H : Hp} {o : O} {v : V} {ds : List D} {d : D}
theorem rb_list (h : Rb G Z H o v) (e : o.list? = some ds) : ∃ a xs, v = .ref a ∧ H a = some (.lst xs) ∧ DzA Z G.K H ds xs := by
  obtain ⟨F, h⟩ := h
  cases h with
  | lst e1 h1 => cases e; exact ⟨_, _, rfl, e1, h1⟩
  | val h1 =>
    cases h1 with
    | lst z r h => cases e; exact ⟨_, _, rfl, r, h⟩
    | _ => cases e
  | _ => cases e
theorem rb_tup (h : Rb G Z H o v) (e : o.tup? = some ds) : ∃ a xs, v = .ref a ∧ SqT G.K H a xs ∧ DzA Z G.K H ds xs := by
  obtain ⟨F, h⟩ := h
  cases h with
  | val h1 =>
    cases h1 with
    | tup r h => cases e; exact ⟨_, _, rfl, r, h⟩
    | _ => cases e
  | _ => cases e
theorem rb_seq (h : Rb G Z H o v) (e : o.seq? = some ds) : ∃ a xs, v = .ref a ∧ (SqL G.K H a xs ∨ SqT G.K H a xs) ∧ DzA Z G.K H ds xs := by
  obtain ⟨F, h⟩ := h
  cases h with
  | lst e1 h1 => cases e; exact ⟨_, _, rfl, .inl (.inl (.inl e1)), h1⟩
  | val h1 =>
    cases h1 with
    | lst z r h => cases e; exact ⟨_, _, rfl, .inl (.inl (.inl r)), h⟩
    | tup r h => cases e; exact ⟨_, _, rfl, .inr r, h⟩
    | _ => cases e
  | _ => cases e
theorem layS_shaped {d : D} (h : SeqAt.shaped d = true) : d.hasDict = false := PyData.hasDict_of_canLay _ (SeqAt.canLay_of_shaped h)
theorem rb_view (h : Rb G Z H o v) (e : o.view? = some d) (c : d.hasDict = false) : Dp G.K H v d := by
  obtain ⟨F, h⟩ := h
  cases h with
  | lst e1 h1 =>
    cases e
    exact .lst (.inl (.inl e1)) (h1.dp (by simpa [PyData.hasDict] using c))
  | val h1 => cases e; exact h1.dp c
  | _ => cases e
theorem rb_val (h : Rb G Z H (.val d) v) : Dz Z G.K H d v := by
  obtain ⟨F, h⟩ := h
  cases h with
  | val h1 => exact h1
theorem rb_int {i : Int} (h : Rb G Z H (.val (.int i)) v) : v = .int i := by cases rb_val h; rfl
theorem rb_str {i : Str} (h : Rb G Z H (.val (.str i)) v) : v = .str i := by cases rb_val h; rfl
theorem rb_bl {i : Bool} (h : Rb G Z H (.val (.bool i)) v) : v = .bl i := by cases rb_val h; rfl
theorem rb_non (h : Rb G Z H (.val .none) v) : v = .non := by cases rb_val h; rfl
end
theorem pair2 {α β : Type} {R : α → β → Prop} {a b : α} {x y : β} (h : Paired R [a, b] [x, y]) : R a x ∧ R b y := by
  cases h with
  | cons h1 t =>
    cases t with
    | cons h2 t => exact ⟨h1, h2⟩
theorem pair1 {α β : Type} {R : α → β → Prop} {a : α} {x : β} (h : Paired R [a] [x]) : R a x := by
  cases h with
  | cons h1 t => exact h1
theorem two_some {sem : O → O → Option O} {os : List O} {r : O} (e : two sem os = some r) : ∃ a b, os = [a, b] ∧ sem a b = some r := by
  unfold two at e
  split at e
  · exact ⟨_, _, rfl, e⟩
  · cases e
theorem one_some {sem : O → Option O} {os : List O} {r : O} (e : one sem os = some r) : ∃ a, os = [a] ∧ sem a = some r := by
  unfold one at e
  split at e
  · exact ⟨_, rfl, e⟩
  · cases e
section
variable {X : Cx} {ca : Nat → Addr}
/-- the frame of a binary operator's proof -/
theorem binS_of {f : Value → Value → Sem Value} {sem : O → O → Option O}
    (h : ∀ (pins : List (Addr × Obj)) (s : Shared) (σ : L2.St) (H : Hp) (x y : V) (v u : Value) (Q : VK) (Z : Zs) (a b r : O), Inv X pins σ H s → RelV x v → RelV y u → Rb (gx X ca) Z H a x → Rb (gx X ca) Z H b y → sem a b = some r →
      (∀ v H' F, Al (gx X ca) Z H r v H' F → Q v H') → wpAny (model X.prog X.w) X.A (f v u) (EP X pins σ Q) X.xe s) : BinS X ca f sem := by
  intro pins s σ H x y v u Q I rx ry ⟨Z, os, r, zd, hp, e, q⟩
  obtain ⟨a, b, rfl, e⟩ := two_some e
  obtain ⟨h1, h2⟩ := pair2 hp
  exact h pins s σ H x y v u Q Z a b r I rx ry h1 h2 e q
end

/-! ### arithmetic -/
def addS : O → O → Option O
  | .val (.int i), .val (.int j) => some (.val (.int (i + j)))
  | .val (.str x), .val (.str y) => if x.length + y.length ≤ sizeLine then some (.val (.str (x ++ y))) else none
  | .val (.tuple xs), .val (.tuple ys) => if xs.length + ys.length ≤ sizeLine then some (.val (.tuple (xs ++ ys))) else none
  | .lst xs, .lst ys => if xs.length + ys.length ≤ sizeLine then some (.lst (xs ++ ys)) else none
  | .lst xs, .val (.list ys) => if xs.length + ys.length ≤ sizeLine then some (.lst (xs ++ ys)) else none
  | .val (.list xs), .lst ys => if xs.length + ys.length ≤ sizeLine then some (.lst (xs ++ ys)) else none
  | .val (.list xs), .val (.list ys) => if xs.length + ys.length ≤ sizeLine then some (.lst (xs ++ ys)) else none
  | _, _ => none
def intS (C : Int → Int → Prop) [∀ i j, Decidable (C i j)] (g : Int → Int → Int) : O → O → Option O
  | .val (.int i), .val (.int j) => if C i j then some (.val (.int (g i j))) else none
  | _, _ => none
def subS := intS (fun _ _ => True) fun i j => i - j
def mulS := intS (fun i j => (-(2 ^ 64) < i ∧ i < 2 ^ 64) ∨ (-(2 ^ 64) < j ∧ j < 2 ^ 64)) fun i j => i * j
def fdivS := intS (fun _ j => 0 < j ∧ j < 1073741824) fun i j => i / j
def modS := intS (fun _ j => 0 < j) fun i j => i % j
def powS := intS (fun i j => 0 ≤ j ∧ j ≤ 1000000 ∧ i.natAbs < 2 ^ 64) fun i j => i ^ j.toNat

section
variable {X : Cx} {ca : Nat → Addr}
theorem intS_ok {C : Int → Int → Prop} [∀ i j, Decidable (C i j)] {g : Int → Int → Int} {f : Value → Value → Sem Value} {C' : Int → Int → Prop} (h : OpR X f (rI C' fun i j => .int (g i j))) (hC : ∀ i j, C i j → C' i j) : BinS X ca f (intS C g) := binS_of fun pins s σ H x y v u Q Z a b r I rx ry ha hb e q => by
  unfold intS at e
  split at e
  · rename_i i j
    split at e
    · rename_i hc
      cases e
      cases rb_int ha
      cases rb_int hb
      exact h pins s σ H _ _ v u Q I rx ry ⟨i, j, rfl, rfl, hC i j hc, q _ _ [] (Al.val (.int _))⟩
    · cases e
  · cases e
theorem bin_mul : BinS X ca (binaryOp .Mult) mulS := intS_ok op_mul fun _ _ h => h
theorem bin_fdiv : BinS X ca (binaryOp .FloorDiv) fdivS := intS_ok op_fdiv fun _ _ h => h
theorem bin_mod : BinS X ca (binaryOp .Mod) modS := intS_ok op_mod fun _ _ h => h
theorem bin_pow : BinS X ca (binaryOp .Pow) powS := intS_ok op_pow fun _ _ h => h
theorem DzA.nil_iff {Z : Zs} {K : PySem.W.Frag} {H : Hp} {ds : List D} {xs : List V} (h : DzA Z K H ds xs) (e : xs = []) : ds = [] := by
  subst e
  cases h
  rfl
theorem bin_add : BinS X ca (binaryOp .Add) addS := binS_of fun pins s σ H x y v u Q Z a b r I rx ry ha hb e q => by
  have lists : ∀ xs ys, a.list? = some xs → b.list? = some ys → (if xs.length + ys.length ≤ sizeLine then some (O.lst (xs ++ ys)) else none) = some r → wpAny (model X.prog X.w) X.A (binaryOp .Add v u) (EP X pins σ Q) X.xe s := fun xs ys e1 e2 e => by
    split at e
    · rename_i hc
      cases e
      obtain ⟨p, us, rfl, hp, dp⟩ := rb_list ha e1
      obtain ⟨p', ws, rfl, hp', dp'⟩ := rb_list hb e2
      exact op_cat pins s σ H _ _ v u Q I rx ry ⟨p, p', us, ws, rfl, rfl, hp, hp', by rw [dp.length, dp'.length]; exact hc, fun l nl => q _ _ _ (Al.lst (dp.append dp') nl)⟩
    · cases e
  unfold addS at e
  split at e
  · cases e
    cases rb_int ha
    cases rb_int hb
    exact op_add pins s σ H _ _ v u Q I rx ry ⟨_, _, rfl, rfl, q _ _ [] (Al.val (.int _))⟩
  · split at e
    · rename_i hc
      cases e
      cases rb_str ha
      cases rb_str hb
      exact op_add_str pins s σ H _ _ v u Q I rx ry ⟨_, _, rfl, rfl, hc, q _ _ [] (Al.val (.str _))⟩
    · cases e
  · split at e
    · rename_i xs ys hc
      cases e
      obtain ⟨p, us, rfl, hp, dp⟩ := rb_tup ha rfl
      obtain ⟨p', ws, rfl, hp', dp'⟩ := rb_tup hb rfl
      refine op_catA pins s σ H _ _ v u Q I rx ry ⟨p, p', us, ws, rfl, rfl, hp, hp', by rw [dp.length, dp'.length]; exact hc, fun e => ?_, fun _ e => ?_, fun _ _ l nl => q _ _ _ (Al.tup (dp.append dp') nl)⟩
      · cases dp.nil_iff e
        exact q _ _ [] (Al.val (.tup hp' dp'))
      · cases dp'.nil_iff e
        rw [List.append_nil] at q
        exact q _ _ [] (Al.val (.tup hp dp))
    · cases e
  · exact lists _ _ rfl rfl e
  · exact lists _ _ rfl rfl e
  · exact lists _ _ rfl rfl e
  · exact lists _ _ rfl rfl e
  · cases e
end

/-! ### comparisons -/
def isStrD : D → Bool
  | .str _ => true
  | _ => false
/-- == of data: two texts, or data that lies within the model's line -/
def eqD? (d e : D) : Option Bool := if (isStrD d && isStrD e || SeqAt.shaped d && SeqAt.shaped e) = true then some (PyData.eqv d e) else none
def eqS (a b : O) : Option O := match a.view?, b.view? with
  | some d, some e => (eqD? d e).map fun k => .val (.bool k)
  | _, _ => none
def neS (a b : O) : Option O := match a.view?, b.view? with
  | some d, some e => (eqD? d e).map fun k => .val (.bool (!k))
  | _, _ => none
def cmpS (p : Int → Int → Bool) (ps : List Nat → List Nat → Bool) : O → O → Option O
  | .val (.int i), .val (.int j) => some (.val (.bool (p i j)))
  | .val (.str i), .val (.str j) => some (.val (.bool (ps i.cps.toList j.cps.toList)))
  | _, _ => none
def ltS := cmpS (fun i j => decide (i < j)) fun i j => decide (i < j)
def leS := cmpS (fun i j => decide (i ≤ j)) fun i j => !decide (j < i)
def gtS := cmpS (fun i j => decide (j < i)) fun i j => decide (j < i)
def geS := cmpS (fun i j => decide (j ≤ i)) fun i j => !decide (i < j)
def isNoneO : O → Bool
  | .val .none => true
  | _ => false
def isS (a b : O) : Option O := if isNoneO b = true then some (.val (.bool (isNoneO a))) else none
def isnotS (a b : O) : Option O := if isNoneO b = true then some (.val (.bool (!isNoneO a))) else none
section
variable {X : Cx} {ca : Nat → Addr}
theorem eqv_str (x y : Str) : PyData.eqv (.str x) (.str y) = (x == y) := by simp [PyData.eqv]
theorem eqD_ok {d e : D} {k : Bool} (h : eqD? d e = some k) : (∃ x y, d = .str x ∧ e = .str y ∧ k = decide (x = y)) ∨ (SeqAt.shaped d = true ∧ SeqAt.shaped e = true ∧ k = PyData.eqv d e) := by
  unfold eqD? at h
  split at h
  · rename_i hc
    cases h
    rcases Bool.or_eq_true_iff.mp hc with hc | hc
    · left
      rw [Bool.and_eq_true] at hc
      cases d <;> cases e <;> simp [isStrD] at hc
      refine ⟨_, _, rfl, rfl, ?_⟩
      rw [eqv_str]
      exact Bool.beq_eq_decide_eq _ _
    · rw [Bool.and_eq_true] at hc
      exact .inr ⟨hc.1, hc.2, rfl⟩
  · cases h
theorem bin_eq (hu : X.A.units + 64 < cLine) : BinS X ca (compareOp .Eq) eqS := binS_of fun pins s σ H x y v u Q Z a b r I rx ry ha hb e q => by
  unfold eqS at e
  split at e
  · rename_i d d' e1 e2
    cases e3 : eqD? d d' with
    | none => rw [e3] at e; cases e
    | some k =>
      rw [e3] at e
      cases e
      rcases eqD_ok e3 with ⟨x', y', rfl, rfl, rfl⟩ | ⟨s1, s2, rfl⟩
      · have h1 := rb_view ha e1 (by simp [PyData.hasDict])
        have h2 := rb_view hb e2 (by simp [PyData.hasDict])
        cases h1
        cases h2
        refine op_eq pins s σ H _ _ v u Q I rx ry ⟨rfl, ?_⟩
        have hd : decide (V.str x' = V.str y') = decide (x' = y') := by
          by_cases h : x' = y'
          · subst h; simp
          · rw [decide_eq_false h, decide_eq_false fun e => h (V.str.inj e)]
        rw [hd]
        exact q _ _ [] (Al.val (.bl _))
      · have h1 := rb_view ha e1 (layS_shaped s1)
        have h2 := rb_view hb e2 (layS_shaped s2)
        exact op_eqD hu pins s σ H _ _ v u Q I rx ry ⟨_, _, h1, h2, s1, s2, q _ _ [] (Al.val (.bl _))⟩
  · cases e
theorem bin_ne (hu : X.A.units + 64 < cLine) : BinS X ca (compareOp .NotEq) neS := binS_of fun pins s σ H x y v u Q Z a b r I rx ry ha hb e q => by
  unfold neS at e
  split at e
  · rename_i d d' e1 e2
    cases e3 : eqD? d d' with
    | none => rw [e3] at e; cases e
    | some k =>
      rw [e3] at e
      cases e
      rcases eqD_ok e3 with ⟨x', y', rfl, rfl, rfl⟩ | ⟨s1, s2, rfl⟩
      · have h1 := rb_view ha e1 (by simp [PyData.hasDict])
        have h2 := rb_view hb e2 (by simp [PyData.hasDict])
        cases h1
        cases h2
        refine op_ne pins s σ H _ _ v u Q I rx ry ⟨rfl, ?_⟩
        have hd : decide (V.str x' = V.str y') = decide (x' = y') := by
          by_cases h : x' = y'
          · subst h; simp
          · rw [decide_eq_false h, decide_eq_false fun e => h (V.str.inj e)]
        rw [hd]
        exact q _ _ [] (Al.val (.bl _))
      · have h1 := rb_view ha e1 (layS_shaped s1)
        have h2 := rb_view hb e2 (layS_shaped s2)
        exact op_neD hu pins s σ H _ _ v u Q I rx ry ⟨_, _, h1, h2, s1, s2, q _ _ [] (Al.val (.bl _))⟩
  · cases e
theorem cmp_ok {p : Int → Int → Bool} {ps : List Nat → List Nat → Bool} {f : Value → Value → Sem Value} (h : OpR X f (rI0 fun i j => .bl (p i j)))
    (h' : OpR X f (fun x y H Q => ∃ i j, x = .str i ∧ y = .str j ∧ Q (.bl (ps i.cps.toList j.cps.toList)) H)) : BinS X ca f (cmpS p ps) := binS_of fun pins s σ H x y v u Q Z a b r I rx ry ha hb e q => by
  unfold cmpS at e
  split at e
  · cases e
    cases rb_int ha
    cases rb_int hb
    exact h pins s σ H _ _ v u Q I rx ry ⟨_, _, rfl, rfl, q _ _ [] (Al.val (.bl _))⟩
  · cases e
    cases rb_str ha
    cases rb_str hb
    exact h' pins s σ H _ _ v u Q I rx ry ⟨_, _, rfl, rfl, q _ _ [] (Al.val (.bl _))⟩
  · cases e
theorem bin_lt : BinS X ca (compareOp .Lt) ltS := cmp_ok op_lt op_lt_str
theorem bin_le : BinS X ca (compareOp .LtE) leS := cmp_ok op_le op_le_str
theorem bin_gt : BinS X ca (compareOp .Gt) gtS := cmp_ok op_gt op_gt_str
theorem bin_ge : BinS X ca (compareOp .GtE) geS := cmp_ok op_ge op_ge_str
theorem isNone_rb {Z : Zs} {H : Hp} {o : O} {x : V} (h : Rb (gx X ca) Z H o x) : decide (x = .non) = isNoneO o := by
  obtain ⟨F, h⟩ := h
  cases h with
  | val h => cases h <;> simp [isNoneO]
  | _ => simp [isNoneO]
theorem isNone_val {o : O} (h : isNoneO o = true) : o = .val .none := by
  unfold isNoneO at h
  split at h
  · rfl
  · cases h
theorem bin_is : BinS X ca (compareOp .Is) isS := binS_of fun pins s σ H x y v u Q Z a b r I rx ry ha hb e q => by
  unfold isS at e
  split at e
  · rename_i hc
    cases e
    cases isNone_val hc
    cases rb_non hb
    refine op_isN pins s σ H _ _ v u Q I rx ry ⟨rfl, ?_⟩
    rw [isNone_rb ha]
    exact q _ _ [] (Al.val (.bl _))
  · cases e
theorem bin_isnot : BinS X ca (compareOp .IsNot) isnotS := binS_of fun pins s σ H x y v u Q Z a b r I rx ry ha hb e q => by
  unfold isnotS at e
  split at e
  · rename_i hc
    cases e
    cases isNone_val hc
    cases rb_non hb
    refine op_notN pins s σ H _ _ v u Q I rx ry ⟨rfl, ?_⟩
    rw [isNone_rb ha]
    exact q _ _ [] (Al.val (.bl _))
  · cases e
end
end Eng
set_option maxHeartbeats 1000000
/-! The engine, part 4: dicts, in, items, slices. -/
namespace Eng
open PySem PySem.Spec L2
open PyProof.Rows hiding St

/-! ### dicts as lists of pairs -/
def keyOf : D → Option Key
  | .str x => some (.inr x)
  | .int i => some (.inl i)
  | _ => none
def nkOf (d : D) : Option NestedKey := match nkey d with
  | some (.tup ks) => if (NestedKey.tup ks).depth ≤ 8 then some (.tup ks) else none
  | _ => none
def dget (es : List (D × D)) (k : D) : Option D := (es.find? fun e => PyData.eqv e.1 k).map (·.2)
def dhas (es : List (D × D)) (k : D) : Bool := es.any fun e => PyData.eqv e.1 k
def dput (es : List (D × D)) (k v : D) : List (D × D) := if dhas es k = true then es.map (fun e => if PyData.eqv e.1 k = true then (e.1, v) else e) else es ++ [(k, v)]
/-- the key is of the dict's kind -/
def dOk (es : List (D × D)) (k : D) : Bool := ((keyOf k).isSome && es.all fun e => (keyOf e.1).isSome) || ((nkOf k).isSome && es.all fun e => (nkOf e.1).isSome)

section
variable {Z : Zs} {K : PySem.W.Frag} {H : Hp}
theorem key_dz {d : D} {κ : Key} (h : Dz Z K H d (kV κ)) : keyOf d = some κ := by
  cases κ with
  | inl i => cases h; rfl
  | inr x => cases h; rfl
theorem key_v {d : D} {v : V} {κ : Key} (h : Dz Z K H d v) (e : keyOf d = some κ) : v = kV κ := by
  cases h <;> simp [keyOf] at e
  · subst e; rfl
  · subst e; rfl
theorem eqv_key {a b : D} {κ κ' : Key} (h : keyOf a = some κ) (h' : keyOf b = some κ') : PyData.eqv a b = decide (κ = κ') := by
  cases a <;> simp [keyOf] at h <;> subst h <;> cases b <;> simp [keyOf] at h' <;> subst h' <;> simp [PyData.eqv] <;> exact Bool.beq_eq_decide_eq _ _
theorem nkey_ref {d : D} {κ : NestedKey} (e : nkOf d = some κ) : ∃ ds, d = .tuple ds := by
  unfold nkOf at e
  cases d with
  | tuple ds => exact ⟨ds, rfl⟩
  | _ => simp [nkey] at e
theorem keyOf_tup {d : D} {κ : NestedKey} (e : nkOf d = some κ) : keyOf d = none := by
  obtain ⟨ds, rfl⟩ := nkey_ref e
  rfl
theorem nkOf_some {d : D} {κ : NestedKey} (e : nkOf d = some κ) : nkey d = some κ ∧ κ.depth ≤ 8 := by
  unfold nkOf at e
  split at e
  · rename_i ks h
    split at e
    · rename_i hd
      cases e
      exact ⟨h, hd⟩
    · cases e
  · cases e
mutual
theorem nkey_eqv : ∀ {a b : D} {x y : NestedKey}, nkey a = some x → nkey b = some y → PyData.eqv a b = decide (x = y)
  | .none, b, x, y, h, h' => by
    simp [nkey] at h; subst h
    cases b <;> simp [nkey] at h'
    · subst h'; simp [PyData.eqv]
    · subst h'; simp [PyData.eqv]
    · subst h'; simp [PyData.eqv]
    · obtain ⟨ks, _, rfl⟩ := h'; simp [PyData.eqv]
  | .int i, b, x, y, h, h' => by
    simp [nkey] at h; subst h
    cases b <;> simp [nkey] at h'
    · subst h'; first | (simp [PyData.eqv]; done) | (simp [PyData.eqv]; exact Bool.beq_eq_decide_eq _ _)
    · subst h'; first | (simp [PyData.eqv]; done) | (simp [PyData.eqv]; exact Bool.beq_eq_decide_eq _ _)
    · subst h'; first | (simp [PyData.eqv]; done) | (simp [PyData.eqv]; exact Bool.beq_eq_decide_eq _ _)
    · obtain ⟨ks, _, rfl⟩ := h'; simp [PyData.eqv]
  | .str i, b, x, y, h, h' => by
    simp [nkey] at h; subst h
    cases b <;> simp [nkey] at h'
    · subst h'; first | (simp [PyData.eqv]; done) | (simp [PyData.eqv]; exact Bool.beq_eq_decide_eq _ _)
    · subst h'; first | (simp [PyData.eqv]; done) | (simp [PyData.eqv]; exact Bool.beq_eq_decide_eq _ _)
    · subst h'; first | (simp [PyData.eqv]; done) | (simp [PyData.eqv]; exact Bool.beq_eq_decide_eq _ _)
    · obtain ⟨ks, _, rfl⟩ := h'; simp [PyData.eqv]
  | .tuple ds, b, x, y, h, h' => by
    simp [nkey] at h
    obtain ⟨ks, hk, rfl⟩ := h
    cases b <;> simp [nkey] at h'
    · subst h'; simp [PyData.eqv]
    · subst h'; simp [PyData.eqv]
    · subst h'; simp [PyData.eqv]
    · obtain ⟨ks', hk', rfl⟩ := h'
      simp only [PyData.eqv, NestedKey.tup.injEq]
      exact nkeys_eqv hk hk'
  | .bool _, _, _, _, h, _ => by simp [nkey] at h
  | .list _, _, _, _, h, _ => by simp [nkey] at h
  | .dict _, _, _, _, h, _ => by simp [nkey] at h
theorem nkeys_eqv : ∀ {a b : List D} {x y : List NestedKey}, nkey.nkeys a = some x → nkey.nkeys b = some y → PyData.eqvAll a b = decide (x = y)
  | [], b, x, y, h, h' => by
    simp [nkey.nkeys] at h; subst h
    cases b with
    | nil => simp [nkey.nkeys] at h'; subst h'; simp [PyData.eqvAll]
    | cons d ds =>
      unfold nkey.nkeys at h'
      split at h'
      · cases h'; simp [PyData.eqvAll]
      · cases h'
  | c :: cs, b, x, y, h, h' => by
    unfold nkey.nkeys at h
    split at h
    · rename_i k ks h1 h2
      cases h
      cases b with
      | nil => simp [nkey.nkeys] at h'; subst h'; simp [PyData.eqvAll]
      | cons d ds =>
        unfold nkey.nkeys at h'
        split at h'
        · rename_i k' ks' h1' h2'
          cases h'
          simp only [PyData.eqvAll, nkey_eqv h1 h1', nkeys_eqv h2 h2', List.cons.injEq]
          by_cases e1 : k = k' <;> by_cases e2 : ks = ks' <;> simp [e1, e2]
        · cases h'
    · cases h
end
/-- a dict with plain keys, asked -/
theorem dget_val : ∀ {es : List (D × D)} {kvs : List (Key × V)} {k : D} {κ : Key}, DzA Z K H (es.map (·.1)) (kvs.map fun p => kV p.1) → DzA Z K H (es.map (·.2)) (kvs.map (·.2)) → keyOf k = some κ →
    (valV kvs κ).isSome = dhas es k ∧ ∀ d, dget es k = some d → ∃ v, valV kvs κ = some v ∧ Dz Z K H d v
  | [], [], _, _, _, _, _ => ⟨rfl, fun d e => by simp [dget] at e⟩
  | [], _ :: _, _, _, h, _, _ => by cases h
  | _ :: _, [], _, _, h, _, _ => by cases h
  | (a, b) :: es, (c, v) :: kvs, k, κ, h1, h2, hk => by
    cases h1 with
    | cons h1 t1 =>
      cases h2 with
      | cons h2 t2 =>
        have e1 : PyData.eqv a k = decide (c = κ) := eqv_key (key_dz h1) hk
        obtain ⟨i1, i2⟩ := dget_val t1 t2 hk
        by_cases e : c = κ
        · rw [valV_pos (p := (c, v)) e]
          refine ⟨by simp [dhas, e1, e], fun d q => ?_⟩
          simp [dget, e1, e] at q
          subst q
          exact ⟨v, rfl, h2⟩
        · rw [valV_neg (p := (c, v)) e]
          refine ⟨by rw [i1]; simp [dhas, e1, e], fun d q => ?_⟩
          refine i2 d ?_
          simpa [dget, e1, e] using q
theorem map_dput : ∀ {es : List (D × D)} {kvs : List (Key × V)} {k d : D} {κ : Key} {v : V}, DzA Z K H (es.map (·.1)) (kvs.map fun p => kV p.1) → DzA Z K H (es.map (·.2)) (kvs.map (·.2)) → keyOf k = some κ → Dz Z K H d v →
    DzA Z K H ((es.map fun e => if PyData.eqv e.1 k = true then (e.1, d) else e).map (·.1)) ((kvs.map fun kv => if kv.1 = κ then (kv.1, v) else kv).map fun p => kV p.1) ∧
    DzA Z K H ((es.map fun e => if PyData.eqv e.1 k = true then (e.1, d) else e).map (·.2)) ((kvs.map fun kv => if kv.1 = κ then (kv.1, v) else kv).map (·.2))
  | [], [], _, _, _, _, _, _, _, _ => ⟨.nil, .nil⟩
  | [], _ :: _, _, _, _, _, h, _, _, _ => by cases h
  | _ :: _, [], _, _, _, _, h, _, _, _ => by cases h
  | (a, b) :: es, (c, w) :: kvs, k, d, κ, v, h1, h2, hk, hd => by
    cases h1 with
    | cons h1 t1 =>
      cases h2 with
      | cons h2 t2 =>
        have e1 : PyData.eqv a k = decide (c = κ) := eqv_key (key_dz h1) hk
        obtain ⟨i1, i2⟩ := map_dput t1 t2 hk hd
        by_cases e : c = κ
        · simp only [List.map_cons, e1, e, decide_true, if_true]
          exact ⟨.cons (by rw [← e]; exact h1) i1, .cons hd i2⟩
        · simp only [List.map_cons, e1, e, decide_false, if_false, Bool.false_eq_true]
          exact ⟨.cons h1 i1, .cons h2 i2⟩
theorem dput_ok {es : List (D × D)} {kvs : List (Key × V)} {k d : D} {κ : Key} {v : V} (h1 : DzA Z K H (es.map (·.1)) (kvs.map fun p => kV p.1)) (h2 : DzA Z K H (es.map (·.2)) (kvs.map (·.2))) (hk : keyOf k = some κ) (hkv : Dz Z K H k (kV κ)) (hd : Dz Z K H d v) :
    DzA Z K H ((dput es k d).map (·.1)) ((putK kvs κ v).map fun p => kV p.1) ∧ DzA Z K H ((dput es k d).map (·.2)) ((putK kvs κ v).map (·.2)) := by
  have e := (dget_val h1 h2 hk).1
  unfold dput putK
  rw [valV_any, e]
  split
  · exact map_dput h1 h2 hk hd
  · rw [List.map_append, List.map_append, List.map_append, List.map_append]
    exact ⟨h1.append (.cons hkv .nil), h2.append (.cons hd .nil)⟩
/-- all keys plain, or none there -/
theorem all_key : ∀ {es : List (D × D)} {kvs : List (Key × V)}, DzA Z K H (es.map (·.1)) (kvs.map fun p => kV p.1) → (es.all fun e => (nkOf e.1).isSome) = true → es = [] ∧ kvs = []
  | [], [], _, _ => ⟨rfl, rfl⟩
  | [], _ :: _, h, _ => by cases h
  | (a, b) :: es, [], h, _ => by cases h
  | (a, b) :: es, (c, v) :: kvs, h, q => by
    cases h with
    | cons h t =>
      rw [List.all_cons, Bool.and_eq_true] at q
      obtain ⟨κ, e⟩ := Option.isSome_iff_exists.mp q.1
      have := keyOf_tup e
      rw [key_dz h] at this
      cases this
theorem all_nkey : ∀ {xs : List (NestedKey × Addr × Value)} {es : List (D × D)}, Paired (NEnt Z K H) xs es → (es.all fun e => (keyOf e.1).isSome) = true → xs = []
  | _, _, .nil, _ => rfl
  | _, (ek, ev) :: _, .cons h t, q => by
    rw [List.all_cons, Bool.and_eq_true] at q
    obtain ⟨h1, h2, h3, _⟩ := h
    replace h3 : Dz Z K H ek _ := h3
    replace q : (keyOf ek).isSome = true ∧ _ := q
    cases h3 with
    | lst => simp [keyOf] at q
    | tup => simp [keyOf] at q
    | dic => simp [keyOf] at q
/-- nested keys, asked -/
theorem dget_nk : ∀ {xs : List (NestedKey × Addr × Value)} {es : List (D × D)} {k : D} {κ : NestedKey}, Paired (NEnt Z K H) xs es → nkey k = some κ →
    (atKey xs κ).isSome = dhas es k ∧ ∀ d, dget es k = some d → ∃ p v, atKey xs κ = some p ∧ RelV v p.2 ∧ Dz Z K H d v
  | _, _, _, _, .nil, _ => ⟨rfl, fun d e => by simp [dget] at e⟩
  | x :: xs, e :: es, k, κ, .cons h t, hk => by
    obtain ⟨h1, h2, h3, v, h4, h5⟩ := h
    have e1 : PyData.eqv e.1 k = decide (x.1 = κ) := nkey_eqv h1 hk
    obtain ⟨i1, i2⟩ := dget_nk t hk
    by_cases q : x.1 = κ
    · refine ⟨by simp [atKey, dhas, e1, q], fun d q2 => ?_⟩
      simp [dget, e1, q] at q2
      subst q2
      exact ⟨x.2, v, by simp [atKey, q], h4, h5⟩
    · have ea : atKey (x :: xs) κ = atKey xs κ := by simp [atKey, q]
      rw [ea]
      refine ⟨by rw [i1]; simp [dhas, e1, q], fun d q2 => i2 d ?_⟩
      simpa [dget, e1, q] using q2
end

/-! ### from the abstract heap to the keys of the model -/
section
variable {X : Cx} {pins : List (Addr × Obj)} {σ : L2.St} {H : Hp} {s : Shared} {Z : Zs}
mutual
theorem nested_is (I : Inv X pins σ H s) : ∀ {d : D} {v : V} {u : Value} {κ : NestedKey}, Dz Z X.K H d v → RelV v u → nkey d = some κ → NestedIs s.heap κ u
  | .none, _, _, _, h, r, e => by
    simp [nkey] at e; subst e
    cases h; cases r
    exact .none
  | .int i, _, _, _, h, r, e => by
    simp [nkey] at e; subst e
    cases h
    obtain ⟨t, rfl⟩ := r
    exact .int i t
  | .str i, _, _, _, h, r, e => by
    simp [nkey] at e; subst e
    cases h
    obtain ⟨t, rfl⟩ := r
    exact .text i t
  | .tuple ds, _, _, _, h, r, e => by
    simp [nkey] at e
    obtain ⟨ks, hk, rfl⟩ := e
    cases h with
    | tup q h =>
      cases r
      obtain ⟨its, rv, ⟨o, ho, hc, n, hd⟩, _⟩ := I.tuple q
      exact .tup ho hc hd (nested_all I h rv hk)
  | .bool _, _, _, _, _, _, e => by simp [nkey] at e
  | .list _, _, _, _, _, _, e => by simp [nkey] at e
  | .dict _, _, _, _, _, _, e => by simp [nkey] at e
theorem nested_all (I : Inv X pins σ H s) : ∀ {ds : List D} {vs : List V} {us : List Value} {ks : List NestedKey}, DzA Z X.K H ds vs → Vals vs us → nkey.nkeys ds = some ks → NestedAll s.heap ks us
  | [], _, _, _, h, r, e => by
    simp [nkey.nkeys] at e; subst e
    cases h; cases r
    exact .nil
  | d :: ds, _, _, _, h, r, e => by
    unfold nkey.nkeys at e
    split at e
    · rename_i k ks h1 h2
      cases e
      cases h with
      | cons h t =>
        cases r with
        | cons r rr => exact .cons (nested_is I h r h1) (nested_all I t rr h2)
    · cases e
end
/-- a dict with nested keys stands there -/
theorem ndict_at (I : Inv X pins σ H s) {a : Addr} {xs : List (NestedKey × Addr × Value)} {es : List (D × D)} {G : Gx} (hP : G.P = X.prog) (hw : G.w = X.w) (e : H a = some (.ext (NDict G a xs))) (hx : Paired (NEnt Z X.K H) xs es) :
    s.heap.DictOfH (nestedKind X.prog X.w) a xs ∧ (a == sysModules) = false ∧ xs.length ≤ sizeLine := by
  obtain ⟨⟨o, ds, ep, h1, h2, h3, h4, h5, h6, h7⟩, _⟩ := I.hok a _ e
  rw [hP, hw] at h4
  refine ⟨⟨o, ds, ep, h1, h2, h3, h4, fun x hx' => ?_, h5⟩, h6, h7⟩
  obtain ⟨i, hi⟩ := List.mem_iff_getElem?.mp hx'
  have get : ∀ {xs : List (NestedKey × Addr × Value)} {es : List (D × D)} {i : Nat}, Paired (NEnt Z X.K H) xs es → xs[i]? = some x → ∃ e, NEnt Z X.K H x e := by
    intro xs es i h
    induction h generalizing i with
    | nil => intro e; simp at e
    | cons h t ih =>
      cases i with
      | zero => intro e; simp at e; subst e; exact ⟨_, h⟩
      | succ i => intro e; exact ih (by simpa using e)
  obtain ⟨e', q1, q2, q3, _⟩ := get hx hi
  exact ⟨nested_is I q3 rfl q1, q2⟩
/-- the empty dict, as one with nested keys -/
theorem ndict_nil (I : Inv X pins σ H s) {a : Addr} (e : H a = some (.dK [])) : s.heap.DictOfH (nestedKind X.prog X.w) a [] ∧ (a == sysModules) = false := by
  obtain ⟨_, h6, vs, rel, o, ds, ep, h1, h2, h3, h4, h5, h7⟩ := I.hok a _ e
  cases rel
  refine ⟨⟨o, ds, ep, h1, h2, h3, ?_, fun x hx => (by cases hx), List.nodup_nil⟩, h6⟩
  cases q : ds.toList with
  | nil => rfl
  | cons x r =>
    rw [q] at h5
    cases h5
end
end Eng
set_option maxHeartbeats 1000000
/-! The engine, part 5: in, items, slices, built-ins. -/
namespace Eng
open PySem PySem.Spec L2
open PyProof.Rows hiding St

/-! ### in -/
def hasS (a b : O) : Option Bool :=
  match b with
  | .dic es => match a with
    | .val k => if dOk es k = true then some (dhas es k) else none
    | _ => none
  | .val (.str z) => match a with
    | .val (.str x) => match x.cps.toList with
      | [c] => some (decide (c ∈ z.cps.toList))
      | _ => none
    | _ => none
  | .val (.dict es) => match a with
    | .val k => if ((es.all fun e => (keyOf e.1).isSome) && (keyOf k).isSome) = true then some (dhas es k) else none
    | _ => none
  | b => match a.view?, b.seq? with
    | some d, some ds => if (isStrD d && ds.all isStrD || SeqAt.shaped d && SeqAt.shaped (.list ds)) = true then some (ds.any fun y => PyData.eqv y d) else none
    | _, _ => none
def inS (a b : O) : Option O := (hasS a b).map fun k => .val (.bool k)
def notinS (a b : O) : Option O := (hasS a b).map fun k => .val (.bool (!k))

section
variable {X : Cx} {ca : Nat → Addr} {pins : List (Addr × Obj)} {σ : L2.St} {H : Hp} {s : Shared} {Z : Zs}
theorem strs_flat : ∀ {ds : List D} {vs : List V}, DzA Z X.K H ds vs → (ds.all isStrD) = true → (vs.all flatV) = true ∧ ∀ (x : Str), (inV (.str x) vs = ds.any fun y => PyData.eqv y (.str x))
  | [], _, h, _ => by
    cases h
    exact ⟨rfl, fun _ => rfl⟩
  | d :: ds, _, h, q => by
    cases h with
    | cons h t =>
      rw [List.all_cons, Bool.and_eq_true] at q
      obtain ⟨i1, i2⟩ := strs_flat t q.2
      cases d <;> simp [isStrD] at q
      cases h
      refine ⟨by rw [List.all_cons, i1]; rfl, fun x => ?_⟩
      have := i2 x
      unfold inV at this ⊢
      rw [List.any_cons, List.any_cons, this, eqv_str]
      rfl
theorem d_in2 {Q : Value → Shared → Prop} {A : Around} {E : Value → Shared → Prop} (neg : Bool) {a : Addr} {y : V} {o : Option V} {u : Value} (hu : A.units + 1 < cLine) (I : Inv X pins σ H s) (g : DGet H a y o) (ry : RelV y u) (h : ∀ s', Inv X pins σ H s' → Q (.bool (if neg then !o.isSome else o.isSome)) s') :
    wpAny (model X.prog X.w) A (compareOp (if neg then .NotIn else .In) u (.ref a)) Q E s := by
  cases neg with
  | true => exact d_notIn hu I g ry h
  | false => exact d_in hu I g ry h
theorem k_in2 {Q : Value → Shared → Prop} {A : Around} {E : Value → Shared → Prop} (neg : Bool) {a b : Addr} {κ : NestedKey} {xs : List (NestedKey × Addr × Value)} (hu : A.units + 64 < cLine) (I : Inv X pins σ H s) (hm : s.heap.DictOfH (nestedKind X.prog X.w) a xs) (hd : (a == sysModules) = false)
    (hk : (nestedKind X.prog X.w).is s.heap κ b) (h : ∀ s', Inv X pins σ H s' → Q (.bool (if neg then !(atKey xs κ).isSome else (atKey xs κ).isSome)) s') :
    wpAny (model X.prog X.w) A (compareOp (if neg then .NotIn else .In) (.ref b) (.ref a)) Q E s := by
  have hr : (nestedKind X.prog X.w).room A.in1 := by
    show A.units + 1 + 8 < cLine
    omega
  cases neg with
  | true =>
    show wpAny _ _ (do return .bool (!(← contains (.ref a) (.ref b)))) Q E s
    exact wpAny_bind (wpAny_contains_heap hr hk hd hm (wpAny_pure (h _ (I.tok _))))
  | false => exact wpAny_in_heap hr hk hd hm (h _ (I.tok _))
theorem has_ok (neg : Bool) {a b : O} {x y : V} {v u : Value} {k : Bool} {Q : VK} (hu : X.A.units + 65 < cLine) (I : Inv X pins σ H s) (rx : RelV x v) (ry : RelV y u) (ha : Rb (gx X ca) Z H a x) (hb : Rb (gx X ca) Z H b y) (e : hasS a b = some k)
    (q : Q (.bl (if neg then !k else k)) H) : wpAny (model X.prog X.w) X.A (compareOp (if neg then .NotIn else .In) v u) (EP X pins σ Q) X.xe s := by
  have seqs : ∀ d ds, a.view? = some d → b.seq? = some ds → (if (isStrD d && ds.all isStrD || SeqAt.shaped d && SeqAt.shaped (.list ds)) = true then some (ds.any fun y => PyData.eqv y d) else none) = some k →
      wpAny (model X.prog X.w) X.A (compareOp (if neg then .NotIn else .In) v u) (EP X pins σ Q) X.xe s := fun d ds e1 e2 e => by
    split at e
    · rename_i hc
      cases e
      obtain ⟨p, us, rfl, hs, hd⟩ := rb_seq hb e2
      have hv := rb_view ha e1 (by
        rcases Bool.or_eq_true_iff.mp hc with hc | hc
        · rw [Bool.and_eq_true] at hc
          cases d with
          | str z => simp [PyData.hasDict]
          | _ => cases hc.1
        · rw [Bool.and_eq_true] at hc
          exact layS_shaped hc.1)
      rcases Bool.or_eq_true_iff.mp hc with hc | hc
      · rw [Bool.and_eq_true] at hc
        obtain ⟨c1, c2⟩ := hc
        obtain ⟨z, rfl⟩ : ∃ z, d = .str z := by
          cases d with
          | str z => exact ⟨z, rfl⟩
          | _ => cases c1
        cases hv
        obtain ⟨f1, f2⟩ := strs_flat hd c2
        have fin := f2 z
        cases neg with
        | true => exact op_notIn_seq pins s σ H _ _ v u Q I rx ry ⟨p, us, rfl, hs, rfl, f1, by rw [if_pos rfl, fin]; exact q⟩
        | false => exact op_in_seq pins s σ H _ _ v u Q I rx ry ⟨p, us, rfl, hs, rfl, f1, by rw [if_neg (by decide), fin]; exact q⟩
      · rw [Bool.and_eq_true] at hc
        obtain ⟨as, r1⟩ := Dp.reads I d x v hv rx
        have cl0 : PyData.hasDictAll ds = false := by
          have := layS_shaped hc.2
          simpa [PyData.hasDict] using this
        have cl : PyData.canLayAll0 ds = true := by
          have := SeqAt.canLay_of_shaped hc.2
          simpa [PyData.canLay0] using this
        rcases hs with hs | hs
        · obtain ⟨bs, r2⟩ := Dp.reads I (.list ds) _ u (.lst hs (hd.dp cl0)) ry
          cases neg with
          | true => exact SeqAt.notIn_list_reads r2 r1 (SeqAt.canLay_of_shaped hc.2) (SeqAt.canLay_of_shaped hc.1) (room_in_shaped hc.1 hu) ⟨.bl _, H, I, rfl, q⟩
          | false => exact SeqAt.in_list_reads r2 r1 (SeqAt.canLay_of_shaped hc.2) (SeqAt.canLay_of_shaped hc.1) (room_in_shaped hc.1 hu) ⟨.bl _, H, I, rfl, q⟩
        · obtain ⟨bs, r2⟩ := Dp.reads I (.tuple ds) _ u (.tup hs (hd.dp cl0)) ry
          cases neg with
          | true => exact SeqAt.notIn_tuple_reads r2 r1 cl (SeqAt.canLay_of_shaped hc.1) (room_in_shaped hc.1 hu) ⟨.bl _, H, I, rfl, q⟩
          | false => exact SeqAt.in_tuple_reads r2 r1 cl (SeqAt.canLay_of_shaped hc.1) (room_in_shaped hc.1 hu) ⟨.bl _, H, I, rfl, q⟩
    · cases e
  unfold hasS at e
  split at e
  · -- a dict
    rename_i es
    split at e
    · rename_i d
      split at e
      · rename_i hc
        cases e
        have hv := rb_val ha
        obtain ⟨F, hb⟩ := hb
        rcases Bool.or_eq_true_iff.mp hc with hc | hc
        · rw [Bool.and_eq_true] at hc
          obtain ⟨κ, hk⟩ := Option.isSome_iff_exists.mp hc.1
          cases hb with
          | dic e1 h1 h2 nd =>
            cases ry
            obtain rfl := key_v hv hk
            refine d_in2 neg (by omega) I (DGet.k (k := κ) e1) rx fun s' I' => ?_
            rw [(dget_val h1 h2 hk).1]
            exact ⟨.bl _, H, I', rfl, q⟩
          | dct e1 hx nd ne => exact absurd (all_nkey hx hc.2) ne
        · rw [Bool.and_eq_true] at hc
          obtain ⟨κ, hk⟩ := Option.isSome_iff_exists.mp hc.1
          obtain ⟨hk1, hk2⟩ := nkOf_some hk
          obtain ⟨ds, rfl⟩ := nkey_ref hk
          cases hv with
          | tup hq hds =>
            cases rx
            have his : (nestedKind X.prog X.w).is s.heap κ _ := ⟨nested_is I (.tup hq hds) rfl hk1, hk2⟩
            cases hb with
            | dic e1 h1 h2 nd =>
              cases ry
              obtain ⟨rfl, rfl⟩ := all_key h1 hc.2
              obtain ⟨m1, m2⟩ := ndict_nil I e1
              exact k_in2 neg (by omega) I m1 m2 his fun s' I' => ⟨.bl _, H, I', rfl, q⟩
            | dct e1 hx nd ne =>
              cases ry
              obtain ⟨m1, m2, _⟩ := ndict_at I rfl rfl e1 hx
              refine k_in2 neg (by omega) I m1 m2 his fun s' I' => ?_
              rw [(dget_nk hx hk1).1]
              exact ⟨.bl _, H, I', rfl, q⟩
      · cases e
    · cases e
  · -- a text
    rename_i z
    split at e
    · rename_i t
      split at e
      · rename_i c hc
        cases e
        cases rb_str ha
        cases rb_str hb
        have et : t = ⟨#[c]⟩ := TL.ext_tl hc
        subst et
        cases neg with
        | true => exact op_notIn_sign pins s σ H _ _ v u Q I rx ry ⟨c, z, rfl, rfl, q⟩
        | false => exact op_in_sign pins s σ H _ _ v u Q I rx ry ⟨c, z, rfl, rfl, q⟩
      · cases e
    · cases e
  · -- a frozen dict
    rename_i es
    split at e
    · rename_i d
      split at e
      · rename_i hc
        cases e
        rw [Bool.and_eq_true] at hc
        have hv := rb_val ha
        have hb := rb_val hb
        obtain ⟨κ, hk⟩ := Option.isSome_iff_exists.mp hc.2
        cases hb with
        | dic e1 nd h1 h2 =>
          cases ry
          obtain rfl := key_v hv hk
          refine d_in2 neg (by omega) I (.inl ⟨_, κ, .inr ⟨_, e1⟩, rfl, rfl⟩) rx fun s' I' => ?_
          rw [(dget_val h1 h2 hk).1]
          exact ⟨.bl _, H, I', rfl, q⟩
      · cases e
    · cases e
  · split at e
    · rename_i d ds e1 e2
      exact seqs d ds e1 e2 e
    · cases e
theorem bin_in (hu : X.A.units + 65 < cLine) : BinS X ca (compareOp .In) inS := binS_of fun pins s σ H x y v u Q Z a b r I rx ry ha hb e q => by
  unfold inS at e
  cases e2 : hasS a b with
  | none => rw [e2] at e; cases e
  | some k =>
    rw [e2] at e
    cases e
    exact has_ok false hu I rx ry ha hb e2 (q _ _ [] (Al.val (.bl _)))
theorem bin_notin (hu : X.A.units + 65 < cLine) : BinS X ca (compareOp .NotIn) notinS := binS_of fun pins s σ H x y v u Q Z a b r I rx ry ha hb e q => by
  unfold notinS at e
  cases e2 : hasS a b with
  | none => rw [e2] at e; cases e
  | some k =>
    rw [e2] at e
    cases e
    exact has_ok true hu I rx ry ha hb e2 (q _ _ [] (Al.val (.bl _)))
end

/-! ### items -/
def ixS : O → O → Option O
  | .scr ns, .val (.int i) => (atI ns i).map fun n => .val (.int n)
  | .val (.str z), .val (.int i) => if z.length ≤ sizeLine then (atI z.cps.toList i).map fun c => .val (.str ⟨#[c]⟩) else none
  | .dic es, .val k => if dOk es k = true then (dget es k).map .val else none
  | .val (.dict es), .val k => if ((es.all fun e => (keyOf e.1).isSome) && (keyOf k).isSome) = true then (dget es k).map .val else none
  | .lst ds, .val (.int i) => (atI ds i).map .val
  | .val (.list ds), .val (.int i) => (atI ds i).map .val
  | .val (.tuple ds), .val (.int i) => (atI ds i).map .val
  | _, _ => none
section
variable {X : Cx} {ca : Nat → Addr} {W : WX}
theorem DzA.atI {Z : Zs} {K : PySem.W.Frag} {H : Hp} {ds : List D} {vs : List V} {i : Int} {d : D} (h : DzA Z K H ds vs) (e : L2.atI ds i = some d) : ∃ v, L2.atI vs i = some v ∧ Dz Z K H d v := by
  unfold L2.atI at e ⊢
  rw [h.length]
  cases q : ixN ds.length i with
  | none => rw [q] at e; cases e
  | some j =>
    rw [q] at e
    exact h.get e
theorem atI_map {α β : Type} (f : α → β) (xs : List α) (i : Int) : L2.atI (xs.map f) i = (L2.atI xs i).map f := by
  unfold L2.atI
  rw [List.length_map]
  cases ixN xs.length i with
  | none => rfl
  | some j => simp
theorem ix_all (hu : X.A.units + 65 < cLine) : IxR X (fun x y H Q => RSem (X := X) (ca := ca) (two ixS) [x, y] H Q) := by
  intro value slice pins s σ H x y v u Q I rx ry ⟨Z, os, r, zd, hp, e0, q⟩ hs
  obtain ⟨a, b, rfl, e⟩ := two_some e0
  obtain ⟨ha, hb⟩ := pair2 hp
  unfold ixS at e
  split at e
  · rename_i ns i
    obtain ⟨F, ha⟩ := ha
    cases ha with
    | scr hq =>
      cases rb_int hb
      cases e2 : L2.atI ns i with
      | none => rw [e2] at e; cases e
      | some n =>
        rw [e2] at e
        cases e
        exact ix_list value slice pins s σ H _ _ v u Q I rx ry ⟨_, _, i, .int n, rfl, rfl, hq.sq, by rw [atI_map, e2]; rfl, q _ _ [] (Al.val (.int _))⟩ hs
  · rename_i z i
    split at e
    · rename_i hz
      cases rb_str ha
      cases rb_int hb
      cases e2 : L2.atI z.cps.toList i with
      | none => rw [e2] at e; cases e
      | some c =>
        rw [e2] at e
        cases e
        exact ix_str value slice pins s σ H _ _ v u Q I rx ry ⟨z, i, c, rfl, rfl, hz, e2, q _ _ [] (Al.val (.str _))⟩ hs
    · cases e
  · rename_i es k
    split at e
    · rename_i hc
      cases e2 : dget es k with
      | none => rw [e2] at e; cases e
      | some d =>
        rw [e2] at e
        cases e
        have hv := rb_val hb
        obtain ⟨F, ha⟩ := ha
        rcases Bool.or_eq_true_iff.mp hc with hc | hc
        · rw [Bool.and_eq_true] at hc
          obtain ⟨κ, hk⟩ := Option.isSome_iff_exists.mp hc.1
          cases ha with
          | dic e1 h1 h2 nd =>
            cases rx
            obtain rfl := key_v hv hk
            obtain ⟨w', hw, hd⟩ := (dget_val h1 h2 hk).2 d e2
            have g := DGet.k (k := κ) e1
            rw [hw] at g
            exact PyProof.Rows.tail_any (dict_typeIs I g) PySem.F.slot_dict_getitem.lookup (d_getItem (by omega) I g ry fun z s3 I3 rz => ⟨w', H, I3, rz, q _ _ [] (Al.val hd)⟩) hs
          | dct e1 hx nd ne => exact absurd (all_nkey hx hc.2) ne
        · rw [Bool.and_eq_true] at hc
          obtain ⟨κ, hk⟩ := Option.isSome_iff_exists.mp hc.1
          obtain ⟨hk1, hk2⟩ := nkOf_some hk
          obtain ⟨ds, rfl⟩ := nkey_ref hk
          cases hv with
          | tup hq hds =>
            cases ry
            have his : (nestedKind X.prog X.w).is s.heap κ _ := ⟨nested_is I (.tup hq hds) rfl hk1, hk2⟩
            cases ha with
            | dic e1 h1 h2 nd =>
              obtain ⟨rfl, rfl⟩ := all_key h1 hc.2
              cases e2
            | dct e1 hx nd ne =>
              cases rx
              obtain ⟨m1, m2, _⟩ := ndict_at I rfl rfl e1 hx
              obtain ⟨p, w', hp, rw', hd⟩ := (dget_nk hx hk1).2 d e2
              refine PyProof.Rows.tail_any m1.typeIs PySem.F.slot_dict_getitem.lookup (wpAny_getItem_heap (by show X.A.units + 1 + 8 < cLine; omega) his m1 hp ?_) hs
              exact ⟨w', H, I.tok _, rw', q _ _ [] (Al.val hd)⟩
    · cases e
  · rename_i es d
    split at e
    · rename_i hc
      cases e2 : dget es d with
      | none => rw [e2] at e; cases e
      | some d' =>
        rw [e2] at e
        cases e
        rw [Bool.and_eq_true] at hc
        have hv := rb_val hb
        have ha := rb_val ha
        obtain ⟨κ, hk⟩ := Option.isSome_iff_exists.mp hc.2
        cases ha with
        | dic e1 nd h1 h2 =>
          cases rx
          rename_i p ob kvs
          obtain rfl := key_v hv hk
          obtain ⟨w', hw, hd⟩ := (dget_val h1 h2 hk).2 d' e2
          have g : DGet H p (kV κ) (valV kvs κ) := .inl ⟨kvs, κ, .inr ⟨ob, e1⟩, rfl, rfl⟩
          rw [hw] at g
          exact PyProof.Rows.tail_any (dict_typeIs I g) PySem.F.slot_dict_getitem.lookup (d_getItem (by omega) I g ry fun z s3 I3 rz => ⟨w', H, I3, rz, q _ _ [] (Al.val hd)⟩) hs
    · cases e
  · rename_i ds i
    cases e2 : L2.atI ds i with
    | none => rw [e2] at e; cases e
    | some d =>
      rw [e2] at e
      cases e
      cases rb_int hb
      obtain ⟨p, xs, rfl, hp, hd⟩ := rb_list ha rfl
      obtain ⟨w', hw, hdw⟩ := hd.atI e2
      exact ix_list value slice pins s σ H _ _ v u Q I rx ry ⟨p, xs, i, w', rfl, rfl, .inl (.inl hp), hw, q _ _ [] (Al.val hdw)⟩ hs
  · rename_i ds i
    cases e2 : L2.atI ds i with
    | none => rw [e2] at e; cases e
    | some d =>
      rw [e2] at e
      cases e
      cases rb_int hb
      obtain ⟨p, xs, rfl, hp, hd⟩ := rb_list ha rfl
      obtain ⟨w', hw, hdw⟩ := hd.atI e2
      exact ix_list value slice pins s σ H _ _ v u Q I rx ry ⟨p, xs, i, w', rfl, rfl, .inl (.inl hp), hw, q _ _ [] (Al.val hdw)⟩ hs
  · rename_i ds i
    cases e2 : L2.atI ds i with
    | none => rw [e2] at e; cases e
    | some d =>
      rw [e2] at e
      cases e
      cases rb_int hb
      obtain ⟨p, xs, rfl, hp, hd⟩ := rb_tup ha rfl
      obtain ⟨w', hw, hdw⟩ := hd.atI e2
      exact ix_tup value slice pins s σ H _ _ v u Q I rx ry ⟨p, xs, i, w', rfl, rfl, hp, hw, q _ _ [] (Al.val hdw)⟩ hs
  · cases e
theorem se_ix {a b : Expr} {f g : ES} {pos : Pos} (hu : X.A.units + 65 < cLine) (ha : PE X a (RdE X ca W f)) (hb : PE X b (RdE X ca W g)) (hs : PlainIx b) : PE X (.Subscript a b pos) (RdE X ca W (o2 ixS f g)) :=
  PE.imp (pe_ix (ix_all hu) ha hb hs) fun _ _ _ h => rd_o2 h

/-! ### slices -/
def cutA {α : Type} (xs : List α) (lo hi : Option Int) : List α := (xs.drop (HT.sIx xs.length 0 lo)).take (HT.sIx xs.length xs.length hi - HT.sIx xs.length 0 lo)
def slS (lo hi : Option Int) : O → Option O
  | .val (.str z) => if z.length ≤ sizeLine then some (.val (.str (cutS z lo hi))) else none
  | .val (.tuple ds) => some (.val (.tuple (cutA ds lo hi)))
  | .lst ds => some (.lst (cutA ds lo hi))
  | .val (.list ds) => some (.lst (cutA ds lo hi))
  | .scr ns => some (.lst (cutA (ns.map PyData.int) lo hi))
  | _ => none
theorem dzA_ints {Z : Zs} {K : PySem.W.Frag} {H : Hp} : ∀ ns : List Int, DzA Z K H (ns.map PyData.int) (ns.map V.int)
  | [] => .nil
  | n :: ns => .cons (.int n) (dzA_ints ns)
theorem DzA.cut {Z : Zs} {K : PySem.W.Frag} {H : Hp} {ds : List D} {vs : List V} (h : DzA Z K H ds vs) (lo hi : Option Int) : DzA Z K H (cutA ds lo hi) (cutV vs lo hi) := by
  unfold cutA cutV
  rw [h.length]
  exact (h.drop _).take _
theorem sl_all {lo hi : Option Int} : SlR X (fun x l h H Q => l = lo ∧ h = hi ∧ RSem (X := X) (ca := ca) (one (slS lo hi)) [x] H Q) := by
  intro pins s σ H x v vl vu l h sl Q I rx his pl pu ⟨e1, e2, Z, os, r, zd, hp, e0, q⟩
  subst e1; subst e2
  obtain ⟨a, rfl, e⟩ := one_some e0
  have ha := pair1 hp
  unfold slS at e
  split at e
  · rename_i z
    split at e
    · rename_i hz
      cases e
      cases rb_str ha
      exact sl_str pins s σ H _ v vl vu l h sl Q I rx his pl pu ⟨z, rfl, hz, q _ _ [] (Al.val (.str _))⟩
    · cases e
  · rename_i ds
    cases e
    obtain ⟨p, xs, rfl, hp, hd⟩ := rb_tup ha rfl
    refine sl_tupA pins s σ H _ v vl vu l h sl Q I rx his pl pu ⟨p, xs, rfl, hp, fun hw => ?_, fun _ a' na => q _ _ [] (Al.tup (hd.cut l h) na)⟩
    have e : cutA ds l h = ds := by
      unfold cutA
      rw [← hd.length, hw.1, hw.2, hd.length, List.drop_zero, Nat.sub_zero, List.take_length]
    rw [e] at q
    exact q _ _ [] (Al.val (.tup hp hd))
  · rename_i ds
    cases e
    obtain ⟨p, xs, rfl, hp, hd⟩ := rb_list ha rfl
    exact sl_list pins s σ H _ v vl vu l h sl Q I rx his pl pu ⟨p, xs, rfl, .inl (.inl hp), fun a' na => q _ _ _ (Al.lst (hd.cut l h) na)⟩
  · rename_i ds
    cases e
    obtain ⟨p, xs, rfl, hp, hd⟩ := rb_list ha rfl
    exact sl_list pins s σ H _ v vl vu l h sl Q I rx his pl pu ⟨p, xs, rfl, .inl (.inl hp), fun a' na => q _ _ _ (Al.lst (hd.cut l h) na)⟩
  · rename_i ns
    cases e
    obtain ⟨F, hF⟩ := ha
    cases hF with
    | scr hq => exact sl_list pins s σ H _ v vl vu l h sl Q I rx his pl pu ⟨_, _, rfl, hq.sq, fun a' na => q _ _ _ (Al.lst ((dzA_ints ns).cut l h) na)⟩
  · cases e
end
end Eng
set_option maxHeartbeats 1000000
/-! The engine, part 6: calls of built-ins. -/
namespace Eng
open PySem PySem.Spec L2
open PyProof.Rows hiding St

/-! ### plain forms of the text -/
def notStar : Expr → Bool
  | .Starred _ _ => false
  | _ => true
theorem star_cons {e : Expr} {es : List Expr} {env : Env} (h : notStar e = true) : starEach (e :: es) env = (false, eval e env) :: starEach es env := by
  cases e <;> first | rfl | cases h
theorem star_plain {env : Env} {pos : Pos} : ∀ {es : List Expr}, (es.all notStar) = true → (backTo pos (starEach es env)).any (·.1) = false
  | [], _ => rfl
  | e :: es, h => by
    rw [List.all_cons, Bool.and_eq_true] at h
    rw [star_cons h.1]
    show (false || (backTo pos (starEach es env)).any (·.1)) = false
    rw [star_plain h.2]
    rfl
section
variable {X : Cx} {ca : Nat → Addr} {W : WX}
/-- a built-in's call on values -/
def CallS (X : Cx) (ca : Nat → Addr) (f : Value) (sem : List O → Option O) : Prop := CallR X f (fun xs H Q => RSem (X := X) (ca := ca) sem xs H Q)
theorem se_callB {sem : List O → Option O} {id : String} {x : Str} {e : Expr} {es : List Expr} {fs : AS} {p pos : Pos} (hc : CallS X ca (.builtin id) sem) (hg : Gl X x) (hm : X.mg x = none) (hv : bootBuiltins x = some (.builtin id)) (ha : PA X (e :: es) (RdA X ca W fs))
    (hn : x ≠ "__name__") (hdb : (x == ("__debug__" : Str)) = false) (hs : ((e :: es).all notStar) = true) : PE X (.Call (.Name x p) (e :: es) [] pos) (RdE X ca W (oF sem fs)) := by
  rw [List.all_cons, Bool.and_eq_true] at hs
  exact PE.imp (pe_callB hc hg hm hv ha hn hdb (star_cons hs.1) (star_plain hs.2)) fun _ _ _ h => rd_oF h
theorem se_callTy {sem : List O → Option O} {T : String} {x : Str} {e : Expr} {es : List Expr} {fs : AS} {p pos : Pos} (hc : CallS X ca (.type T) sem) (hg : Gl X x) (hm : X.mg x = none) (hv : bootBuiltins x = some (.type T)) (ha : PA X (e :: es) (RdA X ca W fs))
    (hn : x ≠ "__name__") (hdb : (x == ("__debug__" : Str)) = false) (hs : ((e :: es).all notStar) = true) : PE X (.Call (.Name x p) (e :: es) [] pos) (RdE X ca W (oF sem fs)) := by
  rw [List.all_cons, Bool.and_eq_true] at hs
  exact PE.imp (pe_callTy hc hg hm hv ha hn hdb (star_cons hs.1) (star_plain hs.2)) fun _ _ _ h => rd_oF h
theorem callS_of {f : Value} {sem : O → Option O}
    (h : ∀ (pins : List (Addr × Obj)) (s : Shared) (σ : L2.St) (H : Hp) (x : V) (v : Value) (Q : VK) (Z : Zs) (a r : O), Inv X pins σ H s → RelV x v → (∀ a, Z a → H a ≠ none) → Rb (gx X ca) Z H a x → sem a = some r →
      (∀ v H' F, Al (gx X ca) Z H r v H' F → Q v H') → wpAny (model X.prog X.w) X.A (call f [v]) (EP X pins σ Q) X.xe s) : CallS X ca f (one sem) := by
  intro pins s σ H xs us Q I r ⟨Z, os, o, zd, hp, e0, q⟩
  obtain ⟨a, rfl, e⟩ := one_some e0
  cases hp with
  | cons h1 t =>
    cases t
    cases r with
    | cons r1 rt =>
      cases rt
      exact h pins s σ H _ _ Q Z a o I r1 zd h1 e q
theorem vals1' {x : V} {v : Value} (r : RelV x v) : Vals [x] [v] := .cons r .nil

/-! ### len, list, tuple -/
def lenS : O → Option O
  | .val (.str z) => if z.length ≤ sizeLine then some (.val (.int z.length)) else none
  | .val (.list ds) => some (.val (.int ds.length))
  | .val (.tuple ds) => some (.val (.int ds.length))
  | .lst ds => some (.val (.int ds.length))
  | .scr ns => some (.val (.int ns.length))
  | .dic es => if (es.all fun e => (keyOf e.1).isSome) = true then some (.val (.int es.length)) else none
  | .set xs => some (.val (.int xs.length))
  | _ => none
theorem c_len : CallS X ca (.builtin "len") (one lenS) := callS_of fun pins s σ H x v Q Z a r I rx zd ha e q => by
  unfold lenS at e
  split at e
  · split at e
    · rename_i z hz
      cases e
      cases rb_str ha
      exact call_len_str pins s σ H _ _ Q I (vals1' rx) ⟨z, rfl, hz, q _ _ [] (Al.val (.int _))⟩
    · cases e
  · rename_i ds
    cases e
    obtain ⟨p, xs, rfl, hs, hd⟩ := rb_seq ha rfl
    rw [← hd.length] at q
    exact call_len_seq pins s σ H _ _ Q I (vals1' rx) ⟨p, xs, rfl, hs, q _ _ [] (Al.val (.int _))⟩
  · rename_i ds
    cases e
    obtain ⟨p, xs, rfl, hs, hd⟩ := rb_seq ha rfl
    rw [← hd.length] at q
    exact call_len_seq pins s σ H _ _ Q I (vals1' rx) ⟨p, xs, rfl, hs, q _ _ [] (Al.val (.int _))⟩
  · rename_i ds
    cases e
    obtain ⟨p, xs, rfl, hs, hd⟩ := rb_seq ha rfl
    rw [← hd.length] at q
    exact call_len_seq pins s σ H _ _ Q I (vals1' rx) ⟨p, xs, rfl, hs, q _ _ [] (Al.val (.int _))⟩
  · rename_i ns
    cases e
    obtain ⟨F, ha⟩ := ha
    cases ha with
    | scr hq =>
      have hl : (ns.map V.int).length = ns.length := List.length_map _
      rw [← hl] at q
      exact call_len_seq pins s σ H _ _ Q I (vals1' rx) ⟨_, _, rfl, .inl hq.sq, q _ _ [] (Al.val (.int _))⟩
  · split at e
    · rename_i es hc
      cases e
      obtain ⟨F, ha⟩ := ha
      cases ha with
      | dic e1 h1 h2 nd =>
        have hl := h1.length
        rw [List.length_map, List.length_map] at hl
        rw [← hl] at q
        exact call_lenD pins s σ H _ _ Q I (vals1' rx) ⟨_, _, rfl, e1, q _ _ [] (Al.val (.int _))⟩
      | dct e1 hx nd ne => exact absurd (all_nkey hx hc) ne
    · cases e
  · rename_i xs
    cases e
    obtain ⟨F, ha⟩ := ha
    cases ha with
    | set e1 =>
      obtain ⟨x, _⟩ := I.hok _ _ e1
      obtain ⟨o, es, ep, t, ⟨h1, h2, h3⟩, g, pm, nd, hb, hf, _⟩ := x
      cases rx
      have hl : es.size = xs.length := by
        have := pm.length_eq
        simpa using this
      have small : scanBound = 4096 := rfl
      refine call_len_set h1 h2 h3 hf (by omega) ⟨.int xs.length, H, I.tok _, ⟨_, by rw [hl]⟩, q _ _ [] (Al.val (.int _))⟩
  · cases e
def listS (o : O) : Option O := o.seq?.map .lst
def tupleS (o : O) : Option O := o.seq?.map fun ds => .val (.tuple ds)
theorem c_list : CallS X ca (.type "list") (one listS) := callS_of fun pins s σ H x v Q Z a r I rx zd ha e q => by
  unfold listS at e
  cases e1 : a.seq? with
  | none => rw [e1] at e; cases e
  | some ds =>
    rw [e1] at e
    cases e
    obtain ⟨p, xs, rfl, hs, hd⟩ := rb_seq ha e1
    exact call_list_of pins s σ H _ _ Q I (vals1' rx) ⟨p, xs, rfl, hs, fun l nl => q _ _ _ (Al.lst hd nl)⟩
theorem c_tuple : CallS X ca (.type "tuple") (one tupleS) := callS_of fun pins s σ H x v Q Z a r I rx zd ha e q => by
  unfold tupleS at e
  cases e1 : a.seq? with
  | none => rw [e1] at e; cases e
  | some ds =>
    rw [e1] at e
    cases e
    obtain ⟨p, xs, rfl, hs, hd⟩ := rb_seq ha e1
    refine call_tuple_of pins s σ H _ _ Q I (vals1' rx) ⟨p, xs, rfl, ?_⟩
    rcases hs with hs | hs
    · exact .inl ⟨hs, fun l nl => q _ _ _ (Al.tup hd nl)⟩
    · exact .inr ⟨hs, q _ _ [] (Al.val (.tup hs hd))⟩

/-! ### all, any, sum, max, min, str, int -/
def asBools : List D → Option (List Bool)
  | [] => some []
  | .bool b :: ds => (asBools ds).map (b :: ·)
  | _ :: _ => none
def asInts : List D → Option (List Int)
  | [] => some []
  | .int b :: ds => (asInts ds).map (b :: ·)
  | _ :: _ => none
theorem asBools_eq : ∀ {ds : List D} {bs : List Bool}, asBools ds = some bs → ds = bs.map PyData.bool
  | [], _, e => by cases e; rfl
  | d :: ds, bs, e => by
    cases d <;> simp [asBools] at e
    obtain ⟨cs, h, rfl⟩ := e
    rw [asBools_eq h]; rfl
@[simp] theorem asBools_map (bs : List Bool) : asBools (bs.map PyData.bool) = some bs := by
  induction bs with
  | nil => rfl
  | cons b bs ih => simp [asBools, ih]
@[simp] theorem asInts_map (bs : List Int) : asInts (bs.map PyData.int) = some bs := by
  induction bs with
  | nil => rfl
  | cons b bs ih => simp [asInts, ih]
def allS (o : O) : Option O := o.list?.bind fun ds => (asBools ds).map fun bs => .val (.bool (bs.all id))
def anyS (o : O) : Option O := o.list?.bind fun ds => (asBools ds).map fun bs => .val (.bool (bs.any id))
def sumS (o : O) : Option O := o.list?.bind fun ds => (asInts ds).map fun bs => .val (.int bs.sum)
theorem c_all (hc : X.calm = true) : CallS X ca (.builtin "all") (one allS) := callS_of fun pins s σ H x v Q Z a r I rx zd ha e q => by
  unfold allS at e
  cases e1 : a.list? with
  | none => rw [e1] at e; cases e
  | some ds =>
    rw [e1] at e
    cases e2 : asBools ds with
    | none => simp [e2] at e
    | some bs =>
      simp only [Option.bind_some, e2, Option.map_some, Option.some.injEq] at e
      subst e
      obtain ⟨p, xs, rfl, hs, hd⟩ := rb_list ha e1
      rw [asBools_eq e2] at hd
      rw [hd.bls] at hs
      exact cr_all hc pins s σ H _ _ Q I (vals1' rx) ⟨p, bs, rfl, .inl (.inl hs), q _ _ [] (Al.val (.bl _))⟩
def maxS : O → O → Option O
  | .val (.int i), .val (.int j) => some (.val (.int (if j > i then j else i)))
  | _, _ => none
def minS : O → O → Option O
  | .val (.int i), .val (.int j) => some (.val (.int (if j < i then j else i)))
  | _, _ => none
def strS : O → Option O
  | .val (.int i) => if i.natAbs.log2 < 1920 then some (.val (.str (Str.ofString (toString i)))) else none
  | _ => none
theorem c_str : CallS X ca (.type "str") (one strS) := callS_of fun pins s σ H x v Q Z a r I rx zd ha e q => by
  unfold strS at e
  split at e
  · split at e
    · rename_i i hi
      cases e
      cases rb_int ha
      exact call_str_int pins s σ H _ _ Q I (vals1' rx) ⟨i, rfl, hi, q _ _ [] (Al.val (.str _))⟩
    · cases e
  · cases e
end

/-! ### sorted -/
def sortD (ds : List D) : List D := ds.mergeSort (PySem.W.dataLe false fun d => d)
def isTupNE : D → Bool
  | .tuple (_ :: _) => true
  | _ => false
def noTup : D → Bool
  | .tuple _ => false
  | .none => false
  | _ => true
def sortOk (ds : List D) : Bool := (ds.all fun d => ds.all fun e => PySem.W.alike d e) && (ds.all isTupNE || ds.all noTup) && (ds.all fun d => decide (d.depth ≤ 32)) && decide (ds.length ≤ sizeLine)
theorem sortOk_alike {ds : List D} (h : sortOk ds = true) : PySem.W.AllAlike ds := by
  unfold sortOk at h
  simp only [Bool.and_eq_true] at h
  intro d hd e he
  exact List.all_eq_true.mp (List.all_eq_true.mp h.1.1.1 d hd) e he
theorem sortOk_able {ds : List D} (h : sortOk ds = true) : PySem.W.Sortable ds := by
  unfold sortOk at h
  simp only [Bool.and_eq_true, Bool.or_eq_true] at h
  rcases h.1.1.2 with h | h
  · refine .inl fun d hd => ?_
    have := List.all_eq_true.mp h d hd
    cases d with
    | tuple xs =>
      cases xs with
      | nil => cases this
      | cons x r => exact ⟨x, r, rfl⟩
    | _ => cases this
  · refine .inr fun d hd => ?_
    have := List.all_eq_true.mp h d hd
    cases d with
    | tuple xs => cases this
    | none => cases this
    | _ => exact ⟨(by intro e; cases e), fun xs e => by cases e⟩
theorem sortOk_depth {ds : List D} (h : sortOk ds = true) : ∀ d ∈ ds, d.depth ≤ 32 := by
  unfold sortOk at h
  simp only [Bool.and_eq_true] at h
  exact fun d hd => of_decide_eq_true (List.all_eq_true.mp h.1.2 d hd)
theorem sortOk_len {ds : List D} (h : sortOk ds = true) : ds.length ≤ sizeLine := by
  unfold sortOk at h
  simp only [Bool.and_eq_true] at h
  exact of_decide_eq_true h.2
mutual
theorem alike_nd : ∀ d : D, PySem.W.alike d d = true → d.hasDict = false
  | .none, _ => by simp [PyData.hasDict]
  | .bool _, _ => by simp [PyData.hasDict]
  | .int _, _ => by simp [PyData.hasDict]
  | .str _, _ => by simp [PyData.hasDict]
  | .list ds, h => by simpa [PyData.hasDict] using alikeAll_nd ds (by simpa [PySem.W.alike] using h)
  | .tuple ds, h => by simpa [PyData.hasDict] using alikeAll_nd ds (by simpa [PySem.W.alike] using h)
  | .dict _, h => by simp [PySem.W.alike] at h
theorem alikeAll_nd : ∀ ds : List D, PySem.W.alikeAll ds ds = true → PyData.hasDictAll ds = false
  | [], _ => by simp [PyData.hasDictAll]
  | d :: ds, h => by
    have h2 : PySem.W.alike d d = true ∧ PySem.W.alikeAll ds ds = true := by simpa [PySem.W.alikeAll] using h
    simp [PyData.hasDictAll, alike_nd d h2.1, alikeAll_nd ds h2.2]
end
theorem sortOk_nd {ds : List D} (h : sortOk ds = true) : ∀ d ∈ ds, d.hasDict = false := fun d hd => alike_nd d (sortOk_alike h d hd d hd)
section
variable {X : Cx} {ca : Nat → Addr} {pins : List (Addr × Obj)} {σ : L2.St} {H : Hp} {s : Shared} {Z : Zs} {Q : VK}
mutual
theorem Dz.reads (I : Inv X pins σ H s) : ∀ {d : D} {v : V} {u : Value}, d.hasDict = false → Dz Z X.K H d v → RelV v u → ∃ as, Reads s.heap u d as ∧ ∀ a ∈ as, a < s.heap.objs.size
  | .none, _, _, _, h, r => by
    cases h; cases r
    exact ⟨_, Reads.none, fun _ h => by cases h⟩
  | .bool b, _, _, _, h, r => by
    cases h; cases r
    exact ⟨_, Reads.bool b, fun _ h => by cases h⟩
  | .int i, _, _, _, h, r => by
    cases h
    obtain ⟨t, rfl⟩ := r
    exact ⟨_, Reads.int i t, fun _ h => by cases h⟩
  | .str x, _, _, _, h, r => by
    cases h
    obtain ⟨t, rfl⟩ := r
    exact ⟨_, Reads.str x t, fun _ h => by cases h⟩
  | .list ds, _, _, c, h, r => by
    cases h with
    | lst z hs ha =>
      cases r
      obtain ⟨its, rv, ⟨o, n, ho, hc, _, hd⟩, _⟩ := I.list (.inl (.inl hs))
      obtain ⟨as, hr, hb⟩ := DzA.reads I (by simpa [PyData.hasDict] using c) ha rv
      refine ⟨_, Reads.list ho hc hd hr, fun a ha => ?_⟩
      rcases List.mem_cons.mp ha with rfl | ha
      · exact Heap.lt_size ho
      · exact hb a ha
  | .tuple ds, _, _, c, h, r => by
    cases h with
    | tup hs ha =>
      cases r
      obtain ⟨its, rv, ⟨o, ho, hc, n, hd⟩, _⟩ := I.tuple hs
      obtain ⟨as, hr, hb⟩ := DzA.reads I (by simpa [PyData.hasDict] using c) ha rv
      exact ⟨_, Reads.tuple ho hc hd hr, hb⟩
  | .dict _, _, _, c, h, _ => by simp [PyData.hasDict] at c
theorem DzA.reads (I : Inv X pins σ H s) : ∀ {ds : List D} {vs : List V} {us : List Value}, PyData.hasDictAll ds = false → DzA Z X.K H ds vs → Vals vs us → ∃ as, ReadsAll s.heap us ds as ∧ ∀ a ∈ as, a < s.heap.objs.size
  | [], _, _, _, h, r => by
    cases h; cases r
    exact ⟨_, ReadsAll.nil, fun _ h => by cases h⟩
  | d :: ds, _, _, c, h, r => by
    cases h with
    | cons h1 h2 =>
      cases r with
      | cons r1 r2 =>
        obtain ⟨as, q1, b1⟩ := Dz.reads I (show d.hasDict = false by simp [PyData.hasDictAll] at c; exact c.1) h1 r1
        obtain ⟨bs, q2, b2⟩ := DzA.reads I (show PyData.hasDictAll ds = false by simp [PyData.hasDictAll] at c; exact c.2) h2 r2
        exact ⟨_, ReadsAll.cons q1 q2, fun a ha => (List.mem_append.mp ha).elim (b1 a) (b2 a)⟩
end
theorem each_of : ∀ {ds : List D} {vs : List V} {us : List Value}, DzA Z X.K H ds vs → Vals vs us → PySem.W.EachIs (fun u (b : D × V) => RelV b.2 u ∧ Dz Z X.K H b.1 b.2) us (ds.zip vs)
  | [], _, _, h, r => by
    cases h; cases r
    exact .nil
  | d :: ds, _, _, h, r => by
    cases h with
    | cons h1 h2 =>
      cases r with
      | cons r1 r2 => exact .cons ⟨r1, h1⟩ (each_of h2 r2)
theorem of_each : ∀ {bs : List (D × V)} {us : List Value}, PySem.W.EachIs (fun u (b : D × V) => RelV b.2 u ∧ Dz Z X.K H b.1 b.2) us bs → DzA Z X.K H (bs.map (·.1)) (bs.map (·.2)) ∧ Vals (bs.map (·.2)) us
  | [], _, h => by
    cases h
    exact ⟨.nil, .nil⟩
  | b :: bs, _, h => by
    cases h with
    | cons h t =>
      obtain ⟨i1, i2⟩ := of_each t
      exact ⟨.cons h.2 i1, .cons h.1 i2⟩
theorem zip_fst : ∀ {ds : List D} {vs : List V}, DzA Z X.K H ds vs → (ds.zip vs).map Prod.fst = ds
  | [], _, h => by cases h; rfl
  | d :: ds, _, h => by
    cases h with
    | cons h t =>
      show d :: (ds.zip _).map Prod.fst = d :: ds
      rw [zip_fst t]
/-- sorted of what can be gathered into a list -/
theorem sorted_src {a : Addr} (I : Inv X pins σ H s) (hu : X.A.units + 65 < cLine) (P : List D → Prop) (hok : ∀ ds, P ds → sortOk ds = true)
    (col : ∀ (E : Value → Shared → Prop) (Q' : List Value → Shared → Prop), (∀ s' out ds xs, Inv X pins σ H s' → P ds → DzA Z X.K H ds xs → Vals xs out → Q' out s') → wpAny (model X.prog X.w) X.A.in1 (collect (.ref a)) Q' E s)
    (q : ∀ ds vs p, P ds → H p = none → DzA Z X.K H (sortD ds) vs → Q (.ref p) (upd H p (.lst vs))) : wpAny (model X.prog X.w) X.A (call (.builtin "sorted") [.ref a]) (EP X pins σ Q) X.xe s := by
  refine Calls.call_function_entry PyProof.Rows.kind_sorted PyProof.Rows.plain_sorted PyProof.Rows.entry_sorted (PyProof.Rows.args_sorted1 _) ?_
  unfold Builtin.«sorted»
  refine wpAny_bind (m := checkCount "sorted" 1 1 _) (wpAny_pure ?_)
  refine wpAny_bind (col _ _ fun s1 out ds xs I1 hP hd r => ?_)
  have ok := hok ds hP
  have hlen : out.length = ds.length := by rw [← r.length, hd.length]
  refine wpAny_bind (wpAny_newList ?_ (by rw [hlen]; exact sortOk_len ok))
  have hoL : (s1.heap.push (seqObj "list" out.toArray 0)).get? s1.heap.objs.size = some (seqObj "list" out.toArray 0) := Heap.get?_push_size _ rfl
  have ez := zip_fst hd
  have er : ∀ {ds : List D} {xs : List V} {us : List Value}, (∀ d ∈ ds, d.hasDict = false) → DzA Z X.K H ds xs → Vals xs us → PySem.W.EachIs (fun v (b : D × V) => ∃ as, Reads (s1.heap.push (seqObj "list" out.toArray 0)) v b.1 as ∧ s1.heap.objs.size ∉ as) us (ds.zip xs) := by
    intro ds
    induction ds with
    | nil =>
      intro xs us _ h r
      cases h; cases r
      exact .nil
    | cons d ds ih =>
      intro xs us c h r
      cases h with
      | cons h t =>
        cases r with
        | cons r rr =>
          refine .cons ?_ (ih (fun e he => c e (List.mem_cons_of_mem _ he)) t rr)
          obtain ⟨as, h1, h2⟩ := Dz.reads I1 (c d List.mem_cons_self) h r
          exact ⟨as, PyProof.Rows.Reads.keeps (fun _ _ e => Heap.get?_push_of_some _ e) h1, fun hm => absurd (h2 _ hm) (Nat.lt_irrefl _)⟩
  refine wpAny_bind (wpAny_holding (PySem.W.list_sort_data (s := { s1 with heap := s1.heap.push (seqObj "list" out.toArray 0) }) (vs := out) (enc := Prod.fst) (bs := ds.zip xs) (n := 0) hoL (each_of hd r) (er (sortOk_nd ok) hd r) (by rw [ez]; exact sortOk_alike ok) (by rw [ez]; exact sortOk_able ok)
    (by rw [List.length_zip, hd.length, Nat.min_self]; exact sortOk_len ok) (fun b hb => ?_) fun out' hl he => ?_))
  · have hm : b.1 ∈ ds := by
      rw [← ez]
      exact List.mem_map.mpr ⟨b, hb, rfl⟩
    have := sortOk_depth ok _ hm
    show X.A.units + 1 + 1 + b.1.depth < cLine
    omega
  · obtain ⟨i1, i2⟩ := of_each he
    have e1 : ((ds.zip xs).mergeSort (PySem.W.dataLe false Prod.fst)).map (·.1) = sortD ds := by
      unfold sortD
      have := PySem.W.sort_maps (r := PySem.W.dataLe false Prod.fst) (s := PySem.W.dataLe false fun d => d) (Prod.fst : D × V → D) (l := ds.zip xs) fun _ _ _ _ => rfl
      rw [ez] at this
      exact this
    rw [e1] at i1
    obtain ⟨c, hc⟩ := PyProof.Rows.sortedHeap_at (vs := out) (out := out'.toArray) hoL
    have hz : (((ds.zip xs).mergeSort (PySem.W.dataLe false Prod.fst)).map (·.2)).length ≤ sizeLine := by
      rw [i1.length]
      unfold sortD
      rw [List.length_mergeSort]
      exact sortOk_len ok
    refine wpAny_pure ⟨_, rfl, .ref s1.heap.objs.size, upd H s1.heap.objs.size (.lst _), I1.laid (t' := s1.toks) (fun b u e => ?_) (Nat.le_refl _) ⟨hz, out', c, i2, hc⟩, rfl, q ds _ _ hP (I1.hok.fresh (Nat.le_refl _)) i1⟩
    have hb : b < s1.heap.objs.size := Heap.lt_size e
    show (sortedHeap (s1.heap.push (seqObj "list" out.toArray 0)) s1.heap.objs.size out out'.toArray).get? b = some u
    rw [PyProof.Rows.sortedHeap_old (Nat.ne_of_lt hb) (by rw [size_push']; exact Nat.lt_succ_of_lt hb)]
    exact Heap.get?_push_of_some _ e
theorem sortOk_perm {xs ys : List Str} (p : ys.Perm xs) (h : sortOk (xs.map PyData.str) = true) : sortOk (ys.map PyData.str) = true := by
  unfold sortOk at h ⊢
  simp only [Bool.and_eq_true, Bool.or_eq_true, List.all_eq_true, decide_eq_true_eq] at h ⊢
  have m : ∀ d, d ∈ ys.map PyData.str → d ∈ xs.map PyData.str := fun d hd => (p.map _).mem_iff.mp hd
  exact ⟨⟨⟨fun d hd e he => h.1.1.1 d (m d hd) e (m e he), h.1.1.2.imp (fun q d hd => q d (m d hd)) fun q d hd => q d (m d hd)⟩, fun d hd => h.1.2 d (m d hd)⟩, by rw [List.length_map, p.length_eq, ← List.length_map (f := PyData.str)]; exact h.2⟩
/-- two lists in order of the same items are one -/
theorem one_order {α : Type} {le : α → α → Prop} (anti : ∀ a b, le a b → le b a → a = b) : ∀ {l m : List α}, l.Perm m → l.Pairwise le → m.Pairwise le → l = m
  | [], m, p, _, _ => (List.nil_perm.mp p).symm ▸ rfl
  | a :: l, [], p, _, _ => by cases p.length_eq
  | a :: l, b :: m, p, h1, h2 => by
    rw [List.pairwise_cons] at h1 h2
    have e : a = b := by
      rcases List.mem_cons.mp (p.mem_iff.mp List.mem_cons_self) with e | ha
      · exact e
      · rcases List.mem_cons.mp (p.mem_iff.mpr (List.mem_cons_self (a := b) (l := m))) with e | hb
        · exact e.symm
        · exact anti a b (h1.1 b hb) (h2.1 a ha)
    subst e
    rw [one_order anti ((List.perm_cons a).mp p) h1.2 h2.2]
/-- the order of texts -/
def leT (x y : Str) : Bool := decide (x.cps.toList ≤ y.cps.toList)
theorem sortD_strs (xs : List Str) : sortD (xs.map PyData.str) = (xs.mergeSort leT).map PyData.str := by
  unfold sortD
  refine (PySem.W.sort_maps (r := leT) (s := PySem.W.dataLe false fun d => d) PyData.str fun a _ b _ => ?_).symm
  have := congrFun (congrFun (PySem.W.dataLe_str (fun x : Str => x)) a) b
  exact this.symm
theorem leT_trans (a b c : Str) (h1 : leT a b = true) (h2 : leT b c = true) : leT a c = true := by
  unfold leT at *
  simp only [decide_eq_true_eq] at *
  exact List.le_trans h1 h2
theorem leT_total (a b : Str) : (leT a b || leT b a) = true := by
  unfold leT
  simp only [Bool.or_eq_true, decide_eq_true_eq]
  exact List.le_total _ _
theorem leT_anti (a b : Str) (h1 : leT a b = true) (h2 : leT b a = true) : a = b := by
  unfold leT at *
  simp only [decide_eq_true_eq] at *
  exact TL.ext_tl (List.le_antisymm h1 h2)
theorem sortT_pairwise (xs : List Str) : (xs.mergeSort leT).Pairwise (fun a b => leT a b = true) := List.pairwise_mergeSort leT_trans leT_total xs
theorem sortD_perm {xs ys : List Str} (p : ys.Perm xs) : sortD (ys.map PyData.str) = sortD (xs.map PyData.str) := by
  rw [sortD_strs, sortD_strs, one_order leT_anti (((List.mergeSort_perm ys leT).trans p).trans (List.mergeSort_perm xs leT).symm) (sortT_pairwise ys) (sortT_pairwise xs)]
/-- gathered: a list, a tuple, a dict with plain keys -/
def sortS (o : O) : Option O := match o with
  | .dic es => if ((es.all fun e => (keyOf e.1).isSome) && sortOk (es.map (·.1))) = true then some (.lst (sortD (es.map (·.1)))) else none
  | .set xs => if sortOk (xs.map PyData.str) = true then some (.lst (sortD (xs.map PyData.str))) else none
  | .val (.dict es) => if ((es.all fun e => (keyOf e.1).isSome) && sortOk (es.map (·.1))) = true then some (.lst (sortD (es.map (·.1)))) else none
  | o => match o.seq? with
    | some ds => if sortOk ds = true then some (.lst (sortD ds)) else none
    | none => none
theorem c_sorted (hcalm : X.calm = true) (hu : X.A.units + 65 < cLine) : CallS X ca (.builtin "sorted") (one sortS) := callS_of fun pins s σ H x v Q Z a r I rx zd ha e q => by
  have seqs : ∀ ds, a.seq? = some ds → (if sortOk ds = true then some (O.lst (sortD ds)) else none) = some r → wpAny (model X.prog X.w) X.A (call (.builtin "sorted") [v]) (EP X pins σ Q) X.xe s := fun ds e1 e => by
    split at e
    · rename_i hok
      cases e
      obtain ⟨p, xs, rfl, hs, hd⟩ := rb_seq ha e1
      cases rx
      refine sorted_src (Z := Z) I hu (fun ds' => ds' = ds) (fun ds' e => by rw [e]; exact hok) (fun E Q' hQ => ?_) fun ds' vs l e nl hv => ?_
      · rcases hs with hs | hs
        · obtain ⟨its, rv, ⟨o, n, ho, hc, hdn, hdd⟩, hz⟩ := I.list hs
          exact wpAny_collect_seq p (.inl rfl) ho hc hdd (fun h' k => hQ _ _ ds xs (I.kept (t' := s.toks) k) rfl hd rv) (by rw [List.size_toArray, ← rv.length]; exact hz)
        · obtain ⟨its, rv, ⟨o, ho, hc, n, hdd⟩, hz⟩ := I.tuple hs
          exact wpAny_collect_seq p (.inr rfl) ho hc hdd (fun h' k => hQ _ _ ds xs (I.kept (t' := s.toks) k) rfl hd rv) (by rw [List.size_toArray, ← rv.length]; exact hz)
      · subst e
        have h1 : DzA Z (gx X ca).K (upd H l (.lst vs)) (sortD ds') vs := hv.kp (same_kp (same_new nl))
        exact q _ _ _ (Al.lst (G := gx X ca) hv nl)
    · cases e
  have dicts : ∀ (es : List (D × D)) (p : Addr) (kvs : List (Key × V)), Rd H p (.dK kvs) → DzA Z (gx X ca).K H (es.map (·.1)) (kvs.map fun p => kV p.1) → sortOk (es.map (·.1)) = true → (∀ v H' F, Al (gx X ca) Z H (.lst (sortD (es.map (·.1)))) v H' F → Q v H') → wpAny (model X.prog X.w) X.A (call (.builtin "sorted") [.ref p]) (EP X pins σ Q) X.xe s := fun es p kvs e1 h1 hok q => by
    obtain ⟨z, lo, vs, rel, dd⟩ := dk_rd I.hok e1
    obtain ⟨ep, hat⟩ := dd.dictAt
    refine sorted_src (Z := Z) I hu (fun ds' => ds' = es.map (·.1)) (fun ds' e => by rw [e]; exact hok) (fun E Q' hQ => ?_) fun ds' ws l e nl hv => ?_
    · refine PySem.W.kdu_collect (A := X.A.in1) (PySem.W.kdl_dict (knd := mixKind X.prog X.w) (kvs := vs) (ep := ep) lo) (I.ok.hd hcalm) hat (by rw [← rel.length]; exact z) fun h' tk acc hk hacc => ?_
      refine hQ _ _ (es.map (·.1)) (kvs.map fun p => kV p.1) (I.kept hk) rfl h1 ?_
      -- the keys' values
      have hl : acc.toList.length = kvs.length := by rw [Array.length_toList, hacc.1, rel.length]
      have main : ∀ (n : Nat) (us : List Value) (ks : List (Key × V)), us.length = ks.length → (∀ (j : Nat) (v : Value), us[j]? = some v → ∃ p, ks[j]? = some p ∧ keyIs p.1 v = true) → Vals (ks.map fun p => kV p.1) us := by
        intro n us
        induction us with
        | nil =>
          intro ks hl _
          cases ks with
          | nil => exact .nil
          | cons _ _ => cases hl
        | cons u us ih =>
          intro ks hl h
          cases ks with
          | nil => cases hl
          | cons p ks =>
            refine .cons ?_ (ih ks (by simpa using hl) fun j v e => h (j + 1) v (by simpa using e))
            obtain ⟨p', e1, e2⟩ := h 0 u rfl
            simp only [List.getElem?_cons_zero, Option.some.injEq] at e1
            subst e1
            rcases keyIs_shape e2 with ⟨i, t, ek, ev⟩ | ⟨y, t, ek, ev⟩
            · show RelV (kV p.1) u
              rw [ek]; exact ⟨t, ev⟩
            · show RelV (kV p.1) u
              rw [ek]; exact ⟨t, ev⟩
      refine main 0 acc.toList kvs hl fun j v e => ?_
      obtain ⟨k, x, e1, e2⟩ := hacc.2 j v (by rw [← Array.getElem?_toList]; exact e)
      have hk' := rel.keys
      have e3 : (vs.map (·.1))[j]? = some k := by rw [List.getElem?_map, e1]; rfl
      rw [← hk', List.getElem?_map] at e3
      cases e4 : kvs[j]? with
      | none => rw [e4] at e3; cases e3
      | some p' =>
        rw [e4] at e3
        cases e3
        exact ⟨p', rfl, e2⟩
    · subst e
      exact q _ _ _ (Al.lst (G := gx X ca) hv nl)
  unfold sortS at e
  split at e
  · rename_i es
    split at e
    · rename_i hc
      rw [Bool.and_eq_true] at hc
      cases e
      obtain ⟨F, ha⟩ := ha
      cases ha with
      | dct e1 hx nd ne => exact absurd (all_nkey hx hc.1) ne
      | dic e1 h1 h2 nd =>
        cases rx
        rename_i p kvs
        exact dicts es _ kvs (.inl e1) h1 hc.2 q
    · cases e
  · rename_i xs
    split at e
    · rename_i hok
      cases e
      obtain ⟨F, ha⟩ := ha
      cases ha with
      | set e1 =>
        obtain ⟨x, _⟩ := I.hok _ _ e1
        obtain ⟨o, es, ep, t, ⟨h1, h2, h3⟩, g, pm, nd, hb, hf, hr, hl⟩ := x
        cases rx
        refine sorted_src (Z := Z) I hu (fun ds' => ∃ ys : List Str, ds' = ys.map PyData.str ∧ ys.Perm xs) (fun ds' ⟨ys, e, p⟩ => by rw [e]; exact sortOk_perm p hok) (fun E Q' hQ => ?_) fun ds' ws l ⟨ys, e, p⟩ nl hv => ?_
        · refine collect_set (A := X.A.in1) (I.ok.hd hcalm) ⟨o, h1, h2.1, h3⟩ hf hb hr hl fun s' out k1 _ g1 o1 pm2 => ?_
          obtain ⟨ys, hys, hp⟩ : ∃ ys : List Str, StrsAre out ys ∧ ys.Perm xs := by
            have key : ∀ out : List Value, (∀ v ∈ out, ∃ x tk, v = Value.str x tk) → StrsAre out (out.map fun v => txt (0, v)) := by
              intro out
              induction out with
              | nil => intro _; exact .nil
              | cons v r ih =>
                intro h
                obtain ⟨x, tk, rfl⟩ := h v List.mem_cons_self
                exact .cons x tk (ih fun v hv => h v (List.mem_cons_of_mem _ hv))
            refine ⟨out.map fun v => txt (0, v), key out fun v hv => ?_, ?_⟩
            · obtain ⟨e, he, q⟩ := List.mem_map.mp (pm2.mem_iff.mp hv)
              obtain ⟨x, tk, rfl⟩ := g e he
              exact ⟨x, tk, q.symm⟩
            · refine (pm2.map _).trans ?_
              rw [List.map_map]
              exact pm
          have I1 : Inv X pins σ H s' := I.call' (ch := []) o1 (Un.kept k1) (I.hok.kept k1) (by rw [g1]; exact I.bare) (fun _ z => nomatch z)
          refine hQ s' out _ _ I1 ⟨ys, rfl, hp⟩ ?_ (vals_of_strs hys)
          have dz : ∀ ys : List Str, DzA Z X.K H (ys.map PyData.str) (ys.map V.str) := by
            intro ys
            induction ys with
            | nil => exact .nil
            | cons y ys ih => exact .cons (.str y) ih
          exact dz ys
        · subst e
          rw [sortD_perm p] at hv
          exact q _ _ _ (Al.lst (G := gx X ca) hv nl)
    · cases e
  · rename_i es
    split at e
    · rename_i hc
      rw [Bool.and_eq_true] at hc
      cases e
      have ha := rb_val ha
      cases ha with
      | dic e1 nd h1 h2 =>
        cases rx
        exact dicts es _ _ (.inr ⟨_, e1⟩) h1 hc.2 q
    · cases e
  · split at e
    · rename_i ds e1
      exact seqs ds e1 e
    · cases e
end
end Eng
set_option maxHeartbeats 3200000
/-! The engine, part 7: sets of texts: set(xs) of a list or a tuple of texts, its length, sorted. -/
namespace Eng
open PySem PySem.Spec L2
open PyProof.Rows hiding St

/-- a text put to those that have been met -/
def addT (xs : List Str) (k : Str) : List Str := if k ∈ xs then xs else xs ++ [k]
/-- the texts met, each once -/
def metT (ys : List Str) : List Str := ys.foldl addT []
theorem addT_nodup {xs : List Str} {k : Str} (h : xs.Nodup) : (addT xs k).Nodup := by
  unfold addT
  split
  · exact h
  · rename_i hk
    exact List.nodup_append.mpr ⟨h, by simp, fun a ha b hb e => by
      rw [List.mem_singleton] at hb
      subst hb
      subst e
      exact hk ha⟩
theorem mem_addT {xs : List Str} {k j : Str} : j ∈ addT xs k ↔ j ∈ xs ∨ j = k := by
  unfold addT
  split
  · rename_i hk
    exact ⟨.inl, fun h => h.elim id fun e => e ▸ hk⟩
  · rw [List.mem_append, List.mem_singleton]
theorem foldT_nodup : ∀ (ys xs : List Str), xs.Nodup → (ys.foldl addT xs).Nodup
  | [], _, h => h
  | _ :: ys, _, h => foldT_nodup ys _ (addT_nodup h)
theorem mem_foldT : ∀ (ys xs : List Str) {j : Str}, j ∈ ys.foldl addT xs ↔ j ∈ xs ∨ j ∈ ys
  | [], xs, j => by simp
  | y :: ys, xs, j => by
    rw [List.foldl_cons, mem_foldT ys, mem_addT, List.mem_cons, or_assoc]
theorem metT_nodup (ys : List Str) : (metT ys).Nodup := foldT_nodup ys [] List.nodup_nil
theorem mem_metT {ys : List Str} {j : Str} : j ∈ metT ys ↔ j ∈ ys := by
  unfold metT
  rw [mem_foldT]
  simp
theorem addT_len (xs : List Str) (k : Str) : (addT xs k).length ≤ xs.length + 1 := by
  unfold addT
  split
  · omega
  · simp
theorem foldT_len : ∀ (ys xs : List Str), (ys.foldl addT xs).length ≤ xs.length + ys.length
  | [], _ => Nat.le_refl _
  | y :: ys, xs => by
    have h1 := foldT_len ys (addT xs y)
    have h2 := addT_len xs y
    rw [List.foldl_cons, List.length_cons]
    omega
theorem metT_len (ys : List Str) : (metT ys).length ≤ ys.length := by
  have := foldT_len ys []
  simpa [metT] using this

section
variable {P : Program} {w : World} {A : Around} {E : Value → Shared → Prop} {s : Shared} {a : Addr} {xs : List Str}
theorem SetT.at {h h' : Heap} (x : SetT w h a xs) (k : ∀ o, h.get? a = some o → h'.get? a = some o) : SetT w h' a xs := by
  obtain ⟨o, es, ep, t, ⟨h1, h2⟩, r⟩ := x
  exact ⟨o, es, ep, t, ⟨k o h1, h2⟩, r⟩
theorem SetT.elems {l : List (Int × Value)} (g : ∀ e ∈ l, ∃ x tk, e = (hashStr w x, Value.str x tk)) : ElemsOf (PySem.strKind P w) l := fun e he => by
  obtain ⟨x, tk, rfl⟩ := g e he
  exact ⟨⟨x, strKind_is P w x tk, rfl⟩, rfl⟩
theorem txt_is {l : List (Int × Value)} (g : ∀ e ∈ l, ∃ x tk, e = (hashStr w x, Value.str x tk)) {e : Int × Value} (he : e ∈ l) (k : Str) : (PySem.strKind P w).is k e.2 = true ↔ txt e = k := by
  obtain ⟨x, tk, rfl⟩ := g e he
  show Value.isStrOf k (.str x tk) = true ↔ x = k
  constructor
  · intro h
    obtain ⟨t, e⟩ := Value.isStrOf_shape h
    injection e
  · rintro rfl
    exact strKind_is P w x tk
/-- the table is laid down, and laid anew where it is too full -/
theorem lay_down {gw : Bool → Sem Unit} (hg : ∀ (b : Bool) (s₁ : Shared) (Q' : Unit → Shared → Prop), Q' () s₁ → wpAny (model P w) A (gw b) Q' E s₁) {o : Obj} {es es1 : Array (Int × Value)} {ep : Nat} {t t2 : SetTable} {ys : List Str} {wd : Bool} {R : Option Bool → Shared → Prop}
    (ho : s.heap.get? a = some o) (hx : o.ExactSet) (hd : o.data = .set es ep t) (g : ∀ e ∈ es1.toList, ∃ x tk, e = (hashStr w x, Value.str x tk)) (pm : (es1.toList.map txt).Perm ys) (nd : ys.Nodup)
    (hb : es1.size < scanBound) (hf : t2.fits es1.size = true) (hr : Ris t2.place.toList) (hl : w.params.followText "set-order" = true ∨ t2.led = true)
    (hR : ∀ h', Heap.SameBut a s.heap h' → SetT w h' a ys → R (some true) { s with heap := h' }) :
    wpAny (model P w) A (do
      storeSet a es1 t2
      if (!wd && t2.tooFull) = true then do
        gw (relayAll t2 es1 (SetTable.grown es1.size)).2.2
        storeSet a (relayAll t2 es1 (SetTable.grown es1.size)).1 (relayAll t2 es1 (SetTable.grown es1.size)).2.1
        pure (some true)
      else pure (some true)) R E s := by
  have one := store_at (es' := es1) (t' := t2) ho hd
  have sb := Heap.SameBut.update s.heap a (Obj.putSet es1 t2)
  refine wpAny_bind (wpAny_storeSet_of ho hd ?_ (fits_of_scanBound hb))
  by_cases full : (!wd && t2.tooFull) = true
  · rw [if_pos full]
    have q1 := relayAll_perm t2 es1 (SetTable.grown es1.size)
    have q2 := relayAll_fits t2 es1 (SetTable.grown es1.size)
    have q3 := relayAll_ris t2 es1 (SetTable.grown es1.size)
    have q4 := relayAll_led t2 es1 (SetTable.grown es1.size)
    revert q1 q2 q3 q4
    generalize relayAll t2 es1 (SetTable.grown es1.size) = T
    obtain ⟨es2, t3, gave⟩ := T
    intro q1 q2 q3 q4
    simp only at q1 q2 q3 q4 ⊢
    have len : es2.size = es1.size := by simpa using q1.length_eq
    refine wpAny_bind (hg _ _ _ (wpAny_bind (wpAny_storeSet_of one rfl (wpAny_pure (hR _ (sb.trans (Heap.SameBut.update _ a _)) ?_)) (fits_of_scanBound (by rw [len]; exact hb)))))
    exact ⟨_, es2, _, t3, ⟨store_at one rfl, hx, rfl⟩, fun e he => g e (q1.mem_iff.mp he), (q1.map txt).trans pm, nd, by rw [len]; exact hb, q2, q3, hl.imp id fun z => by rw [q4]; exact z⟩
  · rw [if_neg full]
    exact wpAny_pure (hR _ sb ⟨_, es1, _, t2, ⟨one, hx, rfl⟩, g, pm, nd, hb, hf, hr, hl⟩)
/-- one more text -/
theorem add_one {k : Str} {tk : Tok} {Q : Bool → Shared → Prop} (x : SetT w s.heap a xs) (room : xs.length + 1 < scanBound) (hQ : ∀ b h', Heap.SameBut a s.heap h' → SetT w h' a (addT xs k) → Q b { s with heap := h' }) :
    wpAny (model P w) A (setAddHashed a (.str k tk) ((PySem.strKind P w).hash k)) Q E s := by
  have x0 := x
  obtain ⟨o, es, ep, t, ⟨ho, hx, hd⟩, g, pm, nd, hb, hf, hr, hl⟩ := x
  have el : ElemsOf (PySem.strKind P w) es.toList := SetT.elems g
  have sc : (Value.str k tk).scannable = true := rfl
  unfold setAddHashed setAddHashedIn
  refine wpAny_holding (wpAny_bind (wpAny_setState_of ho hd hf ?_))
  simp only [byScan_of sc hb el, ↓reduceIte]
  unfold setAddByScan
  refine wpAny_bind (wpAny_bind (wpAny_rule (wpAny_bind (wpAny_setScan_of (strKind_is P w k tk) ho hd hf el ?_))))
  cases hit : List.findIdx? (fun e => (PySem.strKind P w).is k e.2) es.toList with
  | some j =>
    obtain ⟨hj, pj, _⟩ := List.findIdx?_eq_some_iff_getElem.mp hit
    have hm : k ∈ xs := pm.mem_iff.mp (List.mem_map.mpr ⟨_, List.getElem_mem hj, (txt_is g (List.getElem_mem hj) k).mp pj⟩)
    have same : addT xs k = xs := if_pos hm
    refine wpAny_pure (wpAny_pure (hQ _ s.heap (Heap.SameBut.refl a s.heap) ?_))
    rw [same]
    exact x0
  | none =>
    have hn : k ∉ xs := fun h => by
      obtain ⟨e, he, q⟩ := List.mem_map.mp (pm.mem_iff.mpr h)
      have := List.findIdx?_eq_none_iff.mp hit e he
      rw [(txt_is (P := P) g he k).mpr q] at this
      cases this
    have more : addT xs k = xs ++ [k] := if_neg hn
    have nd' := addT_nodup (k := k) nd
    have gw : ∀ (b : Bool) {s₁ : Shared} {Q' : Unit → Shared → Prop}, Q' () s₁ → wpAny (model P w) A (match b with
        | true => rule "set.scan.the-table-gave-way"
        | false => pure ()) Q' E s₁ := fun b s₁ Q' q => by
      cases b
      · exact wpAny_pure q
      · exact wpAny_rule q
    have p1 := layNew_perm t es ((PySem.strKind P w).hash k) (.str k tk)
    have p2 := layNew_fits t es ((PySem.strKind P w).hash k) (.str k tk)
    have p3 := layNew_ris t es ((PySem.strKind P w).hash k) (.str k tk) hr
    have p4 := layNew_led t es ((PySem.strKind P w).hash k) (.str k tk)
    dsimp only
    revert p1 p2 p3 p4
    generalize layNew t es ((PySem.strKind P w).hash k) (.str k tk) = T
    obtain ⟨es1, t1, wd, gave⟩ := T
    intro p1 p2 p3 p4
    simp only at p1 p2 p3 p4 ⊢
    rw [Array.toList_push] at p1
    have g1 : ∀ e ∈ es1.toList, ∃ x tk, e = (hashStr w x, Value.str x tk) := fun e he => by
      rcases List.mem_append.mp (p1.mem_iff.mp he) with z | z
      · exact g e z
      · rw [List.mem_singleton] at z
        exact ⟨k, tk, z⟩
    have pm1 : (es1.toList.map txt).Perm (addT xs k) := by
      rw [more]
      refine (p1.map txt).trans ?_
      rw [List.map_append]
      exact pm.append (List.Perm.refl _)
    have len : es1.size = es.size + 1 := by
      have := p1.length_eq
      simpa using this
    have len0 : es.size = xs.length := by
      have := pm.length_eq
      simpa using this
    have hb1 : es1.size < scanBound := by rw [len, len0]; exact room
    have hl1 : w.params.followText "set-order" = true ∨ t1.led = true := hl.imp id fun z => by rw [p4]; exact z
    refine wpAny_bind (gw _ ?_)
    split
    · refine wpAny_bind ?_
      rw [hashByValue_scannable 8 sc]
      refine wpAny_pure (lay_down ?_ ho hx hd g1 pm1 nd' hb1 ?_ ?_ ?_ fun h' sb r => by dsimp only; exact wpAny_pure (hQ _ h' sb r))
      · intro b s₁ Q' q
        cases b
        · exact wpAny_pure q
        · exact wpAny_rule q
      · first
          | (split <;> first
              | exact p2
              | exact SetTable.fits_plain_off p2)
          | exact p2
      · first
          | (split <;> exact p3)
          | exact p3
      · first
          | (split <;> exact hl1)
          | exact hl1
    · refine wpAny_bind (wpAny_pure ?_)
      simp only [↓reduceIte]
      refine lay_down ?_ ho hx hd g1 pm1 nd' hb1 p2 p3 hl1 fun h' sb r => by dsimp only; exact wpAny_pure (hQ _ h' sb r)
      intro b s₁ Q' q
      cases b
      · exact wpAny_pure q
      · exact wpAny_rule q
end
end Eng
set_option maxHeartbeats 3200000
/-! The engine, part 8: set(xs), len, sorted. -/
namespace Eng
open PySem PySem.Spec L2
open PyProof.Rows hiding St

theorem text_at : ∀ {us : List Value} {xs : List Str}, StrsAre us xs → ∀ {i : Nat} {v : Value}, us[i]? = some v → ∃ k t, xs[i]? = some k ∧ v = .str k t
  | _, _, .nil, _, _, h => by simp at h
  | _, _, .cons n t r, 0, v, h => by
    simp only [List.getElem?_cons_zero, Option.some.injEq] at h
    exact ⟨n, t, rfl, h.symm⟩
  | _, _, .cons n t r, i + 1, v, h => text_at r (i := i) (by simpa using h)
/-- a new, empty set -/
def noSet (w : World) : Obj := { cls := .type "set", dict := none, data := .set #[] 0 (.fresh 0 0 (!w.params.followText "set-order")) }
theorem SetT.empty {w : World} {h : Heap} {a : Addr} (e : h.get? a = some (noSet w)) : SetT w h a [] :=
  ⟨_, #[], 0, _, ⟨e, ⟨rfl, rfl, rfl⟩, rfl⟩, fun e he => (by cases he), List.Perm.refl _, List.nodup_nil, by decide, rfl, List.Pairwise.nil, by
    show _ ∨ (!w.params.followText "set-order") = true
    cases w.params.followText "set-order"
    · exact .inr rfl
    · exact .inl rfl⟩
section
variable {P : Program} {w : World} {A : Around} {E : Value → Shared → Prop} {s : Shared}
/-- the texts that an iterator gives are put in -/
theorem fill_set {I : Addr} {fp wr : List Addr} {G : Array GenState → Array GenState → Prop} {n : Nat} {Pv : Nat → Value → Prop} {St : Nat → Shared → Prop} {R : Result → Shared → Prop}
    (W : WalksS P w A.in1 I fp wr G n Pv St) (S : Addr) (hS : S ∉ fp) (ys : List Str) (hn : n = ys.length) (hb : ys.length + 1 < scanBound) (hv : ∀ i v, Pv i v → ∃ k t, ys[i]? = some k ∧ v = .str k t) :
    ∀ (left i : Nat) (s : Shared), n - i = left → i ≤ n → St i s → SetT w s.heap S (metT (ys.take i)) →
      (∀ s', Moved (S :: wr) G s s' → SetT w s'.heap S (metT ys) → R (.ok (.ret .none)) s') → codeAny (model P w) A (.builtin "set.update.loop" ⟨[.ref S, .ref I], []⟩) R s := by
  have out : S ∉ wr := fun h => hS (W.sub _ h)
  have more : ∀ b ∈ wr, b ∈ S :: wr := fun b hb => List.mem_cons_of_mem _ hb
  intro left
  induction left with
  | zero =>
    intro i s hl hi st x hR
    obtain rfl : i = n := by omega
    refine codeAny_builtin F.entry_set_update_loop ?_
    rw [Around.under_plainId F.plain_set_update_loop _]
    show wpAny _ A.in1 (pyNext (.ref I) >>= _) _ _ s
    refine wpAny_bind (W.done s _ _ st fun s' m => wpAny_pure (hR s' (m.mono more) ?_))
    rw [List.take_of_length_le (Nat.le_of_eq hn.symm)] at x
    exact x.at fun o e => m.heap S o out e
  | succ left ih =>
    intro i s hl hi st x hR
    have lt : i < n := by omega
    refine codeAny_builtin F.entry_set_update_loop ?_
    rw [Around.under_plainId F.plain_set_update_loop _]
    show wpAny _ A.in1 (pyNext (.ref I) >>= _) _ _ s
    refine wpAny_bind (W.item i s _ _ lt st fun v s1 hP st1 m => ?_)
    obtain ⟨k, t, hk, rfl⟩ := hv i v hP
    have x1 : SetT w s1.heap S (metT (ys.take i)) := x.at fun o e => m.heap S o out e
    show wpAny _ A.in1 (holding [Value.str k t] (setAdd S (.str k t)) >>= _) _ _ s1
    refine wpAny_bind (wpAny_holding ?_)
    unfold setAdd
    refine wpAny_holding (wpAny_bind ((PySem.strKind P w).pyHash (strKind_is P w k t) ?_))
    have room : (metT (ys.take i)).length + 1 < scanBound := by
      have h1 := metT_len (ys.take i)
      have h2 : (ys.take i).length ≤ ys.length := by rw [List.length_take]; omega
      omega
    refine add_one (s := { s1 with toks := s1.toks + 1 }) x1 room fun b h' sb x2 => ?_
    have e : addT (metT (ys.take i)) k = metT (ys.take (i + 1)) := by
      rw [List.take_add_one, hk]
      show _ = metT (ys.take i ++ [k])
      unfold metT
      rw [List.foldl_append]
      rfl
    rw [e] at x2
    refine wpAny_pure ⟨plainId_quiet F.plain_set_update_loop _, ih (i + 1) _ (by omega) lt (W.frame _ s1 _ _ st1 (Nat.le_succ _) fun c hc o q => ?_) x2 fun s2 m2 x3 => hR s2 (Moved.trans W.gtrans ((m.mono more).then_heap (Nat.le_succ _) fun c o hc q => ?_) m2) x3⟩
    · exact (sb.2 c fun z => hS (z ▸ hc)).trans q
    · exact (sb.2 c fun z => hc (z ▸ List.mem_cons_self)).trans q
/-- set.__new__ -/
theorem new_set (x : Value) {Q₁ : Value → Shared → Prop} (h : Q₁ (.ref s.heap.objs.size) { s with heap := s.heap.push (noSet w) }) : codeAny (model P w) A (.call (.builtin "set.__new__") ⟨[.type "set", x], []⟩) (wants Q₁ E) s :=
  code_set_led1 x h

theorem call_set_list {l : Addr} {items : Array Value} (ys : List Str) {Q : Value → Shared → Prop} (hh : A.handled = none) (hl : s.heap.IsList l items) (hi : StrsAre items.toList ys) (hb : ys.length + 1 < scanBound)
    (h : ∀ (h' : Heap) (tk : Nat), SetT w h' s.heap.objs.size (metT ys) → (∀ b o, s.heap.get? b = some o → h'.get? b = some o) → Q (.ref s.heap.objs.size) { s with heap := h', toks := tk }) :
    wpAny (model P w) A (call (.type "set") [.ref l]) Q E s := by
  have size : items.size = ys.length := by rw [← Array.length_toList]; exact StrsAre.len_eq hi
  obtain ⟨c, tl, hmro⟩ := F.called_set.mro
  have hmade := F.called_set.made
  have hsub := F.called_set.sub
  refine wpAny_call (codeAny_of_tree ?_)
  show wpAny _ _ (callAny (.type "set") _) _ _ _
  refine wpAny_pure ⟨Code.quiet_builtin _ (by decide +kernel), codeAny_builtin F.entry_type_call ?_⟩
  rw [Around.under_plain (weight_type_call_type "set" [.ref l] []) rfl]
  have h1 := F.called_set.notType
  have h2 := F.called_set.canCreate
  have hct := F.typeCall_set_1 (.ref l)
  repeat (any_goals (first | assumption | wp_step))
  refine codeAny_mono (new_set (.ref l) (E := E) (Q₁ := fun obj s₁ => obj = .ref s.heap.objs.size ∧ s₁ = { s with heap := s.heap.push (noSet w) }) ⟨rfl, rfl⟩) fun r s₁ hr => ?_
  cases r with
  | error e => exact hr
  | ok fl =>
    cases fl with
    | ret obj =>
      obtain ⟨rfl, rfl⟩ := hr
      have at0 : (s.heap.push (noSet w)).get? s.heap.objs.size = some (noSet w) := Heap.get?_push_size _ rfl
      have ty : Shared.TypeIs { s with heap := s.heap.push (noSet w) } (.ref s.heap.objs.size) "set" := ⟨_, at0, rfl⟩
      have hli := F.called_set.init.lookup
      have hbi := F.called_set.init.bind (.ref s.heap.objs.size)
      repeat (any_goals (first | assumption | wp_step))
      refine codeAny_mono (codeAny_call_builtin (R := wants (fun r s₂ => r = .none ∧ ∃ h' tk, s₂ = { s with heap := h', toks := tk } ∧ SetT w h' s.heap.objs.size (metT ys) ∧ ∀ b o, s.heap.get? b = some o → h'.get? b = some o) E)
        F.called_set.init.plain F.entry_set_init (check_set_init_1 ty ?_)) fun r₂ s₂ hr₂ => ?_
      · obtain ⟨⟨ocls, odict, odata, oslots⟩, hol, hcl, nl, hdl⟩ := hl
        simp only at hcl hdl
        subst hcl
        subst hdl
        have hol' := Heap.get?_push_of_some (h := s.heap) (noSet w) hol
        have hsls := F.sub_list_set
        have hslf := F.sub_list_frozenset
        have hne : (Value.type "list" == Value.type "dict") = false := by decide
        have hl1 : (s.heap.push (noSet w)).IsList l items := ⟨_, hol', rfl, nl, rfl⟩
        unfold Builtin.«set.__init__» noKeywords Builtin.Frozenset.updateFrom
        generalize hPI : pyIter = PI
        wp_walk
        subst hPI
        refine wpAny_pyIter_list hl1 (wpAny_bind (wpAny_runValue ?_))
        have old : l < s.heap.objs.size := Heap.lt_size hol
        have top : (s.heap.push (noSet w)).objs.size = s.heap.objs.size + 1 := Heap.size_push ..
        have hh3 : A.in1.in1.in1.handled = none := by simp [hh]
        have part : l ≠ (s.heap.push (noSet w)).objs.size := by rw [top]; exact Nat.ne_of_lt (Nat.lt_succ_of_lt old)
        have apart : s.heap.objs.size ∉ [(s.heap.push (noSet w)).objs.size, l] := by
          rw [top]
          intro hm
          rcases List.mem_cons.mp hm with q | q
          · exact Nat.ne_of_lt (Nat.lt_succ_self _) q
          · exact Nat.ne_of_gt old (List.mem_singleton.mp q)
        refine fill_set ((Walks.list hh3 _ l part items).toS) s.heap.objs.size apart ys size hb (fun i v hv => text_at hi (by rw [Array.getElem?_toList]; exact hv)) (items.size - 0) 0 _ (by omega) (Nat.zero_le _) ⟨⟨_, Heap.get?_push_size _ rfl, rfl, rfl⟩, hl1.push _⟩ ?zero ?last
        case zero => exact SetT.empty (Heap.get?_push_of_some _ at0)
        case last =>
          intro s' m x
          obtain ⟨h', g', d', tk', os'⟩ := s'
          obtain rfl : g' = s.gens := m.gens
          obtain rfl : d' = s.drawn := m.drawn
          obtain rfl : os' = s.os := m.os
          refine wpAny_pure (wpAny_pure ⟨rfl, h', tk', rfl, x, fun b o e => ?_⟩)
          have lt := Heap.lt_size e
          refine m.heap b o (fun hm => ?_) (Heap.get?_push_of_some _ (Heap.get?_push_of_some _ e))
          rcases List.mem_cons.mp hm with q | q
          · exact Nat.ne_of_lt lt q
          · rw [List.mem_singleton, top] at q
            exact Nat.ne_of_lt (Nat.lt_succ_of_lt lt) q
      · cases r₂ with
        | error e => exact hr₂
        | ok fl₂ =>
          cases fl₂ with
          | ret r =>
            obtain ⟨rfl, h', tk, rfl, x, keep⟩ := hr₂
            repeat (any_goals (first | assumption | wp_step))
            exact h _ _ x keep
          | _ => exact hr₂.elim
    | _ => exact hr.elim

end
end Eng
set_option maxHeartbeats 3200000
/-! The engine, part 8: set(xs), len, sorted. -/
namespace Eng
open PySem PySem.Spec L2
open PyProof.Rows hiding St

section
variable {P : Program} {w : World} {A : Around} {E : Value → Shared → Prop} {s : Shared}
theorem call_set_tuple {l : Addr} {items : Array Value} (ys : List Str) {Q : Value → Shared → Prop} (hh : A.handled = none) (hl : s.heap.IsTuple l items) (hi : StrsAre items.toList ys) (hb : ys.length + 1 < scanBound)
    (h : ∀ (h' : Heap) (tk : Nat), SetT w h' s.heap.objs.size (metT ys) → (∀ b o, s.heap.get? b = some o → h'.get? b = some o) → Q (.ref s.heap.objs.size) { s with heap := h', toks := tk }) :
    wpAny (model P w) A (call (.type "set") [.ref l]) Q E s := by
  have size : items.size = ys.length := by rw [← Array.length_toList]; exact StrsAre.len_eq hi
  obtain ⟨c, tl, hmro⟩ := F.called_set.mro
  have hmade := F.called_set.made
  have hsub := F.called_set.sub
  refine wpAny_call (codeAny_of_tree ?_)
  show wpAny _ _ (callAny (.type "set") _) _ _ _
  refine wpAny_pure ⟨Code.quiet_builtin _ (by decide +kernel), codeAny_builtin F.entry_type_call ?_⟩
  rw [Around.under_plain (weight_type_call_type "set" [.ref l] []) rfl]
  have h1 := F.called_set.notType
  have h2 := F.called_set.canCreate
  have hct := F.typeCall_set_1 (.ref l)
  repeat (any_goals (first | assumption | wp_step))
  refine codeAny_mono (new_set (.ref l) (E := E) (Q₁ := fun obj s₁ => obj = .ref s.heap.objs.size ∧ s₁ = { s with heap := s.heap.push (noSet w) }) ⟨rfl, rfl⟩) fun r s₁ hr => ?_
  cases r with
  | error e => exact hr
  | ok fl =>
    cases fl with
    | ret obj =>
      obtain ⟨rfl, rfl⟩ := hr
      have at0 : (s.heap.push (noSet w)).get? s.heap.objs.size = some (noSet w) := Heap.get?_push_size _ rfl
      have ty : Shared.TypeIs { s with heap := s.heap.push (noSet w) } (.ref s.heap.objs.size) "set" := ⟨_, at0, rfl⟩
      have hli := F.called_set.init.lookup
      have hbi := F.called_set.init.bind (.ref s.heap.objs.size)
      repeat (any_goals (first | assumption | wp_step))
      refine codeAny_mono (codeAny_call_builtin (R := wants (fun r s₂ => r = .none ∧ ∃ h' tk, s₂ = { s with heap := h', toks := tk } ∧ SetT w h' s.heap.objs.size (metT ys) ∧ ∀ b o, s.heap.get? b = some o → h'.get? b = some o) E)
        F.called_set.init.plain F.entry_set_init (check_set_init_1 ty ?_)) fun r₂ s₂ hr₂ => ?_
      · obtain ⟨⟨ocls, odict, odata, oslots⟩, hol, hcl, nl, hdl⟩ := hl
        simp only at hcl hdl
        subst hcl
        subst hdl
        have hol' := Heap.get?_push_of_some (h := s.heap) (noSet w) hol
        have hsls := F.sub_tuple_set
        have hslf := F.sub_tuple_frozenset
        have hne : (Value.type "tuple" == Value.type "dict") = false := by decide
        have hl1 : (s.heap.push (noSet w)).IsTuple l items := ⟨_, hol', rfl, nl, rfl⟩
        unfold Builtin.«set.__init__» noKeywords Builtin.Frozenset.updateFrom
        generalize hPI : pyIter = PI
        wp_walk
        subst hPI
        refine wpAny_pyIter_tuple hl1 (wpAny_bind (wpAny_runValue ?_))
        have old : l < s.heap.objs.size := Heap.lt_size hol
        have top : (s.heap.push (noSet w)).objs.size = s.heap.objs.size + 1 := Heap.size_push ..
        have hh3 : A.in1.in1.in1.handled = none := by simp [hh]
        have part : l ≠ (s.heap.push (noSet w)).objs.size := by rw [top]; exact Nat.ne_of_lt (Nat.lt_succ_of_lt old)
        have apart : s.heap.objs.size ∉ [(s.heap.push (noSet w)).objs.size, l] := by
          rw [top]
          intro hm
          rcases List.mem_cons.mp hm with q | q
          · exact Nat.ne_of_lt (Nat.lt_succ_self _) q
          · exact Nat.ne_of_gt old (List.mem_singleton.mp q)
        refine fill_set ((Walks.tuple hh3 _ l part items).toS) s.heap.objs.size apart ys size hb (fun i v hv => text_at hi (by rw [Array.getElem?_toList]; exact hv)) (items.size - 0) 0 _ (by omega) (Nat.zero_le _) ⟨⟨_, Heap.get?_push_size _ rfl, rfl, rfl⟩, hl1.push _⟩ ?zero ?last
        case zero => exact SetT.empty (Heap.get?_push_of_some _ at0)
        case last =>
          intro s' m x
          obtain ⟨h', g', d', tk', os'⟩ := s'
          obtain rfl : g' = s.gens := m.gens
          obtain rfl : d' = s.drawn := m.drawn
          obtain rfl : os' = s.os := m.os
          refine wpAny_pure (wpAny_pure ⟨rfl, h', tk', rfl, x, fun b o e => ?_⟩)
          have lt := Heap.lt_size e
          refine m.heap b o (fun hm => ?_) (Heap.get?_push_of_some _ (Heap.get?_push_of_some _ e))
          rcases List.mem_cons.mp hm with q | q
          · exact Nat.ne_of_lt lt q
          · rw [List.mem_singleton, top] at q
            exact Nat.ne_of_lt (Nat.lt_succ_of_lt lt) q
      · cases r₂ with
        | error e => exact hr₂
        | ok fl₂ =>
          cases fl₂ with
          | ret r =>
            obtain ⟨rfl, h', tk, rfl, x, keep⟩ := hr₂
            repeat (any_goals (first | assumption | wp_step))
            exact h _ _ x keep
          | _ => exact hr₂.elim
    | _ => exact hr.elim
end
end Eng
set_option maxHeartbeats 1000000
/-! The engine, part 9: slots that change, values handed over, displays, tests. -/
namespace Eng
open PySem PySem.Spec L2
open PyProof.Rows hiding St

/-! ### one slot of the state -/
inductive RoSl (G : Gx) (Z : Zs) (H : Hp) : Sl → Option V → List Addr → Prop
  | no {x : Option V} : RoSl G Z H none x []
  | yes {p : Bool} {o : O} {v : V} {F : List Addr} (h : Ro G Z H o v F) : RoSl G Z H (some (p, o)) (some v) F
section
variable {G : Gx} {Z : Zs} {H : Hp}
theorem RoS.split : ∀ {ρ : En} {σ : L2.St} {L : List Addr} {i : Nat} {sl : Sl}, RoS G Z H ρ σ L → ρ[i]? = some sl → ∃ L1 F L2 x, L = L1 ++ (F ++ L2) ∧ σ[i]? = some x ∧ RoSl G Z H sl x F ∧
    ∀ {Z' : Zs} {H' : Hp} {sl' : Sl} {x' : Option V} {F' : List Addr}, Kp Z G.K H Z' H' → (∀ a ∈ L1 ++ L2, ∀ u, H a = some u → H' a = some u) → RoSl G Z' H' sl' x' F' → RoS G Z' H' (ρ.set i sl') (σ.set i x') (L1 ++ (F' ++ L2))
  | _, _, _, _, _, .emp, e => by simp at e
  | _, _, _, 0, sl, .no (x := x) (L := L) t, e => by
    simp only [List.getElem?_cons_zero, Option.some.injEq] at e
    subst e
    refine ⟨[], [], L, x, rfl, rfl, .no, fun {Z' H' sl' x' F'} k hk r => ?_⟩
    have t' := t.kp k hk
    cases r with
    | no => exact .no t'
    | yes h => show RoS G Z' H' _ _ (F' ++ L); exact .yes h t'
  | _, _, _, 0, sl, .yes (v := v) (F := F) (L := L) h t, e => by
    simp only [List.getElem?_cons_zero, Option.some.injEq] at e
    subst e
    refine ⟨[], F, L, some v, rfl, rfl, .yes h, fun {Z' H' sl' x' F'} k hk r => ?_⟩
    have t' := t.kp k hk
    cases r with
    | no => exact .no t'
    | yes h => show RoS G Z' H' _ _ (F' ++ L); exact .yes h t'
  | _, _, _, i + 1, sl, .no t, e => by
    obtain ⟨L1, F, L2, x, rfl, e2, h, put⟩ := RoS.split (i := i) t (by simpa using e)
    exact ⟨L1, F, L2, x, rfl, by simpa using e2, h, fun k hk r => .no (put k hk r)⟩
  | _, _, _, i + 1, sl, .yes (F := F0) h0 t, e => by
    obtain ⟨L1, F, L2, x, rfl, e2, h, put⟩ := RoS.split (i := i) t (by simpa using e)
    refine ⟨F0 ++ L1, F, L2, x, by rw [List.append_assoc], by simpa using e2, h, fun k hk r => ?_⟩
    rw [List.append_assoc]
    refine .yes (h0.kp k fun a ha => hk a ?_) (put k (fun a ha => hk a ?_) r)
    · rw [List.append_assoc]; exact List.mem_append_left _ ha
    · rw [List.append_assoc]; exact List.mem_append_right _ ha
end

section
variable {θ : Nat → V} {G : Gx} {Z : Zs} {H : Hp} {ρ : En} {σ : L2.St} {L : List Addr} {i : Nat} {sl : Sl}
/-- a slot is stored anew: L1, L2 stand aside -/
theorem Rep.put (r : Rep θ G Z H ρ σ L) (e : ρ[i]? = some sl) : ∃ L1 F L2 x, L = L1 ++ (F ++ L2) ∧ σ[i]? = some x ∧ RoSl G Z H sl x F ∧
    ∀ {Z' : Zs} {H' : Hp} {sl' : Sl} {x' : Option V} {F' : List Addr}, Kp Z G.K H Z' H' → (∀ a ∈ L1 ++ L2, ∀ u, H a = some u → H' a = some u) → RoSl G Z' H' sl' x' F' → F'.Nodup → (∀ a ∈ F', a ∉ L1 ++ L2) → (∀ a ∈ F', ¬ Z' a) → (∀ a ∈ L1 ++ L2, ¬ Z' a) →
      (∀ a, Z' a → H' a ≠ none) → (∀ o, sl' = some (true, o) → x' = some (θ i)) → Rep θ G Z' H' (ρ.set i sl') (σ.set i x') (L1 ++ (F' ++ L2)) := by
  obtain ⟨L1, F, L2, x, rfl, e2, h, put⟩ := r.sl.split e
  refine ⟨L1, F, L2, x, rfl, e2, h, fun {Z' H' sl' x' F'} k hk rs ndF nF zF zL zd hp => ⟨put k hk rs, ?_, fun a ha => ?_, zd, fun j o ej => ?_⟩⟩
  · have n := List.nodup_append.mp r.nd
    have n2 := List.nodup_append.mp n.2.1
    refine List.nodup_append.mpr ⟨n.1, List.nodup_append.mpr ⟨ndF, n2.2.1, fun a ha b hb q => nF a ha (List.mem_append_right _ (q ▸ hb))⟩, fun a ha b hb q => ?_⟩
    rcases List.mem_append.mp hb with hb | hb
    · exact nF b hb (List.mem_append_left _ (q ▸ ha))
    · exact n.2.2 a ha b (List.mem_append_right _ hb) q
  · rcases List.mem_append.mp ha with ha | ha
    · exact zL a (List.mem_append_left _ ha)
    · rcases List.mem_append.mp ha with ha | ha
      · exact zF a ha
      · exact zL a (List.mem_append_right _ ha)
  · by_cases q : i = j
    · subst q
      have li : i < ρ.length := (List.getElem?_eq_some_iff.mp e).1
      have ls : i < σ.length := (List.getElem?_eq_some_iff.mp e2).1
      rw [List.getElem?_set_self li] at ej
      rw [List.getElem?_set_self ls, hp o (Option.some.inj ej)]
    · rw [List.getElem?_set_ne q] at ej ⊢
      exact r.pn j o ej
theorem Kp.refl {K : PySem.W.Frag} : Kp Z K H Z H := ⟨fun _ h => h, fun _ _ _ h => h, fun _ _ h => h, fun _ _ h => h, fun _ _ _ h => h⟩
theorem set_back {α : Type} {l : List α} {i : Nat} {x : α} (e : l[i]? = some x) : l.set i x = l := by
  obtain ⟨h, e⟩ := List.getElem?_eq_some_iff.mp e
  rw [← e]
  exact List.set_getElem_self h
end

/-! ### a name's list is frozen; operands handed over -/
def frz (ρ : En) (i : Nat) : En := match ρ[i]? with
  | some (some (p, .lst ds)) => ρ.set i (some (p, .val (.list ds)))
  | _ => ρ
/-- an operand is handed over -/
def take (ρ : En) : Opd → Option (O × En)
  | .tmp o => some (o, ρ)
  | .nm i => match slotO ρ i with
    | some (.val d) => some (.val d, ρ)
    | some (.scr ns) => some (.scr ns, ρ)
    | some (.lst ds) => some (.val (.list ds), frz ρ i)
    | _ => none
/-- .. as a datum -/
def give (ρ : En) (p : Opd) : Option (D × En) := match take ρ p with
  | some (.val d, ρ') => some (d, ρ')
  | some (.lst ds, ρ') => some (.list ds, ρ')
  | _ => none
def gives (ρ : En) : List Opd → Option (List D × En)
  | [] => some ([], ρ)
  | p :: ps => match give ρ p with
    | some (d, ρ1) => match gives ρ1 ps with
      | some (ds, ρ2) => some (d :: ds, ρ2)
      | none => none
    | none => none

section
variable {θ : Nat → V} {G : Gx} {Z Z1 Z2 : Zs} {H H1 H2 : Hp} {σ : L2.St} {L L1 L2' F F1 F2 : List Addr} {ps qs : List Opd} {vs ws : List V} {ρ ρ1 : En} {v : V} {i : Nat}
theorem Held.carryM (h : Held G Z1 H1 σ L1 ps vs F1) (mu : ∀ a ∈ L1, Mut (H1 a)) (dz : ∀ a ∈ L1, ¬ Z1 a) (s : Step Z1 L1 H1 Z2 L2' H2) (nd : L2'.Nodup) : Held G Z2 H2 σ L2' ps vs F1 := by
  have mF := h.ok.mut
  have nL : ∀ a ∈ F1, a ∉ L1 := fun a ha hl => (List.nodup_append.mp h.nd).2.2 a ha a hl rfl
  refine ⟨h.ok.kp (s.kp mu dz) fun a ha u e => s.keep a u e (nL a ha), List.nodup_append.mpr ⟨(List.nodup_append.mp h.nd).1, nd, fun a ha b hb e => ?_⟩, fun a ha z => ?_⟩
  · subst e
    rcases s.lnew a hb with q | q
    · exact nL a ha q
    · exact mut_some (mF a ha) q
  · rcases s.znew a z with q | q | q
    · exact h.dis a ha q
    · exact nL a ha q
    · exact mut_some (mF a ha) q
/-- more is frozen -/
def ZAdd (Z : Zs) (a : Addr) : Zs := fun b => Z b ∨ b = a
theorem kp_add {K : PySem.W.Frag} {a : Addr} : Kp Z K H (ZAdd Z a) H := ⟨fun _ h => .inl h, fun _ _ _ h => h, fun _ _ h => h, fun _ _ h => h, fun _ _ _ h => h⟩
theorem step_add {a : Addr} (h : a ∈ L) (hs : ∀ b ∈ L1, b ∈ L) : Step Z L H (ZAdd Z a) L1 H := ⟨fun _ _ e _ => e, fun _ z => .inl z, fun b z => by
  rcases z with z | z
  · exact .inl z
  · exact .inr (.inl (z ▸ h)), fun b hb => .inl (hs b hb)⟩
theorem Ro.single {ds : List D} (h : Ro G Z H (.lst ds) v F) : ∃ a xs, v = .ref a ∧ F = [a] ∧ H a = some (.lst xs) ∧ DzA Z G.K H ds xs := by
  cases h with
  | lst e h => exact ⟨_, _, rfl, rfl, e, h⟩
theorem frz_eq {p : Bool} {ds : List D} (e : ρ[i]? = some (some (p, .lst ds))) : frz ρ i = ρ.set i (some (p, .val (.list ds))) := by
  unfold frz
  rw [e]
theorem Rep.frz (r : Rep θ G Z H ρ σ L) {p : Bool} {ds : List D} (e : ρ[i]? = some (some (p, .lst ds))) : ∃ Z' L' v, σ[i]? = some (some v) ∧ Rep θ G Z' H (ρ.set i (some (p, .val (.list ds)))) σ L' ∧ Dz Z' G.K H (.list ds) v ∧ Step Z L H Z' L' H ∧ ∀ b ∈ L', b ∈ L := by
  obtain ⟨L1, F, L2, x, rfl, e2, h, put⟩ := r.put e
  cases h with
  | yes h =>
    obtain ⟨a, xs, rfl, rfl, ea, dz⟩ := h.single
    have n := List.nodup_append.mp r.nd
    have n2 := List.nodup_append.mp n.2.1
    have ha : a ∈ L1 ++ ([a] ++ L2) := List.mem_append_right _ (List.mem_append_left _ List.mem_cons_self)
    have dz' : Dz (ZAdd Z a) G.K H (.list ds) (.ref a) := .lst (.inr rfl) ea (dz.kp kp_add)
    have sub : ∀ b ∈ L1 ++ ([] ++ L2), b ∈ L1 ++ ([a] ++ L2) := fun b hb => by
      rcases List.mem_append.mp hb with hb | hb
      · exact List.mem_append_left _ hb
      · exact List.mem_append_right _ (List.mem_append_right _ hb)
    have nA : ∀ b ∈ L1 ++ L2, b ≠ a := fun b hb q => by
      subst q
      rcases List.mem_append.mp hb with hb | hb
      · exact n.2.2 b hb b (List.mem_append_left _ List.mem_cons_self) rfl
      · exact n2.2.2 b List.mem_cons_self b hb rfl
    have rp := put (Z' := ZAdd Z a) (H' := H) (sl' := some (p, .val (.list ds))) (x' := some (.ref a)) (F' := []) kp_add (fun _ _ _ q => q) (.yes (.val dz')) List.nodup_nil (fun _ q => by cases q) (fun _ q => by cases q)
      (fun b hb z => by
        rcases z with z | z
        · exact r.dis b (sub b (by simpa using hb)) z
        · exact nA b hb z)
      (fun b z => by
        rcases z with z | z
        · exact r.zd b z
        · subst z; rw [ea]; intro q; cases q)
      (fun o q => by
        cases q
        have := r.pn i _ e
        rw [e2] at this
        exact Option.some.inj this)
    rw [set_back e2] at rp
    exact ⟨ZAdd Z a, _, _, e2, rp, dz', step_add ha sub, sub⟩
theorem Held.one (h : Held G Z H σ L [.tmp o] [v] F) : Ro G Z H o v F := by
  have h1 := h.ok
  cases h1 with
  | tmp h5 t5 =>
    cases t5
    rw [List.append_nil]
    exact h5
theorem Held.nm {j : Nat} (h : Held G Z H σ L [.nm j] [v] F) : F = [] ∧ σ[j]? = some (some v) := by
  have h1 := h.ok
  cases h1 with
  | nm h5 t5 =>
    cases t5
    exact ⟨rfl, h5⟩
theorem Held.tmp {o : O} (h : Ro G Z H o v F) (nd : (F ++ L).Nodup) (dis : ∀ a ∈ F, ¬ Z a) : Held G Z H σ L [.tmp o] [v] F := by
  have h3 : OpsOk G Z H σ [.tmp o] [v] (F ++ []) := .tmp h .nil
  rw [List.append_nil] at h3
  exact ⟨h3, nd, dis⟩
/-- an operand is handed over -/
theorem take_ok {p : Opd} {o : O} {ρ' : En} (r : Rep θ G Z H ρ σ L) (h : Held G Z H σ L [p] [v] F) (e : take ρ p = some (o, ρ')) :
    ∃ Z' L' F', Rep θ G Z' H ρ' σ L' ∧ Held G Z' H σ L' [.tmp o] [v] F' ∧ Step Z (F ++ L) H Z' (F' ++ L') H := by
  cases p with
  | tmp o' =>
    simp only [take, Option.some.injEq, Prod.mk.injEq] at e
    obtain ⟨rfl, rfl⟩ := e
    exact ⟨Z, L, F, r, h, Step.refl⟩
  | nm j =>
    obtain ⟨rfl, hv⟩ := h.nm
    simp only [take] at e
    split at e
    · rename_i d e1
      cases e
      obtain ⟨F0, h0⟩ := r.look e1 hv
      cases h0 with
      | val h0 => exact ⟨Z, L, [], r, .tmp (.val h0) r.nd (fun _ q => by cases q), Step.refl⟩
    · rename_i ns e1
      cases e
      obtain ⟨F0, h0⟩ := r.look e1 hv
      cases h0 with
      | scr h0 => exact ⟨Z, L, [], r, .tmp (.scr h0) r.nd (fun _ q => by cases q), Step.refl⟩
    · rename_i ds e1
      cases e
      obtain ⟨p, e1⟩ := slotO_some e1
      obtain ⟨Z', L', v', q1, q2, q3, q4, _⟩ := r.frz e1
      rw [hv] at q1
      cases q1
      rw [frz_eq e1]
      exact ⟨Z', L', [], q2, .tmp (.val q3) q2.nd (fun _ q => by cases q), q4⟩
    · cases e
theorem tmp_frz {ds : List D} (r : Rep θ G Z H ρ σ L) (h : Held G Z H σ L [.tmp (.lst ds)] [v] F) : ∃ Z', Rep θ G Z' H ρ σ L ∧ Dz Z' G.K H (.list ds) v ∧ Step Z (F ++ L) H Z' L H := by
  obtain ⟨a, xs, rfl, rfl, ea, dz⟩ := h.one.single
  have nL : a ∉ L := fun hl => (List.nodup_append.mp h.nd).2.2 a List.mem_cons_self a hl rfl
  refine ⟨ZAdd Z a, ⟨r.sl.kp kp_add fun _ _ _ q => q, r.nd, fun b hb z => ?_, fun b z => ?_, r.pn⟩, .lst (.inr rfl) ea (dz.kp kp_add), step_add (by simp) fun b hb => List.mem_append_right _ hb⟩
  · rcases z with z | z
    · exact r.dis b hb z
    · subst z; exact nL hb
  · rcases z with z | z
    · exact r.zd b z
    · subst z; rw [ea]; intro q; cases q
theorem give_ok {p : Opd} {d : D} {ρ' : En} (r : Rep θ G Z H ρ σ L) (h : Held G Z H σ L [p] [v] F) (e : give ρ p = some (d, ρ')) :
    ∃ Z' L', Rep θ G Z' H ρ' σ L' ∧ Dz Z' G.K H d v ∧ Step Z (F ++ L) H Z' L' H := by
  unfold give at e
  split at e
  · rename_i d' ρ1 e1
    cases e
    obtain ⟨Z', L', F', r1, h1, s1⟩ := take_ok r h e1
    have h2 := h1.one
    cases h2 with
    | val h2 => exact ⟨Z', L', r1, h2, s1⟩
  · rename_i ds ρ1 e1
    cases e
    obtain ⟨Z', L', F', r1, h1, s1⟩ := take_ok r h e1
    obtain ⟨Z2, r2, d2, s2⟩ := tmp_frz r1 h1
    exact ⟨Z2, L', r2, d2, s1.trans s2⟩
  · cases e
theorem OpsOk.cons_split {p : Opd} (h : OpsOk G Z H σ (p :: ps) (v :: vs) F) : ∃ F1 F2, F = F1 ++ F2 ∧ OpsOk G Z H σ [p] [v] F1 ∧ OpsOk G Z H σ ps vs F2 := by
  cases h with
  | tmp h t => exact ⟨_, _, rfl, by have h3 : OpsOk G Z H σ [.tmp _] [v] (_ ++ []) := .tmp h .nil
                                    rw [List.append_nil] at h3
                                    exact h3, t⟩
  | nm h t => exact ⟨[], _, rfl, .nm h .nil, t⟩
theorem Held.mut (h : Held G Z H σ L ps vs F) (r : Rep θ G Z H ρ σ L) : (∀ a ∈ F ++ L, Mut (H a)) ∧ ∀ a ∈ F ++ L, ¬ Z a :=
  ⟨fun a ha => (List.mem_append.mp ha).elim (h.ok.mut a) (r.sl.mut a), fun a ha => (List.mem_append.mp ha).elim (h.dis a) (r.dis a)⟩
theorem gives_ok : ∀ {ps : List Opd} {vs : List V} {ds : List D} {ρ ρ' : En} {Z : Zs} {L F : List Addr}, Rep θ G Z H ρ σ L → Held G Z H σ L ps vs F → gives ρ ps = some (ds, ρ') →
    ∃ Z' L', Rep θ G Z' H ρ' σ L' ∧ DzA Z' G.K H ds vs ∧ Step Z (F ++ L) H Z' L' H
  | [], vs, ds, ρ, ρ', Z, L, F, r, h, e => by
    simp only [gives, Option.some.injEq, Prod.mk.injEq] at e
    obtain ⟨rfl, rfl⟩ := e
    have h1 := h.ok
    cases h1
    exact ⟨Z, L, r, .nil, Step.refl⟩
  | p :: ps, vs, ds, ρ, ρ', Z, L, F, r, h, e => by
    unfold gives at e
    split at e
    · rename_i d ρ1 e1
      split at e
      · rename_i ds' ρ2 e2
        cases e
        have ho := h.ok
        cases vs with
        | nil => cases ho
        | cons v vs =>
          obtain ⟨F1, F2, rfl, o1, o2⟩ := ho.cons_split
          have nd := h.nd
          rw [List.append_assoc] at nd
          have n1 := List.nodup_append.mp nd
          have n2 := List.nodup_append.mp n1.2.1
          have h1 : Held G Z H σ L [p] [v] F1 := ⟨o1, List.nodup_append.mpr ⟨n1.1, r.nd, fun a ha b hb => n1.2.2 a ha b (List.mem_append_right _ hb)⟩, fun a ha => h.dis a (List.mem_append_left _ ha)⟩
          have h2 : Held G Z H σ (F1 ++ L) ps vs F2 := ⟨o2, List.nodup_append.mpr ⟨n2.1, h1.nd, fun a ha b hb q => (List.mem_append.mp hb).elim (fun hb => n1.2.2 b hb a (List.mem_append_left _ ha) q.symm) (fun hb => n2.2.2 a ha b hb q)⟩, fun a ha => h.dis a (List.mem_append_right _ ha)⟩
          obtain ⟨Z1, L1, r1, d1, s1⟩ := give_ok r h1 e1
          obtain ⟨mu, dz⟩ := h1.mut r
          have h3 := h2.carryM mu dz s1 r1.nd
          obtain ⟨Z2, L2, r2, d2, s2⟩ := gives_ok r1 h3 e2
          obtain ⟨mu3, dz3⟩ := h3.mut r1
          have s1' : Step Z (F1 ++ F2 ++ L) H Z1 (F2 ++ L1) H := ⟨fun a o q _ => q, s1.zmono, fun a z => by
            rcases s1.znew a z with q | q | q
            · exact .inl q
            · exact .inr (.inl ((List.mem_append.mp q).elim (fun q => List.mem_append_left _ (List.mem_append_left _ q)) (fun q => List.mem_append_right _ q)))
            · exact .inr (.inr q), fun a ha => by
            rcases List.mem_append.mp ha with ha | ha
            · exact .inl (List.mem_append_left _ (List.mem_append_right _ ha))
            · rcases s1.lnew a ha with q | q
              · exact .inl ((List.mem_append.mp q).elim (fun q => List.mem_append_left _ (List.mem_append_left _ q)) (fun q => List.mem_append_right _ q))
              · exact .inr q⟩
          exact ⟨Z2, L2, r2, .cons (d1.kp (s2.kp mu3 dz3)) d2, s1'.trans s2⟩
      · cases e
    · cases e
end
end Eng
set_option maxHeartbeats 1000000
/-! The engine, part 10: displays, tests, values by truth, slices, methods that tell. -/
namespace Eng
open PySem PySem.Spec L2
open PyProof.Rows hiding St

section
variable {X : Cx} {ca : Nat → Addr} {W : WX} {f g h : ES} {fs : AS} {t u : TS'}
theorem RdA.mono {σ : L2.St} {H : Hp} {Q Q' : List V → Hp → Prop} (h : RdA X ca W fs σ H Q) (i : ∀ v H, Q v H → Q' v H) : RdA X ca W fs σ H Q' := by
  obtain ⟨θ, Z, ρ, L, r, q⟩ := h
  refine ⟨θ, Z, ρ, L, r, ?_⟩
  cases e : fs ρ with
  | stuck => rw [e] at q; exact q
  | exc c ρ1 => rw [e] at q; exact q
  | ok p ρ1 => rw [e] at q; exact fun Z1 H1 L1 F v r1 h1 s1 => i _ _ (q Z1 H1 L1 F v r1 h1 s1)
theorem RdT.mono {σ : L2.St} {H : Hp} {Q Q' : Bool → Hp → Prop} (h : RdT X ca W t σ H Q) (i : ∀ v H, Q v H → Q' v H) : RdT X ca W t σ H Q' := by
  obtain ⟨θ, Z, ρ, L, r, q⟩ := h
  refine ⟨θ, Z, ρ, L, r, ?_⟩
  cases e : t ρ with
  | stuck => rw [e] at q; exact q
  | exc c ρ1 => rw [e] at q; exact q
  | ok p ρ1 => rw [e] at q; exact fun Z1 H1 L1 r1 s1 => i _ _ (q Z1 H1 L1 r1 s1)
variable {θ : Nat → V} {Z Z1 : Zs} {L L1 F : List Addr} {H H1 : Hp} {σ : L2.St} {ρ ρ1 : En}
theorem PoE.step {Q : VK} {o : Out Opd} (q : PoE X ca W θ Z L H σ Q o) (s : Step Z L H Z1 L1 H1) : PoE X ca W θ Z1 L1 H1 σ Q o := by
  cases o with
  | stuck => exact q
  | exc c ρ1 => exact fun Z' H' L' r s' => q Z' H' L' r (s.trans s')
  | ok p ρ1 => exact fun Z' H' L' F v r h s' => q Z' H' L' F v r h (s.trans s')
theorem PoT.step {Q : Bool → Hp → Prop} {o : Out Bool} (q : PoT X ca W θ Z L H σ Q o) (s : Step Z L H Z1 L1 H1) : PoT X ca W θ Z1 L1 H1 σ Q o := by
  cases o with
  | stuck => exact q
  | exc c ρ1 => exact fun Z' H' L' r s' => q Z' H' L' r (s.trans s')
  | ok p ρ1 => exact fun Z' H' L' r s' => q Z' H' L' r (s.trans s')
theorem PoA.step {Q : List V → Hp → Prop} {o : Out (List Opd)} (q : PoA X ca W θ Z L H σ Q o) (s : Step Z L H Z1 L1 H1) : PoA X ca W θ Z1 L1 H1 σ Q o := by
  cases o with
  | stuck => exact q
  | exc c ρ1 => exact fun Z' H' L' r s' => q Z' H' L' r (s.trans s')
  | ok p ρ1 => exact fun Z' H' L' F v r h s' => q Z' H' L' F v r h (s.trans s')
/-- an expression, then what comes behind -/
theorem rd_bindE {α : Type} {k : Opd → En → Out α} {P : Out α → Prop} {Q : VK} (r : Rep θ (gx X ca) Z H ρ σ L) (hs : P .stuck → False) (hx : ∀ c ρ', P (.exc c ρ') → ∀ Z' H' L', Rep θ (gx X ca) Z' H' ρ' σ L' → Step Z L H Z' L' H' → W (.ref (ca c)) none σ H')
    (q : P ((f ρ).bind k)) (go : ∀ p ρ1 Z1 H1 L1 F v, P (k p ρ1) → Rep θ (gx X ca) Z1 H1 ρ1 σ L1 → Held (gx X ca) Z1 H1 σ L1 [p] [v] F → Step Z L H Z1 (F ++ L1) H1 → Q v H1) : RdE X ca W f σ H Q := by
  refine ⟨θ, Z, ρ, L, r, ?_⟩
  cases e : f ρ with
  | stuck => rw [e] at q; exact (hs q).elim
  | exc c ρ1 => rw [e] at q; exact hx c ρ1 q
  | ok p ρ1 => rw [e] at q; exact fun Z1 H1 L1 F v r1 h1 s1 => go p ρ1 Z1 H1 L1 F v q r1 h1 s1
theorem rd_bindT {α : Type} {k : Bool → En → Out α} {P : Out α → Prop} {Q : Bool → Hp → Prop} (r : Rep θ (gx X ca) Z H ρ σ L) (hs : P .stuck → False) (hx : ∀ c ρ', P (.exc c ρ') → ∀ Z' H' L', Rep θ (gx X ca) Z' H' ρ' σ L' → Step Z L H Z' L' H' → W (.ref (ca c)) none σ H')
    (q : P ((t ρ).bind k)) (go : ∀ b ρ1 Z1 H1 L1, P (k b ρ1) → Rep θ (gx X ca) Z1 H1 ρ1 σ L1 → Step Z L H Z1 L1 H1 → Q b H1) : RdT X ca W t σ H Q := by
  refine ⟨θ, Z, ρ, L, r, ?_⟩
  cases e : t ρ with
  | stuck => rw [e] at q; exact (hs q).elim
  | exc c ρ1 => rw [e] at q; exact hx c ρ1 q
  | ok b ρ1 => rw [e] at q; exact fun Z1 H1 L1 r1 s1 => go b ρ1 Z1 H1 L1 q r1 s1

/-! ### displays -/
def fin1 (k : List D → Option O) (as : AS) : ES := fun ρ => (as ρ).bind fun ps ρ1 => match gives ρ1 ps with
  | some (ds, ρ2) => put ρ2 (k ds)
  | none => .stuck
def oLst (as : AS) : ES := fin1 (fun ds => if ds.length ≤ 1000 then some (.lst ds) else none) as
def oTup (as : AS) : ES := fin1 (fun ds => if ds.length ≤ 1000 then some (.val (.tuple ds)) else none) as
def oDic0 : ES := fun ρ => .ok (.tmp (.dic [])) ρ
theorem rd_fin1 {k : List D → Option O} {Q : VK} (h : RdE X ca W (fin1 k fs) σ H Q) : RdA X ca W fs σ H fun vs H1 => ∃ Z ds o, (∀ a, Z a → H1 a ≠ none) ∧ DzA Z X.K H1 ds vs ∧ k ds = some o ∧ ∀ v H' F, Al (gx X ca) Z H1 o v H' F → Q v H' := by
  obtain ⟨θ, Z, ρ, L, r, q⟩ := h
  refine ⟨θ, Z, ρ, L, r, ?_⟩
  unfold fin1 at q
  cases e : fs ρ with
  | stuck => rw [e] at q; exact q
  | exc c ρ1 => rw [e] at q; exact q
  | ok ps ρ1 =>
    rw [e] at q
    simp only [bind_ok] at q
    intro Z1 H1 L1 F vs r1 h1 s1
    cases e2 : gives ρ1 ps with
    | none => rw [e2] at q; exact q.elim
    | some dr =>
      obtain ⟨ds, ρ2⟩ := dr
      rw [e2] at q
      obtain ⟨Z2, L2, r2, d2, s2⟩ := gives_ok r1 h1 e2
      cases e3 : k ds with
      | none => simp only [e3, Eng.put] at q; exact q.elim
      | some o =>
        simp only [e3, Eng.put] at q
        exact ⟨Z2, ds, o, r2.zd, d2, e3, fun v H' F' x => q Z2 H' L2 F' v (x.rep r2) (x.held r2) ((s1.trans s2).trans x.step)⟩
theorem se_lst {es : List Expr} {pos : Pos} (ha : PA X es (RdA X ca W fs)) : PE X (.List es pos) (RdE X ca W (oLst fs)) := PE.imp (pe_lst ha) fun σ H Q h => (rd_fin1 h).mono fun vs H1 ⟨Z, ds, o, zd, dz, e, q⟩ => by
  split at e
  · rename_i hc
    cases e
    exact ⟨by rw [dz.length]; exact Nat.le_trans hc (by decide), fun p np => q _ _ _ (Al.lst (G := gx X ca) dz np)⟩
  · cases e
theorem se_tup {es : List Expr} {k : Nat} {pos : Pos} (ha : PA X es (RdA X ca W fs)) : PE X (.Tuple es k pos) (RdE X ca W (oTup fs)) := PE.imp (pe_tup ha) fun σ H Q h => (rd_fin1 h).mono fun vs H1 ⟨Z, ds, o, zd, dz, e, q⟩ => by
  split at e
  · rename_i hc
    cases e
    exact ⟨by rw [dz.length]; exact Nat.le_trans hc (by decide), fun p np => q _ _ _ (Al.tup (G := gx X ca) dz np)⟩
  · cases e
theorem Al.dic0 {p : Addr} (np : H p = none) : Al (gx X ca) Z H (.dic []) (.ref p) (upd H p (.dK [])) [p] :=
  ⟨same_new np, .dic upd_same .nil .nil List.nodup_nil, by simp, fun a ha => by
    rw [List.mem_singleton] at ha
    rw [ha]; exact np⟩
theorem se_dic0 {pos : Pos} : PE X (.Dict [] [] pos) (RdE X ca W oDic0) := PE.imp pe_dnewK fun σ H Q ⟨θ, Z, ρ, L, r, q⟩ => fun p np => by
  have x := Al.dic0 (X := X) (ca := ca) (Z := Z) np
  exact q Z _ L [p] _ (x.rep r) (x.held r) x.step

/-! ### tests -/
def tV (f : ES) : TS' := fun ρ => (f ρ).bind fun p ρ1 => match look ρ1 p with
  | some (.val (.bool b)) => .ok b ρ1
  | _ => .stuck
def tNotC (t : TS') : TS' := fun ρ => (t ρ).bind fun b ρ1 => .ok (!b) ρ1
def tAndC (t u : TS') : TS' := fun ρ => (t ρ).bind fun b ρ1 => if b = true then u ρ1 else .ok false ρ1
def tOrC (t u : TS') : TS' := fun ρ => (t ρ).bind fun b ρ1 => if b = true then .ok true ρ1 else u ρ1
def oT (t : TS') : ES := fun ρ => (t ρ).bind fun b ρ1 => .ok (.tmp (.val (.bool b))) ρ1
def oNot (f : ES) : ES := oT (tNotC (tV f))
def oAnd (f g : ES) : ES := fun ρ => (tV f ρ).bind fun b ρ1 => if b = true then g ρ1 else .ok (.tmp (.val (.bool false))) ρ1
def oOr (f g : ES) : ES := fun ρ => (tV f ρ).bind fun b ρ1 => if b = true then .ok (.tmp (.val (.bool true))) ρ1 else g ρ1
def oIf (t : TS') (f g : ES) : ES := fun ρ => (t ρ).bind fun b ρ1 => if b = true then f ρ1 else g ρ1
theorem look_ok {p : Opd} {o : O} {v : V} (r : Rep θ (gx X ca) Z H ρ σ L) (h : Held (gx X ca) Z H σ L [p] [v] F) (e : look ρ p = some o) : Rb (gx X ca) Z H o v := by
  have := h.ok.looks r (os := [o]) (by simp [looks, e])
  exact pair1 this
theorem out_tV (o : Out Opd) (P : Out Bool → Prop) (hs : P .stuck → False) (q : P (o.bind fun p ρ1 => match look ρ1 p with | some (.val (.bool b)) => .ok b ρ1 | _ => .stuck)) :
    (∃ p ρ1 b, o = .ok p ρ1 ∧ look ρ1 p = some (.val (.bool b)) ∧ P (.ok b ρ1)) ∨ ∃ c ρ1, o = .exc c ρ1 ∧ P (.exc c ρ1) := by
  cases o with
  | stuck => exact (hs q).elim
  | exc c ρ1 => exact .inr ⟨c, ρ1, rfl, q⟩
  | ok p ρ1 =>
    simp only [bind_ok] at q
    split at q
    · rename_i b e
      exact .inl ⟨p, ρ1, b, rfl, e, q⟩
    · exact (hs q).elim
theorem rd_tV {Q : Bool → Hp → Prop} (h : RdT X ca W (tV f) σ H Q) : RdE X ca W f σ H fun x H1 => ∃ k, x = .bl k ∧ Q k H1 := by
  obtain ⟨θ, Z, ρ, L, r, q⟩ := h
  refine ⟨θ, Z, ρ, L, r, ?_⟩
  rcases out_tV (f ρ) (PoT X ca W θ Z L H σ Q) (fun h => h) q with ⟨p, ρ1, b, e, e2, q⟩ | ⟨c, ρ1, e, q⟩
  · rw [e]
    intro Z1 H1 L1 F v r1 h1 s1
    exact ⟨b, rb_bl (look_ok r1 h1 e2), q Z1 H1 L1 r1 (s1.sub fun a h => List.mem_append_right _ h)⟩
  · rw [e]; exact q
theorem st_val {e : Expr} (h : PE X e (RdE X ca W f)) (he : ∀ whole, isTrue e X.env whole = (do let v ← whole; standAt e.pos; holding [v] (truthy v))) : PT X e (RdT X ca W (tV f)) := PT.imp (pt_val h he) fun σ H Q h => rd_tV h
theorem st_cmp {a b : Expr} {pos : Pos} {sem : O → O → Option O} {op : CmpOp} (ho : BinS X ca (compareOp op) sem) (ha : PE X a (RdE X ca W f)) (hb : PE X b (RdE X ca W g)) (hm : behindInMarks op b = false) : PT X (.Compare a [op] [b] pos) (RdT X ca W (tV (o2 sem f g))) :=
  PT.imp (pt_cmpR ho ha hb hm) fun σ H Q h => rd_o2 (rd_tV h)
theorem st_not {a : Expr} {pos : Pos} (h : PT X a (RdT X ca W t)) : PT X (.UnaryOp .Not a pos) (RdT X ca W (tNotC t)) := PT.imp (pt_not h) fun σ H Q ⟨θ, Z, ρ, L, r, q⟩ =>
  rd_bindT (P := PoT X ca W θ Z L H σ Q) r (fun h => h) (fun c ρ' h => h) q fun b ρ1 Z1 H1 L1 q r1 s1 => q Z1 H1 L1 r1 s1
theorem st_and1 {a : Expr} {pos : Pos} (h : PT X a (RdT X ca W t)) : PW X (.BoolOp .And [a] pos) (RdT X ca W t) := pw_and1 h
theorem st_or1 {a : Expr} {pos : Pos} (h : PT X a (RdT X ca W t)) : PW X (.BoolOp .Or [a] pos) (RdT X ca W t) := pw_or1 h
theorem st_and {a b : Expr} {rest : List Expr} {pos : Pos} (ha : PT X a (RdT X ca W t)) (hb : PW X (.BoolOp .And (b :: rest) pos) (RdT X ca W u)) : PW X (.BoolOp .And (a :: b :: rest) pos) (RdT X ca W (tAndC t u)) :=
  PW.imp (pw_and ha hb) fun σ H Q ⟨θ, Z, ρ, L, r, q⟩ => rd_bindT (P := PoT X ca W θ Z L H σ Q) r (fun h => h) (fun c ρ' h => h) q fun b ρ1 Z1 H1 L1 q r1 s1 => by
    cases b with
    | true => exact ⟨θ, Z1, ρ1, L1, r1, PoT.step (by simpa using q) s1⟩
    | false => exact (show PoT X ca W θ Z L H σ Q (.ok false ρ1) by simpa using q) Z1 H1 L1 r1 s1
theorem st_or {a b : Expr} {rest : List Expr} {pos : Pos} (ha : PT X a (RdT X ca W t)) (hb : PW X (.BoolOp .Or (b :: rest) pos) (RdT X ca W u)) : PW X (.BoolOp .Or (a :: b :: rest) pos) (RdT X ca W (tOrC t u)) :=
  PW.imp (pw_or ha hb) fun σ H Q ⟨θ, Z, ρ, L, r, q⟩ => rd_bindT (P := PoT X ca W θ Z L H σ Q) r (fun h => h) (fun c ρ' h => h) q fun b ρ1 Z1 H1 L1 q r1 s1 => by
    cases b with
    | true => exact (show PoT X ca W θ Z L H σ Q (.ok true ρ1) by simpa using q) Z1 H1 L1 r1 s1
    | false => exact ⟨θ, Z1, ρ1, L1, r1, PoT.step (by simpa using q) s1⟩
theorem fin_bool {Q : VK} {b : Bool} (q : PoE X ca W θ Z L H σ Q (.ok (.tmp (.val (.bool b))) ρ1)) (r1 : Rep θ (gx X ca) Z1 H1 ρ1 σ L1) (s1 : Step Z L H Z1 L1 H1) : Q (.bl b) H1 :=
  q Z1 H1 L1 [] (.bl b) r1 ((Al.val (G := gx X ca) (.bl b)).held r1) s1
theorem se_not {a : Expr} {pos : Pos} (h : PE X a (RdE X ca W f)) : PE X (.UnaryOp .Not a pos) (RdE X ca W (oNot f)) := PE.imp (pe_not h) fun σ H Q ⟨θ, Z, ρ, L, r, q⟩ => by
  refine rd_tV (f := f) ?_
  unfold oNot oT tNotC at q
  cases e : tV f ρ with
  | stuck => rw [e] at q; exact q.elim
  | exc c ρ1 => rw [e] at q; exact ⟨θ, Z, ρ, L, r, by rw [e]; exact q⟩
  | ok b ρ1 =>
    rw [e] at q
    exact ⟨θ, Z, ρ, L, r, by rw [e]; exact fun Z1 H1 L1 r1 s1 => fin_bool q r1 s1⟩
theorem se_one {op : BoolOp} {a : Expr} {pos : Pos} (h : PE X a (RdE X ca W f)) : PE X (.BoolOp op [a] pos) (RdE X ca W f) := pe_one h
theorem se_and {a b : Expr} {rest : List Expr} {pos : Pos} (ha : PE X a (RdE X ca W f)) (hb : PE X (.BoolOp .And (b :: rest) pos) (RdE X ca W g)) : PE X (.BoolOp .And (a :: b :: rest) pos) (RdE X ca W (oAnd f g)) :=
  PE.imp (pe_and ha hb) fun σ H Q ⟨θ, Z, ρ, L, r, q⟩ => by
    refine rd_tV (f := f) (rd_bindT (P := PoE X ca W θ Z L H σ Q) r (fun h => h) (fun c ρ' h => h) q fun b ρ1 Z1 H1 L1 q r1 s1 => ?_)
    cases b with
    | true => exact ⟨θ, Z1, ρ1, L1, r1, PoE.step (by simpa using q) s1⟩
    | false => exact fin_bool (by simpa using q) r1 s1
theorem se_or {a b : Expr} {rest : List Expr} {pos : Pos} (ha : PE X a (RdE X ca W f)) (hb : PE X (.BoolOp .Or (b :: rest) pos) (RdE X ca W g)) : PE X (.BoolOp .Or (a :: b :: rest) pos) (RdE X ca W (oOr f g)) :=
  PE.imp (pe_or ha hb) fun σ H Q ⟨θ, Z, ρ, L, r, q⟩ => by
    refine rd_tV (f := f) (rd_bindT (P := PoE X ca W θ Z L H σ Q) r (fun h => h) (fun c ρ' h => h) q fun b ρ1 Z1 H1 L1 q r1 s1 => ?_)
    cases b with
    | true => exact fin_bool (by simpa using q) r1 s1
    | false => exact ⟨θ, Z1, ρ1, L1, r1, PoE.step (by simpa using q) s1⟩
/-! ### one operand -/
def o1 (sem : O → Option O) (f : ES) : ES := oF (one sem) (oAs [f])
theorem rd_o1 {sem : O → Option O} {Q : VK} (h : RdE X ca W (o1 sem f) σ H Q) : RdE X ca W f σ H fun x H1 => RSem (X := X) (ca := ca) (one sem) [x] H1 Q := rdA_one (rd_oF h)
def negS : O → Option O
  | .val (.int i) => some (.val (.int (-i)))
  | _ => none
theorem rsem1 {sem : O → Option O} {x : V} {Q : VK} (h : RSem (X := X) (ca := ca) (one sem) [x] H Q) : ∃ Z a o, (∀ a, Z a → H a ≠ none) ∧ Rb (gx X ca) Z H a x ∧ sem a = some o ∧ ∀ v H' F, Al (gx X ca) Z H o v H' F → Q v H' := by
  obtain ⟨Z, os, o, zd, hp, e, q⟩ := h
  obtain ⟨a, rfl, e⟩ := one_some e
  exact ⟨Z, a, o, zd, pair1 hp, e, q⟩
/-! ### slices -/
abbrev OS := En → Out (Option Int)
def oNoPart : OS := fun ρ => .ok none ρ
def oPart (f : ES) : OS := fun ρ => (f ρ).bind fun p ρ1 => match look ρ1 p with
  | some (.val (.int i)) => .ok (some i) ρ1
  | _ => .stuck
def oSl (f : ES) (lo hi : OS) : ES := fun ρ => (f ρ).bind fun p ρ1 => (lo ρ1).bind fun l ρ2 => (hi ρ2).bind fun h ρ3 => match look ρ3 p with
  | some o => put ρ3 (slS l h o)
  | none => .stuck
def PoO (θ : Nat → V) (Z : Zs) (L : List Addr) (H : Hp) (σ : L2.St) (Q : Option Int → Hp → Prop) : Out (Option Int) → Prop
  | .ok b ρ' => ∀ Z' H' L', Rep θ (gx X ca) Z' H' ρ' σ L' → Step Z L H Z' L' H' → Q b H'
  | .exc c ρ' => ∀ Z' H' L', Rep θ (gx X ca) Z' H' ρ' σ L' → Step Z L H Z' L' H' → W (.ref (ca c)) none σ H'
  | .stuck => False
def RdO (X : Cx) (ca : Nat → Addr) (W : WX) (f : OS) : TO := fun σ H Q => ∃ θ Z ρ L, Rep θ (gx X ca) Z H ρ σ L ∧ PoO (X := X) (ca := ca) (W := W) θ Z L H σ Q (f ρ)
theorem PO.imp {e : Option Expr} {t t' : TO} (h : PO X e t) (i : ∀ σ H Q, t' σ H Q → t σ H Q) : PO X e t' := ⟨fun pins s σ H Q I q => h.run pins s σ H Q I (i σ H Q q)⟩
theorem so_none : PO X none (RdO X ca W oNoPart) := PO.imp po_none fun σ H Q ⟨θ, Z, ρ, L, r, q⟩ => q Z H L r Step.refl
theorem so_some {e : Expr} (h : PE X e (RdE X ca W f)) : PO X (some e) (RdO X ca W (oPart f)) := PO.imp (po_some h) fun σ H Q ⟨θ, Z, ρ, L, r, q⟩ =>
  rd_bindE (P := PoO (X := X) (ca := ca) (W := W) θ Z L H σ Q) r (fun h => h) (fun c ρ' h => h) q fun p ρ1 Z1 H1 L1 F v q r1 h1 s1 => by
    split at q
    · rename_i i e
      exact ⟨i, rb_int (look_ok r1 h1 e), q Z1 H1 L1 r1 (s1.sub fun a h => List.mem_append_right _ h)⟩
    · exact q.elim
theorem sl_any : SlR X (fun x l h H Q => RSem (X := X) (ca := ca) (one (slS l h)) [x] H Q) := fun pins s σ H x v vl vu lo hi sl Q I rx hs pl pu q =>
  sl_all (lo := lo) (hi := hi) pins s σ H x v vl vu lo hi sl Q I rx hs pl pu ⟨rfl, rfl, q⟩
/-- a part, while F is held aside -/
theorem rd_part {p : Opd} {v : V} {lo : OS} {k : Option Int → En → Out Opd} {Q : VK} {Q1 : Option Int → Hp → Prop} {Z0 : Zs} {L0 : List Addr} {H0 : Hp} (r : Rep θ (gx X ca) Z H ρ σ L) (h : Held (gx X ca) Z H σ L [p] [v] F) (s : Step Z0 L0 H0 Z (F ++ L) H)
    (q : PoE X ca W θ Z0 L0 H0 σ Q ((lo ρ).bind k)) (go : ∀ b ρ1 Z1 H1 L1, PoE X ca W θ Z0 L0 H0 σ Q (k b ρ1) → Rep θ (gx X ca) Z1 H1 ρ1 σ L1 → Held (gx X ca) Z1 H1 σ L1 [p] [v] F → Step Z0 L0 H0 Z1 (F ++ L1) H1 → Q1 b H1) : RdO X ca W lo σ H Q1 := by
  refine ⟨θ, Z, ρ, L, r, ?_⟩
  cases e : lo ρ with
  | stuck => rw [e] at q; exact q
  | exc c ρ1 => rw [e] at q; exact fun Z' H' L' r' s' => q Z' H' L' r' ((s.sub fun a h => List.mem_append_right _ h).trans s')
  | ok b ρ1 =>
    rw [e] at q
    intro Z1 H1 L1 r1 s1
    exact go b ρ1 Z1 H1 L1 q r1 (h.carryM r.sl.mut r.dis s1 r1.nd) (s.then s1)
theorem se_slice {e : Expr} {a b : Option Expr} {lo hi : OS} {p2 pos : Pos} (he : PE X e (RdE X ca W f)) (hl : PO X a (RdO X ca W lo)) (hu : PO X b (RdO X ca W hi)) : PE X (.Subscript e (.Slice a b none p2) pos) (RdE X ca W (oSl f lo hi)) :=
  PE.imp (pe_slice (sl_any (ca := ca)) he hl hu) fun σ H Q ⟨θ, Z, ρ, L, r, q⟩ => rd_bindE (P := PoE X ca W θ Z L H σ Q) r (fun h => h) (fun c ρ' h => h) q fun p ρ1 Z1 H1 L1 F v q r1 h1 s1 =>
    rd_part r1 h1 s1 q fun l ρ2 Z2 H2 L2 q r2 h2 s2 => rd_part r2 h2 s2 q fun h ρ3 Z3 H3 L3 q r3 h3 s3 => by
      split at q
      · rename_i o e
        cases e3 : slS l h o with
        | none => simp only [e3, Eng.put] at q; exact q.elim
        | some o' =>
          simp only [e3, Eng.put] at q
          exact ⟨Z3, [o], o', r3.zd, .cons (look_ok r3 h3 e) .nil, e3, fun v H' F' x => q Z3 H' L3 F' v (x.rep r3) (x.held r3) ((s3.sub fun a h => List.mem_append_right _ h).trans x.step)⟩
      · exact q.elim

/-! ### a text's methods -/
def asStrs : List D → Option (List Str)
  | [] => some []
  | .str b :: ds => (asStrs ds).map (b :: ·)
  | _ :: _ => none
theorem asStrs_eq : ∀ {ds : List D} {bs : List Str}, asStrs ds = some bs → ds = bs.map PyData.str
  | [], bs, e => by simp only [asStrs, Option.some.injEq] at e; subst e; rfl
  | .str b :: ds, bs, e => by
    simp only [asStrs, Option.map_eq_some_iff] at e
    obtain ⟨cs, e1, rfl⟩ := e
    rw [asStrs_eq e1]; rfl
  | .none :: _, _, e => by cases e
  | .bool _ :: _, _, e => by cases e
  | .int _ :: _, _, e => by cases e
  | .list _ :: _, _, e => by cases e
  | .tuple _ :: _, _, e => by cases e
  | .dict _ :: _, _, e => by cases e
@[simp] theorem asStrs_map (bs : List Str) : asStrs (bs.map PyData.str) = some bs := by
  induction bs with
  | nil => rfl
  | cons b bs ih => simp [asStrs, ih]
def joinS (a : Str) (o : O) : Option O := o.seq?.bind fun ds => (asStrs ds).bind fun ys => if (ys.map (·.length)).sum + ys.length * a.length ≤ 16777216 then some (.val (.str (Txt.join a ys))) else none
def splitS (a : Str) : O → Option O
  | .val (.str b) => if (b.length == 0) = false ∧ a.length + 2 ≤ sizeLine then some (.lst ((Txt.split a b).map PyData.str)) else none
  | _ => none
def oM1 (sem : Str → O → Option O) (f g : ES) : ES := fun ρ => (f ρ).bind fun p ρ1 => match look ρ1 p with
  | some (.val (.str a)) => (g ρ1).bind fun p2 ρ2 => match look ρ2 p2 with
    | some o => put ρ2 (sem a o)
    | none => .stuck
  | _ => .stuck
theorem rd_m1 {sem : Str → O → Option O} {r : V → List V → Hp → VK → Prop} {Q : VK} (hr : ∀ (a : Str) (y : V) (H : Hp) (Q : VK) (Z : Zs) (b o : O), Rb (gx X ca) Z H b y → sem a b = some o → (∀ v H' F, Al (gx X ca) Z H o v H' F → Q v H') → r (.str a) [y] H Q)
    (q : RdE X ca W (oM1 sem f g) σ H Q) : tM1 r (RdE X ca W f) (RdE X ca W g) σ H Q := by
  obtain ⟨θ, Z, ρ, L, rr, q⟩ := q
  refine rd_bindE (P := PoE X ca W θ Z L H σ Q) rr (fun h => h) (fun c ρ' h => h) q fun p ρ1 Z1 H1 L1 F v q r1 h1 s1 => ?_
  have s1' := s1.sub fun a h => List.mem_append_right _ h
  split at q
  · rename_i a e
    have ev := rb_str (look_ok r1 h1 e)
    subst ev
    refine ⟨⟨a, rfl⟩, rd_bindE (P := PoE X ca W θ Z1 L1 H1 σ Q) r1 (fun h => h) (fun c ρ' h => h) (q.step s1') fun p2 ρ2 Z2 H2 L2 F2 y q r2 h2 s2 => ?_⟩
    split at q
    · rename_i o e2
      cases e3 : sem a o with
      | none => simp only [e3, Eng.put] at q; exact q.elim
      | some o' =>
        simp only [e3, Eng.put] at q
        exact hr a y H2 Q Z2 o o' (look_ok r2 h2 e2) e3 fun v H' F' x => q Z2 H' L2 F' v (x.rep r2) (x.held r2) ((s2.sub fun a h => List.mem_append_right _ h).trans x.step)
    · exact q.elim
  · exact q.elim
theorem se_join {o e : Expr} {apos pos : Pos} (ho : PE X o (RdE X ca W f)) (he : PE X e (RdE X ca W g)) (hs : starEach [e] X.env = [(false, eval e X.env)]) (hbase : attributeBase o "join" X.env (eval o X.env) = eval o X.env) (hline : (apos.endLine == pos.line) = true) :
    PE X (.Call (.Attribute o "join" apos) [e] [] pos) (RdE X ca W (oM1 joinS f g)) := PE.imp (pe_join ho he hs hbase hline) fun σ H Q h => rd_m1 (fun a y H Q Z b o hb e q => by
  unfold joinS at e
  cases e1 : b.seq? with
  | none => rw [e1] at e; cases e
  | some ds =>
    rw [e1] at e
    simp only [Option.bind_some] at e
    cases e2 : asStrs ds with
    | none => rw [e2] at e; cases e
    | some ys =>
      rw [e2] at e
      simp only [Option.bind_some] at e
      split at e
      · rename_i hc
        cases e
        obtain ⟨p, xs, rfl, hq, dz⟩ := rb_seq hb e1
        rw [asStrs_eq e2] at dz
        rw [dz.strs] at hq
        exact ⟨a, p, ys, rfl, rfl, hq, hc, q _ _ [] (Al.val (.str _))⟩
      · cases e) h
theorem dza_strs {Z : Zs} {K : PySem.W.Frag} {H : Hp} : ∀ ys : List Str, DzA Z K H (ys.map PyData.str) (ys.map V.str)
  | [] => .nil
  | y :: ys => .cons (.str y) (dza_strs ys)
theorem se_split {o e : Expr} {apos pos : Pos} (ho : PE X o (RdE X ca W f)) (he : PE X e (RdE X ca W g)) (hs : starEach [e] X.env = [(false, eval e X.env)]) (hbase : attributeBase o "split" X.env (eval o X.env) = eval o X.env) (hline : (apos.endLine == pos.line) = true) :
    PE X (.Call (.Attribute o "split" apos) [e] [] pos) (RdE X ca W (oM1 splitS f g)) := PE.imp (pe_split ho he hs hbase hline) fun σ H Q h => rd_m1 (fun a y H Q Z b o hb e q => by
  unfold splitS at e
  split at e
  · split at e
    · rename_i hc
      cases e
      cases rb_str hb
      exact ⟨a, _, rfl, rfl, hc.1, hc.2, fun p np => q _ _ _ (Al.lst (G := gx X ca) (dza_strs _) np)⟩
    · cases e
  · cases e) h
end
end Eng
set_option maxHeartbeats 1000000
/-! The engine, part 11: statements: blocks, stores to names, what a slot's object becomes. -/
namespace Eng
open PySem PySem.Spec L2
open PyProof.Rows hiding St

inductive SOut where
  | nx (ρ : En)
  | rt (o : O) (ρ : En)
  | bk (ρ : En)
  | ct (ρ : En)
  | exc (c : Nat) (ρ : En)
  | stuck
abbrev SS := En → SOut
def Out.bindS {α : Type} : Out α → (α → En → SOut) → SOut
  | .ok a ρ, f => f a ρ
  | .exc c ρ, _ => .exc c ρ
  | .stuck, _ => .stuck
@[simp] theorem bindS_ok {α : Type} (a : α) (ρ : En) (f : α → En → SOut) : (Out.ok a ρ).bindS f = f a ρ := rfl
@[simp] theorem bindS_exc {α : Type} (c : Nat) (ρ : En) (f : α → En → SOut) : (Out.exc c ρ : Out α).bindS f = .exc c ρ := rfl
@[simp] theorem bindS_stuck {α : Type} (f : α → En → SOut) : (Out.stuck : Out α).bindS f = .stuck := rfl
def SOut.then : SOut → SS → SOut
  | .nx ρ, f => f ρ
  | o, _ => o
@[simp] theorem then_nx (ρ : En) (f : SS) : (SOut.nx ρ).then f = f ρ := rfl
@[simp] theorem then_rt (o : O) (ρ : En) (f : SS) : (SOut.rt o ρ).then f = .rt o ρ := rfl
@[simp] theorem then_bk (ρ : En) (f : SS) : (SOut.bk ρ).then f = .bk ρ := rfl
@[simp] theorem then_ct (ρ : En) (f : SS) : (SOut.ct ρ).then f = .ct ρ := rfl
@[simp] theorem then_exc (c : Nat) (ρ : En) (f : SS) : (SOut.exc c ρ).then f = .exc c ρ := rfl
@[simp] theorem then_stuck (f : SS) : (SOut.stuck).then f = .stuck := rfl

section
variable (X : Cx) (ca : Nat → Addr) (W : WX)
def PoS (θ : Nat → V) (Z : Zs) (L : List Addr) (H : Hp) (D : Ends) : SOut → Prop
  | .nx ρ' => ∀ Z' H' L' σ', Rep θ (gx X ca) Z' H' ρ' σ' L' → Step Z L H Z' L' H' → D.nx σ' H'
  | .bk ρ' => ∀ Z' H' L' σ', Rep θ (gx X ca) Z' H' ρ' σ' L' → Step Z L H Z' L' H' → D.bk σ' H'
  | .ct ρ' => ∀ Z' H' L' σ', Rep θ (gx X ca) Z' H' ρ' σ' L' → Step Z L H Z' L' H' → D.ct σ' H'
  | .rt o ρ' => ∀ Z' H' L' F v σ', Rep θ (gx X ca) Z' H' ρ' σ' L' → Held (gx X ca) Z' H' σ' L' [.tmp o] [v] F → Step Z L H Z' (F ++ L') H' → D.rt v H'
  | .exc c ρ' => ∀ Z' H' L' σ', Rep θ (gx X ca) Z' H' ρ' σ' L' → Step Z L H Z' L' H' → W (.ref (ca c)) none σ' H'
  | .stuck => False
def RdS (f : SS) : TS := fun D σ H => ∃ θ Z ρ L, Rep θ (gx X ca) Z H ρ σ L ∧ PoS X ca W θ Z L H D (f ρ)
end
theorem PS.imp {X : Cx} {st : Stmt} {t t' : TS} (h : PS X st t) (i : ∀ D σ H, t' D σ H → t D σ H) : PS X st t' := ⟨fun pins s σ H D I q => h.run pins s σ H D I (i D σ H q)⟩
theorem PSs.imp {X : Cx} {st : List Stmt} {t t' : TS} (h : PSs X st t) (i : ∀ D σ H, t' D σ H → t D σ H) : PSs X st t' := ⟨fun pins s σ H D I q => h.run pins s σ H D I (i D σ H q)⟩

section
variable {X : Cx} {ca : Nat → Addr} {W : WX} {f g : ES} {b c : SS} {t : TS'} {G : Gx}
variable {θ : Nat → V} {Z Z1 : Zs} {L L1 F : List Addr} {H H1 : Hp} {σ : L2.St} {ρ ρ1 : En} {D : Ends}
theorem PoS.step {o : SOut} (q : PoS X ca W θ Z L H D o) (s : Step Z L H Z1 L1 H1) : PoS X ca W θ Z1 L1 H1 D o := by
  cases o with
  | stuck => exact q
  | exc c ρ1 => exact fun Z' H' L' σ' r s' => q Z' H' L' σ' r (s.trans s')
  | nx ρ1 => exact fun Z' H' L' σ' r s' => q Z' H' L' σ' r (s.trans s')
  | bk ρ1 => exact fun Z' H' L' σ' r s' => q Z' H' L' σ' r (s.trans s')
  | ct ρ1 => exact fun Z' H' L' σ' r s' => q Z' H' L' σ' r (s.trans s')
  | rt o ρ1 => exact fun Z' H' L' F v σ' r h s' => q Z' H' L' F v σ' r h (s.trans s')
/-- an expression, then a statement's rest -/
theorem rd_ES {k : Opd → En → SOut} {Q : VK} (r : Rep θ (gx X ca) Z H ρ σ L) (q : PoS X ca W θ Z L H D ((f ρ).bindS k))
    (go : ∀ p ρ1 Z1 H1 L1 F v, PoS X ca W θ Z L H D (k p ρ1) → Rep θ (gx X ca) Z1 H1 ρ1 σ L1 → Held (gx X ca) Z1 H1 σ L1 [p] [v] F → Step Z L H Z1 (F ++ L1) H1 → Q v H1) : RdE X ca W f σ H Q := by
  refine ⟨θ, Z, ρ, L, r, ?_⟩
  cases e : f ρ with
  | stuck => rw [e] at q; exact q.elim
  | exc c ρ1 => rw [e] at q; exact fun Z' H' L' r' s' => q Z' H' L' σ r' s'
  | ok p ρ1 => rw [e] at q; exact fun Z1 H1 L1 F v r1 h1 s1 => go p ρ1 Z1 H1 L1 F v q r1 h1 s1
theorem rd_TS {k : Bool → En → SOut} {Q : Bool → Hp → Prop} (r : Rep θ (gx X ca) Z H ρ σ L) (q : PoS X ca W θ Z L H D ((t ρ).bindS k))
    (go : ∀ b ρ1 Z1 H1 L1, PoS X ca W θ Z L H D (k b ρ1) → Rep θ (gx X ca) Z1 H1 ρ1 σ L1 → Step Z L H Z1 L1 H1 → Q b H1) : RdT X ca W t σ H Q := by
  refine ⟨θ, Z, ρ, L, r, ?_⟩
  cases e : t ρ with
  | stuck => rw [e] at q; exact q.elim
  | exc c ρ1 => rw [e] at q; exact fun Z' H' L' r' s' => q Z' H' L' σ r' s'
  | ok p ρ1 => rw [e] at q; exact fun Z1 H1 L1 r1 s1 => go p ρ1 Z1 H1 L1 q r1 s1
/-! ### blocks -/
def sNil : SS := fun ρ => .nx ρ
def sSeq (b c : SS) : SS := fun ρ => (b ρ).then c
def sExpr (f : ES) : SS := fun ρ => (f ρ).bindS fun _ ρ1 => .nx ρ1
def sIf (t : TS') (b c : SS) : SS := fun ρ => (t ρ).bindS fun k ρ1 => if k = true then b ρ1 else c ρ1
def sBreak : SS := fun ρ => .bk ρ
def sCont : SS := fun ρ => .ct ρ
/-- what is handed back: a name's own object goes along -/
def giveUp (ρ : En) : Opd → Option (O × En)
  | .tmp o => some (o, ρ)
  | .nm i => match ρ[i]? with
    | some (some (_, .val d)) => some (.val d, ρ)
    | some (some (_, .scr ns)) => some (.scr ns, ρ)
    | some (some (false, o)) => some (o, ρ.set i none)
    | some (some (true, .lst ds)) => some (.val (.list ds), frz ρ i)
    | _ => none
def sRet (f : ES) : SS := fun ρ => (f ρ).bindS fun p ρ1 => match giveUp ρ1 p with
  | some (o, ρ2) => .rt o ρ2
  | none => .stuck
def sRetN : SS := fun ρ => .rt (.val .none) ρ
variable {st : Stmt} {sts rest : List Stmt} {e : Expr} {pos : Pos}
theorem ss_nil : PSs X [] (RdS X ca W sNil) := PSs.imp pss_nil fun D σ H ⟨θ, Z, ρ, L, r, q⟩ => q Z H L σ r Step.refl
theorem ss_cons (h1 : PS X st (RdS X ca W b)) (h2 : PSs X rest (RdS X ca W c)) : PSs X (st :: rest) (RdS X ca W (sSeq b c)) := PSs.imp (pss_cons h1 h2) fun D σ H ⟨θ, Z, ρ, L, r, q⟩ => by
  refine ⟨θ, Z, ρ, L, r, ?_⟩
  unfold sSeq at q
  cases e : b ρ with
  | nx ρ1 =>
    rw [e] at q
    exact fun Z1 H1 L1 σ1 r1 s1 => ⟨θ, Z1, ρ1, L1, r1, PoS.step q s1⟩
  | rt o ρ1 => rw [e] at q; exact q
  | bk ρ1 => rw [e] at q; exact q
  | ct ρ1 => rw [e] at q; exact q
  | exc c ρ1 => rw [e] at q; exact q
  | stuck => rw [e] at q; exact q
theorem ss_one (h1 : PS X st (RdS X ca W b)) : PSs X [st] (RdS X ca W b) := pss_one h1
theorem ss_expr (he : PE X e (RdE X ca W f)) (hs : swapsWith e none pos.line X.env = pure false) : PS X (.Expr e pos) (RdS X ca W (sExpr f)) := PS.imp (ps_expr he hs) fun D σ H ⟨θ, Z, ρ, L, r, q⟩ =>
  rd_ES r q fun p ρ1 Z1 H1 L1 F v q r1 h1 s1 => q Z1 H1 L1 σ r1 (s1.sub fun a h => List.mem_append_right _ h)
theorem ss_if {cd : Expr} {as bs : List Stmt} (hc : PT X cd (RdT X ca W t)) (ha : PSs X as (RdS X ca W b)) (hb : PSs X bs (RdS X ca W c)) : PS X (.If cd as bs pos) (RdS X ca W (sIf t b c)) := PS.imp (ps_if hc ha hb) fun D σ H ⟨θ, Z, ρ, L, r, q⟩ =>
  rd_TS r q fun k ρ1 Z1 H1 L1 q r1 s1 => by
    cases k with
    | true => exact ⟨θ, Z1, ρ1, L1, r1, PoS.step (by simpa using q) s1⟩
    | false => exact ⟨θ, Z1, ρ1, L1, r1, PoS.step (by simpa using q) s1⟩

/-! ### a slot's object is lifted out, and comes back -/
theorem Rep.lift (r : Rep θ G Z H ρ σ L) {i : Nat} {p : Bool} {o : O} (e : ρ[i]? = some (some (p, o))) :
    ∃ F L' v, σ[i]? = some (some v) ∧ Ro G Z H o v F ∧ Rep θ G Z H (ρ.set i none) σ L' ∧ (F ++ L').Nodup ∧ (∀ a ∈ F, ¬ Z a) ∧ (∀ a, a ∈ F ++ L' ↔ a ∈ L) ∧ (p = true → v = θ i) := by
  obtain ⟨L1, F, L2, x, rfl, e2, h, put⟩ := r.put e
  cases h with
  | yes h =>
    rename_i v0
    have n := List.nodup_append.mp r.nd
    have n2 := List.nodup_append.mp n.2.1
    have rp := put (Z' := Z) (H' := H) (sl' := none) (x' := some v0) (F' := []) Kp.refl (fun _ _ _ q => q) .no List.nodup_nil (fun _ q => by cases q) (fun _ q => by cases q)
      (fun b hb => r.dis b ((List.mem_append.mp hb).elim (fun h => List.mem_append_left _ h) fun h => List.mem_append_right _ (List.mem_append_right _ h))) r.zd (fun o q => by cases q)
    rw [set_back e2] at rp
    refine ⟨F, L1 ++ ([] ++ L2), _, e2, h, rp, ?_, fun a ha => r.dis a (List.mem_append_right _ (List.mem_append_left _ ha)), fun a => ?_, fun hp => ?_⟩
    · have h3 := rp.nd
      refine List.nodup_append.mpr ⟨n2.1, h3, fun a ha b hb q => ?_⟩
      subst q
      rcases List.mem_append.mp hb with hb | hb
      · exact n.2.2 a hb a (List.mem_append_left _ ha) rfl
      · exact n2.2.2 a ha a (by simpa using hb) rfl
    · simp only [List.mem_append, List.nil_append]
      constructor
      · rintro (h | h | h)
        · exact .inr (.inl h)
        · exact .inl h
        · exact .inr (.inr h)
      · rintro (h | h | h)
        · exact .inr (.inl h)
        · exact .inl h
        · exact .inr (.inr h)
    · subst hp
      have := r.pn i o e
      rw [e2] at this
      exact Option.some.inj (Option.some.inj this)
theorem Rep.back (r : Rep θ G Z H ρ σ L) {i : Nat} {p : Bool} {o : O} {v : V} (e : ρ[i]? = some none) (hv : σ[i]? = some (some v)) (h : Ro G Z H o v F) (nd : (F ++ L).Nodup) (dis : ∀ a ∈ F, ¬ Z a) (hp : p = true → v = θ i) :
    ∃ L', Rep θ G Z H (ρ.set i (some (p, o))) σ L' ∧ ∀ a, a ∈ L' ↔ a ∈ F ++ L := by
  obtain ⟨L1, F0, L2, x, rfl, e2, h0, put⟩ := r.put e
  cases h0
  have n := List.nodup_append.mp nd
  have rp := put (Z' := Z) (H' := H) (sl' := some (p, o)) (x' := some v) (F' := F) Kp.refl (fun _ _ _ q => q) (.yes h) n.1 (fun a ha q => n.2.2 a ha a (by simpa using q) rfl) dis
    (fun b hb => r.dis b (by simpa using hb)) r.zd (fun o' q => by
      simp only [Option.some.injEq, Prod.mk.injEq] at q
      rw [hp q.1])
  rw [set_back hv] at rp
  refine ⟨_, rp, fun a => ?_⟩
  simp only [List.mem_append, List.nil_append]
  constructor
  · rintro (h | h | h)
    · exact .inr (.inl h)
    · exact .inl h
    · exact .inr (.inr h)
  · rintro (h | h | h)
    · exact .inr (.inl h)
    · exact .inl h
    · exact .inr (.inr h)
/-- what stands aside stays -/
theorem Ro.aside {Z' : Zs} {H' : Hp} {L' M : List Addr} {o : O} {v : V} (h : Ro G Z H o v F) (mu : ∀ a ∈ L, Mut (H a)) (dz : ∀ a ∈ L, ¬ Z a) (nd : (F ++ L).Nodup) (dis : ∀ a ∈ F, ¬ Z a) (s : Step Z L H Z' M H') (ndM : M.Nodup) :
    Ro G Z' H' o v F ∧ (F ++ M).Nodup ∧ ∀ a ∈ F, ¬ Z' a := by
  have n := List.nodup_append.mp nd
  have mF := h.mut
  refine ⟨h.kp (s.kp mu dz) fun a ha u e => s.keep a u e fun hl => n.2.2 a ha a hl rfl, List.nodup_append.mpr ⟨n.1, ndM, fun a ha b hb e => ?_⟩, fun a ha z => ?_⟩
  · subst e
    rcases s.lnew a hb with q | q
    · exact n.2.2 a ha a q rfl
    · exact mut_some (mF a ha) q
  · rcases s.znew a z with q | q | q
    · exact dis a ha q
    · exact n.2.2 a ha a q rfl
    · exact mut_some (mF a ha) q

/-! ### a store to a name -/
def setE (i : Nat) (o : O) (ρ : En) : Option En := match ρ[i]? with
  | some (some (true, _)) => none
  | some _ => some (ρ.set i (some (false, o)))
  | none => none
theorem setE_ok {i : Nat} {o : O} {ρ' : En} {v : V} (r : Rep θ G Z H ρ σ L) (h : Held G Z H σ L [.tmp o] [v] F) (e : setE i o ρ = some ρ') : ∃ L', Rep θ G Z H ρ' (σ.set i (some v)) L' ∧ ∀ a ∈ L', a ∈ F ++ L := by
  have hr := h.one
  have n := List.nodup_append.mp h.nd
  have gen : ∀ sl, ρ[i]? = some sl → ∃ L', Rep θ G Z H (ρ.set i (some (false, o))) (σ.set i (some v)) L' ∧ ∀ a ∈ L', a ∈ F ++ L := fun sl e1 => by
    obtain ⟨L1, F0, L2, x, rfl, e2, h0, put⟩ := r.put e1
    have sub : ∀ a, a ∈ L1 ++ L2 → a ∈ L1 ++ (F0 ++ L2) := fun a ha => (List.mem_append.mp ha).elim (fun h => List.mem_append_left _ h) fun h => List.mem_append_right _ (List.mem_append_right _ h)
    have rp := put (Z' := Z) (H' := H) (sl' := some (false, o)) (x' := some v) (F' := F) Kp.refl (fun _ _ _ q => q) (.yes hr) n.1 (fun a ha q => n.2.2 a ha a (sub a q) rfl) h.dis
      (fun b hb => r.dis b (sub b hb)) r.zd (fun o' q => by cases q)
    refine ⟨_, rp, fun a ha => ?_⟩
    rcases List.mem_append.mp ha with ha | ha
    · exact List.mem_append_right _ (List.mem_append_left _ ha)
    · rcases List.mem_append.mp ha with ha | ha
      · exact List.mem_append_left _ ha
      · exact List.mem_append_right _ (List.mem_append_right _ (List.mem_append_right _ ha))
  unfold setE at e
  split at e
  · cases e
  · rename_i sl _ e1
    cases e
    exact gen _ e1
  · cases e
/-- what a name gets: a copy of a frozen thing, or the thing itself -/
def takeM (ρ : En) (p : Opd) : Option (O × En) := match take ρ p with
  | some x => some x
  | none => giveUp ρ p
theorem giveUp_ok {p : Opd} {o : O} {ρ' : En} {v : V} (r : Rep θ G Z H ρ σ L) (h : Held G Z H σ L [p] [v] F) (e : giveUp ρ p = some (o, ρ')) :
    ∃ Z' L' F', Rep θ G Z' H ρ' σ L' ∧ Held G Z' H σ L' [.tmp o] [v] F' ∧ Step Z (F ++ L) H Z' (F' ++ L') H := by
  cases p with
  | tmp o' =>
    simp only [giveUp, Option.some.injEq, Prod.mk.injEq] at e
    obtain ⟨rfl, rfl⟩ := e
    exact ⟨Z, L, F, r, h, Step.refl⟩
  | nm j =>
    obtain ⟨rfl, hv⟩ := h.nm
    simp only [giveUp] at e
    split at e
    · rename_i b d e1
      cases e
      obtain ⟨v', F0, h1, h0, _⟩ := r.sl.get e1
      rw [hv] at h1; cases h1
      cases h0 with
      | val h0 => exact ⟨Z, L, [], r, .tmp (.val h0) r.nd (fun _ q => by cases q), Step.refl⟩
    · rename_i b d e1
      cases e
      obtain ⟨v', F0, h1, h0, _⟩ := r.sl.get e1
      rw [hv] at h1; cases h1
      cases h0 with
      | scr h0 => exact ⟨Z, L, [], r, .tmp (.scr h0) r.nd (fun _ q => by cases q), Step.refl⟩
    · rename_i o' _ _ e1
      cases e
      obtain ⟨F0, L', v', h1, h2, h3, h4, h5, h6, _⟩ := r.lift e1
      rw [hv] at h1; cases h1
      exact ⟨Z, L', F0, h3, .tmp h2 h4 h5, ⟨fun _ _ e _ => e, fun _ h => h, fun _ h => .inl h, fun a ha => .inl (by simpa using (h6 a).mp ha)⟩⟩
    · rename_i ds e1
      cases e
      obtain ⟨Z', L', v', q1, q2, q3, q4, _⟩ := r.frz e1
      rw [hv] at q1
      cases q1
      rw [frz_eq e1]
      exact ⟨Z', L', [], q2, .tmp (.val q3) q2.nd (fun _ q => by cases q), q4⟩
    · cases e
theorem takeM_ok {p : Opd} {o : O} {ρ' : En} {v : V} (r : Rep θ G Z H ρ σ L) (h : Held G Z H σ L [p] [v] F) (e : takeM ρ p = some (o, ρ')) :
    ∃ Z' L' F', Rep θ G Z' H ρ' σ L' ∧ Held G Z' H σ L' [.tmp o] [v] F' ∧ Step Z (F ++ L) H Z' (F' ++ L') H := by
  unfold takeM at e
  split at e
  · rename_i x e1
    cases e
    exact take_ok r h e1
  · exact giveUp_ok r h e
def stoE (i : Nat) (ρ : En) (p : Opd) : SOut := match takeM ρ p with
  | some (o, ρ1) => match setE i o ρ1 with
    | some ρ2 => .nx ρ2
    | none => .stuck
  | none => .stuck
def sAsg (i : Nat) (f : ES) : SS := fun ρ => (f ρ).bindS fun p ρ1 => stoE i ρ1 p
theorem stoE_ok {i : Nat} {p : Opd} {v : V} {Z0 : Zs} {L0 : List Addr} {H0 : Hp} (r : Rep θ (gx X ca) Z H ρ σ L) (h : Held (gx X ca) Z H σ L [p] [v] F) (s : Step Z0 L0 H0 Z (F ++ L) H) (q : PoS X ca W θ Z0 L0 H0 D (stoE i ρ p)) : D.nx (σ.set i (some v)) H := by
  unfold stoE at q
  split at q
  · rename_i o ρ1 e1
    split at q
    · rename_i ρ2 e2
      obtain ⟨Z', L', F', r1, h1, s1⟩ := takeM_ok r h e1
      obtain ⟨L2, r2, sub⟩ := setE_ok r1 h1 e2
      exact q Z' H L2 _ r2 ((s.trans s1).sub sub)
    · exact q.elim
  · exact q.elim
theorem ss_asg {i : Nat} {x : Str} {pos' : Pos} (hN : X.N.Nodup) (hi : X.N[i]? = some x) (hx : Loc X.env.scope x) (he : PE X e (RdE X ca W f)) (hs : swapsWith e (some (.Name x pos')) pos.line X.env = pure false) (hf : X.fn x = true ∨ X.env.scope.names.lookup x = some .local) :
    PS X (.Assign [.Name x pos'] e pos) (RdS X ca W (sAsg i f)) := PS.imp (ps_set hN hi hx he hs hf) fun D σ H ⟨θ, Z, ρ, L, r, q⟩ =>
  rd_ES r q fun p ρ1 Z1 H1 L1 F v q r1 h1 s1 => stoE_ok r1 h1 s1 q
theorem ss_ret (he : PE X e (RdE X ca W f)) : PS X (.Return (some e) pos) (RdS X ca W (sRet f)) := PS.imp (ps_ret he) fun D σ H ⟨θ, Z, ρ, L, r, q⟩ =>
  rd_ES r q fun p ρ1 Z1 H1 L1 F v q r1 h1 s1 => by
    split at q
    · rename_i o ρ2 e1
      obtain ⟨Z', L', F', r2, h2, s2⟩ := giveUp_ok r1 h1 e1
      exact q Z' H1 L' F' v σ r2 h2 (s1.trans s2)
    · exact q.elim
/-! ### a slot's object is written -/
def own1 : O → Bool
  | .lst _ => true
  | .dic _ => true
  | .set _ => true
  | _ => false
theorem kp_upd {K : PySem.W.Frag} {l : Addr} {u : HO} (mu : Mut (H l)) (nz : ¬ Z l) : Kp Z K H Z (upd H l u) where
  z := fun _ h => h
  r := fun a xs z e => by
    rw [upd_ne (show a ≠ l from fun q => nz (q ▸ z))]
    exact e
  t := fun a xs r => by
    have ne : ∀ v, H a = some v → ¬ Mut (some v) → a ≠ l := fun v e nm q => by subst q; rw [e] at mu; exact nm mu
    rcases r with (r | ⟨o, r⟩) | r
    · exact .inl (.inl (by rw [upd_ne (ne _ r fun h => h)]; exact r))
    · exact .inl (.inr ⟨o, by rw [upd_ne (ne _ r fun h => h)]; exact r⟩)
    · exact .inr r
  f := fun a ns r => by
    have ne : ∀ v, H a = some v → ¬ Mut (some v) → a ≠ l := fun v e nm q => by subst q; rw [e] at mu; exact nm mu
    rcases r with ⟨ob, r⟩ | r
    · exact .inl ⟨ob, by rw [upd_ne (ne _ r fun h => h)]; exact r⟩
    · exact .inr r
  g := fun a ob v r => by
    have ne : ∀ v, H a = some v → ¬ Mut (some v) → a ≠ l := fun v e nm q => by subst q; rw [e] at mu; exact nm mu
    rw [upd_ne (ne _ r fun h => h)]
    exact r
theorem Ro.own1 {o : O} {v : V} (h : Ro G Z H o v F) (e : Eng.own1 o = true) : ∃ l, v = .ref l ∧ F = [l] := by
  cases h with
  | lst => exact ⟨_, rfl, rfl⟩
  | dic => exact ⟨_, rfl, rfl⟩
  | dct => exact ⟨_, rfl, rfl⟩
  | set => exact ⟨_, rfl, rfl⟩
  | _ => cases e
theorem Rep.wr (r : Rep θ G Z H ρ σ L) {i : Nat} {p : Bool} {o : O} (e : ρ[i]? = some (some (p, o))) (ho : own1 o = true) : ∃ l, σ[i]? = some (some (.ref l)) ∧ Ro G Z H o (.ref l) [l] ∧ l ∈ L ∧ (¬ Z l) ∧
    ∀ o' u', Ro G Z (upd H l u') o' (.ref l) [l] → Rep θ G Z (upd H l u') (ρ.set i (some (p, o'))) σ L ∧ Step Z L H Z L (upd H l u') := by
  obtain ⟨L1, F, L2, x, rfl, e2, h, put⟩ := r.put e
  cases h with
  | yes h =>
    obtain ⟨l, rfl, rfl⟩ := h.own1 ho
    have hl : l ∈ L1 ++ ([l] ++ L2) := List.mem_append_right _ (List.mem_append_left _ List.mem_cons_self)
    have nz : ¬ Z l := r.dis l hl
    have mu : Mut (H l) := h.mut l List.mem_cons_self
    refine ⟨l, e2, h, hl, nz, fun o' u' h' => ?_⟩
    have n := List.nodup_append.mp r.nd
    have n2 := List.nodup_append.mp n.2.1
    have nl : ∀ a, a ∈ L1 ++ L2 → a ≠ l := fun a ha q => by
      subst q
      rcases List.mem_append.mp ha with ha | ha
      · exact n.2.2 a ha a (List.mem_append_left _ List.mem_cons_self) rfl
      · exact n2.2.2 a List.mem_cons_self a ha rfl
    have rp := put (Z' := Z) (H' := upd H l u') (sl' := some (p, o')) (x' := some (.ref l)) (F' := [l]) (kp_upd mu nz) (fun a ha u q => by rw [upd_ne (nl a ha)]; exact q) (.yes h') (by simp)
      (fun a ha q => by rw [List.mem_singleton] at ha; subst ha; exact nl a q rfl) (fun a ha => by rw [List.mem_singleton] at ha; subst ha; exact nz)
      (fun b hb => r.dis b ((List.mem_append.mp hb).elim (fun h => List.mem_append_left _ h) fun h => List.mem_append_right _ (List.mem_append_right _ h)))
      (fun a z q => by
        by_cases hal : a = l
        · subst hal; exact nz z
        · rw [upd_ne hal] at q; exact r.zd a z q)
      (fun o'' q => by
        simp only [Option.some.injEq, Prod.mk.injEq] at q
        have hp := r.pn i o (by rw [e, q.1])
        rw [e2] at hp
        exact Option.some.inj hp)
    rw [set_back e2] at rp
    exact ⟨rp, ⟨fun a u e hn => by rw [upd_ne (show a ≠ l from fun q => hn (q ▸ hl))]; exact e, fun _ z => z, fun _ z => .inl z, fun _ h => .inl h⟩⟩
theorem Ro.lst_of {ds : List Eng.D} {l : Addr} (h : Ro G Z H (.lst ds) (.ref l) F) : ∃ xs, H l = some (.lst xs) ∧ DzA Z G.K H ds xs := by
  cases h with
  | lst e h => exact ⟨_, e, h⟩
end
end Eng
set_option maxHeartbeats 1000000
/-! The engine, part 12: objects that change: methods of lists, stores to items, tuples unpacked. -/
namespace Eng
open PySem PySem.Spec L2
open PyProof.Rows hiding St

/-- the object at slot i is changed -/
def mutE (sem : O → Option (O × D)) (i : Nat) (ρ : En) : Out Opd := match ρ[i]? with
  | some (some (p, o)) => match sem o with
    | some (o', res) => .ok (.tmp (.val res)) (ρ.set i (some (p, o')))
    | none => .stuck
  | _ => .stuck
def isLstO : O → Bool
  | .lst _ => true
  | _ => false
def oMutA (sem : O → List D → Option (O × D)) (i : Nat) (as : AS) : ES := fun ρ => match slotO ρ i with
  | some o0 => if isLstO o0 = true then (as ρ).bind fun ps ρ1 => match gives ρ1 ps with
      | some (ds, ρ2) => mutE (fun o => sem o ds) i ρ2
      | none => .stuck
    else .stuck
  | none => .stuck
def oMut0 (sem : O → Option (O × D)) (i : Nat) : ES := fun ρ => match slotO ρ i with
  | some o0 => if isLstO o0 = true then mutE sem i ρ else .stuck
  | none => .stuck
section
variable {X : Cx} {ca : Nat → Addr} {W : WX} {f g : ES} {as : AS} {G : Gx}
variable {θ : Nat → V} {Z Z1 : Zs} {L L1 F : List Addr} {H H1 : Hp} {σ : L2.St} {ρ ρ1 : En} {Dn : Ends}
/-- what a method's reading asks of its rule -/
def MutR (X : Cx) (ca : Nat → Addr) (sem : O → List D → Option (O × D)) (r : V → List V → Hp → VK → Prop) : Prop :=
  ∀ (l : Addr) (o o' : O) (res : D) (ds : List D) (ys : List V) (H : Hp) (Q : VK) (Z : Zs), Ro (gx X ca) Z H o (.ref l) [l] → ¬ Z l → DzA Z X.K H ds ys → sem o ds = some (o', res) →
    (∀ w u', Ro (gx X ca) Z (upd H l u') o' (.ref l) [l] → Dz Z X.K (upd H l u') res w → Q w (upd H l u')) → r (.ref l) ys H Q
theorem isLst_ty {o : O} {v : V} (h : Rb (gx X ca) Z H o v) (e : isLstO o = true) : tyV X.K "list" v H := by
  obtain ⟨F, h⟩ := h
  cases h with
  | lst e1 h1 => exact .inl ⟨rfl, _, .inl (.inl e1)⟩
  | _ => cases e
theorem rd_mut {sem : O → List D → Option (O × D)} {i : Nat} {r : V → List V → Hp → VK → Prop} (hs : ∀ o ds x, sem o ds = some x → own1 o = true) (hr : MutR X ca sem r) {Q : VK} (q : RdE X ca W (oMutA sem i as) σ H Q) :
    tBM X.K "list" r (RdE X ca W (oNm i)) (RdA X ca W as) σ H Q := by
  obtain ⟨θ, Z, ρ, L, rr, q⟩ := q
  unfold oMutA at q
  cases e0 : slotO ρ i with
  | none => rw [e0] at q; exact q.elim
  | some o0 =>
    rw [e0] at q
    by_cases hl : isLstO o0 = true
    · simp only [hl, if_true] at q
      refine ⟨θ, Z, ρ, L, rr, ?_⟩
      unfold oNm
      rw [e0]
      intro Z1 H1 L1 F v r1 h1 s1
      obtain ⟨rfl, hv⟩ := h1.nm
      refine ⟨isLst_ty (r1.look e0 hv) hl, θ, Z1, ρ, L1, r1, ?_⟩
      cases ea : as ρ with
      | stuck => rw [ea] at q; exact q
      | exc c ρ1 => rw [ea] at q; exact fun Z' H' L' r' s' => q Z' H' L' r' (s1.trans s')
      | ok ps ρ1 =>
        rw [ea] at q
        simp only [bind_ok] at q
        intro Z2 H2 L2 F2 vs r2 h2 s2
        cases eg : gives ρ1 ps with
        | none => rw [eg] at q; exact q.elim
        | some x =>
          obtain ⟨ds, ρ2⟩ := x
          rw [eg] at q
          simp only at q
          obtain ⟨Z3, L3, r3, d3, s3⟩ := gives_ok r2 h2 eg
          unfold mutE at q
          split at q
          · rename_i p o e3
            split at q
            · rename_i o' res e4
              obtain ⟨l, w1, w2, w3, w4, w5⟩ := r3.wr e3 (hs _ _ _ e4)
              rw [hv] at w1
              cases w1
              refine hr l o o' res ds vs H2 Q Z3 w2 w4 d3 e4 fun w u' ro' dz' => ?_
              obtain ⟨r4, s4⟩ := w5 o' u' ro'
              exact q Z3 _ L3 [] w r4 (.tmp (.val dz') r4.nd (fun _ q => by cases q)) (((s1.trans s2).trans s3).trans s4)
            · exact q.elim
          · exact q.elim
    · simp only [hl, if_false, Bool.false_eq_true] at q
      exact q.elim
theorem rd_mut0 {sem : O → Option (O × D)} {i : Nat} {r : V → List V → Hp → VK → Prop} (hs : ∀ o x, sem o = some x → own1 o = true) (hr : MutR X ca (fun o ds => if ds = [] then sem o else none) r) {Q : VK} (q : RdE X ca W (oMut0 sem i) σ H Q) :
    tBM0 X.K "list" r (RdE X ca W (oNm i)) σ H Q := by
  obtain ⟨θ, Z, ρ, L, rr, q⟩ := q
  unfold oMut0 at q
  cases e0 : slotO ρ i with
  | none => rw [e0] at q; exact q.elim
  | some o0 =>
    rw [e0] at q
    by_cases hl : isLstO o0 = true
    · simp only [hl, if_true] at q
      refine ⟨θ, Z, ρ, L, rr, ?_⟩
      unfold oNm
      rw [e0]
      intro Z1 H1 L1 F v r1 h1 s1
      obtain ⟨rfl, hv⟩ := h1.nm
      refine ⟨isLst_ty (r1.look e0 hv) hl, ?_⟩
      unfold mutE at q
      split at q
      · rename_i p o e3
        split at q
        · rename_i o' res e4
          obtain ⟨l, w1, w2, w3, w4, w5⟩ := r1.wr e3 (hs _ _ e4)
          rw [hv] at w1
          cases w1
          refine hr l o o' res [] [] H1 Q Z1 w2 w4 .nil (by simpa using e4) fun w u' ro' dz' => ?_
          obtain ⟨r4, s4⟩ := w5 o' u' ro'
          exact q Z1 _ L1 [] w r4 (.tmp (.val dz') r4.nd (fun _ q => by cases q)) (s1.trans s4)
        · exact q.elim
      · exact q.elim
    · simp only [hl, if_false, Bool.false_eq_true] at q
      exact q.elim

/-! ### the methods of lists -/
def appS : O → List D → Option (O × D)
  | .lst ds, [d] => if ds.length < sizeLine then some (.lst (ds ++ [d]), .none) else none
  | _, _ => none
def popS : O → Option (O × D)
  | .lst ds => match ds.getLast? with
    | some d => some (.lst ds.dropLast, d)
    | none => none
  | _ => none
theorem kp_l {l : Addr} {o : O} {u : HO} (h : Ro G Z H o (.ref l) [l]) (nz : ¬ Z l) : Kp Z G.K H Z (upd H l u) := kp_upd (h.mut l List.mem_cons_self) nz
theorem Ro.lst_new {ds : List D} {xs : List V} {l : Addr} {o : O} (h : Ro G Z H o (.ref l) [l]) (nz : ¬ Z l) (d : DzA Z G.K H ds xs) : Ro G Z (upd H l (.lst xs)) (.lst ds) (.ref l) [l] := .lst upd_same (d.kp (kp_l h nz))
theorem mut_app : MutR X ca appS rAppend := by
  intro l o o' res ds ys H Q Z hr nz hd e q
  unfold appS at e
  split at e
  · split at e
    · rename_i xs d hz
      cases e
      obtain ⟨us, hl, dz⟩ := hr.lst_of
      cases hd with
      | cons h1 t =>
        cases t
        exact ⟨l, us, _, rfl, rfl, hl, by rw [dz.length]; exact hz, q _ _ (Ro.lst_new hr nz (dz.append (.cons h1 .nil))) .non⟩
    · cases e
  · cases e
theorem mut_pop : MutR X ca (fun o ds => if ds = [] then popS o else none) rPop := by
  intro l o o' res ds ys H Q Z hr nz hd e q
  dsimp only at e
  split at e
  · rename_i h0
    subst h0
    cases hd
    unfold popS at e
    split at e
    · rename_i xs
      split at e
      · rename_i d hx
        cases e
        obtain ⟨us, hl, dz⟩ := hr.lst_of
        rw [List.getLast?_eq_getElem?] at hx
        obtain ⟨w, hw, dw⟩ := dz.get hx
        rw [← dz.length] at hw
        exact ⟨l, us, w, rfl, rfl, hl, hw, q _ _ (Ro.lst_new hr nz dz.dropLast) (dw.kp (kp_l hr nz))⟩
      · cases e
    · cases e
  · cases e
end
end Eng
set_option maxHeartbeats 1000000
/-! The engine, part 13: extend by a list or a tuple; stores to items; tuples unpacked. -/
namespace Eng
open PySem PySem.Spec L2
open PyProof.Rows hiding St

section
variable {X : Cx}
/-! ### stores to items -/
def setS : O → D → D → Option O
  | .lst ds, .int i, d => match ixN ds.length i with
    | some j => some (.lst (ds.set j d))
    | none => none
  | .dic es, k, d => if dOk es k = true ∧ es.length < sizeLine then some (.dic (dput es k d)) else none
  | _, _, _ => none
variable {ca : Nat → Addr} {W : WX} {f g : ES} {as : AS} {G : Gx}
variable {θ : Nat → V} {Z Z1 : Zs} {L L1 F : List Addr} {H H1 : Hp} {σ : L2.St} {ρ ρ1 : En} {Dn : Ends}
theorem setS_own {o o' : O} {k d : D} (e : setS o k d = some o') : own1 o = true := by
  unfold setS at e
  split at e
  · rfl
  · rfl
  · cases e
def SetV (X : Cx) (ca : Nat → Addr) : TSet := fun o i v H Q => ∃ Z l ob k d o', o = .ref l ∧ Ro (gx X ca) Z H ob (.ref l) [l] ∧ ¬ Z l ∧ Dz Z X.K H k i ∧ Dz Z X.K H d v ∧ setS ob k d = some o' ∧ ∀ u', Ro (gx X ca) Z (upd H l u') o' (.ref l) [l] → Q (upd H l u')
theorem atKey_any {xs : List (NestedKey × Addr × Value)} {κ : NestedKey} : (atKey xs κ).isSome = xs.any fun x => decide (x.1 = κ) := by
  induction xs with
  | nil => rfl
  | cons x xs ih =>
    by_cases q : x.1 = κ
    · simp [atKey, q]
    · rw [List.any_cons, decide_eq_false q, Bool.false_or, ← ih]
      simp [atKey, q]
theorem nent_put {K : PySem.W.Frag} {κ : NestedKey} {b : Addr} {k d : D} {v : V} {r : Value} (hκ : nkey k = some κ) (hd : κ.depth ≤ 8) (hb : Dz Z K H k (.ref b)) (hv : Dz Z K H d v) (rv : RelV v r) : ∀ {xs : List (NestedKey × Addr × Value)} {es : List (D × D)}, Paired (NEnt Z K H) xs es →
    Paired (NEnt Z K H) (xs.map (putAt κ r)) (es.map fun e => if PyData.eqv e.1 k = true then (e.1, d) else e)
  | _, _, .nil => .nil
  | x :: xs, e :: es, .cons h t => by
    refine .cons ?_ (nent_put hκ hd hb hv rv t)
    obtain ⟨h1, h2, h3, w, h4, h5⟩ := h
    have e1 : PyData.eqv e.1 k = decide (x.1 = κ) := nkey_eqv h1 hκ
    unfold putAt
    by_cases q : x.1 = κ
    · simp only [e1, q, decide_true, if_true]
      exact ⟨by rw [← q]; exact h1, by rw [← q]; exact h2, h3, v, rv, hv⟩
    · simp only [e1, q, decide_false, if_false, Bool.false_eq_true]
      exact ⟨h1, h2, h3, w, h4, h5⟩
theorem nent_store {K : PySem.W.Frag} {κ : NestedKey} {b : Addr} {k d : D} {v : V} {r : Value} (hκ : nkey k = some κ) (hd : κ.depth ≤ 8) (hb : Dz Z K H k (.ref b)) (hv : Dz Z K H d v) (rv : RelV v r) {xs : List (NestedKey × Addr × Value)} {es : List (D × D)} (p : Paired (NEnt Z K H) xs es) :
    Paired (NEnt Z K H) (storedH xs κ b r) (dput es k d) := by
  unfold storedH dput
  rw [(dget_nk p hκ).1]
  split
  · exact nent_put hκ hd hb hv rv p
  · have : ∀ {xs : List (NestedKey × Addr × Value)} {es : List (D × D)}, Paired (NEnt Z K H) xs es → Paired (NEnt Z K H) (xs ++ [(κ, b, r)]) (es ++ [(k, d)]) := by
      intro xs es p
      induction p with
      | nil => exact .cons ⟨hκ, hd, hb, v, rv, hv⟩ .nil
      | cons h t ih => exact .cons h ih
    exact this p
theorem ndict_ok {P : Program} {w : World} {K : PySem.W.Frag} {H' : Hp} {h' : Heap} {a : Addr} {xs : List (NestedKey × Addr × Value)} (G : Gx) (hP : G.P = P) (hw : G.w = w) (dd : h'.DictOfH (nestedKind P w) a xs) (hd : (a == sysModules) = false) (hz : xs.length ≤ sizeLine) : ObjOk P w H' h' a (.ext (NDict G a xs)) := by
  obtain ⟨o, es, ep, h1, h2, h3, h4, _, h5⟩ := dd
  refine ⟨⟨o, es, ep, h1, h2, h3, by rw [hP, hw]; exact h4, h5, hd, hz⟩, ⟨o, h1⟩, fun g1 g2 ⟨o', es', ep', q1, q2⟩ k => ⟨o', es', ep', k _ q1, q2⟩⟩
theorem len_dput (es : List (D × D)) (k d : D) : (dput es k d).length ≤ es.length + 1 := by
  unfold dput
  split
  · simp
  · simp
theorem storedH_keys {xs : List (NestedKey × Addr × Value)} {κ : NestedKey} {b : Addr} {r : Value} (nd : (xs.map (·.1)).Nodup) : ((storedH xs κ b r).map (·.1)).Nodup := by
  unfold storedH
  by_cases q : (atKey xs κ).isSome = true
  · rw [if_pos q, List.map_map]
    have : ((fun x : NestedKey × Addr × Value => x.1) ∘ putAt κ r) = fun x => x.1 := by
      funext x
      unfold putAt
      simp only [Function.comp]
      split <;> rfl
    rw [this]
    exact nd
  · rw [if_neg q, List.map_append]
    rw [atKey_any] at q
    refine List.nodup_append.mpr ⟨nd, by simp, fun a ha c hc e => ?_⟩
    simp only [List.map_cons, List.map_nil, List.mem_singleton] at hc
    subst hc
    subst e
    obtain ⟨x, hx, ex⟩ := List.mem_map.mp ha
    exact q (List.any_eq_true.mpr ⟨x, hx, by simp [ex]⟩)
theorem storedH_ne {xs : List (NestedKey × Addr × Value)} {κ : NestedKey} {b : Addr} {r : Value} : storedH xs κ b r ≠ [] := by
  unfold storedH
  split
  · rename_i h
    cases xs with
    | nil => simp [atKey] at h
    | cons x xs => simp
  · simp
theorem putK_nd {kvs : List (Key × V)} {k : Key} {v : V} (nd : (kvs.map (·.1)).Nodup) : ((putK kvs k v).map (·.1)).Nodup := by
  cases q : valV kvs k with
  | none => exact nd_putK v nd q
  | some w =>
    unfold putK
    rw [if_pos (by rw [valV_any, q]; rfl), List.map_map]
    have : ((fun x : Key × V => x.1) ∘ fun kv => if kv.1 = k then (kv.1, v) else kv) = fun x => x.1 := by
      funext x
      simp only [Function.comp]
      split <;> rfl
    rw [this]
    exact nd
theorem set_all (hu : X.A.units + 65 < cLine) : PSet X (SetV X ca) := by
  intro pins s σ H o i v ov iv u Q I ro ri rv ⟨Z, l, ob, k, d, o', e1, hr, nz, hk, hd, e, q⟩
  subst e1
  have mu : Mut (H l) := hr.mut l List.mem_cons_self
  have kp : ∀ u', Kp Z X.K H Z (upd H l u') := fun u' => kp_l (G := gx X ca) hr nz
  have hro := ro
  cases ro
  cases ob with
  | lst ds =>
    cases k with
    | int j =>
      simp only [setS] at e
      split at e
      · rename_i j' hj
        cases e
        obtain ⟨xs, hl, dz⟩ := hr.lst_of
        cases hk
        exact set_list pins s σ H _ _ v _ iv u Q I hro ri rv ⟨l, xs, j, j', rfl, rfl, hl, by rw [dz.length]; exact hj, q _ (Ro.lst_new (G := gx X ca) hr nz (dz.set _ hd))⟩
      · cases e
    | _ => simp [setS] at e
  | dic es =>
    simp only [setS] at e
    split at e
    · rename_i hc
      cases e
      obtain ⟨hc, hsz⟩ := hc
      rcases Bool.or_eq_true_iff.mp hc with hc | hc
      · rw [Bool.and_eq_true] at hc
        obtain ⟨κ, hκ⟩ := Option.isSome_iff_exists.mp hc.1
        cases hr with
        | dic e1 h1 h2 nd =>
          rename_i kvs
          obtain rfl := key_v hk hκ
          have hl := h1.length
          rw [List.length_map, List.length_map] at hl
          refine d_setItem (by omega) I (DPut.k (k := κ) (v := v) e1 (by omega)) ri rv fun s' I' => ⟨_, I', q _ ?_⟩
          obtain ⟨p1, p2⟩ := dput_ok h1 h2 hκ hk hd
          exact .dic upd_same (p1.kp (kp _)) (p2.kp (kp _)) (putK_nd nd)
        | dct e1 hx nd ne => exact absurd (all_nkey hx hc.2) ne
      · rw [Bool.and_eq_true] at hc
        obtain ⟨κ, hκ⟩ := Option.isSome_iff_exists.mp hc.1
        obtain ⟨hκ1, hκ2⟩ := nkOf_some hκ
        obtain ⟨ts, rfl⟩ := nkey_ref hκ
        cases hk with
        | tup hq hts =>
          rename_i b ws
          cases ri
          have hb : Dz Z X.K H (.tuple ts) (.ref b) := .tup hq hts
          have his : (nestedKind X.prog X.w).is s.heap κ b := ⟨nested_is I hb rfl hκ1, hκ2⟩
          have go : ∀ xs, s.heap.DictOfH (nestedKind X.prog X.w) l xs → (l == sysModules) = false → xs.length = es.length → Paired (NEnt Z X.K H) xs es → (xs.map (·.1)).Nodup →
              wpAny (model X.prog X.w) X.A (setItem (.ref l) (.ref b) u) (fun _ s' => ∃ H', Inv X pins σ H' s' ∧ Q H') X.xe s := fun xs hm hs hlen hx nd => by
            have hst : (storedH xs κ b u).length ≤ sizeLine := by
              have := Paired.length (nent_store hκ1 hκ2 hb hd rv hx)
              have h2 := len_dput es (.tuple ts) d
              omega
            refine wpAny_setItem_heap (hsz := by omega) (show X.A.units + 1 + 8 < cLine by omega) his hm fun h' hm' sb => ?_
            have he : ∃ q, h'.get? l = some q := let ⟨q, _, _, hq, _⟩ := hm'; ⟨q, hq⟩
            refine ⟨_, d_write I mu sb he (ndict_ok (K := X.K) (gx X ca) rfl rfl hm' hs hst), q _ ?_⟩
            have hp := nent_store hκ1 hκ2 hb hd rv hx
            exact .dct upd_same (Paired.mapP hp fun p q ⟨h1, h2, h3, v, h4, h5⟩ => ⟨h1, h2, h3.kp (kp _), v, h4, h5.kp (kp _)⟩) (storedH_keys nd) storedH_ne
          cases hr with
          | dic e1 h1 h2 nd =>
            obtain ⟨rfl, rfl⟩ := all_key h1 hc.2
            obtain ⟨m1, m2⟩ := ndict_nil I e1
            exact go [] m1 m2 rfl .nil List.nodup_nil
          | dct e1 hx nd ne =>
            obtain ⟨m1, m2, _⟩ := ndict_at I rfl rfl e1 hx
            exact go _ m1 m2 (Paired.length hx) hx nd
    · cases e
  | _ => simp [setS] at e
end
end Eng
set_option maxHeartbeats 1000000
/-! The engine, part 14: stores to items as statements, tuples unpacked, extend, loops. -/
namespace Eng
open PySem PySem.Spec L2
open PyProof.Rows hiding St

section
variable {X : Cx} {ca : Nat → Addr} {W : WX} {f g : ES} {as : AS} {G : Gx} {b : SS} {t : TS'}
variable {θ : Nat → V} {Z Z1 : Zs} {L L1 F : List Addr} {H H1 : Hp} {σ : L2.St} {ρ ρ1 : En} {Dn : Ends}
/-! ### x[k] = e -/
def putAtE (i : Nat) (ρ : En) (pd pk : Opd) : SOut := match give ρ pd with
  | some (d, ρ1) => match give ρ1 pk with
    | some (k, ρ2) => match ρ2[i]? with
      | some (some (p, o)) => match setS o k d with
        | some o' => .nx (ρ2.set i (some (p, o')))
        | none => .stuck
      | _ => .stuck
    | none => .stuck
  | none => .stuck
def sPut (i : Nat) (fk fv : ES) : SS := fun ρ => (fv ρ).bindS fun pd ρ1 => match slotO ρ1 i with
  | some _ => (fk ρ1).bindS fun pk ρ2 => putAtE i ρ2 pd pk
  | none => .stuck
theorem Held.two {p1 p2 : Opd} {v1 v2 : V} (h : Held G Z H σ L [p1, p2] [v1, v2] F) : ∃ F1 F2, F = F1 ++ F2 ∧ Held G Z H σ (F2 ++ L) [p1] [v1] F1 ∧ Held G Z H σ L [p2] [v2] F2 := by
  obtain ⟨F1, F2, rfl, h1, h2⟩ := h.ok.cons_split
  have n := List.nodup_append.mp h.nd
  have n2 := List.nodup_append.mp n.1
  refine ⟨F1, F2, rfl, ⟨h1, by rw [← List.append_assoc]; exact h.nd, fun a ha => h.dis a (List.mem_append_left _ ha)⟩, ⟨h2, List.nodup_append.mpr ⟨n2.2.1, n.2.1, fun a ha b hb => n.2.2 a (List.mem_append_right _ ha) b hb⟩, fun a ha => h.dis a (List.mem_append_right _ ha)⟩⟩
theorem give_two {p1 p2 : Opd} {v1 v2 : V} {d1 d2 : D} {ρ1 ρ2 : En} (r : Rep θ G Z H ρ σ L) (h : Held G Z H σ L [p1, p2] [v1, v2] F) (e1 : give ρ p1 = some (d1, ρ1)) (e2 : give ρ1 p2 = some (d2, ρ2)) :
    ∃ Z' L', Rep θ G Z' H ρ2 σ L' ∧ Dz Z' G.K H d1 v1 ∧ Dz Z' G.K H d2 v2 ∧ Step Z (F ++ L) H Z' L' H := by
  obtain ⟨Z', L', r', d', s'⟩ := gives_ok (ds := [d1, d2]) (ρ' := ρ2) r h (by simp [gives, e1, e2])
  cases d' with
  | cons q1 t =>
    cases t with
    | cons q2 t => exact ⟨Z', L', r', q1, q2, s'⟩
theorem ss_put {ie e : Expr} {i : Nat} {x : Str} {px pos' pos : Pos} (hu : X.A.units + 65 < cLine) (hN : X.N[i]? = some x) (hv : Vis X.env.scope x) (hd : (x == ("__debug__" : Str)) = false) (hcd : (x == ("__classdict__" : Str)) = false)
    (hi : PE X ie (RdE X ca W f)) (he : PE X e (RdE X ca W g)) (hsw : swapsWithSole [.Subscript (.Name x px) ie pos'] e pos.line X.env = pure false) (hw : swappedStores [.Subscript (.Name x px) ie pos'] e X.env = pure none)
    (h1 : (assignEach [.Subscript (.Name x px) ie pos'] X.env).map (·.2) = [assign (.Subscript (.Name x px) ie pos') X.env])
    (ha : ∀ v, assign (.Subscript (.Name x px) ie pos') X.env v = (do
      let ov ← holding [v] (eval (.Name x px) X.env)
      let iv ← holding [v, ov] (eval ie X.env)
      standAt pos'
      holding [v, ov, iv] (setItem ov iv v)
      release [v, ov, iv] [])) : PS X (.Assign [.Subscript (.Name x px) ie pos'] e pos) (RdS X ca W (sPut i f g)) :=
  PS.imp (ps_asg he (pg_sub (se_name (ca := ca) (W := W) (i := i) hN hv hd hcd) hi (set_all (ca := ca) hu) ha) hsw hw h1) fun D σ H ⟨θ, Z, ρ, L, r, q⟩ =>
    rd_ES r q fun pd ρ1 Z1 H1 L1 F1 vd q r1 h1 s1 => by
      cases e0 : slotO ρ1 i with
      | none => rw [e0] at q; exact q.elim
      | some o0 =>
        rw [e0] at q
        simp only at q
        refine ⟨θ, Z1, ρ1, L1, r1, ?_⟩
        unfold oNm
        rw [e0]
        intro Z2 H2 L2 F2 v r2 h2 s2
        obtain ⟨rfl, hv2⟩ := h2.nm
        have s2' : Step Z1 L1 H1 Z2 L2 H2 := s2
        have hd2 := h1.carryM r1.sl.mut r1.dis s2' r2.nd
        have s12 : Step Z L H Z2 (F1 ++ L2) H2 := s1.then s2'
        refine ⟨θ, Z2, ρ1, L2, r2, ?_⟩
        cases ek : f ρ1 with
        | stuck => rw [ek] at q; exact q
        | exc c ρ2 => rw [ek] at q; exact fun Z' H' L' r' s' => q Z' H' L' σ r' ((s12.sub fun a h => List.mem_append_right _ h).trans s')
        | ok pk ρ2 =>
          rw [ek] at q
          simp only [bindS_ok] at q
          intro Z3 H3 L3 F3 vk r3 h3 s3
          have hd3 := (hd2.carry r2 s3 h3.nd).join h3
          have s13 : Step Z L H Z3 ((F1 ++ F3) ++ L3) H3 := by rw [List.append_assoc]; exact s12.then s3
          unfold putAtE at q
          split at q
          · rename_i d ρ3 e1
            split at q
            · rename_i k ρ4 e2
              split at q
              · rename_i p o e3
                split at q
                · rename_i o' e4
                  obtain ⟨Z4, L4, r4, d4, k4, s4⟩ := give_two r3 hd3 e1 e2
                  obtain ⟨l, w1, w2, w3, w4, w5⟩ := r4.wr e3 (setS_own e4)
                  rw [hv2] at w1
                  cases w1
                  refine ⟨Z4, l, o, k, d, o', rfl, w2, w4, k4, d4, e4, fun u' ro' => ?_⟩
                  obtain ⟨r5, s5⟩ := w5 o' u' ro'
                  exact q Z4 _ L4 σ r5 ((s13.trans s4).trans s5)
                · exact q.elim
              · exact q.elim
            · exact q.elim
          · exact q.elim

/-! ### x.extend(e) -/
def oExt (i : Nat) (f : ES) : ES := fun ρ => match slotO ρ i with
  | some o0 => if isLstO o0 = true then (f ρ).bind fun p ρ1 => match look ρ1 p with
      | some o1 => match o1.seq? with
        | some zs => mutE (fun o => match o with
          | .lst ds => if ds.length + zs.length ≤ sizeLine then some (.lst (ds ++ zs), .none) else none
          | _ => none) i ρ1
        | none => .stuck
      | none => .stuck
    else .stuck
  | none => .stuck
end
end Eng
set_option maxHeartbeats 1000000
/-! zip of a list and a tuple. -/
namespace ZM
open PySem PySem.Spec PyProof.Rows RZ
section
variable {prog : Program} {w : World} {A : Around} {E : Value → Shared → Prop} {s : Shared}
end
section
variable {prog : Program} {w : World} {A : Around} {E : Value → Shared → Prop} {s : Shared}
end
end ZM
namespace ZM
open PySem PySem.Spec PyProof.Rows L2 RZ
def ItzM (K : PySem.W.Frag) (a b : Addr) : It :=
  ⟨fun i H => ∃ (xs ys : List V) (x y : V), SqL K H a xs ∧ SqT K H b ys ∧ xs[i]? = some x ∧ ys[i]? = some y,
    fun i H v H' => ∃ T x y, v = .ref T ∧ H T = none ∧ H' = upd H T (.tup [x, y]) ∧ (∀ xs, SqL K H a xs → xs[i]? = some x) ∧ ∀ ys, SqT K H b ys → ys[i]? = some y,
    fun i H => ∃ xs ys : List V, SqL K H a xs ∧ SqT K H b ys ∧ (xs.length ≤ i ∨ ys.length ≤ i)⟩
end ZM
set_option maxHeartbeats 1000000
/-! enumerate of a tuple. -/
namespace ZE
open PySem PySem.Spec PyProof.Rows RZ
open AutoSeq1 (wpAny_loadPart')
section
variable {prog : Program} {w : World} {A : Around} {E : Value → Shared → Prop} {s : Shared}
end
end ZE
namespace ZE
open PySem PySem.Spec PyProof.Rows L2 RZ
/-- the tuple at a, each item in a new pair -/
def IteT (K : PySem.W.Frag) (a : Addr) : It :=
  ⟨fun i H => ∃ (xs : List V) (x : V), SqT K H a xs ∧ xs[i]? = some x, fun i H v H' => ∃ T x, v = .ref T ∧ H T = none ∧ H' = upd H T (.tup [.int (i : Nat), x]) ∧ ∀ xs, SqT K H a xs → xs[i]? = some x, fun i H => ∃ xs : List V, SqT K H a xs ∧ xs.length = i⟩
end ZE
set_option maxHeartbeats 1000000
/-! The engine, part 15: what is walked; targets; for. -/
namespace Eng
open PySem PySem.Spec L2
open PyProof.Rows hiding St

section
variable {X : Cx} {ca : Nat → Addr} {W : WX} {f g : ES} {as : AS} {G : Gx} {b : SS} {t : TS'}
variable {θ θ' : Nat → V} {Z Z1 Z0 Z' : Zs} {L L1 L0 L' F : List Addr} {H H1 H0 H' : Hp} {σ σ' : L2.St} {ρ ρ1 ρ' : En} {Dn : Ends}
/-! ### names forgotten -/
def dropE1 (i : Nat) (ρ : En) : En := match ρ[i]? with
  | some (some (false, _)) => ρ.set i none
  | _ => ρ
def dropE : List Nat → En → En
  | [], ρ => ρ
  | i :: is, ρ => dropE is (dropE1 i ρ)
theorem Rep.drop1 (r : Rep θ G Z H ρ σ L) (i : Nat) : ∃ L', Rep θ G Z H (dropE1 i ρ) σ L' ∧ ∀ a ∈ L', a ∈ L := by
  unfold dropE1
  split
  · rename_i o e
    obtain ⟨F, L', v, _, _, r', _, _, h, _⟩ := r.lift e
    exact ⟨L', r', fun a ha => (h a).mp (List.mem_append_right _ ha)⟩
  · exact ⟨L, r, fun _ h => h⟩
theorem Rep.drop : ∀ (is : List Nat) {ρ : En} {L : List Addr}, Rep θ G Z H ρ σ L → ∃ L', Rep θ G Z H (dropE is ρ) σ L' ∧ ∀ a ∈ L', a ∈ L
  | [], _, L, r => ⟨L, r, fun _ h => h⟩
  | i :: is, _, _, r => by
    obtain ⟨L1, r1, h1⟩ := r.drop1 i
    obtain ⟨L2, r2, h2⟩ := Rep.drop is r1
    exact ⟨L2, r2, fun a h => h1 a (h2 a h)⟩

/-! ### targets -/
inductive Tgt where
  | nm (i : Nat)
  | tup (is : List Nat)
def setDs : List Nat → List D → En → Option En
  | [], [], ρ => some ρ
  | i :: is, d :: ds, ρ => match setE i (.val d) ρ with
    | some ρ1 => setDs is ds ρ1
    | none => none
  | _, _, _ => none
def Tgt.put : Tgt → D → En → Option En
  | .nm i, d, ρ => setE i (.val d) ρ
  | .tup is, .tuple ds, ρ => setDs is ds ρ
  | _, _, _ => none
def Tgt.slots : Tgt → List Nat
  | .nm i => [i]
  | .tup is => is
/-- the slots but these are as they were -/
def Agr (is : List Nat) (σ σ' : L2.St) : Prop := σ'.length = σ.length ∧ ∀ i, i ∉ is → σ'[i]? = σ[i]?
theorem Agr.set {i : Nat} {is : List Nat} {x : Option V} (h : i ∈ is) : Agr is σ (σ.set i x) := ⟨by simp, fun j hj => List.getElem?_set_ne (show i ≠ j from fun e => hj (e ▸ h))⟩
theorem Agr.trans {is : List Nat} {σ1 σ2 σ3 : L2.St} (h1 : Agr is σ1 σ2) (h2 : Agr is σ2 σ3) : Agr is σ1 σ3 := ⟨h2.1.trans h1.1, fun i hi => (h2.2 i hi).trans (h1.2 i hi)⟩
theorem Agr.mono {is js : List Nat} {σ1 σ2 : L2.St} (h1 : Agr is σ1 σ2) (h : ∀ i ∈ is, i ∈ js) : Agr js σ1 σ2 := ⟨h1.1, fun i hi => h1.2 i fun q => hi (h i q)⟩
def tgR (X : Cx) (ca : Nat → Addr) (T : Tgt) : TG := fun v σ H Q => ∃ θ Z ρ L d ρ', Rep θ (gx X ca) Z H ρ σ L ∧ Dz Z X.K H d v ∧ T.put d ρ = some ρ' ∧ ∀ σ' L', Rep θ (gx X ca) Z H ρ' σ' L' → (∀ a ∈ L', a ∈ L) → Agr T.slots σ σ' → Q σ' H
def tgsR (X : Cx) (ca : Nat → Addr) (is : List Nat) : TGs := fun vs σ H Q => ∃ θ Z ρ L ds ρ', Rep θ (gx X ca) Z H ρ σ L ∧ DzA Z X.K H ds vs ∧ setDs is ds ρ = some ρ' ∧ ∀ σ' L', Rep θ (gx X ca) Z H ρ' σ' L' → (∀ a ∈ L', a ∈ L) → Agr is σ σ' → Q σ' H
theorem PG.imp {tg : Expr} {t t' : TG} (h : PG X tg t) (i : ∀ v σ H Q, t' v σ H Q → t v σ H Q) : PG X tg t' := ⟨fun pins s σ H v u Q I r q => h.run pins s σ H v u Q I r (i v σ H Q q)⟩
theorem PGs.imp {tg : List Expr} {t t' : TGs} (h : PGs X tg t) (i : ∀ v σ H Q, t' v σ H Q → t v σ H Q) : PGs X tg t' := ⟨fun pins s σ H v u Q I r q => h.run pins s σ H v u Q I r (i v σ H Q q)⟩
theorem setE_val {i : Nat} {d : D} {v : V} (r : Rep θ G Z H ρ σ L) (h : Dz Z G.K H d v) (e : setE i (.val d) ρ = some ρ') : ∃ L', Rep θ G Z H ρ' (σ.set i (some v)) L' ∧ ∀ a ∈ L', a ∈ L := by
  obtain ⟨L', r', h'⟩ := setE_ok (F := []) r (.tmp (.val h) r.nd (fun _ q => by cases q)) e
  exact ⟨L', r', fun a ha => by simpa using h' a ha⟩
theorem sg_name {i : Nat} {x : Str} {pos : Pos} (hN : X.N.Nodup) (hi : X.N[i]? = some x) (hx : Loc X.env.scope x) (hf : X.fn x = true ∨ X.env.scope.names.lookup x = some .local) : PG X (.Name x pos) (tgR X ca (.nm i)) :=
  PG.imp (pg_name hN hi hx hf) fun v σ H Q ⟨θ, Z, ρ, L, d, ρ', r, hd, e, q⟩ => by
    obtain ⟨L', r', h'⟩ := setE_val r hd e
    exact q _ L' r' h' (Agr.set (by simp [Tgt.slots]))
theorem sg_nil : PGs X [] (tgsR X ca []) := PGs.imp pgs_nil fun vs σ H Q ⟨θ, Z, ρ, L, ds, ρ', r, hd, e, q⟩ => by
  cases hd with
  | nil =>
    cases e
    exact ⟨rfl, q σ L r (fun _ h => h) ⟨rfl, fun _ _ => rfl⟩⟩
  | cons => cases e
theorem sg_cons {es : List Expr} {i : Nat} {is : List Nat} {x : Str} {pos : Pos} (h1 : PG X (.Name x pos) (gName i)) (h2 : PGs X es (tgsR X ca is)) (hs : (assignEach (.Name x pos :: es) X.env).map (·.2) = assign (.Name x pos) X.env :: (assignEach es X.env).map (·.2)) :
    PGs X (.Name x pos :: es) (tgsR X ca (i :: is)) := PGs.imp (pgs_cons h1 h2 hs) fun vs σ H Q ⟨θ, Z, ρ, L, ds, ρ', r, hd, e, q⟩ => by
  cases hd with
  | nil => cases e
  | cons hd ht =>
    unfold setDs at e
    split at e
    · rename_i ρ1 e1
      obtain ⟨L1, r1, h1⟩ := setE_val r hd e1
      exact ⟨_, _, rfl, θ, Z, ρ1, L1, _, ρ', r1, ht, e, fun σ' L' r' h' ag => q σ' L' r' (fun a ha => h1 a (h' a ha)) ((Agr.set List.mem_cons_self).trans (ag.mono fun j hj => List.mem_cons_of_mem _ hj))⟩
    · cases e
theorem sg_tup {es : List Expr} {k : Nat} {is : List Nat} {pos : Pos} (hc : X.calm = true) (h : PGs X es (tgsR X ca is)) (hn : (assignEach es X.env).length = is.length) (hst : (assignEach es X.env).findIdx? (·.1) = none) : PG X (.Tuple es k pos) (tgR X ca (.tup is)) :=
  PG.imp (pg_tup hc h hn hst) fun v σ H Q ⟨θ, Z, ρ, L, d, ρ', r, hd, e, q⟩ => by
    cases d with
    | tuple ds =>
      cases hd with
      | tup hq hds =>
        refine ⟨_, _, rfl, hq, ?_, θ, Z, ρ, L, ds, ρ', r, hds, e, q⟩
        have len : ∀ {is : List Nat} {ds : List D} {ρ : En}, setDs is ds ρ = some ρ' → ds.length = is.length := by
          intro is
          induction is with
          | nil =>
            intro ds ρ e
            cases ds with
            | nil => rfl
            | cons => cases e
          | cons i is ih =>
            intro ds ρ e
            cases ds with
            | nil => cases e
            | cons d ds =>
              unfold setDs at e
              split at e
              · rw [List.length_cons, List.length_cons, ih e]
              · cases e
        rw [hds.length]
        exact len e
    | _ => cases e

/-! ### what is walked -/
def signs (z : Str) : List D := z.cps.toList.map fun c => .str ⟨#[c]⟩
def zipD : List D → List D → List D
  | d :: ds, e :: es => .tuple [d, e] :: zipD ds es
  | _, _ => []
def enumD : Nat → List D → List D
  | _, [] => []
  | k, d :: ds => .tuple [.int (k : Nat), d] :: enumD (k + 1) ds
def rng (lo : Int) (n : Nat) : List D := (List.range n).map fun k => .int (lo + (k : Nat))
abbrev IS := En → Out (Option Nat × List D)
/-- where the items come from -/
inductive Src (G : Gx) (Z : Zs) (H : Hp) (ρ : En) (σ : L2.St) (L : List Addr) : It → List D → Option Nat → List Addr → Prop
  | frz {a : Addr} {xs : List V} {ds : List D} (z : Z a) (e : H a = some (.lst xs)) (h : DzA Z G.K H ds xs) : Src G Z H ρ σ L (Itl G.K a) ds none []
  | tup {a : Addr} {xs : List V} {ds : List D} (e : SqT G.K H a xs) (h : DzA Z G.K H ds xs) : Src G Z H ρ σ L (Itt G.K a) ds none []
  | slot {j : Nat} {p : Bool} {a : Addr} {ds : List D} (e : ρ[j]? = some (some (p, .lst ds))) (h : σ[j]? = some (some (.ref a))) : Src G Z H ρ σ L (Itl G.K a) ds (some j) []
  | aside {a : Addr} {ds : List D} {F : List Addr} (h : Ro G Z H (.lst ds) (.ref a) F) (nd : (F ++ L).Nodup) (dis : ∀ a ∈ F, ¬ Z a) : Src G Z H ρ σ L (Itl G.K a) ds none F
  | rng {lo : Int} {n : Nat} : Src G Z H ρ σ L (Itr lo n) (rng lo n) none []
  | str {z : Str} : Src G Z H ρ σ L (Its z) (signs z) none []
  | zip {a b : Addr} {xs ys : List V} {ds es : List D} (z : Z a) (e : H a = some (.lst xs)) (h : DzA Z G.K H ds xs) (e2 : SqT G.K H b ys) (h2 : DzA Z G.K H es ys) : Src G Z H ρ σ L (ZM.ItzM G.K a b) (zipD ds es) none []
  | enumT {a : Addr} {xs : List V} {ds : List D} (e : SqT G.K H a xs) (h : DzA Z G.K H ds xs) : Src G Z H ρ σ L (ZE.IteT G.K a) (enumD 0 ds) none []
  | enumL {a : Addr} {xs : List V} {ds : List D} (z : Z a) (e : H a = some (.lst xs)) (h : DzA Z G.K H ds xs) : Src G Z H ρ σ L (Ite G.K a) (enumD 0 ds) none []
  | dic {a : Addr} {ob : Obj} {kvs : List (Key × V)} {ds : List D} (e : H a = some (.frz ob (.dK kvs))) (h : DzA Z G.K H ds (kvs.map fun p => kV p.1)) : Src G Z H ρ σ L (Itk a ob kvs) ds none []
/-- the walk through the turns -/
structure Wlk (θ : Nat → V) (G : Gx) (chk : En → Prop) (J : It) (ds : List D) (Ok : Zs → Hp → En → List Addr → Prop) : Prop where
  go : ∀ {Z H ρ σ L M} (i : Nat), i < ds.length → Rep θ G Z H ρ σ L → Ok Z H ρ M → J.go i H
  stop : ∀ {Z H ρ σ L M}, Rep θ G Z H ρ σ L → Ok Z H ρ M → J.stop ds.length H
  yld : ∀ {Z H ρ σ L M} (i : Nat) (d : D) (x : V) (H' : Hp), ds[i]? = some d → Rep θ G Z H ρ σ L → Ok Z H ρ M → J.yld i H x H' → Same H H' ∧ Dz Z G.K H' d x
  step : ∀ {Z H ρ M Z' H' ρ' M'}, (∀ a ∈ M, Mut (H a)) → (∀ a ∈ M, ¬ Z a) → Ok Z H ρ M → Step Z M H Z' M' H' → M'.Nodup → chk ρ' → Ok Z' H' ρ' M'
def chkE : Option (Nat × List D) → En → Prop
  | none, _ => True
  | some (j, ds), ρ => ρ[j]? = some (some (true, .lst ds))
theorem ok_list {K : PySem.W.Frag} {a : Addr} {xs : List V} {ds : List D} (e : SqL K H a xs) (h : DzA Z K H ds xs) : (∀ i, i < ds.length → (Itl K a).go i H) ∧ (Itl K a).stop ds.length H ∧ ∀ i d x H', ds[i]? = some d → (Itl K a).yld i H x H' → H' = H ∧ Dz Z K H d x := by
  refine ⟨fun i hi => ?_, ⟨xs, e, Nat.le_of_eq h.length⟩, fun i d x H' hd y => ?_⟩
  · have : i < xs.length := by rw [h.length]; exact hi
    exact ⟨xs, xs[i], e, by simp [this]⟩
  · obtain ⟨v, hv, dv⟩ := h.get hd
    have := y.2 xs e
    rw [hv] at this
    cases this
    exact ⟨y.1, dv⟩
theorem ok_tup {K : PySem.W.Frag} {a : Addr} {xs : List V} {ds : List D} (e : SqT K H a xs) (h : DzA Z K H ds xs) : (∀ i, i < ds.length → (Itt K a).go i H) ∧ (Itt K a).stop ds.length H ∧ ∀ i d x H', ds[i]? = some d → (Itt K a).yld i H x H' → H' = H ∧ Dz Z K H d x := by
  refine ⟨fun i hi => ?_, ⟨xs, e, Nat.le_of_eq h.length⟩, fun i d x H' hd y => ?_⟩
  · have : i < xs.length := by rw [h.length]; exact hi
    exact ⟨xs, xs[i], e, by simp [this]⟩
  · obtain ⟨v, hv, dv⟩ := h.get hd
    have := y.2 xs e
    rw [hv] at this
    cases this
    exact ⟨y.1, dv⟩
theorem Rep.kp (r : Rep θ G Z H ρ σ L) (s : Step Z L H Z' L' H') : Kp Z G.K H Z' H' := s.kp r.sl.mut r.dis
theorem zipD_get : ∀ {ds es : List D} {i : Nat} {d : D}, (zipD ds es)[i]? = some d → ∃ a b, ds[i]? = some a ∧ es[i]? = some b ∧ d = .tuple [a, b]
  | [], _, _, _, h => by simp [zipD] at h
  | _ :: _, [], _, _, h => by simp [zipD] at h
  | a :: ds, b :: es, 0, d, h => by
    simp only [zipD, List.getElem?_cons_zero, Option.some.injEq] at h
    exact ⟨a, b, rfl, rfl, h.symm⟩
  | a :: ds, b :: es, i + 1, d, h => by
    simp only [zipD, List.getElem?_cons_succ] at h
    simpa using zipD_get h
theorem zipD_len : ∀ {ds es : List D}, (zipD ds es).length = min ds.length es.length
  | [], _ => by simp [zipD]
  | _ :: _, [] => by simp [zipD]
  | a :: ds, b :: es => by
    simp only [zipD, List.length_cons, zipD_len (ds := ds) (es := es)]
    omega
theorem ok_zip {K : PySem.W.Frag} {a b : Addr} {xs ys : List V} {ds es : List D} (e : SqL K H a xs) (h : DzA Z K H ds xs) (e2 : SqT K H b ys) (h2 : DzA Z K H es ys) : (∀ i, i < (zipD ds es).length → (ZM.ItzM K a b).go i H) ∧ (ZM.ItzM K a b).stop (zipD ds es).length H ∧
    ∀ i d x H', (zipD ds es)[i]? = some d → (ZM.ItzM K a b).yld i H x H' → Same H H' ∧ Dz Z K H' d x := by
  have l1 := h.length
  have l2 := h2.length
  refine ⟨fun i hi => ?_, ⟨xs, ys, e, e2, ?_⟩, fun i d x H' hd y => ?_⟩
  · rw [zipD_len] at hi
    have i1 : i < xs.length := by omega
    have i2 : i < ys.length := by omega
    exact ⟨xs, ys, xs[i], ys[i], e, e2, by simp [i1], by simp [i2]⟩
  · rw [zipD_len]
    omega
  · obtain ⟨p, q, hp, hq, rfl⟩ := zipD_get hd
    obtain ⟨v, hv, dv⟩ := h.get hp
    obtain ⟨w, hw, dw⟩ := h2.get hq
    obtain ⟨T, x', y', rfl, hn, rfl, gx, gy⟩ := y
    have := gx xs e
    rw [hv] at this
    cases this
    have := gy ys e2
    rw [hw] at this
    cases this
    have same : Same H (upd H T (.tup [v, w])) := same_new hn
    exact ⟨same, .tup (.inl (.inl upd_same)) ((DzA.cons dv (.cons dw .nil)).kp (same_kp same))⟩
theorem enumD_len : ∀ {k : Nat} {ds : List D}, (enumD k ds).length = ds.length
  | _, [] => rfl
  | k, _ :: ds => congrArg (· + 1) (enumD_len (k := k + 1) (ds := ds))
theorem enumD_get : ∀ {k : Nat} {ds : List D} {i : Nat} {d : D}, (enumD k ds)[i]? = some d → ∃ a, ds[i]? = some a ∧ d = .tuple [.int ((k + i : Nat) : Int), a]
  | _, [], _, _, h => by simp [enumD] at h
  | k, a :: ds, 0, d, h => by
    simp only [enumD, List.getElem?_cons_zero, Option.some.injEq] at h
    exact ⟨a, rfl, h.symm⟩
  | k, a :: ds, i + 1, d, h => by
    simp only [enumD, List.getElem?_cons_succ] at h
    obtain ⟨b, h1, h2⟩ := enumD_get h
    exact ⟨b, by simpa using h1, by rw [h2, show k + 1 + i = k + (i + 1) by omega]⟩
theorem ok_enumT {K : PySem.W.Frag} {a : Addr} {xs : List V} {ds : List D} (e : SqT K H a xs) (h : DzA Z K H ds xs) : (∀ i, i < (enumD 0 ds).length → (ZE.IteT K a).go i H) ∧ (ZE.IteT K a).stop (enumD 0 ds).length H ∧
    ∀ i d x H', (enumD 0 ds)[i]? = some d → (ZE.IteT K a).yld i H x H' → Same H H' ∧ Dz Z K H' d x := by
  have l1 := h.length
  refine ⟨fun i hi => ?_, ⟨xs, e, ?_⟩, fun i d x H' hd y => ?_⟩
  · rw [enumD_len] at hi
    have i1 : i < xs.length := by omega
    exact ⟨xs, xs[i], e, by simp [i1]⟩
  · rw [enumD_len]
    omega
  · obtain ⟨b, hb, rfl⟩ := enumD_get hd
    obtain ⟨v, hv, dv⟩ := h.get hb
    obtain ⟨T, x', rfl, hn, rfl, gx⟩ := y
    have := gx xs e
    rw [hv] at this
    cases this
    have same : Same H (upd H T (.tup [.int (i : Nat), v])) := same_new hn
    rw [Nat.zero_add]
    exact ⟨same, .tup (.inl (.inl upd_same)) ((DzA.cons (.int _) (.cons dv .nil)).kp (same_kp same))⟩
theorem ok_enumL {K : PySem.W.Frag} {a : Addr} {xs : List V} {ds : List D} (e : SqL K H a xs) (h : DzA Z K H ds xs) : (∀ i, i < (enumD 0 ds).length → (Ite K a).go i H) ∧ (Ite K a).stop (enumD 0 ds).length H ∧
    ∀ i d x H', (enumD 0 ds)[i]? = some d → (Ite K a).yld i H x H' → Same H H' ∧ Dz Z K H' d x := by
  have l1 := h.length
  refine ⟨fun i hi => ?_, ⟨xs, e, ?_⟩, fun i d x H' hd y => ?_⟩
  · rw [enumD_len] at hi
    have i1 : i < xs.length := by omega
    exact ⟨xs, xs[i], e, by simp [i1]⟩
  · rw [enumD_len]
    omega
  · obtain ⟨b, hb, rfl⟩ := enumD_get hd
    obtain ⟨v, hv, dv⟩ := h.get hb
    obtain ⟨T, x', rfl, hn, rfl, gx⟩ := y
    have := gx xs e
    rw [hv] at this
    cases this
    have same : Same H (upd H T (.tup [.int (i : Nat), v])) := same_new hn
    rw [Nat.zero_add]
    exact ⟨same, .tup (.inl (.inl upd_same)) ((DzA.cons (.int _) (.cons dv .nil)).kp (same_kp same))⟩
/-- the walks, but by a name -/
theorem Src.walk {J : It} {ds : List D} (s : Src G Z H ρ σ L J ds none F) : ∃ Ok, Wlk θ G (chkE none) J ds Ok ∧ Ok Z H ρ L := by
  generalize hj : (none : Option Nat) = jo at s
  cases s with
  | frz z e h =>
    rename_i a xs
    refine ⟨fun Z H ρ L => Z a ∧ H a = some (.lst xs) ∧ DzA Z G.K H ds xs, ⟨fun i hi r k => (ok_list (.inl (.inl k.2.1)) k.2.2).1 i hi, fun r k => (ok_list (.inl (.inl k.2.1)) k.2.2).2.1, fun i d x H' hd r k y => ?_, fun mu dz k s _ _ => ?_⟩, z, e, h⟩
    · obtain ⟨rfl, q⟩ := (ok_list (.inl (.inl k.2.1)) k.2.2).2.2 i d x H' hd y
      exact ⟨fun _ _ e => e, q⟩
    · have kp := s.kp (K := G.K) mu dz
      exact ⟨kp.z _ k.1, kp.r _ _ k.1 k.2.1, k.2.2.kp kp⟩
  | tup e h =>
    rename_i a xs
    refine ⟨fun Z H ρ L => SqT G.K H a xs ∧ DzA Z G.K H ds xs, ⟨fun i hi r k => (ok_tup k.1 k.2).1 i hi, fun r k => (ok_tup k.1 k.2).2.1, fun i d x H' hd r k y => ?_, fun mu dz k s _ _ => ?_⟩, e, h⟩
    · obtain ⟨rfl, q⟩ := (ok_tup k.1 k.2).2.2 i d x H' hd y
      exact ⟨fun _ _ e => e, q⟩
    · have kp := s.kp (K := G.K) mu dz
      exact ⟨kp.t _ _ k.1, k.2.kp kp⟩
  | slot => cases hj
  | aside h nd dis =>
    rename_i a
    refine ⟨fun Z H ρ L => Ro G Z H (.lst ds) (.ref a) F ∧ (F ++ L).Nodup ∧ ∀ a ∈ F, ¬ Z a, ⟨fun i hi r k => ?_, fun r k => ?_, fun i d x H' hd r k y => ?_, fun mu dz k s nM _ => ?_⟩, h, nd, dis⟩
    · obtain ⟨xs, e, q⟩ := k.1.lst_of
      exact (ok_list (.inl (.inl e)) q).1 i hi
    · obtain ⟨xs, e, q⟩ := k.1.lst_of
      exact (ok_list (.inl (.inl e)) q).2.1
    · obtain ⟨xs, e, q⟩ := k.1.lst_of
      obtain ⟨rfl, q⟩ := (ok_list (.inl (.inl e)) q).2.2 i d x H' hd y
      exact ⟨fun _ _ e => e, q⟩
    · exact k.1.aside (L' := []) mu dz k.2.1 k.2.2 s nM
  | rng =>
    rename_i lo n
    have hl : (Eng.rng lo n).length = n := by simp [Eng.rng]
    refine ⟨fun _ _ _ _ => True, ⟨fun i hi r k => ?_, fun r k => ?_, fun i d x H' hd r k y => ?_, fun _ _ _ _ _ _ => trivial⟩, trivial⟩
    · rw [hl] at hi; exact hi
    · rw [hl]; exact Nat.le_refl _
    · obtain ⟨rfl, rfl⟩ := y
      have hi : i < n := by
        have := (List.getElem?_eq_some_iff.mp hd).1
        rw [hl] at this; exact this
      have : d = .int (lo + (i : Nat)) := by
        unfold Eng.rng at hd
        rw [List.getElem?_map, List.getElem?_range hi] at hd
        cases hd
        rfl
      subst this
      exact ⟨fun _ _ e => e, .int _⟩
  | str =>
    rename_i z
    have hl : (signs z).length = z.cps.size := by simp [signs]
    refine ⟨fun _ _ _ _ => True, ⟨fun i hi r k => ?_, fun r k => ?_, fun i d x H' hd r k y => ?_, fun _ _ _ _ _ _ => trivial⟩, trivial⟩
    · rw [hl] at hi; exact hi
    · rw [hl]; exact Nat.le_refl _
    · obtain ⟨rfl, c, hc, rfl⟩ := y
      have : d = .str ⟨#[c]⟩ := by
        unfold signs at hd
        rw [List.getElem?_map] at hd
        have : z.cps.toList[i]? = some c := by rw [Array.getElem?_toList]; exact hc
        rw [this] at hd
        cases hd
        rfl
      subst this
      exact ⟨fun _ _ e => e, .str _⟩
  | enumL z e h =>
    rename_i a xs ds
    refine ⟨fun Z H ρ L => Z a ∧ H a = some (.lst xs) ∧ DzA Z G.K H ds xs, ⟨fun i hi r k => (ok_enumL (.inl (.inl k.2.1)) k.2.2).1 i hi, fun r k => (ok_enumL (.inl (.inl k.2.1)) k.2.2).2.1, fun i d x H' hd r k y => (ok_enumL (.inl (.inl k.2.1)) k.2.2).2.2 i d x H' hd y, fun mu dz k s _ _ => ?_⟩, z, e, h⟩
    have kp := s.kp (K := G.K) mu dz
    exact ⟨kp.z _ k.1, kp.r _ _ k.1 k.2.1, k.2.2.kp kp⟩
  | enumT e h =>
    rename_i a xs ds
    refine ⟨fun Z H ρ L => SqT G.K H a xs ∧ DzA Z G.K H ds xs, ⟨fun i hi r k => (ok_enumT k.1 k.2).1 i hi, fun r k => (ok_enumT k.1 k.2).2.1, fun i d x H' hd r k y => (ok_enumT k.1 k.2).2.2 i d x H' hd y, fun mu dz k s _ _ => ?_⟩, e, h⟩
    have kp := s.kp (K := G.K) mu dz
    exact ⟨kp.t _ _ k.1, k.2.kp kp⟩
  | dic e h =>
    rename_i a ob kvs
    refine ⟨fun Z H ρ L => H a = some (.frz ob (.dK kvs)) ∧ DzA Z G.K H ds (kvs.map fun p => kV p.1), ⟨fun i hi r k => ?_, fun r k => ?_, fun i d x H' hd r k y => ?_, fun mu dz k s _ _ => ?_⟩, e, h⟩
    · refine ⟨k.1, ?_⟩
      have := k.2.length
      rw [List.length_map] at this
      omega
    · refine ⟨k.1, ?_⟩
      have := k.2.length
      rw [List.length_map] at this
      omega
    · obtain ⟨rfl, κ, v, hkv, rfl⟩ := y
      refine ⟨fun _ _ e => e, ?_⟩
      obtain ⟨v', hv', dv⟩ := k.2.get hd
      rw [List.getElem?_map, hkv] at hv'
      cases hv'
      exact dv
    · have kp := s.kp (K := G.K) mu dz
      exact ⟨kp.g _ _ _ k.1, k.2.kp kp⟩
  | zip z e h e2 h2 =>
    rename_i a b xs ys ds es
    refine ⟨fun Z H ρ L => Z a ∧ H a = some (.lst xs) ∧ DzA Z G.K H ds xs ∧ SqT G.K H b ys ∧ DzA Z G.K H es ys, ⟨fun i hi r k => (ok_zip (.inl (.inl k.2.1)) k.2.2.1 k.2.2.2.1 k.2.2.2.2).1 i hi, fun r k => (ok_zip (.inl (.inl k.2.1)) k.2.2.1 k.2.2.2.1 k.2.2.2.2).2.1, fun i d x H' hd r k y => (ok_zip (.inl (.inl k.2.1)) k.2.2.1 k.2.2.2.1 k.2.2.2.2).2.2 i d x H' hd y, fun mu dz k s _ _ => ?_⟩, z, e, h, e2, h2⟩
    have kp := s.kp (K := G.K) mu dz
    exact ⟨kp.z _ k.1, kp.r _ _ k.1 k.2.1, k.2.2.1.kp kp, kp.t _ _ k.2.2.2.1, k.2.2.2.2.kp kp⟩
/-- a walk by a name that is pinned meanwhile -/
theorem wlk_slot {j : Nat} {a : Addr} {ds : List D} (hθ : θ j = .ref a) : Wlk θ G (chkE (some (j, ds))) (Itl G.K a) ds (fun _ _ ρ _ => ρ[j]? = some (some (true, .lst ds))) := by
  have get : ∀ {Z H ρ σ L}, Rep θ G Z H ρ σ L → ρ[j]? = some (some (true, .lst ds)) → ∃ xs, H a = some (.lst xs) ∧ DzA Z G.K H ds xs := fun r e => by
    obtain ⟨v, F, h1, h2, _⟩ := r.sl.get e
    have := r.pn j _ e
    rw [h1, hθ] at this
    cases this
    exact h2.lst_of
  refine ⟨fun i hi r k => ?_, fun r k => ?_, fun i d x H' hd r k y => ?_, fun _ _ _ _ _ k => k⟩
  · obtain ⟨xs, e, q⟩ := get r k
    exact (ok_list (.inl (.inl e)) q).1 i hi
  · obtain ⟨xs, e, q⟩ := get r k
    exact (ok_list (.inl (.inl e)) q).2.1
  · obtain ⟨xs, e, q⟩ := get r k
    obtain ⟨rfl, q⟩ := (ok_list (.inl (.inl e)) q).2.2 i d x H' hd y
    exact ⟨fun _ _ e => e, q⟩

/-! ### for -/
open Classical in
noncomputable def forL (c : Option (Nat × List D)) (T : Tgt) (fg : List Nat) (b : SS) : List D → SS
  | [], ρ => .nx ρ
  | d :: ds, ρ => match T.put d ρ with
    | none => .stuck
    | some ρ1 => match b ρ1 with
      | .nx ρ2 => if chkE c (dropE fg ρ2) then forL c T fg b ds (dropE fg ρ2) else .stuck
      | .ct ρ2 => if chkE c (dropE fg ρ2) then forL c T fg b ds (dropE fg ρ2) else .stuck
      | .bk ρ2 => .nx (dropE fg ρ2)
      | o => o
theorem Wlk.for {c : Option (Nat × List D)} {T : Tgt} {fg : List Nat} {J : It} {ds : List D} {Ok : Zs → Hp → En → List Addr → Prop} (w : Wlk θ (gx X ca) (chkE c) J ds Ok) (r : Rep θ (gx X ca) Z H ρ σ L) (k : Ok Z H ρ L) (s : Step Z0 L0 H0 Z L H)
    (q : PoS X ca W θ Z0 L0 H0 Dn (forL c T fg b ds ρ)) :
    ∃ W' : Nat → Nat → L2.St → Hp → Prop, (∃ m, W' 0 m σ H) ∧ ∀ i m σ H, W' i m σ H →
      (J.stop i H ∧ Dn.nx σ H) ∨ (J.go i H ∧ ∃ N : L2.St → Hp → Prop, (∀ σ' H', N σ' H' → ∃ m', m' < m ∧ W' (i + 1) m' σ' H') ∧ ∀ x H', J.yld i H x H' → tgR X ca T x σ H' fun σ2 H2 => RdS X ca W b { Dn with nx := N, ct := N, bk := Dn.nx } σ2 H2) := by
  let inv : Nat → L2.St → Hp → Prop := fun i σ H => i ≤ ds.length ∧ ∃ Z ρ L, Rep θ (gx X ca) Z H ρ σ L ∧ Ok Z H ρ L ∧ Step Z0 L0 H0 Z L H ∧ PoS X ca W θ Z0 L0 H0 Dn (forL c T fg b (ds.drop i) ρ)
  refine ⟨fun i m σ H => m = ds.length - i ∧ inv i σ H, ⟨_, rfl, Nat.zero_le _, Z, ρ, L, r, k, s, q⟩, ?_⟩
  rintro i m σ H ⟨rfl, hi, Z, ρ, L, r, k, s, q⟩
  by_cases hlt : i < ds.length
  · refine .inr ⟨w.go i hlt r k, inv (i + 1), fun σ' H' p' => ⟨ds.length - (i + 1), by omega, rfl, p'⟩, fun x H' y => ?_⟩
    have hd : ds[i]? = some ds[i] := by simp [hlt]
    rw [List.drop_eq_getElem_cons hlt] at q
    obtain ⟨same, dz⟩ := w.yld i ds[i] x H' hd r k y
    unfold forL at q
    cases e1 : T.put ds[i] ρ with
    | none => rw [e1] at q; exact q.elim
    | some ρ1 =>
      rw [e1] at q
      simp only at q
      have s0 : Step Z L H Z L H' := ⟨fun a o e _ => same a o e, fun _ h => h, fun _ h => .inl h, fun _ h => .inl h⟩
      refine ⟨θ, Z, ρ, L, ds[i], ρ1, r.same same, dz, e1, fun σ1 L1 r1 sub _ => ⟨θ, Z, ρ1, L1, r1, ?_⟩⟩
      have s1 : Step Z0 L0 H0 Z L1 H' := (s.trans s0).sub sub
      have turn : ∀ ρ2 Z2 H2 L2 σ2, PoS X ca W θ Z0 L0 H0 Dn (open Classical in if chkE c (dropE fg ρ2) then forL c T fg b (ds.drop (i + 1)) (dropE fg ρ2) else .stuck) → Rep θ (gx X ca) Z2 H2 ρ2 σ2 L2 → Step Z L1 H' Z2 L2 H2 → inv (i + 1) σ2 H2 := fun ρ2 Z2 H2 L2 σ2 q r2 s2 => by
        obtain ⟨L3, r3, h3⟩ := r2.drop fg
        split at q
        · rename_i hc
          refine ⟨hlt, Z2, _, L3, r3, w.step r.sl.mut r.dis k (((s0.trans (Step.refl.sub sub)).trans s2).sub h3) r3.nd hc, (s1.trans s2).sub h3, q⟩
        · exact q.elim
      cases eb : b ρ1 with
      | stuck => rw [eb] at q; exact q
      | nx ρ2 => rw [eb] at q; exact fun Z2 H2 L2 σ2 r2 s2 => turn ρ2 Z2 H2 L2 σ2 q r2 s2
      | ct ρ2 => rw [eb] at q; exact fun Z2 H2 L2 σ2 r2 s2 => turn ρ2 Z2 H2 L2 σ2 q r2 s2
      | bk ρ2 =>
        rw [eb] at q
        intro Z2 H2 L2 σ2 r2 s2
        obtain ⟨L3, r3, h3⟩ := r2.drop fg
        exact q Z2 H2 L3 σ2 r3 ((s1.trans s2).sub h3)
      | rt o ρ2 => rw [eb] at q; exact fun Z2 H2 L2 F v σ2 r2 h2 s2 => q Z2 H2 L2 F v σ2 r2 h2 (s1.trans s2)
      | exc c ρ2 => rw [eb] at q; exact fun Z2 H2 L2 σ2 r2 s2 => q Z2 H2 L2 σ2 r2 (s1.trans s2)
  · have e : i = ds.length := by omega
    subst e
    rw [List.drop_length] at q
    exact .inl ⟨w.stop r k, q Z H L σ r s⟩
end
end Eng
set_option maxHeartbeats 1000000
/-! The engine, part 16: iterables read; for and while as statements. -/
namespace Eng
open PySem PySem.Spec L2
open PyProof.Rows hiding St

section
variable {X : Cx} {ca : Nat → Addr} {W : WX} {f g : ES} {as : AS} {G : Gx} {b : SS} {t : TS'} {it : IS}
variable {θ θ' : Nat → V} {Z Z1 Z0 Z' : Zs} {L L1 L0 L' F : List Addr} {H H1 H0 H' : Hp} {σ σ' : L2.St} {ρ ρ1 ρ' : En} {Dn : Ends}
/-! ### iterables -/
def PoI (X : Cx) (ca : Nat → Addr) (W : WX) (θ : Nat → V) (Z : Zs) (L : List Addr) (H : Hp) (σ : L2.St) (R : It → Hp → Prop) : Out (Option Nat × List D) → Prop
  | .ok (j, ds) ρ' => ∀ Z' H' L' F J, Rep θ (gx X ca) Z' H' ρ' σ L' → Step Z L H Z' (F ++ L') H' → Src (gx X ca) Z' H' ρ' σ L' J ds j F → ds.length ≤ sizeLine → R J H'
  | .exc c ρ' => ∀ Z' H' L', Rep θ (gx X ca) Z' H' ρ' σ L' → Step Z L H Z' L' H' → W (.ref (ca c)) none σ H'
  | .stuck => False
def RdI (X : Cx) (ca : Nat → Addr) (W : WX) (f : IS) : TI := fun σ H R => ∃ θ Z ρ L, Rep θ (gx X ca) Z H ρ σ L ∧ PoI X ca W θ Z L H σ R (f ρ)
def itemsD : D → Option (List D)
  | .list ds => some ds
  | .tuple ds => some ds
  | .str z => if z.length ≤ sizeLine then some (signs z) else none
  | .dict es => some (es.map (·.1))
  | _ => none
def itSeq (ρ : En) : Opd → Out (Option Nat × List D)
  | .tmp (.lst ds) => .ok (none, ds) ρ
  | .tmp (.val d) => match itemsD d with
    | some ds => .ok (none, ds) ρ
    | none => .stuck
  | .nm j => match ρ[j]? with
    | some (some (_, .lst ds)) => .ok (some j, ds) ρ
    | some (some (_, .val d)) => match itemsD d with
      | some ds => .ok (none, ds) ρ
      | none => .stuck
    | _ => .stuck
  | _ => .stuck
def iSeq (f : ES) : IS := fun ρ => (f ρ).bind fun p ρ1 => itSeq ρ1 p
/-- by values -/
inductive SrcV (K : PySem.W.Frag) (H : Hp) : V → It → Nat → Prop
  | lst {a : Addr} {xs : List V} (e : SqL K H a xs) : SrcV K H (.ref a) (Itl K a) xs.length
  | tup {a : Addr} {xs : List V} (e : SqT K H a xs) : SrcV K H (.ref a) (Itt K a) xs.length
  | str {z : Str} (h : z.length ≤ sizeLine) : SrcV K H (.str z) (Its z) z.length
  | dic {a : Addr} {ob : Obj} {kvs : List (Key × V)} (e : H a = some (.frz ob (.dK kvs))) : SrcV K H (.ref a) (Itk a ob kvs) kvs.length
theorem pi_any {tg e : Expr} {te : TE} (he : PE X e te) : PI X tg e (fun σ H R => te σ H fun x H1 => ∃ J n, SrcV X.K H1 x J n ∧ (n ≤ sizeLine → R J H1)) := by
  refine ⟨fun pins s σ H R I h => ?_⟩
  refine thn (he.run pins s σ H _ I h) fun v s1 ⟨x, H1, I1, r1, J, n, sr, q⟩ => ?_
  cases sr with
  | lst e =>
    cases r1
    obtain ⟨its, rv, pl, hz⟩ := I1.list e
    exact wpAny_pyIter_list pl.isList (pi_one (tk := s1.toks) I1 _ (turn_list _ _) ⟨_, Heap.get?_push_size _ rfl, rfl, rfl⟩ (q hz))
  | tup e =>
    cases r1
    obtain ⟨its, rv, pl, hz⟩ := I1.tuple e
    exact wpAny_pyIter_tuple pl (pi_one (tk := s1.toks) I1 _ (turn_tuple _ _) ⟨_, Heap.get?_push_size _ rfl, rfl, rfl⟩ (q hz))
  | str hz =>
    rename_i z
    obtain ⟨t, rfl⟩ := r1
    cases ha : z.cps.all (· < 128)
    · exact wpAny_pyIter_wide ha (pi_one (tk := s1.toks) I1 _ (turn_str _ z t "str_iterator" (.inr rfl)) ⟨_, Heap.get?_push_size _ rfl, rfl, rfl⟩ (q hz))
    · exact wpAny_pyIter_ascii ha (pi_one (tk := s1.toks) I1 _ (turn_str _ z t "str_ascii_iterator" (.inl rfl)) ⟨_, Heap.get?_push_size _ rfl, rfl, rfl⟩ (q hz))
  | dic hd =>
    cases r1
    have hz := (dk_rd I1.hok (.inr ⟨_, hd⟩)).1
    obtain ⟨hs, hgd, hx, es, ep, vs, hdt, hsz, kv, hm⟩ := I1.frzK hd
    refine iter_keys hs hgd hx hdt (pi_one (tk := s1.toks) I1 _ (turn_keys _ hdt) ⟨_, Heap.get?_push_size _ rfl, rfl, ?_⟩ (q hz))
    rw [hsz] <;> rfl
theorem PI.imp {tg e : Expr} {t t' : TI} (h : PI X tg e t) (i : ∀ σ H R, t' σ H R → t σ H R) : PI X tg e t' := ⟨fun pins s σ H R I q => h.run pins s σ H R I (i σ H R q)⟩
theorem src_val {d : D} {ds : List D} {v : V} (h : Dz Z G.K H d v) (e : itemsD d = some ds) : ∃ J n, SrcV G.K H v J n ∧ n = ds.length ∧ Src G Z H ρ σ L J ds none [] := by
  unfold itemsD at e
  split at e
  · cases e
    cases h with
    | lst z r h => exact ⟨_, _, .lst (.inl (.inl r)), h.length, .frz z r h⟩
  · cases e
    cases h with
    | tup r h => exact ⟨_, _, .tup r, h.length, .tup r h⟩
  · split at e
    · rename_i z hz
      cases e
      cases h
      exact ⟨_, _, .str hz, by simp [signs, Str.length], .str⟩
    · cases e
  · cases e
    cases h with
    | dic r nd hk hv => exact ⟨_, _, .dic r, by have := hk.length; simpa using this, .dic r hk⟩
  · cases e
theorem si_seq {tg e : Expr} (he : PE X e (RdE X ca W f)) : PI X tg e (RdI X ca W (iSeq f)) := PI.imp (pi_any he) fun σ H R ⟨θ, Z, ρ, L, r, q⟩ => by
  refine ⟨θ, Z, ρ, L, r, ?_⟩
  unfold iSeq at q
  cases e1 : f ρ with
  | stuck => rw [e1] at q; exact q
  | exc c ρ1 => rw [e1] at q; exact q
  | ok p ρ1 =>
    rw [e1] at q
    simp only [bind_ok] at q
    intro Z1 H1 L1 F v r1 h1 s1
    cases p with
    | tmp o =>
      cases o with
      | lst ds =>
        have ho := h1.one
        obtain ⟨a, xs, rfl, rfl, ea, dz⟩ := ho.single
        refine ⟨_, _, .lst (.inl (.inl ea)), fun hz => ?_⟩
        rw [dz.length] at hz
        exact q Z1 H1 L1 _ _ r1 s1 (.aside ho h1.nd h1.dis) hz
      | val d =>
        unfold itSeq at q
        simp only at q
        split at q
        · rename_i ds e2
          have ho := h1.one
          cases ho with
          | val hd =>
            obtain ⟨J, n, sv, rfl, sr⟩ := src_val (ρ := ρ1) (σ := σ) (L := L1) hd e2
            exact ⟨J, _, sv, fun hz => q Z1 H1 L1 [] J r1 (s1.sub fun a h => List.mem_append_right _ h) sr hz⟩
        · exact q.elim
      | _ => exact q.elim
    | nm j =>
      obtain ⟨rfl, hv⟩ := h1.nm
      unfold itSeq at q
      simp only at q
      split at q
      · rename_i pn ds e2
        obtain ⟨v', F', k1, k2, _⟩ := r1.sl.get e2
        rw [hv] at k1
        cases k1
        obtain ⟨a, xs, rfl, _, ea, dz⟩ := k2.single
        refine ⟨_, _, .lst (.inl (.inl ea)), fun hz => ?_⟩
        rw [dz.length] at hz
        exact q Z1 H1 L1 [] _ r1 s1 (.slot e2 hv) hz
      · rename_i pn d e2
        split at q
        · rename_i ds e3
          obtain ⟨v', F', k1, k2, _⟩ := r1.sl.get e2
          rw [hv] at k1
          cases k1
          cases k2 with
          | val hd =>
            obtain ⟨J, n, sv, rfl, sr⟩ := src_val (ρ := ρ1) (σ := σ) (L := L1) hd e3
            exact ⟨J, _, sv, fun hz => q Z1 H1 L1 [] J r1 s1 sr hz⟩
        · exact q.elim
      · exact q.elim
def iRng1 (as : AS) : IS := fun ρ => (as ρ).bind fun ps ρ1 => match looks ρ1 ps with
      | some [.val (.int j)] => if j ≤ 1000000 ∧ -(2 ^ 62) ≤ j then .ok (none, rng 0 j.toNat) ρ1 else .stuck
      | _ => .stuck
def iRng2 (as : AS) : IS := fun ρ => (as ρ).bind fun ps ρ1 => match looks ρ1 ps with
      | some [.val (.int i), .val (.int j)] => if -1000000 ≤ i ∧ i ≤ 1000000 ∧ -1000000 ≤ j ∧ j ≤ 1000000 then .ok (none, rng i (j - i).toNat) ρ1 else .stuck
      | _ => .stuck
theorem rng_len (lo : Int) (n : Nat) : (rng lo n).length = n := by simp [rng]
theorem million : (2000000 : Nat) ≤ sizeLine := by decide
theorem paired_one {α β : Type} {R : α → β → Prop} {a : α} {ys : List β} (h : Paired R [a] ys) : ∃ x, ys = [x] ∧ R a x := by
  cases h with
  | cons h1 t =>
    cases t
    exact ⟨_, rfl, h1⟩
theorem si_rng1 {tg a : Expr} {p pos : Pos} (hg : Gl X "range") (hm : X.mg "range" = none) (ha : PA X [a] (RdA X ca W as)) (hs : starEach [a] X.env = [(false, eval a X.env)]) : PI X tg (.Call (.Name "range" p) [a] [] pos) (RdI X ca W (iRng1 as)) := PI.imp (pi_range1 hg hm ha hs) fun σ H R ⟨θ, Z, ρ, L, r, q⟩ => by
  refine ⟨θ, Z, ρ, L, r, ?_⟩
  unfold iRng1 at q
  cases e1 : as ρ with
  | stuck => rw [e1] at q; exact q
  | exc c ρ1 => rw [e1] at q; exact q
  | ok ps ρ1 =>
    rw [e1] at q
    simp only [bind_ok] at q
    intro Z1 H1 L1 F vs r1 h1 s1
    split at q
    · rename_i j e2
      split at q
      · rename_i hj
        obtain ⟨x, rfl, hx⟩ := paired_one (h1.ok.looks r1 e2)
        cases rb_int hx
        exact ⟨j, rfl, hj.2, by omega, q Z1 H1 L1 [] _ r1 (s1.sub fun a h => List.mem_append_right _ h) .rng (by rw [rng_len]; have := million; omega)⟩
      · exact q.elim
    · exact q.elim
def iZip (f g : ES) : IS := fun ρ => (oAs [f, g] ρ).bind fun ps ρ1 => match gives ρ1 ps with
  | some ([.list ds, .tuple es], ρ2) => if (zipD ds es).length ≤ sizeLine then .ok (none, zipD ds es) ρ2 else .stuck
  | _ => .stuck
/-! ### pins -/
/-! ### pins -/
def unpin (j : Nat) (ρ : En) : En := match ρ[j]? with
  | some (some (_, o)) => ρ.set j (some (false, o))
  | _ => ρ
def unpS (j : Nat) : SOut → SOut
  | .nx ρ => .nx (unpin j ρ)
  | .bk ρ => .bk (unpin j ρ)
  | .ct ρ => .ct (unpin j ρ)
  | .rt o ρ => .rt o (unpin j ρ)
  | .exc c ρ => .exc c (unpin j ρ)
  | .stuck => .stuck
theorem RoS.congr : ∀ {ρ ρ' : En} {σ : L2.St} {L : List Addr}, RoS G Z H ρ σ L → ρ'.map (Option.map (·.2)) = ρ.map (Option.map (·.2)) → RoS G Z H ρ' σ L
  | _, [], _, _, .emp, _ => .emp
  | _, _ :: _, _, _, .emp, e => by cases e
  | _, [], _, _, .no t, e => by cases e
  | _, sl :: ρ', _, _, .no t, e => by
    simp only [List.map_cons, List.cons.injEq, Option.map_none, Option.map_eq_none_iff] at e
    obtain ⟨rfl, e⟩ := e
    exact .no (RoS.congr t e)
  | _, [], _, _, .yes h t, e => by cases e
  | _, sl :: ρ', _, _, .yes h t, e => by
    simp only [List.map_cons, List.cons.injEq, Option.map_some, Option.map_eq_some_iff] at e
    obtain ⟨⟨⟨p, o⟩, rfl, rfl⟩, e⟩ := e
    exact .yes h (RoS.congr t e)
theorem map_pin {j : Nat} {p p' : Bool} {o : O} {ρ : En} (e : ρ[j]? = some (some (p, o))) : (ρ.set j (some (p', o))).map (Option.map (·.2)) = ρ.map (Option.map (·.2)) := by
  rw [List.map_set]
  refine set_back ?_
  rw [List.getElem?_map, e]
  rfl
theorem unpin_map (j : Nat) (ρ : En) : (unpin j ρ).map (Option.map (·.2)) = ρ.map (Option.map (·.2)) := by
  unfold unpin
  split
  · rename_i p' o e
    exact map_pin e
  · rfl
theorem unpin_get {j i : Nat} {ρ : En} {o : O} (e : (unpin j ρ)[i]? = some (some (true, o))) : i ≠ j ∧ ρ[i]? = some (some (true, o)) := by
  unfold unpin at e
  split at e
  · rename_i p' o' e'
    by_cases h : i = j
    · subst h
      have li := (List.getElem?_eq_some_iff.mp e').1
      rw [List.getElem?_set_self li] at e
      cases e
    · rw [List.getElem?_set_ne (Ne.symm h)] at e
      exact ⟨h, e⟩
  · rename_i hn
    by_cases h : i = j
    · subst h
      exact absurd e (hn true o)
    · exact ⟨h, e⟩
/-- the pin is taken off -/
theorem Rep.unpin {j : Nat} (r : Rep θ' G Z H ρ σ L) (h : ∀ i, i ≠ j → θ' i = θ i) : Rep θ G Z H (Eng.unpin j ρ) σ L := by
  refine ⟨r.sl.congr (unpin_map j ρ), r.nd, r.dis, r.zd, fun i o e => ?_⟩
  obtain ⟨hi, e'⟩ := unpin_get e
  rw [r.pn i o e', h i hi]
/-- a pin is put on -/
theorem Rep.pinOn {j : Nat} {p : Bool} {o : O} {v : V} (r : Rep θ G Z H ρ σ L) (e : ρ[j]? = some (some (p, o))) (hv : σ[j]? = some (some v)) : Rep (fun i => if i = j then v else θ i) G Z H (ρ.set j (some (true, o))) σ L := by
  refine ⟨r.sl.congr (map_pin e), r.nd, r.dis, r.zd, fun i o' e' => ?_⟩
  by_cases h : i = j
  · subst h
    simp only [if_true]
    exact hv
  · rw [List.getElem?_set_ne (Ne.symm h)] at e'
    simp only [h, if_false]
    exact r.pn i o' e'
theorem PoS.unpin {j : Nat} {o : SOut} (q : PoS X ca W θ Z L H Dn (unpS j o)) (h : ∀ i, i ≠ j → θ' i = θ i) : PoS X ca W θ' Z L H Dn o := by
  cases o with
  | stuck => exact q
  | exc c ρ1 => exact fun Z' H' L' σ' r s => q Z' H' L' σ' (r.unpin h) s
  | nx ρ1 => exact fun Z' H' L' σ' r s => q Z' H' L' σ' (r.unpin h) s
  | bk ρ1 => exact fun Z' H' L' σ' r s => q Z' H' L' σ' (r.unpin h) s
  | ct ρ1 => exact fun Z' H' L' σ' r s => q Z' H' L' σ' (r.unpin h) s
  | rt o ρ1 => exact fun Z' H' L' F v σ' r hh s => q Z' H' L' F v σ' (r.unpin h) hh s

/-! ### for -/
noncomputable def forW (T : Tgt) (fg : List Nat) (b : SS) (x : Option Nat × List D) (ρ : En) : SOut := match x with
  | (none, ds) => forL none T fg b ds ρ
  | (some j, ds) => match ρ[j]? with
    | some (some (true, _)) => forL (some (j, ds)) T fg b ds ρ
    | some (some (false, o)) => unpS j (forL (some (j, ds)) T fg b ds (ρ.set j (some (true, o))))
    | _ => .stuck
noncomputable def sFor (it : IS) (T : Tgt) (fg : List Nat) (b : SS) : SS := fun ρ => (it ρ).bindS fun x ρ1 => forW T fg b x ρ1
theorem ss_for {tg iter : Expr} {body : List Stmt} {T : Tgt} {fg : List Nat} {pos : Pos} (hp : PassesOwn (model X.prog X.w) X.A X.env X.xe) (hc : X.calm = true) (hi : PI X tg iter (RdI X ca W it)) (hg : PG X tg (tgR X ca T)) (hb : PSs X body (RdS X ca W b))
    (hs : ∀ x, foldedSetIterable iter X.env x = pure x) : PS X (.For tg iter body [] pos) (RdS X ca W (sFor it T fg b)) :=
  PS.imp (ps_for hp hc hi hg hb hs) fun Dn σ H ⟨θ, Z, ρ, L, r, q⟩ => by
    refine ⟨θ, Z, ρ, L, r, ?_⟩
    unfold sFor at q
    cases e1 : it ρ with
    | stuck => rw [e1] at q; exact q
    | exc c ρ1 => rw [e1] at q; exact fun Z' H' L' r' s' => q Z' H' L' σ r' s'
    | ok x ρ1 =>
      rw [e1] at q
      obtain ⟨j, ds⟩ := x
      simp only [bindS_ok] at q
      intro Z1 H1 L1 F J r1 s1 sr hz
      cases j with
      | none =>
        obtain ⟨Ok, w, k⟩ := sr.walk (θ := θ)
        exact w.for r1 k (s1.sub fun a h => List.mem_append_right _ h) q
      | some j =>
        cases sr with
        | slot e h =>
          rename_i p a
          unfold forW at q
          simp only at q
          rw [e] at q
          cases p with
          | true =>
            simp only at q
            have hθ := r1.pn j _ e
            rw [h] at hθ
            exact (wlk_slot (Option.some.inj (Option.some.inj hθ)).symm).for r1 e s1 q
          | false =>
            simp only at q
            have r2 := r1.pinOn e h
            have q2 := PoS.unpin (θ' := fun i => if i = j then V.ref a else θ i) q fun i hi => by simp [hi]
            have lj := (List.getElem?_eq_some_iff.mp e).1
            exact (wlk_slot (θ := fun i => if i = j then V.ref a else θ i) (by simp)).for r2 (by rw [List.getElem?_set_self lj]) s1 q2

/-! ### while -/
def whileN (t : TS') (fg : List Nat) (b : SS) : Nat → SS
  | 0, _ => .stuck
  | n + 1, ρ => (t ρ).bindS fun k ρ1 => if k = true then match b ρ1 with
      | .nx ρ2 => whileN t fg b n (dropE fg ρ2)
      | .ct ρ2 => whileN t fg b n (dropE fg ρ2)
      | .bk ρ2 => .nx (dropE fg ρ2)
      | o => o
    else .nx ρ1
open Classical in
noncomputable def sWhile (t : TS') (fg : List Nat) (b : SS) : SS := fun ρ => if h : ∃ n, whileN t fg b n ρ ≠ .stuck then whileN t fg b (choose h) ρ else .stuck
theorem whileN_mono (t : TS') (fg : List Nat) (b : SS) : ∀ (n : Nat) (ρ : En), whileN t fg b n ρ ≠ .stuck → ∀ m, n ≤ m → whileN t fg b m ρ = whileN t fg b n ρ
  | 0, _, h, _, _ => absurd rfl h
  | n + 1, ρ, h, 0, hm => absurd hm (by omega)
  | n + 1, ρ, h, m + 1, hm => by
    unfold whileN at h ⊢
    cases e : t ρ with
    | stuck => rfl
    | exc c ρ1 => rfl
    | ok k ρ1 =>
      rw [e] at h
      cases k with
      | false => rfl
      | true =>
        simp only [bindS_ok, if_true] at h ⊢
        cases eb : b ρ1 with
        | nx ρ2 => rw [eb] at h; exact whileN_mono t fg b n _ h m (by omega)
        | ct ρ2 => rw [eb] at h; exact whileN_mono t fg b n _ h m (by omega)
        | _ => rfl
theorem sWhile_of {t : TS'} {fg : List Nat} {b : SS} {n : Nat} {ρ : En} {o : SOut} (e : whileN t fg b n ρ = o) (h : o ≠ .stuck) : sWhile t fg b ρ = o := by
  subst e
  have hx : ∃ n, whileN t fg b n ρ ≠ .stuck := ⟨n, h⟩
  unfold sWhile
  rw [dif_pos hx]
  rcases Nat.le_total n (Classical.choose hx) with hl | hl
  · exact whileN_mono t fg b n ρ h _ hl
  · exact (whileN_mono t fg b _ ρ (Classical.choose_spec hx) _ hl).symm
theorem sWhile_ex {t : TS'} {fg : List Nat} {b : SS} {ρ : En} (h : sWhile t fg b ρ ≠ .stuck) : ∃ n, whileN t fg b n ρ = sWhile t fg b ρ := by
  unfold sWhile at h ⊢
  split
  · exact ⟨_, rfl⟩
  · rename_i hn
    rw [dif_neg hn] at h
    exact absurd rfl h
/-- a turn is gone -/
theorem sWhile_turn {t : TS'} {fg : List Nat} {b : SS} {ρ ρ1 ρ2 : En} (h1 : t ρ = .ok true ρ1) (h2 : b ρ1 = .nx ρ2 ∨ b ρ1 = .ct ρ2) : sWhile t fg b ρ = sWhile t fg b (dropE fg ρ2) := by
  have step : ∀ n, whileN t fg b (n + 1) ρ = whileN t fg b n (dropE fg ρ2) := fun n => by
    rw [whileN, h1]
    simp only [bindS_ok, if_true]
    rcases h2 with h2 | h2 <;> rw [h2]
  by_cases h : sWhile t fg b (dropE fg ρ2) = .stuck
  · rw [h]
    refine Classical.byContradiction fun hn => ?_
    obtain ⟨n, e⟩ := sWhile_ex hn
    cases n with
    | zero => exact hn e.symm
    | succ n =>
      rw [step n] at e
      exact hn ((sWhile_of e hn).symm.trans h).symm.symm
  · obtain ⟨n, e⟩ := sWhile_ex h
    exact sWhile_of (n := n + 1) (by rw [step n, e]) h
theorem sWhile_done {t : TS'} {fg : List Nat} {b : SS} {ρ ρ1 : En} (h1 : t ρ = .ok false ρ1) : sWhile t fg b ρ = .nx ρ1 := sWhile_of (n := 1) (by rw [whileN, h1]; rfl) (by intro h; cases h)
theorem ss_while {c : Expr} {body : List Stmt} {fg : List Nat} {pos : Pos} (hp : PassesOwn (model X.prog X.w) X.A X.env X.xe) (hc : PT X c (RdT X ca W t)) (hb : PSs X body (RdS X ca W b)) : PS X (.While c body [] pos) (RdS X ca W (sWhile t fg b)) :=
  PS.imp (ps_while hp hc hb) fun Dn σ H ⟨θ, Z0, ρ0, L0, r0, q0⟩ => by
    obtain ⟨n0, e0⟩ := sWhile_ex (t := t) (fg := fg) (b := b) (ρ := ρ0) (fun h => by rw [h] at q0; exact q0)
    rw [← e0] at q0
    refine ⟨fun n σ H' => ∃ Z ρ L, Rep θ (gx X ca) Z H' ρ σ L ∧ Step Z0 L0 H Z L H' ∧ PoS X ca W θ Z0 L0 H Dn (whileN t fg b n ρ), ⟨n0, Z0, ρ0, L0, r0, Step.refl, q0⟩, ?_⟩
    rintro n σ H' ⟨Z, ρ, L, r, s, q⟩
    cases n with
    | zero => exact q.elim
    | succ n =>
      unfold whileN at q
      refine ⟨θ, Z, ρ, L, r, ?_⟩
      cases e : t ρ with
      | stuck => rw [e] at q; exact q
      | exc c ρ1 => rw [e] at q; exact fun Z' H' L' r' s' => q Z' H' L' σ r' (s.trans s')
      | ok k ρ1 =>
        rw [e] at q
        intro Z1 H1 L1 r1 s1
        cases k with
        | false =>
          simp only [bindS_ok, Bool.false_eq_true, if_false] at q ⊢
          exact q Z1 H1 L1 σ r1 (s.trans s1)
        | true =>
          simp only [bindS_ok, if_true] at q ⊢
          refine ⟨fun σ2 H2 => ∃ Z ρ L, Rep θ (gx X ca) Z H2 ρ σ2 L ∧ Step Z0 L0 H Z L H2 ∧ PoS X ca W θ Z0 L0 H Dn (whileN t fg b n ρ), fun σ' H' h => ⟨n, Nat.lt_succ_self n, h⟩, θ, Z1, ρ1, L1, r1, ?_⟩
          have s01 := s.trans s1
          have turn : ∀ ρ2 Z2 H2 L2 σ2, PoS X ca W θ Z0 L0 H Dn (whileN t fg b n (dropE fg ρ2)) → Rep θ (gx X ca) Z2 H2 ρ2 σ2 L2 → Step Z1 L1 H1 Z2 L2 H2 → ∃ Z ρ L, Rep θ (gx X ca) Z H2 ρ σ2 L ∧ Step Z0 L0 H Z L H2 ∧ PoS X ca W θ Z0 L0 H Dn (whileN t fg b n ρ) := fun ρ2 Z2 H2 L2 σ2 q r2 s2 => by
            obtain ⟨L3, r3, h3⟩ := r2.drop fg
            exact ⟨Z2, _, L3, r3, (s01.trans s2).sub h3, q⟩
          cases eb : b ρ1 with
          | stuck => rw [eb] at q; exact q
          | nx ρ2 => rw [eb] at q; exact fun Z2 H2 L2 σ2 r2 s2 => turn ρ2 Z2 H2 L2 σ2 q r2 s2
          | ct ρ2 => rw [eb] at q; exact fun Z2 H2 L2 σ2 r2 s2 => turn ρ2 Z2 H2 L2 σ2 q r2 s2
          | bk ρ2 =>
            rw [eb] at q
            intro Z2 H2 L2 σ2 r2 s2
            obtain ⟨L3, r3, h3⟩ := r2.drop fg
            exact q Z2 H2 L3 σ2 r3 ((s01.trans s2).sub h3)
          | rt o ρ2 => rw [eb] at q; exact fun Z2 H2 L2 F v σ2 r2 h2 s2 => q Z2 H2 L2 F v σ2 r2 h2 (s01.trans s2)
          | exc c ρ2 => rw [eb] at q; exact fun Z2 H2 L2 σ2 r2 s2 => q Z2 H2 L2 σ2 r2 (s01.trans s2)
end
end Eng
set_option maxHeartbeats 1000000
/-! The engine, part 17: a def as a function of objects; its calls. -/
namespace Eng
open PySem PySem.Spec L2
open PyProof.Rows hiding St

/-- around a body nothing is let out -/
theorem takesN0 {X : Cx} : L2N.Takes X (fun _ _ _ _ => False) := fun _ _ x => by
  obtain ⟨_, _, _, _, _, _, _, _, _, _, _, _, _, _, _, _, z⟩ := x
  exact z.elim
/-! ### a def's promise where no text is being told -/
structure EFn (P : Program) (w : World) (K : PySem.W.Frag) (mg : Str → Option Value) (base : Heap) (k : Nat) (f : Addr) (fd : FuncData) (ps : List Str) (sp : Sp) : Prop where
  len : ∀ vs H Q E, sp vs H Q E → vs.length = ps.length
  go : ∀ (A : Around) (outer : List Env) (s : Shared) (H : Hp) (args : Args) (us : List Value) (vs : List V) (Q : VK) (E : XK), A.guards = some [] → Room k A → Env0 P w K mg base A outer s H → BindsTo s fd args (ps.zip us) → Vals vs us → sp vs H Q E →
    codeAny (model P w) A (.call (.ref f) args) (CR (L2N.CX P w) outer P w H s Q E) s
theorem EFn.mono {P : Program} {w : World} {K : PySem.W.Frag} {mg : Str → Option Value} {base : Heap} {j k : Nat} {f : Addr} {fd : FuncData} {ps : List Str} {sp : Sp} (F : EFn P w K mg base j f fd ps sp) (h : j ≤ k) : EFn P w K mg base k f fd ps sp :=
  ⟨F.len, fun A outer s H args us vs Q E hg hr => F.go A outer s H args us vs Q E hg (hr.mono h)⟩
theorem EFn.imp {P : Program} {w : World} {K : PySem.W.Frag} {mg : Str → Option Value} {base : Heap} {k : Nat} {f : Addr} {fd : FuncData} {ps : List Str} {sp sp' : Sp} (F : EFn P w K mg base k f fd ps sp) (h : ∀ vs H Q E, sp' vs H Q E → sp vs H Q E) : EFn P w K mg base k f fd ps sp' :=
  ⟨fun vs H Q E q => F.len vs H Q E (h vs H Q E q), fun A outer s H args us vs Q E hg hr e b r q => F.go A outer s H args us vs Q E hg hr e b r (h vs H Q E q)⟩
theorem deeper_guards (A : Around) (env : Env) : (A.deeper env).guards = A.guards := by
  obtain ⟨_, _, _, _, _⟩ := A
  rfl
theorem efn_of {P : Program} {w : World} {K : PySem.W.Frag} {mg : Str → Option Value} {base : Heap} {x qual : Str} {st : Stmt} {f : Addr} {fd : FuncData} {N ps : List Str} {k : Nat} {sp : Sp} (F : Fun K x qual st f fd) (S : FnScope N ps (defScope st)) (len : ∀ vs H Q E, sp vs H Q E → vs.length = ps.length)
    (body : ∀ (cdv : Value) (A : Around) (outer : List Env) (s : Shared) (H : Hp) (vs : List V) (Q : VK) (E : XK), A.guards = some [] → Room k (A.deeper (envOfC qual (defScope st) s.heap.objs.size f cdv)) → sp vs H Q E →
      ∃ t, PSs (cxOf (L2N.CX P w) P w K mg base N qual (defScope st) f cdv A outer s H E) (defBody st) t ∧ t { nx := fun _ H' => Q .non H', rt := Q } (L2.start N vs) H) : EFn P w K mg base (k + 1) f fd ps sp := by
  obtain ⟨oc, od, kV, doc, pm, an, cdv, ct, osl, rfl, lk, cd⟩ := F.ex
  refine ⟨len, fun A outer s H args us vs Q E hg hr e0 hb rv hsp => ?_⟩
  have keepB : ∀ b o, base.get? b = some o → s.heap.get? b = some o := fun b o e => (e0.bs b o e).1
  have inK : K.In s.heap := e0.mod.kin.keeps keepB
  have kinds : ∀ y ∈ ps.zip us, (defScope st).names.lookup y.1 = some .local ∨ ((defScope st).names.lookup y.1 = some .cell ∧ ((cellsFrom (s.heap.objs.size + 1) (defScope st).names []).lookup y.1).isSome = true) := by
    rintro ⟨n, u⟩ hy
    exact (S.par n (List.of_mem_zip hy).1).imp id fun q => ⟨q, PySem.W.cellsFrom_some _ _ _ (.inl q)⟩
  refine codeAny_call_function hr.depth (inK f _ lk) rfl S.co S.gen rfl (PySem.W.codeRec_of inK cd) (hb _ _ _ _ ?_)
  refine wpAny_newFunctionEnv_cells S.kind kinds fun env he s1 x => ?_
  subst he
  refine ⟨(e0.mod.nolimit.keeps keepB).keeps x.toInCall.keep, codeAny_func ?_⟩
  obtain ⟨t, ht, q⟩ := body cdv A outer s H vs Q E hg (hr.deeper _) hsp
  have I0 := inv_start (CX := L2N.CX P w) (E := E) S hr.hd e0 (len _ _ _ _ hsp) rv x
  refine wpAny_mono (ht.run [] s1 (L2.start N vs) H _ I0 q) (fun fl s' h => ?_) fun e s' h => h
  cases fl with
  | ret u =>
    obtain ⟨v, σ', H', J, r, q⟩ := h
    exact ⟨v, H', J.os, J.bare, J.base, J.hok, r, q⟩
  | next =>
    obtain ⟨σ', H', J, q⟩ := h
    exact ⟨.non, H', J.os, J.bare, J.base, J.hok, rfl, q⟩
  | brk =>
    obtain ⟨_, _, _, q⟩ := h
    exact q.elim
  | cont =>
    obtain ⟨_, _, _, q⟩ := h
    exact q.elim
section
variable {X : Cx} {k : Nat} {f : Addr} {fd : FuncData} {ps : List Str} {sp : Sp} {x : Str} {p pos : Pos} {e : Expr} {es : List Expr} {t : TA} {W : WX}
theorem efn_run {pins : List (Addr × Obj)} {σ : L2.St} {H : Hp} {s : Shared} {Q : VK} {us : List Value} {vs : List V} (F : EFn X.prog X.w X.K X.mg X.base k f fd ps sp) (hg : X.A.guards = some []) (hr : Room k X.A) (hb : Binds X.K fd ps []) (tk : L2N.Takes X W)
    (I : Inv X pins σ H s) (r : Vals vs us) (h : sp vs H Q (WE W σ)) : wpAny (model X.prog X.w) X.A (call (.ref f) us) (EP X pins σ Q) X.xe s := by
  have b := hb s us I.kIn
  rw [List.append_nil] at b
  refine wpAny_call (codeAny_mono (F.go X.A X.stack s H ⟨us, []⟩ us vs Q (WE W σ) hg hr I.env0 (b (by rw [← r.length]; exact F.len vs H Q _ h)) r h) fun res s' q => ?_)
  cases res with
  | error e => exact L2N.passAt tk σ pins H s e s' I q
  | ok fl =>
    cases fl with
    | ret u => exact I.after q
    | next => exact q.elim
    | brk => exact q.elim
    | cont => exact q.elim
theorem pe_callE (F : EFn X.prog X.w X.K X.mg X.base k f fd ps sp) (hG : X.A.guards = some []) (hr : Room k X.A) (hg : Gl X x) (hm : X.mg x = some (.ref f)) (hk : PySem.W.keepIn X.K (.ref f) = true) (hb : Binds X.K fd ps []) (tk : L2N.Takes X W) (ha : PA X (e :: es) t)
    (hdb : (x == ("__debug__" : Str)) = false) (hs : ((e :: es).all notStar) = true) : PE X (.Call (.Name x p) (e :: es) [] pos) (fun σ H Q => t σ H fun vs H1 => sp vs H1 Q (WE W σ)) := by
  rw [List.all_cons, Bool.and_eq_true] at hs
  refine ⟨fun pins s σ H Q I h => wpAny_Call_Name_kw (ld_glob I hg hm ?_ hdb)⟩
  exact PySem.W.callWith_K (h₀ := X.base) I.ok.mod.kin hk (thn (ha.run pos pins s σ H _ I h) fun us s1 ⟨vs, H1, I1, r, q⟩ => ⟨I1.kIn, efn_run F hG hr hb tk I1 r q⟩) (star_cons hs.1) (star_plain hs.2)
end

/-! ### a def as a function of objects -/
inductive FOut where
  | ret (o : O) (fin : List O)
  | exc (c : Nat) (fin : List O)
  | stuck
abbrev FSem := List O → FOut
def O.own : O → Bool
  | .lst _ => true
  | .dic _ => true
  | .set _ => true
  | .ins _ _ => true
  | .exn _ => true
  | .yng _ _ => true
  | .ols _ => true
  | .junk => true
  | _ => false
inductive ArgsOk (G : Gx) (Z : Zs) (H : Hp) : List O → List V → List Addr → Prop
  | nil : ArgsOk G Z H [] [] []
  | cons {o : O} {v : V} {F F' : List Addr} {os : List O} {vs : List V} (h : Ro G Z H o v F) (t : ArgsOk G Z H os vs F') : ArgsOk G Z H (o :: os) (v :: vs) (F ++ F')
inductive FinOk (G : Gx) (Z : Zs) (H : Hp) : List O → List O → List V → List Addr → Prop
  | nil : FinOk G Z H [] [] [] []
  | val {o x : O} {v : V} {F' : List Addr} {os fin : List O} {vs : List V} (ho : o.own = false) (t : FinOk G Z H os fin vs F') : FinOk G Z H (o :: os) (x :: fin) (v :: vs) F'
  | own {o x : O} {v : V} {F F' : List Addr} {os fin : List O} {vs : List V} (ho : o.own = true) (h : Ro G Z H x v F) (t : FinOk G Z H os fin vs F') : FinOk G Z H (o :: os) (x :: fin) (v :: vs) (F ++ F')
def PoF (G : Gx) (Z : Zs) (F : List Addr) (H : Hp) (os : List O) (vs : List V) (Q : VK) (E : XK) : FOut → Prop
  | .ret o fin => ∀ Z' H' F' Fo v, FinOk G Z' H' os fin vs F' → Ro G Z' H' o v Fo → (Fo ++ F').Nodup → (∀ a ∈ Fo ++ F', ¬ Z' a) → (∀ a, Z' a → H' a ≠ none) → Step Z F H Z' (Fo ++ F') H' → Q v H'
  | .exc c fin => ∀ Z' H' F', FinOk G Z' H' os fin vs F' → F'.Nodup → (∀ a ∈ F', ¬ Z' a) → (∀ a, Z' a → H' a ≠ none) → Step Z F H Z' F' H' → E (.ref (G.ca c)) none H'
  | .stuck => False
/-- the promise: as the function tells -/
def spF (G : Gx) (n : Nat) (g : FSem) : Sp := fun vs H Q E => ∃ Z os F, vs.length = n ∧ ArgsOk G Z H os vs F ∧ F.Nodup ∧ (∀ a ∈ F, ¬ Z a) ∧ (∀ a, Z a → H a ≠ none) ∧ PoF G Z F H os vs Q E (g os)
def startE (n : Nat) (os : List O) : En := os.map (fun o => some (o.own, o)) ++ List.replicate (n - os.length) none
def fins : List O → En → Option (List O)
  | [], _ => some []
  | o :: os, sl :: ρ => if o.own = true then match sl with
      | some (true, x) => match fins os ρ with
        | some r => some (x :: r)
        | none => none
      | _ => none
    else match fins os ρ with
      | some r => some (o :: r)
      | none => none
  | _ :: _, [] => none
def runF (n : Nat) (b : SS) : FSem := fun os => match b (startE n os) with
  | .nx ρ => match fins os ρ with
    | some fin => .ret (.val .none) fin
    | none => .stuck
  | .rt o ρ => match fins os ρ with
    | some fin => .ret o fin
    | none => .stuck
  | .exc c ρ => match fins os ρ with
    | some fin => .exc c fin
    | none => .stuck
  | _ => .stuck
section
variable {G : Gx} {Z Z' : Zs} {H H' : Hp} {L F : List Addr} {os fin : List O} {vs : List V} {ρ : En} {σ : L2.St} {θ : Nat → V}
theorem ArgsOk.length : ∀ {os : List O} {vs : List V} {F : List Addr}, ArgsOk G Z H os vs F → vs.length = os.length
  | _, _, _, .nil => rfl
  | _, _, _, .cons _ t => by rw [List.length_cons, List.length_cons, ArgsOk.length t]
theorem start_ros (N : List Str) : ∀ {os : List O} {vs : List V} {F : List Addr}, ArgsOk G Z H os vs F → ∀ m, RoS G Z H (os.map (fun o => some (o.own, o)) ++ List.replicate m none) (vs.map some ++ List.replicate m none) F
  | _, _, _, .nil, 0 => .emp
  | _, _, _, .nil, m + 1 => by
    show RoS G Z H (none :: List.replicate m none) (none :: List.replicate m none) []
    exact .no (start_ros N .nil m)
  | _, _, _, .cons h t, m => by
    have := start_ros N t m
    simp only [List.map_cons, List.cons_append]
    exact .yes h this
theorem start_rep (N : List Str) (a : ArgsOk G Z H os vs F) (nd : F.Nodup) (dis : ∀ a ∈ F, ¬ Z a) (zd : ∀ a, Z a → H a ≠ none) : Rep (fun i => vs.getD i .non) G Z H (startE N.length os) (L2.start N vs) F := by
  unfold startE L2.start
  have hl := a.length
  refine ⟨by rw [hl]; exact start_ros N a _, nd, dis, zd, fun i o e => ?_⟩
  by_cases hi : i < os.length
  · have hv : i < vs.length := by omega
    rw [List.getElem?_append_left (by simpa using hv), List.getElem?_map]
    simp [hv]
  · rw [List.getElem?_append_right (by simpa using hi), List.getElem?_replicate] at e
    split at e <;> cases e
theorem fins_ok : ∀ {os : List O} {ρ : En} {fin : List O} {σ : L2.St} {L : List Addr} {vs : List V}, RoS G Z H ρ σ L → vs.length = os.length → fins os ρ = some fin → L.Nodup → (∀ a ∈ L, ¬ Z a) → (∀ i o, ρ[i]? = some (some (true, o)) → i < os.length → σ[i]? = some (vs[i]?)) →
    ∃ F', FinOk G Z H os fin vs F' ∧ F'.Nodup ∧ (∀ a ∈ F', a ∈ L)
  | [], ρ, fin, σ, L, vs, _, hl, e, _, _, _ => by
    cases vs with
    | cons => simp at hl
    | nil =>
      simp only [fins, Option.some.injEq] at e
      subst e
      exact ⟨[], .nil, List.nodup_nil, fun _ h => by cases h⟩
  | o :: os, ρ, fin, σ, L, [], _, hl, _, _, _, _ => by simp at hl
  | o :: os, ρ, fin, σ, L, v :: vs, r, hl, e, nd, dis, hp => by
    cases r with
    | emp => simp [fins] at e
    | no t =>
      unfold fins at e
      split at e
      · cases e
      · rename_i ho
        split at e
        · rename_i r' e'
          cases e
          obtain ⟨F', h1, h2, h3⟩ := fins_ok (vs := vs) t (by simpa using hl) e' nd dis fun i o hi hlt => by simpa using hp (i + 1) o (by simpa using hi) (by simpa using hlt)
          exact ⟨F', .val (by simpa using ho) h1, h2, h3⟩
        · cases e
    | yes h t =>
      rename_i p o' v' F0 L0
      have n := List.nodup_append.mp nd
      unfold fins at e
      split at e
      · rename_i ho
        cases p with
        | false => cases e
        | true =>
          simp only at e
          split at e
          · rename_i r' e'
            cases e
            obtain ⟨F', h1, h2, h3⟩ := fins_ok (vs := vs) t (by simpa using hl) e' n.2.1 (fun a ha => dis a (List.mem_append_right _ ha)) fun i o hi hlt => by simpa using hp (i + 1) o (by simpa using hi) (by simpa using hlt)
            have hv := hp 0 o' (by simp) (by simp)
            simp only [List.getElem?_cons_zero, Option.some.injEq] at hv
            subst hv
            refine ⟨_, .own ho h h1, List.nodup_append.mpr ⟨n.1, h2, fun a ha c hc => n.2.2 a ha c (h3 c hc)⟩, fun a ha => ?_⟩
            exact (List.mem_append.mp ha).elim (fun h => List.mem_append_left _ h) fun h => List.mem_append_right _ (h3 a h)
          · cases e
      · rename_i ho
        split at e
        · rename_i r' e'
          cases e
          obtain ⟨F', h1, h2, h3⟩ := fins_ok (vs := vs) t (by simpa using hl) e' n.2.1 (fun a ha => dis a (List.mem_append_right _ ha)) fun i o hi hlt => by simpa using hp (i + 1) o (by simpa using hi) (by simpa using hlt)
          exact ⟨F', .val (by simpa using ho) h1, h2, fun a ha => List.mem_append_right _ (h3 a ha)⟩
        · cases e
theorem fins_rep {N : List Str} (r : Rep (fun i => vs.getD i .non) G Z H ρ σ L) (hl : vs.length = os.length) (e : fins os ρ = some fin) : ∃ F', FinOk G Z H os fin vs F' ∧ F'.Nodup ∧ (∀ a ∈ F', a ∈ L) :=
  fins_ok r.sl hl e r.nd r.dis fun i o hi hlt => by
    have := r.pn i o hi
    rw [this]
    have hv : i < vs.length := by omega
    simp [hv]
end
/-- THE RULE: a def by its body's reading -/
theorem efn_body {P : Program} {w : World} {K : PySem.W.Frag} {mg : Str → Option Value} {base : Heap} {ca : Nat → Addr} {x qual : Str} {st : Stmt} {f : Addr} {fd : FuncData} {N ps : List Str} {k : Nat} {b : SS} (F : Fun K x qual st f fd) (S : FnScope N ps (defScope st))
    (body : ∀ (cdv : Value) (A : Around) (outer : List Env) (s : Shared) (H : Hp) (E : XK), A.guards = some [] → Room k (A.deeper (envOfC qual (defScope st) s.heap.objs.size f cdv)) →
      PSs (cxOf (L2N.CX P w) P w K mg base N qual (defScope st) f cdv A outer s H E) (defBody st) (RdS (cxOf (L2N.CX P w) P w K mg base N qual (defScope st) f cdv A outer s H E) ca (fun cls d _ H => E cls d H) b)) :
    EFn P w K mg base (k + 1) f fd ps (spF ⟨P, w, K, ca⟩ ps.length (runF N.length b)) := by
  refine efn_of F S (fun vs H Q E ⟨_, _, _, h, _⟩ => h) fun cdv A outer s H vs Q E hg hr ⟨Z, os, F0, hl, ha, nd, dis, zd, q⟩ => ⟨_, body cdv A outer s H E hg hr, fun i => vs.getD i .non, Z, startE N.length os, F0, start_rep N ha nd dis zd, ?_⟩
  have hlen := ha.length
  unfold runF at q
  cases e : b (startE N.length os) with
  | stuck => rw [e] at q; exact q
  | bk ρ => rw [e] at q; exact q.elim
  | ct ρ => rw [e] at q; exact q.elim
  | nx ρ =>
    rw [e] at q
    intro Z' H' L' σ' r s
    simp only at q
    split at q
    · rename_i fin e2
      obtain ⟨F', h1, h2, h3⟩ := fins_rep (N := N) r hlen e2
      exact q Z' H' F' [] .non h1 (.val .non) h2 (fun a ha => r.dis a (h3 a ha)) r.zd (s.sub h3)
    · exact q.elim
  | rt o ρ =>
    rw [e] at q
    intro Z' H' L' Fo v σ' r hh s
    simp only at q
    split at q
    · rename_i fin e2
      obtain ⟨F', h1, h2, h3⟩ := fins_rep (N := N) r hlen e2
      have n := List.nodup_append.mp hh.nd
      have sub : ∀ a ∈ Fo ++ F', a ∈ Fo ++ L' := fun a ha => (List.mem_append.mp ha).elim (fun h => List.mem_append_left _ h) fun h => List.mem_append_right _ (h3 a h)
      exact q Z' H' F' Fo v h1 hh.one (List.nodup_append.mpr ⟨n.1, h2, fun a ha c hc => n.2.2 a ha c (h3 c hc)⟩) (fun a ha => (List.mem_append.mp ha).elim (hh.dis a) fun h => r.dis a (h3 a h)) r.zd (s.sub sub)
    · exact q.elim
  | exc c ρ =>
    rw [e] at q
    intro Z' H' L' σ' r s
    simp only at q
    split at q
    · rename_i fin e2
      obtain ⟨F', h1, h2, h3⟩ := fins_rep (N := N) r hlen e2
      exact q Z' H' F' h1 h2 (fun a ha => r.dis a (h3 a ha)) r.zd (s.sub h3)
    · exact q.elim
end Eng
set_option maxHeartbeats 1000000
/-! The engine, part 18: calls read; raise; try. -/
namespace Eng
open PySem PySem.Spec L2
open PyProof.Rows hiding St

/-! ### arguments lifted out of their names -/
def lift1 (ρ : En) : Opd → Option (O × Option Bool × En)
  | .tmp o => some (o, none, ρ)
  | .nm i => match ρ[i]? with
    | some (some (p, o)) => if o.own = true then some (o, some p, ρ.set i none) else some (o, none, ρ)
    | _ => none
def lift (ρ : En) : List Opd → Option (List O × List (Option Bool) × En)
  | [] => some ([], [], ρ)
  | p :: ps => match lift1 ρ p with
    | some (o, b, ρ1) => match lift ρ1 ps with
      | some (os, bs, ρ2) => some (o :: os, b :: bs, ρ2)
      | none => none
    | none => none
def backs : List Opd → List (Option Bool) → List O → En → En
  | .nm i :: ps, some p :: bs, x :: fin, ρ => (backs ps bs fin ρ).set i (some (p, x))
  | _ :: ps, _ :: bs, _ :: fin, ρ => backs ps bs fin ρ
  | _, _, _, ρ => ρ
def callE (g : FSem) (ρ : En) (ps : List Opd) : Out Opd := match lift ρ ps with
  | some (os, bs, ρ1) => match g os with
    | .ret o fin => .ok (.tmp o) (backs ps bs fin ρ1)
    | .exc c fin => .exc c (backs ps bs fin ρ1)
    | .stuck => .stuck
  | none => .stuck
def oCall (g : FSem) (as : AS) : ES := fun ρ => (as ρ).bind fun ps ρ1 => callE g ρ1 ps
section
variable {X : Cx} {ca : Nat → Addr} {W : WX} {f g : ES} {as : AS} {G : Gx} {b : SS} {t : TS'} {it : IS}
variable {θ θ' : Nat → V} {Z Z1 Z0 Z' : Zs} {L L1 L0 L' F F0 : List Addr} {H H1 H0 H' : Hp} {σ σ' : L2.St} {ρ ρ1 ρ' : En} {Dn : Ends}
theorem lift1_none {p : Opd} {o : O} {bb : Option Bool} {i : Nat} (e : lift1 ρ p = some (o, bb, ρ1)) (h : ρ[i]? = some none) : ρ1[i]? = some none := by
  cases p with
  | tmp o' =>
    simp only [lift1, Option.some.injEq, Prod.mk.injEq] at e
    rw [← e.2.2]; exact h
  | nm j =>
    simp only [lift1] at e
    split at e
    · rename_i p' o' e'
      split at e
      · simp only [Option.some.injEq, Prod.mk.injEq] at e
        rw [← e.2.2]
        by_cases hj : j = i
        · subst hj; rw [h] at e'; cases e'
        · rw [List.getElem?_set_ne hj]; exact h
      · simp only [Option.some.injEq, Prod.mk.injEq] at e
        rw [← e.2.2]; exact h
    · cases e
theorem lift_none : ∀ {ps : List Opd} {os : List O} {bs : List (Option Bool)} {ρ ρ2 : En} {i : Nat}, lift ρ ps = some (os, bs, ρ2) → ρ[i]? = some none → ρ2[i]? = some none ∧ ∀ fin ρ3, ρ3[i]? = some none → (backs ps bs fin ρ3)[i]? = some none
  | [], _, _, ρ, ρ2, i, e, h => by
    simp only [lift, Option.some.injEq, Prod.mk.injEq] at e
    obtain ⟨rfl, rfl, rfl⟩ := e
    exact ⟨h, fun fin ρ3 h3 => by simpa [backs] using h3⟩
  | p :: ps, os, bs, ρ, ρ2, i, e, h => by
    unfold lift at e
    split at e
    · rename_i o bb ρ1 e1
      split at e
      · rename_i os' bs' ρ2' e2
        simp only [Option.some.injEq, Prod.mk.injEq] at e
        obtain ⟨rfl, rfl, rfl⟩ := e
        have h1 := lift1_none e1 h
        obtain ⟨k1, k2⟩ := lift_none e2 h1
        refine ⟨k1, fun fin ρ3 h3 => ?_⟩
        cases fin with
        | nil => cases p <;> cases bb <;> simpa [backs] using h3
        | cons x fin =>
          cases p with
          | tmp o' => cases bb <;> simpa [backs] using k2 fin ρ3 h3
          | nm j =>
            cases bb with
            | none => simpa [backs] using k2 fin ρ3 h3
            | some p' =>
              simp only [backs]
              by_cases hj : j = i
              · subst hj
                simp only [lift1, h] at e1
                cases e1
              · rw [List.getElem?_set_ne hj]
                exact k2 fin ρ3 h3
      · cases e
    · cases e
/-- the arguments as a callee gets them, and how they come back -/
theorem call_args : ∀ {ps : List Opd} {vs : List V} {F : List Addr} {ρ ρ2 : En} {L : List Addr} {os : List O} {bs : List (Option Bool)}, Rep θ G Z H ρ σ L → Held G Z H σ L ps vs F → lift ρ ps = some (os, bs, ρ2) →
    ∃ FA L2, Rep θ G Z H ρ2 σ L2 ∧ ArgsOk G Z H os vs FA ∧ (FA ++ L2).Nodup ∧ (∀ a ∈ FA, ¬ Z a) ∧ (∀ a, a ∈ FA ++ L2 → a ∈ F ++ L) ∧
      ∀ Z' H' fin F', Rep θ G Z' H' ρ2 σ L2 → FinOk G Z' H' os fin vs F' → (F' ++ L2).Nodup → (∀ a ∈ F', ¬ Z' a) → ∃ L3, Rep θ G Z' H' (backs ps bs fin ρ2) σ L3 ∧ ∀ a ∈ L3, a ∈ F' ++ L2
  | [], vs, F, ρ, ρ2, L, os, bs, r, h, e => by
    simp only [lift, Option.some.injEq, Prod.mk.injEq] at e
    obtain ⟨rfl, rfl, rfl⟩ := e
    have ho := h.ok
    cases ho
    exact ⟨[], L, r, .nil, r.nd, (fun _ q => by cases q), fun a ha => ha, fun Z' H' fin F' r' hf nd _ => by
      cases hf
      exact ⟨L, by simpa [backs] using r', fun a ha => ha⟩⟩
  | p :: ps, vs, F, ρ, ρ2, L, os, bs, r, h, e => by
    unfold lift at e
    split at e
    · rename_i o bb ρ1 e1
      split at e
      · rename_i os' bs' ρ2' e2
        simp only [Option.some.injEq, Prod.mk.injEq] at e
        obtain ⟨rfl, rfl, rfl⟩ := e
        have ho := h.ok
        cases vs with
        | nil => cases ho
        | cons v vs =>
          obtain ⟨F1, F2, rfl, o1, o2⟩ := ho.cons_split
          have nd := h.nd
          rw [List.append_assoc] at nd
          have n1 := List.nodup_append.mp nd
          have n2 := List.nodup_append.mp n1.2.1
          cases p with
          | tmp o' =>
            simp only [lift1, Option.some.injEq, Prod.mk.injEq] at e1
            obtain ⟨rfl, rfl, rfl⟩ := e1
            have h2 : Held G Z H σ L ps vs F2 := ⟨o2, n1.2.1, fun a ha => h.dis a (List.mem_append_right _ ha)⟩
            obtain ⟨FA, L2, r2, ha, ndA, disA, sub, bk⟩ := call_args r h2 e2
            have hr : Ro G Z H o' v F1 := by
              cases o1 with
              | tmp h5 t5 =>
                cases t5
                rw [List.append_nil]; exact h5
            have nA := List.nodup_append.mp ndA
            refine ⟨F1 ++ FA, L2, r2, .cons hr ha, ?_, fun a ha => (List.mem_append.mp ha).elim (fun q => h.dis a (List.mem_append_left _ q)) (disA a), fun a ha => ?_, fun Z' H' fin F' r' hf nd' dis' => ?_⟩
            · rw [List.append_assoc]
              refine List.nodup_append.mpr ⟨n1.1, ndA, fun a ha c hc q => ?_⟩
              subst q
              exact n1.2.2 a ha a (sub a hc) rfl
            · rw [List.append_assoc] at ha ⊢
              exact (List.mem_append.mp ha).elim (fun q => List.mem_append_left _ q) fun q => List.mem_append_right _ (sub a q)
            · cases hf with
              | val hv hf =>
                obtain ⟨L3, r3, s3⟩ := bk Z' H' _ _ r' hf nd' dis'
                exact ⟨L3, by simpa [backs] using r3, s3⟩
              | own hv hx hf =>
                rw [List.append_assoc] at nd'
                have m := List.nodup_append.mp nd'
                obtain ⟨L3, r3, s3⟩ := bk Z' H' _ _ r' hf m.2.1 (fun a ha => dis' a (List.mem_append_right _ ha))
                exact ⟨L3, by simpa [backs] using r3, fun a ha => by rw [List.append_assoc]; exact List.mem_append_right _ (s3 a ha)⟩
          | nm j =>
            have hj : F1 = [] ∧ σ[j]? = some (some v) := by
              cases o1 with
              | nm h5 t5 => cases t5; exact ⟨rfl, h5⟩
            obtain ⟨rfl, hv⟩ := hj
            simp only [lift1] at e1
            split at e1
            · rename_i pn ob eb
              split at e1
              · rename_i hown
                simp only [Option.some.injEq, Prod.mk.injEq] at e1
                obtain ⟨rfl, rfl, rfl⟩ := e1
                obtain ⟨Fi, Li, vi, k1, k2, k3, k4, k5, k6, k7⟩ := r.lift eb
                rw [hv] at k1
                cases k1
                have nn := List.nodup_append.mp n1.2.1
                have inL : ∀ a, a ∈ Li → a ∈ L := fun a ha => (k6 a).mp (List.mem_append_right _ ha)
                have h2 : Held G Z H σ Li ps vs F2 := ⟨o2, List.nodup_append.mpr ⟨nn.1, k3.nd, fun a ha c hc => nn.2.2 a ha c (inL c hc)⟩, fun a ha => h.dis a (by simpa using ha)⟩
                obtain ⟨FA, L2, r2, ha, ndA, disA, sub, bk⟩ := call_args k3 h2 e2
                have kk := List.nodup_append.mp k4
                have hne : ∀ a ∈ Fi, a ∉ FA ++ L2 := fun a ha hc => by
                  rcases List.mem_append.mp (sub a hc) with q | q
                  · exact nn.2.2 a q a ((k6 a).mp (List.mem_append_left _ ha)) rfl
                  · exact kk.2.2 a ha a q rfl
                refine ⟨Fi ++ FA, L2, r2, .cons k2 ha, ?_, fun a ha => (List.mem_append.mp ha).elim (k5 a) (disA a), fun a ha => ?_, fun Z' H' fin F' r' hf nd' dis' => ?_⟩
                · rw [List.append_assoc]
                  exact List.nodup_append.mpr ⟨kk.1, ndA, fun a ha c hc q => hne a ha (q ▸ hc)⟩
                · rw [List.append_assoc] at ha
                  rw [List.nil_append]
                  rcases List.mem_append.mp ha with q | q
                  · exact List.mem_append_right _ ((k6 a).mp (List.mem_append_left _ q))
                  · exact (List.mem_append.mp (sub a q)).elim (fun q => List.mem_append_left _ q) fun q => List.mem_append_right _ (inL a q)
                · cases hf with
                  | val hv' hf => rw [hown] at hv'; cases hv'
                  | own hv' hx hf =>
                    rw [List.append_assoc] at nd'
                    have m := List.nodup_append.mp nd'
                    obtain ⟨L3, r3, s3⟩ := bk Z' H' _ _ r' hf m.2.1 (fun a ha => dis' a (List.mem_append_right _ ha))
                    have lj := (List.getElem?_eq_some_iff.mp eb).1
                    have hn := (lift_none e2 (i := j) (by rw [List.getElem?_set_self lj]))
                    have hn2 := fun fin => hn.2 fin _ hn.1
                    obtain ⟨L4, r4, s4⟩ := r3.back (i := j) (p := pn) (hn2 _) hv hx (List.nodup_append.mpr ⟨m.1, r3.nd, fun a ha c hc q => m.2.2 a ha c (s3 c hc) q⟩) (fun a ha => dis' a (List.mem_append_left _ ha)) k7
                    refine ⟨L4, by simpa [backs] using r4, fun a ha => ?_⟩
                    rw [List.append_assoc]
                    exact (List.mem_append.mp ((s4 a).mp ha)).elim (fun q => List.mem_append_left _ q) fun q => List.mem_append_right _ (s3 a q)
              · rename_i hown
                simp only [Option.some.injEq, Prod.mk.injEq] at e1
                obtain ⟨rfl, rfl, rfl⟩ := e1
                have h2 : Held G Z H σ L ps vs F2 := ⟨o2, n1.2.1, fun a ha => h.dis a (by simpa using ha)⟩
                obtain ⟨FA, L2, r2, ha, ndA, disA, sub, bk⟩ := call_args r h2 e2
                obtain ⟨vi, Fi, k1, k2, _⟩ := r.sl.get eb
                rw [hv] at k1
                cases k1
                have hr : Ro G Z H ob v [] := by
                  cases k2 with
                  | val q => exact .val q
                  | scr q => exact .scr q
                  | _ => exact absurd rfl hown
                refine ⟨[] ++ FA, L2, r2, .cons hr ha, by simpa using ndA, fun a ha => disA a (by simpa using ha), fun a ha => sub a (by simpa using ha), fun Z' H' fin F' r' hf nd' dis' => ?_⟩
                cases hf with
                | val hv' hf =>
                  obtain ⟨L3, r3, s3⟩ := bk Z' H' _ _ r' hf nd' dis'
                  exact ⟨L3, by simpa [backs] using r3, s3⟩
                | own hv' hx hf => exact absurd hv' hown
            · cases e1
      · cases e
    · cases e
theorem Rep.aside (r : Rep θ G Z H ρ σ L) {F M : List Addr} (mu : ∀ a ∈ F, Mut (H a)) (nd : (F ++ L).Nodup) (dz : ∀ a ∈ F, ¬ Z a) (s : Step Z F H Z' M H') (zd : ∀ a, Z' a → H' a ≠ none) : Rep θ G Z' H' ρ σ L := by
  have n := List.nodup_append.mp nd
  have mL := r.sl.mut
  have nF : ∀ a ∈ L, a ∉ F := fun a ha hf => n.2.2 a hf a ha rfl
  refine ⟨r.sl.kp (s.kp mu dz) fun a ha u e => s.keep a u e (nF a ha), r.nd, fun a ha z => ?_, zd, r.pn⟩
  rcases s.znew a z with q | q | q
  · exact r.dis a ha q
  · exact nF a ha q
  · exact mut_some (mL a ha) q
theorem ArgsOk.mut : ∀ {os : List O} {vs : List V} {F : List Addr}, ArgsOk G Z H os vs F → ∀ a ∈ F, Mut (H a)
  | _, _, _, .nil, _, h => by cases h
  | _, _, _, .cons h t, a, ha => (List.mem_append.mp ha).elim (h.mut a) (ArgsOk.mut t a)
/-- a call's answer -/
theorem rd_call {fn : FSem} {n : Nat} {Q : VK} (q : RdE X ca W (oCall fn as) σ H Q) (hn : ∀ σ H Q, RdA X ca W as σ H Q → RdA X ca W as σ H fun vs H' => vs.length = n ∧ Q vs H') : RdA X ca W as σ H fun vs H1 => spF (gx X ca) n fn vs H1 Q (WE W σ) := by
  have key : RdA X ca W as σ H fun vs H1 => vs.length = n → spF (gx X ca) n fn vs H1 Q (WE W σ) := by
    obtain ⟨θ, Z, ρ, L, r, q⟩ := q
    refine ⟨θ, Z, ρ, L, r, ?_⟩
    unfold oCall at q
    cases e1 : as ρ with
    | stuck => rw [e1] at q; exact q
    | exc c ρ1 => rw [e1] at q; exact q
    | ok ps ρ1 =>
      rw [e1] at q
      simp only [bind_ok] at q
      intro Z1 H1 L1 F vs r1 h1 s1 hl
      unfold callE at q
      cases e2 : lift ρ1 ps with
      | none => rw [e2] at q; exact q.elim
      | some x =>
        obtain ⟨os, bs, ρ2⟩ := x
        rw [e2] at q
        simp only at q
        obtain ⟨FA, L2, r2, ha, ndA, disA, sub, bk⟩ := call_args r1 h1 e2
        have nA := List.nodup_append.mp ndA
        have muA := ha.mut
        refine ⟨Z1, os, FA, hl, ha, nA.1, disA, r2.zd, ?_⟩
        -- behind the call
        have beh : ∀ {Z' H' M}, Step Z1 FA H1 Z' M H' → M.Nodup → (∀ a, Z' a → H' a ≠ none) → Rep θ (gx X ca) Z' H' ρ2 σ L2 ∧ (M ++ L2).Nodup ∧ Step Z L H Z' (M ++ L2) H' := fun {Z' H' M} s nM zd => by
          have rr := r2.aside muA ndA disA s zd
          refine ⟨rr, List.nodup_append.mpr ⟨nM, r2.nd, fun a ha c hc q => ?_⟩, ?_⟩
          · subst q
            rcases s.lnew a ha with q | q
            · exact nA.2.2 a q a hc rfl
            · exact mut_some (r2.sl.mut a hc) q
          · have sA : Step Z L H Z1 (L2 ++ FA) H1 := s1.sub fun a ha => sub a ((List.mem_append.mp ha).elim (fun q => List.mem_append_right _ q) fun q => List.mem_append_left _ q)
            exact (sA.then s).sub fun a ha => (List.mem_append.mp ha).elim (fun q => List.mem_append_right _ q) fun q => List.mem_append_left _ q
        cases e3 : fn os with
        | stuck => rw [e3] at q; exact q
        | ret o fin =>
          rw [e3] at q
          intro Z' H' F' Fo v hf ho nd dis zd s
          have n := List.nodup_append.mp nd
          obtain ⟨rr, ndM, st⟩ := beh s nd zd
          rw [List.append_assoc] at ndM
          have m := List.nodup_append.mp ndM
          obtain ⟨L3, r3, s3⟩ := bk Z' H' fin F' rr hf m.2.1 fun a ha => dis a (List.mem_append_right _ ha)
          refine q Z' H' L3 Fo v r3 (.tmp ho (List.nodup_append.mpr ⟨n.1, r3.nd, fun a ha c hc => m.2.2 a ha c (s3 c hc)⟩) fun a ha => dis a (List.mem_append_left _ ha)) (st.sub fun a ha => ?_)
          rw [List.append_assoc]
          exact (List.mem_append.mp ha).elim (fun q => List.mem_append_left _ q) fun q => List.mem_append_right _ (s3 a q)
        | exc c fin =>
          rw [e3] at q
          intro Z' H' F' hf nd dis zd s
          obtain ⟨rr, ndM, st⟩ := beh s nd zd
          obtain ⟨L3, r3, s3⟩ := bk Z' H' fin F' rr hf ndM dis
          exact q Z' H' L3 r3 (st.sub s3)
  exact (hn _ _ _ key).mono fun vs H' ⟨h1, h2⟩ => h2 h1
theorem rdA_len : ∀ {fs : List ES} {σ : L2.St} {H : Hp} {Q : List V → Hp → Prop}, RdA X ca W (oAs fs) σ H Q → RdA X ca W (oAs fs) σ H fun vs H' => vs.length = fs.length ∧ Q vs H' := by
  intro fs σ H Q ⟨θ, Z, ρ, L, r, q⟩
  have len : ∀ {fs : List ES} {ρ ρ1 : En} {ps : List Opd}, oAs fs ρ = .ok ps ρ1 → ps.length = fs.length := by
    intro fs
    induction fs with
    | nil => intro ρ ρ1 ps e; cases e; rfl
    | cons f fs ih =>
      intro ρ ρ1 ps e
      unfold oAs at e
      cases e1 : f ρ with
      | stuck => rw [e1] at e; cases e
      | exc => rw [e1] at e; cases e
      | ok p ρ2 =>
        rw [e1] at e
        simp only [bind_ok] at e
        cases e2 : oAs fs ρ2 with
        | stuck => rw [e2] at e; cases e
        | exc => rw [e2] at e; cases e
        | ok ps' ρ3 =>
          rw [e2] at e
          cases e
          rw [List.length_cons, List.length_cons, ih e2]
  have olen : ∀ {ps : List Opd} {vs : List V} {H : Hp} {Z : Zs} {F : List Addr}, OpsOk (gx X ca) Z H σ ps vs F → vs.length = ps.length := by
    intro ps vs H Z F h
    induction h with
    | nil => rfl
    | tmp _ _ ih => rw [List.length_cons, List.length_cons, ih]
    | nm _ _ ih => rw [List.length_cons, List.length_cons, ih]
  refine ⟨θ, Z, ρ, L, r, ?_⟩
  cases e : oAs fs ρ with
  | stuck => rw [e] at q; exact q
  | exc c ρ1 => rw [e] at q; exact q
  | ok ps ρ1 =>
    rw [e] at q
    exact fun Z' H' L' F vs r' h' s' => ⟨(olen h'.ok).trans (len e), q Z' H' L' F vs r' h' s'⟩
theorem se_call {fn : FSem} {k : Nat} {fa : Addr} {fd : FuncData} {ps : List Str} {x : Str} {p pos : Pos} {e : Expr} {es : List Expr} {fs : List ES} (Fn : EFn X.prog X.w X.K X.mg X.base k fa fd ps (spF (gx X ca) fs.length fn)) (hG : X.A.guards = some []) (hr : Room k X.A) (hm : X.mg x = some (.ref fa)) (hk : PySem.W.keepIn X.K (.ref fa) = true)
    (hb : Binds X.K fd ps []) (tk : L2N.Takes X W) (hg : Gl X x) (ha : PA X (e :: es) (RdA X ca W (oAs fs))) (hdb : (x == ("__debug__" : Str)) = false) (hs : ((e :: es).all notStar) = true) : PE X (.Call (.Name x p) (e :: es) [] pos) (RdE X ca W (oCall fn (oAs fs))) :=
  PE.imp (pe_callE Fn hG hr hg hm hk hb tk ha hdb hs) fun σ H Q h => rd_call h fun _ _ _ h => rdA_len h

/-! ### raise -/
def sRaise (c : Nat) : SS := fun ρ => .exc c ρ
theorem ss_raise {C : Addr} {c : Nat} {x m : Str} {j : Nat} {p p2 pos pos' : Pos} {bmB : List Value} {B newId initId : String} (hC : ca c = C) (hc : X.calm = true) (tk : L2N.Takes X W) (Fx : ExcBaseFacts B newId initId bmB) (q : PySem.W.excIn X.K C bmB newId = true) (gC : X.mg x = some (.ref C)) (kC : PySem.W.keepIn X.K (.ref C) = true)
    (r : Raises X (.ref C)) (hg : Gl X x) (hdb : (x == ("__debug__" : Str)) = false) : PS X (.Raise (some (.Call (.Name x p) [.Constant (.str m) j p2] [] pos')) none pos) (RdS X ca W (sRaise c)) :=
  PS.imp (L2N.ps_raise hc tk (L2N.pmk_own Fx q gC kC r hg hdb)) fun D σ H ⟨θ, Z, ρ, L, rr, qq⟩ => by
    subst hC
    exact qq Z H L σ rr Step.refl
end
end Eng
set_option maxHeartbeats 1000000
/-! The engine, part 19: list comprehensions. -/
namespace Eng
open PySem PySem.Spec L2
open PyProof.Rows hiding St

/-- what is wanted between two turns of a comprehension -/
def lcC (c : Option (Nat × List D)) (own : List Nat) (ρ : En) : Prop := chkE c ρ ∧ ∀ i ∈ own, ρ[i]? = some none
open Classical in
noncomputable def lcL (c : Option (Nat × List D)) (T : Tgt) (t : TS') (f : ES) (own : List Nat) : List D → List D → En → Out (List D)
  | [], acc, ρ => .ok acc ρ
  | d :: ds, acc, ρ => match T.put d ρ with
    | none => .stuck
    | some ρ1 => match t ρ1 with
      | .ok b ρ2 => if b = true then match f ρ2 with
          | .ok p ρ3 => match give ρ3 p with
            | some (e, ρ4) => if lcC c own (dropE own ρ4) then lcL c T t f own ds (acc ++ [e]) (dropE own ρ4) else .stuck
            | none => .stuck
          | _ => .stuck
        else if lcC c own (dropE own ρ2) then lcL c T t f own ds acc (dropE own ρ2) else .stuck
      | _ => .stuck
/-- the names of the block hold what they held -/
def rest1 (ρ0 : En) (i : Nat) (ρ : En) : En := match ρ0[i]? with
  | some (some (false, .val d)) => ρ.set i (some (false, .val d))
  | _ => ρ
def restE (ρ0 : En) : List Nat → En → En
  | [], ρ => ρ
  | i :: is, ρ => match ρ[i]? with
    | some none => restE ρ0 is (rest1 ρ0 i ρ)
    | _ => restE ρ0 is ρ
open Classical in
noncomputable def lcW (c : Option (Nat × List D)) (T : Tgt) (t : TS') (f : ES) (own : List Nat) (ds : List D) (ρ : En) : Out (List D) :=
  if lcC c own (dropE own ρ) then match lcL c T t f own ds [] (dropE own ρ) with
    | .ok acc ρ2 => .ok acc (restE ρ own ρ2)
    | _ => .stuck
  else .stuck
noncomputable def lcE (T : Tgt) (t : TS') (f : ES) (own : List Nat) (x : Option Nat × List D) (ρ : En) : Out Opd := match x with
  | (none, ds) => (lcW none T t f own ds ρ).bind fun acc ρ2 => .ok (.tmp (.lst acc)) ρ2
  | (some j, ds) => match ρ[j]? with
    | some (some (true, _)) => (lcW (some (j, ds)) T t f own ds ρ).bind fun acc ρ2 => .ok (.tmp (.lst acc)) ρ2
    | some (some (false, o)) => (lcW (some (j, ds)) T t f own ds (ρ.set j (some (true, o)))).bind fun acc ρ2 => .ok (.tmp (.lst acc)) (unpin j ρ2)
    | _ => .stuck
noncomputable def oLc (it : IS) (T : Tgt) (t : TS') (f : ES) (own : List Nat) : ES := fun ρ => (it ρ).bind fun x ρ1 => lcE T t f own x ρ1
def tTrue : TS' := fun ρ => .ok true ρ
abbrev WF : WX := fun _ _ _ _ => False
section
variable {X : Cx} {ca : Nat → Addr} {W : WX} {f g : ES} {as : AS} {G : Gx} {b : SS} {t : TS'} {it : IS}
variable {θ θ' : Nat → V} {Z Z1 Z0 Z' : Zs} {L L1 L0 L' F F0 : List Addr} {H H1 H0 H' : Hp} {σ σ' : L2.St} {ρ ρ1 ρ' : En} {Dn : Ends}
theorem PTs.imp {es : List Expr} {t t' : TT} (h : PTs X es t) (i : ∀ σ H Q, t' σ H Q → t σ H Q) : PTs X es t' := ⟨fun pins s σ H Q I q => h.run pins s σ H Q I (i σ H Q q)⟩
theorem st_yes : PTs X [] (RdT X ca W tTrue) := PTs.imp pts_nil fun σ H Q ⟨θ, Z, ρ, L, r, q⟩ => q Z H L r Step.refl
theorem st_ifone {c : Expr} (h : PT X c (RdT X ca W t)) : PTs X [c] (RdT X ca W t) := pts_one h
theorem wipe_eq {own : List Nat} (h : Agr own σ σ') : wipe σ' own = wipe σ own := by
  refine List.ext_getElem? fun i => ?_
  by_cases hi : i ∈ own
  · have l1 : (wipe σ' own)[i]? = (wipe σ own)[i]? ∨ True := .inr trivial
    have key : ∀ {σ : L2.St}, (wipe σ own)[i]? = if i < σ.length then some none else none := fun {σ} => by
      cases e : (wipe σ own)[i]? with
      | none =>
        have := List.getElem?_eq_none_iff.mp e
        rw [wipe_length] at this
        rw [if_neg (by omega)]
      | some x =>
        have lt := (List.getElem?_eq_some_iff.mp e).1
        rw [wipe_length] at lt
        rw [if_pos lt]
        cases x with
        | none => rfl
        | some v => exact absurd hi (wipe_some e).2
    rw [key, key, h.1]
  · rw [wipe_out hi, wipe_out hi, h.2 i hi]
theorem RoS.agree : ∀ {ρ : En} {σ σ' : L2.St} {L : List Addr}, RoS G Z H ρ σ L → σ'.length = σ.length → (∀ (i : Nat) (po : Bool × O), ρ[i]? = some (some po) → σ'[i]? = σ[i]?) → RoS G Z H ρ σ' L
  | _, _, [], _, .emp, _, _ => .emp
  | _, _, _ :: _, _, .emp, hl, _ => by simp at hl
  | _, _, [], _, .no t, hl, _ => by simp at hl
  | _, _, y :: σ', _, .no t, hl, h => .no (RoS.agree t (by simpa using hl) fun i po e => by simpa using h (i + 1) po (by simpa using e))
  | _, _, [], _, .yes _ t, hl, _ => by simp at hl
  | _, _, y :: σ', _, .yes hr t, hl, h => by
    have h0 := h 0 _ rfl
    simp only [List.getElem?_cons_zero, Option.some.injEq] at h0
    subst h0
    exact .yes hr (RoS.agree t (by simpa using hl) fun i po e => by simpa using h (i + 1) po (by simpa using e))
theorem Rep.agree {own : List Nat} (r : Rep θ G Z H ρ σ L) (h : Agr own σ σ') (hn : ∀ i ∈ own, ρ[i]? = some none) : Rep θ G Z H ρ σ' L := by
  have key : ∀ (i : Nat) (po : Bool × O), ρ[i]? = some (some po) → σ'[i]? = σ[i]? := fun i po e => h.2 i fun hi => by
    rw [hn i hi] at e
    cases e
  exact ⟨r.sl.agree h.1 key, r.nd, r.dis, r.zd, fun i o e => by rw [key i _ e]; exact r.pn i o e⟩
theorem wipe_agr (own : List Nat) : Agr own σ (wipe σ own) := ⟨wipe_length _ _, fun i hi => wipe_out hi⟩
theorem Agr.symm {is : List Nat} (h : Agr is σ σ') : Agr is σ' σ := ⟨h.1.symm, fun i hi => (h.2 i hi).symm⟩
theorem Rep.upd {a : Addr} {u : HO} (r : Rep θ G Z H ρ σ L) (mu : Mut (H a)) (hL : a ∉ L) (nz : ¬ Z a) : Rep θ G Z (L2.upd H a u) ρ σ L :=
  ⟨r.sl.kp (kp_upd mu nz) fun b hb v e => by rw [upd_ne (show b ≠ a from fun q => hL (q ▸ hb))]; exact e, r.nd, r.dis, fun b z => by rw [upd_ne (show b ≠ a from fun q => nz (q ▸ z))]; exact r.zd b z, r.pn⟩
theorem Rep.rest {ρ0 : En} (hd : ∀ (i : Nat) (d : D), ρ0[i]? = some (some (false, .val d)) → ∃ v, σ[i]? = some (some v) ∧ Dz Z G.K H d v) : ∀ (own : List Nat) {ρ : En} {L : List Addr}, Rep θ G Z H ρ σ L → ∃ L', Rep θ G Z H (restE ρ0 own ρ) σ L' ∧ ∀ a, a ∈ L' → a ∈ L
  | [], _, L, r => ⟨L, r, fun _ h => h⟩
  | i :: is, ρ, L, r => by
    unfold restE
    split
    · rename_i e
      unfold rest1
      split
      · rename_i d e0
        obtain ⟨v, hv, dz⟩ := hd i d e0
        obtain ⟨L1, r1, h1⟩ := r.back (i := i) (p := false) (F := []) e hv (.val dz) r.nd (fun _ q => by cases q) (fun q => by cases q)
        obtain ⟨L2, r2, h2⟩ := Rep.rest hd is r1
        exact ⟨L2, r2, fun a ha => by simpa using (h1 a).mp (h2 a ha)⟩
      · exact Rep.rest hd is r
    · exact Rep.rest hd is r
/-- the turns of a comprehension -/
theorem lc_turns {c : Option (Nat × List D)} {T : Tgt} {own : List Nat} {J : It} {ds : List D} {Ok : Zs → Hp → En → List Addr → Prop} {accF : List D} {ρF : En} {Da : Addr} {Qd : Hp → Prop} (hT : ∀ i ∈ T.slots, i ∈ own) (w : Wlk θ (gx X ca) (chkE c) J ds Ok)
    (r : Rep θ (gx X ca) Z H ρ σ L) (k : Ok Z H ρ L) (hz : ds.length ≤ sizeLine) (hD : H Da = none) (e : lcW c T t f own ds ρ = .ok accF ρF)
    (fin : ∀ Z' H' L' xs, Rep θ (gx X ca) Z' H' ρF σ L' → H' Da = some (.lst xs) → DzA Z' X.K H' accF xs → Da ∉ L' → ¬ Z' Da → Step Z L H Z' (Da :: L') H' → Qd H') :
    ∃ W' : Nat → Nat → Hp → Prop, (∃ m, W' 0 m (L2.upd H Da (.lst []))) ∧ ∀ i m H, W' i m H → (J.stop i H ∧ Qd H) ∨ (J.go i H ∧ ∃ Nx : Hp → Prop, (∀ H', Nx H' → ∃ m', m' < m ∧ W' (i + 1) m' H') ∧ ∀ x H', J.yld i H x H' →
      tgR X ca T x (wipe σ own) H' fun σ2 H2 => wipe σ2 own = wipe σ own ∧ RdT X ca WF t σ2 H2 fun b H3 => if b = true then RdE X ca WF f σ2 H3 fun y H4 => ∃ acc, H4 Da = some (.lst acc) ∧ acc.length < sizeLine ∧ Nx (L2.upd H4 Da (.lst (acc ++ [y]))) else Nx H3) := by
  unfold lcW at e
  split at e
  · rename_i hc0
    cases eL : lcL c T t f own ds [] (dropE own ρ) with
    | stuck => rw [eL] at e; cases e
    | exc => rw [eL] at e; cases e
    | ok acc1 ρ2 =>
      rw [eL] at e
      simp only [Out.ok.injEq] at e
      obtain ⟨rfl, rfl⟩ := e
      -- the word between two turns
      let inv : Nat → Hp → Prop := fun i H2 => i ≤ ds.length ∧ ∃ Z2 ρ2' M2 acc xs, Rep θ (gx X ca) Z2 H2 ρ2' (wipe σ own) M2 ∧ (∀ i ∈ own, ρ2'[i]? = some none) ∧ Ok Z2 H2 ρ2' (Da :: M2) ∧ Da ∉ M2 ∧ (¬ Z2 Da) ∧ H2 Da = some (.lst xs) ∧ DzA Z2 X.K H2 acc xs ∧ acc.length ≤ i ∧
        Step Z L H Z2 (Da :: M2) H2 ∧ lcL c T t f own (ds.drop i) acc ρ2' = .ok acc1 ρ2
      refine ⟨fun i m H2 => m = ds.length - i ∧ inv i H2, ?_, ?_⟩
      · obtain ⟨L1, r1, h1⟩ := r.drop own
        have r2 : Rep θ (gx X ca) Z H (dropE own ρ) (wipe σ own) L1 := r1.agree (wipe_agr own) hc0.2
        have nDL : Da ∉ L := fun h => mut_some (r.sl.mut Da h) hD
        have nDZ : ¬ Z Da := fun h => r.zd Da h hD
        have same : Same H (L2.upd H Da (.lst [])) := same_new hD
        have s0 : Step Z L H Z (Da :: L1) (L2.upd H Da (.lst [])) := ⟨fun a o e _ => same a o e, fun _ h => h, fun _ h => .inl h, fun a ha => (List.mem_cons.mp ha).elim (fun h => .inr (h ▸ hD)) fun h => .inl (h1 a h)⟩
        have nd1 : (Da :: L1).Nodup := List.nodup_cons.mpr ⟨fun h => nDL (h1 Da h), r2.nd⟩
        exact ⟨_, rfl, Nat.zero_le _, Z, dropE own ρ, L1, [], [], r2.same same, hc0.2, w.step r.sl.mut r.dis k s0 nd1 hc0.1, fun h => nDL (h1 Da h), nDZ, upd_same, .nil, Nat.zero_le _, s0, eL⟩
      · rintro i m H2 ⟨rfl, hi, Z2, ρ3, M2, acc, xs, r2, hn, k2, nDL, nDZ, hDa, dz, hl, s2, e2⟩
        by_cases hlt : i < ds.length
        · refine .inr ⟨w.go i hlt r2 k2, inv (i + 1), fun H' p' => ⟨ds.length - (i + 1), by omega, rfl, p'⟩, fun x H3 y => ?_⟩
          have hd : ds[i]? = some ds[i] := by simp [hlt]
          rw [List.drop_eq_getElem_cons hlt] at e2
          obtain ⟨same, dx⟩ := w.yld i ds[i] x H3 hd r2 k2 y
          unfold lcL at e2
          cases e3 : T.put ds[i] ρ3 with
          | none => rw [e3] at e2; cases e2
          | some ρ4 =>
            rw [e3] at e2
            simp only at e2
            have r3 := r2.same same
            refine ⟨θ, Z2, ρ3, M2, ds[i], ρ4, r3, dx, e3, fun σ4 L4 r4 sub ag => ?_⟩
            have agO : Agr own (wipe σ own) σ4 := ag.mono hT
            have hw : wipe σ4 own = wipe σ own := by
              rw [wipe_eq agO, wipe_eq (wipe_agr own)]
            refine ⟨hw, θ, Z2, ρ4, L4, r4, ?_⟩
            have hDa3 : H3 Da = some (.lst xs) := same _ _ hDa
            have nD4 : Da ∉ L4 := fun h => nDL (sub Da h)
            have ro4 : Ro (gx X ca) Z2 H3 (.lst acc) (.ref Da) [Da] := .lst hDa3 (dz.kp (same_kp same))
            have nd4 : ([Da] ++ L4).Nodup := List.nodup_cons.mpr ⟨nD4, r4.nd⟩
            have s4 : Step Z2 M2 H2 Z2 L4 H3 := ⟨fun a o e _ => same a o e, fun _ h => h, fun _ h => .inl h, fun a ha => .inl (sub a ha)⟩
            -- a turn's end
            have turn : ∀ {Z5 H5 L5 ρ5 acc5 xs5 u}, Step Z2 M2 H2 Z5 L5 H5 → Rep θ (gx X ca) Z5 (L2.upd H5 Da u) ρ5 σ4 L5 → Da ∉ L5 → ¬ Z5 Da → u = .lst xs5 → DzA Z5 X.K (L2.upd H5 Da u) acc5 xs5 → acc5.length ≤ i + 1 →
                (open Classical in if lcC c own (dropE own ρ5) then lcL c T t f own (ds.drop (i + 1)) acc5 (dropE own ρ5) else .stuck) = .ok acc1 ρ2 → inv (i + 1) (L2.upd H5 Da u) := fun {Z5 H5 L5 ρ5 acc5 xs5 u} s5 r5 nD5 nZ5 hu dz5 hl5 e5 => by
              subst hu
              split at e5
              · rename_i hc5
                obtain ⟨L6, r6, h6⟩ := r5.drop own
                have r7 := r6.agree agO.symm hc5.2
                have st : Step Z2 (Da :: M2) H2 Z5 (Da :: L6) (L2.upd H5 Da (.lst xs5)) := ⟨fun a o e hna => by
                  rw [List.mem_cons, not_or] at hna
                  rw [upd_ne hna.1]
                  exact s5.keep a o e hna.2, s5.zmono, fun a z => (s5.znew a z).imp_right fun q => q.imp_left fun q => List.mem_cons_of_mem _ q, fun a ha => (List.mem_cons.mp ha).elim (fun q => .inl (by rw [q]; exact List.mem_cons_self)) fun q => (s5.lnew a (h6 a q)).imp_left fun q => List.mem_cons_of_mem _ q⟩
                have mu2 : ∀ a ∈ Da :: M2, Mut (H2 a) := fun a ha => (List.mem_cons.mp ha).elim (fun q => by rw [q, hDa]; trivial) (r2.sl.mut a)
                have dis2 : ∀ a ∈ Da :: M2, ¬ Z2 a := fun a ha => (List.mem_cons.mp ha).elim (fun q => q ▸ nDZ) (r2.dis a)
                exact ⟨hlt, Z5, _, L6, acc5, xs5, r7, hc5.2, w.step mu2 dis2 k2 st (List.nodup_cons.mpr ⟨fun h => nD5 (h6 Da h), r7.nd⟩) hc5.1, fun h => nD5 (h6 Da h), nZ5, upd_same, dz5, hl5, s2.trans st, e5⟩
              · cases e5
            cases e6 : t ρ4 with
            | stuck => rw [e6] at e2; cases e2
            | exc => rw [e6] at e2; cases e2
            | ok bb ρ5 =>
              rw [e6] at e2
              simp only at e2
              intro Z5 H5 L5 r5 s5
              obtain ⟨ro5, nd5, di5⟩ := ro4.aside (L' := []) r4.sl.mut r4.dis nd4 (fun a ha => by rw [List.mem_singleton] at ha; rw [ha]; exact nDZ) s5 r5.nd
              have nD5 : Da ∉ L5 := (List.nodup_cons.mp nd5).1
              cases bb with
              | false =>
                simp only [Bool.false_eq_true, if_false] at e2 ⊢
                obtain ⟨xs5, hx5, dz5⟩ := ro5.lst_of
                have same5 : L2.upd H5 Da (.lst xs5) = H5 := by
                  funext a
                  by_cases q : a = Da
                  · rw [q, upd_same, hx5]
                  · rw [upd_ne q]
                have := turn (u := .lst xs5) (s4.trans s5) (by rw [same5]; exact r5) nD5 (di5 Da List.mem_cons_self) rfl (by rw [same5]; exact dz5) (by omega) e2
                rw [same5] at this
                exact this
              | true =>
                simp only [if_true] at e2 ⊢
                refine ⟨θ, Z5, ρ5, L5, r5, ?_⟩
                cases e7 : f ρ5 with
                | stuck => rw [e7] at e2; cases e2
                | exc => rw [e7] at e2; cases e2
                | ok p ρ6 =>
                  rw [e7] at e2
                  simp only at e2
                  intro Z6 H6 L6 F6 v r6 h6 s6
                  obtain ⟨ro6, nd6, di6⟩ := ro5.aside (L' := []) r5.sl.mut r5.dis nd5 di5 s6 h6.nd
                  cases e8 : give ρ6 p with
                  | none => rw [e8] at e2; cases e2
                  | some y =>
                    obtain ⟨dy, ρ7⟩ := y
                    rw [e8] at e2
                    simp only at e2
                    obtain ⟨Z7, L7, r7, d7, s7⟩ := give_ok r6 h6 e8
                    obtain ⟨mu6, dz6⟩ := h6.mut r6
                    obtain ⟨ro7, nd7, di7⟩ := ro6.aside (L' := []) mu6 dz6 nd6 di6 s7 r7.nd
                    obtain ⟨xs7, hx7, dz7⟩ := ro7.lst_of
                    have nD7 : Da ∉ L7 := (List.nodup_cons.mp nd7).1
                    have nZ7 := di7 Da List.mem_cons_self
                    have mu7 : Mut (H6 Da) := by rw [hx7]; trivial
                    refine ⟨xs7, hx7, by rw [dz7.length]; omega, ?_⟩
                    exact turn (u := .lst (xs7 ++ [v])) (acc5 := acc ++ [dy]) (((s4.trans s5).trans s6).trans s7) (r7.upd mu7 nD7 nZ7) nD7 nZ7 rfl ((dz7.append (.cons d7 .nil)).kp (kp_upd mu7 nZ7)) (by simp; omega) e2
        · have ei : i = ds.length := by omega
          subst ei
          rw [List.drop_length] at e2
          simp only [lcL, Out.ok.injEq] at e2
          obtain ⟨rfl, rfl⟩ := e2
          refine .inl ⟨w.stop r2 k2, ?_⟩
          have r8 := r2.agree (wipe_agr own).symm hn
          have kp : Kp Z (gx X ca).K H Z2 H2 := s2.kp r.sl.mut r.dis
          obtain ⟨L9, r9, h9⟩ := Rep.rest (ρ0 := ρ) (fun i d e0 => by
            obtain ⟨v, F, q1, q2, _⟩ := r.sl.get e0
            cases q2 with
            | val q2 => exact ⟨v, q1, q2.kp kp⟩) own r8
          exact fin Z2 H2 L9 xs r9 hDa dz (fun h => nDL (h9 Da h)) nDZ (s2.sub fun a ha => (List.mem_cons.mp ha).elim (fun q => by rw [q]; exact List.mem_cons_self) fun q => List.mem_cons_of_mem _ (h9 a q))
  · cases e
theorem rd_lc {T : Tgt} {own : List Nat} {Q : VK} (hT : ∀ i ∈ T.slots, i ∈ own) (q : RdE X ca W (oLc it T t f own) σ H Q) : tLc (RdI X ca W it) (tgR X ca T) (RdT X ca WF t) (RdE X ca WF f) own σ H Q := by
  obtain ⟨θ, Z, ρ, L, r, q⟩ := q
  refine ⟨θ, Z, ρ, L, r, ?_⟩
  unfold oLc at q
  cases e1 : it ρ with
  | stuck => rw [e1] at q; exact q
  | exc c ρ1 => rw [e1] at q; exact q
  | ok x ρ1 =>
    obtain ⟨j, ds⟩ := x
    rw [e1] at q
    simp only [bind_ok] at q
    intro Z1 H1 L1 F J r1 s1 sr hz Da hD
    have done : ∀ {Z' H' L' xs acc ρ2} (θ2 : Nat → V), PoE X ca W θ Z L H σ Q (.ok (.tmp (.lst acc)) ρ2) → Rep θ (gx X ca) Z' H' ρ2 σ L' → H' Da = some (.lst xs) → DzA Z' X.K H' acc xs → Da ∉ L' → ¬ Z' Da → Step Z1 L1 H1 Z' (Da :: L') H' → Q (.ref Da) H' := fun {Z' H' L' xs acc ρ2} θ2 q r2 h2 dz nL nZ s2 =>
      q Z' H' L' [Da] _ r2 (.tmp (.lst h2 dz) (List.nodup_cons.mpr ⟨nL, r2.nd⟩) (fun a ha => by rw [List.mem_singleton] at ha; rw [ha]; exact nZ)) ((s1.sub fun a h => List.mem_append_right _ h).trans s2)
    unfold lcE at q
    cases j with
    | none =>
      simp only at q
      obtain ⟨Ok, w, k⟩ := sr.walk (θ := θ)
      cases e2 : lcW none T t f own ds ρ1 with
      | stuck => rw [e2] at q; exact q.elim
      | exc c ρ2 =>
        unfold lcW at e2
        split at e2
        · split at e2 <;> cases e2
        · cases e2
      | ok acc ρ2 =>
        rw [e2] at q
        exact lc_turns hT w r1 k hz hD e2 fun Z' H' L' xs r2 h2 dz nL nZ s2 => done θ q r2 h2 dz nL nZ s2
    | some j =>
      cases sr with
      | slot e h =>
        rename_i p a
        simp only at q
        rw [e] at q
        cases p with
        | true =>
          simp only at q
          have hθ := r1.pn j _ e
          rw [h] at hθ
          cases e2 : lcW (some (j, ds)) T t f own ds ρ1 with
          | stuck => rw [e2] at q; exact q.elim
          | exc c ρ2 =>
            unfold lcW at e2
            split at e2
            · split at e2 <;> cases e2
            · cases e2
          | ok acc ρ2 =>
            rw [e2] at q
            exact lc_turns hT (wlk_slot (Option.some.inj (Option.some.inj hθ)).symm) r1 e hz hD e2 fun Z' H' L' xs r2 h2 dz nL nZ s2 => done θ q r2 h2 dz nL nZ s2
        | false =>
          simp only at q
          have r2 := r1.pinOn e h
          have lj := (List.getElem?_eq_some_iff.mp e).1
          cases e2 : lcW (some (j, ds)) T t f own ds (ρ1.set j (some (true, .lst ds))) with
          | stuck => rw [e2] at q; exact q.elim
          | exc c ρ2 =>
            unfold lcW at e2
            split at e2
            · split at e2 <;> cases e2
            · cases e2
          | ok acc ρ2 =>
            rw [e2] at q
            exact lc_turns hT (wlk_slot (θ := fun i => if i = j then V.ref a else θ i) (by simp)) r2 (by rw [List.getElem?_set_self lj]) hz hD e2 fun Z' H' L' xs r3 h3 dz nL nZ s3 => done θ q (r3.unpin fun i hi => by simp [hi]) h3 dz nL nZ s3
theorem se_lc {elt tg iter : Expr} {ifs : List Expr} {scope : Scope} {own : List (Str × Nat)} {T : Tgt} {pos : Pos} (hT : ∀ i ∈ T.slots, i ∈ own.map (·.2)) (hc : X.calm = true) (hN : X.N.Nodup) (hi : PI X tg iter (RdI X ca W it)) (ok : BlkOk X.N X.env.scope scope own)
    (hg : ∀ (s : Shared) (H : Hp) (C : Addr) (cl : List (Str × Addr)) (fp : List Addr), PG (X.blk s H scope (compEnvC scope cl C X.env) fp) tg (tgR (X.blk s H scope (compEnvC scope cl C X.env) fp) ca T))
    (ht : ∀ (s : Shared) (H : Hp) (C : Addr) (cl : List (Str × Addr)) (fp : List Addr), PTs (X.blk s H scope (compEnvC scope cl C X.env) fp) ifs (RdT (X.blk s H scope (compEnvC scope cl C X.env) fp) ca WF t))
    (he : ∀ (s : Shared) (H : Hp) (C : Addr) (cl : List (Str × Addr)) (fp : List Addr), PE (X.blk s H scope (compEnvC scope cl C X.env) fp) elt (RdE (X.blk s H scope (compEnvC scope cl C X.env) fp) ca WF f)) (hs : ∀ x, foldedSetIterable iter X.env x = pure x) :
    PE X (.ListComp elt [⟨tg, iter, ifs, 0⟩] scope pos) (RdE X ca W (oLc it T t f (own.map (·.2)))) :=
  PE.imp (pe_lc hc hN hi ok hg ht he hs) fun σ H Q q => rd_lc hT q
theorem ss_setLc {i : Nat} {y : Str} {py : Pos} {elt tg iter : Expr} {ifs : List Expr} {scope : Scope} {own : List (Str × Nat)} {T : Tgt} {pos spos : Pos} (hT : ∀ i ∈ T.slots, i ∈ own.map (·.2)) (hc : X.calm = true) (hN : X.N.Nodup) (hy : X.N[i]? = some y) (hyl : X.env.scope.names.lookup y = some .local)
    (hsw : swapsWith (.ListComp elt [⟨tg, iter, ifs, 0⟩] scope pos) (some (.Name y py)) spos.line X.env = pure true) (hi : PI X tg iter (RdI X ca W it)) (ok : BlkOk X.N X.env.scope scope own)
    (hg : ∀ (s : Shared) (H : Hp) (C : Addr) (cl : List (Str × Addr)) (fp : List Addr), PG (X.blk s H scope (compEnvC scope cl C X.env) fp) tg (tgR (X.blk s H scope (compEnvC scope cl C X.env) fp) ca T))
    (ht : ∀ (s : Shared) (H : Hp) (C : Addr) (cl : List (Str × Addr)) (fp : List Addr), PTs (X.blk s H scope (compEnvC scope cl C X.env) fp) ifs (RdT (X.blk s H scope (compEnvC scope cl C X.env) fp) ca WF t))
    (he : ∀ (s : Shared) (H : Hp) (C : Addr) (cl : List (Str × Addr)) (fp : List Addr), PE (X.blk s H scope (compEnvC scope cl C X.env) fp) elt (RdE (X.blk s H scope (compEnvC scope cl C X.env) fp) ca WF f)) (hs : ∀ x, foldedSetIterable iter X.env x = pure x) :
    PS X (.Assign [.Name y py] (.ListComp elt [⟨tg, iter, ifs, 0⟩] scope pos) spos) (RdS X ca W (sAsg i (oLc it T t f (own.map (·.2))))) :=
  PS.imp (ps_setLc hc hN hy hyl hsw hi ok hg ht he hs) fun Dn σ H ⟨θ, Z, ρ, L, r, q⟩ => rd_lc hT (rd_ES r q fun p ρ1 Z1 H1 L1 F v q r1 h1 s1 => stoE_ok r1 h1 s1 q)
end
end Eng
set_option maxHeartbeats 1000000
/-! The engine, part 20: chained comparisons, isinstance, repr, callees by name. -/
namespace Eng
open PySem PySem.Spec L2
open PyProof.Rows hiding St

section
variable {X : Cx} {ca : Nat → Addr} {W : WX} {f g h : ES} {as : AS} {G : Gx} {b : SS} {t : TS'} {it : IS}
variable {θ θ' : Nat → V} {Z Z1 Z0 Z' : Zs} {L L1 L0 L' F F0 : List Addr} {H H1 H0 H' : Hp} {σ σ' : L2.St} {ρ ρ1 ρ' : En} {Dn : Ends}
/-! ### a < b < c -/
def oChain (s1 s2 : O → O → Option O) (f g h : ES) : ES := fun ρ => (f ρ).bind fun p ρ1 => (g ρ1).bind fun q ρ2 => match looks ρ2 [p, q] with
  | some [x, y] => match s1 x y with
    | some (.val (.bool k)) => if k = true then (h ρ2).bind fun r ρ3 => match looks ρ3 [q, r] with
        | some [y', z] => put ρ3 (s2 y' z)
        | _ => .stuck
      else .ok (.tmp (.val (.bool false))) ρ2
    | _ => .stuck
  | _ => .stuck
theorem rd_chain {s1 s2 : O → O → Option O} {Q : VK} (hq : RdE X ca W (oChain s1 s2 f g h) σ H Q) :
    tChain (fun x y H Q => RSem (X := X) (ca := ca) (two s1) [x, y] H Q) (fun x y H Q => RSem (X := X) (ca := ca) (two s2) [x, y] H Q) (RdE X ca W f) (RdE X ca W g) (RdE X ca W h) σ H Q := by
  obtain ⟨θ, Z, ρ, L, r, q⟩ := hq
  unfold oChain at q
  refine ⟨θ, Z, ρ, L, r, ?_⟩
  cases e1 : f ρ with
  | stuck => rw [e1] at q; exact q
  | exc c ρ1 => rw [e1] at q; exact q
  | ok p ρ1 =>
    rw [e1] at q
    simp only [bind_ok] at q
    intro Z1 H1 L1 F1 v1 r1 h1 s1'
    refine ⟨θ, Z1, ρ1, L1, r1, ?_⟩
    cases e2 : g ρ1 with
    | stuck => rw [e2] at q; exact q
    | exc c ρ2 => rw [e2] at q; exact fun Z' H' L' r' s' => q Z' H' L' r' ((s1'.sub fun a h => List.mem_append_right _ h).trans s')
    | ok qq ρ2 =>
      rw [e2] at q
      simp only [bind_ok] at q
      intro Z2 H2 L2 F2 v2 r2 h2 s2'
      have h12 := (h1.carry r1 s2' h2.nd).join h2
      have s12 : Step Z L H Z2 ((F1 ++ F2) ++ L2) H2 := by rw [List.append_assoc]; exact s1'.then s2'
      split at q
      · rename_i x y e3
        split at q
        · rename_i k e4
          refine ⟨Z2, [x, y], .val (.bool k), r2.zd, h12.ok.looks r2 e3, e4, fun v H' F' al => ?_⟩
          have hv : v = .bl k ∧ H' = H' := by
            have := al.ro
            cases this with
            | val hd => cases hd; exact ⟨rfl, rfl⟩
          obtain ⟨rfl, _⟩ := hv
          refine ⟨k, rfl, ?_⟩
          have r3 := r2.same al.same
          have st : Step Z L H Z2 L2 H' := (s12.trans ⟨fun a o e _ => al.same a o e, fun _ h => h, fun _ h => .inl h, fun _ h => .inl h⟩).sub fun a h => List.mem_append_right _ h
          cases k with
          | false =>
            simp only [Bool.false_eq_true, if_false] at q ⊢
            exact q Z2 H' L2 [] (.bl false) r3 (.tmp (.val (.bl false)) r3.nd (fun _ q => by cases q)) st
          | true =>
            simp only [if_true] at q ⊢
            have h2' : Held (gx X ca) Z2 H' σ L2 [qq] [v2] F2 := ⟨h2.ok.kp (same_kp al.same) fun a _ u e => al.same a u e, h2.nd, h2.dis⟩
            have st2 : Step Z L H Z2 (F2 ++ L2) H' := (s12.trans ⟨fun a o e _ => al.same a o e, fun _ h => h, fun _ h => .inl h, fun _ h => .inl h⟩).sub fun a h => by rw [List.append_assoc]; exact List.mem_append_right _ h
            refine ⟨θ, Z2, ρ2, L2, r3, ?_⟩
            cases e5 : h ρ2 with
            | stuck => rw [e5] at q; exact q
            | exc c ρ3 => rw [e5] at q; exact fun Z' H'' L' r' s' => q Z' H'' L' r' (st.trans s')
            | ok rr ρ3 =>
              rw [e5] at q
              simp only [bind_ok] at q
              intro Z3 H3 L3 F3 v3 r4 h4 s4
              have h24 := (h2'.carry r3 s4 h4.nd).join h4
              have s24 : Step Z L H Z3 ((F2 ++ F3) ++ L3) H3 := by rw [List.append_assoc]; exact st2.then s4
              split at q
              · rename_i y' z e6
                cases e7 : s2 y' z with
                | none => rw [e7] at q; exact q.elim
                | some o =>
                  rw [e7] at q
                  exact ⟨Z3, [y', z], o, r4.zd, h24.ok.looks r4 e6, e7, fun v H'' F' al => q Z3 H'' L3 F' v (al.rep r4) (al.held r4) ((s24.sub fun a h => List.mem_append_right _ h).trans al.step)⟩
              · exact q.elim
        · exact q.elim
      · exact q.elim
theorem se_chain {a c d : Expr} {s1 s2 : O → O → Option O} {op op' : CmpOp} {pos : Pos} (ho : BinS X ca (compareOp op) s1) (ho' : BinS X ca (compareOp op') s2) (ha : PE X a (RdE X ca W f)) (hb : PE X c (RdE X ca W g)) (hc : PE X d (RdE X ca W h)) (hm : lastMarks [op, op'] [c, d] = false) :
    PE X (.Compare a [op, op'] [c, d] pos) (RdE X ca W (oChain s1 s2 f g h)) := PE.imp (pe_chain ho ho' ha hb hc hm) fun σ H Q q => rd_chain q
theorem st_chain {a c d : Expr} {s1 s2 : O → O → Option O} {op op' : CmpOp} {pos : Pos} (ho : BinS X ca (compareOp op) s1) (ho' : BinS X ca (compareOp op') s2) (ha : PE X a (RdE X ca W f)) (hb : PE X c (RdE X ca W g)) (hc : PE X d (RdE X ca W h)) (hm : lastMarks [op, op'] [c, d] = false) :
    PT X (.Compare a [op, op'] [c, d] pos) (RdT X ca W (tV (oChain s1 s2 f g h))) := PT.imp (pt_chain ho ho' ha hb hc hm) fun σ H Q q => rd_chain (rd_tV q)

/-! ### isinstance -/
def kindO : O → Option String
  | .val .none => some "NoneType"
  | .val (.bool _) => some "bool"
  | .val (.int _) => some "int"
  | .val (.str _) => some "str"
  | .val (.list _) => some "list"
  | .val (.tuple _) => some "tuple"
  | .lst _ => some "list"
  | _ => none
def isiB (k T : String) : Bool := k == T || (k == "bool" && T == "int")
def kinds5 : List String := ["bool", "int", "str", "list", "tuple"]
def kinds6 : List String := "NoneType" :: kinds5
def isiS (T : String) (o : O) : Option O := (kindO o).map fun k => .val (.bool (isiB k T))
theorem isi_table {K : PySem.W.Frag} : ∀ k ∈ kinds6, ∀ T ∈ kinds5, PySem.W.kitOne K (.type k) (.type T) = some (isiB k T) := by
  have h : (kinds6.all fun k => kinds5.all fun T => decide (kitB k T = some (isiB k T))) = true := by decide +kernel
  intro k hk T hT
  exact kit_ty (of_decide_eq_true (List.all_eq_true.mp (List.all_eq_true.mp h k hk) T hT))
theorem kind_tup {K : PySem.W.Frag} {a : Addr} {xs : List V} (r : SqT K H a xs) : TyX K H (.ref a) (.type "tuple") := by
  rcases r with (r | ⟨o, r⟩) | ⟨o, its, n, r, hc, _⟩
  · exact .base (.tup r)
  · exact .fTuple r
  · exact .kTuple r hc
theorem kind_ty {o : O} {k : String} {v : V} (hr : Rb G Z H o v) (e : kindO o = some k) : k ∈ kinds6 ∧ TyX G.K H v (.type k) := by
  obtain ⟨F, hr⟩ := hr
  cases hr with
  | val h =>
    cases h with
    | non => cases e; exact ⟨by decide, .base .non⟩
    | bl => cases e; exact ⟨by decide, .base (.bl _)⟩
    | int => cases e; exact ⟨by decide, .base (.int _)⟩
    | str => cases e; exact ⟨by decide, .base (.str _)⟩
    | lst z r h => cases e; exact ⟨by decide, .base (.lst r)⟩
    | tup r h => cases e; exact ⟨by decide, kind_tup r⟩
    | dic => cases e
  | lst e1 h1 => cases e; exact ⟨by decide, .base (.lst e1)⟩
  | _ => cases e
theorem se_isi {e : Expr} {T : String} {x : Str} {p p2 pos : Pos} (hT : T ∈ kinds5) (he : PE X e (RdE X ca W f)) (hg : Gl X "isinstance") (hm : X.mg "isinstance" = none) (hg2 : Gl X x) (hm2 : X.mg x = none) (hv : bootBuiltins x = some (.type T)) (hn : x ≠ "__name__") (hd : (x == ("__debug__" : Str)) = false) (hs : notStar e = true) :
    PE X (.Call (.Name "isinstance" p) [e, .Name x p2] [] pos) (RdE X ca W (o1 (isiS T) f)) := by
  have h1 : PA X [e, .Name x p2] (tCons (RdE X ca W f) (tCons (tC (.ty T)) tNil)) := pa_cons he (pa_cons (pe_bltn hg2 hm2 hv rfl hn hd) pa_nil (star_cons rfl)) (star_cons hs)
  refine PE.imp (pe_callB (call_isi (X := X)) hg hm (by decide +kernel) h1 (by decide) (by decide) (star_cons hs) (star_plain (by rfl))) fun σ H Q q => (rd_o1 q).mono fun v H1 h => ?_
  obtain ⟨Z, a, o, zd, ha, e1, q⟩ := rsem1 h
  unfold isiS at e1
  cases e2 : kindO a with
  | none => rw [e2] at e1; cases e1
  | some k =>
    rw [e2] at e1
    cases e1
    obtain ⟨hk, ty⟩ := kind_ty ha e2
    exact ⟨v, .ty T, .type k, .type T, isiB k T, rfl, .ty T, ty, isi_table k hk T hT, q _ _ [] (Al.val (.bl _))⟩

/-! ### repr -/
def reprS (o : O) : Option O := match o.view? with
  | some d => if d.showable = true ∧ d.hasDict = false ∧ d.depth ≤ 32 ∧ d.shown.length ≤ sizeLine then some (.val (.str d.shown)) else none
  | none => none
end
end Eng
set_option maxHeartbeats 1000000
/-! The engine, part 21: rules as the printer names them. -/
namespace Eng
open PySem PySem.Spec L2
open PyProof.Rows hiding St

/-- a def that may be called by its name -/
structure Callee (P : Program) (w : World) (K : PySem.W.Frag) (mg : Str → Option Value) (base : Heap) (ca : Nat → Addr) (k : Nat) (x : Str) (n : Nat) (g : FSem) : Prop where
  ex : ∃ f fd ps, ps.length = n ∧ EFn P w K mg base k f fd ps (spF ⟨P, w, K, ca⟩ n g) ∧ mg x = some (.ref f) ∧ PySem.W.keepIn K (.ref f) = true ∧ Binds K fd ps []
theorem Callee.mono {P : Program} {w : World} {K : PySem.W.Frag} {mg : Str → Option Value} {base : Heap} {ca : Nat → Addr} {j k : Nat} {x : Str} {n : Nat} {g : FSem} (c : Callee P w K mg base ca j x n g) (h : j ≤ k) : Callee P w K mg base ca k x n g := by
  obtain ⟨f, fd, ps, h1, h2, h3⟩ := c.ex
  exact ⟨f, fd, ps, h1, h2.mono h, h3⟩
/-- the names of the built-ins are the built-ins' own -/
structure Blt (mg : Str → Option Value) : Prop where
  len : mg "len" = none
  range : mg "range" = none
  sorted : mg "sorted" = none
  set : mg "set" = none
  tuple : mg "tuple" = none
  list : mg "list" = none
  all : mg "all" = none
  any : mg "any" = none
  sum : mg "sum" = none
  max : mg "max" = none
  min : mg "min" = none
  str : mg "str" = none
  int : mg "int" = none
  dict : mg "dict" = none
  repr : mg "repr" = none
  isi : mg "isinstance" = none
  zip : mg "zip" = none
  enum : mg "enumerate" = none
  rev : mg "reversed" = none
  bool : mg "bool" = none
theorem bb_len : bootBuiltins "len" = some (.builtin "len") := by decide +kernel
theorem bb_sorted : bootBuiltins "sorted" = some (.builtin "sorted") := by decide +kernel
theorem bb_all : bootBuiltins "all" = some (.builtin "all") := by decide +kernel
theorem bb_set : bootBuiltins "set" = some (.type "set") := by decide +kernel
theorem bb_list : bootBuiltins "list" = some (.type "list") := by decide +kernel
theorem bb_tuple : bootBuiltins "tuple" = some (.type "tuple") := by decide +kernel
theorem bb_str : bootBuiltins "str" = some (.type "str") := by decide +kernel
theorem bb_int : bootBuiltins "int" = some (.type "int") := by decide +kernel
theorem bb_bool : bootBuiltins "bool" = some (.type "bool") := by decide +kernel
theorem hu65 {k : Nat} {A : Around} (hr : Room k A) : A.units + 65 < cLine := by have := hr.un; omega
theorem hu64 {k : Nat} {A : Around} (hr : Room k A) : A.units + 64 < cLine := by have := hr.un; omega
section
variable {X : Cx} {ca : Nat → Addr} {W : WX} {f g h : ES} {fs : AS} {p pos apos px : Pos} {e : Expr} {es : List Expr} {k i : Nat} {x : Str}
theorem se_n (i : Nat) {x : Str} (hN : X.N[i]? = some x) (hv : Vis X.env.scope x) (hd : (x == ("__debug__" : Str)) = false) (hcd : (x == ("__classdict__" : Str)) = false) : PE X (.Name x pos) (RdE X ca W (oNm i)) := se_name hN hv hd hcd
theorem sa_c {gs : List ES} (hs : notStar e = true) (ha : PE X e (RdE X ca W f)) (hr : PA X es (RdA X ca W (oAs gs))) : PA X (e :: es) (RdA X ca W (oAs (f :: gs))) := sa_cons ha hr (star_cons hs)
theorem se_c {fn : FSem} {gs : List ES} {n : Nat} (C : Callee X.prog X.w X.K X.mg X.base ca k x n fn) (hG : X.A.guards = some []) (hr : Room k X.A) (tk : L2N.Takes X W) (hn : gs.length = n) (hg : Gl X x) (hdb : (x == ("__debug__" : Str)) = false) (hs : ((e :: es).all notStar) = true) (ha : PA X (e :: es) (RdA X ca W (oAs gs))) :
    PE X (.Call (.Name x p) (e :: es) [] pos) (RdE X ca W (oCall fn (oAs gs))) := by
  obtain ⟨fa, fd, ps, h1, h2, h3, h4, h5⟩ := C.ex
  subst hn
  exact se_call (k := k) h2 hG hr h3 h4 h5 tk hg ha hdb hs
theorem se_len (B : Blt X.mg) (hg : Gl X "len") (hs : notStar e = true) (he : PE X e (RdE X ca W f)) : PE X (.Call (.Name "len" p) [e] [] pos) (RdE X ca W (o1 lenS f)) := se_callB c_len hg B.len bb_len (sa_c hs he sa_nil) (by decide) (by decide) (by simp [hs])
theorem se_all (hc : X.calm = true) (B : Blt X.mg) (hg : Gl X "all") (hs : notStar e = true) (he : PE X e (RdE X ca W f)) : PE X (.Call (.Name "all" p) [e] [] pos) (RdE X ca W (o1 allS f)) := se_callB (c_all hc) hg B.all bb_all (sa_c hs he sa_nil) (by decide) (by decide) (by simp [hs])
theorem se_sorted (hc : X.calm = true) (hr : Room k X.A) (B : Blt X.mg) (hg : Gl X "sorted") (hs : notStar e = true) (he : PE X e (RdE X ca W f)) : PE X (.Call (.Name "sorted" p) [e] [] pos) (RdE X ca W (o1 sortS f)) := se_callB (c_sorted hc (hu65 hr)) hg B.sorted bb_sorted (sa_c hs he sa_nil) (by decide) (by decide) (by simp [hs])
theorem se_list (B : Blt X.mg) (hg : Gl X "list") (hs : notStar e = true) (he : PE X e (RdE X ca W f)) : PE X (.Call (.Name "list" p) [e] [] pos) (RdE X ca W (o1 listS f)) := se_callTy c_list hg B.list bb_list (sa_c hs he sa_nil) (by decide) (by decide) (by simp [hs])
theorem se_tuple (B : Blt X.mg) (hg : Gl X "tuple") (hs : notStar e = true) (he : PE X e (RdE X ca W f)) : PE X (.Call (.Name "tuple" p) [e] [] pos) (RdE X ca W (o1 tupleS f)) := se_callTy c_tuple hg B.tuple bb_tuple (sa_c hs he sa_nil) (by decide) (by decide) (by simp [hs])
theorem se_strC (B : Blt X.mg) (hg : Gl X "str") (hs : notStar e = true) (he : PE X e (RdE X ca W f)) : PE X (.Call (.Name "str" p) [e] [] pos) (RdE X ca W (o1 strS f)) := se_callTy c_str hg B.str bb_str (sa_c hs he sa_nil) (by decide) (by decide) (by simp [hs])
/-! ### methods -/
theorem se_app {e : Expr} {j : Nat} (hN : X.N[j]? = some x) (hv : Vis X.env.scope x) (hd : (x == ("__debug__" : Str)) = false) (hcd : (x == ("__classdict__" : Str)) = false) (he : PE X e (RdE X ca W f)) (hs : notStar e = true)
    (hbase : attributeBase (.Name x px) "append" X.env (eval (.Name x px) X.env) = eval (.Name x px) X.env) (hline : (apos.endLine == pos.line) = true)
    (hfew : ((backTo pos (starEach [e] X.env)).all (fun x => !x.1) && (backToKw pos (keywordEach [] X.env)).all (fun x => x.1.isSome) && decide ([e].length + ([] : List Keyword).length + (if ([] : List Keyword).isEmpty then 0 else 1) < 30)) = true) :
    PE X (.Call (.Attribute (.Name x px) "append" apos) [e] [] pos) (RdE X ca W (oMutA appS j (oAs [f]))) :=
  PE.imp (pe_bm PySem.F.plainAttrs_list PySem.F.slot_list_append PySem.F.type_list_append mt_append (se_n j hN hv hd hcd) (sa_c hs he sa_nil) hbase hfew hline (star_cons hs) (star_plain rfl)) fun σ H Q q => rd_mut (fun o ds x e => by
    unfold appS at e
    split at e
    · rfl
    · cases e) mut_app q
theorem se_pop {j : Nat} (hN : X.N[j]? = some x) (hv : Vis X.env.scope x) (hd : (x == ("__debug__" : Str)) = false) (hcd : (x == ("__classdict__" : Str)) = false)
    (hbase : attributeBase (.Name x px) "pop" X.env (eval (.Name x px) X.env) = eval (.Name x px) X.env) (hline : (apos.endLine == pos.line) = true) :
    PE X (.Call (.Attribute (.Name x px) "pop" apos) [] [] pos) (RdE X ca W (oMut0 popS j)) :=
  PE.imp (pe_bm0 PySem.F.plainAttrs_list PySem.F.slot_list_pop PySem.F.type_list_pop mt_pop (se_n j hN hv hd hcd) hbase hline) fun σ H Q q => rd_mut0 (fun o x e => by
    unfold popS at e
    split at e
    · rfl
    · cases e) mut_pop q
/-! ### set(xs) -/
def setC (o : O) : Option O := o.seq?.bind fun ds => (asStrs ds).bind fun ys => if ys.length + 1 < scanBound then some (.set (metT ys)) else none
theorem strs_are : ∀ {ys : List Str} {us : List Value}, Vals (ys.map V.str) us → StrsAre us ys
  | [], _, .nil => .nil
  | y :: ys, _, .cons r t => by
    obtain ⟨tk, rfl⟩ := r
    exact .cons y tk (strs_are t)
theorem c_set (hc : X.calm = true) : CallS X ca (.type "set") (one setC) := callS_of fun pins s σ H x v Q Z a r I rx zd ha e q => by
  unfold setC at e
  cases e1 : a.seq? with
  | none => rw [e1] at e; cases e
  | some ds =>
    rw [e1] at e
    simp only [Option.bind_some] at e
    cases e2 : asStrs ds with
    | none => rw [e2] at e; cases e
    | some ys =>
      rw [e2] at e
      simp only [Option.bind_some] at e
      split at e
      · rename_i hb
        cases e
        obtain ⟨p, xs, rfl, hs, hd⟩ := rb_seq ha e1
        rw [asStrs_eq e2] at hd
        have hx := hd.strs
        subst hx
        cases rx
        have fin : ∀ (h' : Heap) (tk : Nat), SetT X.w h' s.heap.objs.size (metT ys) → (∀ b o, s.heap.get? b = some o → h'.get? b = some o) → EP X pins σ Q (.ref s.heap.objs.size) { s with heap := h', toks := tk } := fun h' tk hst keep => by
          have hn : H s.heap.objs.size = none := I.hok.fresh (Nat.le_refl _)
          have hst2 := hst
          obtain ⟨ob, es, ep, t, ⟨ho, _⟩, _⟩ := hst2
          have ok : ObjOk X.prog X.w (upd H s.heap.objs.size (.ext fun h => SetT X.w h s.heap.objs.size (metT ys))) h' s.heap.objs.size (.ext fun h => SetT X.w h s.heap.objs.size (metT ys)) := ⟨hst, ⟨ob, ho⟩, fun h1 h2 hx k => hx.at k⟩
          refine ⟨.ref s.heap.objs.size, _, I.laid (t' := tk) keep (Nat.le_refl _) ok, rfl, q _ _ [s.heap.objs.size] ⟨same_new hn, .set upd_same, by simp, fun a ha => by
            rw [List.mem_singleton] at ha
            rw [ha]; exact hn⟩⟩
        rcases hs with hs | hs
        · obtain ⟨its, rv, pl, hz⟩ := I.list hs
          exact call_set_list ys (I.ok.hd hc) pl.isList (strs_are rv) hb fin
        · obtain ⟨its, rv, pl, hz⟩ := I.tuple hs
          exact call_set_tuple ys (I.ok.hd hc) pl (strs_are rv) hb fin
      · cases e
theorem se_setC (hc : X.calm = true) (hr : Room k X.A) (B : Blt X.mg) (hg : Gl X "set") (hs : notStar e = true) (he : PE X e (RdE X ca W f)) : PE X (.Call (.Name "set" p) [e] [] pos) (RdE X ca W (o1 setC f)) := se_callTy (c_set hc) hg B.set bb_set (sa_c hs he sa_nil) (by decide) (by decide) (by simp [hs])

/-! ### a, b = e -/
def sUnp (T : Tgt) (f : ES) : SS := fun ρ => (f ρ).bindS fun p ρ1 => match give ρ1 p with
  | some (d, ρ2) => match T.put d ρ2 with
    | some ρ3 => .nx ρ3
    | none => .stuck
  | none => .stuck
end
end Eng
set_option maxHeartbeats 1000000
/-! The engine, part 22: the end of a law. -/
namespace Eng
open PySem PySem.Spec L2
open PyProof.Rows hiding St

/-- the law's def is called with the script -/
theorem law_run {P : Program} {w : World} {K : PySem.W.Frag} {mg mb : Str → Option Value} {ca : Nat → Addr} {k : Nat} {fa a : Addr} {fd : FuncData} {x : Str} {g : FSem} {s1 : Shared} {us : List Value} {ns : List Int} {fin : List O}
    (inK : K.In s1.heap) (nG : s1.heap.Ns mainGlobals mg) (nB : s1.heap.Ns builtinsNs mb) (bB : ∀ y : Str, y ≠ "__name__" → mb y = bootBuiltins y) (lim : s1.heap.NoLimit) (gens : s1.gens = #[])
    (at_ : s1.heap.get? a = some { cls := .type "list", data := .seq us.toArray }) (hints : IntsAre us ns) (few : ns.length ≤ sizeLine) (room : Room k callerA)
    (F : ∀ base : Heap, K.In base → base.Ns mainGlobals mg → EFn P w K mg base k fa fd [x] (spF ⟨P, w, K, ca⟩ 1 g)) (binds : ∀ (s : Shared) (u : Value), BindsTo s fd ⟨[u], []⟩ [(x, u)]) (ans : g [.scr ns] = .ret (.val (.bool true)) fin) :
    codeAny (model P w) callerA (.call (.ref fa) ⟨[.ref a], []⟩) (fun r s' => r = .ok (.ret (.bool true)) ∧ OldK s1.heap s'.heap ∧ s'.os = s1.os ∧ AllBare s'.gens) s1 := by
  have rel := vals_ints hints
  have lenU := hints.length
  let ob : Obj := { cls := .type "list", data := .seq us.toArray }
  let H : Hp := fun b => if b = a ∧ K.lookup a = none then some (.frz ob (.lst (ns.map V.int))) else none
  have only : ∀ b u, H b = some u → b = a ∧ K.lookup a = none ∧ u = .frz ob (.lst (ns.map V.int)) := fun b u e => by
    by_cases hb : b = a ∧ K.lookup a = none
    · have e2 : (if b = a ∧ K.lookup a = none then some (HO.frz ob (.lst (ns.map V.int))) else none) = some u := e
      rw [if_pos hb] at e2
      cases e2
      exact ⟨hb.1, hb.2, rfl⟩
    · have e2 : (if b = a ∧ K.lookup a = none then some (HO.frz ob (.lst (ns.map V.int))) else none) = some u := e
      rw [if_neg hb] at e2
      cases e2
  have free : ∀ b, (b = a → K.lookup a ≠ none) → H b = none := fun b hb => by
    cases q : H b with
    | none => rfl
    | some u => exact absurd (only b u q).2.1 (hb (only b u q).1)
  have scr : SqS K H a ns := by
    cases q : K.lookup a with
    | none => exact .inl ⟨ob, if_pos ⟨rfl, q⟩⟩
    | some o =>
      have e := inK a o q
      rw [at_] at e
      cases e
      exact .inr ⟨_, us.toArray, _, q, rfl, rfl, rfl, by rw [List.size_toArray, lenU]; exact few, by simpa using rel⟩
  have hok : HOk P w H s1.heap := fun b u e => by
    obtain ⟨rfl, _, rfl⟩ := only b u e
    exact ⟨at_, by rw [List.length_map]; exact few, us, _, rel, at_⟩
  have notD : ∀ {b : Addr} {o : Obj} {es : Array DictEntry} {ep : Nat}, s1.heap.get? b = some o → o.data = .dict es ep → H b = none := fun {b o es ep} e d => free b fun hb => by
    subst hb
    rw [at_] at e
    cases e
    cases d
  have nsB : ∀ {b : Addr} {m : Str → Option Value}, s1.heap.Ns b m → (hidT s1.heap H).Ns b m := fun {b m} ⟨o, es, ep, e, d, r⟩ => ⟨o, es, ep, hidT_get e (notD e d), d, r⟩
  have inB : K.In (hidT s1.heap H) := fun b o e => hidT_get (inK b o e) (free b fun hb => by rw [← hb, e]; intro q; cases q)
  have md : Mod K mg (hidT s1.heap H) := ⟨inB, nsB nG, ⟨mb, nsB nB, bB⟩, let ⟨mc, h1, h2⟩ := lim; ⟨mc, nsB h1, h2⟩⟩
  have env0 : Env0 P w K mg (hidT s1.heap H) callerA [] s1 H := ⟨rfl, md, fun b o e => of_hidT e, Nat.le_of_eq (hidT_size s1.heap H), trivial, fun b hb => absurd (show b ∈ ([] : List Addr) from hb) (by simp), hok, .of_eq gens⟩
  have sp : spF ⟨P, w, K, ca⟩ 1 g [.ref a] H (fun v _ => v = .bl true) (fun _ _ _ => False) := by
    refine ⟨fun _ => False, [.scr ns], [] ++ [], rfl, .cons (.scr scr) .nil, List.nodup_nil, fun _ h => by simp at h, fun _ h => h.elim, ?_⟩
    rw [ans]
    intro Z' H' F' Fo v _ ro _ _ _ _
    cases ro with
    | val hd => cases hd; rfl
  refine codeAny_mono ((F _ inB (nsB nG)).go callerA [] s1 H ⟨[.ref a], []⟩ [.ref a] [.ref a] _ _ rfl room env0 (binds s1 (.ref a)) (.cons rfl .nil) sp) fun r s' h => ?_
  cases r with
  | error e =>
    obtain ⟨_, _, _, _, _, _, _, _, _, _, _, _, z⟩ := h
    exact z.elim
  | ok fl =>
    cases fl with
    | next => exact h.elim
    | brk => exact h.elim
    | cont => exact h.elim
    | ret u =>
      obtain ⟨v, H', os, bare, un, hok', rv, q⟩ := h
      have q2 : v = .bl true := q
      subst q2
      have ru : u = Value.bool true := rv
      subst ru
      refine ⟨rfl, OldK.of_keep fun b o e => ?_, os, bare⟩
      cases qb : H b with
      | none => exact un.keep b o e qb (fun z => absurd (show b ∈ ([] : List Addr) from z) (by simp)) (by simp)
      | some u =>
        obtain ⟨_, _, rfl⟩ := only b u qb
        obtain ⟨k1, _⟩ := hok b _ qb
        obtain ⟨k2, _⟩ := hok' b _ (un.frzs b ob _ qb)
        rw [e] at k1
        cases k1
        exact k2
theorem _root_.L2.Fun.binds1 {K : PySem.W.Frag} {x qual p : Str} {st : Stmt} {f : Addr} {fd : FuncData} (F : Fun K x qual st f fd)
    (h : ∀ (kV doc pm : Value) (an : Option Addr) (cdv ct : Value) (us : List Value), us.length = 1 → bindArgs (PySem.W.fnOf x qual (defArgs st) (defBody st) (defScope st) .none kV doc pm an cdv ct) ⟨us, []⟩ = pure ([p].zip us)) : ∀ (s : Shared) (u : Value), BindsTo s fd ⟨[u], []⟩ [(p, u)] := fun s u => by
  obtain ⟨oc, od, kV, doc, pm, an, cdv, ct, osl, rfl, lk, cd⟩ := F.ex
  exact .of_eq (h kV doc pm an cdv ct [u] rfl)
/-- the end: from the head's facts to the law's walk -/
theorem walk_law {l : PySem.W.OpenLaw} {n k : Nat} {q : Program} {loose : List Str} {XP : (Str → Option Value) → Heap → Prop} {YP : World → Heap → Prop} {d : DefRec} {x : Str} {g : FSem} (hn : l.most = some n) (hn2 : n ≤ sizeLine) (hdf : d.params.defaults = []) (hr : Room k callerA)
    (F : ∀ (w : World) (mg : Str → Option Value) (fa : Addr) (h : Heap), YP w h → h.Ns mainGlobals mg → mg d.name = some (.ref fa) →
      ∃ (K : PySem.W.Frag) (fd : FuncData) (ca : Nat → Addr), K.In h ∧ (∀ (s : Shared) (u : Value), BindsTo s fd ⟨[u], []⟩ [(x, u)]) ∧ ∀ base : Heap, K.In base → base.Ns mainGlobals mg → EFn l.prog w K mg base k fa fd [x] (spF ⟨l.prog, w, K, ca⟩ 1 g))
    (ans : ∀ ns : List Int, ns.length ≤ n → ∃ fin, g [.scr ns] = .ret (.val (.bool true)) fin) : PySem.W.WalkO q loose XP YP l.row.toRowW d [] (fun f vs => PySem.call f vs) := by
  refine Att.attach_callB hn hdf fun w s0 s1 mg mb fa o pm cd doc a us ns G Y ho hd hcd hmg hobj hints hlen hbits hg => ?_
  obtain ⟨K, fd, ca, inK, hb, hF⟩ := F w mg fa _ Y G.T.g hmg
  obtain ⟨fin, e⟩ := ans ns hlen
  exact law_run inK G.T.g G.T.b G.T.builtins G.T.nolimit hg hobj hints (Nat.le_trans hlen hn2) hr hF hb e
end Eng
set_option maxHeartbeats 1000000
/-! The engine, part 23: x[::-1]. -/
namespace HT
open PySem PySem.Spec PyProof.Rows
section
variable {prog : Program} {w : World} {A : Around} {E : Value → Shared → Prop} {s : Shared}
end
end HT
namespace Eng
open PySem PySem.Spec L2
open PyProof.Rows hiding St
section
variable {X : Cx} {ca : Nat → Addr} {W : WX} {f : ES}
def revO : O → Option O
  | .val (.tuple ds) => some (.val (.tuple ds.reverse))
  | .lst ds => some (.lst ds.reverse)
  | .val (.list ds) => some (.lst ds.reverse)
  | _ => none
/-! ### is True -/
def isB : O → O → Option O
  | .val (.bool a), .val (.bool b) => some (.val (.bool (decide (a = b))))
  | _, _ => none
def isnotB : O → O → Option O
  | .val (.bool a), .val (.bool b) => some (.val (.bool (!decide (a = b))))
  | _, _ => none
end
end Eng
set_option maxHeartbeats 1000000
/-! The engine, part 24: list(reversed(x)), tuple(reversed(x)), x a list. -/
namespace RL
open PySem PySem.Spec PyProof.Rows RT
section
variable {prog : Program} {w : World} {A : Around} {E : Value → Shared → Prop} {s : Shared} {R : Result → Shared → Prop} {it l S : Addr} {items : Array Value}
/-- the items of a reversed list, put behind an empty list at S -/
theorem ext_rev (c₀ : Nat) (hh : A.handled = none) (hit : s.heap.IsRevIter it l ((items.size : Int) - 1)) (hl : s.heap.IsList l items) (hne : l ≠ it) (hn : items.size ≤ sizeLine) (hSi : S ≠ it) (hSl : S ≠ l)
    (hS : s.heap.get? S = some { cls := .type "list", data := .seq #[] c₀ })
    (hR : ∀ h' tk acc' c', (∀ b o, b ≠ S → b ≠ it → s.heap.get? b = some o → h'.get? b = some o) → h'.get? S = some { cls := .type "list", dict := none, data := .seq acc' c', slots := #[] } →
      ItemsOf (fun i v => items[items.size - 1 - i]? = some v) acc' items.size → R (.ok (.ret .none)) { s with heap := h', toks := tk }) :
    wpAny (model prog w) A.in1 (Builtin.List.listExtendWith (.ref S) (.ref it) .none)
      (fun fin s' => match fin with | .done f => R (.ok f) s' | .again c' => c'.quiet = true ∧ codeAny (model prog w) A c' R s') (fun e s' => R (.error e) s') s := by
  have Wk := (Walks.listRev (prog := prog) (w := w) (A := A.in1) hh it l hne items).toS
  have hSf : S ∉ [it, l] := by simp only [List.mem_cons, List.not_mem_nil, or_false, not_or]; exact ⟨hSi, hSl⟩
  have hT : s.TypeIs (.ref it) "list_reverseiterator" := hit.typeIs
  have h1 : Builtin.List.listSameRef (.ref S) (.ref it) = false := by simp [Builtin.List.listSameRef, hSi]
  unfold Builtin.List.listExtendWith
  refine wpAny_bind (wpAny_typeOf hT ?_)
  rw [if_neg (by rw [h1]; decide)]
  refine wpAny_bind (wpAny_pyIter_revIter hit ?_)
  refine wpAny_bind (wpAny_holding ?_)
  unfold Builtin.List.listLengthHint
  refine wpAny_bind (wpAny_specialOf hT nolen_lri ?_)
  show wpAny _ A.in1 (specialOf (Value.ref it) (Str.ofString "__length_hint__") >>= _) _ _ _
  refine wpAny_bind (wpAny_specialOf hT hint_lri ?_)
  generalize hid : ("list_reverseiterator.__length_hint__" : String) = id0
  wp_delta
  rw [show splitId id0 = some ("list_reverseiterator", "__length_hint__") from by subst hid; decide +kernel]
  subst hid
  refine wpAny_bind (wpAny_isInstance (b := true) hT (by rw [isSubtype_type]; kernel_rfl) ?_)
  refine wpAny_pure ?_
  rw [if_neg (by decide)]
  have e0 : ((items.size : Nat) : Int) - 1 - ((0 : Nat) : Int) = (items.size : Int) - 1 := by omega
  refine wpAny_pure ⟨plainId_quiet F.plain_extend_loop _, codeAny_extend_loopS Wk hn _ hSf _ items.size 0 _ _ _ rfl (Nat.zero_le _) ⟨Nat.zero_le _, by rw [e0]; exact hit, hl⟩ hS (ItemsOf.nil _) fun s' acc' c' hm hS' hacc => ?_⟩
  rw [Moved.eq_with hm]
  refine hR s'.heap s'.toks acc' c' (fun b o hb hb2 e => hm.heap b o (fun hmem => ?_) e) hS' hacc
  rcases List.mem_cons.mp hmem with e' | hmem
  · exact hb e'
  · exact hb2 (List.mem_singleton.mp hmem)
theorem call_list_rev {Q : Value → Shared → Prop} (hh : A.handled = none) (hit : s.heap.IsRevIter it l ((items.size : Int) - 1)) (hl : s.heap.IsList l items) (hne : l ≠ it) (hn : items.size ≤ sizeLine)
    (hQ : ∀ h' tk acc' c', (∀ b o, b ≠ it → s.heap.get? b = some o → h'.get? b = some o) →
      h'.get? s.heap.objs.size = some { cls := .type "list", dict := none, data := .seq acc' c', slots := #[] } → ItemsOf (fun i v => items[items.size - 1 - i]? = some v) acc' items.size → Q (.ref s.heap.objs.size) { s with heap := h', toks := tk }) :
    wpAny (model prog w) A (call (.type "list") [.ref it]) Q E s := by
  obtain ⟨oi, hoi, _⟩ := id hit
  obtain ⟨ol, hol, _⟩ := id hl
  have hSi : s.heap.objs.size ≠ it := Nat.ne_of_gt (Heap.lt_size hoi)
  have hSl : s.heap.objs.size ≠ l := Nat.ne_of_gt (Heap.lt_size hol)
  refine callType_codes (Q₁ := fun obj s₁ => obj = .ref s.heap.objs.size ∧ s₁ = { s with heap := s.heap.push { cls := .type "list", data := .seq #[] } }) F.called_list (F.typeCall_list_1 _) F.entry_list_init
    (code_list_new _ ⟨rfl, rfl⟩) fun obj s₁ h₁ => ?_
  obtain ⟨rfl, rfl⟩ := h₁
  have hS : (s.heap.push { cls := .type "list", data := .seq #[] }).get? s.heap.objs.size = some { cls := .type "list", data := .seq #[] } := Heap.get?_push_size _ rfl
  refine ⟨⟨_, hS, rfl⟩, F.args_list_init_2 _ _, ?_⟩
  show wpAny (model prog w) A.in1.in1 (do let old ← Builtin.List.listItems (.ref s.heap.objs.size); Builtin.List.listUpdate (.ref s.heap.objs.size) (fun _ => #[]); letGo old.toList.reverse; Builtin.List.listExtendWith (.ref s.heap.objs.size) (.ref it) .none) _ _ _
  refine wpAny_bind ?_
  unfold Builtin.List.listItems
  refine wpAny_bind (wpAny_seqItems hS rfl (wpAny_pure ?_))
  show wpAny _ _ (updateSeq s.heap.objs.size (fun _ => #[]) >>= fun _ => letGo (#[] : Array Value).toList.reverse >>= fun _ => Builtin.List.listExtendWith (.ref s.heap.objs.size) (.ref it) .none) _ _ _
  refine wpAny_bind (wpAny_updateSeq hS rfl ?_)
  have hS₂ := Heap.get?_update_self (Obj.mapSeq (fun _ => (#[] : Array Value))) hS rfl
  have oth : ∀ b o, b ≠ s.heap.objs.size → s.heap.get? b = some o → ((s.heap.push { cls := .type "list", data := .seq #[] }).update s.heap.objs.size (Obj.mapSeq (fun _ => (#[] : Array Value)))).get? b = some o :=
    fun b o hb e => (Heap.get?_update_other _ _ (Ne.symm hb)).trans (Heap.get?_push_of_some _ e)
  refine wpAny_bind (wpAny_letGo ?_)
  refine ext_rev (A := A.in1) (s := { s with heap := (s.heap.push { cls := .type "list", data := .seq #[] }).update s.heap.objs.size (Obj.mapSeq (fun _ => (#[] : Array Value))) }) _ hh (hit.at fun o e => oth it o (Ne.symm hSi) e) (hl.at fun o e => oth l o (Ne.symm hSl) e) hne hn hSi hSl hS₂ fun h' tk acc' c' hk hS' hacc => ?_
  exact ⟨rfl, hQ h' tk acc' c' (fun b o hb e => hk b o (Nat.ne_of_lt (Heap.lt_size e)) hb (oth b o (Nat.ne_of_lt (Heap.lt_size e)) e)) hS' hacc⟩
end
end RL
namespace Eng
open PySem PySem.Spec L2
open PyProof.Rows hiding St
section
variable {X : Cx} {ca : Nat → Addr} {W : WX} {f : ES}
def tListRev (K : PySem.W.Frag) (te : TE) : TE := fun σ H Q => te σ H fun v H1 => ∃ (a : Addr) (xs : List V), v = .ref a ∧ SqL K H1 a xs ∧ ∀ q, H1 q = none → Q (.ref q) (upd H1 q (.lst xs.reverse))
theorem pe_listRev {e : Expr} {te : TE} {p p2 pos pos2 : Pos} (hc : X.calm = true) (hg : Gl X "list") (hm : X.mg "list" = none) (hg2 : Gl X "reversed") (hm2 : X.mg "reversed" = none) (he : PE X e te)
    (hs : starEach [e] X.env = (false, eval e X.env) :: starEach [] X.env := by rfl)
    (hs2 : starEach [.Call (.Name "reversed" p2) [e] [] pos2] X.env = (false, eval (.Call (.Name "reversed" p2) [e] [] pos2) X.env) :: starEach [] X.env := by rfl) :
    PE X (.Call (.Name "list" p) [.Call (.Name "reversed" p2) [e] [] pos2] [] pos) (tListRev X.K te) := by
  refine ⟨fun pins s σ H Q I h => ?_⟩
  refine Call_ (ld_blt I hg hm boot_list (PyProof.Rows.callWith_type1 (args_cons (Call_ (ld_blt I hg2 hm2 PyProof.Rows.boot_reversed (PyProof.Rows.callWith_type1 (args_cons (thn (he.run pins s σ H _ I h) fun u s1 ⟨v, H1, I1, r1, q1⟩ => args_nil ?_) hs) hs rfl))) hs2) hs2 rfl))
  obtain ⟨a, xs, ev, hq, q⟩ := q1
  subst ev
  obtain rfl : u = Value.ref a := r1
  obtain ⟨its, rv, p', hz⟩ := I1.list hq
  refine call_reversed_list p'.isList (args_nil ?_)
  have k0 : ∀ b o, s1.heap.get? b = some o → (s1.heap.push (revObj a ((its.toArray.size : Int) - 1))).get? b = some o := fun b o e => Heap.get?_push_of_some _ e
  have I2 : Inv X pins σ H1 { s1 with heap := s1.heap.push (revObj a ((its.toArray.size : Int) - 1)) } := I1.kept (t' := s1.toks) k0
  have fp := I1.fpOk (H' := H1) (b := s1.heap.objs.size) (Nat.le_refl _) (I1.hok.fresh (Nat.le_refl _))
  have hl := p'.isList
  obtain ⟨ol, hol, _⟩ := id hl
  have hne : a ≠ s1.heap.objs.size := Nat.ne_of_lt (Heap.lt_size hol)
  have hn : its.toArray.size ≤ sizeLine := by rw [List.size_toArray, ← rv.length]; exact hz
  refine RL.call_list_rev (s := { s1 with heap := s1.heap.push (revObj a ((its.toArray.size : Int) - 1)) }) (I1.ok.hd hc) ⟨_, Heap.get?_push_size _ rfl, rfl, rfl⟩ (hl.push _) hne hn fun h' tk acc c' hk hS hi => ?_
  have ok : ObjOk X.prog X.w (upd H1 (s1.heap.push (revObj a ((its.toArray.size : Int) - 1))).objs.size (.lst xs.reverse)) h' (s1.heap.push (revObj a ((its.toArray.size : Int) - 1))).objs.size (.lst xs.reverse) := by
    refine ⟨by rw [List.length_reverse]; exact hz, acc.toList, c', RT.vals_rev rv hi, ?_⟩
    rw [Array.toArray_toList]
    exact hS
  have I3 := I2.turnedNew (t' := tk) (ch := [s1.heap.objs.size]) (fun b o hb e => hk b o (fun z => hb (by rw [z]; exact List.mem_singleton.mpr rfl)) e) (fun b hb => by rw [List.mem_singleton.mp hb]; exact fp) (Nat.le_refl _) ok
  exact ⟨.ref _, _, I3, rfl, q _ (I2.hok.fresh (Nat.le_refl _))⟩
def listRevS (o : O) : Option O := o.list?.map fun ds => .lst ds.reverse
theorem se_listRev {e : Expr} {p p2 pos pos2 : Pos} (hc : X.calm = true) (B : Blt X.mg) (hr : X.mg "reversed" = none) (hg : Gl X "list") (hg2 : Gl X "reversed") (he : PE X e (RdE X ca W f))
    (hs : starEach [e] X.env = (false, eval e X.env) :: starEach [] X.env := by rfl)
    (hs2 : starEach [.Call (.Name "reversed" p2) [e] [] pos2] X.env = (false, eval (.Call (.Name "reversed" p2) [e] [] pos2) X.env) :: starEach [] X.env := by rfl) :
    PE X (.Call (.Name "list" p) [.Call (.Name "reversed" p2) [e] [] pos2] [] pos) (RdE X ca W (o1 listRevS f)) := PE.imp (pe_listRev hc hg B.list hg2 hr he hs hs2) fun σ H Q h => (rd_o1 h).mono fun x H1 h => by
  obtain ⟨Z, a, o, zd, ha, e, q⟩ := rsem1 h
  unfold listRevS at e
  cases e1 : a.list? with
  | none => rw [e1] at e; cases e
  | some ds =>
    rw [e1] at e
    cases e
    obtain ⟨p, xs, rfl, hp, hd⟩ := rb_list ha e1
    exact ⟨p, xs, rfl, .inl (.inl hp), fun a' na => q _ _ _ (Al.lst hd.reverse na)⟩
end
end Eng
set_option maxHeartbeats 1000000
/-! The engine, part 25: a call that is never met. -/
namespace Eng
open PySem PySem.Spec L2
open PyProof.Rows hiding St
end Eng
set_option maxHeartbeats 1000000
/-! The engine, part 26: try .. except C as n, the exception kept as an object. -/
namespace Eng
open PySem PySem.Spec L2
open PyProof.Rows hiding St
section
variable {X : Cx} {pins : List (Addr × Obj)} {σ : L2.St} {H : Hp} {s : Shared}
end
section
variable {X : Cx} {x n : Str} {c : Value} {i : Nat} {body suite : List Stmt} {b₀ : Stmt} {np pos pos' : Pos} {tb : WX → TS} {ts : Addr → Addr → TS} {Wout : WX}
end
end Eng
set_option maxHeartbeats 1000000
/-! The engine, part 27: the program's exceptions: what is known of their classes; isinstance; try. -/
namespace Eng
open PySem PySem.Spec L2
open PyProof.Rows hiding St
/-- the classes by their numbers -/
def clN : Nat → Str
  | 0 => "PrimerError" | 1 => "NoText" | 2 => "Unfit" | 3 => "Unknown" | 4 => "Unlearnt" | 5 => "TooMany" | 6 => "Lacking" | 7 => "NoRow" | 8 => "NoDeed" | 9 => "Shelf" | _ => "Desk"
structure Xf (K : PySem.W.Frag) (mg : Str → Option Value) (ca : Nat → Addr) (cl : List Nat) : Prop where
  g : ∀ c ∈ cl, mg (clN c) = some (.ref (ca c))
  x : ∀ c ∈ cl, PySem.W.excIn K (ca c) [.type "ValueError", .type "Exception", .type "BaseException", .type "object"] "ValueError.__new__" = true ∧ PySem.W.keepIn K (.ref (ca c)) = true ∧ PySem.W.subIn K (.ref (ca c)) (.type "BaseException") = some true ∧ PySem.W.typeIn K (.ref (ca c)) = some (.type "type")
  e : ∀ c ∈ cl, ExcC K (ca c)
  m : ∀ c ∈ cl, ∀ j ∈ cl, PySem.W.exmOne K (.ref (ca c)) (.ref (ca j)) = some (j == 0 || c == j)
  k : ∀ c ∈ cl, ∀ j ∈ cl, PySem.W.kitOne K (.ref (ca c)) (.ref (ca j)) = some (j == 0 || c == j)
  v : ∀ c ∈ cl, PySem.W.kitOne K (.ref (ca c)) (.type "ValueError") = some true
  n : mg "ValueError" = none
section
variable {X : Cx} {ca : Nat → Addr} {W : WX} {f : ES} {cl : List Nat}
variable {e : Expr} {p p2 pos : Pos} {x : Str}
end

/-! ### try -/
/-- the name of an except clause goes -/
def gone (i : Nat) : SOut → SOut
  | .nx ρ => .nx (ρ.set i none)
  | .bk ρ => .bk (ρ.set i none)
  | .ct ρ => .ct (ρ.set i none)
  | .rt o ρ => .rt o ρ
  | _ => .stuck
section
variable {X : Cx} {ca : Nat → Addr} {W : WX} {b s : SS} {cl : List Nat} {i j : Nat} {θ : Nat → V} {G : Gx} {Z : Zs} {H : Hp} {σ : L2.St} {L : List Addr} {ρ : En}
variable {x n : Str} {body suite : List Stmt} {b₀ : Stmt} {np pos pos' : Pos}
end
end Eng
set_option maxHeartbeats 1000000
/-! The engine, part 28: xs.index(y), xs.count(y), xs.insert(i, y), dict(pairs), d.pop(k). -/
namespace Eng
open PySem PySem.Spec L2
open PyProof.Rows hiding St
/-! ### methods that only read -/
/-- a method of a list that reads: the list's operand, one argument -/
def oRd (sem : O → O → Option O) (f g : ES) : ES := fun ρ => (f ρ).bind fun p ρ1 => match look ρ1 p with
  | some o0 => if o0.list?.isSome = true then (g ρ1).bind fun q ρ2 => match looks ρ2 [p, q] with
      | some os => put ρ2 (two sem os)
      | none => .stuck
    else .stuck
  | none => .stuck
section
variable {X : Cx} {ca : Nat → Addr} {W : WX} {f g : ES} {σ : L2.St} {H : Hp}
variable {o e : Expr} {apos pos : Pos} {k : Nat}
mutual
theorem plain_nd : ∀ d : D, d.plain = true → d.hasDict = false
  | .none, _ => by simp [PyData.hasDict]
  | .bool _, _ => by simp [PyData.hasDict]
  | .int _, _ => by simp [PyData.hasDict]
  | .str _, _ => by simp [PyData.hasDict]
  | .list ds, h => by simpa [PyData.hasDict] using plainAll_nd ds (by simpa [PyData.plain] using h)
  | .tuple ds, h => by simpa [PyData.hasDict] using plainAll_nd ds (by simpa [PyData.plain] using h)
  | .dict _, h => by simp [PyData.plain] at h
theorem plainAll_nd : ∀ ds : List D, PyData.plainAll ds = true → PyData.hasDictAll ds = false
  | [], _ => by simp [PyData.hasDictAll]
  | d :: ds, h => by
    have h2 : d.plain = true ∧ PyData.plainAll ds = true := by simpa [PyData.plainAll] using h
    simp [PyData.hasDictAll, plain_nd d h2.1, plainAll_nd ds h2.2]
end
/-! ### xs.insert(i, y) -/
/-! ### dict(pairs) -/
/-! ### d.pop(k) -/
end
end Eng
set_option maxHeartbeats 1000000
/-! The engine, part 29: raise by the classes' facts; these facts at the head. -/
namespace Eng
open PySem PySem.Spec L2
open PyProof.Rows hiding St
section
variable {X : Cx} {ca : Nat → Addr} {W : WX} {cl : List Nat}
theorem ss_raiseX {m : Str} {j0 : Nat} {p p2 pos pos' : Pos} (F : Xf X.K X.mg ca cl) (j : Nat) (hj : j ∈ cl) (hc : X.calm = true) (tk : L2N.Takes X W) (hg : Gl X (clN j)) (hd : (clN j == ("__debug__" : Str)) = false) :
    PS X (.Raise (some (.Call (.Name (clN j) p) [.Constant (.str m) j0 p2] [] pos')) none pos) (RdS X ca W (sRaise j)) :=
  ss_raise rfl hc tk PySem.F.excBase_ValueError (F.x j hj).1 (F.g j hj) (F.x j hj).2.1 (raises_own (F.x j hj).2.2.1 (F.x j hj).2.2.2) hg hd
end
/-- a class of exceptions, looked at -/
def excB (K : PySem.W.Frag) (C : Addr) : Bool :=
  He.eqO (PySem.W.findIn K (.ref C) "__getattribute__") (some (some (.builtin "BaseException.__getattribute__"))) && (He.eqO (PySem.W.findIn K (.ref C) "__getattr__") (some none) && (decide (PySem.W.subIn K (.ref C) (.type "BaseException") = some true) &&
    (PySem.W.hasDictIn K C && (He.eqO (PySem.W.findIn K (.ref C) "__class__") (some (some (.builtin "object.__class__"))) && (He.eqO (PySem.W.specialIn K (.builtin "object.__class__") "__get__") (some (some (.builtin "getset_descriptor.__get__"))) &&
      (decide (PySem.W.takesIn K (.builtin "object.__class__") = some true) && decide (PySem.W.mroIn K C (.type "object") = some true)))))))
theorem excB_ok {K : PySem.W.Frag} {C : Addr} (h : excB K C = true) : ExcC K C := by
  unfold excB at h
  obtain ⟨h1, h⟩ := He.ba h
  obtain ⟨h2, h⟩ := He.ba h
  obtain ⟨h3, h⟩ := He.ba h
  obtain ⟨h4, h⟩ := He.ba h
  obtain ⟨h5, h⟩ := He.ba h
  obtain ⟨h6, h⟩ := He.ba h
  obtain ⟨h7, h8⟩ := He.ba h
  exact ⟨He.eqO_ok h1, He.eqO_ok h2, of_decide_eq_true h3, h4, He.eqO_ok h5, He.eqO_ok h6, of_decide_eq_true h7, of_decide_eq_true h8⟩
def caOf (K : PySem.W.Frag) (c : Nat) : Addr := He.ga K (clN c)
def veL : List Value := [.type "ValueError", .type "Exception", .type "BaseException", .type "object"]
def oneB (K : PySem.W.Frag) (C : Addr) : Bool := PySem.W.excIn K C veL "ValueError.__new__" && (PySem.W.keepIn K (.ref C) && (decide (PySem.W.subIn K (.ref C) (.type "BaseException") = some true) && decide (PySem.W.typeIn K (.ref C) = some (.type "type"))))
def clB (cl : List Nat) (K : PySem.W.Frag) : Bool :=
  (cl.all fun c => He.eqO (PySem.W.nsIn K mainGlobals (clN c)) (some (some (.ref (caOf K c)))) && (oneB K (caOf K c) && (excB K (caOf K c) && (decide (PySem.W.kitOne K (.ref (caOf K c)) (.type "ValueError") = some true) &&
    cl.all fun j => decide (PySem.W.exmOne K (.ref (caOf K c)) (.ref (caOf K j)) = some (j == 0 || c == j)) && decide (PySem.W.kitOne K (.ref (caOf K c)) (.ref (caOf K j)) = some (j == 0 || c == j)))))) &&
  He.eqO (PySem.W.nsIn K mainGlobals "ValueError") (some none)
theorem clB_ok {cl : List Nat} {K : PySem.W.Frag} {h : Heap} {mg : Str → Option Value} (X : K.In h) (G : h.Ns mainGlobals mg) (b : clB cl K = true) : Xf K mg (caOf K) cl := by
  unfold clB at b
  obtain ⟨b1, b2⟩ := He.ba b
  have all : ∀ c ∈ cl, He.eqO (PySem.W.nsIn K mainGlobals (clN c)) (some (some (.ref (caOf K c)))) = true ∧ oneB K (caOf K c) = true ∧ excB K (caOf K c) = true ∧ PySem.W.kitOne K (.ref (caOf K c)) (.type "ValueError") = some true ∧
      ∀ j ∈ cl, PySem.W.exmOne K (.ref (caOf K c)) (.ref (caOf K j)) = some (j == 0 || c == j) ∧ PySem.W.kitOne K (.ref (caOf K c)) (.ref (caOf K j)) = some (j == 0 || c == j) := fun c hc => by
    obtain ⟨g1, g⟩ := He.ba (List.all_eq_true.mp b1 c hc)
    obtain ⟨g2, g⟩ := He.ba g
    obtain ⟨g3, g⟩ := He.ba g
    obtain ⟨g4, g5⟩ := He.ba g
    exact ⟨g1, g2, g3, of_decide_eq_true g4, fun j hj => by
      obtain ⟨k1, k2⟩ := He.ba (List.all_eq_true.mp g5 j hj)
      exact ⟨of_decide_eq_true k1, of_decide_eq_true k2⟩⟩
  exact
    { g := fun c hc => PySem.W.mg_of X G (He.eqO_ok (all c hc).1)
      x := fun c hc => by
        have := (all c hc).2.1
        unfold oneB at this
        obtain ⟨c1, c⟩ := He.ba this
        obtain ⟨c2, c⟩ := He.ba c
        obtain ⟨c3, c4⟩ := He.ba c
        exact ⟨c1, c2, of_decide_eq_true c3, of_decide_eq_true c4⟩
      e := fun c hc => excB_ok (all c hc).2.2.1
      m := fun c hc j hj => ((all c hc).2.2.2.2 j hj).1
      k := fun c hc j hj => ((all c hc).2.2.2.2 j hj).2
      v := fun c hc => (all c hc).2.2.2.1
      n := PySem.W.mg_none_of X G (He.eqO_ok b2) }
/-! ### a hook with one more look -/
def obsM (n : Nat) (fa : List He.Fa) (fn : List He.FnD) (ex : PySem.W.Frag → Bool) (g : Addr → Option Obj) : He.Al × Bool := (He.obsG n fa fn g, ex (He.frG g (He.asG g n)))
def SaysM (fa : List He.Fa) (fn : List He.FnD) (ex : PySem.W.Frag → Bool) (K : PySem.W.Frag) : Prop := He.SaysE fa fn K ∧ ex K = true
def hookM (n : Nat) (fa : List He.Fa) (fn : List He.FnD) (ex : PySem.W.Frag → Bool) : PySem.W.Hook where
  α := He.Al × Bool
  obs := fun s => obsM n fa fn ex s.heap.get?
  val := fun _ => (He.valE fn, true)
  says := fun _ h => ∃ K : PySem.W.Frag, K.In h ∧ SaysM fa fn ex K
  of := fun _ _ e => ⟨_, He.frG_in, (Prod.mk.inj e).1, (Prod.mk.inj e).2⟩
  keeps := fun _ _ _ ⟨K, hK, c⟩ k => ⟨K, PySem.W.Frag.In.keeps hK k, c⟩
theorem obsM_eq {n : Nat} {fa : List He.Fa} {fn : List He.FnD} {ex : PySem.W.Frag → Bool} {g : Addr → Option Obj} {s : Shared} (h : ∀ a, g a = s.heap.get? a) : obsM n fa fn ex g = (hookM n fa fn ex).obs s := by
  have e : g = s.heap.get? := funext h
  rw [e]
  rfl
end Eng
set_option maxHeartbeats 1000000
/-! The engine, part 30: list(reversed(t)), tuple(reversed(t)), t a tuple. -/
namespace RL
open PySem PySem.Spec PyProof.Rows RT
section
variable {prog : Program} {w : World} {A : Around} {E : Value → Shared → Prop} {s : Shared} {R : Result → Shared → Prop} {it t S : Addr} {items : Array Value}
end
end RL
namespace Eng
open PySem PySem.Spec L2
open PyProof.Rows hiding St
section
variable {X : Cx} {ca : Nat → Addr} {W : WX} {f : ES}
/-- the items of a tuple, reversed -/
def listRvT : O → Option O
  | .val (.tuple ds) => some (.lst ds.reverse)
  | _ => none
def tupRvT : O → Option O
  | .val (.tuple ds) => some (.val (.tuple ds.reverse))
  | _ => none
end
end Eng
/-! The engine, part 31: a thing that a call tells anew, read, and then changed within. -/
namespace Eng
open PySem PySem.Spec L2
open PyProof.Rows hiding St

/-! ### data without lists -/
mutual
def lfD : D → Bool
  | .list _ => false
  | .tuple ds => lfA ds
  | .dict _ => false
  | _ => true
def lfA : List D → Bool
  | [] => true
  | d :: ds => lfD d && lfA ds
end
/-- what is kept of tuples, of the script -/
structure Tk (K : PySem.W.Frag) (H H' : Hp) : Prop where
  t : ∀ a xs, SqT K H a xs → SqT K H' a xs
  f : ∀ a ns, SqS K H a ns → SqS K H' a ns
section
variable {Z Z' : Zs} {K : PySem.W.Frag} {H H' : Hp} {G : Gx}
mutual
theorem Dz.free (k : Tk K H H') : ∀ {d : D} {v : V}, lfD d = true → Dz Z K H d v → Dz Z' K H' d v
  | .none, _, _, h => by cases h; exact .non
  | .bool _, _, _, h => by cases h; exact .bl _
  | .int _, _, _, h => by cases h; exact .int _
  | .str _, _, _, h => by cases h; exact .str _
  | .list _, _, e, h => by simp [lfD] at e
  | .tuple ds, _, e, h => by
    cases h with
    | tup r h => exact .tup (k.t _ _ r) (DzA.free k (by simpa [lfD] using e) h)
  | .dict _, _, e, h => by simp [lfD] at e
theorem DzA.free (k : Tk K H H') : ∀ {ds : List D} {vs : List V}, lfA ds = true → DzA Z K H ds vs → DzA Z' K H' ds vs
  | [], _, _, h => by cases h; exact .nil
  | d :: ds, _, e, h => by
    cases h with
    | cons h t =>
      have e2 : lfD d = true ∧ lfA ds = true := by simpa [lfA] using e
      exact .cons (Dz.free k e2.1 h) (DzA.free k e2.2 t)
end
def lfO : O → Bool
  | .val d => lfD d
  | .scr _ => true
  | .lst ds => lfA ds
  | .set _ => true
  | .dic es => lfA (es.map (·.1)) && lfA (es.map (·.2))
  | _ => false
theorem Ro.free {F : List Addr} {v : V} (k : Tk G.K H H') : ∀ {o : O}, lfO o = true → Ro G Z H o v F → (∀ a ∈ F, ∀ u, H a = some u → H' a = some u) → Ro G Z' H' o v F := by
  intro o e h hf
  cases h with
  | val h => exact .val (h.free k (by simpa [lfO] using e))
  | scr h => exact .scr (k.f _ _ h)
  | set e1 => exact .set (hf _ (by simp) _ e1)
  | lst e1 h => exact .lst (hf _ (by simp) _ e1) (h.free k (by simpa [lfO] using e))
  | dic e1 hk hv nd =>
    rename_i a kvs es
    have e2 : lfA (es.map (·.1)) = true ∧ lfA (es.map (·.2)) = true := by simpa [lfO] using e
    exact .dic (hf _ (by simp) _ e1) (hk.free k e2.1) (hv.free k e2.2) nd
  | dct e1 hx nd ne =>
    rename_i a xs es
    have e2 : lfA (es.map (·.1)) = true ∧ lfA (es.map (·.2)) = true := by simpa [lfO] using e
    have key : ∀ {xs : List (NestedKey × Addr × Value)} {es : List (D × D)}, Paired (NEnt Z G.K H) xs es → lfA (es.map (·.1)) = true → lfA (es.map (·.2)) = true → Paired (NEnt Z' G.K H') xs es := by
      intro xs es p
      induction p with
      | nil => intro _ _; exact .nil
      | cons h t ih =>
        intro a1 a2
        simp only [List.map_cons, lfA, Bool.and_eq_true] at a1 a2
        obtain ⟨h1, h2, h3, w, h4, h5⟩ := h
        exact .cons ⟨h1, h2, h3.free k a1.1, w, h4, h5.free k a2.1⟩ (ih a1.2 a2.2)
    exact .dct (hf _ (by simp) _ e1) (key hx e2.1 e2.2) nd ne
  | ins => simp [lfO] at e
  | _ => simp [lfO] at e
/-- slot by slot -/
theorem RoS.slots : ∀ {ρ : En} {σ : L2.St} {L : List Addr}, RoS G Z H ρ σ L → (∀ (j : Nat) (p : Bool) (o : O) (v : V) (F : List Addr), ρ[j]? = some (some (p, o)) → σ[j]? = some (some v) → Ro G Z H o v F → (∀ a ∈ F, a ∈ L) → Ro G Z' H' o v F) → RoS G Z' H' ρ σ L
  | _, _, _, .emp, _ => .emp
  | _, _, _, .no t, h => .no (RoS.slots t fun j p o v F e1 e2 h1 h2 => h (j + 1) p o v F (by simpa using e1) (by simpa using e2) h1 h2)
  | _, _, _, .yes h1 t, h => .yes (h 0 _ _ _ _ rfl rfl h1 fun a ha => List.mem_append_left _ ha) (RoS.slots t fun j p o v F e1 e2 h1 h2 => h (j + 1) p o v F (by simpa using e1) (by simpa using e2) h1 fun a ha => List.mem_append_right _ (h2 a ha))
end

/-! ### the slots that are known without lists -/
def strip1 : Sl → Sl
  | some (p, .val d) => if lfD d = true then some (p, .val d) else none
  | some (p, .scr ns) => some (p, .scr ns)
  | _ => none
def strip (ρ : En) : En := ρ.map strip1
section
variable {X : Cx} {ca : Nat → Addr} {W : WX} {G : Gx} {f : ES} {mid rest : SS}
variable {θ θ' : Nat → V} {Z Z' Z0 : Zs} {L L' L0 F : List Addr} {H H' H0 : Hp} {σ σ' : L2.St} {ρ ρ' : En} {Dn : Ends}
theorem RoS.strip : ∀ {ρ : En} {σ : L2.St} {L : List Addr}, RoS G Z H ρ σ L → RoS G (fun _ => False) H (Eng.strip ρ) σ []
  | _, _, _, .emp => .emp
  | _, _, _, .no t => .no (RoS.strip t)
  | _, _, _, .yes (p := p) (o := o) h t => by
    have t' := RoS.strip t
    have tk : Tk G.K H H := ⟨fun _ _ h => h, fun _ _ h => h⟩
    show RoS G _ H (strip1 (some (p, o)) :: Eng.strip _) _ []
    cases h with
    | val h =>
      unfold strip1
      simp only
      split
      · rename_i e
        exact .yes (F := []) (.val (h.free tk e)) t'
      · exact .no t'
    | scr h => exact .yes (F := []) (.scr h) t'
    | _ => exact .no t'
theorem strip_get {j : Nat} {p : Bool} {o : O} (e : (Eng.strip ρ)[j]? = some (some (p, o))) : ρ[j]? = some (some (p, o)) := by
  unfold Eng.strip at e
  rw [List.getElem?_map] at e
  cases q : ρ[j]? with
  | none => rw [q] at e; cases e
  | some sl =>
    rw [q] at e
    simp only [Option.map_some, Option.some.injEq] at e
    cases sl with
    | none => cases e
    | some po =>
      obtain ⟨p', o'⟩ := po
      cases o' with
      | val d =>
        simp only [strip1] at e
        split at e
        · exact congrArg some e
        · cases e
      | scr ns => exact congrArg some e
      | _ => cases e
theorem Rep.strip (r : Rep θ G Z H ρ σ L) : Rep θ G (fun _ => False) H (Eng.strip ρ) σ [] :=
  ⟨r.sl.strip, List.nodup_nil, fun _ h => (by cases h), fun _ h => h.elim, fun i o e => r.pn i o (strip_get e)⟩
/-! ### pins -/
def pinsE : List Nat → En → Option En
  | [], ρ => some ρ
  | j :: js, ρ => match ρ[j]? with
    | some (some (_, .val d)) => pinsE js (ρ.set j (some (true, .val d)))
    | _ => none
def unpins : List Nat → SOut → SOut
  | [], o => o
  | j :: js, o => unpS j (unpins js o)
/-! ### a block's first part, then what is told of the rest -/
def PoK (X : Cx) (ca : Nat → Addr) (W : WX) (θ : Nat → V) (Z : Zs) (L : List Addr) (H : Hp) (D : Ends) (K : L2.St → Hp → Prop) (T : En → Zs → List Addr → L2.St → Hp → Prop) : SOut → Prop
  | .nx ρ' => ∀ Z' H' L' σ', Rep θ (gx X ca) Z' H' ρ' σ' L' → Step Z L H Z' L' H' → K σ' H'
  | o => PoS X ca W θ Z L H D o
def TKr (X : Cx) (ca : Nat → Addr) (W : WX) (a : SS) (t : TS) : TS := fun D σ H => ∃ θ Z ρ L, Rep θ (gx X ca) Z H ρ σ L ∧ PoK X ca W θ Z L H D (t D) (fun _ _ _ _ _ => True) (a ρ)
theorem PoK.step {D : Ends} {K : L2.St → Hp → Prop} {T : En → Zs → List Addr → L2.St → Hp → Prop} {o : SOut} {Z1 : Zs} {L1 : List Addr} {H1 : Hp} (q : PoK X ca W θ Z L H D K T o) (s : Step Z L H Z1 L1 H1) : PoK X ca W θ Z1 L1 H1 D K T o := by
  cases o with
  | nx ρ1 => exact fun Z' H' L' σ' r s' => q Z' H' L' σ' r (s.trans s')
  | stuck => exact (show PoS X ca W θ Z L H D .stuck from q).step s
  | exc c ρ1 => exact (show PoS X ca W θ Z L H D (.exc c ρ1) from q).step s
  | bk ρ1 => exact (show PoS X ca W θ Z L H D (.bk ρ1) from q).step s
  | ct ρ1 => exact (show PoS X ca W θ Z L H D (.ct ρ1) from q).step s
  | rt o ρ1 => exact (show PoS X ca W θ Z L H D (.rt o ρ1) from q).step s
theorem ty_nil {sts : List Stmt} {t : TS} (h : PSs X sts t) : PSs X sts (TKr X ca W sNil t) := PSs.imp h fun D σ H ⟨θ, Z, ρ, L, r, q⟩ => q Z H L σ r Step.refl
theorem ty_cons {st : Stmt} {sts : List Stmt} {t : TS} {a b : SS} (h1 : PS X st (RdS X ca W a)) (h2 : PSs X sts (TKr X ca W b t)) : PSs X (st :: sts) (TKr X ca W (sSeq a b) t) := PSs.imp (pss_cons h1 h2) fun D σ H ⟨θ, Z, ρ, L, r, q⟩ => by
  refine ⟨θ, Z, ρ, L, r, ?_⟩
  unfold sSeq at q
  cases e : a ρ with
  | nx ρ1 =>
    rw [e] at q
    exact fun Z1 H1 L1 σ1 r1 s1 => ⟨θ, Z1, ρ1, L1, r1, PoK.step q s1⟩
  | rt o ρ1 => rw [e] at q; exact q
  | bk ρ1 => rw [e] at q; exact q
  | ct ρ1 => rw [e] at q; exact q
  | exc c ρ1 => rw [e] at q; exact q
  | stuck => rw [e] at q; exact q

/-! ### thawed -/
/-- what stands is changed at lists of T alone -/
def Chg (T : Zs) (H H' : Hp) : Prop := ∀ a o, H a = some o → ¬ (T a ∧ ∃ xs, o = .lst xs) → H' a = some o
theorem Chg.refl {T : Zs} : Chg T H H := fun _ _ e _ => e
theorem Chg.upd {T : Zs} {l : Addr} {xs : List V} {u : HO} (hl : T l) (e : H l = some (.lst xs)) : Chg T H (upd H l u) := fun a o ea hn => by
  have : a ≠ l := fun q => by
    subst q
    rw [e] at ea
    cases ea
    exact hn ⟨hl, _, rfl⟩
  rw [upd_ne this]
  exact ea
theorem Chg.tk {T : Zs} {K : PySem.W.Frag} (c : Chg T H H') : Tk K H H' where
  t := fun a xs r => by
    rcases r with (r | ⟨o, r⟩) | r
    · exact .inl (.inl (c _ _ r fun ⟨_, xs, e⟩ => by cases e))
    · exact .inl (.inr ⟨o, c _ _ r fun ⟨_, xs, e⟩ => by cases e⟩)
    · exact .inr r
  f := fun a ns r => by
    rcases r with ⟨o, r⟩ | r
    · exact .inl ⟨o, c _ _ r fun ⟨_, xs, e⟩ => by cases e⟩
    · exact .inr r
/-- slots are forgotten -/
def noneE : List Nat → En → En
  | [], ρ => ρ
  | i :: is, ρ => noneE is (ρ.set i none)
theorem Rep.noneE : ∀ {is : List Nat} {ρ : En} {L : List Addr}, Rep θ G Z H ρ σ L → ∃ L', Rep θ G Z H (Eng.noneE is ρ) σ L' ∧ ∀ a ∈ L', a ∈ L
  | [], _, L, r => ⟨L, r, fun _ h => h⟩
  | i :: is, ρ, L, r => by
    unfold Eng.noneE
    have one : ∃ L', Rep θ G Z H (ρ.set i none) σ L' ∧ ∀ a ∈ L', a ∈ L := by
      cases e : ρ[i]? with
      | none => exact ⟨L, by rw [List.set_eq_of_length_le (by rw [List.getElem?_eq_none_iff] at e; exact e)]; exact r, fun _ h => h⟩
      | some sl =>
        cases sl with
        | none =>
          have : ρ.set i none = ρ := by
            apply List.ext_getElem? fun k => ?_
            by_cases q : i = k
            · subst q; rw [List.getElem?_set_self (List.getElem?_eq_some_iff.mp e).1, e]
            · rw [List.getElem?_set_ne q]
          exact ⟨L, by rw [this]; exact r, fun _ h => h⟩
        | some po =>
          obtain ⟨p, o⟩ := po
          obtain ⟨F, L', v, _, _, r', _, _, h, _⟩ := r.lift e
          exact ⟨L', r', fun a ha => (h a).mp (List.mem_append_right _ ha)⟩
    obtain ⟨L1, r1, h1⟩ := one
    obtain ⟨L2, r2, h2⟩ := Rep.noneE (is := is) r1
    exact ⟨L2, r2, fun a ha => h1 a (h2 a ha)⟩
end
end Eng
/-! The engine, part 32: x = f(..), looked at, then changed within (its own lists are new). -/
namespace Eng
open PySem PySem.Spec L2
open PyProof.Rows hiding St

section
variable {X : Cx} {ca : Nat → Addr} {W : WX} {G : Gx} {f : ES} {mid rest : SS}
variable {θ θ' : Nat → V} {Z Z' Z0 : Zs} {L L' L0 F : List Addr} {H H' H0 : Hp} {σ σ' : L2.St} {ρ ρ' : En} {Dn : Ends}
theorem kp_sub {T Z2 : Zs} {K : PySem.W.Frag} (k : Kp Z K H Z2 H') (h : ∀ a, T a → Z a) : Kp T K H T H' := ⟨fun _ h => h, fun a xs z e => k.r a xs (h a z) e, k.t, k.f, k.g⟩
theorem kp_up {Z2 : Zs} {K : PySem.W.Frag} (h : ∀ a, Z a → Z2 a) : Kp Z K H Z2 H := ⟨h, fun _ _ _ e => e, fun _ _ e => e, fun _ _ e => e, fun _ _ _ e => e⟩
end
end Eng
/-! The engine, part 33: the changing statements: x.clear(); x.append(["a"]), x[0].append("b"); for y in x: y.clear(). -/
namespace Eng
open PySem PySem.Spec L2
open PyProof.Rows hiding St
section
variable {X : Cx} {ca : Nat → Addr} {W : WX} {rest : SS}
/-! ### x.clear() -/
/-! ### x.append([a]); x[0].append(b) -/
/-! ### for y in x: y.clear(); x.clear() -/
end
end Eng
/-! The engine, part 34: f(..).append(y); list(d.values()). -/
namespace Eng
open PySem PySem.Spec L2
open PyProof.Rows hiding St
section
variable {X : Cx} {ca : Nat → Addr} {W : WX} {rest : SS} {f g : ES}
/-! ### f(..).append(y) -/
def oAppT (f g : ES) : ES := fun ρ => (f ρ).bind fun p ρ1 => match p with
  | .tmp (.lst ds) => (g ρ1).bind fun p2 ρ2 => match give ρ2 p2 with
    | some (_, ρ3) => if ds.length < sizeLine then .ok (.tmp (.val .none)) ρ3 else .stuck
    | none => .stuck
  | _ => .stuck
/-! ### list(d.values()) -/
end
end Eng
/-! The engine, part 35: names frozen, names dropped, ahead of statements. -/
namespace Eng
open PySem PySem.Spec L2
open PyProof.Rows hiding St
section
variable {X : Cx} {ca : Nat → Addr} {W : WX} {b : SS} {sts : List Stmt}
def sFrz (j : Nat) (b : SS) : SS := fun ρ => b (frz ρ j)
def sDrp (is : List Nat) (b : SS) : SS := fun ρ => b (dropE is ρ)
theorem ss_frz {j : Nat} (h : PSs X sts (RdS X ca W b)) : PSs X sts (RdS X ca W (sFrz j b)) := PSs.imp h fun D σ H ⟨θ, Z, ρ, L, r, q⟩ => by
  cases e : ρ[j]? with
  | none => exact ⟨θ, Z, ρ, L, r, by unfold sFrz frz at q; rw [e] at q; exact q⟩
  | some sl =>
    cases sl with
    | none => exact ⟨θ, Z, ρ, L, r, by unfold sFrz frz at q; rw [e] at q; exact q⟩
    | some po =>
      obtain ⟨p, o⟩ := po
      cases o with
      | lst ds =>
        obtain ⟨Z', L', v', q1, q2, q3, q4, _⟩ := r.frz e
        unfold sFrz at q
        rw [frz_eq e] at q
        exact ⟨θ, Z', _, L', q2, PoS.step q (by simpa using q4)⟩
      | _ => exact ⟨θ, Z, ρ, L, r, by unfold sFrz frz at q; rw [e] at q; exact q⟩
end
end Eng
set_option maxHeartbeats 1000000
/-! The engine, part 36: xs * k, xs a list. -/
namespace Eng
open PySem PySem.Spec L2
open PyProof.Rows hiding St
section
variable {X : Cx} {ca : Nat → Addr}
end
end Eng
set_option maxHeartbeats 1000000
/-! The engine, part 37: objects of own classes: fields read and stored. -/
namespace Eng
open PySem PySem.Spec L2
open PyProof.Rows hiding St
def fput (f : Str) (o : O) : List (Str × O) → List (Str × O)
  | [] => [(f, o)]
  | (g, x) :: r => if g = f then (g, o) :: r else (g, x) :: fput f o r
section
variable {G : Gx} {Z Z' : Zs} {H H' : Hp} {m : Str}
theorem look_cons {α : Type} (m n : Str) (x : α) (l : List (Str × α)) : ((n, x) :: l).lookup m = if n = m then some x else l.lookup m := by
  by_cases e : n = m
  · subst e; simp [List.lookup]
  · have : (m == n) = false := by simpa using fun q => e q.symm
    simp [List.lookup, this, e]
theorem RoF.look : ∀ {fs : List (Str × O)} {vs : List (Str × V)} {F : List Addr}, RoF G Z H fs vs F → (fs.lookup m = none → vs.lookup m = none) ∧ ∀ o, fs.lookup m = some o → ∃ v F', vs.lookup m = some v ∧ Ro G Z H o v F' ∧ ∀ a ∈ F', a ∈ F
  | _, _, _, .nil => ⟨fun _ => rfl, fun _ e => by cases e⟩
  | _, _, _, .cons (n := n) (o := o0) (v := v0) (fs := fs) (vs := vs) h t => by
    obtain ⟨i1, i2⟩ := RoF.look t
    rw [look_cons, look_cons]
    by_cases e : n = m
    · rw [if_pos e, if_pos e]
      exact ⟨fun q => (by cases q), fun o q => by cases q; exact ⟨_, _, rfl, h, fun a ha => List.mem_append_left _ ha⟩⟩
    · rw [if_neg e, if_neg e]
      refine ⟨i1, fun o q => ?_⟩
      obtain ⟨v, F', a1, a2, a3⟩ := i2 o q
      exact ⟨v, F', a1, a2, fun a ha => List.mem_append_right _ (a3 a ha)⟩
theorem RoF.length : ∀ {fs : List (Str × O)} {vs : List (Str × V)} {F : List Addr}, RoF G Z H fs vs F → vs.length = fs.length
  | _, _, _, .nil => rfl
  | _, _, _, .cons _ t => by rw [List.length_cons, List.length_cons, RoF.length t]
/-- a field is stored -/
theorem RoF.put {o : O} {y : V} {Fo : List Addr} (kp : Kp Z G.K H Z' H') (ho : Ro G Z' H' o y Fo) : ∀ {fs : List (Str × O)} {vs : List (Str × V)} {F : List Addr}, RoF G Z H fs vs F → (∀ a ∈ F, ∀ u, H a = some u → H' a = some u) →
    ∃ F', RoF G Z' H' (fput m o fs) (putF m y vs) F' ∧ (∀ a ∈ F', a ∈ Fo ∨ a ∈ F) ∧ ((Fo ++ F).Nodup → F'.Nodup)
  | _, _, _, .nil, _ => ⟨Fo ++ [], .cons ho .nil, fun a ha => by simpa using ha, fun nd => by simpa using nd⟩
  | _, _, _, .cons (n := n) (o := o0) (v := v0) (fs := fs) (vs := vs) (F := F1) (F' := F2) h t, hk => by
    show ∃ F', RoF G Z' H' (if n = m then (n, o) :: fs else (n, o0) :: fput m o fs) (if n = m then (n, y) :: vs else (n, v0) :: putF m y vs) F' ∧ _
    by_cases e : n = m
    · rw [if_pos e, if_pos e]
      refine ⟨Fo ++ F2, .cons ho (t.kp kp fun a ha => hk a (List.mem_append_right _ ha)), fun a ha => ?_, fun nd => ?_⟩
      · exact (List.mem_append.mp ha).elim .inl fun q => .inr (List.mem_append_right _ q)
      · have n1 := List.nodup_append.mp nd
        have n2 := List.nodup_append.mp n1.2.1
        exact List.nodup_append.mpr ⟨n1.1, n2.2.1, fun a ha b hb => n1.2.2 a ha b (List.mem_append_right _ hb)⟩
    · rw [if_neg e, if_neg e]
      obtain ⟨F', r, sub, ndp⟩ := RoF.put kp ho t fun a ha => hk a (List.mem_append_right _ ha)
      refine ⟨F1 ++ F', .cons (h.kp kp fun a ha => hk a (List.mem_append_left _ ha)) r, fun a ha => ?_, fun nd => ?_⟩
      · rcases List.mem_append.mp ha with q | q
        · exact .inr (List.mem_append_left _ q)
        · exact (sub a q).elim .inl fun q => .inr (List.mem_append_right _ q)
      · have n1 := List.nodup_append.mp nd
        have n2 := List.nodup_append.mp n1.2.1
        have n3 : (Fo ++ F2).Nodup := List.nodup_append.mpr ⟨n1.1, n2.2.1, fun a ha b hb => n1.2.2 a ha b (List.mem_append_right _ hb)⟩
        refine List.nodup_append.mpr ⟨n2.1, ndp n3, fun a ha b hb q => ?_⟩
        subst q
        rcases sub a hb with q | q
        · exact n1.2.2 a q a (List.mem_append_left _ ha) rfl
        · exact n2.2.2 a ha a q rfl
/-- the object of a class in a slot, its fields -/
theorem Ro.ins_of {c : Nat} {fs : List (Str × O)} {v : V} {F : List Addr} (h : Ro G Z H (.ins c fs) v F) : ∃ a dx vs F', v = .ref a ∧ F = a :: F' ∧ H a = some (.ins (G.ca c) dx vs) ∧ RoF G Z H fs vs F' := by
  cases h with
  | ins e h => exact ⟨_, _, _, _, rfl, rfl, e, h⟩
end
/-- a field that is data -/
def oFld (c i : Nat) (m : Str) : ES := fun ρ => match ρ[i]? with
  | some (some (_, .ins c' fs)) => if c' = c then match fs.lookup m with
      | some (.val d) => .ok (.tmp (.val d)) ρ
      | _ => .stuck
    else .stuck
  | _ => .stuck
/-- a field is stored -/
def sFld (c i : Nat) (m : Str) (g : ES) : SS := fun ρ => (g ρ).bindS fun p ρ1 => match giveUp ρ1 p with
  | some (o, ρ2) => match ρ2[i]? with
    | some (some (b, .ins c' fs)) => if c' = c ∧ fs.length < 900 then .nx (ρ2.set i (some (b, .ins c' (fput m o fs)))) else .stuck
    | _ => .stuck
  | none => .stuck
section
variable {X : Cx} {ca : Nat → Addr} {W : WX} {c i : Nat} {m x : Str} {p pos pos' : Pos} {g : ES} {value : Expr}
theorem rd_self {θ : Nat → V} {Z : Zs} {ρ : En} {L : List Addr} {σ : L2.St} {H : Hp} {Q : VK} {b : Bool} {c' : Nat} {fs : List (Str × O)} (r : Rep θ (gx X ca) Z H ρ σ L) (e : ρ[i]? = some (some (b, .ins c' fs)))
    (h : ∀ a Z1 H1 L1, Rep θ (gx X ca) Z1 H1 ρ σ L1 → Step Z L H Z1 L1 H1 → σ[i]? = some (some (.ref a)) → Q (.ref a) H1) : RdE X ca W (oNm i) σ H Q := by
  refine ⟨θ, Z, ρ, L, r, ?_⟩
  have : oNm i ρ = .ok (.nm i) ρ := by
    unfold oNm slotO
    rw [e]
  rw [this]
  intro Z1 H1 L1 F v r1 h1 s1
  obtain ⟨rfl, hv⟩ := h1.nm
  obtain ⟨v', F', h2, ro, _⟩ := r1.sl.get e
  rw [hv] at h2
  cases h2
  obtain ⟨a, dx, vs, F2, rfl, rfl, e2, rf⟩ := ro.ins_of
  exact h a Z1 H1 L1 r1 s1 hv
theorem se_fld (C : Cls X.K (ca c)) (n : NoAttr X.K (ca c) m) (hn : PE X (.Name x p) (RdE X ca W (oNm i))) (hb : attributeBase (.Name x p) m X.env (eval (.Name x p) X.env) = eval (.Name x p) X.env) : PE X (.Attribute (.Name x p) m pos) (RdE X ca W (oFld c i m)) :=
  PE.imp (pe_fld hn hb) fun σ H Q ⟨θ, Z, ρ, L, r, q⟩ => by
    unfold oFld at q
    split at q
    · rename_i b c' fs e
      split at q
      · rename_i hc
        subst hc
        split at q
        · rename_i d el
          refine rd_self r e fun a Z1 H1 L1 r1 s1 hv => ?_
          obtain ⟨v', F', h2, ro, _⟩ := r1.sl.get e
          rw [hv] at h2
          cases h2
          obtain ⟨a', dx, vs, F2, ea, rfl, e2, rf⟩ := ro.ins_of
          cases ea
          obtain ⟨v2, F3, lv, r2, _⟩ := (rf.look (m := m)).2 _ el
          cases r2 with
          | val dz => exact ⟨a, ca c', dx, vs, v2, rfl, e2, C, n, lv, q Z1 H1 L1 [] v2 r1 ((Al.val (G := gx X ca) dz).held r1) s1⟩
        · exact q.elim
      · exact q.elim
    · exact q.elim
end
end Eng
set_option maxHeartbeats 1000000
/-! The engine, part 38: fields stored. -/
namespace Eng
open PySem PySem.Spec L2
open PyProof.Rows hiding St
section
variable {X : Cx} {ca : Nat → Addr} {W : WX} {c i : Nat} {m x : Str} {p pos pos' : Pos} {g : ES} {value : Expr}
variable {θ : Nat → V} {G : Gx} {Z : Zs} {H : Hp} {ρ : En} {σ : L2.St} {L : List Addr}
/-- the object in a slot gets a field's new thing -/
theorem ins_put {b : Bool} {c : Nat} {fs : List (Str × O)} {o : O} {y : V} {Fo : List Addr} (r : Rep θ G Z H ρ σ L) (e : ρ[i]? = some (some (b, .ins c fs))) (h : Held G Z H σ L [.tmp o] [y] Fo) :
    ∃ a dx vs F, σ[i]? = some (some (.ref a)) ∧ H a = some (.ins (G.ca c) dx vs) ∧ RoF G Z H fs vs F ∧ ∃ L', Rep θ G Z (upd H a (.ins (G.ca c) dx (putF m y vs))) (ρ.set i (some (b, .ins c (fput m o fs)))) σ L' ∧ Step Z (Fo ++ L) H Z L' (upd H a (.ins (G.ca c) dx (putF m y vs))) := by
  obtain ⟨F, L1, v, hv, ro, r1, nd, dz, iff, hp⟩ := r.lift e
  obtain ⟨a, dx, vs, F2, rfl, rfl, ea, rf⟩ := ro.ins_of
  have n1 := List.nodup_append.mp nd
  have n2 := List.nodup_cons.mp n1.1
  have ma : Mut (H a) := by rw [ea]; trivial
  have hnd := List.nodup_append.mp h.nd
  have aL : a ∈ L := (iff a).mp (List.mem_append_left _ List.mem_cons_self)
  have kp : Kp Z G.K H Z (upd H a (.ins (G.ca c) dx (putF m y vs))) := kp_upd ma (dz a List.mem_cons_self)
  have keepB : ∀ q, q ≠ a → ∀ u, H q = some u → upd H a (.ins (G.ca c) dx (putF m y vs)) q = some u := fun q hq u e => by rw [upd_ne hq]; exact e
  have ho : Ro G Z (upd H a (.ins (G.ca c) dx (putF m y vs))) o y Fo := h.one.kp kp fun q hq => keepB q fun z => hnd.2.2 q hq a aL z
  obtain ⟨F3, rf3, sub3, nd3⟩ := RoF.put (m := m) kp ho rf fun q hq => keepB q fun z => n2.1 (z ▸ hq)
  have hF2L : ∀ q ∈ F2, q ∈ L := fun q hq => (iff q).mp (List.mem_append_left _ (List.mem_cons_of_mem _ hq))
  have ndo : (Fo ++ F2).Nodup := List.nodup_append.mpr ⟨hnd.1, n2.2, fun q hq t ht z => hnd.2.2 q hq t (hF2L t ht) z⟩
  have muF : ∀ q ∈ a :: F2, Mut (H q) := ro.mut
  have st : Step Z (a :: F2) H Z (a :: F2) (upd H a (.ins (G.ca c) dx (putF m y vs))) := ⟨fun q u e hq => keepB q (fun z => hq (z ▸ List.mem_cons_self)) u e, fun _ z => z, fun _ z => .inl z, fun _ z => .inl z⟩
  have zd : ∀ q, Z q → upd H a (.ins (G.ca c) dx (putF m y vs)) q ≠ none := fun q z => by
    by_cases hq : q = a
    · exact absurd z (hq ▸ dz a List.mem_cons_self)
    · rw [upd_ne hq]; exact r.zd q z
  have r2 := r1.aside muF nd dz st zd
  have hi : i < ρ.length := (List.getElem?_eq_some_iff.mp e).1
  have a3 : a ∉ F3 := fun q => by
    rcases sub3 a q with z | z
    · exact hnd.2.2 a z a aL rfl
    · exact n2.1 z
  have ndn : ((a :: F3) ++ L1).Nodup := by
    refine List.nodup_append.mpr ⟨List.nodup_cons.mpr ⟨a3, nd3 ndo⟩, n1.2.1, fun q hq t ht z => ?_⟩
    subst z
    rcases List.mem_cons.mp hq with rfl | hq
    · exact n1.2.2 q List.mem_cons_self q ht rfl
    · rcases sub3 q hq with z | z
      · exact hnd.2.2 q z q ((iff q).mp (List.mem_append_right _ ht)) rfl
      · exact n1.2.2 q (List.mem_cons_of_mem _ z) q ht rfl
  obtain ⟨L', r3, sub⟩ := r2.back (i := i) (p := b) (o := .ins c (fput m o fs)) (v := .ref a) (by rw [List.getElem?_set_self hi]) hv (.ins upd_same rf3) ndn (fun q hq => by
    rcases List.mem_cons.mp hq with rfl | hq
    · exact dz _ List.mem_cons_self
    · rcases sub3 q hq with z | z
      · exact h.dis q z
      · exact dz q (List.mem_cons_of_mem _ z)) hp
  rw [List.set_set] at r3
  refine ⟨a, dx, vs, F2, hv, ea, rf, L', r3, fun q u e hq => keepB q (fun z => hq (z ▸ List.mem_append_right _ aL)) u e, fun _ z => z, fun _ z => .inl z, fun q hq => .inl ?_⟩
  rcases List.mem_append.mp ((sub q).mp hq) with z | z
  · rcases List.mem_cons.mp z with rfl | z
    · exact List.mem_append_right _ aL
    · rcases sub3 q z with z | z
      · exact List.mem_append_left _ z
      · exact List.mem_append_right _ (hF2L q z)
  · exact List.mem_append_right _ ((iff q).mp (List.mem_append_right _ z))
theorem ss_fld (C : Cls X.K (ca c)) (n : NoAttr X.K (ca c) m) (hn : PE X (.Name x p) (RdE X ca W (oNm i))) (hv : PE X value (RdE X ca W g)) (hs : swapsWith value (some (.Attribute (.Name x p) m pos')) pos.line X.env = pure false) :
    PS X (.Assign [.Attribute (.Name x p) m pos'] value pos) (RdS X ca W (sFld c i m g)) := PS.imp (ps_fld hn hv hs) fun D σ H ⟨θ, Z, ρ, L, r, q0⟩ =>
  rd_ES r q0 fun pp ρ1 Z1 H1 L1 F v q r1 h1 s1 => by
    split at q
    · rename_i o ρ2 e1
      split at q
      · rename_i b c' fs e2
        split at q
        · rename_i hc
          obtain ⟨rfl, hl⟩ := hc
          obtain ⟨Z2, L2, F2, r2, h2, s2⟩ := giveUp_ok r1 h1 e1
          refine rd_self r2 e2 fun a Z3 H3 L3 r3 s3 hv => ?_
          have h3 := h2.carry r2 (L2' := L3) (F2 := []) s3 r3.nd
          obtain ⟨a', dx, vs, F4, hv', ea, rf, L', r4, s4⟩ := ins_put (m := m) r3 e2 h3
          rw [hv] at hv'
          cases hv'
          refine ⟨a, ca c', dx, vs, rfl, ea, C, n, by rw [rf.length]; omega, q _ _ _ σ r4 ?_⟩
          have t1 : Step Z L H Z2 (F2 ++ L2) H1 := s1.trans s2
          exact (t1.then s3).trans s4
        · exact q.elim
      · exact q.elim
    · exact q.elim
end
end Eng
set_option maxHeartbeats 1000000
/-! The engine, part 39: methods called. -/
namespace Eng
open PySem PySem.Spec L2
open PyProof.Rows hiding St
section
variable {X : Cx} {ca : Nat → Addr} {W : WX} {as : AS} {θ : Nat → V} {Z : Zs} {L : List Addr} {H : Hp} {σ : L2.St} {ρ : En}
/-- a call's answer, told of one state -/
theorem po_call {fn : FSem} {n : Nat} {Q : VK} (r : Rep θ (gx X ca) Z H ρ σ L) (q : PoE X ca W θ Z L H σ Q (oCall fn as ρ)) : PoA X ca W θ Z L H σ (fun vs H1 => vs.length = n → spF (gx X ca) n fn vs H1 Q (WE W σ)) (as ρ) := by
  unfold oCall at q
  cases e1 : as ρ with
  | stuck => rw [e1] at q; exact q
  | exc c ρ1 => rw [e1] at q; exact q
  | ok ps ρ1 =>
    rw [e1] at q
    simp only [bind_ok] at q
    intro Z1 H1 L1 F vs r1 h1 s1 hl
    unfold callE at q
    cases e2 : lift ρ1 ps with
    | none => rw [e2] at q; exact q.elim
    | some x =>
      obtain ⟨os, bs, ρ2⟩ := x
      rw [e2] at q
      simp only at q
      obtain ⟨FA, L2, r2, ha, ndA, disA, sub, bk⟩ := call_args r1 h1 e2
      have nA := List.nodup_append.mp ndA
      have muA := ha.mut
      refine ⟨Z1, os, FA, hl, ha, nA.1, disA, r2.zd, ?_⟩
      -- behind the call
      have beh : ∀ {Z' H' M}, Step Z1 FA H1 Z' M H' → M.Nodup → (∀ a, Z' a → H' a ≠ none) → Rep θ (gx X ca) Z' H' ρ2 σ L2 ∧ (M ++ L2).Nodup ∧ Step Z L H Z' (M ++ L2) H' := fun {Z' H' M} s nM zd => by
        have rr := r2.aside muA ndA disA s zd
        refine ⟨rr, List.nodup_append.mpr ⟨nM, r2.nd, fun a ha c hc q => ?_⟩, ?_⟩
        · subst q
          rcases s.lnew a ha with q | q
          · exact nA.2.2 a q a hc rfl
          · exact mut_some (r2.sl.mut a hc) q
        · have sA : Step Z L H Z1 (L2 ++ FA) H1 := s1.sub fun a ha => sub a ((List.mem_append.mp ha).elim (fun q => List.mem_append_right _ q) fun q => List.mem_append_left _ q)
          exact (sA.then s).sub fun a ha => (List.mem_append.mp ha).elim (fun q => List.mem_append_right _ q) fun q => List.mem_append_left _ q
      cases e3 : fn os with
      | stuck => rw [e3] at q; exact q
      | ret o fin =>
        rw [e3] at q
        intro Z' H' F' Fo v hf ho nd dis zd s
        have n := List.nodup_append.mp nd
        obtain ⟨rr, ndM, st⟩ := beh s nd zd
        rw [List.append_assoc] at ndM
        have m := List.nodup_append.mp ndM
        obtain ⟨L3, r3, s3⟩ := bk Z' H' fin F' rr hf m.2.1 fun a ha => dis a (List.mem_append_right _ ha)
        refine q Z' H' L3 Fo v r3 (.tmp ho (List.nodup_append.mpr ⟨n.1, r3.nd, fun a ha c hc => m.2.2 a ha c (s3 c hc)⟩) fun a ha => dis a (List.mem_append_left _ ha)) (st.sub fun a ha => ?_)
        rw [List.append_assoc]
        exact (List.mem_append.mp ha).elim (fun q => List.mem_append_left _ q) fun q => List.mem_append_right _ (s3 a q)
      | exc c fin =>
        rw [e3] at q
        intro Z' H' F' hf nd dis zd s
        obtain ⟨rr, ndM, st⟩ := beh s nd zd
        obtain ⟨L3, r3, s3⟩ := bk Z' H' fin F' rr hf ndM dis
        exact q Z' H' L3 r3 (st.sub s3)

end
/-- a method of a class -/
structure CalleeM (P : Program) (w : World) (K : PySem.W.Frag) (mg : Str → Option Value) (base : Heap) (ca : Nat → Addr) (k c : Nat) (m : Str) (n : Nat) (g : FSem) : Prop where
  ex : ∃ f fd ps, ps.length = n ∧ EFn P w K mg base k f fd ps (spF ⟨P, w, K, ca⟩ n g) ∧ Meth K (ca c) m f ∧ Binds K fd ps []
theorem CalleeM.mono {P : Program} {w : World} {K : PySem.W.Frag} {mg : Str → Option Value} {base : Heap} {ca : Nat → Addr} {j k c : Nat} {m : Str} {n : Nat} {g : FSem} (C : CalleeM P w K mg base ca j c m n g) (h : j ≤ k) : CalleeM P w K mg base ca k c m n g := by
  obtain ⟨f, fd, ps, h1, h2, h3⟩ := C.ex
  exact ⟨f, fd, ps, h1, h2.mono h, h3⟩
/-- a method called on the object in a slot -/
def oMeth (c i : Nat) (m : Str) (fn : FSem) (gs : List ES) : ES := fun ρ => match ρ[i]? with
  | some (some (_, .ins c' fs)) => if c' = c ∧ fs.lookup m = none then oCall fn (oAs (oNm i :: gs)) ρ else .stuck
  | _ => .stuck
section
variable {X : Cx} {ca : Nat → Addr} {W : WX} {c i k n : Nat} {m x : Str} {p pos apos : Pos} {fn : FSem} {gs : List ES} {e : Expr} {es : List Expr}
/-- the object is told, then its arguments -/
theorem rd_meth {σ : L2.St} {H : Hp} {Q : VK} (hn : gs.length + 1 = n) (h : RdE X ca W (oMeth c i m fn gs) σ H Q) : RdE X ca W (oNm i) σ H fun v H1 => (∃ a dx vs, v = .ref a ∧ H1 a = some (.ins (ca c) dx vs) ∧ vs.lookup m = none) ∧ RdA X ca W (oAs gs) σ H1 fun us H2 => spF (gx X ca) n fn (v :: us) H2 Q (WE W σ) := by
  obtain ⟨θ, Z, ρ, L, r, q⟩ := h
  unfold oMeth at q
  split at q
  · rename_i b c' fs e
    split at q
    · rename_i hc
      obtain ⟨rfl, hl⟩ := hc
      have pq := po_call (n := n) r q
      have e1 : oNm i ρ = .ok (.nm i) ρ := by
        unfold oNm slotO
        rw [e]
      refine ⟨θ, Z, ρ, L, r, ?_⟩
      rw [e1]
      intro Z1 H1 L1 F1 v1 r1 h1 s1
      obtain ⟨rfl, hv⟩ := h1.nm
      obtain ⟨v', F', h2, ro, _⟩ := r1.sl.get e
      rw [hv] at h2
      cases h2
      obtain ⟨a, dx, vs, F2, rfl, rfl, ea, rf⟩ := ro.ins_of
      have key : RdA X ca W (oAs gs) σ H1 fun us H2 => (V.ref a :: us).length = n → spF (gx X ca) n fn (V.ref a :: us) H2 Q (WE W σ) := by
        refine ⟨θ, Z1, ρ, L1, r1, ?_⟩
        have e2 : oAs (oNm i :: gs) ρ = (oAs gs ρ).bind fun ps ρ2 => .ok (.nm i :: ps) ρ2 := by
          show (oNm i ρ).bind _ = _
          rw [e1]
          rfl
        rw [e2] at pq
        cases e3 : oAs gs ρ with
        | stuck => rw [e3] at pq; exact pq.elim
        | exc cc ρ2 =>
          rw [e3] at pq
          intro Z2 H2 L2 r2 s2
          exact pq Z2 H2 L2 r2 (s1.trans s2)
        | ok ps ρ2 =>
          rw [e3] at pq
          intro Z2 H2 L2 F2 us r2 h2 s2
          have h3 := (h1.carry r1 s2 h2.nd).join h2
          exact pq Z2 H2 L2 ([] ++ F2) (.ref a :: us) r2 h3 (by rw [List.append_assoc]; exact s1.then s2)
      exact ⟨⟨a, dx, vs, rfl, ea, (rf.look (m := m)).1 hl⟩, (rdA_len key).mono fun us H2 ⟨l, q⟩ => q (by rw [List.length_cons, l]; exact hn)⟩
    · exact q.elim
  · exact q.elim
theorem se_meth {pl : Sem Bool} (M : CalleeM X.prog X.w X.K X.mg X.base ca k c m n fn) (C : Cls X.K (ca c)) (hG : X.A.guards = some []) (hr : Room k X.A) (tk : L2N.Takes X W) (hn : gs.length + 1 = n) (he : PE X (.Name x p) (RdE X ca W (oNm i))) (hs : ((e :: es).all notStar) = true) (ha : PA X (e :: es) (RdA X ca W (oAs gs)))
    (ht : eval (.Call (.Attribute (.Name x p) m apos) (e :: es) [] pos) X.env = (do
      let ov ← eval (.Name x p) X.env
      standAt apos.atName
      let (f, first) ← holding [ov] (getMethod ov m pl)
      callWith pos f first (backTo pos (starEach (e :: es) X.env)) (backToKw pos (keywordEach [] X.env)))) :
    PE X (.Call (.Attribute (.Name x p) m apos) (e :: es) [] pos) (RdE X ca W (oMeth c i m fn gs)) := by
  obtain ⟨f, fd, ps, hp, F, hm, hb⟩ := M.ex
  subst hp
  rw [List.all_cons, Bool.and_eq_true] at hs
  refine ⟨fun pins s σ H Q I h => ?_⟩
  refine PySem.W.methodCall_KW (pl := pl) (thn (he.run pins s σ H _ I (rd_meth hn h)) fun u s1 ⟨v, H1, I1, rx, ⟨a, dx, vs, ev, ea, l⟩, q⟩ => ?_) ht
  subst ev
  obtain rfl : u = Value.ref a := rx
  refine getmeth_ok I1 ea C hm l ?_
  refine PySem.W.callWith_K (first := [.ref a]) (h₀ := X.base) I.ok.mod.kin hm.kp (thn (ha.run pos pins s1 σ H1 _ I1 q) fun us s2 ⟨ws, H2, I2, r, q2⟩ => ⟨I2.kIn, ?_⟩) (star_cons hs.1) (star_plain hs.2)
  exact efn_run (us := .ref a :: us) (vs := .ref a :: ws) F hG hr hb tk I2 (.cons rfl r) q2
theorem se_meth0 {pl : Sem Bool} (M : CalleeM X.prog X.w X.K X.mg X.base ca k c m 1 fn) (C : Cls X.K (ca c)) (hG : X.A.guards = some []) (hr : Room k X.A) (tk : L2N.Takes X W) (he : PE X (.Name x p) (RdE X ca W (oNm i)))
    (ht : eval (.Call (.Attribute (.Name x p) m apos) [] [] pos) X.env = (do
      let ov ← eval (.Name x p) X.env
      standAt apos.atName
      let (f, first) ← holding [ov] (getMethod ov m pl)
      callWith pos f first (backTo pos (starEach [] X.env)) (backToKw pos (keywordEach [] X.env)))) :
    PE X (.Call (.Attribute (.Name x p) m apos) [] [] pos) (RdE X ca W (oMeth c i m fn [])) := by
  obtain ⟨f, fd, ps, hp, F, hm, hb⟩ := M.ex
  refine ⟨fun pins s σ H Q I h => ?_⟩
  have h2 := rd_meth (n := 1) rfl h
  refine PySem.W.methodCall_KW (pl := pl) (thn (he.run pins s σ H _ I h2) fun u s1 ⟨v, H1, I1, rx, ⟨a, dx, vs, ev, ea, l⟩, q⟩ => ?_) ht
  subst ev
  obtain rfl : u = Value.ref a := rx
  refine getmeth_ok I1 ea C hm l ?_
  obtain ⟨θ, Z, ρ, L, r, qq⟩ := q
  have q3 := qq Z H1 L [] [] r (Held.none r) Step.refl
  exact PySem.W.callWith_K0 (first := [.ref a]) I1.kIn hm.kp (efn_run (us := [.ref a]) (vs := [.ref a]) F hG hr hb tk I1 (.cons rfl .nil) q3)
end
end Eng
set_option maxHeartbeats 1000000
/-! The engine, part 40: objects made. -/
namespace Eng
open PySem PySem.Spec L2
open PyProof.Rows hiding St
/-- a class that can be made without arguments -/
structure CalleeN (P : Program) (w : World) (K : PySem.W.Frag) (mg : Str → Option Value) (base : Heap) (ca : Nat → Addr) (k c : Nat) (g : FSem) : Prop where
  ex : ∃ f fd ps, ps.length = 1 ∧ EFn P w K mg base k f fd ps (spF ⟨P, w, K, ca⟩ 1 g) ∧ Mk K (ca c) f ∧ Binds K fd ps [] ∧ mg (clN c) = some (.ref (ca c))
theorem CalleeN.mono {P : Program} {w : World} {K : PySem.W.Frag} {mg : Str → Option Value} {base : Heap} {ca : Nat → Addr} {j k c : Nat} {g : FSem} (C : CalleeN P w K mg base ca j c g) (h : j ≤ k) : CalleeN P w K mg base ca k c g := by
  obtain ⟨f, fd, ps, h1, h2, h3⟩ := C.ex
  exact ⟨f, fd, ps, h1, h2.mono h, h3⟩
def oMake (c : Nat) (fn : FSem) : ES := fun ρ => match fn [.ins c []] with
  | .ret (.val .none) [x] => .ok (.tmp x) ρ
  | _ => .stuck
section
variable {X : Cx} {ca : Nat → Addr} {W : WX} {c k : Nat} {x : Str} {p pos : Pos} {fn : FSem}
theorem make_guards {A : Around} {C : Addr} {us : List Value} {kw : List (Str × Value)} (h : A.guards = some []) : (A.under (.builtin "type.__call__" ⟨.ref C :: us, kw⟩)).guards = some [] := by
  have e : (A.under (.builtin "type.__call__" ⟨.ref C :: us, kw⟩)).guards = A.guards := by
    first
    | rfl
    | simp [Around.under, Code.guards, Code.weight, Code.isCreation, Code.isGuard, Code.isCaller, Code.frames, Code.isFrame, guardIds]
  rw [e, h]
theorem efn_make {pins : List (Addr × Obj)} {σ : L2.St} {H : Hp} {s : Shared} {Q : VK} {C f : Addr} {fd : FuncData} {ps : List Str} {sp : Sp} (M : Mk X.K C f) (F : EFn X.prog X.w X.K X.mg X.base k f fd ps sp) (hg : X.A.guards = some []) (hr : Room (k + 1) X.A) (hb : Binds X.K fd ps []) (tk : L2N.Takes X W)
    (I : Inv X pins σ H s) (h : ∀ x dx, H x = none → H dx = none → dx ≠ x → sp [.ref x] (upd (upd H dx (.own x)) x (.ins C dx [])) (fun v H2 => v = .non ∧ Q (.ref x) H2) fun _ _ _ => False) : wpAny (model X.prog X.w) X.A (call (.ref C) []) (EP X pins σ Q) X.xe s := by
  have hq := h (s.heap.objs.size + 1) s.heap.objs.size (I.hok.fresh (Nat.le_succ _)) (I.hok.fresh (Nat.le_refl _)) (Nat.ne_of_lt (Nat.lt_succ_self _))
  have I2 := Inv.made (C := C) I
  have r2 : Vals [V.ref (s.heap.objs.size + 1)] [Value.ref (s.heap.objs.size + 1)] := .cons rfl .nil
  have b := hb { s with heap := (s.heap.push PySem.W.emptyDict).push (PySem.W.instObj C s.heap.objs.size) } [Value.ref (s.heap.objs.size + 1)] I2.kIn
  rw [List.append_nil] at b
  refine wpAny_call (make_map (f := f) I.kIn M.makes M.init (beq_iff_eq.mp M.fn) (codeAny_mono (F.go _ X.stack _ _ ⟨[Value.ref (s.heap.objs.size + 1)], []⟩ [Value.ref (s.heap.objs.size + 1)] _ _ _ (make_guards hg) (hr.make C [] [])
    (I2.env0.make C [] []) (b (by rw [← r2.length]; exact F.len _ _ _ _ hq)) r2 hq) fun r s' hq' => ?_))
  cases r with
  | error e =>
    obtain ⟨_, _, _, _, _, _, _, _, _, _, _, _, ef⟩ := hq'
    exact ef.elim
  | ok fl =>
    cases fl with
    | ret u =>
      obtain ⟨v, H', I3, rv, ev, q3⟩ := I2.after hq'
      subst ev
      exact ⟨rv, ⟨V.ref (s.heap.objs.size + 1), H', I3, rfl, q3⟩⟩
    | next => exact False.elim hq'
    | brk => exact False.elim hq'
    | cont => exact False.elim hq'
theorem fin_one {G : Gx} {Z : Zs} {H : Hp} {c : Nat} {fs : List (Str × O)} {x' : O} {v : V} {F : List Addr} (h : FinOk G Z H [.ins c fs] [x'] [v] F) : Ro G Z H x' v F := by
  cases h with
  | val hv _ => cases hv
  | own _ h t =>
    cases t
    rw [List.append_nil]
    exact h
theorem se_make (M : CalleeN X.prog X.w X.K X.mg X.base ca k c fn) (hG : X.A.guards = some []) (hr : Room (k + 1) X.A) (tk : L2N.Takes X W) (hg : Gl X (clN c)) (hdb : (clN c == ("__debug__" : Str)) = false) :
    PE X (.Call (.Name (clN c) p) [] [] pos) (RdE X ca W (oMake c fn)) := by
  obtain ⟨f, fd, ps, hp, F, Mk0, hb, hm⟩ := M.ex
  refine ⟨fun pins s σ H Q I h => wpAny_Call_Name_kw (ld_glob I hg hm ?_ hdb)⟩
  refine PySem.W.callWith_K0 I.kIn Mk0.kp (efn_make Mk0 F hG hr hb tk I fun x dx hx hd hne => ?_)
  obtain ⟨θ, Z, ρ, L, r, q⟩ := h
  unfold oMake at q
  split at q
  · rename_i x' e
    have e1 : Same H (upd H dx (.own x)) := same_new hd
    have e2 : Same (upd H dx (.own x)) (upd (upd H dx (.own x)) x (.ins (ca c) dx [])) := same_new (by rw [upd_ne (fun z => hne z.symm)]; exact hx)
    have e3 : Same H (upd (upd H dx (.own x)) x (.ins (ca c) dx [])) := fun b o z => e2 b o (e1 b o z)
    have xL : x ∉ L := fun z => mut_some (r.sl.mut x z) hx
    have xZ : ¬ Z x := fun z => r.zd x z hx
    have r1 : Rep θ (gx X ca) Z (upd (upd H dx (.own x)) x (.ins (ca c) dx [])) ρ σ L := ⟨r.sl.kp (same_kp e3) fun a _ u z => e3 a u z, r.nd, r.dis, fun a z => by
      cases z2 : H a with
      | none => exact absurd z2 (r.zd a z)
      | some o => rw [e3 a o z2]; simp, r.pn⟩
    refine ⟨Z, [.ins c []], [x], rfl, .cons (F := [x]) (.ins upd_same .nil) .nil, by simp, fun a ha => by rw [List.mem_singleton.mp ha]; exact xZ, r1.zd, ?_⟩
    rw [e]
    intro Z' H' F' Fo v hf ho nd dis zd s
    cases ho with
    | val dz =>
      cases dz
      refine ⟨rfl, ?_⟩
      have hx' := fin_one hf
      have s1 : Step Z L H Z ([x] ++ L) (upd (upd H dx (.own x)) x (.ins (ca c) dx [])) := ⟨fun a o z _ => e3 a o z, fun _ z => z, fun _ z => .inl z, fun a ha => by
        rcases List.mem_append.mp ha with z | z
        · rw [List.mem_singleton.mp z]; exact .inr hx
        · exact .inl z⟩
      have muX : ∀ a ∈ [x], Mut (upd (upd H dx (.own x)) x (.ins (ca c) dx []) a) := fun a ha => by
        rw [List.mem_singleton.mp ha, upd_same]
        trivial
      have ndX : ([x] ++ L).Nodup := List.nodup_cons.mpr ⟨xL, r.nd⟩
      have sF : Step Z [x] (upd (upd H dx (.own x)) x (.ins (ca c) dx [])) Z' F' H' := s.sub fun a ha => List.mem_append_right _ ha
      have r2 := r1.aside muX ndX (fun a ha => by rw [List.mem_singleton.mp ha]; exact xZ) sF zd
      have n0 := List.nodup_append.mp nd
      have hd0 : Held (gx X ca) Z' H' σ L [.tmp x'] [.ref x] F' := .tmp hx' (by
        refine List.nodup_append.mpr ⟨n0.2.1, r.nd, fun a ha b hb z => ?_⟩
        subst z
        rcases sF.lnew a ha with z | z
        · rw [List.mem_singleton.mp z] at hb
          exact xL hb
        · exact mut_some (r1.sl.mut a hb) z) fun a ha => dis a (List.mem_append_right _ ha)
      refine q Z' H' L F' (.ref x) r2 hd0 ?_
      have sA : Step Z L H Z (L ++ [x]) (upd (upd H dx (.own x)) x (.ins (ca c) dx [])) := s1.sub fun a ha => (List.mem_append.mp ha).elim (fun z => List.mem_append_right _ z) fun z => List.mem_append_left _ z
      exact (sA.then sF).sub fun a ha => (List.mem_append.mp ha).elim (fun z => List.mem_append_right _ z) fun z => List.mem_append_left _ z
  · exact q.elim
end
end Eng
set_option maxHeartbeats 1000000
/-! The engine, part 41: a field that is a list. -/
namespace Eng
open PySem PySem.Spec L2
open PyProof.Rows hiding St
section
variable {G : Gx} {Z : Zs} {H : Hp} {m : Str} {ds : List D}
theorem RoF.updL : ∀ {fs : List (Str × O)} {vs : List (Str × V)} {F : List Addr}, RoF G Z H fs vs F → F.Nodup → (∀ a ∈ F, ¬ Z a) → fs.lookup m = some (.lst ds) →
    ∃ l xs, vs.lookup m = some (.ref l) ∧ H l = some (.lst xs) ∧ DzA Z G.K H ds xs ∧ l ∈ F ∧ ∀ ds' xs', DzA Z G.K H ds' xs' → RoF G Z (upd H l (.lst xs')) (fput m (.lst ds') fs) vs F
  | _, _, _, .nil, _, _, e => by cases e
  | _, _, _, .cons (n := n) (o := o0) (v := v0) (fs := fs) (vs := vs) (F := F1) (F' := F2) h t, nd, dz, e => by
    have n1 := List.nodup_append.mp nd
    rw [look_cons] at e
    rw [look_cons]
    by_cases q : n = m
    · rw [if_pos q] at e
      cases e
      cases h with
      | lst ea dd =>
        rename_i l xs
        have ml : Mut (H l) := by rw [ea]; trivial
        refine ⟨l, xs, by rw [if_pos q], ea, dd, List.mem_append_left _ (by simp), fun ds' xs' d' => ?_⟩
        have kp : Kp Z G.K H Z (upd H l (.lst xs')) := kp_upd ml (dz l (List.mem_append_left _ (by simp)))
        show RoF G Z _ (if n = m then (n, .lst ds') :: fs else _) _ _
        rw [if_pos q]
        exact .cons (.lst upd_same (d'.kp kp)) (t.kp kp fun a ha u z => by rw [upd_ne (fun y => n1.2.2 l (by simp) a ha y.symm)]; exact z)
    · rw [if_neg q] at e
      obtain ⟨l, xs, a1, a2, a3, a4, a5⟩ := RoF.updL t n1.2.1 (fun a ha => dz a (List.mem_append_right _ ha)) e
      have ml : Mut (H l) := by rw [a2]; trivial
      refine ⟨l, xs, by rw [if_neg q]; exact a1, a2, a3, List.mem_append_right _ a4, fun ds' xs' d' => ?_⟩
      have kp : Kp Z G.K H Z (upd H l (.lst xs')) := kp_upd ml (dz l (List.mem_append_right _ a4))
      show RoF G Z _ (if n = m then _ else (n, o0) :: fput m (.lst ds') fs) _ _
      rw [if_neg q]
      exact .cons (h.kp kp fun a ha u z => by rw [upd_ne (fun y => n1.2.2 a ha l a4 y)]; exact z) (a5 ds' xs' d')
end
section
variable {X : Cx} {ca : Nat → Addr} {W : WX} {c i : Nat} {m m2 x : Str} {p p1 p2 pos : Pos} {θ : Nat → V} {G : Gx} {Z : Zs} {H : Hp} {ρ : En} {σ : L2.St} {L : List Addr}
theorem ins_upd {b : Bool} {c : Nat} {fs : List (Str × O)} {ds : List D} (r : Rep θ G Z H ρ σ L) (e : ρ[i]? = some (some (b, .ins c fs))) (el : fs.lookup m = some (.lst ds)) :
    ∃ a dx vs l xs, σ[i]? = some (some (.ref a)) ∧ H a = some (.ins (G.ca c) dx vs) ∧ vs.lookup m = some (.ref l) ∧ H l = some (.lst xs) ∧ DzA Z G.K H ds xs ∧ l ∈ L ∧
      (∀ m2 d, fs.lookup m2 = some (.val d) → ∃ y, vs.lookup m2 = some y ∧ Dz Z G.K H d y) ∧
      ∀ ds' xs', DzA Z G.K H ds' xs' → ∃ L', Rep θ G Z (upd H l (.lst xs')) (ρ.set i (some (b, .ins c (fput m (.lst ds') fs)))) σ L' ∧ Step Z L H Z L' (upd H l (.lst xs')) := by
  obtain ⟨F, L1, v, hv, ro, r1, nd, dz, iff, hp⟩ := r.lift e
  obtain ⟨a, dx, vs, F2, rfl, rfl, ea, rf⟩ := ro.ins_of
  have n1 := List.nodup_append.mp nd
  have n2 := List.nodup_cons.mp n1.1
  have mu := ro.mut
  obtain ⟨l, xs, b1, b2, b3, b4, b5⟩ := rf.updL (m := m) n2.2 (fun q hq => dz q (List.mem_cons_of_mem _ hq)) el
  have lL : l ∈ L := (iff l).mp (List.mem_append_left _ (List.mem_cons_of_mem _ b4))
  refine ⟨a, dx, vs, l, xs, hv, ea, b1, b2, b3, lL, fun m2 d e2 => ?_, fun ds' xs' d' => ?_⟩
  · obtain ⟨y, F', y1, y2, _⟩ := (rf.look (m := m2)).2 _ e2
    cases y2 with
    | val h => exact ⟨y, y1, h⟩
  · have al : a ≠ l := fun q => n2.1 (q ▸ b4)
    have st : Step Z (a :: F2) H Z (a :: F2) (upd H l (.lst xs')) := ⟨fun q u e hq => by rw [upd_ne (fun z => hq (by rw [z]; exact List.mem_cons_of_mem _ b4))]; exact e, fun _ z => z, fun _ z => .inl z, fun _ z => .inl z⟩
    have zd : ∀ q, Z q → upd H l (.lst xs') q ≠ none := fun q z => by
      by_cases hq : q = l
      · exact absurd z (hq ▸ dz l (List.mem_cons_of_mem _ b4))
      · rw [upd_ne hq]; exact r.zd q z
    have r2 := r1.aside mu nd dz st zd
    have hi : i < ρ.length := (List.getElem?_eq_some_iff.mp e).1
    obtain ⟨L', r3, sub⟩ := r2.back (i := i) (p := b) (o := .ins c (fput m (.lst ds') fs)) (v := .ref a) (F := a :: F2) (by rw [List.getElem?_set_self hi]) hv (.ins (by rw [upd_ne al]; exact ea) (b5 ds' xs' d')) nd dz hp
    rw [List.set_set] at r3
    exact ⟨L', r3, fun q u e hq => by rw [upd_ne (fun z => hq (by rw [z]; exact lL))]; exact e, fun _ z => z, fun _ z => .inl z, fun q hq => .inl ((iff q).mp ((sub q).mp hq))⟩
/-! ### rules -/
theorem dza_dropLast {Z : Zs} {K : PySem.W.Frag} {H : Hp} : ∀ {ds : List D} {xs : List V}, DzA Z K H ds xs → DzA Z K H ds.dropLast xs.dropLast
  | _, _, .nil => .nil
  | _, _, .cons h .nil => .nil
  | _, _, .cons h (.cons h2 t) => .cons h (dza_dropLast (.cons h2 t))
/-- the object's field, by the slot, raw -/
theorem rd_raw {θ : Nat → V} {Z : Zs} {H : Hp} {ρ : En} {σ : L2.St} {L : List Addr} {b : Bool} {c : Nat} {fs : List (Str × O)} {o : O} {Q : VK} (C : Cls X.K (ca c)) (n : NoAttr X.K (ca c) m) (r : Rep θ (gx X ca) Z H ρ σ L) (e : ρ[i]? = some (some (b, .ins c fs))) (el : fs.lookup m = some o)
    (h : ∀ v F, Ro (gx X ca) Z H o v F → (∀ a dx vs, σ[i]? = some (some (.ref a)) → H a = some (.ins (ca c) dx vs) → vs.lookup m = some v → Q v H)) : tFld X.K (tVar i) m σ H Q := by
  obtain ⟨v', F', h2, ro, _⟩ := r.sl.get e
  obtain ⟨a, dx, vs, F2, rfl, rfl, ea, rf⟩ := ro.ins_of
  obtain ⟨v2, F3, lv, r2, _⟩ := (rf.look (m := m)).2 _ el
  exact ⟨.ref a, h2, a, ca c, dx, vs, v2, rfl, ea, C, n, lv, h v2 F3 r2 a dx vs h2 ea lv⟩
/-- an operation on a field's thing -/
def oFldU (sem : O → Option O) (c i : Nat) (m : Str) : ES := fun ρ => match ρ[i]? with
  | some (some (_, .ins c' fs)) => if c' = c then match fs.lookup m with
      | some o => put ρ (sem o)
      | none => .stuck
    else .stuck
  | _ => .stuck
theorem rd_fldU {sem : O → Option O} {σ : L2.St} {H : Hp} {Q : VK} (C : Cls X.K (ca c)) (n : NoAttr X.K (ca c) m) (h : RdE X ca W (oFldU sem c i m) σ H Q) : tFld X.K (tVar i) m σ H fun v H1 => H1 = H ∧ ∃ Z o r', (∀ a, Z a → H a ≠ none) ∧ Rb (gx X ca) Z H o v ∧ sem o = some r' ∧ ∀ u H' F, Al (gx X ca) Z H r' u H' F → Q u H' := by
  obtain ⟨θ, Z, ρ, L, r, q⟩ := h
  unfold oFldU at q
  split at q
  · rename_i b c' fs e
    split at q
    · rename_i hc
      subst hc
      split at q
      · rename_i o el
        refine rd_raw C n r e el fun v F ro a dx vs hv ea lv => ?_
        cases e2 : sem o with
        | none => rw [e2] at q; exact q.elim
        | some r' =>
          rw [e2] at q
          refine ⟨rfl, Z, o, r', r.zd, ⟨F, ro⟩, e2, fun u H' F' x => ?_⟩
          exact q Z H' L F' u (x.rep r) (x.held r) x.step
      · exact q.elim
    · exact q.elim
  · exact q.elim
theorem se_lenF (C : Cls X.K (ca c)) (n : NoAttr X.K (ca c) m) (hn : PE X (.Name x p) (tVar i)) (hb : attributeBase (.Name x p) m X.env (eval (.Name x p) X.env) = eval (.Name x p) X.env) (B : Blt X.mg) (hg : Gl X "len") :
    PE X (.Call (.Name "len" p1) [.Attribute (.Name x p) m p2] [] pos) (RdE X ca W (oFldU lenS c i m)) :=
  PE.imp (pe_callB c_len hg B.len bb_len (pa_cons (pe_fld hn hb) pa_nil)) fun σ H Q h => by
    obtain ⟨v, e1, a, C', dx, fs, v2, e2, e3, e4, e5, e6, _, Z, o, r', z1, z2, z3, z4⟩ := rd_fldU C n h
    exact ⟨v, e1, a, C', dx, fs, v2, e2, e3, e4, e5, e6, Z, [o], r', z1, .cons z2 .nil, z3, z4⟩
/-- self.m.append(self.m2), self.m.pop() -/
def sFldApp (c i : Nat) (m m2 : Str) : SS := fun ρ => match ρ[i]? with
  | some (some (b, .ins c' fs)) => if c' = c then match fs.lookup m, fs.lookup m2 with
      | some (.lst ds), some (.val d) => if ds.length < sizeLine then .nx (ρ.set i (some (b, .ins c' (fput m (.lst (ds ++ [d])) fs)))) else .stuck
      | _, _ => .stuck
    else .stuck
  | _ => .stuck
def oFldPop (c i : Nat) (m : Str) : ES := fun ρ => match ρ[i]? with
  | some (some (b, .ins c' fs)) => if c' = c then match fs.lookup m with
      | some (.lst ds) => match ds[ds.length - 1]? with
        | some d => .ok (.tmp (.val d)) (ρ.set i (some (b, .ins c' (fput m (.lst ds.dropLast) fs))))
        | none => .stuck
      | _ => .stuck
    else .stuck
  | _ => .stuck
theorem ss_fldApp {ap sp : Pos} (C : Cls X.K (ca c)) (n : NoAttr X.K (ca c) m) (n2 : NoAttr X.K (ca c) m2) (hn : PE X (.Name x p) (tVar i)) (hn2 : PE X (.Name x p1) (tVar i)) {q1 q2 : Pos} (hb : attributeBase (.Name x p) m X.env (eval (.Name x p) X.env) = eval (.Name x p) X.env) (hb2 : attributeBase (.Name x p1) m2 X.env (eval (.Name x p1) X.env) = eval (.Name x p1) X.env)
    (hb3 : attributeBase (.Attribute (.Name x p) m q1) "append" X.env (eval (.Attribute (.Name x p) m q1) X.env) = eval (.Attribute (.Name x p) m q1) X.env) (hl : (ap.endLine == pos.line) = true)
    (hs : swapsWith (.Call (.Attribute (.Attribute (.Name x p) m q1) "append" ap) [.Attribute (.Name x p1) m2 q2] [] pos) none sp.line X.env = pure false) :
    PS X (.Expr (.Call (.Attribute (.Attribute (.Name x p) m q1) "append" ap) [.Attribute (.Name x p1) m2 q2] [] pos) sp) (RdS X ca W (sFldApp c i m m2)) :=
  PS.imp (ps_expr (pe_bm PySem.F.plainAttrs_list PySem.F.slot_list_append PySem.F.type_list_append mt_append (pe_fld hn hb) (pa_cons (pe_fld hn2 hb2) pa_nil) hb3 rfl hl) hs) fun D σ H ⟨θ, Z, ρ, L, r, q⟩ => by
    unfold sFldApp at q
    split at q
    · rename_i b c' fs e
      split at q
      · rename_i hc
        subst hc
        split at q
        · rename_i ds d el el2
          split at q
          · rename_i hz
            obtain ⟨a, dx, vs, l, xs, hv, ea, lv, eb, dd, lL, fl, up⟩ := ins_upd r e el
            obtain ⟨y, ly, dy⟩ := fl _ _ el2
            refine ⟨.ref a, hv, a, ca c', dx, vs, .ref l, rfl, ea, C, n, lv, .inl ⟨rfl, xs, .inl (.inl eb)⟩, .ref a, hv, a, ca c', dx, vs, y, rfl, ea, C, n2, ly, l, xs, y, rfl, rfl, eb, by rw [dd.length]; exact hz, ?_⟩
            obtain ⟨L', r2, s2⟩ := up (ds ++ [d]) (xs ++ [y]) (dd.append (.cons dy .nil))
            exact q Z _ L' σ r2 s2
          · exact q.elim
        · exact q.elim
      · exact q.elim
    · exact q.elim
theorem se_fldPop {ap : Pos} {q1 : Pos} (C : Cls X.K (ca c)) (n : NoAttr X.K (ca c) m) (hn : PE X (.Name x p) (tVar i)) (hb : attributeBase (.Name x p) m X.env (eval (.Name x p) X.env) = eval (.Name x p) X.env)
    (hb3 : attributeBase (.Attribute (.Name x p) m q1) "pop" X.env (eval (.Attribute (.Name x p) m q1) X.env) = eval (.Attribute (.Name x p) m q1) X.env) (hl : (ap.endLine == pos.line) = true) :
    PE X (.Call (.Attribute (.Attribute (.Name x p) m q1) "pop" ap) [] [] pos) (RdE X ca W (oFldPop c i m)) :=
  PE.imp (pe_bm0 PySem.F.plainAttrs_list PySem.F.slot_list_pop PySem.F.type_list_pop mt_pop (pe_fld hn hb) hb3 hl) fun σ H Q ⟨θ, Z, ρ, L, r, q⟩ => by
    unfold oFldPop at q
    split at q
    · rename_i b c' fs e
      split at q
      · rename_i hc
        subst hc
        split at q
        · rename_i ds el
          split at q
          · rename_i d ed
            obtain ⟨a, dx, vs, l, xs, hv, ea, lv, eb, dd, lL, fl, up⟩ := ins_upd r e el
            obtain ⟨y, ey, dy⟩ := dd.get ed
            rw [← dd.length] at ey
            refine ⟨.ref a, hv, a, ca c', dx, vs, .ref l, rfl, ea, C, n, lv, .inl ⟨rfl, xs, .inl (.inl eb)⟩, l, xs, y, rfl, rfl, eb, ey, ?_⟩
            obtain ⟨L', r2, s2⟩ := up ds.dropLast xs.dropLast (dza_dropLast dd)
            have ml : Mut (H l) := by rw [eb]; trivial
            have kp : Kp Z (gx X ca).K H Z (upd H l (.lst xs.dropLast)) := kp_upd ml (r.dis l lL)
            exact q Z _ L' [] y r2 ((Al.val (G := gx X ca) (dy.kp kp)).held r2) s2
          · exact q.elim
        · exact q.elim
      · exact q.elim
    · exact q.elim
end
end Eng
set_option maxHeartbeats 1000000
/-! The engine, part 42: an empty list field as a test; a class's own makers. -/
namespace Eng
open PySem PySem.Spec L2
open PyProof.Rows hiding St
theorem fun_mkI {K : PySem.W.Frag} {x qual : Str} {st : Stmt} {f : Addr} {oc : Value} {od an : Option Addr} {osl : Array (Option Value)} {kV doc pm cdv ct : Value} (l : K.lookup f = some ⟨oc, od, .func (PySem.W.fnOf x qual (defArgs st) (defBody st) (defScope st) .none kV doc pm an cdv ct), osl⟩)
    (c : PySem.W.codeIn K cdv qual = true) : Fun K x qual st f (PySem.W.fnOf x qual (defArgs st) (defBody st) (defScope st) .none kV doc pm an cdv ct) := fun_mk l c (by
  simp only [PySem.W.keepIn, l])
section
variable {X : Cx} {ca : Nat → Addr} {W : WX} {c i : Nat} {m x : Str} {p p1 p2 pos : Pos}
theorem rd_nilF {σ : L2.St} {H : Hp} {Q : VK} (C : Cls X.K (ca c)) (n : NoAttr X.K (ca c) m) (h : RdE X ca W (oFldU (fun o => eqS o (.lst [])) c i m) σ H Q) : tOp (fun x y H Q => RSem (X := X) (ca := ca) (two eqS) [x, y] H Q) (tFld X.K (tVar i) m) (tLst tNil) σ H Q := by
  obtain ⟨v, e1, a, C', dx, fs, v2, e2, e3, e4, e5, e6, _, Z, o, r', z1, ⟨F, z2⟩, z3, z4⟩ := rd_fldU C n h
  refine ⟨v, e1, a, C', dx, fs, v2, e2, e3, e4, e5, e6, Nat.zero_le _, fun q nq => ?_⟩
  have al : Al (gx X ca) Z H (.lst []) (.ref q) (upd H q (.lst [])) [q] := Al.lst .nil nq
  have kp : Kp Z (gx X ca).K H Z (upd H q (.lst [])) := same_kp al.same
  refine ⟨Z, [o, .lst []], r', fun b zb => ?_, .cons ⟨F, z2.kp kp fun b _ u eb => al.same b u eb⟩ (.cons ⟨[q], al.ro⟩ .nil), z3, fun u H' F' x => z4 u H' F' ⟨fun b o' eb => x.same b o' (al.same b o' eb), x.ro, x.nd, fun b hb => ?_⟩⟩
  · cases eb : H b with
    | none => exact absurd eb (z1 b zb)
    | some u => rw [al.same b u eb]; simp
  · cases eb : H b with
    | none => rfl
    | some u =>
      have := x.new b hb
      rw [al.same b u eb] at this
      cases this
theorem st_nilF (C : Cls X.K (ca c)) (n : NoAttr X.K (ca c) m) (hn : PE X (.Name x p) (tVar i)) (hb : attributeBase (.Name x p) m X.env (eval (.Name x p) X.env) = eval (.Name x p) X.env) (be : BinS X ca (compareOp .Eq) eqS) (hm : behindInMarks .Eq (.List [] p1) = false) :
    PT X (.Compare (.Attribute (.Name x p) m p2) [.Eq] [.List [] p1] pos) (RdT X ca W (tV (oFldU (fun o => eqS o (.lst [])) c i m))) :=
  PT.imp (pt_cmpR be (pe_fld hn hb) (pe_lst pa_nil) hm) fun σ H Q h => rd_nilF C n (rd_tV h)
end
end Eng
set_option maxHeartbeats 1000000
/-! The engine, part 43: a method called on the object in an object's only field. -/
namespace Eng
open PySem PySem.Spec L2
open PyProof.Rows hiding St
/-- a method called on the object that the object in a slot holds (its only field) -/
def oMethF (c c2 i : Nat) (m mm : Str) (fn : FSem) (gs : List ES) : ES := fun ρ => match ρ[i]? with
  | some (some (b, .ins c' [(m', .ins c2' fs2)])) => if c' = c ∧ m' = m ∧ c2' = c2 ∧ fs2.lookup mm = none then
      (match oAs gs (ρ.set i none) with
      | .stuck => .stuck
      | .exc cc ρ1 => match ρ1[i]? with
        | some none => .exc cc (ρ1.set i (some (b, .ins c [(m, .ins c2 fs2)])))
        | _ => .stuck
      | .ok ps ρ1 => match lift ρ1 ps with
        | none => .stuck
        | some (os, bs, ρ2) => match fn (.ins c2 fs2 :: os) with
          | .ret o (x :: fin) => (match (backs ps bs fin ρ2)[i]? with
            | some none => .ok (.tmp o) ((backs ps bs fin ρ2).set i (some (b, .ins c [(m, x)])))
            | _ => .stuck)
          | .exc cc (x :: fin) => (match (backs ps bs fin ρ2)[i]? with
            | some none => .exc cc ((backs ps bs fin ρ2).set i (some (b, .ins c [(m, x)])))
            | _ => .stuck)
          | _ => .stuck)
    else .stuck
  | _ => .stuck
section
variable {X : Cx} {ca : Nat → Addr} {W : WX} {c c2 i k n : Nat} {m mm x : Str} {p pos apos fpos : Pos} {fn : FSem} {gs : List ES} {e : Expr} {es : List Expr}
end
end Eng
set_option maxHeartbeats 1000000
/-! The engine, part 44: a module's constant that is a tuple of texts. -/
namespace Eng
open PySem PySem.Spec L2
open PyProof.Rows hiding St
end Eng
set_option maxHeartbeats 1000000
/-! The engine, part 45: a def called while an exception is handled. -/
namespace Eng
open PySem PySem.Spec L2
open PyProof.Rows hiding St
structure EFnH (P : Program) (w : World) (K : PySem.W.Frag) (mg : Str → Option Value) (base : Heap) (k : Nat) (f : Addr) (fd : FuncData) (ps : List Str) (sp : Sp) : Prop where
  len : ∀ vs H Q E, sp vs H Q E → vs.length = ps.length
  go : ∀ (A : Around) (outer : List Env) (s : Shared) (H : Hp) (args : Args) (us : List Value) (vs : List V) (Q : VK) (E : XK), A.guards = some [] → L2H.RoomH k A → Env0 P w K mg base A outer s H → BindsTo s fd args (ps.zip us) → Vals vs us → sp vs H Q E →
    codeAny (model P w) A (.call (.ref f) args) (CR (L2N.CX P w) outer P w H s Q E) s
theorem EFnH.mono {P : Program} {w : World} {K : PySem.W.Frag} {mg : Str → Option Value} {base : Heap} {j k : Nat} {f : Addr} {fd : FuncData} {ps : List Str} {sp : Sp} (F : EFnH P w K mg base j f fd ps sp) (h : j ≤ k) : EFnH P w K mg base k f fd ps sp :=
  ⟨F.len, fun A outer s H args us vs Q E hg hr => F.go A outer s H args us vs Q E hg (hr.mono h)⟩
section
variable {X : Cx} {k : Nat} {f : Addr} {fd : FuncData} {ps : List Str} {sp : Sp} {x : Str} {p pos : Pos} {e : Expr} {es : List Expr} {t : TA} {W : WX}
end
structure CalleeH (P : Program) (w : World) (K : PySem.W.Frag) (mg : Str → Option Value) (base : Heap) (ca : Nat → Addr) (k : Nat) (x : Str) (n : Nat) (g : FSem) : Prop where
  ex : ∃ f fd ps, ps.length = n ∧ EFnH P w K mg base k f fd ps (spF ⟨P, w, K, ca⟩ n g) ∧ mg x = some (.ref f) ∧ PySem.W.keepIn K (.ref f) = true ∧ Binds K fd ps []
theorem CalleeH.mono {P : Program} {w : World} {K : PySem.W.Frag} {mg : Str → Option Value} {base : Heap} {ca : Nat → Addr} {j k : Nat} {x : Str} {n : Nat} {g : FSem} (c : CalleeH P w K mg base ca j x n g) (h : j ≤ k) : CalleeH P w K mg base ca k x n g := by
  obtain ⟨f, fd, ps, h1, h2, h3⟩ := c.ex
  exact ⟨f, fd, ps, h1, h2.mono h, h3⟩
section
variable {X : Cx} {ca : Nat → Addr} {W : WX} {p pos : Pos} {e : Expr} {es : List Expr} {k : Nat} {x : Str}
end
end Eng
set_option maxHeartbeats 1000000
/-! The engine, part 46: xs[:1:-1]. -/
namespace Eng
open PySem PySem.Spec L2
open PyProof.Rows hiding St
section
variable {X : Cx} {ca : Nat → Addr} {W : WX} {f : ES}
end
end Eng
set_option maxHeartbeats 1000000
/-! The engine, part 47: a list comprehension that lets an exception out. -/
namespace Eng
open PySem PySem.Spec L2
open PyProof.Rows hiding St
section
variable {M : Model} {A : Around} {E : Value → Shared → Prop} {s : Shared}
end
/-! ### heaps but for one thing -/
section
variable {X : Cx} {pins : List (Addr × Obj)} {σ : L2.St} {H3 : Hp} {s3 : Shared} {scope : Scope} {cl : List (Str × Addr)} {fp : List Addr} {Q : Value → Shared → Prop} {D : Addr} {Wo : WX}
end
end Eng
set_option maxHeartbeats 1000000
/-! The engine, part 48: the comprehension's walk, with exceptions. -/
namespace Eng
open PySem PySem.Spec L2
open PyProof.Rows hiding St
section
variable {X : Cx}
end
end Eng
set_option maxHeartbeats 1000000
/-! The engine, part 49: list comprehensions whose element may raise. -/
namespace Eng
open PySem PySem.Spec L2
open PyProof.Rows hiding St
section
variable {X : Cx} {ca : Nat → Addr} {W : WX} {f g : ES} {as : AS} {G : Gx} {b : SS} {t : TS'} {it : IS}
variable {θ θ' : Nat → V} {Z Z1 Z0 Z' : Zs} {L L1 L0 L' F F0 : List Addr} {H H1 H0 H' : Hp} {σ σ' : L2.St} {ρ ρ1 ρ' : En} {Dn : Ends}
end
end Eng
set_option maxHeartbeats 3200000
/-! The engine, part 50: sorted(set(xs)), xs a list of ints. -/
namespace Eng
open PySem PySem.Spec L2
open PyProof.Rows hiding St
section
variable {P : Program} {w : World} {A : Around} {E : Value → Shared → Prop} {s : Shared}
end
section
variable {X : Cx} {ca : Nat → Addr} {W : WX} {f : ES}
end
end Eng
set_option maxHeartbeats 1000000
/-! The engine, part 51: a list comprehension within an except suite. -/
namespace Eng
open PySem PySem.Spec L2
open PyProof.Rows hiding St
/-- the exception that is handled is told -/
def HotH (X : Cx) (H : Hp) : Prop := ∃ a C, X.A.handled = some (.ref a) ∧ H a = some (.ext (ExT a C))
theorem HotH.at {X : Cx} {pins : List (Addr × Obj)} {σ : L2.St} {H : Hp} {s : Shared} (h : HotH X H) (I : Inv X pins σ H s) : ∃ x1, HotX.HotAt X.A x1 s.heap := by
  obtain ⟨a, C, hh, e⟩ := h
  obtain ⟨⟨o, e1, _, _, vs, e2, e3⟩, _⟩ := I.hok a _ e
  exact ⟨a, hh, o, vs, e1, e2, e3⟩
section
variable {prog : Program} {w : World} {A : Around} {E : Value → Shared → Prop} {s : Shared}
end
/-! ### a walk where an exception is handled -/
structure TurnX (P : Program) (w : World) (K : PySem.W.Frag) (tg : Expr) (J : It) (fp : List Addr) (it : Addr) (tn : Nat → Heap → Prop) : Prop where
  mem : it ∈ fp
  obj : ∀ i h, tn i h → ∀ b ∈ fp, ∃ o, h.get? b = some o ∧ ∀ v, o.data ≠ .cell v
  keep : ∀ i h h', tn i h → (∀ b ∈ fp, ∀ o, h.get? b = some o → h'.get? b = some o) → tn i h'
  item : ∀ (X : Cx), X.prog = P → X.w = w → X.K = K → ∀ (i : Nat) (pins : List (Addr × Obj)) (s : Shared) (σ : L2.St) (H : Hp) (E : Value → Shared → Prop), Inv X pins σ H s → (∀ b ∈ fp, FpOk X pins H b) → tn i s.heap → J.go i H →
    wpAny (model P w) X.A (pyNext (.ref it)) (fun r s1 => ∃ u, r = some u ∧
      wpAny (model P w) X.A (letOwnedTupleGo tg (.ref it) u) (fun _ s2 => ∃ x H', Inv X pins σ H' s2 ∧ RelV x u ∧ J.yld i H x H' ∧ tn (i + 1) s2.heap ∧ ∀ b ∈ fp, H' b = none) E s1) E s
  done : ∀ (X : Cx), X.prog = P → X.w = w → X.K = K → ∀ (i : Nat) (pins : List (Addr × Obj)) (s : Shared) (σ : L2.St) (H : Hp) (E : Value → Shared → Prop), Inv X pins σ H s → (∀ b ∈ fp, FpOk X pins H b) → tn i s.heap → HotH X H → J.stop i H →
    wpAny (model P w) X.A (pyNext (.ref it)) (fun r s1 => r = none ∧ Inv X pins σ H s1) E s
  self : ∀ (A : Around) (i : Nat) (s : Shared) (Q : Value → Shared → Prop) (E : Value → Shared → Prop), tn i s.heap → Q (.ref it) s → wpAny (model P w) A (pyIter (.ref it)) Q E s
def PIEX (X : Cx) (pins : List (Addr × Obj)) (σ : L2.St) (tg : Expr) (R : It → Hp → Prop) (itv : Value) (s2 : Shared) : Prop :=
  ∃ (it : Addr) (fp : List Addr) (tn : Nat → Heap → Prop) (J : It) (H' : Hp), itv = .ref it ∧ Inv X pins σ H' s2 ∧ TurnX X.prog X.w X.K tg J fp it tn ∧ tn 0 s2.heap ∧ (∀ b ∈ fp, FpOk X pins H' b) ∧ R J H'
structure PIX (X : Cx) (tg iter : Expr) (wi : TI) : Prop where
  run : ∀ (pins : List (Addr × Obj)) (s : Shared) (σ : L2.St) (H : Hp) (R : It → Hp → Prop), Inv X pins σ H s → wi σ H R →
    wpAny (model X.prog X.w) X.A (eval iter X.env) (fun v s1 => wpAny (model X.prog X.w) X.A (pyIter v) (PIEX X pins σ tg R) X.xe s1) X.xe s
section
variable {X : Cx}
end
end Eng
set_option maxHeartbeats 1000000
/-! The engine, part 52: what holds within an except suite: the exception in a pinned slot. -/
namespace Eng
open PySem PySem.Spec L2
open PyProof.Rows hiding St
section
variable (X : Cx) (ca : Nat → Addr) (W : WX) (a : Addr) (i : Nat)
def RdEh (f : ES) : TE := fun σ H Q => ∃ θ Z ρ L, θ i = .ref a ∧ Rep θ (gx X ca) Z H ρ σ L ∧ PoE X ca W θ Z L H σ Q (f ρ)
end
section
variable {X : Cx} {ca : Nat → Addr} {W : WX} {a : Addr} {i : Nat} {f g : ES} {b c : SS} {t u : TS'} {σ : L2.St} {H : Hp} {pos p : Pos} {e : Expr} {st : Stmt} {sts rest : List Stmt}
/-! ### blocks -/
/-! ### tests -/
theorem RdEh.mono {Q Q' : VK} (h : RdEh X ca W a i f σ H Q) (k : ∀ v H, Q v H → Q' v H) : RdEh X ca W a i f σ H Q' := by
  obtain ⟨θ, Z, ρ, L, hθ, r, q⟩ := h
  refine ⟨θ, Z, ρ, L, hθ, r, ?_⟩
  cases e : f ρ with
  | stuck => rw [e] at q; exact q
  | exc c ρ1 => rw [e] at q; exact q
  | ok p ρ1 => rw [e] at q; exact fun Z1 H1 L1 F v r1 h1 s1 => k _ _ (q Z1 H1 L1 F v r1 h1 s1)
/-! ### the comprehension -/
end

/-! ### try -/
section
variable {X : Cx} {ca : Nat → Addr} {W : WX} {b s : SS} {cl : List Nat} {i j : Nat} {θ θ' : Nat → V} {G : Gx} {Z : Zs} {H : Hp} {σ : L2.St} {L : List Addr} {ρ : En}
variable {x n : Str} {body suite : List Stmt} {b₀ : Stmt} {np pos pos' : Pos}
end
end Eng
/-! The engine, part 53: the hook's look through a tree, for a head in pieces. -/
namespace Eng
open PySem PySem.Spec L2
open PyProof.Rows hiding St
def obsT (n : Nat) (fa : List He.Fa) (fn : List He.FnD) (ex : PySem.W.Frag → Bool) (s : Shared) : Option (He.Al × Bool) := match HandSHeadRun.putAll s.heap.objs.toList .nil 0 with
  | some (t, k) => some (obsM n fa fn ex (HandSHeadRun.getT ⟨t, k, s.heap.life, s.gens, s.drawn, s.toks, s.os⟩))
  | none => none
def hookT (n : Nat) (fa : List He.Fa) (fn : List He.FnD) (ex : PySem.W.Frag → Bool) : PySem.W.Hook where
  α := Option (He.Al × Bool)
  obs := obsT n fa fn ex
  val := fun w => some ((hookM n fa fn ex).val w)
  says := (hookM n fa fn ex).says
  of := fun w s e => by
    unfold obsT at e
    split at e
    · rename_i t k e1
      have eh := HandSHeadRun.putAll_heap e1
      have e2 := obsM_eq (n := n) (fa := fa) (fn := fn) (ex := ex) (HandSHeadRun.getT_eq ⟨t, k, s.heap.life, s.gens, s.drawn, s.toks, s.os⟩)
      rw [e2] at e
      have := (hookM n fa fn ex).of w _ (Option.some.inj e)
      have e3 : (PySem.W.SharedT.abs ⟨t, k, s.heap.life, s.gens, s.drawn, s.toks, s.os⟩).heap = s.heap := eh
      rw [e3] at this
      exact this
    · cases e
  keeps := (hookM n fa fn ex).keeps
end Eng
set_option maxHeartbeats 1000000
/-! The engine, part 54: a dict is frozen. -/
namespace Eng
open PySem PySem.Spec L2
open PyProof.Rows hiding St
section
variable {X : Cx} {ca : Nat → Addr} {W : WX} {f : ES} {b : SS} {G : Gx} {Z : Zs} {H : Hp} {σ : L2.St} {L F : List Addr} {ρ : En} {θ : Nat → V}
end
end Eng
set_option maxHeartbeats 1000000
/-! The engine, part 55: what an expression yields is given away (a list is frozen). -/
namespace Eng
open PySem PySem.Spec L2
open PyProof.Rows hiding St
section
variable {X : Cx} {ca : Nat → Addr} {W : WX} {f : ES}
end
end Eng
set_option maxHeartbeats 1000000
/-! The engine, part 56: d.get(k, []). -/
namespace Eng
open PySem PySem.Spec L2
open PyProof.Rows hiding St
section
variable {X : Cx} {ca : Nat → Addr} {W : WX}
end
end Eng
set_option maxHeartbeats 1000000
/-! The engine, part 57: a thing that a method tells anew, its lists owned (young). -/
namespace Eng
open PySem PySem.Spec L2
open PyProof.Rows hiding St

/-! ### the lists of a datum -/
def joinF (F1 F2 : List Addr) : List Addr := F1 ++ F2.filter fun a => !decide (a ∈ F1)
theorem mem_joinF {F1 F2 : List Addr} {a : Addr} : a ∈ joinF F1 F2 ↔ a ∈ F1 ∨ a ∈ F2 := by
  unfold joinF
  rw [List.mem_append, List.mem_filter]
  by_cases h : a ∈ F1 <;> simp [h]
theorem joinF_nodup {F1 F2 : List Addr} (h1 : F1.Nodup) (h2 : F2.Nodup) : (joinF F1 F2).Nodup := by
  refine List.nodup_append.mpr ⟨h1, h2.filter _, fun a ha b hb e => ?_⟩
  subst e
  have := (List.mem_filter.mp hb).2
  simp [ha] at this
section
variable {Z Z' : Zs} {K : PySem.W.Frag} {H H' : Hp}
theorem Dz.sub {Z2 : Zs} (h : ∀ a, Z a → Z2 a) {d : D} {v : V} (dz : Dz Z K H d v) : Dz Z2 K H d v := dz.kp ⟨h, fun _ _ _ e => e, fun _ _ e => e, fun _ _ e => e, fun _ _ _ e => e⟩
theorem DzA.sub {Z2 : Zs} (h : ∀ a, Z a → Z2 a) {d : List D} {v : List V} (dz : DzA Z K H d v) : DzA Z2 K H d v := dz.kp ⟨h, fun _ _ _ e => e, fun _ _ e => e, fun _ _ e => e, fun _ _ _ e => e⟩
/-- the lists that a datum has -/
theorem Dz.few {d : D} {v : V} (h : Dz Z K H d v) : ∃ F : List Addr, F.Nodup ∧ (∀ a ∈ F, Z a ∧ ∃ xs, H a = some (.lst xs)) ∧ Dz (fun a => a ∈ F) K H d v :=
  Dz.rec (motive_1 := fun d v _ => ∃ F : List Addr, F.Nodup ∧ (∀ a ∈ F, Z a ∧ ∃ xs, H a = some (.lst xs)) ∧ Dz (fun a => a ∈ F) K H d v)
    (motive_2 := fun ds vs _ => ∃ F : List Addr, F.Nodup ∧ (∀ a ∈ F, Z a ∧ ∃ xs, H a = some (.lst xs)) ∧ DzA (fun a => a ∈ F) K H ds vs)
    ⟨[], List.nodup_nil, (fun _ h => by cases h), .non⟩ (fun b => ⟨[], List.nodup_nil, (fun _ h => by cases h), .bl b⟩) (fun i => ⟨[], List.nodup_nil, (fun _ h => by cases h), .int i⟩) (fun x => ⟨[], List.nodup_nil, (fun _ h => by cases h), .str x⟩)
    (fun {a xs ds} z r _ ⟨F, nd, hF, h⟩ => ⟨joinF [a] F, joinF_nodup (by simp) nd, fun b hb => (mem_joinF.mp hb).elim (fun q => by rw [List.mem_singleton] at q; subst q; exact ⟨z, xs, r⟩) (hF b), .lst (mem_joinF.mpr (.inl (by simp))) r (h.sub fun b hb => mem_joinF.mpr (.inr hb))⟩)
    (fun r _ ⟨F, nd, hF, h⟩ => ⟨F, nd, hF, .tup r h⟩)
    (fun r nd' _ _ ⟨F1, n1, hF1, h1⟩ ⟨F2, n2, hF2, h2⟩ => ⟨joinF F1 F2, joinF_nodup n1 n2, fun b hb => (mem_joinF.mp hb).elim (hF1 b) (hF2 b), .dic r nd' (h1.sub fun b hb => mem_joinF.mpr (.inl hb)) (h2.sub fun b hb => mem_joinF.mpr (.inr hb))⟩)
    ⟨[], List.nodup_nil, (fun _ h => by cases h), .nil⟩
    (fun _ _ ⟨F1, n1, hF1, h1⟩ ⟨F2, n2, hF2, h2⟩ => ⟨joinF F1 F2, joinF_nodup n1 n2, fun b hb => (mem_joinF.mp hb).elim (hF1 b) (hF2 b), .cons (h1.sub fun b hb => mem_joinF.mpr (.inl hb)) (h2.sub fun b hb => mem_joinF.mpr (.inr hb))⟩) h
end

/-! ### things without lists in their data -/
mutual
def lfP : O → Bool
  | .ins _ fs => lfF fs
  | .val d => lfD d
  | .scr _ => true
  | .lst ds => lfA ds
  | .set _ => true
  | .dic es => lfA (es.map (·.1)) && lfA (es.map (·.2))
  | .exn _ => false
  | .yng _ _ => false
  | .ols _ => false
  | .junk => true
def lfF : List (Str × O) → Bool
  | [] => true
  | (_, o) :: r => lfP o && lfF r
end
section
variable {G : Gx} {Z Z' : Zs} {H H' : Hp}
mutual
theorem Ro.freeP (k : Tk G.K H H') : ∀ {o : O} {v : V} {F : List Addr}, lfP o = true → Ro G Z H o v F → (∀ a ∈ F, ∀ u, H a = some u → H' a = some u) → Ro G Z' H' o v F
  | .ins c fs, v, F, e, h, hf => by
    cases h with
    | ins e1 h => exact .ins (hf _ (by simp) _ e1) (RoF.freeP k (by simpa [lfP] using e) h fun a ha => hf a (List.mem_cons_of_mem _ ha))
  | .val d, v, F, e, h, hf => h.free k (by simpa [lfP, lfO] using e) hf
  | .scr ns, v, F, e, h, hf => h.free k (by simp [lfO]) hf
  | .lst ds, v, F, e, h, hf => h.free k (by simpa [lfP, lfO] using e) hf
  | .set xs, v, F, e, h, hf => h.free k (by simp [lfO]) hf
  | .dic es, v, F, e, h, hf => h.free k (by simpa [lfP, lfO] using e) hf
  | .exn _, v, F, e, h, hf => by simp [lfP] at e
  | .yng _ _, v, F, e, h, hf => by simp [lfP] at e
  | .ols _, v, F, e, h, hf => by simp [lfP] at e
  | .junk, v, F, e, h, hf => by
    cases h
    exact .junk
theorem RoF.freeP (k : Tk G.K H H') : ∀ {fs : List (Str × O)} {vs : List (Str × V)} {F : List Addr}, lfF fs = true → RoF G Z H fs vs F → (∀ a ∈ F, ∀ u, H a = some u → H' a = some u) → RoF G Z' H' fs vs F
  | [], _, _, _, h, _ => by cases h; exact .nil
  | (n, o) :: fs, vs, F, e, h, hf => by
    cases h with
    | cons h t =>
      have e2 : lfP o = true ∧ lfF fs = true := by simpa [lfF] using e
      exact .cons (Ro.freeP k e2.1 h fun a ha => hf a (List.mem_append_left _ ha)) (RoF.freeP k e2.2 t fun a ha => hf a (List.mem_append_right _ ha))
end
theorem tk_refl {K : PySem.W.Frag} : Tk K H H := ⟨fun _ _ h => h, fun _ _ h => h⟩
theorem ArgsOk.freeP : ∀ {os : List O} {vs : List V} {F : List Addr}, os.all lfP = true → ArgsOk G Z H os vs F → ArgsOk G Z' H os vs F
  | _, _, _, _, .nil => .nil
  | _, _, _, e, .cons h t => by
    rw [List.all_cons, Bool.and_eq_true] at e
    exact .cons (h.freeP tk_refl e.1 fun _ _ _ e => e) (ArgsOk.freeP e.2 t)
theorem FinOk.freeP : ∀ {os fin : List O} {vs : List V} {F : List Addr}, fin.all lfP = true → FinOk G Z H os fin vs F → FinOk G Z' H os fin vs F
  | _, _, _, _, _, .nil => .nil
  | _, _, _, _, e, .val ho t => by
    rw [List.all_cons, Bool.and_eq_true] at e
    exact .val ho (FinOk.freeP e.2 t)
  | _, _, _, _, e, .own ho h t => by
    rw [List.all_cons, Bool.and_eq_true] at e
    exact .own ho (h.freeP tk_refl e.1 fun _ _ _ e => e) (FinOk.freeP e.2 t)
end

/-! ### a method's call that tells what is young -/
def callY (g : FSem) (ρ : En) (ps : List Opd) : Out Opd := match lift ρ ps with
  | some (os, bs, ρ1) => if os.all lfP = true then match g os with
    | .ret (.val (.tuple ds)) fin => if fin.all lfP = true then .ok (.tmp (.yng (.tuple ds) none)) (backs ps bs fin ρ1) else .stuck
    | .exc c fin => if fin.all lfP = true then .exc c (backs ps bs fin ρ1) else .stuck
    | _ => .stuck
    else .stuck
  | none => .stuck
def oCallY (g : FSem) (as : AS) : ES := fun ρ => (as ρ).bind fun ps ρ1 => callY g ρ1 ps
section
variable {X : Cx} {ca : Nat → Addr} {W : WX} {as : AS} {θ : Nat → V} {Z : Zs} {L : List Addr} {H : Hp} {σ : L2.St} {ρ : En}
theorem po_callY {fn : FSem} {n : Nat} {Q : VK} (r : Rep θ (gx X ca) Z H ρ σ L) (q : PoE X ca W θ Z L H σ Q (oCallY fn as ρ)) : PoA X ca W θ Z L H σ (fun vs H1 => vs.length = n → spF (gx X ca) n fn vs H1 Q (WE W σ)) (as ρ) := by
  unfold oCallY at q
  cases e1 : as ρ with
  | stuck => rw [e1] at q; exact q
  | exc c ρ1 => rw [e1] at q; exact q
  | ok ps ρ1 =>
    rw [e1] at q
    simp only [bind_ok] at q
    intro Z1 H1 L1 F vs r1 h1 s1 hl
    unfold callY at q
    cases e2 : lift ρ1 ps with
    | none => rw [e2] at q; exact q.elim
    | some x =>
      obtain ⟨os, bs, ρ2⟩ := x
      rw [e2] at q
      simp only at q
      split at q
      · rename_i hos
        obtain ⟨FA, L2, r2, ha, ndA, disA, sub, bk⟩ := call_args r1 h1 e2
        have nA := List.nodup_append.mp ndA
        have muA := ha.mut
        refine ⟨fun _ => False, os, FA, hl, ha.freeP hos, nA.1, (fun _ _ h => h), (fun _ h => h.elim), ?_⟩
        -- behind the call
        have beh : ∀ {H' M}, Step Z1 FA H1 Z1 M H' → M.Nodup → (∀ a, Z1 a → H' a ≠ none) → Rep θ (gx X ca) Z1 H' ρ2 σ L2 ∧ (M ++ L2).Nodup ∧ Step Z L H Z1 (M ++ L2) H' := fun {H' M} s nM zd => by
          have rr := r2.aside muA ndA disA s zd
          refine ⟨rr, List.nodup_append.mpr ⟨nM, r2.nd, fun a ha c hc q => ?_⟩, ?_⟩
          · subst q
            rcases s.lnew a ha with q | q
            · exact nA.2.2 a q a hc rfl
            · exact mut_some (r2.sl.mut a hc) q
          · have sA : Step Z L H Z1 (L2 ++ FA) H1 := s1.sub fun a ha => sub a ((List.mem_append.mp ha).elim (fun q => List.mem_append_right _ q) fun q => List.mem_append_left _ q)
            exact (sA.then s).sub fun a ha => (List.mem_append.mp ha).elim (fun q => List.mem_append_right _ q) fun q => List.mem_append_left _ q
        have zd' : ∀ {Z' M H'}, Step (fun _ => False) FA H1 Z' M H' → ∀ a, Z1 a → H' a ≠ none := fun {Z' M H'} s a z e => by
          cases q : H1 a with
          | none => exact r1.zd a z q
          | some u => rw [s.keep a u q fun h => disA a h z] at e; cases e
        cases e3 : fn os with
        | stuck => rw [e3] at q; exact q
        | ret o fin =>
          rw [e3] at q
          try simp only at q
          split at q
          · rename_i ds fin' eo
            cases eo
            split at q
            · rename_i hfin
              intro Z' H' F' Fo v hf ho nd dis zd s
              cases ho with
              | val dz =>
                rw [List.nil_append] at nd s dis
                obtain ⟨b, rfl⟩ : ∃ b, v = .ref b := by cases dz with | tup => exact ⟨_, rfl⟩
                obtain ⟨F0, nd0, hF0, dz0⟩ := dz.few
                have d01 : ∀ a ∈ F0, a ∉ F' := fun a h1 h2 => dis a h2 (hF0 a h1).1
                have new0 : ∀ a ∈ F0, a ∈ FA ∨ H1 a = none := fun a ha => by
                  rcases s.znew a (hF0 a ha).1 with q | q | q
                  · exact q.elim
                  · exact .inl q
                  · exact .inr q
                have ndM : (F0 ++ F').Nodup := List.nodup_append.mpr ⟨nd0, nd, fun a ha c hc e => by subst e; exact d01 a ha hc⟩
                have s2 : Step Z1 FA H1 Z1 (F0 ++ F') H' := ⟨s.keep, fun _ z => z, fun _ z => .inl z, fun a ha => (List.mem_append.mp ha).elim (new0 a) (s.lnew a)⟩
                obtain ⟨rr, ndM2, st⟩ := beh s2 ndM (zd' s)
                rw [List.append_assoc] at ndM2
                have m := List.nodup_append.mp ndM2
                have notZ : ∀ a, a ∈ FA ∨ H1 a = none → ¬ Z1 a := fun a h z => h.elim (fun h => disA a h z) fun h => r1.zd a z h
                obtain ⟨L3, r3, s3⟩ := bk Z1 H' fin F' rr (hf.freeP hfin) m.2.1 fun a ha => notZ a (s.lnew a ha)
                refine q Z1 H' L3 F0 (.ref b) r3 (.tmp (.yng dz0 fun a ha => (hF0 a ha).2) (List.nodup_append.mpr ⟨nd0, r3.nd, fun a ha c hc => m.2.2 a ha c (s3 c hc)⟩) fun a ha => notZ a (new0 a ha)) (st.sub fun a ha => ?_)
                rw [List.append_assoc]
                exact (List.mem_append.mp ha).elim (fun q => List.mem_append_left _ q) fun q => List.mem_append_right _ (s3 a q)
            · exact q.elim
          · rename_i eo
            cases eo
          · exact q.elim
        | exc c fin =>
          rw [e3] at q
          simp only at q
          split at q
          · rename_i hfin
            intro Z' H' F' hf nd dis zd s
            have s2 : Step Z1 FA H1 Z1 F' H' := ⟨s.keep, fun _ z => z, fun _ z => .inl z, s.lnew⟩
            obtain ⟨rr, ndM, st⟩ := beh s2 nd (zd' s)
            have notZ : ∀ a, a ∈ FA ∨ H1 a = none → ¬ Z1 a := fun a h z => h.elim (fun h => disA a h z) fun h => r1.zd a z h
            obtain ⟨L3, r3, s3⟩ := bk Z1 H' fin F' rr (hf.freeP hfin) ndM fun a ha => notZ a (s.lnew a ha)
            exact q Z1 H' L3 r3 (st.sub s3)
          · exact q.elim
      · exact q.elim
end
/-- a method called on the object in a slot: what it tells is young -/
def oMethY (c i : Nat) (m : Str) (fn : FSem) (gs : List ES) : ES := fun ρ => match ρ[i]? with
  | some (some (_, .ins c' fs)) => if c' = c ∧ fs.lookup m = none then oCallY fn (oAs (oNm i :: gs)) ρ else .stuck
  | _ => .stuck
section
variable {X : Cx} {ca : Nat → Addr} {W : WX} {c i k n : Nat} {m x : Str} {p pos apos : Pos} {fn : FSem} {gs : List ES} {e : Expr} {es : List Expr}
theorem rd_methY {σ : L2.St} {H : Hp} {Q : VK} (hn : gs.length + 1 = n) (h : RdE X ca W (oMethY c i m fn gs) σ H Q) : RdE X ca W (oNm i) σ H fun v H1 => (∃ a dx vs, v = .ref a ∧ H1 a = some (.ins (ca c) dx vs) ∧ vs.lookup m = none) ∧ RdA X ca W (oAs gs) σ H1 fun us H2 => spF (gx X ca) n fn (v :: us) H2 Q (WE W σ) := by
  obtain ⟨θ, Z, ρ, L, r, q⟩ := h
  unfold oMethY at q
  split at q
  · rename_i b c' fs e
    split at q
    · rename_i hc
      obtain ⟨rfl, hl⟩ := hc
      have pq := po_callY (n := n) r q
      have e1 : oNm i ρ = .ok (.nm i) ρ := by
        unfold oNm slotO
        rw [e]
      refine ⟨θ, Z, ρ, L, r, ?_⟩
      rw [e1]
      intro Z1 H1 L1 F1 v1 r1 h1 s1
      obtain ⟨rfl, hv⟩ := h1.nm
      obtain ⟨v', F', h2, ro, _⟩ := r1.sl.get e
      rw [hv] at h2
      cases h2
      obtain ⟨a, dx, vs, F2, rfl, rfl, ea, rf⟩ := ro.ins_of
      have key : RdA X ca W (oAs gs) σ H1 fun us H2 => (V.ref a :: us).length = n → spF (gx X ca) n fn (V.ref a :: us) H2 Q (WE W σ) := by
        refine ⟨θ, Z1, ρ, L1, r1, ?_⟩
        have e2 : oAs (oNm i :: gs) ρ = (oAs gs ρ).bind fun ps ρ2 => .ok (.nm i :: ps) ρ2 := by
          show (oNm i ρ).bind _ = _
          rw [e1]
          rfl
        rw [e2] at pq
        cases e3 : oAs gs ρ with
        | stuck => rw [e3] at pq; exact pq.elim
        | exc cc ρ2 =>
          rw [e3] at pq
          intro Z2 H2 L2 r2 s2
          exact pq Z2 H2 L2 r2 (s1.trans s2)
        | ok ps ρ2 =>
          rw [e3] at pq
          intro Z2 H2 L2 F2 us r2 h2 s2
          have h3 := (h1.carry r1 s2 h2.nd).join h2
          exact pq Z2 H2 L2 ([] ++ F2) (.ref a :: us) r2 h3 (by rw [List.append_assoc]; exact s1.then s2)
      exact ⟨⟨a, dx, vs, rfl, ea, (rf.look (m := m)).1 hl⟩, (rdA_len key).mono fun us H2 ⟨l, q⟩ => q (by rw [List.length_cons, l]; exact hn)⟩
    · exact q.elim
  · exact q.elim
theorem se_methY {pl : Sem Bool} (M : CalleeM X.prog X.w X.K X.mg X.base ca k c m n fn) (C : Cls X.K (ca c)) (hG : X.A.guards = some []) (hr : Room k X.A) (tk : L2N.Takes X W) (hn : gs.length + 1 = n) (he : PE X (.Name x p) (RdE X ca W (oNm i))) (hs : ((e :: es).all notStar) = true) (ha : PA X (e :: es) (RdA X ca W (oAs gs)))
    (ht : eval (.Call (.Attribute (.Name x p) m apos) (e :: es) [] pos) X.env = (do
      let ov ← eval (.Name x p) X.env
      standAt apos.atName
      let (f, first) ← holding [ov] (getMethod ov m pl)
      callWith pos f first (backTo pos (starEach (e :: es) X.env)) (backToKw pos (keywordEach [] X.env)))) :
    PE X (.Call (.Attribute (.Name x p) m apos) (e :: es) [] pos) (RdE X ca W (oMethY c i m fn gs)) := by
  obtain ⟨f, fd, ps, hp, F, hm, hb⟩ := M.ex
  subst hp
  rw [List.all_cons, Bool.and_eq_true] at hs
  refine ⟨fun pins s σ H Q I h => ?_⟩
  refine PySem.W.methodCall_KW (pl := pl) (thn (he.run pins s σ H _ I (rd_methY hn h)) fun u s1 ⟨v, H1, I1, rx, ⟨a, dx, vs, ev, ea, l⟩, q⟩ => ?_) ht
  subst ev
  obtain rfl : u = Value.ref a := rx
  refine getmeth_ok I1 ea C hm l ?_
  refine PySem.W.callWith_K (first := [.ref a]) (h₀ := X.base) I.ok.mod.kin hm.kp (thn (ha.run pos pins s1 σ H1 _ I1 q) fun us s2 ⟨ws, H2, I2, r, q2⟩ => ⟨I2.kIn, ?_⟩) (star_cons hs.1) (star_plain hs.2)
  exact efn_run (us := .ref a :: us) (vs := .ref a :: ws) F hG hr hb tk I2 (.cons rfl r) q2
theorem se_methY0 {pl : Sem Bool} (M : CalleeM X.prog X.w X.K X.mg X.base ca k c m 1 fn) (C : Cls X.K (ca c)) (hG : X.A.guards = some []) (hr : Room k X.A) (tk : L2N.Takes X W) (he : PE X (.Name x p) (RdE X ca W (oNm i)))
    (ht : eval (.Call (.Attribute (.Name x p) m apos) [] [] pos) X.env = (do
      let ov ← eval (.Name x p) X.env
      standAt apos.atName
      let (f, first) ← holding [ov] (getMethod ov m pl)
      callWith pos f first (backTo pos (starEach [] X.env)) (backToKw pos (keywordEach [] X.env)))) :
    PE X (.Call (.Attribute (.Name x p) m apos) [] [] pos) (RdE X ca W (oMethY c i m fn [])) := by
  obtain ⟨f, fd, ps, hp, F, hm, hb⟩ := M.ex
  refine ⟨fun pins s σ H Q I h => ?_⟩
  have h2 := rd_methY (n := 1) rfl h
  refine PySem.W.methodCall_KW (pl := pl) (thn (he.run pins s σ H _ I h2) fun u s1 ⟨v, H1, I1, rx, ⟨a, dx, vs, ev, ea, l⟩, q⟩ => ?_) ht
  subst ev
  obtain rfl : u = Value.ref a := rx
  refine getmeth_ok I1 ea C hm l ?_
  obtain ⟨θ, Z, ρ, L, r, qq⟩ := q
  have q3 := qq Z H1 L [] [] r (Held.none r) Step.refl
  exact PySem.W.callWith_K0 (first := [.ref a]) I1.kIn hm.kp (efn_run (us := [.ref a]) (vs := [.ref a]) F hG hr hb tk I1 (.cons rfl .nil) q3)
end
end Eng
set_option maxHeartbeats 1000000
/-! The engine, part 58: what is young in a tuple, lent to be read, changed within. -/
namespace Eng
open PySem PySem.Spec L2
open PyProof.Rows hiding St

/-! ### (young, a datum) -/
def oTupY (f g : ES) : ES := fun ρ => (oAs [f, g] ρ).bind fun ps ρ1 => match ps with
  | [p1, p2] => match giveUp ρ1 p1 with
    | some (.yng d none, ρ2) => match give ρ2 p2 with
      | some (e, ρ3) => .ok (.tmp (.yng d (some e))) ρ3
      | none => .stuck
    | _ => .stuck
  | _ => .stuck
section
variable {X : Cx} {ca : Nat → Addr} {W : WX} {f g : ES} {θ : Nat → V} {Z : Zs} {L : List Addr} {H : Hp} {σ : L2.St} {ρ : En}
theorem Ro.yng_of {G : Gx} {d : D} {v : V} {F : List Addr} (h : Ro G Z H (.yng d none) v F) : ∃ b, v = .ref b ∧ Dz (fun a => a ∈ F) G.K H d (.ref b) ∧ ∀ a ∈ F, ∃ xs, H a = some (.lst xs) := by
  cases h with
  | yng h mu => exact ⟨_, rfl, h, mu⟩
theorem Ro.yng2_of {G : Gx} {d e : D} {v : V} {F : List Addr} (h : Ro G Z H (.yng d (some e)) v F) : ∃ b x y, v = .ref b ∧ SqT G.K H b [x, y] ∧ Dz (fun a => a ∈ F) G.K H d x ∧ (∀ a ∈ F, ∃ xs, H a = some (.lst xs)) ∧ Dz Z G.K H e y := by
  cases h with
  | yng2 r h mu h2 => exact ⟨_, _, _, rfl, r, h, mu, h2⟩
theorem se_tupY {a b : Expr} {k : Nat} {pos : Pos} (ha : PA X [a, b] (RdA X ca W (oAs [f, g]))) : PE X (.Tuple [a, b] k pos) (RdE X ca W (oTupY f g)) := PE.imp (pe_tup ha) fun σ H Q ⟨θ, Z, ρ, L, r, q⟩ => by
  refine ⟨θ, Z, ρ, L, r, ?_⟩
  unfold oTupY at q
  cases e : oAs [f, g] ρ with
  | stuck => rw [e] at q; exact q
  | exc c ρ1 => rw [e] at q; exact q
  | ok ps ρ1 =>
    rw [e] at q
    simp only [bind_ok] at q
    intro Z1 H1 L1 F vs r1 h1 s1
    split at q
    · rename_i p1 p2
      split at q
      · rename_i d ρ2 e1
        split at q
        · rename_i e3 ρ3 e2
          have ho := h1.ok
          cases vs with
          | nil => cases ho
          | cons v1 vs =>
            cases vs with
            | nil => obtain ⟨_, _, _, _, o2⟩ := ho.cons_split; cases o2
            | cons v2 vs =>
              obtain ⟨F1, F2, rfl, o1, o2⟩ := ho.cons_split
              cases vs with
              | cons v3 vs => obtain ⟨_, _, _, _, o3⟩ := o2.cons_split; cases o3
              | nil =>
                have nd := h1.nd
                rw [List.append_assoc] at nd
                have n1 := List.nodup_append.mp nd
                have n2 := List.nodup_append.mp n1.2.1
                have ndL : (F1 ++ L1).Nodup := List.nodup_append.mpr ⟨n1.1, n2.2.1, fun a ha b hb e => n1.2.2 a ha b (List.mem_append_right _ hb) e⟩
                have hp1 : Held (gx X ca) Z1 H1 σ L1 [p1] [v1] F1 := ⟨o1, ndL, fun a ha => h1.dis a (List.mem_append_left _ ha)⟩
                have hp2 : Held (gx X ca) Z1 H1 σ (F1 ++ L1) [p2] [v2] F2 := ⟨o2, List.nodup_append.mpr ⟨n2.1, ndL, fun a ha b hb e => by
                  subst e
                  rcases List.mem_append.mp hb with hb | hb
                  · exact n1.2.2 a hb a (List.mem_append_left _ ha) rfl
                  · exact n2.2.2 a ha a hb rfl⟩, fun a ha => h1.dis a (List.mem_append_right _ ha)⟩
                have mu1 : ∀ a ∈ F1 ++ L1, Mut (H1 a) := fun a ha => (List.mem_append.mp ha).elim (o1.mut a) (r1.sl.mut a)
                have dz1 : ∀ a ∈ F1 ++ L1, ¬ Z1 a := fun a ha => (List.mem_append.mp ha).elim (hp1.dis a) (r1.dis a)
                obtain ⟨Z2, L2, F1', r2, h2, s2⟩ := giveUp_ok r1 hp1 e1
                have hp2' := hp2.carryM mu1 dz1 s2 h2.nd
                have nd2 := hp2'.nd
                have m1 := List.nodup_append.mp nd2
                have m2 := List.nodup_append.mp m1.2.1
                have hp3 : Held (gx X ca) Z2 H1 σ L2 [p2] [v2] F2 := ⟨hp2'.ok, List.nodup_append.mpr ⟨m1.1, m2.2.1, fun a ha b hb e => m1.2.2 a ha b (List.mem_append_right _ hb) e⟩, hp2'.dis⟩
                obtain ⟨Z3, L3, r3, dz3, s3⟩ := give_ok r2 hp3 e2
                have hq : Held (gx X ca) Z2 H1 σ (F2 ++ L2) [.tmp (.yng d none)] [v1] F1' := ⟨h2.ok, List.nodup_append.mpr ⟨(List.nodup_append.mp h2.nd).1, hp3.nd, fun a ha b hb e => by
                  subst e
                  rcases List.mem_append.mp hb with hb | hb
                  · exact m1.2.2 a hb a (List.mem_append_left _ ha) rfl
                  · exact m2.2.2 a ha a hb rfl⟩, h2.dis⟩
                have mu2 : ∀ a ∈ F2 ++ L2, Mut (H1 a) := fun a ha => (List.mem_append.mp ha).elim (hp3.ok.mut a) (r2.sl.mut a)
                have dz2 : ∀ a ∈ F2 ++ L2, ¬ Z2 a := fun a ha => (List.mem_append.mp ha).elim (hp3.dis a) (r2.dis a)
                have hq3 := hq.carryM mu2 dz2 s3 r3.nd
                have hy := hq3.one
                obtain ⟨b1, rfl, dd, mm⟩ := hy.yng_of
                refine ⟨by show 2 ≤ sizeLine; decide, fun p np => ?_⟩
                have sm : Same H1 (upd H1 p (.tup [.ref b1, v2])) := same_new np
                have ry : Ro (gx X ca) Z3 (upd H1 p (.tup [.ref b1, v2])) (.yng d (some e3)) (.ref p) F1' :=
                  .yng2 (.inl (.inl upd_same)) (dd.kp (same_kp sm)) (fun a ha => (mm a ha).imp fun xs e => sm a _ e) (dz3.kp (same_kp sm))
                refine q Z3 _ L3 F1' _ (r3.same sm) (.tmp ry hq3.nd hq3.dis) (s1.trans ⟨fun a u e _ => sm a u e, fun a z => s3.zmono a (s2.zmono a z), fun a z => ?_, fun a ha => ?_⟩)
                · rcases s3.znew a z with z | z | z
                  · rcases s2.znew a z with z | z | z
                    · exact .inl z
                    · exact .inr (.inl ((List.mem_append.mp z).elim (fun z => List.mem_append_left _ (List.mem_append_left _ z)) fun z => List.mem_append_right _ z))
                    · exact .inr (.inr z)
                  · rcases List.mem_append.mp z with z | z
                    · exact .inr (.inl (List.mem_append_left _ (List.mem_append_right _ z)))
                    · rcases s2.lnew a (List.mem_append_right _ z) with z | z
                      · exact .inr (.inl ((List.mem_append.mp z).elim (fun z => List.mem_append_left _ (List.mem_append_left _ z)) fun z => List.mem_append_right _ z))
                      · exact .inr (.inr z)
                  · exact .inr (.inr z)
                · have up : ∀ a, a ∈ F1' ++ L2 → a ∈ F1 ++ F2 ++ L1 ∨ H1 a = none := fun a ha => by
                    rcases s2.lnew a ha with z | z
                    · exact .inl ((List.mem_append.mp z).elim (fun z => List.mem_append_left _ (List.mem_append_left _ z)) fun z => List.mem_append_right _ z)
                    · exact .inr z
                  rcases List.mem_append.mp ha with ha | ha
                  · exact up a (List.mem_append_left _ ha)
                  · rcases s3.lnew a ha with z | z
                    · rcases List.mem_append.mp z with z | z
                      · exact .inl (List.mem_append_left _ (List.mem_append_right _ z))
                      · exact up a (List.mem_append_right _ z)
                    · exact .inr z
        · exact q.elim
      · exact q.elim
    · exact q.elim

/-! ### its parts -/
def oYngR (i : Nat) : ES := fun ρ => match ρ[i]? with
  | some (some (_, .yng _ (some e))) => .ok (.tmp (.val e)) ρ
  | _ => .stuck
def oYngL (i : Nat) : ES := fun ρ => match ρ[i]? with
  | some (some (false, .yng (.tuple ds) (some _))) => .ok (.tmp (.yng (.tuple ds) none)) (ρ.set i none)
  | _ => .stuck
theorem se_yngR {o : Expr} {i j : Nat} {p2 pos : Pos} (hn : PE X o (tVar i)) : PE X (.Subscript o (.Constant (.int 1) j p2) pos) (RdE X ca W (oYngR i)) := PE.imp (pe_ix ix_tup hn pe_int (fun _ _ => rfl)) fun σ H Q ⟨θ, Z, ρ, L, r, q⟩ => by
  unfold oYngR at q
  split at q
  · rename_i p d e e1
    obtain ⟨v, F, h1, h2, _⟩ := r.sl.get e1
    obtain ⟨b, x, y, rfl, rt, _, _, hy⟩ := h2.yng2_of
    exact ⟨_, h1, b, [x, y], 1, y, rfl, rfl, rt, rfl, q Z H L [] y r ((Al.val (G := gx X ca) hy).held r) Step.refl⟩
  · exact q.elim
theorem se_yngL {o : Expr} {i j : Nat} {p2 pos : Pos} (hn : PE X o (tVar i)) : PE X (.Subscript o (.Constant (.int 0) j p2) pos) (RdE X ca W (oYngL i)) := PE.imp (pe_ix ix_tup hn pe_int (fun _ _ => rfl)) fun σ H Q ⟨θ, Z, ρ, L, r, q⟩ => by
  unfold oYngL at q
  split at q
  · rename_i ds e e1
    obtain ⟨F, L1, v, h1, h2, r1, nd, dz, iff, _⟩ := r.lift e1
    obtain ⟨b, x, y, rfl, rt, hx, mu, hy⟩ := h2.yng2_of
    obtain ⟨c, rfl⟩ : ∃ c, x = .ref c := by cases hx with | tup => exact ⟨_, rfl⟩
    exact ⟨_, h1, b, [.ref c, y], 0, .ref c, rfl, rfl, rt, rfl, q Z H L1 F _ r1 (.tmp (.yng hx mu) nd dz) ⟨fun _ _ e _ => e, fun _ z => z, fun _ z => .inl z, fun a ha => .inl ((iff a).mp ha)⟩⟩
  · exact q.elim
end

/-! ### lent to be read, then changed -/
def lfE (ρ : En) : Bool := ρ.all fun sl => match sl with
  | none => true
  | some (_, o) => lfP o
theorem lfE_get {ρ : En} (h : lfE ρ = true) {j : Nat} {p : Bool} {o : O} (e : ρ[j]? = some (some (p, o))) : lfP o = true := by
  unfold lfE at h
  rw [List.all_eq_true] at h
  exact h _ (List.mem_of_getElem? e)
open Classical in
noncomputable def sYngP (i : Nat) (mid rest : SS) : SS := fun ρ => match ρ[i]? with
  | some (some (true, .yng (.tuple [.list d0, .list d1]) none)) => if d0.length < 1000 ∧ d1.length < 1000 then match mid (ρ.set i (some (true, .val (.tuple [.list d0, .list d1])))) with
      | .nx ρ3 => if ρ3[i]? = some (some (true, .val (.tuple [.list d0, .list d1]))) ∧ lfE (ρ3.set i none) = true then rest (ρ3.set i (some (true, .junk))) else .stuck
      | .rt o ρ3 => .rt o ρ3
      | .exc c ρ3 => .exc c ρ3
      | _ => .stuck
    else .stuck
  | _ => .stuck
def ttXY (X : Cx) (ca : Nat → Addr) (W : WX) (i : Nat) (a b : Str) (rest : SS) : TS :=
  tSeq (tDrop (tBM X.K "list" rAppend (tOp (rIxT X.K) (tVar i) (tC (.int 0))) (tCons (tC (.str a)) tNil))) (tSeq (tDrop (tBM X.K "list" rAppend (tOp (rIxT X.K) (tVar i) (tC (.int 1))) (tCons (tC (.str b)) tNil))) (RdS X ca W rest))
section
variable {X : Cx} {ca : Nat → Addr} {W : WX} {mid rest : SS}
theorem ss_yngP {i : Nat} {a b : Str} {sts : List Stmt} (hm : PSs X sts (TKr X ca W mid (ttXY X ca W i a b rest))) : PSs X sts (RdS X ca W (sYngP i mid rest)) := PSs.imp hm fun Dn σ H ⟨θ, Z, ρ, L, r, q⟩ => by
  unfold sYngP at q
  split at q
  · rename_i d0 d1 e
    split at q
    · rename_i hlen
      obtain ⟨hl0, hl1⟩ := hlen
      obtain ⟨F, L1, v, hv, ro, r1, nd, dz, iff, hp⟩ := r.lift e
      obtain ⟨b0, rfl, h, mu⟩ := ro.yng_of
      have n1 := List.nodup_append.mp nd
      have hi : i < ρ.length := (List.getElem?_eq_some_iff.mp e).1
      have r2 : Rep θ (gx X ca) (fun a => Z a ∨ a ∈ F) H (ρ.set i none) σ L1 := ⟨r1.sl.kp (kp_up fun _ h => .inl h) fun _ _ _ e => e, r1.nd, fun a ha z => z.elim (r1.dis a ha) fun hf => n1.2.2 a hf a ha rfl, fun a z => z.elim (r1.zd a) fun hf => by
        obtain ⟨xs, e⟩ := mu a hf
        rw [e]; simp, r1.pn⟩
      obtain ⟨L2, r3, iff2⟩ := r2.back (i := i) (p := true) (o := .val (.tuple [.list d0, .list d1])) (v := .ref b0) (F := []) (by rw [List.getElem?_set_self hi]) hv (.val (h.sub fun _ h => .inr h)) (by simpa using r2.nd) (fun _ h => by cases h) (fun h => hp h)
      rw [List.set_set] at r3
      have sA : Step Z L H (fun a => Z a ∨ a ∈ F) L2 H := ⟨fun _ _ e _ => e, fun _ z => .inl z, fun a z => z.elim .inl fun hf => .inr (.inl ((iff a).mp (List.mem_append_left _ hf))), fun a ha => .inl ((iff a).mp (List.mem_append_right _ (by simpa using (iff2 a).mp ha)))⟩
      refine ⟨θ, _, _, L2, r3, ?_⟩
      cases em : mid (ρ.set i (some (true, .val (.tuple [.list d0, .list d1])))) with
      | stuck => rw [em] at q; exact q.elim
      | bk ρ3 => rw [em] at q; exact q.elim
      | ct ρ3 => rw [em] at q; exact q.elim
      | rt o ρ3 => rw [em] at q; exact q.step sA
      | exc c ρ3 => rw [em] at q; exact q.step sA
      | nx ρ3 =>
        rw [em] at q
        simp only at q
        split at q
        · rename_i hok
          obtain ⟨e3, hlf⟩ := hok
          intro Z3 H3 L3 σ3 r5 s5
          have k5 : Kp (fun a => Z a ∨ a ∈ F) X.K H Z3 H3 := s5.kp r3.sl.mut r3.dis
          have hv3 : σ3[i]? = some (some (.ref b0)) := by
            rw [r5.pn i _ e3, ← hp rfl]
          have FL : ∀ a ∈ F, a ∈ L := fun a ha => (iff a).mp (List.mem_append_left _ ha)
          have FZ3 : ∀ a ∈ F, Z3 a := fun a ha => k5.z a (.inr ha)
          have sT := sA.trans s5
          -- what comes behind
          have fin : ∀ H4, Chg (fun a => a ∈ F) H3 H4 → RdS X ca W rest Dn σ3 H4 := fun H4 hc => by
            obtain ⟨F6, L6, v6, hv6, ro6, r6, nd6, dz6, iff6, hp6⟩ := r5.lift e3
            have own : ∀ a ∈ L6, ∀ u, H3 a = some u → H4 a = some u := fun a ha u e => hc a u e fun ⟨hf, _⟩ => r6.dis a ha (FZ3 a hf)
            have S1 : RoS (gx X ca) (fun a => Z3 a ∧ a ∉ F) H4 (ρ3.set i none) σ3 L6 := r6.sl.slots fun j p o v F e1 e2 h1 h2 => h1.freeP hc.tk (lfE_get hlf e1) fun a ha u e => own a (h2 a ha) u e
            have r7 : Rep θ (gx X ca) (fun a => Z3 a ∧ a ∉ F) H4 (ρ3.set i none) σ3 L6 := ⟨S1, r6.nd, fun a ha z => r6.dis a ha z.1, (fun a z e => by
              cases q : H3 a with
              | none => exact r6.zd a z.1 q
              | some u => (rw [hc a u q fun ⟨hf, _⟩ => z.2 hf] at e; cases e)), r6.pn⟩
            have hi3 : i < ρ3.length := (List.getElem?_eq_some_iff.mp e3).1
            obtain ⟨L7, r8, iff8⟩ := r7.back (i := i) (p := true) (o := .junk) (v := .ref b0) (F := []) (by rw [List.getElem?_set_self hi3]) hv3 .junk (by simpa using r7.nd) (fun _ h => by cases h) (fun h => hp h)
            rw [List.set_set] at r8
            have s8 : Step Z L H (fun a => Z3 a ∧ a ∉ F) L7 H4 := ⟨fun a o e hn => hc a o (sT.keep a o e hn) fun ⟨hf, _⟩ => hn (FL a hf), fun a z => ⟨sT.zmono a z, fun hf => dz a hf z⟩, fun a z => sT.znew a z.1, fun a ha => sT.lnew a ((iff6 a).mp (List.mem_append_right _ (by simpa using (iff8 a).mp ha)))⟩
            exact ⟨θ, _, _, L7, r8, q.step s8⟩
          have dz3 : Dz (fun a => a ∈ F) X.K H3 (.tuple [.list d0, .list d1]) (.ref b0) := h.kp (kp_sub k5 fun _ h => .inr h)
          cases dz3 with
          | tup rt hA =>
            cases hA with
            | cons h0 t0 =>
              cases t0 with
              | cons h1 t1 =>
                cases t1
                cases h0 with
                | lst z0 e0 da0 =>
                  rename_i a0 ys0
                  cases h1 with
                  | lst z1 e1 da1 =>
                    rename_i a1 ys1
                    have z1000 : (1001 : Nat) < sizeLine := by decide
                    have l0 : ys0.length < 1000 := by rw [da0.length]; exact hl0
                    have l1 : ys1.length < 1000 := by rw [da1.length]; exact hl1
                    refine ⟨.ref b0, hv3, b0, _, 0, .ref a0, rfl, rfl, rt, rfl, .inl ⟨rfl, _, .inl (.inl e0)⟩, a0, ys0, .str a, rfl, rfl, e0, Nat.lt_trans l0 (by decide), ?_⟩
                    have c1 : Chg (fun a => a ∈ F) H3 (upd H3 a0 (.lst (ys0 ++ [.str a]))) := Chg.upd z0 e0
                    have rt2 := c1.tk.t _ _ rt
                    have at1 : ∃ ys, upd H3 a0 (.lst (ys0 ++ [.str a])) a1 = some (.lst ys) ∧ ys.length < sizeLine ∧ ∀ u, Chg (fun a => a ∈ F) H3 (upd (upd H3 a0 (.lst (ys0 ++ [.str a]))) a1 u) := by
                      have cc : ∀ u, Chg (fun a => a ∈ F) H3 (upd (upd H3 a0 (.lst (ys0 ++ [.str a]))) a1 u) := fun u c o ec hn => by
                        have n1 : c ≠ a1 := fun q => by
                          subst q
                          rw [e1] at ec
                          cases ec
                          exact hn ⟨z1, _, rfl⟩
                        rw [upd_ne n1]
                        exact c1 c o ec hn
                      by_cases qa : a1 = a0
                      · subst qa
                        exact ⟨_, upd_same, by rw [List.length_append, List.length_singleton]; exact Nat.lt_trans (Nat.add_lt_add_right l0 1) z1000, cc⟩
                      · exact ⟨ys1, by rw [upd_ne qa]; exact e1, Nat.lt_trans l1 (by decide), cc⟩
                    obtain ⟨ys, e4, l4, cc⟩ := at1
                    exact ⟨.ref b0, hv3, b0, _, 1, .ref a1, rfl, rfl, rt2, rfl, .inl ⟨rfl, _, .inl (.inl e4)⟩, a1, ys, .str b, rfl, rfl, e4, l4, fin _ (cc _)⟩
        · exact q.elim
    · exact q.elim
  · exact q.elim
theorem sy_XY {x a b : Str} {i j1 j2 j3 j4 : Nat} {px1 px2 p1 p2 p3 p4 p5 p6 ap1 ap2 c1 c2 s1 s2 : Pos} {sts : List Stmt} (hn1 : PE X (.Name x px1) (tVar i)) (hn2 : PE X (.Name x px2) (tVar i))
    (hb1 : attributeBase (.Subscript (.Name x px1) (.Constant (.int 0) j1 p1) p2) "append" X.env (eval (.Subscript (.Name x px1) (.Constant (.int 0) j1 p1) p2) X.env) = eval (.Subscript (.Name x px1) (.Constant (.int 0) j1 p1) p2) X.env)
    (hb2 : attributeBase (.Subscript (.Name x px2) (.Constant (.int 1) j2 p3) p4) "append" X.env (eval (.Subscript (.Name x px2) (.Constant (.int 1) j2 p3) p4) X.env) = eval (.Subscript (.Name x px2) (.Constant (.int 1) j2 p3) p4) X.env)
    (hl1 : (ap1.endLine == c1.line) = true) (hl2 : (ap2.endLine == c2.line) = true)
    (hs1 : swapsWith (.Call (.Attribute (.Subscript (.Name x px1) (.Constant (.int 0) j1 p1) p2) "append" ap1) [.Constant (.str a) j3 p5] [] c1) none s1.line X.env = pure false)
    (hs2 : swapsWith (.Call (.Attribute (.Subscript (.Name x px2) (.Constant (.int 1) j2 p3) p4) "append" ap2) [.Constant (.str b) j4 p6] [] c2) none s2.line X.env = pure false)
    (hr : PSs X sts (RdS X ca W rest)) : PSs X (.Expr (.Call (.Attribute (.Subscript (.Name x px1) (.Constant (.int 0) j1 p1) p2) "append" ap1) [.Constant (.str a) j3 p5] [] c1) s1 :: .Expr (.Call (.Attribute (.Subscript (.Name x px2) (.Constant (.int 1) j2 p3) p4) "append" ap2) [.Constant (.str b) j4 p6] [] c2) s2 :: sts) (ttXY X ca W i a b rest) :=
  pss_cons (ps_expr (pe_bm PySem.F.plainAttrs_list PySem.F.slot_list_append PySem.F.type_list_append mt_append (pe_ix ix_tup hn1 pe_int (fun _ _ => rfl)) (pa_cons pe_str pa_nil) hb1 rfl hl1) hs1)
    (pss_cons (ps_expr (pe_bm PySem.F.plainAttrs_list PySem.F.slot_list_append PySem.F.type_list_append mt_append (pe_ix ix_tup hn2 pe_int (fun _ _ => rfl)) (pa_cons pe_str pa_nil) hb2 rfl hl2) hs2) hr)
end
end Eng
set_option maxHeartbeats 1000000
/-! The engine, part 59: a list of the frame's own, lent into an expression that tells nothing of it. -/
namespace Eng
open PySem PySem.Spec L2
open PyProof.Rows hiding St
def lfOwn (ρ : En) : Bool := ρ.all fun sl => match sl with
  | none => true
  | some (_, o) => !o.own || lfP o
theorem lfOwn_get {ρ : En} (h : lfOwn ρ = true) {j : Nat} {p : Bool} {o : O} (e : ρ[j]? = some (some (p, o))) (ho : o.own = true) : lfP o = true := by
  unfold lfOwn at h
  rw [List.all_eq_true] at h
  have := h _ (List.mem_of_getElem? e)
  simpa [ho] using this
open Classical in
noncomputable def oLend (j : Nat) (f : ES) : ES := fun ρ => match ρ[j]? with
  | some (some (p, .lst ds)) => if lfOwn (ρ.set j none) = true then match f (ρ.set j (some (p, .val (.list ds)))) with
      | .ok (.tmp (.val d)) ρ' => if ρ' = ρ.set j (some (p, .val (.list ds))) ∧ lfD d = true then .ok (.tmp (.val d)) ρ else .stuck
      | _ => .stuck
    else .stuck
  | _ => .stuck
section
variable {X : Cx} {ca : Nat → Addr} {W : WX} {f : ES}
theorem se_lend {e : Expr} {j : Nat} (he : PE X e (RdE X ca W f)) : PE X e (RdE X ca W (oLend j f)) := PE.imp he fun σ H Q ⟨θ, Z, ρ, L, r, q⟩ => by
  unfold oLend at q
  split at q
  · rename_i p ds e
    split at q
    · rename_i hlf
      obtain ⟨F, L1, v, hv, ro, r1, nd, dz, iff, hp⟩ := r.lift e
      obtain ⟨a, xs, rfl, rfl, ea, da⟩ := ro.single
      have n1 := List.nodup_append.mp nd
      have hi : j < ρ.length := (List.getElem?_eq_some_iff.mp e).1
      have aL1 : a ∉ L1 := fun h => n1.2.2 a List.mem_cons_self a h rfl
      have aL : a ∈ L := (iff a).mp (List.mem_append_left _ List.mem_cons_self)
      have L1L : ∀ b ∈ L1, b ∈ L := fun b hb => (iff b).mp (List.mem_append_right _ hb)
      have r2 : Rep θ (gx X ca) (ZAdd Z a) H (ρ.set j none) σ L1 := ⟨r1.sl.kp (kp_up fun _ h => .inl h) fun _ _ _ e => e, r1.nd, fun b hb z => z.elim (r1.dis b hb) fun h => aL1 (h ▸ hb), fun b z => z.elim (r1.zd b) fun h => by rw [h, ea]; simp, r1.pn⟩
      obtain ⟨L3, r3, iff3⟩ := r2.back (i := j) (p := p) (o := .val (.list ds)) (v := .ref a) (F := []) (by rw [List.getElem?_set_self hi]) hv (.val (.lst (.inr rfl) ea (da.sub fun _ h => .inl h))) (by simpa using r2.nd) (fun _ h => by cases h) hp
      rw [List.set_set] at r3
      have L3L : ∀ b ∈ L3, b ∈ L := fun b hb => L1L b (by simpa using (iff3 b).mp hb)
      refine ⟨θ, _, _, L3, r3, ?_⟩
      cases ef : f (ρ.set j (some (p, .val (.list ds)))) with
      | stuck => rw [ef] at q; exact q.elim
      | exc c ρ' => rw [ef] at q; exact q.elim
      | ok pp ρ' =>
        rw [ef] at q
        try simp only at q
        split at q
        · rename_i d ρ'' e0
          simp only [Out.ok.injEq] at e0
          obtain ⟨rfl, rfl⟩ := e0
          split at q
          · rename_i hok
            obtain ⟨hρ, hd⟩ := hok
            intro Z' H' L' F v' r' h' s'
            have h1 := h'.one
            cases h1 with
            | val dzd =>
              rw [List.nil_append] at s'
              have kp := s'.kp (K := X.K) r3.sl.mut r3.dis
              have kz : Kp Z X.K H Z H' := ⟨fun _ z => z, fun b xs z e => kp.r b xs (.inl z) e, kp.t, kp.f, kp.g⟩
              have e' : ρ'[j]? = some (some (p, .val (.list ds))) := by rw [hρ, List.getElem?_set_self hi]
              obtain ⟨F6, L6, v6, hv6, ro6, r6, nd6, dz6, iff6, hp6⟩ := r'.lift e'
              rw [hρ, List.set_set] at r6
              have S1 : RoS (gx X ca) Z H' (ρ.set j none) σ L6 := r6.sl.slots fun i p' o v F e1 e2 h1 h2 => by
                cases ho : o.own with
                | true => exact h1.freeP tk_refl (lfOwn_get hlf e1 ho) fun _ _ _ e => e
                | false =>
                  obtain ⟨v0, F0, g1, g2, _⟩ := r1.sl.get e1
                  rw [e2] at g1
                  cases g1
                  cases h1 with
                  | val _ =>
                    cases g2 with
                    | val g => exact .val (g.kp kz)
                  | scr g => exact .scr g
                  | _ => cases ho
              have r7 : Rep θ (gx X ca) Z H' (ρ.set j none) σ L6 := ⟨S1, r6.nd, fun b hb z => r6.dis b hb (kp.z b (.inl z)), (fun b z e => by
                cases q : H b with
                | none => exact r.zd b z q
                | some u => (rw [s'.keep b u q fun h => r3.dis b h (.inl z)] at e; cases e)), r6.pn⟩
              have ea' : H' a = some (.lst xs) := kp.r a xs (.inr rfl) ea
              have a6 : a ∉ L6 := fun h => r6.dis a h (kp.z a (.inr rfl))
              obtain ⟨L8, r8, iff8⟩ := r7.back (i := j) (p := p) (o := .lst ds) (v := .ref a) (F := [a]) (by rw [List.getElem?_set_self hi]) hv (.lst ea' (da.kp kz)) (List.nodup_append.mpr ⟨by simp, r7.nd, fun b hb c hc q => by rw [List.mem_singleton] at hb; subst hb; subst q; exact a6 hc⟩) (fun b hb => by rw [List.mem_singleton] at hb; subst hb; exact dz _ (by simp)) hp
              rw [List.set_set, set_back e] at r8
              refine q Z H' L8 [] v' r8 (.tmp (.val (dzd.free tk_refl hd)) r8.nd fun _ h => by cases h) ⟨fun b o eb hn => s'.keep b o eb fun h => hn (L3L b h), fun _ z => z, fun _ z => .inl z, fun b hb => ?_⟩
              rcases List.mem_append.mp ((iff8 b).mp (by simpa using hb)) with hb | hb
              · rw [List.mem_singleton] at hb
                subst hb
                exact .inl aL
              · rcases s'.lnew b ((iff6 b).mp (List.mem_append_right _ hb)) with h | h
                · exact .inl (L3L b h)
                · exact .inr h
          · exact q.elim
        · exact q.elim
    · exact q.elim
  · exact q.elim
end
end Eng
/-! The readings of the program's and the laws' defs (printed by wip/gen.py). -/
namespace Eng
open PySem PySem.Spec L2
open PyProof.Rows hiding St
/-- is_stem(text): 0 text 1 sign -/
noncomputable def c_is_stem_1 : ES :=
  oLc (iSeq (oNm 0)) (.nm 1) (tTrue) (o2 inS (oNm 1) (oC (.str "abcdefghijklmnopqrstuvwxyz"))) [1]
noncomputable def b_is_stem : SS :=
  (sRet (oAnd (oChain leS leS (oC (.int 1)) (o1 lenS (oNm 0)) (oC (.int 8))) (o1 allS (c_is_stem_1))))
noncomputable def f_is_stem : FSem := runF 2 b_is_stem
/-- is_number(text): 0 text 1 sign -/
noncomputable def c_is_number_1 : ES :=
  oLc (iSeq (oNm 0)) (.nm 1) (tTrue) (o2 inS (oNm 1) (oC (.str "0123456789"))) [1]
noncomputable def b_is_number : SS :=
  (sSeq (sIf (tOrC (tNotC (tV (oChain leS leS (oC (.int 1)) (o1 lenS (oNm 0)) (oC (.int 2))))) (tNotC (tV (o1 allS (c_is_number_1)))))
    (sRet (oC (.bool false)))
    sNil)
  (sRet (oAnd (o2 neS (o2 ixS (oNm 0) (oC (.int 0))) (oC (.str "0"))) (o2 neS (oNm 0) (oC (.str "1"))))))
noncomputable def f_is_number : FSem := runF 2 b_is_number
/-- is_word(text): 0 text 1 parts -/
noncomputable def b_is_word : SS :=
  (sSeq (sAsg 1 (oM1 splitS (oNm 0) (oC (.str "/"))))
  (sSeq (sIf (tNotC (tV (oCall f_is_stem (oAs [o2 ixS (oNm 1) (oC (.int 0))]))))
    (sRet (oC (.bool false)))
    sNil)
  (sRet (oOr (o2 eqS (o1 lenS (oNm 1)) (oC (.int 1))) (oAnd (o2 eqS (o1 lenS (oNm 1)) (oC (.int 2))) (oCall f_is_number (oAs [o2 ixS (oNm 1) (oC (.int 1))])))))))
noncomputable def f_is_word : FSem := runF 2 b_is_word
/-- _law_mix(_law_cell_here, _law_k): 0 _law_cell_here 1 _law_k 2 _law_by -/
noncomputable def b_l_mix : SS :=
  (sSeq (sAsg 2 (o2 addS (o2 addS (o2 mulS (o2 addS (o2 modS (oNm 0) (o2 powS (oC (.int 10)) (oC (.int 15)))) (oC (.int 1))) (oC (.int 48271))) (o2 mulS (o2 mulS (oNm 1) (oNm 1)) (oC (.int 16807)))) (o2 mulS (oNm 1) (oC (.int 7919)))))
  (sRet (o2 modS (o2 mulS (o2 modS (oNm 2) (oC (.int 2147483647))) (oC (.int 69621))) (oC (.int 2147483629)))))
noncomputable def f_l_mix : FSem := runF 3 b_l_mix
/-- _law_cell(_law_script, _law_k): 0 _law_script 1 _law_k 2 _law_seed -/
noncomputable def b_l_cell : SS :=
  (sSeq (sIf (tV (o2 ltS (oNm 1) (o1 lenS (oNm 0))))
    (sRet (o2 ixS (oNm 0) (oNm 1)))
    sNil)
  (sSeq (sAsg 2 (oC (.int 0)))
  (sSeq (sIf (tV (o2 gtS (o1 lenS (oNm 0)) (oC (.int 0))))
    (sAsg 2 (o2 ixS (oNm 0) (o2 modS (oNm 1) (o1 lenS (oNm 0)))))
    sNil)
  (sRet (o2 addS (o2 mulS (oC (.int 2)) (oCall f_l_mix (oAs [oNm 2, oNm 1]))) (oC (.int 1)))))))
noncomputable def f_l_cell : FSem := runF 3 b_l_cell
/-- _law_drawn(_law_cell_here, _law_many): 0 _law_cell_here 1 _law_many 2 _law_found 3 _law_left 4 _law_k -/
noncomputable def w_l_drawn_1 : SS :=
  (sIf (tV (o2 eqS (o2 modS (oNm 0) (oC (.int 2))) (oC (.int 0))))
      (sSeq (sExpr (oMutA appS 2 (oAs [o2 modS (oNm 3) (oC (.int 64))])))
      (sAsg 3 (o2 fdivS (oNm 3) (oC (.int 64)))))
      (sExpr (oMutA appS 2 (oAs [o2 modS (o2 fdivS (oCall f_l_mix (oAs [oNm 0, oNm 4])) (oC (.int 7))) (oC (.int 4096))]))))
noncomputable def b_l_drawn : SS :=
  (sSeq (sAsg 2 (oLst (oAs [])))
  (sSeq (sAsg 3 (o2 fdivS (oNm 0) (oC (.int 2))))
  (sSeq (sFor (iRng1 (oAs [oNm 1])) (.nm 4) [4]
    w_l_drawn_1)
  (sRet (oNm 2)))))
noncomputable def f_l_drawn : FSem := runF 5 b_l_drawn
/-- alike(row, other): 0 row 1 other -/
noncomputable def b_alike : SS :=
  (sRet (oAnd (o2 eqS (o2 ixS (oNm 0) (oC (.int 0))) (o2 ixS (oNm 1) (oC (.int 0)))) (o2 eqS (o1 sortS (o2 ixS (oNm 0) (oC (.int 1)))) (o1 sortS (o2 ixS (oNm 1) (oC (.int 1)))))))
noncomputable def f_alike : FSem := runF 2 b_alike
/-- _law_name(_law_drawn_here, _law_names_here): 0 _law_drawn_here 1 _law_names_here 2 _law_letters 3 _law_name_here 4 _law_spare 5 _law_stem 6 _law_k 7 _law_one -/
noncomputable def c_l_name_1 : ES :=
  oLc (iRng1 (oAs [o2 addS (oC (.int 1)) (o2 modS (o2 ixS (oNm 0) (oC (.int 0))) (oC (.int 8)))])) (.nm 6) (tTrue) (o2 ixS (oNm 2) (o2 modS (o2 ixS (oNm 0) (o2 addS (oC (.int 4)) (oNm 6))) (oC (.int 26)))) [6]
noncomputable def c_l_name_2 : ES :=
  oLc (iRng1 (oAs [oC (.int 40)])) (.nm 6) (tTrue) (o2 addS (o2 ixS (oNm 2) (o2 fdivS (oNm 6) (oC (.int 26)))) (o2 ixS (oNm 2) (o2 modS (oNm 6) (oC (.int 26))))) [6]
noncomputable def c_l_name_3 : ES :=
  oLc (iSeq (oNm 4)) (.nm 7) (tV (o2 notinS (oNm 7) (oNm 1))) (oNm 7) [7]
noncomputable def b_l_name : SS :=
  (sSeq (sAsg 2 (oC (.str "abcdefghijklmnopqrstuvwxyz")))
  (sSeq (sAsg 3 (oM1 joinS (oC (.str "")) (c_l_name_1)))
  (sSeq (sIf (tV (o2 gtS (o1 lenS (oNm 1)) (oC (.int 0))))
    (sSeq (sAsg 5 (o2 ixS (oM1 splitS (o2 ixS (oNm 1) (o2 modS (o2 ixS (oNm 0) (oC (.int 1))) (o1 lenS (oNm 1)))) (oC (.str "/"))) (oC (.int 0))))
    (sSeq (sIf (tV (o2 eqS (o2 modS (o2 ixS (oNm 0) (oC (.int 2))) (oC (.int 4))) (oC (.int 1))))
      (sAsg 3 (oSl (o2 addS (oNm 5) (oNm 3)) oNoPart (oPart (oC (.int 8)))))
      sNil)
    (sIf (tV (o2 eqS (o2 modS (o2 ixS (oNm 0) (oC (.int 2))) (oC (.int 4))) (oC (.int 2))))
      (sAsg 3 (o2 addS (o2 addS (oNm 5) (oC (.str "/"))) (o1 strS (o2 addS (oC (.int 2)) (o2 modS (o2 ixS (oNm 0) (oC (.int 3))) (oC (.int 98)))))))
      sNil)))
    sNil)
  (sSeq (sAsg 4 (o2 addS (oLst (oAs [oNm 3])) (c_l_name_2)))
  (sRet (o2 ixS (c_l_name_3) (oC (.int 0))))))))
noncomputable def f_l_name : FSem := runF 8 b_l_name
/-- _law_names(_law_script, _law_base, _law_many): 0 _law_script 1 _law_base 2 _law_many 3 _law_names_here 4 _law_k -/
noncomputable def w_l_names_1 : SS :=
  (sExpr (oMutA appS 3 (oAs [oCall f_l_name (oAs [oCall f_l_drawn (oAs [oCall f_l_cell (oAs [oNm 0, o2 addS (oNm 1) (oNm 4)]), oC (.int 12)]), oNm 3])])))
noncomputable def b_l_names : SS :=
  (sSeq (sAsg 3 (oLst (oAs [])))
  (sSeq (sFor (iRng1 (oAs [oNm 2])) (.nm 4) [4]
    w_l_names_1)
  (sRet (oNm 3))))
noncomputable def f_l_names : FSem := runF 5 b_l_names
/-- _law_told(_law_drawn_here, _law_names_here): 0 _law_drawn_here 1 _law_names_here 2 _law_top 3 _law_told_here 4 _law_k 5 _law_one -/
noncomputable def w_l_told_1 : SS :=
  (sSeq (sAsg 5 (o2 ixS (oNm 1) (o2 modS (o2 ixS (oNm 0) (o2 addS (oC (.int 3)) (oNm 4))) (oNm 2))))
    (sIf (tV (o2 notinS (oNm 5) (oNm 3)))
      (sExpr (oMutA appS 3 (oAs [oNm 5])))
      sNil))
noncomputable def b_l_told : SS :=
  (sSeq (sAsg 2 (o1 lenS (oNm 1)))
  (sSeq (sIf (tAndC (tV (o2 gtS (o2 modS (o2 ixS (oNm 0) (oC (.int 2))) (oC (.int 3))) (oC (.int 0)))) (tV (o2 gtS (o2 modS (o2 ixS (oNm 0) (oC (.int 0))) (o1 lenS (oNm 1))) (oC (.int 0)))))
    (sAsg 2 (o2 modS (o2 ixS (oNm 0) (oC (.int 0))) (o1 lenS (oNm 1))))
    sNil)
  (sSeq (sAsg 3 (oLst (oAs [])))
  (sSeq (sFor (iRng1 (oAs [o2 ixS (oLst (oAs [oC (.int 0), oC (.int 0), oC (.int 1), oC (.int 1), oC (.int 1), oC (.int 2), oC (.int 2), oC (.int 2), oC (.int 3), oC (.int 8)])) (o2 modS (o2 ixS (oNm 0) (oC (.int 1))) (oC (.int 10)))])) (.nm 4) [4, 5]
    w_l_told_1)
  (sRet (o1 tupleS (oNm 3)))))))
noncomputable def f_l_told : FSem := runF 6 b_l_told
/-- is_row(word, told): 0 word 1 told 2 one -/
noncomputable def c_is_row_1 : ES :=
  oLc (iSeq (oNm 1)) (.nm 2) (tTrue) (oCall f_is_word (oAs [oNm 2])) [2]
noncomputable def b_is_row : SS :=
  (sSeq (sIf (tOrC (tNotC (tV (oCall f_is_word (oAs [oNm 0])))) (tOrC (tV (o2 gtS (o1 lenS (oNm 1)) (oC (.int 8)))) (tV (o2 ltS (o1 lenS (o1 setC (oNm 1))) (o1 lenS (oNm 1))))))
    (sRet (oC (.bool false)))
    sNil)
  (sRet (o1 allS (c_is_row_1))))
noncomputable def f_is_row : FSem := runF 3 b_is_row
/-- fits(book): 0 book 1 seen 2 word 3 told 4 key -/
noncomputable def w_fits_1 : SS :=
  (sSeq (sAsg 4 (oTup (oAs [oNm 2, o1 tupleS (o1 sortS (oNm 3))])))
    (sSeq (sIf (tOrC (tNotC (tV (oCall f_is_row (oAs [oNm 2, oNm 3])))) (tV (o2 inS (oNm 4) (oNm 1))))
      (sRet (oC (.bool false)))
      sNil)
    (sPut 1 (oNm 4) (oC (.bool true)))))
noncomputable def b_fits : SS :=
  (sSeq (sIf (tV (o2 gtS (o1 lenS (oNm 0)) (oC (.int 60))))
    (sRet (oC (.bool false)))
    sNil)
  (sSeq (sAsg 1 (oDic0))
  (sSeq (sFor (iSeq (oNm 0)) (.tup [2, 3]) [2, 3, 4]
    w_fits_1)
  (sRet (oC (.bool true))))))
noncomputable def f_fits : FSem := runF 5 b_fits
/-- next_round(book, known): 0 book 1 known 2 fresh 3 word 4 told 5 one -/
noncomputable def c_next_round_1 : ES :=
  oLc (iSeq (oNm 4)) (.nm 5) (tTrue) (o2 inS (oNm 5) (oNm 1)) [5]
noncomputable def w_next_round_1 : SS :=
  (sIf (tAndC (tV (o2 notinS (oNm 3) (oNm 1))) (tV (o1 allS (c_next_round_1))))
      (sPut 2 (oNm 3) (oC (.bool true)))
      sNil)
noncomputable def b_next_round : SS :=
  (sSeq (sAsg 2 (oDic0))
  (sSeq (sFor (iSeq (oNm 0)) (.tup [3, 4]) [3, 4]
    w_next_round_1)
  (sRet (o1 sortS (oNm 2)))))
noncomputable def f_next_round : FSem := runF 6 b_next_round
/-- rounds(book): 0 book 1 known 2 found 3 fresh 4 word 5 row -/
noncomputable def c_rounds_1 : ES :=
  oLc (iSeq (oNm 0)) (.nm 5) (tV (o2 eqS (o1 lenS (o2 ixS (oNm 5) (oC (.int 1)))) (oC (.int 0)))) (o2 ixS (oNm 5) (oC (.int 0))) [5]
noncomputable def c_rounds_2 : ES :=
  oLc (iSeq (o1 sortS (o1 setC (c_rounds_1)))) (.nm 4) (tTrue) (oNm 4) [4]
noncomputable def w_rounds_2 : SS :=
  (sPut 1 (oNm 4) (oC (.bool true)))
noncomputable def t_rounds_1 : TS' :=
  tV (o2 gtS (o1 lenS (oNm 3)) (oC (.int 0)))
noncomputable def w_rounds_1 : SS :=
  (sSeq (sExpr (oMutA appS 2 (oAs [oNm 3])))
    (sSeq (sFor (iSeq (oNm 3)) (.nm 4) [4]
      w_rounds_2)
    (sAsg 3 (oCall f_next_round (oAs [oNm 0, oNm 1])))))
noncomputable def b_rounds : SS :=
  (sSeq (sAsg 1 (oDic0))
  (sSeq (sAsg 2 (oLst (oAs [])))
  (sSeq (sAsg 3 (c_rounds_2))
  (sSeq (sWhile (t_rounds_1) [4]
    w_rounds_1)
  (sRet (oNm 2))))))
noncomputable def f_rounds : FSem := runF 6 b_rounds
/-- learnt(book): 0 book 1 found 2 some -/
noncomputable def w_learnt_1 : SS :=
  (sAsg 1 (o2 addS (oNm 1) (oNm 2)))
noncomputable def b_learnt : SS :=
  (sSeq (sAsg 1 (oLst (oAs [])))
  (sSeq (sFor (iSeq (oCall f_rounds (oAs [oNm 0]))) (.nm 2) [2]
    w_learnt_1)
  (sRet (o1 sortS (oNm 1)))))
noncomputable def f_learnt : FSem := runF 3 b_learnt
/-- without_some(words, others): 0 words 1 others 2 word -/
noncomputable def c_without_some_1 : ES :=
  oLc (iSeq (oNm 0)) (.nm 2) (tV (o2 notinS (oNm 2) (oNm 1))) (oNm 2) [2]
noncomputable def b_without_some : SS :=
  (sRet (c_without_some_1))
noncomputable def f_without_some : FSem := runF 3 b_without_some
/-- _law_learnt(_law_rows): 0 _law_rows 1 _law_known 2 _law_grown 3 _law_word 4 _law_told_here 5 _law_one -/
noncomputable def c_l_learnt_2_1 : ES :=
  oLc (iSeq (oNm 4)) (.nm 5) (tTrue) (o2 inS (oNm 5) (oNm 1)) [5]
noncomputable def w_l_learnt_2_2 : SS :=
  (sIf (tAndC (tV (o2 notinS (oNm 3) (oNm 1))) (tV (o1 allS (c_l_learnt_2_1))))
        (sSeq (sPut 1 (oNm 3) (oC (.bool true)))
        (sAsg 2 (oC (.bool true))))
        sNil)
noncomputable def t_l_learnt_2_1 : TS' :=
  tV (oNm 2)
noncomputable def w_l_learnt_2_1 : SS :=
  (sSeq (sAsg 2 (oC (.bool false)))
    (sFor (iSeq (oNm 0)) (.tup [3, 4]) [3, 4]
      w_l_learnt_2_2))
noncomputable def b_l_learnt_2 : SS :=
  (sSeq (sAsg 1 (oDic0))
  (sSeq (sAsg 2 (oC (.bool true)))
  (sSeq (sWhile (t_l_learnt_2_1) [3, 4]
    w_l_learnt_2_1)
  (sRet (o1 sortS (oNm 1))))))
noncomputable def f_l_learnt_2 : FSem := runF 6 b_l_learnt_2
/-- _law_stands(_law_rows, _law_row): 0 _law_rows 1 _law_row 2 _law_one -/
noncomputable def c_l_stands_1 : ES :=
  oLc (iSeq (oNm 0)) (.nm 2) (tAndC (tV (o2 eqS (o2 ixS (oNm 2) (oC (.int 0))) (o2 ixS (oNm 1) (oC (.int 0))))) (tV (o2 eqS (o1 sortS (o2 ixS (oNm 2) (oC (.int 1)))) (o1 sortS (o2 ixS (oNm 1) (oC (.int 1))))))) (oNm 2) [2]
noncomputable def b_l_stands : SS :=
  (sRet (o2 neS (c_l_stands_1) (oLst (oAs []))))
noncomputable def f_l_stands : FSem := runF 3 b_l_stands
end Eng
/-! The readings of the program's and the laws' defs (printed by wip/gen.py). -/
namespace Eng
open PySem PySem.Spec L2
open PyProof.Rows hiding St
end Eng
/-! The readings of the program's and the laws' defs (printed by wip/gen.py). -/
namespace Eng
open PySem PySem.Spec L2
open PyProof.Rows hiding St
end Eng
/-! The readings of the program's and the laws' defs (printed by wip/gen.py). -/
namespace Eng
open PySem PySem.Spec L2
open PyProof.Rows hiding St
end Eng
/-! The readings of the program's and the laws' defs (printed by wip/gen.py). -/
namespace Eng
open PySem PySem.Spec L2
open PyProof.Rows hiding St
/-- Shelf.__init__(self): 0 self -/
noncomputable def b_Shelf_init : SS :=
  (sSeq (sFld 9 0 "now" (oTup (oAs [])))
  (sFld 9 0 "past" (oLst (oAs []))))
noncomputable def f_Shelf_init : FSem := runF 1 b_Shelf_init
/-- Shelf.turned(self, book): 0 self 1 book 2 ahead 3 behind -/
noncomputable def b_Shelf_turned : SS :=
  (sSeq (sAsg 2 (oCall f_learnt (oAs [oFld 9 0 "now"])))
  (sSeq (sAsg 3 (oCall f_learnt (oAs [oNm 1])))
  (sSeq (sFld 9 0 "now" (oNm 1))
  (sRet (oTup (oAs [oCall f_without_some (oAs [oNm 3, oNm 2]), oCall f_without_some (oAs [oNm 2, oNm 3])]))))))
noncomputable def f_Shelf_turned : FSem := runF 4 b_Shelf_turned
/-- Shelf.back(self): 0 self -/
noncomputable def b_Shelf_back : SS :=
  (sSeq (sIf (tV (oFldU (fun o => eqS o (.lst [])) 9 0 "past"))
    (sRaise 8)
    sNil)
  (sRet (oMeth 9 0 "turned" f_Shelf_turned [oFldPop 9 0 "past"])))
noncomputable def f_Shelf_back : FSem := runF 1 b_Shelf_back
/-- Shelf.book(self): 0 self -/
noncomputable def b_Shelf_book : SS :=
  (sRet (oFld 9 0 "now"))
noncomputable def f_Shelf_book : FSem := runF 1 b_Shelf_book
/-- Shelf.learnt_now(self): 0 self -/
noncomputable def b_Shelf_learnt_now : SS :=
  (sRet (oCall f_learnt (oAs [oFld 9 0 "now"])))
noncomputable def f_Shelf_learnt_now : FSem := runF 1 b_Shelf_learnt_now
/-- Shelf.deeds(self): 0 self -/
noncomputable def b_Shelf_deeds : SS :=
  (sRet (oFldU lenS 9 0 "past"))
noncomputable def f_Shelf_deeds : FSem := runF 1 b_Shelf_deeds
/-- _law_right(_law_shelf, _law_rows, _law_past): 0 _law_shelf 1 _law_rows 2 _law_past 3 _law_book 4 _law_row 5 _law_known 6 _law_deeds -/
noncomputable def w_l_right_12_1 : SS :=
  (sIf (tOrC (tNotC (tV (o1 (isiS "tuple") (oNm 4)))) (tNotC (tV (o1 (isiS "tuple") (o2 ixS (oNm 4) (oC (.int 1)))))))
      (sRet (oC (.bool false)))
      sNil)
noncomputable def b_l_right_12 : SS :=
  (sSeq (sAsg 3 (oMeth 9 0 "book" f_Shelf_book []))
  (sSeq (sIf (tOrC (tNotC (tV (o1 (isiS "tuple") (oNm 3)))) (tV (o2 neS (oNm 3) (o1 tupleS (oNm 1)))))
    (sRet (oC (.bool false)))
    sNil)
  (sSeq (sFor (iSeq (oNm 3)) (.nm 4) [4]
    w_l_right_12_1)
  (sSeq (sAsg 5 (oMeth 9 0 "learnt_now" f_Shelf_learnt_now []))
  (sSeq (sIf (tOrC (tNotC (tV (o1 (isiS "list") (oNm 5)))) (tV (o2 neS (oNm 5) (oCall f_l_learnt_2 (oAs [oNm 1])))))
    (sRet (oC (.bool false)))
    sNil)
  (sSeq (sExpr (oMutA appS 5 (oAs [oC (.str "x")])))
  (sSeq (sAsg 6 (oMeth 9 0 "deeds" f_Shelf_deeds []))
  (sRet (oAnd (o1 (isiS "int") (oNm 6)) (oAnd (oNot (o1 (isiS "bool") (oNm 6))) (o2 eqS (oNm 6) (o1 lenS (oNm 2)))))))))))))
noncomputable def f_l_right_12 : FSem := runF 7 b_l_right_12
end Eng
/-! The readings of the program's and the laws' defs (printed by wip/gen.py). -/
namespace Eng
open PySem PySem.Spec L2
open PyProof.Rows hiding St
end Eng
/-! The readings of the program's and the laws' defs (printed by wip/gen.py). -/
namespace Eng
open PySem PySem.Spec L2
open PyProof.Rows hiding St
end Eng
/-! The readings of the program's and the laws' defs (printed by wip/gen.py). -/
namespace Eng
open PySem PySem.Spec L2
open PyProof.Rows hiding St
end Eng
/-! The readings of the program's and the laws' defs (printed by wip/gen.py). -/
namespace Eng
open PySem PySem.Spec L2
open PyProof.Rows hiding St
end Eng
/-! The readings of the program's and the laws' defs (printed by wip/gen.py). -/
namespace Eng
open PySem PySem.Spec L2
open PyProof.Rows hiding St
end Eng
/-! The readings of the program's and the laws' defs (printed by wip/gen.py). -/
namespace Eng
open PySem PySem.Spec L2
open PyProof.Rows hiding St
end Eng
/-! The readings of the program's and the laws' defs (printed by wip/gen.py). -/
namespace Eng
open PySem PySem.Spec L2
open PyProof.Rows hiding St
end Eng
/-! The readings of the program's and the laws' defs (printed by wip/gen.py). -/
namespace Eng
open PySem PySem.Spec L2
open PyProof.Rows hiding St
end Eng
/-! The readings of the program's and the laws' defs (printed by wip/gen.py). -/
namespace Eng
open PySem PySem.Spec L2
open PyProof.Rows hiding St
end Eng
/-! The readings of the program's and the laws' defs (printed by wip/gen.py). -/
namespace Eng
open PySem PySem.Spec L2
open PyProof.Rows hiding St
/-- Shelf.place_of(self, word, told): 0 self 1 word 2 told 3 place -/
noncomputable def w_Shelf_place_of_2_1 : SS :=
  (sIf (tV (oLend 2 (oCall f_alike (oAs [o2 ixS (oFld 9 0 "now") (oNm 3), oTup (oAs [oNm 1, oNm 2])]))))
      (sRet (oNm 3))
      sNil)
noncomputable def b_Shelf_place_of_2 : SS :=
  (sSeq (sFor (iRng1 (oAs [o1 lenS (oFld 9 0 "now")])) (.nm 3) [3]
    w_Shelf_place_of_2_1)
  (sRet (oC .none)))
noncomputable def f_Shelf_place_of_2 : FSem := runF 4 b_Shelf_place_of_2
/-- Shelf.put(self, word, told): 0 self 1 word 2 told 3 row -/
noncomputable def b_Shelf_put_3 : SS :=
  (sSeq (sAsg 3 (oTup (oAs [oNm 1, o1 tupleS (oNm 2)])))
  (sSeq (sIf (tOrC (tNotC (tV (oCall f_fits (oAs [oTup (oAs [oNm 3])])))) (tV (o2 isnotS (oMeth 9 0 "place_of" f_Shelf_place_of_2 [oNm 1, oNm 2]) (oC .none))))
    (sRaise 2)
    sNil)
  (sSeq (sIf (tV (o2 geS (o1 lenS (oFld 9 0 "now")) (oC (.int 60))))
    (sRaise 5)
    sNil)
  (sSeq (sFldApp 9 0 "past" "now")
  (sRet (oMeth 9 0 "turned" f_Shelf_turned [o2 addS (oFld 9 0 "now") (oTup (oAs [oNm 3]))]))))))
noncomputable def f_Shelf_put_3 : FSem := runF 4 b_Shelf_put_3
/-- Shelf.take(self, word, told): 0 self 1 word 2 told 3 place -/
noncomputable def b_Shelf_take_2 : SS :=
  (sSeq (sAsg 3 (oMeth 9 0 "place_of" f_Shelf_place_of_2 [oNm 1, oNm 2]))
  (sSeq (sIf (tV (o2 isS (oNm 3) (oC .none)))
    (sRaise 7)
    sNil)
  (sSeq (sFldApp 9 0 "past" "now")
  (sRet (oMeth 9 0 "turned" f_Shelf_turned [o2 addS (oSl (oFld 9 0 "now") oNoPart (oPart (oNm 3))) (oSl (oFld 9 0 "now") (oPart (o2 addS (oNm 3) (oC (.int 1)))) oNoPart)])))))
noncomputable def f_Shelf_take_2 : FSem := runF 4 b_Shelf_take_2
/-- _law_turn_right(_law_turn, _law_ahead, _law_behind): 0 _law_turn 1 _law_ahead 2 _law_behind 3 _law_gained 4 _law_lost 5 _law_right_here 6 _law_word -/
noncomputable def c_l_turn_right_2_1 : ES :=
  oLc (iSeq (oNm 2)) (.nm 6) (tV (o2 notinS (oNm 6) (oNm 1))) (oNm 6) [6]
noncomputable def c_l_turn_right_2_2 : ES :=
  oLc (iSeq (oNm 1)) (.nm 6) (tV (o2 notinS (oNm 6) (oNm 2))) (oNm 6) [6]
noncomputable def b_l_turn_right_2 : SS :=
  sYngP 0
  (sSeq (sIf (tOrC (tNotC (tV (o1 (isiS "tuple") (oNm 0)))) (tOrC (tV (o2 neS (o1 lenS (oNm 0)) (oC (.int 2)))) (tNotC (tV (o1 (isiS "list") (o2 ixS (oNm 0) (oC (.int 0))))))))
    (sRet (oC (.bool false)))
    sNil)
  (sSeq (sAsg 3 (c_l_turn_right_2_1))
  (sSeq (sAsg 4 (c_l_turn_right_2_2))
  (sSeq (sAsg 5 (oAnd (o1 (isiS "list") (o2 ixS (oNm 0) (oC (.int 1)))) (oAnd (o2 eqS (o2 ixS (oNm 0) (oC (.int 0))) (oNm 3)) (o2 eqS (o2 ixS (oNm 0) (oC (.int 1))) (oNm 4)))))
  sNil))))
  (sRet (oNm 5))
noncomputable def f_l_turn_right_2 : FSem := runF 7 b_l_turn_right_2
/-- _law_deed(_law_shelf, _law_drawn_here, _law_names_here, _law_rows, _law_past): 0 _law_shelf 1 _law_drawn_here 2 _law_names_here 3 _law_rows 4 _law_past 5 _law_row 6 _law_kind 7 _law_handed 8 _law_turn 9 _law_behind 10 _law_at 11 _law_told_here 12 _law_cut -/
noncomputable def b_l_deed_8 : SS :=
  (sSeq (sAsg 5 (oTup (oAs [o2 ixS (oNm 2) (o2 modS (o2 ixS (oNm 1) (oC (.int 0))) (o1 lenS (oNm 2))), oCall f_l_told (oAs [oNm 1, oNm 2])])))
  (sSeq (sAsg 6 (o2 modS (o2 ixS (oNm 1) (oC (.int 11))) (oC (.int 8))))
  (sSeq (sIf (tAndC (tV (o2 eqS (oNm 6) (oC (.int 7)))) (tV (o2 neS (oNm 4) (oLst (oAs [])))))
    (sSeq (sAsg 9 (oMut0 popS 4))
    (sRet (oTupY (oMethY 9 0 "back" f_Shelf_back []) (oNm 9))))
    sNil)
  (sSeq (sIf (tAndC (tV (o2 gtS (oNm 6) (oC (.int 4)))) (tV (o2 neS (oNm 3) (oLst (oAs [])))))
    (sSeq (sAsg 10 (o2 modS (o2 ixS (oNm 1) (oC (.int 12))) (o1 lenS (oNm 3))))
    (sSeq (sAsg 11 (o1 listS (o2 ixS (o2 ixS (oNm 3) (oNm 10)) (oC (.int 1)))))
    (sSeq (sAsg 12 (o2 modS (o2 ixS (oNm 1) (oC (.int 13))) (o2 addS (o1 lenS (oNm 11)) (oC (.int 1)))))
    (sSeq (sExpr (oMutA appS 4 (oAs [oNm 3])))
    (sRet (oTupY (oMethY 9 0 "take" f_Shelf_take_2 [o2 ixS (o2 ixS (oNm 3) (oNm 10)) (oC (.int 0)), o1 listRevS (o2 addS (oSl (oNm 11) (oPart (oNm 12)) oNoPart) (oSl (oNm 11) oNoPart (oPart (oNm 12))))]) (o2 addS (oSl (oNm 3) oNoPart (oPart (oNm 10))) (oSl (oNm 3) (oPart (o2 addS (oNm 10) (oC (.int 1)))) oNoPart))))))))
    sNil)
  (sSeq (sIf (tV (oCall f_l_stands (oAs [oNm 3, oNm 5])))
    (sRet (oC .none))
    sNil)
  (sSeq (sExpr (oMutA appS 4 (oAs [oNm 3])))
  (sSeq (sAsg 7 (o1 listS (o2 ixS (oNm 5) (oC (.int 1)))))
  (sSeq (sAsg 8 (oMethY 9 0 "put" f_Shelf_put_3 [o2 ixS (oNm 5) (oC (.int 0)), oNm 7]))
  (sSeq (sExpr (oMutA appS 7 (oAs [oC (.str "x")])))
  (sRet (oTupY (oNm 8) (o2 addS (oNm 3) (oLst (oAs [oNm 5]))))))))))))))
noncomputable def f_l_deed_8 : FSem := runF 13 b_l_deed_8
/-- law(_law_script): 0 _law_script 1 _law_drawn_here 2 _law_names_here 3 _law_shelf 4 _law_rows 5 _law_past 6 _law_k 7 _law_found 8 _law_ahead -/
noncomputable def w_law_92_1 : SS :=
  (sSeq (sAsg 7 (oCall f_l_deed_8 (oAs [oNm 3, oCall f_l_drawn (oAs [oCall f_l_cell (oAs [oNm 0, o2 addS (oC (.int 20)) (oNm 6)]), oC (.int 14)]), oNm 2, oNm 4, oNm 5])))
    (sSeq (sIf (tV (o2 isnotS (oNm 7) (oC .none)))
      (sSeq (sAsg 8 (oCall f_l_learnt_2 (oAs [oNm 4])))
      (sSeq (sAsg 4 (oYngR 7))
      (sIf (tNotC (tV (oCall f_l_turn_right_2 (oAs [oYngL 7, oNm 8, oCall f_l_learnt_2 (oAs [oNm 4])]))))
        (sRet (oC (.bool false)))
        sNil)))
      sNil)
    (sIf (tNotC (tV (oCall f_l_right_12 (oAs [oNm 3, oNm 4, oNm 5]))))
      (sRet (oC (.bool false)))
      sNil)))
noncomputable def b_law_92 : SS :=
  (sSeq (sAsg 1 (oCall f_l_drawn (oAs [oCall f_l_cell (oAs [oNm 0, oC (.int 0)]), oC (.int 4)])))
  (sSeq (sAsg 2 (oCall f_l_names (oAs [oNm 0, oC (.int 1), o2 addS (oC (.int 1)) (o2 modS (o2 ixS (oNm 1) (oC (.int 0))) (oC (.int 14)))])))
  (sSeq (sAsg 3 (oMake 9 f_Shelf_init))
  (sSeq (sAsg 4 (oLst (oAs [])))
  (sFrz 4 (sSeq (sAsg 5 (oLst (oAs [])))
  (sSeq (sIf (tNotC (tV (oCall f_l_right_12 (oAs [oNm 3, oNm 4, oNm 5]))))
    (sRet (oC (.bool false)))
    sNil)
  (sSeq (sFor (iRng1 (oAs [o2 modS (o2 ixS (oNm 1) (oC (.int 1))) (oC (.int 31))])) (.nm 6) [6, 7, 8]
    w_law_92_1)
  (sRet (oC (.bool true)))))))))))
noncomputable def f_law_92 : FSem := runF 9 b_law_92
end Eng
/-! The readings evaluated: one equation a combinator. -/
namespace Eng
open PySem PySem.Spec L2
open PyProof.Rows hiding St

section
variable {ρ : En} {f g h : ES} {fs : List ES} {b c : SS} {t u : TS'} {i : Nat} {o : O} {d : D} {p q : Opd} {sem sem2 : O → O → Option O} {s1 : O → Option O}
@[simp] theorem slotO_zero (p : Bool) (o : O) : slotO (some (p, o) :: ρ) 0 = some o := rfl
@[simp] theorem slotO_zero' : slotO (none :: ρ) 0 = none := rfl
@[simp] theorem slotO_succ (x : Sl) : slotO (x :: ρ) (i + 1) = slotO ρ i := by simp [slotO]
@[simp] theorem look_tmp : look ρ (.tmp o) = some o := rfl
@[simp] theorem look_nm : look ρ (.nm i) = slotO ρ i := rfl
@[simp] theorem put_some : put ρ (some o) = .ok (.tmp o) ρ := rfl
@[simp] theorem put_none : put ρ none = .stuck := rfl
@[simp] theorem oNm_ap : oNm i ρ = match slotO ρ i with | some _ => .ok (.nm i) ρ | none => .stuck := rfl
@[simp] theorem oC_ap : oC d ρ = .ok (.tmp (.val d)) ρ := rfl
@[simp] theorem oAs_nil : oAs [] ρ = .ok [] ρ := rfl
@[simp] theorem oAs_cons : oAs (f :: fs) ρ = (f ρ).bind fun p ρ1 => (oAs fs ρ1).bind fun ps ρ2 => .ok (p :: ps) ρ2 := rfl
@[simp] theorem looks_nil : looks ρ [] = some [] := rfl
@[simp] theorem looks_cons (ps : List Opd) : looks ρ (p :: ps) = match look ρ p, looks ρ ps with | some o, some os => some (o :: os) | _, _ => none := rfl
def bin2 (sem : O → O → Option O) (ρ : En) (p q : Opd) : Out Opd := match look ρ p, look ρ q with
  | some a, some b => put ρ (sem a b)
  | _, _ => .stuck
@[simp] theorem o2_ap : o2 sem f g ρ = (f ρ).bind fun p ρ1 => (g ρ1).bind fun q ρ2 => bin2 sem ρ2 p q := by
  unfold o2 oF
  simp only [oAs_cons, oAs_nil]
  cases f ρ with
  | ok p ρ1 =>
    simp only [bind_ok]
    cases g ρ1 with
    | ok q ρ2 =>
      simp only [bind_ok, looks_cons, looks_nil, bin2]
      cases look ρ2 p <;> cases look ρ2 q <;> rfl
    | _ => rfl
  | _ => rfl
@[simp] theorem bin2_ap : bin2 sem ρ p q = match look ρ p, look ρ q with | some a, some b => put ρ (sem a b) | _, _ => .stuck := rfl
@[simp] theorem o1_ap : o1 s1 f ρ = (f ρ).bind fun p ρ1 => match look ρ1 p with | some a => put ρ1 (s1 a) | none => .stuck := by
  unfold o1 oF
  simp only [oAs_cons, oAs_nil]
  cases f ρ with
  | ok p ρ1 =>
    simp only [bind_ok, looks_cons, looks_nil]
    cases look ρ1 p <;> rfl
  | _ => rfl
@[simp] theorem oChain_ap : oChain sem sem2 f g h ρ = (f ρ).bind fun p ρ1 => (g ρ1).bind fun q ρ2 => match look ρ2 p, look ρ2 q with
    | some x, some y => match sem x y with
      | some (.val (.bool k)) => if k = true then (h ρ2).bind fun r ρ3 => bin2 sem2 ρ3 q r else .ok (.tmp (.val (.bool false))) ρ2
      | _ => .stuck
    | _, _ => .stuck := by
  unfold oChain
  cases f ρ with
  | ok p ρ1 =>
    simp only [bind_ok]
    cases g ρ1 with
    | ok q ρ2 =>
      simp only [bind_ok, looks_cons, looks_nil]
      cases look ρ2 p with
      | none => cases look ρ2 q <;> rfl
      | some x =>
        cases look ρ2 q with
        | none => rfl
        | some y =>
          simp only
          cases sem x y with
          | none => rfl
          | some o =>
            cases o with
            | val d =>
              cases d with
              | bool k =>
                simp only
                split
                · cases h ρ2 with
                  | ok r ρ3 =>
                    simp only [bind_ok, bin2]
                    cases look ρ3 q <;> cases look ρ3 r <;> rfl
                  | _ => rfl
                · rfl
              | _ => rfl
            | _ => rfl
    | _ => rfl
  | _ => rfl
@[simp] theorem tV_ap : tV f ρ = (f ρ).bind fun p ρ1 => match look ρ1 p with | some (.val (.bool b)) => .ok b ρ1 | _ => .stuck := rfl
@[simp] theorem tNotC_ap : tNotC t ρ = (t ρ).bind fun b ρ1 => .ok (!b) ρ1 := rfl
@[simp] theorem tAndC_ap : tAndC t u ρ = (t ρ).bind fun b ρ1 => if b = true then u ρ1 else .ok false ρ1 := rfl
@[simp] theorem tOrC_ap : tOrC t u ρ = (t ρ).bind fun b ρ1 => if b = true then .ok true ρ1 else u ρ1 := rfl
@[simp] theorem tTrue_ap : tTrue ρ = .ok true ρ := rfl
@[simp] theorem oNot_ap : oNot f ρ = (tV f ρ).bind fun b ρ1 => .ok (.tmp (.val (.bool (!b)))) ρ1 := by
  unfold oNot oT tNotC
  cases tV f ρ <;> rfl
@[simp] theorem oAnd_ap : oAnd f g ρ = (tV f ρ).bind fun b ρ1 => if b = true then g ρ1 else .ok (.tmp (.val (.bool false))) ρ1 := rfl
@[simp] theorem oOr_ap : oOr f g ρ = (tV f ρ).bind fun b ρ1 => if b = true then .ok (.tmp (.val (.bool true))) ρ1 else g ρ1 := rfl
@[simp] theorem oIf_ap : oIf t f g ρ = (t ρ).bind fun b ρ1 => if b = true then f ρ1 else g ρ1 := rfl
@[simp] theorem oSl_ap (lo hi : OS) : oSl f lo hi ρ = (f ρ).bind fun p ρ1 => (lo ρ1).bind fun l ρ2 => (hi ρ2).bind fun h ρ3 => match look ρ3 p with | some o => put ρ3 (slS l h o) | none => .stuck := rfl
@[simp] theorem oNoPart_ap : oNoPart ρ = .ok none ρ := rfl
@[simp] theorem oPart_ap : oPart f ρ = (f ρ).bind fun p ρ1 => match look ρ1 p with | some (.val (.int i)) => .ok (some i) ρ1 | _ => .stuck := rfl
@[simp] theorem oM1_ap (s : Str → O → Option O) : oM1 s f g ρ = (f ρ).bind fun p ρ1 => match look ρ1 p with | some (.val (.str a)) => (g ρ1).bind fun p2 ρ2 => (match look ρ2 p2 with | some o => put ρ2 (s a o) | none => .stuck) | _ => .stuck := rfl
@[simp] theorem oDic0_ap : oDic0 ρ = .ok (.tmp (.dic [])) ρ := rfl
@[simp] theorem take_tmp : take ρ (.tmp o) = some (o, ρ) := rfl
@[simp] theorem take_nm : take ρ (.nm i) = match slotO ρ i with | some (.val d) => some (.val d, ρ) | some (.scr ns) => some (.scr ns, ρ) | some (.lst ds) => some (.val (.list ds), frz ρ i) | _ => none := rfl
@[simp] theorem give_ap : give ρ p = match take ρ p with | some (.val d, ρ') => some (d, ρ') | some (.lst ds, ρ') => some (.list ds, ρ') | _ => none := rfl
@[simp] theorem gives_nil : gives ρ [] = some ([], ρ) := rfl
@[simp] theorem gives_cons (ps : List Opd) : gives ρ (p :: ps) = match give ρ p with | some (d, ρ1) => (match gives ρ1 ps with | some (ds, ρ2) => some (d :: ds, ρ2) | none => none) | none => none := rfl
@[simp] theorem frz_zero (p : Bool) (ds : List D) : frz (some (p, .lst ds) :: ρ) 0 = some (p, .val (.list ds)) :: ρ := by simp [frz]
@[simp] theorem frz_succ (x : Sl) : frz (x :: ρ) (i + 1) = x :: frz ρ i := by
  unfold frz
  simp only [List.getElem?_cons_succ]
  cases ρ[i]? with
  | none => rfl
  | some sl =>
    cases sl with
    | none => rfl
    | some po =>
      obtain ⟨p, o⟩ := po
      cases o <;> rfl
@[simp] theorem oLst_ap (as : AS) : oLst as ρ = (as ρ).bind fun ps ρ1 => match gives ρ1 ps with | some (ds, ρ2) => put ρ2 (if ds.length ≤ 1000 then some (.lst ds) else none) | none => .stuck := rfl
@[simp] theorem oTup_ap (as : AS) : oTup as ρ = (as ρ).bind fun ps ρ1 => match gives ρ1 ps with | some (ds, ρ2) => put ρ2 (if ds.length ≤ 1000 then some (.val (.tuple ds)) else none) | none => .stuck := rfl
/-! ### statements -/
@[simp] theorem sNil_ap : sNil ρ = .nx ρ := rfl
@[simp] theorem sSeq_ap : sSeq b c ρ = (b ρ).then c := rfl
@[simp] theorem sExpr_ap : sExpr f ρ = (f ρ).bindS fun _ ρ1 => .nx ρ1 := rfl
@[simp] theorem sIf_ap : sIf t b c ρ = (t ρ).bindS fun k ρ1 => if k = true then b ρ1 else c ρ1 := rfl
@[simp] theorem sBreak_ap : sBreak ρ = .bk ρ := rfl
@[simp] theorem sCont_ap : sCont ρ = .ct ρ := rfl
@[simp] theorem giveUp_tmp : giveUp ρ (.tmp o) = some (o, ρ) := rfl
@[simp] theorem giveUp_nm : giveUp ρ (.nm i) = match ρ[i]? with
    | some (some (_, .val d)) => some (.val d, ρ)
    | some (some (_, .scr ns)) => some (.scr ns, ρ)
    | some (some (false, o)) => some (o, ρ.set i none)
    | some (some (true, .lst ds)) => some (.val (.list ds), frz ρ i)
    | _ => none := rfl
@[simp] theorem sRet_ap : sRet f ρ = (f ρ).bindS fun p ρ1 => match giveUp ρ1 p with | some (o, ρ2) => .rt o ρ2 | none => .stuck := rfl
@[simp] theorem sRetN_ap : sRetN ρ = .rt (.val .none) ρ := rfl
@[simp] theorem sRaise_ap (c : Nat) : sRaise c ρ = .exc c ρ := rfl
@[simp] theorem setE_zero (o o' : O) : setE 0 o (some (false, o') :: ρ) = some (some (false, o) :: ρ) := by simp [setE]
@[simp] theorem setE_zero' (o : O) : setE 0 o (none :: ρ) = some (some (false, o) :: ρ) := by simp [setE]
@[simp] theorem setE_succ (o : O) (x : Sl) : setE (i + 1) o (x :: ρ) = (setE i o ρ).map (x :: ·) := by
  unfold setE
  simp only [List.getElem?_cons_succ]
  split <;> simp_all
@[simp] theorem takeM_ap : takeM ρ p = match take ρ p with | some x => some x | none => giveUp ρ p := rfl
@[simp] theorem stoE_ap : stoE i ρ p = match takeM ρ p with | some (o, ρ1) => (match setE i o ρ1 with | some ρ2 => .nx ρ2 | none => .stuck) | none => .stuck := rfl
@[simp] theorem sAsg_ap : sAsg i f ρ = (f ρ).bindS fun p ρ1 => stoE i ρ1 p := rfl
@[simp] theorem putAtE_ap (pd pk : Opd) : putAtE i ρ pd pk = match give ρ pd with
    | some (d, ρ1) => match give ρ1 pk with
      | some (k, ρ2) => match ρ2[i]? with
        | some (some (p, o)) => match setS o k d with
          | some o' => .nx (ρ2.set i (some (p, o')))
          | none => .stuck
        | _ => .stuck
      | none => .stuck
    | none => .stuck := rfl
@[simp] theorem sPut_ap : sPut i f g ρ = (g ρ).bindS fun pd ρ1 => match slotO ρ1 i with | some _ => (f ρ1).bindS fun pk ρ2 => putAtE i ρ2 pd pk | none => .stuck := rfl
@[simp] theorem sUnp_ap (T : Tgt) : sUnp T f ρ = (f ρ).bindS fun p ρ1 => match give ρ1 p with | some (d, ρ2) => (match T.put d ρ2 with | some ρ3 => .nx ρ3 | none => .stuck) | none => .stuck := rfl
@[simp] theorem Tgt_nm : (Tgt.nm i).put d ρ = setE i (.val d) ρ := rfl
@[simp] theorem Tgt_tup (is : List Nat) (ds : List D) : (Tgt.tup is).put (.tuple ds) ρ = setDs is ds ρ := rfl
@[simp] theorem setDs_nil : setDs [] [] ρ = some ρ := rfl
@[simp] theorem setDs_cons (is : List Nat) (ds : List D) : setDs (i :: is) (d :: ds) ρ = match setE i (.val d) ρ with | some ρ1 => setDs is ds ρ1 | none => none := rfl
@[simp] theorem mutE_ap (s : O → Option (O × D)) : mutE s i ρ = match ρ[i]? with | some (some (p, o)) => (match s o with | some (o', res) => .ok (.tmp (.val res)) (ρ.set i (some (p, o'))) | none => .stuck) | _ => .stuck := rfl
@[simp] theorem oMutA_ap (s : O → List D → Option (O × D)) (as : AS) : oMutA s i as ρ = match slotO ρ i with
    | some o0 => if isLstO o0 = true then (as ρ).bind fun ps ρ1 => (match gives ρ1 ps with | some (ds, ρ2) => mutE (fun o => s o ds) i ρ2 | none => .stuck) else .stuck
    | none => .stuck := rfl
@[simp] theorem oMut0_ap (s : O → Option (O × D)) : oMut0 s i ρ = match slotO ρ i with | some o0 => if isLstO o0 = true then mutE s i ρ else .stuck | none => .stuck := rfl
@[simp] theorem isLst_lst (ds : List D) : isLstO (.lst ds) = true := rfl
@[simp] theorem oExt_ap : oExt i f ρ = match slotO ρ i with
    | some o0 => if isLstO o0 = true then (f ρ).bind fun p ρ1 => (match look ρ1 p with
        | some o1 => match o1.seq? with
          | some zs => mutE (fun o => match o with
            | .lst ds => if ds.length + zs.length ≤ sizeLine then some (.lst (ds ++ zs), .none) else none
            | _ => none) i ρ1
          | none => .stuck
        | none => .stuck)
      else .stuck
    | none => .stuck := rfl
/-! ### loops -/
@[simp] theorem sFor_ap (it : IS) (T : Tgt) (fg : List Nat) : sFor it T fg b ρ = (it ρ).bindS fun x ρ1 => forW T fg b x ρ1 := rfl
@[simp] theorem forW_none (T : Tgt) (fg : List Nat) (ds : List D) : forW T fg b (none, ds) ρ = forL none T fg b ds ρ := rfl
@[simp] theorem iSeq_ap : iSeq f ρ = (f ρ).bind fun p ρ1 => itSeq ρ1 p := rfl
@[simp] theorem itSeq_lst (ds : List D) : itSeq ρ (.tmp (.lst ds)) = .ok (none, ds) ρ := rfl
@[simp] theorem itSeq_val : itSeq ρ (.tmp (.val d)) = match itemsD d with | some ds => .ok (none, ds) ρ | none => .stuck := rfl
@[simp] theorem itSeq_nm : itSeq ρ (.nm i) = match ρ[i]? with
    | some (some (_, .lst ds)) => .ok (some i, ds) ρ
    | some (some (_, .val d)) => match itemsD d with
      | some ds => .ok (none, ds) ρ
      | none => .stuck
    | _ => .stuck := rfl
@[simp] theorem itemsD_list (ds : List D) : itemsD (.list ds) = some ds := rfl
@[simp] theorem itemsD_tuple (ds : List D) : itemsD (.tuple ds) = some ds := rfl
@[simp] theorem iRng1_ap (as : AS) : iRng1 as ρ = (as ρ).bind fun ps ρ1 => match looks ρ1 ps with
      | some [.val (.int j)] => if j ≤ 1000000 ∧ -(2 ^ 62) ≤ j then .ok (none, rng 0 j.toNat) ρ1 else .stuck
      | _ => .stuck := rfl
@[simp] theorem iRng2_ap (as : AS) : iRng2 as ρ = (as ρ).bind fun ps ρ1 => match looks ρ1 ps with
      | some [.val (.int i), .val (.int j)] => if -1000000 ≤ i ∧ i ≤ 1000000 ∧ -1000000 ≤ j ∧ j ≤ 1000000 then .ok (none, rng i (j - i).toNat) ρ1 else .stuck
      | _ => .stuck := rfl
@[simp] theorem oLc_ap (it : IS) (T : Tgt) (own : List Nat) : oLc it T t f own ρ = (it ρ).bind fun x ρ1 => lcE T t f own x ρ1 := rfl
@[simp] theorem lcE_none (T : Tgt) (own : List Nat) (ds : List D) : lcE T t f own (none, ds) ρ = (lcW none T t f own ds ρ).bind fun acc ρ2 => .ok (.tmp (.lst acc)) ρ2 := rfl
@[simp] theorem dropE_nil : dropE [] ρ = ρ := rfl
@[simp] theorem dropE_cons (is : List Nat) : dropE (i :: is) ρ = dropE is (dropE1 i ρ) := rfl
@[simp] theorem dropE1_zero : dropE1 0 (some (false, o) :: ρ) = none :: ρ := rfl
@[simp] theorem dropE1_zero' : dropE1 0 (none :: ρ) = none :: ρ := rfl
@[simp] theorem dropE1_zeroT : dropE1 0 (some (true, o) :: ρ) = some (true, o) :: ρ := rfl
@[simp] theorem dropE1_succ (x : Sl) : dropE1 (i + 1) (x :: ρ) = x :: dropE1 i ρ := by
  unfold dropE1
  simp only [List.getElem?_cons_succ]
  split <;> simp_all
@[simp] theorem chkE_none : chkE none ρ = True := rfl
@[simp] theorem chkE_some (ds : List D) : chkE (some (i, ds)) ρ = (ρ[i]? = some (some (true, .lst ds))) := rfl
/-! ### calls -/
@[simp] theorem oCall_ap (fn : FSem) (as : AS) : oCall fn as ρ = (as ρ).bind fun ps ρ1 => callE fn ρ1 ps := rfl
@[simp] theorem callE_ap (fn : FSem) (ps : List Opd) : callE fn ρ ps = match lift ρ ps with
    | some (os, bs, ρ1) => match fn os with
      | .ret o fin => .ok (.tmp o) (backs ps bs fin ρ1)
      | .exc c fin => .exc c (backs ps bs fin ρ1)
      | .stuck => .stuck
    | none => .stuck := rfl
@[simp] theorem lift_nil : lift ρ [] = some ([], [], ρ) := rfl
@[simp] theorem lift_cons (ps : List Opd) : lift ρ (p :: ps) = match lift1 ρ p with
    | some (o, b, ρ1) => match lift ρ1 ps with
      | some (os, bs, ρ2) => some (o :: os, b :: bs, ρ2)
      | none => none
    | none => none := rfl
@[simp] theorem lift1_tmp : lift1 ρ (.tmp o) = some (o, none, ρ) := rfl
@[simp] theorem lift1_nm : lift1 ρ (.nm i) = match ρ[i]? with | some (some (p, o)) => if o.own = true then some (o, some p, ρ.set i none) else some (o, none, ρ) | _ => none := rfl
@[simp] theorem backs_nil (bs : List (Option Bool)) (fin : List O) : backs [] bs fin ρ = ρ := by cases bs <;> cases fin <;> rfl
@[simp] theorem backs_tmp (ps : List Opd) (b : Option Bool) (bs : List (Option Bool)) (x : O) (fin : List O) : backs (.tmp o :: ps) (b :: bs) (x :: fin) ρ = backs ps bs fin ρ := by cases b <;> rfl
@[simp] theorem backs_nm (ps : List Opd) (bs : List (Option Bool)) (x : O) (fin : List O) : backs (.nm i :: ps) (none :: bs) (x :: fin) ρ = backs ps bs fin ρ := rfl
@[simp] theorem backs_nmS (ps : List Opd) (p : Bool) (bs : List (Option Bool)) (x : O) (fin : List O) : backs (.nm i :: ps) (some p :: bs) (x :: fin) ρ = (backs ps bs fin ρ).set i (some (p, x)) := rfl
@[simp] theorem own_val : (O.val d).own = false := rfl
@[simp] theorem own_scr (ns : List Int) : (O.scr ns).own = false := rfl
@[simp] theorem own_lst (ds : List D) : (O.lst ds).own = true := rfl
@[simp] theorem own_dic (es : List (D × D)) : (O.dic es).own = true := rfl
@[simp] theorem own_set (xs : List Str) : (O.set xs).own = true := rfl
@[simp] theorem own_ins (c : Nat) (fs : List (Str × O)) : (O.ins c fs).own = true := rfl
theorem runF_ap (n : Nat) (os : List O) : runF n b os = match b (startE n os) with
  | .nx ρ => (match fins os ρ with | some fin => .ret (.val .none) fin | none => .stuck)
  | .rt o ρ => (match fins os ρ with | some fin => .ret o fin | none => .stuck)
  | .exc c ρ => (match fins os ρ with | some fin => .exc c fin | none => .stuck)
  | _ => .stuck := rfl
@[simp] theorem startE_ap (n : Nat) (os : List O) : startE n os = os.map (fun o => some (o.own, o)) ++ List.replicate (n - os.length) none := rfl
@[simp] theorem fins_nil : fins [] ρ = some [] := rfl
@[simp] theorem fins_val (os : List O) (sl : Sl) : fins (.val d :: os) (sl :: ρ) = match fins os ρ with | some r => some (.val d :: r) | none => none := rfl
@[simp] theorem fins_scr (ns : List Int) (os : List O) (sl : Sl) : fins (.scr ns :: os) (sl :: ρ) = match fins os ρ with | some r => some (.scr ns :: r) | none => none := rfl
@[simp] theorem fins_lst (ds : List D) (x : O) (os : List O) : fins (.lst ds :: os) (some (true, x) :: ρ) = match fins os ρ with | some r => some (x :: r) | none => none := rfl
@[simp] theorem fins_dic (es : List (D × D)) (x : O) (os : List O) : fins (.dic es :: os) (some (true, x) :: ρ) = match fins os ρ with | some r => some (x :: r) | none => none := rfl
/-! ### operations on data -/
@[simp] theorem addS_int (i j : Int) : addS (.val (.int i)) (.val (.int j)) = some (.val (.int (i + j))) := rfl
@[simp] theorem addS_str (x y : Str) : addS (.val (.str x)) (.val (.str y)) = if x.length + y.length ≤ sizeLine then some (.val (.str (x ++ y))) else none := rfl
@[simp] theorem addS_tup (x y : List D) : addS (.val (.tuple x)) (.val (.tuple y)) = if x.length + y.length ≤ sizeLine then some (.val (.tuple (x ++ y))) else none := rfl
@[simp] theorem addS_ll (x y : List D) : addS (.lst x) (.lst y) = if x.length + y.length ≤ sizeLine then some (.lst (x ++ y)) else none := rfl
@[simp] theorem addS_lv (x y : List D) : addS (.lst x) (.val (.list y)) = if x.length + y.length ≤ sizeLine then some (.lst (x ++ y)) else none := rfl
@[simp] theorem addS_vl (x y : List D) : addS (.val (.list x)) (.lst y) = if x.length + y.length ≤ sizeLine then some (.lst (x ++ y)) else none := rfl
@[simp] theorem addS_vv (x y : List D) : addS (.val (.list x)) (.val (.list y)) = if x.length + y.length ≤ sizeLine then some (.lst (x ++ y)) else none := rfl
@[simp] theorem subS_int (i j : Int) : subS (.val (.int i)) (.val (.int j)) = some (.val (.int (i - j))) := by simp [subS, intS]
@[simp] theorem mulS_int (i j : Int) : mulS (.val (.int i)) (.val (.int j)) = if (-(2 ^ 64) < i ∧ i < 2 ^ 64) ∨ (-(2 ^ 64) < j ∧ j < 2 ^ 64) then some (.val (.int (i * j))) else none := rfl
@[simp] theorem fdivS_int (i j : Int) : fdivS (.val (.int i)) (.val (.int j)) = if 0 < j ∧ j < 1073741824 then some (.val (.int (i / j))) else none := rfl
@[simp] theorem modS_int (i j : Int) : modS (.val (.int i)) (.val (.int j)) = if 0 < j then some (.val (.int (i % j))) else none := rfl
@[simp] theorem powS_int (i j : Int) : powS (.val (.int i)) (.val (.int j)) = if 0 ≤ j ∧ j ≤ 1000000 ∧ i.natAbs < 2 ^ 64 then some (.val (.int (i ^ j.toNat))) else none := rfl
@[simp] theorem negS_int (i : Int) : negS (.val (.int i)) = some (.val (.int (-i))) := rfl
@[simp] theorem ltS_int (i j : Int) : ltS (.val (.int i)) (.val (.int j)) = some (.val (.bool (decide (i < j)))) := rfl
@[simp] theorem leS_int (i j : Int) : leS (.val (.int i)) (.val (.int j)) = some (.val (.bool (decide (i ≤ j)))) := rfl
@[simp] theorem gtS_int (i j : Int) : gtS (.val (.int i)) (.val (.int j)) = some (.val (.bool (decide (j < i)))) := rfl
@[simp] theorem geS_int (i j : Int) : geS (.val (.int i)) (.val (.int j)) = some (.val (.bool (decide (j ≤ i)))) := rfl
@[simp] theorem leS_str (i j : Str) : leS (.val (.str i)) (.val (.str j)) = some (.val (.bool (!decide (j.cps.toList < i.cps.toList)))) := rfl
@[simp] theorem view_lst (ds : List D) : (O.lst ds).view? = some (.list ds) := rfl
@[simp] theorem view_val : (O.val d).view? = some d := rfl
@[simp] theorem seq_lst (ds : List D) : (O.lst ds).seq? = some ds := rfl
@[simp] theorem seq_list (ds : List D) : (O.val (.list ds)).seq? = some ds := rfl
@[simp] theorem seq_tup (ds : List D) : (O.val (.tuple ds)).seq? = some ds := rfl
@[simp] theorem list_lst (ds : List D) : (O.lst ds).list? = some ds := rfl
@[simp] theorem list_list (ds : List D) : (O.val (.list ds)).list? = some ds := rfl
@[simp] theorem eqS_int (i j : Int) : eqS (.val (.int i)) (.val (.int j)) = some (.val (.bool (i == j))) := by simp [eqS, eqD?, isStrD, SeqAt.shaped, PyData.eqv, PyData.canLay0, PyData.depth]
@[simp] theorem neS_int (i j : Int) : neS (.val (.int i)) (.val (.int j)) = some (.val (.bool (!(i == j)))) := by simp [neS, eqD?, isStrD, SeqAt.shaped, PyData.eqv, PyData.canLay0, PyData.depth]
@[simp] theorem eqS_str (i j : Str) : eqS (.val (.str i)) (.val (.str j)) = some (.val (.bool (i == j))) := by simp [eqS, eqD?, isStrD, PyData.eqv]
@[simp] theorem neS_str (i j : Str) : neS (.val (.str i)) (.val (.str j)) = some (.val (.bool (!(i == j)))) := by simp [neS, eqD?, isStrD, PyData.eqv]
@[simp] theorem eqS_bool (i j : Bool) : eqS (.val (.bool i)) (.val (.bool j)) = some (.val (.bool (i == j))) := by simp [eqS, eqD?, isStrD, SeqAt.shaped, PyData.eqv, PyData.canLay0, PyData.depth]
@[simp] theorem neS_bool (i j : Bool) : neS (.val (.bool i)) (.val (.bool j)) = some (.val (.bool (!(i == j)))) := by simp [neS, eqD?, isStrD, SeqAt.shaped, PyData.eqv, PyData.canLay0, PyData.depth]
@[simp] theorem lenS_str (z : Str) : lenS (.val (.str z)) = if z.length ≤ sizeLine then some (.val (.int z.length)) else none := rfl
@[simp] theorem lenS_list (ds : List D) : lenS (.val (.list ds)) = some (.val (.int ds.length)) := rfl
@[simp] theorem lenS_tup (ds : List D) : lenS (.val (.tuple ds)) = some (.val (.int ds.length)) := rfl
@[simp] theorem lenS_lst (ds : List D) : lenS (.lst ds) = some (.val (.int ds.length)) := rfl
@[simp] theorem lenS_scr (ns : List Int) : lenS (.scr ns) = some (.val (.int ns.length)) := rfl
@[simp] theorem listS_ap : listS o = o.seq?.map .lst := rfl
@[simp] theorem tupleS_ap : tupleS o = o.seq?.map fun ds => .val (.tuple ds) := rfl
@[simp] theorem allS_ap : allS o = o.list?.bind fun ds => (asBools ds).map fun bs => .val (.bool (bs.all id)) := rfl
@[simp] theorem anyS_ap : anyS o = o.list?.bind fun ds => (asBools ds).map fun bs => .val (.bool (bs.any id)) := rfl
@[simp] theorem sumS_ap : sumS o = o.list?.bind fun ds => (asInts ds).map fun bs => .val (.int bs.sum) := rfl
@[simp] theorem ixS_scr (ns : List Int) (i : Int) : ixS (.scr ns) (.val (.int i)) = (atI ns i).map fun n => .val (.int n) := rfl
@[simp] theorem ixS_lst (ds : List D) (i : Int) : ixS (.lst ds) (.val (.int i)) = (atI ds i).map .val := rfl
@[simp] theorem ixS_list (ds : List D) (i : Int) : ixS (.val (.list ds)) (.val (.int i)) = (atI ds i).map .val := rfl
@[simp] theorem ixS_tup (ds : List D) (i : Int) : ixS (.val (.tuple ds)) (.val (.int i)) = (atI ds i).map .val := rfl
@[simp] theorem ixS_str (z : Str) (i : Int) : ixS (.val (.str z)) (.val (.int i)) = if z.length ≤ sizeLine then (atI z.cps.toList i).map fun c => .val (.str ⟨#[c]⟩) else none := rfl
@[simp] theorem appS_ap (ds : List D) : appS (.lst ds) [d] = if ds.length < sizeLine then some (.lst (ds ++ [d]), .none) else none := rfl
@[simp] theorem strS_int (i : Int) : strS (.val (.int i)) = if i.natAbs.log2 < 1920 then some (.val (.str (Str.ofString (toString i)))) else none := rfl
theorem atI_nat' {α : Type} (xs : List α) (i : Int) (h : 0 ≤ i) (h2 : i < xs.length) : atI xs i = xs[i.toNat]? := by
  unfold atI ixN
  rw [if_pos h, if_pos h2]
  rfl
end
end Eng
/-! Loops and comprehensions over typed items. -/
namespace Eng
open PySem PySem.Spec L2
open PyProof.Rows hiding St

/-! ### one turn of a for -/
def turn (T : Tgt) (fg : List Nat) (b : SS) (d : D) (ρ : En) : SOut := match T.put d ρ with
  | none => .stuck
  | some ρ1 => match b ρ1 with
    | .nx ρ2 => .nx (dropE fg ρ2)
    | .ct ρ2 => .nx (dropE fg ρ2)
    | .bk ρ2 => .bk (dropE fg ρ2)
    | o => o
theorem turn_ap (T : Tgt) (fg : List Nat) (b : SS) (d : D) (ρ : En) : turn T fg b d ρ = match T.put d ρ with
  | none => .stuck
  | some ρ1 => match b ρ1 with
    | .nx ρ2 => .nx (dropE fg ρ2)
    | .ct ρ2 => .nx (dropE fg ρ2)
    | .bk ρ2 => .bk (dropE fg ρ2)
    | o => o := rfl
theorem forL_turn (T : Tgt) (fg : List Nat) (b : SS) (d : D) (ds : List D) (ρ : En) : forL none T fg b (d :: ds) ρ = match turn T fg b d ρ with
  | .nx ρ2 => forL none T fg b ds ρ2
  | .bk ρ2 => .nx ρ2
  | o => o := by
  unfold turn
  rw [forL]
  cases T.put d ρ with
  | none => rfl
  | some ρ1 =>
    simp only
    cases b ρ1 <;> simp [chkE]
/-- a for that runs through: the state by its word -/
theorem forL_map {α σ : Type} {f : α → D} {T : Tgt} {fg : List Nat} {b : SS} (enc : σ → En) (step : σ → α → σ) (I : σ → Prop) : ∀ (xs : List α) (s : σ), I s → (∀ s x, x ∈ xs → I s → turn T fg b (f x) (enc s) = .nx (enc (step s x)) ∧ I (step s x)) →
    forL none T fg b (xs.map f) (enc s) = .nx (enc (xs.foldl step s)) ∧ I (xs.foldl step s)
  | [], s, hs, _ => ⟨rfl, hs⟩
  | x :: xs, s, hs, h => by
    obtain ⟨h1, h2⟩ := h s x List.mem_cons_self hs
    rw [List.map_cons, forL_turn, h1]
    exact forL_map enc step I xs (step s x) h2 fun s y hy => h s y (List.mem_cons_of_mem _ hy)
/-- a for that leaves the state as it is -/
theorem forL_same {α : Type} {f : α → D} {T : Tgt} {fg : List Nat} {b : SS} {ρ : En} (xs : List α) (h : ∀ x ∈ xs, turn T fg b (f x) ρ = .nx ρ) : forL none T fg b (xs.map f) ρ = .nx ρ := by
  induction xs with
  | nil => rfl
  | cons x xs ih =>
    rw [List.map_cons, forL_turn, h x List.mem_cons_self]
    exact ih fun y hy => h y (List.mem_cons_of_mem _ hy)
/-- a for that hands back at the first such item, else leaves the state as it is -/
theorem forL_find {α : Type} {f : α → D} {T : Tgt} {fg : List Nat} {b : SS} {ρ : En} (p : α → Bool) (r : α → SOut) (hr : ∀ x, p x = true → (∃ o ρ', r x = .rt o ρ') ∨ ∃ c ρ', r x = .exc c ρ') : ∀ (xs : List α), (∀ x ∈ xs, turn T fg b (f x) ρ = if p x = true then r x else .nx ρ) →
    forL none T fg b (xs.map f) ρ = match xs.find? p with | some x => r x | none => .nx ρ
  | [], _ => rfl
  | x :: xs, h => by
    rw [List.map_cons, forL_turn, h x List.mem_cons_self, List.find?_cons]
    cases hp : p x with
    | true =>
      simp only [if_true]
      rcases hr x hp with ⟨o, ρ', e⟩ | ⟨c, ρ', e⟩ <;> rw [e]
    | false =>
      simp only [Bool.false_eq_true, if_false]
      exact forL_find p r hr xs fun y hy => h y (List.mem_cons_of_mem _ hy)
@[simp] theorem unpS_nx (j : Nat) (ρ : En) : unpS j (.nx ρ) = .nx (unpin j ρ) := rfl
@[simp] theorem unpin_zero (p : Bool) (o : O) (ρ : En) : unpin 0 (some (p, o) :: ρ) = some (false, o) :: ρ := rfl
@[simp] theorem unpin_succ (j : Nat) (x : Sl) (ρ : En) : unpin (j + 1) (x :: ρ) = x :: unpin j ρ := by
  unfold unpin
  simp only [List.getElem?_cons_succ]
  split <;> simp_all

/-! ### one turn of a comprehension -/
def lturn (T : Tgt) (t : TS') (f : ES) (own : List Nat) (d : D) (ρ : En) : Out (Option D) := match T.put d ρ with
  | none => .stuck
  | some ρ1 => match t ρ1 with
    | .ok b ρ2 => if b = true then match f ρ2 with
        | .ok p ρ3 => match give ρ3 p with
          | some (e, ρ4) => .ok (some e) (dropE own ρ4)
          | none => .stuck
        | _ => .stuck
      else .ok none (dropE own ρ2)
    | _ => .stuck
theorem lturn_ap (T : Tgt) (t : TS') (f : ES) (own : List Nat) (d : D) (ρ : En) : lturn T t f own d ρ = match T.put d ρ with
  | none => .stuck
  | some ρ1 => match t ρ1 with
    | .ok b ρ2 => if b = true then match f ρ2 with
        | .ok p ρ3 => match give ρ3 p with
          | some (e, ρ4) => .ok (some e) (dropE own ρ4)
          | none => .stuck
        | _ => .stuck
      else .ok none (dropE own ρ2)
    | _ => .stuck := rfl
theorem lcL_turn {c : Option (Nat × List D)} {T : Tgt} {t : TS'} {f : ES} {own : List Nat} {d : D} {ds acc : List D} {ρ ρ' : En} {r : Option D} (h : lturn T t f own d ρ = .ok r ρ') (hc : lcC c own ρ') : lcL c T t f own (d :: ds) acc ρ = lcL c T t f own ds (acc ++ r.toList) ρ' := by
  unfold lturn at h
  rw [lcL]
  cases e1 : T.put d ρ with
  | none => rw [e1] at h; cases h
  | some ρ1 =>
    rw [e1] at h
    simp only at h ⊢
    cases e2 : t ρ1 with
    | ok b ρ2 =>
      rw [e2] at h
      simp only at h ⊢
      cases b with
      | false =>
        simp only [Bool.false_eq_true, if_false, Out.ok.injEq] at h ⊢
        obtain ⟨rfl, rfl⟩ := h
        rw [if_pos hc]
        simp
      | true =>
        simp only [if_true] at h ⊢
        cases e3 : f ρ2 with
        | ok p ρ3 =>
          rw [e3] at h
          simp only at h ⊢
          cases e4 : give ρ3 p with
          | none => rw [e4] at h; cases h
          | some x =>
            obtain ⟨e, ρ4⟩ := x
            rw [e4] at h
            simp only [Out.ok.injEq] at h ⊢
            obtain ⟨rfl, rfl⟩ := h
            rw [if_pos hc]
            rfl
        | _ => rw [e3] at h; cases h
    | _ => rw [e2] at h; cases h
theorem lcL_map {α : Type} {f : α → D} {c : Option (Nat × List D)} {T : Tgt} {t : TS'} {g : ES} {own : List Nat} {ρ : En} (r : α → Option D) (hc : lcC c own ρ) : ∀ (xs : List α) (acc : List D), (∀ x ∈ xs, lturn T t g own (f x) ρ = .ok (r x) ρ) → lcL c T t g own (xs.map f) acc ρ = .ok (acc ++ xs.filterMap r) ρ
  | [], acc, _ => by simp [lcL]
  | x :: xs, acc, h => by
    rw [List.map_cons, lcL_turn (h x List.mem_cons_self) hc, lcL_map r hc xs _ fun y hy => h y (List.mem_cons_of_mem _ hy), List.filterMap_cons]
    cases r x <;> simp
theorem lcW_map {α : Type} {f : α → D} {c : Option (Nat × List D)} {T : Tgt} {t : TS'} {g : ES} {own : List Nat} {ρ : En} (r : α → Option D) (xs : List α) (hc : lcC c own (dropE own ρ)) (h : ∀ x ∈ xs, lturn T t g own (f x) (dropE own ρ) = .ok (r x) (dropE own ρ)) :
    lcW c T t g own (xs.map f) ρ = .ok (xs.filterMap r) (restE ρ own (dropE own ρ)) := by
  unfold lcW
  rw [if_pos hc, lcL_map r hc xs [] h]
  simp
theorem lcE_nmT {T : Tgt} {t : TS'} {g : ES} {own : List Nat} {ρ : En} {j : Nat} {ds : List D} {o : O} (h : ρ[j]? = some (some (true, o))) : lcE T t g own (some j, ds) ρ = (lcW (some (j, ds)) T t g own ds ρ).bind fun acc ρ2 => .ok (.tmp (.lst acc)) ρ2 := by
  simp [lcE, h]
theorem fm_map {α β : Type} (e : α → β) (xs : List α) : xs.filterMap (fun x => some (e x)) = xs.map e := by
  induction xs with
  | nil => rfl
  | cons x xs ih => simp [ih]
theorem fm_filter {α β : Type} (c : α → Bool) (e : α → β) (xs : List α) : xs.filterMap (fun x => if c x = true then some (e x) else none) = (xs.filter c).map e := by
  induction xs with
  | nil => rfl
  | cons x xs ih =>
    rw [List.filterMap_cons, List.filter_cons]
    cases c x <;> simp [ih]
/-- [e for x in xs] -/
theorem lc_all {α : Type} {f : α → D} {c : Option (Nat × List D)} {T : Tgt} {t : TS'} {g : ES} {own : List Nat} {ρ : En} (e : α → D) (xs : List α) (hc : lcC c own (dropE own ρ)) (h : ∀ x ∈ xs, lturn T t g own (f x) (dropE own ρ) = .ok (some (e x)) (dropE own ρ)) :
    lcW c T t g own (xs.map f) ρ = .ok (xs.map e) (restE ρ own (dropE own ρ)) := by
  rw [lcW_map (fun x => some (e x)) xs hc h, fm_map]
/-- [e for x in xs if c] -/
theorem lc_if {α : Type} {f : α → D} {c : Option (Nat × List D)} {T : Tgt} {t : TS'} {g : ES} {own : List Nat} {ρ : En} (k : α → Bool) (e : α → D) (xs : List α) (hc : lcC c own (dropE own ρ)) (h : ∀ x ∈ xs, lturn T t g own (f x) (dropE own ρ) = .ok (if k x = true then some (e x) else none) (dropE own ρ)) :
    lcW c T t g own (xs.map f) ρ = .ok ((xs.filter k).map e) (restE ρ own (dropE own ρ)) := by
  rw [lcW_map (fun x => if k x = true then some (e x) else none) xs hc h, fm_filter]
@[simp] theorem restE_nil (ρ0 ρ : En) : restE ρ0 [] ρ = ρ := rfl
@[simp] theorem restE_cons (ρ0 : En) (i : Nat) (is : List Nat) (ρ : En) : restE ρ0 (i :: is) ρ = match ρ[i]? with | some none => restE ρ0 is (rest1 ρ0 i ρ) | _ => restE ρ0 is ρ := rfl
@[simp] theorem rest1_ap (ρ0 : En) (i : Nat) (ρ : En) : rest1 ρ0 i ρ = match ρ0[i]? with | some (some (false, .val d)) => ρ.set i (some (false, .val d)) | _ => ρ := rfl
@[simp] theorem lcC_ap (c : Option (Nat × List D)) (own : List Nat) (ρ : En) : lcC c own ρ = (chkE c ρ ∧ ∀ i ∈ own, ρ[i]? = some none) := rfl
end Eng
/-! Loops that may hand back; further operations. -/
namespace Eng
open PySem PySem.Spec L2
open PyProof.Rows hiding St
@[simp] theorem isB_ap (a b : Bool) : isB (.val (.bool a)) (.val (.bool b)) = some (.val (.bool (decide (a = b)))) := rfl
@[simp] theorem isnotB_ap (a b : Bool) : isnotB (.val (.bool a)) (.val (.bool b)) = some (.val (.bool (!decide (a = b)))) := rfl
@[simp] theorem revO_tup (ds : List D) : revO (.val (.tuple ds)) = some (.val (.tuple ds.reverse)) := rfl
@[simp] theorem revO_lst (ds : List D) : revO (.lst ds) = some (.lst ds.reverse) := rfl
@[simp] theorem revO_list (ds : List D) : revO (.val (.list ds)) = some (.lst ds.reverse) := rfl
@[simp] theorem maxS_int (i j : Int) : maxS (.val (.int i)) (.val (.int j)) = some (.val (.int (if j > i then j else i))) := rfl
@[simp] theorem minS_int (i j : Int) : minS (.val (.int i)) (.val (.int j)) = some (.val (.int (if j < i then j else i))) := rfl
@[simp] theorem setS_lst (ds : List D) (i : Int) (d : D) : setS (.lst ds) (.int i) d = match ixN ds.length i with | some j => some (.lst (ds.set j d)) | none => none := rfl
theorem forLc_turn {c : Option (Nat × List D)} {T : Tgt} {fg : List Nat} {b : SS} {d : D} {ds : List D} {ρ ρ2 : En} (h : turn T fg b d ρ = .nx ρ2) (hc : chkE c ρ2) : forL c T fg b (d :: ds) ρ = forL c T fg b ds ρ2 := by
  unfold turn at h
  rw [forL]
  cases e : T.put d ρ with
  | none => rw [e] at h; cases h
  | some ρ1 =>
    rw [e] at h
    simp only at h ⊢
    cases eb : b ρ1 with
    | nx ρ3 => rw [eb] at h; cases h; simp [hc]
    | ct ρ3 => rw [eb] at h; cases h; simp [hc]
    | _ => rw [eb] at h; cases h
theorem forLc_ret {c : Option (Nat × List D)} {T : Tgt} {fg : List Nat} {b : SS} {d : D} {ds : List D} {ρ ρ2 : En} {o : O} (h : turn T fg b d ρ = .rt o ρ2) : forL c T fg b (d :: ds) ρ = .rt o ρ2 := by
  unfold turn at h
  rw [forL]
  cases e : T.put d ρ with
  | none => rw [e] at h; cases h
  | some ρ1 =>
    rw [e] at h
    simp only at h ⊢
    cases eb : b ρ1 with
    | rt o' ρ3 => rw [eb] at h; cases h; rfl
    | _ => rw [eb] at h; cases h
/-- a loop that goes on or hands back o -/
theorem forL_try {α σ : Type} {f : α → D} {T : Tgt} {fg : List Nat} {b : SS} (c : Option (Nat × List D)) (enc : σ → En) (step : σ → α → Option σ) (I : σ → Prop) (P : En → Prop) (o : O) (hc : ∀ s, chkE c (enc s)) : ∀ (xs : List α) (s : σ), I s →
    (∀ s x, x ∈ xs → I s → (∃ s', step s x = some s' ∧ turn T fg b (f x) (enc s) = .nx (enc s') ∧ I s') ∨ (step s x = none ∧ ∃ ρ', turn T fg b (f x) (enc s) = .rt o ρ' ∧ P ρ')) →
    (∃ s', xs.foldlM step s = some s' ∧ forL c T fg b (xs.map f) (enc s) = .nx (enc s') ∧ I s') ∨ (xs.foldlM step s = none ∧ ∃ ρ', forL c T fg b (xs.map f) (enc s) = .rt o ρ' ∧ P ρ')
  | [], s, hs, _ => .inl ⟨s, rfl, rfl, hs⟩
  | x :: xs, s, hs, h => by
    rcases h s x List.mem_cons_self hs with ⟨s', e1, e2, e3⟩ | ⟨e1, ρ', e2, e3⟩
    · have ih := forL_try (f := f) c enc step I P o hc xs s' e3 fun s y hy => h s y (List.mem_cons_of_mem _ hy)
      rw [List.map_cons, forLc_turn e2 (hc s'), List.foldlM_cons, e1]
      exact ih
    · rw [List.map_cons, List.foldlM_cons, e1]
      exact .inr ⟨rfl, ρ', forLc_ret e2, e3⟩
end Eng
/-! Texts, lists of texts, rows, books: the readings over typed things. -/
namespace Eng
open PySem PySem.Spec L2
open PyProof.Rows hiding St

abbrev eS : Str → D := PyData.str
abbrev Row := Str × List Str
def eW (ws : List Str) : D := .tuple (ws.map PyData.str)
def eRow (r : Row) : D := .tuple [.str r.1, eW r.2]
def eBk (b : List Row) : D := .tuple (b.map eRow)
def kd (ws : List Str) : List (D × D) := ws.map fun w => (.str w, .bool true)
def sortT (ws : List Str) : List Str := ws.mergeSort leT

theorem any_strs (ws : List Str) (x : Str) : ((ws.map PyData.str).any fun y => PyData.eqv y (.str x)) = decide (x ∈ ws) := by
  induction ws with
  | nil => rfl
  | cons w ws ih =>
    rw [List.map_cons, List.any_cons, ih, eqv_str]
    by_cases h : x = w
    · simp [h]
    · have : ¬ w = x := fun e => h e.symm
      simp [h, this]
theorem all_strs (ws : List Str) : (ws.map PyData.str).all isStrD = true := by
  simp [isStrD]
theorem hasS_strs (x : Str) (ws : List Str) (o : O) (h : o.seq? = some (ws.map PyData.str)) (hd : ∀ es, o ≠ .dic es) (hs : ∀ z, o ≠ .val (.str z)) : hasS (.val (.str x)) o = some (decide (x ∈ ws)) := by
  unfold hasS
  split
  · exact absurd rfl (hd _)
  · exact absurd rfl (hs _)
  · cases h
  · simp only [view_val, h, isStrD, all_strs, Bool.and_self, Bool.true_or, if_true, any_strs]
@[simp] theorem inS_lst (x : Str) (ws : List Str) : inS (.val (.str x)) (.lst (ws.map PyData.str)) = some (.val (.bool (decide (x ∈ ws)))) := by
  unfold inS
  rw [hasS_strs x ws _ rfl (by simp) (by simp)]
  rfl
@[simp] theorem inS_tup (x : Str) (ws : List Str) : inS (.val (.str x)) (.val (.tuple (ws.map PyData.str))) = some (.val (.bool (decide (x ∈ ws)))) := by
  unfold inS
  rw [hasS_strs x ws _ rfl (by simp) (by simp)]
  rfl
@[simp] theorem inS_list (x : Str) (ws : List Str) : inS (.val (.str x)) (.val (.list (ws.map PyData.str))) = some (.val (.bool (decide (x ∈ ws)))) := by
  unfold inS
  rw [hasS_strs x ws _ rfl (by simp) (by simp)]
  rfl
@[simp] theorem notinS_lst (x : Str) (ws : List Str) : notinS (.val (.str x)) (.lst (ws.map PyData.str)) = some (.val (.bool (!decide (x ∈ ws)))) := by
  unfold notinS
  rw [hasS_strs x ws _ rfl (by simp) (by simp)]
  rfl
@[simp] theorem notinS_tup (x : Str) (ws : List Str) : notinS (.val (.str x)) (.val (.tuple (ws.map PyData.str))) = some (.val (.bool (!decide (x ∈ ws)))) := by
  unfold notinS
  rw [hasS_strs x ws _ rfl (by simp) (by simp)]
  rfl
@[simp] theorem notinS_list (x : Str) (ws : List Str) : notinS (.val (.str x)) (.val (.list (ws.map PyData.str))) = some (.val (.bool (!decide (x ∈ ws)))) := by
  unfold notinS
  rw [hasS_strs x ws _ rfl (by simp) (by simp)]
  rfl
@[simp] theorem hasS_nil (x : Str) : inS (.val (.str x)) (.lst []) = some (.val (.bool false)) := inS_lst x []
@[simp] theorem notinS_nil (x : Str) : notinS (.val (.str x)) (.lst []) = some (.val (.bool true)) := notinS_lst x []
/-! ### dicts whose keys are texts -/
/-- a dict with text keys -/
def sd {β : Type} (f : β → D) (es : List (Str × β)) : List (D × D) := es.map fun e => (.str e.1, f e.2)
theorem dOk_sd {β : Type} (f : β → D) (es : List (Str × β)) (x : Str) : dOk (sd f es) (.str x) = true := by
  simp [dOk, sd, keyOf]
theorem dhas_sd {β : Type} (f : β → D) (es : List (Str × β)) (x : Str) : dhas (sd f es) (.str x) = decide (x ∈ es.map (·.1)) := by
  unfold dhas sd
  rw [List.any_map, ← any_strs, List.map_map, List.any_map]
  rfl
theorem dOk_kd (ws : List Str) (x : Str) : dOk (kd ws) (.str x) = true := by
  simp [dOk, kd, keyOf]
theorem dhas_kd (ws : List Str) (x : Str) : dhas (kd ws) (.str x) = decide (x ∈ ws) := by
  unfold dhas kd
  rw [List.any_map, ← any_strs, List.any_map]
  rfl
theorem dput_kd (ws : List Str) (x : Str) : dput (kd ws) (.str x) (.bool true) = kd (addT ws x) := by
  unfold dput addT
  rw [dhas_kd]
  by_cases h : x ∈ ws
  · simp only [h, decide_true, if_true]
    unfold kd
    rw [List.map_map]
    refine List.map_congr_left fun w hw => ?_
    simp only [Function.comp]
    split <;> rfl
  · simp only [h, decide_false, Bool.false_eq_true, if_false]
    unfold kd
    rw [List.map_append]
    rfl
@[simp] theorem inS_kd (x : Str) (ws : List Str) : inS (.val (.str x)) (.dic (kd ws)) = some (.val (.bool (decide (x ∈ ws)))) := by
  unfold inS hasS
  simp only [dOk_kd, dhas_kd, if_true]
  rfl
@[simp] theorem notinS_kd (x : Str) (ws : List Str) : notinS (.val (.str x)) (.dic (kd ws)) = some (.val (.bool (!decide (x ∈ ws)))) := by
  unfold notinS hasS
  simp only [dOk_kd, dhas_kd, if_true]
  rfl
theorem len_kd (ws : List Str) : (kd ws).length = ws.length := by simp [kd]
@[simp] theorem setS_kd (x : Str) (ws : List Str) : setS (.dic (kd ws)) (.str x) (.bool true) = if ws.length < sizeLine then some (.dic (kd (addT ws x))) else none := by
  unfold setS
  simp only [dOk_kd, dput_kd, len_kd, true_and]
theorem kd_nil : kd [] = [] := rfl
/-! ### sorted texts -/
theorem sortOk_strs (ws : List Str) : sortOk (ws.map PyData.str) = decide (ws.length ≤ sizeLine) := by
  unfold sortOk
  have h1 : ((ws.map PyData.str).all fun d => (ws.map PyData.str).all fun e => PySem.W.alike d e) = true := by
    simp [PySem.W.alike]
  have h2 : ((ws.map PyData.str).all noTup) = true := by simp [noTup]
  have h3 : ((ws.map PyData.str).all fun d => decide (d.depth ≤ 32)) = true := by simp [PyData.depth]
  rw [h1, h2, h3]
  simp
theorem sortS_seq (o : O) (ws : List Str) (h : o.seq? = some (ws.map PyData.str)) (hd : ∀ es, o ≠ .dic es) (hs : ∀ z, o ≠ .set z) : sortS o = if ws.length ≤ sizeLine then some (.lst ((sortT ws).map PyData.str)) else none := by
  unfold sortS
  split
  · exact absurd rfl (hd _)
  · exact absurd rfl (hs _)
  · cases h
  · rw [h]
    simp only [sortOk_strs, sortD_strs, decide_eq_true_eq]
    rfl
@[simp] theorem sortS_lst (ws : List Str) : sortS (.lst (ws.map PyData.str)) = if ws.length ≤ sizeLine then some (.lst ((sortT ws).map PyData.str)) else none := sortS_seq _ ws rfl (by simp) (by simp)
@[simp] theorem sortS_list (ws : List Str) : sortS (.val (.list (ws.map PyData.str))) = if ws.length ≤ sizeLine then some (.lst ((sortT ws).map PyData.str)) else none := sortS_seq _ ws rfl (by simp) (by simp)
@[simp] theorem sortS_tup (ws : List Str) : sortS (.val (.tuple (ws.map PyData.str))) = if ws.length ≤ sizeLine then some (.lst ((sortT ws).map PyData.str)) else none := sortS_seq _ ws rfl (by simp) (by simp)
@[simp] theorem sortS_set (ws : List Str) : sortS (.set ws) = if ws.length ≤ sizeLine then some (.lst ((sortT ws).map PyData.str)) else none := by
  unfold sortS
  simp only [sortOk_strs, sortD_strs, decide_eq_true_eq]
  rfl
theorem sortT_nil : sortT [] = [] := by simp [sortT]
@[simp] theorem sortS_nil : sortS (.lst []) = some (.lst []) := by
  have := sortS_lst []
  simpa [sortT_nil] using this
@[simp] theorem sortS_sd {β : Type} (f : β → D) (es : List (Str × β)) : sortS (.dic (sd f es)) = if es.length ≤ sizeLine then some (.lst ((sortT (es.map (·.1))).map PyData.str)) else none := by
  unfold sortS
  have h : (sd f es).map (·.1) = (es.map (·.1)).map PyData.str := by simp [sd]
  have h1 : ((sd f es).all fun e => (keyOf e.1).isSome) = true := by simp [sd, keyOf]
  simp only [h, h1, Bool.true_and, sortOk_strs, sortD_strs, decide_eq_true_eq, List.length_map]
  rfl
@[simp] theorem sortS_kd (ws : List Str) : sortS (.dic (kd ws)) = if ws.length ≤ sizeLine then some (.lst ((sortT ws).map PyData.str)) else none := by
  unfold sortS
  have h : (kd ws).map (·.1) = ws.map PyData.str := by simp [kd]
  have h1 : ((kd ws).all fun e => (keyOf e.1).isSome) = true := by simp [kd, keyOf]
  simp only [h, h1, Bool.true_and, sortOk_strs, sortD_strs, decide_eq_true_eq]
  rfl
theorem mem_sortT {ws : List Str} {x : Str} : x ∈ sortT ws ↔ x ∈ ws := (List.mergeSort_perm ws leT).mem_iff
theorem len_sortT (ws : List Str) : (sortT ws).length = ws.length := List.length_mergeSort ws
theorem sortT_nodup {ws : List Str} (h : ws.Nodup) : (sortT ws).Nodup := (List.mergeSort_perm ws leT).nodup_iff.mpr h
/-- two lists without doubles and with the same members are sorted alike -/
theorem sortT_ext {xs ys : List Str} (hx : xs.Nodup) (hy : ys.Nodup) (h : ∀ w, w ∈ xs ↔ w ∈ ys) : sortT xs = sortT ys := by
  have p : xs.Perm ys := (List.perm_ext_iff_of_nodup hx hy).mpr h
  exact one_order leT_anti (((List.mergeSort_perm xs leT).trans p).trans (List.mergeSort_perm ys leT).symm) (sortT_pairwise xs) (sortT_pairwise ys)
/-! ### sets -/
theorem setC_seq (o : O) (ws : List Str) (h : o.seq? = some (ws.map PyData.str)) : setC o = if ws.length + 1 < scanBound then some (.set (metT ws)) else none := by
  unfold setC
  rw [h]
  simp only [Option.bind_some, asStrs_map]
@[simp] theorem setC_lst (ws : List Str) : setC (.lst (ws.map PyData.str)) = if ws.length + 1 < scanBound then some (.set (metT ws)) else none := setC_seq _ ws rfl
@[simp] theorem setC_list (ws : List Str) : setC (.val (.list (ws.map PyData.str))) = if ws.length + 1 < scanBound then some (.set (metT ws)) else none := setC_seq _ ws rfl
@[simp] theorem setC_tup (ws : List Str) : setC (.val (.tuple (ws.map PyData.str))) = if ws.length + 1 < scanBound then some (.set (metT ws)) else none := setC_seq _ ws rfl
@[simp] theorem lenS_set (ws : List Str) : lenS (.set ws) = some (.val (.int ws.length)) := rfl
theorem len_addT (xs : List Str) (k : Str) : (addT xs k).length ≤ xs.length + 1 := by
  unfold addT
  split <;> simp
theorem len_foldT : ∀ (ys xs : List Str), (ys.foldl addT xs).length ≤ xs.length + ys.length
  | [], xs => by simp
  | y :: ys, xs => by
    have h1 := len_foldT ys (addT xs y)
    have h2 := len_addT xs y
    simp only [List.foldl_cons, List.length_cons]
    omega
theorem len_metT (ys : List Str) : (metT ys).length ≤ ys.length := by
  have := len_foldT ys []
  simpa [metT] using this
/-! ### loops -/
theorem forL_ix {α : Type} {f : α → D} {T : Tgt} {fg : List Nat} {b : SS} (I : List α → En → Prop) (ys : List α) (hs : ∀ done x rest ρ, ys = done ++ x :: rest → I done ρ → ∃ ρ', turn T fg b (f x) ρ = .nx ρ' ∧ I (done ++ [x]) ρ') : ∀ (xs done : List α) (ρ : En), ys = done ++ xs → I done ρ →
    ∃ ρ', forL none T fg b (xs.map f) ρ = .nx ρ' ∧ I ys ρ'
  | [], done, ρ, hy, h => ⟨ρ, rfl, by simpa [hy] using h⟩
  | x :: xs, done, ρ, hy, h => by
    obtain ⟨ρ1, h1, h2⟩ := hs done x xs ρ hy h
    obtain ⟨ρ2, h3, h4⟩ := forL_ix I ys hs xs (done ++ [x]) ρ1 (by simpa using hy) h2
    exact ⟨ρ2, by rw [List.map_cons, forL_turn, h1]; exact h3, h4⟩
/-- a for over items: what holds after so many of them -/
theorem forL_all {α : Type} {f : α → D} {T : Tgt} {fg : List Nat} {b : SS} (I : List α → En → Prop) (xs : List α) (ρ : En) (h0 : I [] ρ) (hs : ∀ done x rest ρ, xs = done ++ x :: rest → I done ρ → ∃ ρ', turn T fg b (f x) ρ = .nx ρ' ∧ I (done ++ [x]) ρ') :
    ∃ ρ', forL none T fg b (xs.map f) ρ = .nx ρ' ∧ I xs ρ' := forL_ix I xs hs xs [] ρ rfl h0
theorem forL_rng_ix {lo : Int} {T : Tgt} {fg : List Nat} {b : SS} (I : Nat → En → Prop) (n : Nat) (hs : ∀ k ρ, k < n → I k ρ → ∃ ρ', turn T fg b (.int (lo + (k : Nat))) ρ = .nx ρ' ∧ I (k + 1) ρ') : ∀ (m k : Nat) (ρ : En), k + m = n → I k ρ →
    ∃ ρ', forL none T fg b ((List.range' k m).map fun k => .int (lo + (k : Nat))) ρ = .nx ρ' ∧ I n ρ'
  | 0, k, ρ, hy, h => ⟨ρ, rfl, by simpa [← hy] using h⟩
  | m + 1, k, ρ, hy, h => by
    obtain ⟨ρ1, h1, h2⟩ := hs k ρ (by omega) h
    obtain ⟨ρ2, h3, h4⟩ := forL_rng_ix I n hs m (k + 1) ρ1 (by omega) h2
    exact ⟨ρ2, by rw [List.range'_succ, List.map_cons, forL_turn, h1]; exact h3, h4⟩
/-- for k in range(..): what holds after k turns -/
theorem forL_rng {lo : Int} {T : Tgt} {fg : List Nat} {b : SS} (I : Nat → En → Prop) (n : Nat) (ρ : En) (h0 : I 0 ρ) (hs : ∀ k ρ, k < n → I k ρ → ∃ ρ', turn T fg b (.int (lo + (k : Nat))) ρ = .nx ρ' ∧ I (k + 1) ρ') :
    ∃ ρ', forL none T fg b (rng lo n) ρ = .nx ρ' ∧ I n ρ' := by
  have := forL_rng_ix I n hs n 0 ρ (by omega) h0
  unfold rng
  rw [List.range_eq_range']
  exact this
/-- [e for k in range(..)] -/
theorem lc_rng {lo : Int} {c : Option (Nat × List D)} {T : Tgt} {t : TS'} {g : ES} {own : List Nat} {ρ : En} (e : Nat → D) (n : Nat) (hc : lcC c own (dropE own ρ)) (h : ∀ k, k < n → lturn T t g own (.int (lo + (k : Nat))) (dropE own ρ) = .ok (some (e k)) (dropE own ρ)) :
    lcW c T t g own (rng lo n) ρ = .ok ((List.range n).map e) (restE ρ own (dropE own ρ)) := by
  unfold rng
  exact lc_all e (List.range n) hc fun k hk => h k (List.mem_range.mp hk)
@[simp] theorem lcE_some (T : Tgt) (t : TS') (f : ES) (own : List Nat) (j : Nat) (ds : List D) (ρ : En) : lcE T t f own (some j, ds) ρ = match ρ[j]? with
    | some (some (true, _)) => (lcW (some (j, ds)) T t f own ds ρ).bind fun acc ρ2 => .ok (.tmp (.lst acc)) ρ2
    | some (some (false, o)) => (lcW (some (j, ds)) T t f own ds (ρ.set j (some (true, o)))).bind fun acc ρ2 => .ok (.tmp (.lst acc)) (unpin j ρ2)
    | _ => .stuck := rfl
@[simp] theorem forW_some (T : Tgt) (fg : List Nat) (b : SS) (j : Nat) (ds : List D) (ρ : En) : forW T fg b (some j, ds) ρ = match ρ[j]? with
    | some (some (true, _)) => forL (some (j, ds)) T fg b ds ρ
    | some (some (false, o)) => unpS j (forL (some (j, ds)) T fg b ds (ρ.set j (some (true, o))))
    | _ => .stuck := rfl
@[simp] theorem atI_zero {α : Type} (x : α) (xs : List α) : atI (x :: xs) 0 = some x := by
  rw [atI_nat' _ _ (by omega) (by simp)]
  rfl
@[simp] theorem atI_one {α : Type} (x y : α) (xs : List α) : atI (x :: y :: xs) 1 = some y := by
  rw [atI_nat' _ _ (by omega) (by simp; omega)]
  rfl
@[simp] theorem slS_str (z : Str) (lo hi : Option Int) : slS lo hi (.val (.str z)) = if z.length ≤ sizeLine then some (.val (.str (cutS z lo hi))) else none := rfl
@[simp] theorem slS_tup (ds : List D) (lo hi : Option Int) : slS lo hi (.val (.tuple ds)) = some (.val (.tuple (cutA ds lo hi))) := rfl
@[simp] theorem slS_lst (ds : List D) (lo hi : Option Int) : slS lo hi (.lst ds) = some (.lst (cutA ds lo hi)) := rfl
@[simp] theorem slS_list (ds : List D) (lo hi : Option Int) : slS lo hi (.val (.list ds)) = some (.lst (cutA ds lo hi)) := rfl
/-! ### the end of a def -/
def finO (os : List O) (so : SOut) : FOut := match so with
  | .nx ρ => (match fins os ρ with | some fin => .ret (.val .none) fin | none => .stuck)
  | .rt o ρ => (match fins os ρ with | some fin => .ret o fin | none => .stuck)
  | .exc c ρ => (match fins os ρ with | some fin => .exc c fin | none => .stuck)
  | _ => .stuck
theorem runF_fin (n : Nat) (b : SS) (os : List O) : runF n b os = finO os (b (startE n os)) := rfl
@[simp] theorem finO_nx (os : List O) (ρ : En) : finO os (.nx ρ) = (match fins os ρ with | some fin => .ret (.val .none) fin | none => .stuck) := rfl
@[simp] theorem finO_rt (os : List O) (o : O) (ρ : En) : finO os (.rt o ρ) = (match fins os ρ with | some fin => .ret o fin | none => .stuck) := rfl
@[simp] theorem finO_exc (os : List O) (c : Nat) (ρ : En) : finO os (.exc c ρ) = (match fins os ρ with | some fin => .exc c fin | none => .stuck) := rfl
end Eng
/-! The laws' makers of books: what they tell. -/
namespace Eng
open PySem PySem.Spec L2 SX
open PyProof.Rows hiding St
def mixI (c k : Int) : Int := ((c % 1000000000000000 + 1) * 48271 + k * k * 16807 + k * 7919) % 2147483647 * 69621 % 2147483629
theorem l_mix_eq (c k : Int) (h : -100000 ≤ k ∧ k ≤ 100000) : f_l_mix [.val (.int c), .val (.int k)] = .ret (.val (.int (mixI c k))) [.val (.int c), .val (.int k)] := by
  have h1 : -18446744073709551616 < k := by omega
  have h2 : k < 18446744073709551616 := by omega
  simp [f_l_mix, b_l_mix, runF_ap, h1, h2, mixI]
/-- a cell of the script, any whole number -/
theorem l_cell_ex (ns : List Int) (k : Int) (h : 0 ≤ k ∧ k ≤ 100000) : ∃ c, f_l_cell [.scr ns, .val (.int k)] = .ret (.val (.int c)) [.scr ns, .val (.int k)] := by
  by_cases hk : k < ns.length
  · have := atI_nat' ns k h.1 hk
    have hl : k.toNat < ns.length := by omega
    simp [f_l_cell, b_l_cell, runF_ap, hk, this, hl]
  · by_cases hn : ns = []
    · subst hn
      have e := fun c => l_mix_eq c k (by omega)
      have hk' : ¬ k < 0 := by omega
      simp [f_l_cell, b_l_cell, runF_ap, hk', e]
    · have hp : 0 < ns.length := by cases ns <;> simp_all
      have hp' : 0 < (ns.length : Int) := by omega
      have m1 := Int.emod_nonneg k (show (ns.length : Int) ≠ 0 by omega)
      have m2 := Int.emod_lt_of_pos k hp'
      have := atI_nat' ns (k % ns.length) m1 m2
      have hl : (k % ns.length).toNat < ns.length := by omega
      have e := fun c => l_mix_eq c k (by omega)
      simp [f_l_cell, b_l_cell, runF_ap, hk, hp, this, hl, e]
/-- the draws of a cell -/
def Dr (n : Nat) (ds : List Int) : Prop := ds.length = n ∧ ∀ d ∈ ds, 0 ≤ d ∧ d < 4096
theorem l_drawn_ex (c : Int) (n : Nat) (hn : n ≤ 1000) : ∃ ds : List Int, f_l_drawn [.val (.int c), .val (.int n)] = .ret (.lst (ds.map .int)) [.val (.int c), .val (.int n)] ∧ Dr n ds := by
  obtain ⟨ρ', e, ds, hd, left, rfl⟩ := forL_rng (lo := 0) (T := .nm 4) (fg := [4]) (b := w_l_drawn_1)
    (fun k ρ => ∃ ds : List Int, Dr k ds ∧ ∃ left : Int, ρ = [some (false, .val (.int c)), some (false, .val (.int n)), some (false, .lst (ds.map .int)), some (false, .val (.int left)), none])
    n [some (false, .val (.int c)), some (false, .val (.int n)), some (false, .lst []), some (false, .val (.int (c / 2))), none] ⟨[], by simp [Dr], c / 2, rfl⟩ (by
    rintro k ρ hk ⟨ds, ⟨hl, hd⟩, left, rfl⟩
    have e := l_mix_eq c k (by omega)
    have hz : ds.length < sizeLine := Nat.lt_of_lt_of_le (show ds.length < 1000 by omega) (by decide)
    by_cases hc : c % 2 = 0
    · refine ⟨_, by simp [turn_ap, w_l_drawn_1, hc, hz]; rfl, ds ++ [left % 64], ⟨by simp [hl], ?_⟩, left / 64, by simp⟩
      intro d hd'
      rw [List.mem_append, List.mem_singleton] at hd'
      rcases hd' with h | rfl
      · exact hd d h
      · omega
    · refine ⟨_, by simp [turn_ap, w_l_drawn_1, hc, hz, e]; rfl, ds ++ [mixI c k / 7 % 4096], ⟨by simp [hl], ?_⟩, left, by simp⟩
      intro d hd'
      rw [List.mem_append, List.mem_singleton] at hd'
      rcases hd' with h | rfl
      · exact hd d h
      · omega)
  refine ⟨ds, ?_, hd⟩
  have hb : (n : Int) ≤ 1000000 := by omega
  have hb' : (-4611686018427387904 : Int) ≤ n := by omega
  simp [f_l_drawn, b_l_drawn, runF_ap, hb, hb']
  rw [e]
  simp
def dat (ds : List Int) (i : Int) : Int := ds[i.toNat]?.getD 0
theorem Dr.at {n : Nat} {ds : List Int} (h : Dr n ds) (i : Int) (h0 : 0 ≤ i) (h1 : i < n) : atI (ds.map PyData.int) i = some (.int (dat ds i)) ∧ 0 ≤ dat ds i ∧ dat ds i < 4096 := by
  have hl : i.toNat < ds.length := by have := h.1; omega
  have e : dat ds i = ds[i.toNat] := by simp [dat, hl]
  rw [e]
  refine ⟨?_, h.2 _ (List.getElem_mem hl)⟩
  rw [atI_map, atI_nat' _ _ h0 (by have := h.1; omega), List.getElem?_eq_getElem hl]
  rfl
/-! ### words -/
/-- one to eight small letters -/
def Stem (l : List Nat) : Prop := 1 ≤ l.length ∧ l.length ≤ 8 ∧ ∀ c ∈ l, 97 ≤ c ∧ c ≤ 122
/-- a word: a stem, alone or with a number from 2 to 99 -/
def WW (w : Str) : Prop := ∃ l, Stem l ∧ (w = S l ∨ ∃ n : Nat, 2 ≤ n ∧ n ≤ 99 ∧ w = S (l ++ 47 :: TL.numL n))
theorem numL_len {n : Nat} (h : n ≤ 99) : (TL.numL n).length ≤ 2 := by
  by_cases h' : n < 10
  · rw [TL.numL_lt h']; simp
  · rw [TL.numL_step (by omega), TL.numL_lt (by omega)]; simp
theorem slash : (Str.ofString "/") = S [47] := by decide +kernel
theorem abc : (Str.ofString "abcdefghijklmnopqrstuvwxyz") = S ((List.range 26).map (97 + ·)) := by decide +kernel
theorem nostr : (Str.ofString "") = S [] := by decide +kernel
theorem Stem.no47 {l : List Nat} (h : Stem l) : 47 ∉ l := fun hm => by have := h.2.2 _ hm; omega
theorem num_no47 (n : Nat) : 47 ∉ TL.numL n := fun hm => by
  have := TL.numL_digits n 47 hm
  revert this
  decide
theorem WW.len {w : Str} (h : WW w) : w.length ≤ 11 ∧ 1 ≤ w.length := by
  obtain ⟨l, hl, rfl | ⟨n, h2, h9, rfl⟩⟩ := h
  · rw [S_len]; exact ⟨Nat.le_trans hl.2.1 (by decide), hl.1⟩
  · have := numL_len h9
    have := hl.1
    have := hl.2.1
    rw [S_len, List.length_append, List.length_cons]
    omega
theorem split_stem {l : List Nat} (h : Stem l) : Txt.split (S l) (Str.ofString "/") = [S l] := by
  rw [slash, split_S (by simp) (by decide), TL.spl_last1 h.no47]
  rfl
theorem split_sense {l : List Nat} (h : Stem l) (n : Nat) : Txt.split (S (l ++ 47 :: TL.numL n)) (Str.ofString "/") = [S l, S (TL.numL n)] := by
  have e := TL.spl_part1 (S := []) (p := l) (rest := TL.numL n) (acc := []) h.no47
  have e2 := TL.spl_last1 (S := []) (acc := []) (num_no47 n)
  rw [slash, split_S (by simp) (by decide)]
  rw [show l ++ 47 :: TL.numL n = l ++ ([47] ++ TL.numL n) by simp, e, e2]
  rfl
theorem WW.split {w : Str} (h : WW w) : ∃ l r, Stem l ∧ Txt.split w (Str.ofString "/") = S l :: r := by
  obtain ⟨l, hl, rfl | ⟨n, h2, h9, rfl⟩⟩ := h
  · exact ⟨l, [], hl, split_stem hl⟩
  · exact ⟨l, [S (TL.numL n)], hl, split_sense hl n⟩
theorem abc_at {i : Int} (h0 : 0 ≤ i) (h1 : i < 26) : atI (Str.ofString "abcdefghijklmnopqrstuvwxyz").cps.toList i = some (97 + i.toNat) := by
  have e : (Str.ofString "abcdefghijklmnopqrstuvwxyz").cps.toList = (List.range 26).map (97 + ·) := by rw [abc]
  rw [e, atI_nat' _ _ h0 (by simpa using h1), List.getElem?_map, List.getElem?_range (by omega)]
  rfl
theorem abc_len : (Str.ofString "abcdefghijklmnopqrstuvwxyz").length = 26 := by rw [abc, S_len]; rfl
theorem joinL_ones : ∀ l : List Nat, TL.joinL [] (l.map fun c => [c]) = l
  | [] => rfl
  | [c] => rfl
  | c :: d :: l => by
    have := joinL_ones (d :: l)
    simp only [List.map_cons] at this ⊢
    rw [TL.joinL, this]
    rfl
theorem join_ones (l : List Nat) : Txt.join (Str.ofString "") (l.map fun c => S [c]) = S l := by
  have := join_S [] (l.map fun c => [c])
  rw [List.map_map, joinL_ones] at this
  rw [nostr]
  exact this
theorem sub_len {α : Type} [DecidableEq α] : ∀ {xs ys : List α}, xs.Nodup → (∀ x ∈ xs, x ∈ ys) → xs.length ≤ ys.length
  | [], _, _, _ => Nat.zero_le _
  | x :: xs, ys, h, hs => by
    have hx : x ∈ ys := hs x List.mem_cons_self
    have h1 := List.nodup_cons.mp h
    have := sub_len (xs := xs) (ys := ys.erase x) h1.2 fun y hy => (List.mem_erase_of_ne fun (e : y = x) => h1.1 (e ▸ hy)).mpr (hs y (List.mem_cons_of_mem _ hy))
    rw [List.length_erase_of_mem hx] at this
    have := List.length_pos_of_mem hx
    simp only [List.length_cons]
    omega
/-- the two-letter words that stand by -/
def spare (k : Nat) : Str := S [97 + k / 26, 97 + k % 26]
theorem spare_inj {j k : Nat} (h : spare j = spare k) : j = k := by
  have := S_inj h
  simp only [List.cons.injEq, and_true] at this
  omega
theorem spare_WW {k : Nat} (h : k < 40) : WW (spare k) := ⟨_, ⟨by simp, by simp, by
  intro c hc
  simp only [List.mem_cons, List.not_mem_nil, or_false] at hc
  omega⟩, .inl rfl⟩
theorem fresh_ex (w : Str) (ns : List Str) (hn : ns.length < 40) (hw : WW w) : ∃ v r, (w :: (List.range 40).map spare).filter (fun x => !decide (x ∈ ns)) = v :: r ∧ WW v ∧ v ∉ ns := by
  cases e : (w :: (List.range 40).map spare).filter (fun x => !decide (x ∈ ns)) with
  | nil =>
    exfalso
    have hs : ∀ x ∈ (List.range 40).map spare, x ∈ ns := fun x hx => by
      have := List.filter_eq_nil_iff.mp e x (List.mem_cons_of_mem _ hx)
      simpa using this
    have nd : ((List.range 40).map spare).Nodup := List.pairwise_map.mpr (List.nodup_range.imp fun hab e => hab (spare_inj e))
    have := sub_len nd hs
    simp at this
    omega
  | cons v r =>
    have hv : v ∈ (w :: (List.range 40).map spare).filter (fun x => !decide (x ∈ ns)) := by rw [e]; exact List.mem_cons_self
    rw [List.mem_filter] at hv
    refine ⟨v, r, rfl, ?_, by simpa using hv.2⟩
    rcases List.mem_cons.mp hv.1 with rfl | h
    · exact hw
    · obtain ⟨k, hk, rfl⟩ := List.mem_map.mp h
      exact spare_WW (List.mem_range.mp hk)
def ltr (d : Int) : Nat := 97 + (d % 26).toNat
theorem c_name1 {n : Nat} {ds : List Int} (h : Dr n ds) (hn : 12 ≤ n) (ρ : En) (m : Nat) (hm : m ≤ 8) (h0 : ρ = [some (true, .lst (ds.map .int)), some (true, .lst ns), some (false, .val (.str (Str.ofString "abcdefghijklmnopqrstuvwxyz"))), none, none, none, none, none]) :
    lcW none (.nm 6) tTrue (o2 ixS (oNm 2) (o2 modS (o2 ixS (oNm 0) (o2 addS (oC (.int 4)) (oNm 6))) (oC (.int 26)))) [6] (rng 0 m) ρ = .ok (((List.range m).map fun k => S [ltr (dat ds (4 + (k : Nat)))]).map .str) ρ := by
  subst h0
  rw [lc_rng (fun k => .str (S [ltr (dat ds (4 + (k : Nat)))])) m (by simp) (fun k hk => by
    obtain ⟨a1, a2, a3⟩ := h.at (4 + (k : Nat)) (by omega) (by omega)
    have b := abc_at (i := dat ds (4 + (k : Nat)) % 26) (by omega) (by omega)
    have l : (Str.ofString "abcdefghijklmnopqrstuvwxyz").length ≤ sizeLine := by rw [abc_len]; decide
    simp [lturn_ap, a1, b, l, ltr, S])]
  simp
theorem ltr_low (d : Int) : 97 ≤ ltr d ∧ ltr d ≤ 122 := by
  unfold ltr
  have := Int.emod_nonneg d (show (26 : Int) ≠ 0 by decide)
  have := Int.emod_lt_of_pos d (show (0 : Int) < 26 by decide)
  omega
theorem cat_slash (l : List Nat) (n : Nat) : S l ++ Str.ofString "/" ++ S (TL.numL n) = S (l ++ 47 :: TL.numL n) := by
  rw [slash, S_cat, S_cat]
  simp
noncomputable def rest_name : SS := (sSeq (sAsg 4 (o2 addS (oLst (oAs [oNm 3])) (c_l_name_2)))
  (sRet (o2 ixS (c_l_name_3) (oC (.int 0)))))
theorem c_name2 (a b : Sl) (w : Str) (x : Sl) :
    lcW none (.nm 6) tTrue (o2 addS (o2 ixS (oNm 2) (o2 fdivS (oNm 6) (oC (.int 26)))) (o2 ixS (oNm 2) (o2 modS (oNm 6) (oC (.int 26))))) [6] (rng 0 40) [a, b, some (false, .val (.str (Str.ofString "abcdefghijklmnopqrstuvwxyz"))), some (false, .val (.str w)), none, x, none, none] =
      .ok (((List.range 40).map spare).map .str) [a, b, some (false, .val (.str (Str.ofString "abcdefghijklmnopqrstuvwxyz"))), some (false, .val (.str w)), none, x, none, none] := by
  rw [lc_rng (fun k => .str (spare k)) 40 (by simp) (fun k hk => by
    have b1 := abc_at (i := (k : Int) / 26) (by omega) (by omega)
    have b2 := abc_at (i := (k : Int) % 26) (by omega) (by omega)
    have l : (Str.ofString "abcdefghijklmnopqrstuvwxyz").length ≤ sizeLine := by rw [abc_len]; decide
    have e : spare k = S [97 + k / 26] ++ S [97 + k % 26] := by rw [S_cat]; rfl
    have e1 : ((k : Int) / 26).toNat = k / 26 := by omega
    have e2 : ((k : Int) % 26).toNat = k % 26 := by omega
    have l2 : (S [97 + k / 26]).length + (S [97 + k % 26]).length ≤ sizeLine := by rw [S_len, S_len]; exact (by decide : 2 ≤ sizeLine)
    simp [lturn_ap, b1, b2, l, S, e1, e2] at l2 ⊢
    simp [l2, e])]
  simp
theorem rest_name_ex (ds : List Int) (ns : List Str) (hn : ns.length < 40) (w : Str) (hw : WW w) (x : Sl) : ∃ v, finO [.lst (ds.map .int), .lst (ns.map .str)] (rest_name [some (true, .lst (ds.map .int)), some (true, .lst (ns.map .str)), some (false, .val (.str (Str.ofString "abcdefghijklmnopqrstuvwxyz"))), some (false, .val (.str w)), none, x, none, none]) =
    .ret (.val (.str v)) [.lst (ds.map .int), .lst (ns.map .str)] ∧ WW v ∧ v ∉ ns := by
  obtain ⟨v, r, e, hv, hm⟩ := fresh_ex w ns hn hw
  refine ⟨v, ?_, hv, hm⟩
  have c2 := c_name2 (some (true, .lst (ds.map .int))) (some (true, .lst (ns.map .str))) w x
  have c3 := lc_if (f := PyData.str) (c := some (4, (w :: (List.range 40).map spare).map .str)) (T := .nm 7) (t := tV (o2 notinS (oNm 7) (oNm 1))) (g := oNm 7) (own := [7]) (ρ := [some (true, .lst (ds.map .int)), some (true, .lst (ns.map .str)), some (false, .val (.str (Str.ofString "abcdefghijklmnopqrstuvwxyz"))), some (false, .val (.str w)), some (true, .lst ((w :: (List.range 40).map spare).map .str)), x, none, none])
    (fun x => !decide (x ∈ ns)) PyData.str (w :: (List.range 40).map spare) (by simp) (by
      intro y hy
      by_cases h : y ∈ ns <;> simp [lturn_ap, h])
  rw [e] at c3
  have l : (Str.ofString "abcdefghijklmnopqrstuvwxyz").length ≤ sizeLine := by rw [abc_len]; decide
  have z : 1 + 40 ≤ sizeLine := by decide
  simp at c2 c3
  simp [rest_name, c_l_name_2, c_l_name_3, c2, c3, z]
theorem sum_ones {α : Type} : ∀ xs : List α, (xs.map fun _ => 1).sum = xs.length
  | [] => rfl
  | x :: xs => by
    rw [List.map_cons, List.sum_cons, sum_ones xs, List.length_cons]
    omega
theorem l_name_ex (ds : List Int) (ns : List Str) (h : Dr 12 ds) (hn : ns.length < 40) (hw : ∀ w ∈ ns, WW w) : ∃ w, f_l_name [.lst (ds.map .int), .lst (ns.map .str)] = .ret (.val (.str w)) [.lst (ds.map .int), .lst (ns.map .str)] ∧ WW w ∧ w ∉ ns := by
  obtain ⟨a0, b0, c0⟩ := h.at 0 (by omega) (by omega)
  obtain ⟨a1, b1, c1⟩ := h.at 1 (by omega) (by omega)
  obtain ⟨a2, b2, c2⟩ := h.at 2 (by omega) (by omega)
  obtain ⟨a3, b3, c3⟩ := h.at 3 (by omega) (by omega)
  -- the new name
  obtain ⟨m, em⟩ : ∃ m : Nat, m = (1 + dat ds 0 % 8).toNat := ⟨_, rfl⟩
  have hm : m ≤ 8 ∧ 1 ≤ m := by omega
  obtain ⟨l, el⟩ : ∃ l : List Nat, l = (List.range m).map fun k => ltr (dat ds (4 + (k : Nat))) := ⟨_, rfl⟩
  have hl : Stem l := ⟨by simp [el]; omega, by simp [el]; omega, by
    intro c hc
    rw [el] at hc
    obtain ⟨k, _, rfl⟩ := List.mem_map.mp hc
    exact ltr_low _⟩
  have e1 := c_name1 (ns := ns.map .str) h (Nat.le_refl 12) _ m hm.1 rfl
  have j1 : Txt.join (Str.ofString "") ((List.range m).map fun k => S [ltr (dat ds (4 + (k : Nat)))]) = S l := by
    have := join_ones l
    rw [el, List.map_map] at this
    rw [el]
    exact this
  have hm1 : (1 + dat ds 0 % 8) ≤ 1000000 := by omega
  have hm2 : (-4611686018427387904 : Int) ≤ (1 + dat ds 0 % 8) := by omega
  have js : (((List.range m).map fun k => S [ltr (dat ds (4 + (k : Nat)))]).map (·.length)).sum + ((List.range m).map fun k => S [ltr (dat ds (4 + (k : Nat)))]).length * (Str.ofString "").length ≤ 16777216 := by
    rw [nostr, S_len, List.map_map]
    have : (List.map ((fun x => x.length) ∘ fun k : Nat => S [ltr (dat ds (4 + (k : Nat)))]) (List.range m)) = (List.range m).map fun _ => 1 := List.map_congr_left fun k _ => by simp [S_len]
    rw [this, sum_ones]
    simp
    omega
  have jj : joinS (Str.ofString "") (.lst (((List.range m).map fun k => S [ltr (dat ds (4 + (k : Nat)))]).map .str)) = some (.val (.str (S l))) := by
    unfold joinS
    simp only [seq_lst, Option.bind_some, asStrs_map]
    rw [if_pos js, j1]
  have R := fun w hw x => rest_name_ex ds ns hn w hw x
  simp only [f_l_name, runF_fin, b_l_name, startE_ap]
  rw [← rest_name]
  have lw : 1 ≤ sizeLine := by decide
  by_cases h0 : ns = []
  · subst h0
    simp only [List.map_nil] at e1
    simp [-List.map_map, c_l_name_1, a0, hm1, hm2, ← em, e1, jj]
    simpa using R (S l) ⟨l, hl, .inl rfl⟩ none
  · have hp : 0 < ns.length := List.length_pos_iff.mpr h0
    have hp' : (0 : Int) < ns.length := by omega
    obtain ⟨w0, ew0, hw0⟩ : ∃ w0, atI (ns.map PyData.str) (dat ds 1 % ns.length) = some (.str w0) ∧ w0 ∈ ns := by
      have q1 := Int.emod_nonneg (dat ds 1) (show (ns.length : Int) ≠ 0 by omega)
      have q2 := Int.emod_lt_of_pos (dat ds 1) hp'
      have hl : (dat ds 1 % ns.length).toNat < ns.length := by omega
      refine ⟨ns[(dat ds 1 % ns.length).toNat], ?_, List.getElem_mem hl⟩
      rw [atI_map, atI_nat' _ _ q1 q2, List.getElem?_eq_getElem hl]
      rfl
    obtain ⟨st, r, hst, esp⟩ := (hw w0 hw0).split
    have l0 := (hw w0 hw0).len
    have sl1 : w0.length + 2 ≤ sizeLine := Nat.le_trans (show w0.length + 2 ≤ 13 by omega) (by decide)
    have sl2 : (Str.ofString "/").length = 1 := by rw [slash]; rfl
    have g1 : (S st).length + (S l).length ≤ sizeLine := by rw [S_len, S_len]; exact Nat.le_trans (show st.length + l.length ≤ 16 by have := hst.2.1; have := hl.2.1; omega) (by decide)
    have g2 : (S st ++ S l).length ≤ sizeLine := by rw [S_len, S_len] at g1; rw [S_cat, S_len, List.length_append]; exact g1
    have g3 : cutS (S st ++ S l) none (some 8) = S ((st ++ l).take 8) := by
      rw [C8.cutS_slice, S_cat, slice_to (by decide)]
      rfl
    have w1 : WW (S ((st ++ l).take 8)) := ⟨_, ⟨by have := hst.1; simp; omega, by simp; omega, by
      intro c hc
      rcases List.mem_append.mp (List.mem_of_mem_take hc) with h | h
      · exact hst.2.2 c h
      · exact hl.2.2 c h⟩, .inl rfl⟩
    obtain ⟨k, ek⟩ : ∃ k : Nat, (k : Int) = 2 + dat ds 3 % 98 := ⟨(2 + dat ds 3 % 98).toNat, by omega⟩
    have hk : 2 ≤ k ∧ k ≤ 99 := by omega
    have g4 : (S st).length + (Str.ofString "/").length ≤ sizeLine := by rw [S_len, sl2]; exact Nat.le_trans (show st.length + 1 ≤ 9 by have := hst.2.1; omega) (by decide)
    have g5 : (2 + dat ds 3 % 98).natAbs.log2 < 1920 := by rw [← ek]; exact Nat.lt_of_lt_of_le (Nat.log2_lt (by omega) |>.mpr (show k < 2 ^ 7 by omega)) (by decide)
    have g6 : Str.ofString (Int.repr (2 + dat ds 3 % 98)) = S (TL.numL k) := by rw [← ek]; exact num_S k
    have g7 : (S st ++ Str.ofString "/").length + (S (TL.numL k)).length ≤ sizeLine := by
      rw [slash, S_cat, S_len, S_len, List.length_append]
      exact Nat.le_trans (show st.length + [47].length + (TL.numL k).length ≤ 11 by have := hst.2.1; have := numL_len hk.2; simp; omega) (by decide)
    have w2 : WW (S st ++ Str.ofString "/" ++ S (TL.numL k)) := by
      rw [cat_slash]
      exact ⟨st, hst, .inr ⟨k, hk.1, hk.2, rfl⟩⟩
    have R1 := R _ w1 (some (false, .val (.str (S st))))
    have R2 := R _ w2 (some (false, .val (.str (S st))))
    have R3 := R (S l) ⟨l, hl, .inl rfl⟩ (some (false, .val (.str (S st))))
    have sp : splitS w0 (.val (.str (Str.ofString "/"))) = some (.lst ((S st :: r).map .str)) := by
      show (if ((Str.ofString "/").length == 0) = false ∧ w0.length + 2 ≤ sizeLine then some (O.lst ((Txt.split w0 (Str.ofString "/")).map PyData.str)) else none) = _
      rw [esp]
      simp [sl1, sl2]
    by_cases q1 : dat ds 2 % 4 = 1
    · have q2 : ¬ dat ds 2 % 4 = 2 := by omega
      simp [-List.map_map, c_l_name_1, a0, a1, a2, a3, hm1, hm2, ← em, e1, jj, hp', hp, ew0, sp, q1, q2, g1, g2, g3]
      simpa using R1
    · by_cases q2 : dat ds 2 % 4 = 2
      · simp [-List.map_map, c_l_name_1, a0, a1, a2, a3, hm1, hm2, ← em, e1, jj, hp', hp, ew0, sp, q1, q2, g4, g5, g6, g7]
        simpa using R2
      · simp [-List.map_map, c_l_name_1, a0, a1, a2, a3, hm1, hm2, ← em, e1, jj, hp', hp, ew0, sp, q1, q2]
        simpa using R3
end Eng
/-! The laws' makers of books, II: names, told words, books. -/
namespace Eng
open PySem PySem.Spec L2 SX
open PyProof.Rows hiding St
theorem small {n m : Nat} (h : n ≤ m) (hm : m < sizeLine := by decide) : n < sizeLine := Nat.lt_of_le_of_lt h hm
/-- so many words, no two alike -/
def Nm (n : Nat) (ws : List Str) : Prop := ws.length = n ∧ ws.Nodup ∧ ∀ w ∈ ws, WW w
theorem l_names_ex (ns : List Int) (base : Int) (n : Nat) (hb : 0 ≤ base ∧ base ≤ 10000) (hn : n ≤ 39) : ∃ ws, f_l_names [.scr ns, .val (.int base), .val (.int n)] = .ret (.lst (ws.map .str)) [.scr ns, .val (.int base), .val (.int n)] ∧ Nm n ws := by
  obtain ⟨ρ', e, ws, hw, rfl⟩ := forL_rng (lo := 0) (T := .nm 4) (fg := [4]) (b := w_l_names_1)
    (fun k ρ => ∃ ws : List Str, Nm k ws ∧ ρ = [some (false, .scr ns), some (false, .val (.int base)), some (false, .val (.int n)), some (false, .lst (ws.map .str)), none])
    n [some (false, .scr ns), some (false, .val (.int base)), some (false, .val (.int n)), some (false, .lst []), none] ⟨[], by simp [Nm], rfl⟩ (by
    rintro k ρ hk ⟨ws, ⟨hl, hd, hw⟩, rfl⟩
    obtain ⟨c, ec⟩ := l_cell_ex ns (base + k) (by omega)
    obtain ⟨ds, ed, hds⟩ := l_drawn_ex c 12 (by omega)
    obtain ⟨w, ew, h1, h2⟩ := l_name_ex ds ws hds (by omega) hw
    have z : ws.length < sizeLine := small (m := 39) (by omega)
    simp at ed
    refine ⟨_, by simp [-List.map_map, turn_ap, w_l_names_1, ec, ed, ew, z]; rfl, ws ++ [w], ⟨by simp [hl], ?_, ?_⟩, by simp⟩
    · rw [List.nodup_append]
      refine ⟨hd, by simp, fun a ha b hb e => h2 ?_⟩
      rw [List.mem_singleton] at hb
      rw [← hb, ← e]
      exact ha
    · intro v hv
      rw [List.mem_append, List.mem_singleton] at hv
      rcases hv with h | rfl
      · exact hw v h
      · exact h1)
  refine ⟨ws, ?_, hw⟩
  have hb : (n : Int) ≤ 1000000 := by omega
  have hb' : (-4611686018427387904 : Int) ≤ n := by omega
  simp [f_l_names, b_l_names, runF_ap, hb, hb']
  rw [e]
  simp
/-- words told: nought to eight of these, no two alike -/
def Td (ns ws : List Str) : Prop := ws.length ≤ 8 ∧ ws.Nodup ∧ ∀ w ∈ ws, w ∈ ns
theorem l_told_many (i : Int) (h0 : 0 ≤ i) (h1 : i < 10) : ∃ n : Nat, n ≤ 8 ∧ atI [PyData.int 0, PyData.int 0, PyData.int 1, PyData.int 1, PyData.int 1, PyData.int 2, PyData.int 2, PyData.int 2, PyData.int 3, PyData.int 8] i = some (.int n) := by
  have e : [PyData.int 0, PyData.int 0, PyData.int 1, PyData.int 1, PyData.int 1, PyData.int 2, PyData.int 2, PyData.int 2, PyData.int 3, PyData.int 8] = ([0, 0, 1, 1, 1, 2, 2, 2, 3, 8] : List Nat).map fun n : Nat => PyData.int n := rfl
  have hl : i.toNat < ([0, 0, 1, 1, 1, 2, 2, 2, 3, 8] : List Nat).length := by
    show i.toNat < 10
    omega
  refine ⟨([0, 0, 1, 1, 1, 2, 2, 2, 3, 8] : List Nat)[i.toNat], ?_, ?_⟩
  · have : ∀ n ∈ ([0, 0, 1, 1, 1, 2, 2, 2, 3, 8] : List Nat), n ≤ 8 := by decide
    exact this _ (List.getElem_mem hl)
  · rw [e, atI_map, atI_nat' _ _ h0 (by show i < 10; omega), List.getElem?_eq_getElem hl]
    rfl
theorem at_strs {ns : List Str} {i : Int} (h0 : 0 ≤ i) (h1 : i < ns.length) : ∃ w, atI (ns.map PyData.str) i = some (.str w) ∧ w ∈ ns := by
  have hl : i.toNat < ns.length := by omega
  refine ⟨ns[i.toNat], ?_, List.getElem_mem hl⟩
  rw [atI_map, atI_nat' _ _ h0 h1, List.getElem?_eq_getElem hl]
  rfl
end Eng
/-! The laws' makers of books, III: rows as keys, books. -/
namespace Eng
open PySem PySem.Spec L2 SX
open PyProof.Rows hiding St
theorem eqvAll_strs (a b : List Str) : PyData.eqvAll (a.map PyData.str) (b.map PyData.str) = decide (a = b) := by
  induction a generalizing b with
  | nil => cases b <;> simp [PyData.eqvAll]
  | cons x a ih =>
    cases b with
    | nil => simp [PyData.eqvAll]
    | cons y b =>
      simp only [List.map_cons, PyData.eqvAll, PyData.eqv, ih]
      by_cases h : x = y
      · by_cases h2 : a = b <;> simp [h, h2]
      · simp [h]
theorem eqv_eW (a b : List Str) : PyData.eqv (eW a) (eW b) = decide (a = b) := by
  simp only [eW, PyData.eqv, eqvAll_strs]
theorem eqv_row (r s : Row) : PyData.eqv (eRow r) (eRow s) = decide (r = s) := by
  obtain ⟨x, a⟩ := r
  obtain ⟨y, b⟩ := s
  simp only [eRow, PyData.eqv, PyData.eqvAll, eqv_eW]
  by_cases h : x = y
  · by_cases h2 : a = b <;> simp [h, h2]
  · simp [h]
theorem nkeys_strs (ws : List Str) : nkey.nkeys (ws.map PyData.str) = some (ws.map NestedKey.text) := by
  induction ws with
  | nil => rfl
  | cons w ws ih => simp [nkey.nkeys, nkey, ih]
theorem depth_texts (ws : List Str) : NestedKey.depthAll (ws.map NestedKey.text) = 0 := by
  induction ws with
  | nil => simp [NestedKey.depthAll]
  | cons w ws ih => simp [NestedKey.depthAll, NestedKey.depth, ih]
theorem nkey_row (r : Row) : (nkOf (eRow r)).isSome = true := by
  obtain ⟨x, a⟩ := r
  unfold nkOf
  simp [eRow, eW, nkey, nkey.nkeys, nkeys_strs, NestedKey.depth, NestedKey.depthAll, depth_texts]
/-- a dict whose keys are rows -/
def rd (rs : List Row) : List (D × D) := rs.map fun r => (eRow r, .bool true)
def addR (rs : List Row) (r : Row) : List Row := if r ∈ rs then rs else rs ++ [r]
theorem dOk_rd (rs : List Row) (r : Row) : dOk (rd rs) (eRow r) = true := by
  simp [dOk, rd, nkey_row]
theorem dhas_rd (rs : List Row) (r : Row) : dhas (rd rs) (eRow r) = decide (r ∈ rs) := by
  unfold dhas rd
  rw [List.any_map]
  induction rs with
  | nil => simp
  | cons s rs ih =>
    rw [List.any_cons, ih]
    simp only [Function.comp, eqv_row]
    by_cases h : s = r
    · simp [h]
    · have : ¬ r = s := fun e => h e.symm
      simp [h, this]
theorem dput_rd (rs : List Row) (r : Row) : dput (rd rs) (eRow r) (.bool true) = rd (addR rs r) := by
  unfold dput addR
  rw [dhas_rd]
  by_cases h : r ∈ rs
  · simp only [h, decide_true, if_true]
    unfold rd
    rw [List.map_map]
    refine List.map_congr_left fun w hw => ?_
    simp only [Function.comp]
    split <;> rfl
  · simp only [h, decide_false, Bool.false_eq_true, if_false]
    unfold rd
    rw [List.map_append]
    rfl
@[simp] theorem inS_rd (r : Row) (rs : List Row) : inS (.val (eRow r)) (.dic (rd rs)) = some (.val (.bool (decide (r ∈ rs)))) := by
  unfold inS hasS
  simp only [dOk_rd, dhas_rd, if_true]
  rfl
@[simp] theorem notinS_rd (r : Row) (rs : List Row) : notinS (.val (eRow r)) (.dic (rd rs)) = some (.val (.bool (!decide (r ∈ rs)))) := by
  unfold notinS hasS
  simp only [dOk_rd, dhas_rd, if_true]
  rfl
theorem len_rd (rs : List Row) : (rd rs).length = rs.length := by simp [rd]
@[simp] theorem setS_rd (r : Row) (rs : List Row) : setS (.dic (rd rs)) (eRow r) (.bool true) = if rs.length < sizeLine then some (.dic (rd (addR rs r))) else none := by
  unfold setS
  simp only [dOk_rd, dput_rd, len_rd, true_and]
@[simp] theorem ixS_row0 (r : Row) : ixS (.val (eRow r)) (.val (.int 0)) = some (.val (.str r.1)) := by
  simp [eRow]
@[simp] theorem ixS_row1 (r : Row) : ixS (.val (eRow r)) (.val (.int 1)) = some (.val (eW r.2)) := by
  simp [eRow]
@[simp] theorem seq_eW (ws : List Str) : (O.val (eW ws)).seq? = some (ws.map .str) := rfl
@[simp] theorem itemsD_eW (ws : List Str) : itemsD (eW ws) = some (ws.map .str) := rfl
@[simp] theorem sortS_eW (ws : List Str) : sortS (.val (eW ws)) = if ws.length ≤ sizeLine then some (.lst ((sortT ws).map PyData.str)) else none := sortS_tup ws
@[simp] theorem inS_eW (x : Str) (ws : List Str) : inS (.val (.str x)) (.val (eW ws)) = some (.val (.bool (decide (x ∈ ws)))) := inS_tup x ws
@[simp] theorem notinS_eW (x : Str) (ws : List Str) : notinS (.val (.str x)) (.val (eW ws)) = some (.val (.bool (!decide (x ∈ ws)))) := notinS_tup x ws
@[simp] theorem lenS_eW (ws : List Str) : lenS (.val (eW ws)) = some (.val (.int ws.length)) := by simp [eW]
/-- the row with its words told sorted -/
def keyR (r : Row) : Row := (r.1, sortT r.2)
/-- a row of a book over these words -/
def Rw (ns : List Str) (r : Row) : Prop := r.1 ∈ ns ∧ Td ns r.2
/-- a book: at most so many rows, no two alike, over these words -/
structure Bk (ns : List Str) (n : Nat) (b : List Row) : Prop where
  len : b.length ≤ n
  row : ∀ r ∈ b, Rw ns r
  key : (b.map keyR).Nodup
theorem Bk.mono {ns : List Str} {n m : Nat} {b : List Row} (h : Bk ns n b) (hn : n ≤ m) : Bk ns m b := ⟨Nat.le_trans h.len hn, h.row, h.key⟩
end Eng
/-! Rounds. -/
namespace Eng
open PySem PySem.Spec L2 SX
open PyProof.Rows hiding St
/-- a book that the defs are asked about -/
structure Bo (b : List Row) : Prop where
  len : b.length ≤ 200
  row : ∀ r ∈ b, WW r.1 ∧ r.2.length ≤ 20 ∧ ∀ w ∈ r.2, WW w
theorem Bk.bo {ns : List Str} {n : Nat} {b : List Row} (h : Bk ns n b) (hn : n ≤ 200) (hw : ∀ w ∈ ns, WW w) : Bo b :=
  ⟨Nat.le_trans h.len hn, fun r hr => by
    have := h.row r hr
    exact ⟨hw _ this.1, Nat.le_trans this.2.1 (by decide), fun w h2 => hw _ (this.2.2.2 w h2)⟩⟩
@[simp] theorem itemsD_eBk (b : List Row) : itemsD (eBk b) = some (b.map eRow) := rfl
@[simp] theorem lenS_eBk (b : List Row) : lenS (.val (eBk b)) = some (.val (.int b.length)) := by simp [eBk]
@[simp] theorem Tgt_row (i j : Nat) (r : Row) (ρ : En) : (Tgt.tup [i, j]).put (eRow r) ρ = setDs [i, j] [.str r.1, eW r.2] ρ := rfl
@[simp] theorem own_eRow (r : Row) : (O.val (eRow r)).own = false := rfl
theorem allS_map {α : Type} (f : α → Bool) (xs : List α) : allS (.lst (xs.map fun x => PyData.bool (f x))) = some (.val (.bool (xs.all f))) := by
  have : (xs.map fun x => PyData.bool (f x)) = (xs.map f).map PyData.bool := by rw [List.map_map]; rfl
  rw [this]
  simp only [allS_ap, list_lst, Option.bind_some, asBools_map, Option.map_some]
  rw [List.all_map]
  rfl
theorem WW.ok {w : Str} (h : WW w) : PyData.strOk w = true := by
  have key : ∀ l : List Nat, (∀ c ∈ l, c < 200) → PyData.strOk (S l) = true := fun l hl => by
    unfold PyData.strOk
    rw [← Array.all_toList]
    simp only [List.all_eq_true, decide_eq_true_eq]
    intro c hc
    have := hl c hc
    omega
  obtain ⟨l, hl, rfl | ⟨n, h2, h9, rfl⟩⟩ := h
  · exact key l fun c hc => by have := hl.2.2 c hc; omega
  · refine key _ fun c hc => ?_
    rcases List.mem_append.mp hc with h | h
    · have := hl.2.2 c h; omega
    · rcases List.mem_cons.mp h with rfl | h
      · omega
      · have := TL.numL_digits n c h
        omega
theorem canAll_strs {ws : List Str} (h : ∀ w ∈ ws, WW w) : PyData.canLayAll0 (ws.map PyData.str) = true := by
  induction ws with
  | nil => rfl
  | cons w ws ih =>
    simp only [List.map_cons, PyData.canLayAll0, PyData.canLay0, Bool.and_eq_true]
    exact ⟨(h w List.mem_cons_self).ok, ih fun v hv => h v (List.mem_cons_of_mem _ hv)⟩
theorem depthAll_strs (ws : List Str) : PyData.depthAll (ws.map PyData.str) = 0 := by
  induction ws with
  | nil => rfl
  | cons w ws ih => simp [PyData.depthAll, PyData.depth, ih]
theorem shaped_list {ws : List Str} (h : ∀ w ∈ ws, WW w) : SeqAt.shaped (.list (ws.map PyData.str)) = true := by
  unfold SeqAt.shaped
  simp [PyData.canLay0, canAll_strs h, PyData.depth, depthAll_strs]
theorem eqS_lsts {a b : List Str} (ha : ∀ w ∈ a, WW w) (hb : ∀ w ∈ b, WW w) : eqS (.lst (a.map PyData.str)) (.lst (b.map PyData.str)) = some (.val (.bool (decide (a = b)))) := by
  simp only [eqS, view_lst, eqD?, shaped_list ha, shaped_list hb, Bool.and_self, Bool.or_true, if_true, PyData.eqv, eqvAll_strs, Option.map_some]
/-! ### rounds, plainly -/
/-- the row's word is new, and what is told is known -/
def rdy (k : List Str) (r : Row) : Bool := !decide (r.1 ∈ k) && r.2.all fun w => decide (w ∈ k)
def heads (b : List Row) : List Str := b.map (·.1)
/-- the words that come next -/
def frs (b : List Row) (k : List Str) : List Str := sortT (metT (heads (b.filter (rdy k))))
def rndF (b : List Row) : Nat → List Str → List (List Str)
  | 0, _ => []
  | n + 1, k => if frs b k = [] then [] else frs b k :: rndF b n (k ++ frs b k)
/-- the rounds of a book -/
def rnd (b : List Row) : List (List Str) := rndF b (b.length + 1) []
theorem frs_mem {b : List Row} {k : List Str} {w : Str} : w ∈ frs b k ↔ ∃ r ∈ b, r.1 = w ∧ rdy k r = true := by
  unfold frs heads
  rw [mem_sortT, mem_metT, List.mem_map]
  constructor
  · rintro ⟨r, hr, rfl⟩
    rw [List.mem_filter] at hr
    exact ⟨r, hr.1, rfl, hr.2⟩
  · rintro ⟨r, hr, rfl, h⟩
    exact ⟨r, List.mem_filter.mpr ⟨hr, h⟩, rfl⟩
theorem frs_nodup (b : List Row) (k : List Str) : (frs b k).Nodup := sortT_nodup (metT_nodup _)
theorem frs_new {b : List Row} {k : List Str} {w : Str} (h : w ∈ frs b k) : w ∉ k := by
  obtain ⟨r, hr, rfl, q⟩ := frs_mem.mp h
  unfold rdy at q
  simp only [Bool.and_eq_true, Bool.not_eq_true', decide_eq_false_iff_not] at q
  exact q.1
theorem foldT_app : ∀ (ys xs : List Str), ys.Nodup → (∀ y ∈ ys, y ∉ xs) → ys.foldl addT xs = xs ++ ys
  | [], xs, _, _ => by simp
  | y :: ys, xs, hn, h => by
    have h1 := List.nodup_cons.mp hn
    have e : addT xs y = xs ++ [y] := by
      unfold addT
      rw [if_neg (h y List.mem_cons_self)]
    rw [List.foldl_cons, e, foldT_app ys _ h1.2 fun z hz => by
      rw [List.mem_append, List.mem_singleton]
      rintro (q | rfl)
      · exact h z (List.mem_cons_of_mem _ hz) q
      · exact h1.1 hz]
    simp
/-- rows whose word is not known: fewer and fewer -/
def left (b : List Row) (k : List Str) : Nat := (b.filter fun r => !decide (r.1 ∈ k)).length
theorem left_le (b : List Row) (k : List Str) : left b k ≤ b.length := List.length_filter_le _ _
theorem filter_lt {α : Type} {p q : α → Bool} : ∀ {l : List α}, (∀ x ∈ l, q x = true → p x = true) → (∃ x ∈ l, p x = true ∧ q x = false) → (l.filter q).length < (l.filter p).length
  | [], _, h => by obtain ⟨x, hx, _⟩ := h; simp at hx
  | x :: l, hpq, h => by
    have le : (l.filter q).length ≤ (l.filter p).length := by
      clear h
      induction l with
      | nil => simp
      | cons y l ih =>
        have ih := ih fun z hz => hpq z (by simp only [List.mem_cons] at hz ⊢; rcases hz with h | h; exact .inl h; exact .inr (.inr h))
        have hy := hpq y (by simp)
        rw [List.filter_cons, List.filter_cons]
        cases hq : q y with
        | true => simp [hy hq]; omega
        | false =>
          cases hp : p y with
          | true => simp; omega
          | false => simp; omega
    rw [List.filter_cons, List.filter_cons]
    cases hq : q x with
    | true =>
      have hp := hpq x List.mem_cons_self hq
      simp only [hp, if_true, List.length_cons]
      have : (l.filter q).length < (l.filter p).length := filter_lt (fun y hy => hpq y (List.mem_cons_of_mem _ hy)) (by
        obtain ⟨y, hy, h1, h2⟩ := h
        rcases List.mem_cons.mp hy with rfl | hy
        · rw [hq] at h2; cases h2
        · exact ⟨y, hy, h1, h2⟩)
      omega
    | false =>
      simp only [Bool.false_eq_true, if_false]
      cases hp : p x with
      | true => simp only [if_true, List.length_cons]; omega
      | false =>
        simp only [Bool.false_eq_true, if_false]
        exact filter_lt (fun y hy => hpq y (List.mem_cons_of_mem _ hy)) (by
          obtain ⟨y, hy, h1, h2⟩ := h
          rcases List.mem_cons.mp hy with rfl | hy
          · rw [hp] at h1; cases h1
          · exact ⟨y, hy, h1, h2⟩)
theorem left_lt {b : List Row} {k : List Str} (h : frs b k ≠ []) : left b (k ++ frs b k) < left b k := by
  obtain ⟨w, hw⟩ := List.exists_mem_of_ne_nil _ h
  obtain ⟨r, hr, e, q⟩ := frs_mem.mp hw
  have hn := frs_new hw
  refine filter_lt (fun s hs h1 => ?_) ⟨r, hr, ?_, ?_⟩
  · simp only [List.mem_append, Bool.not_eq_true', decide_eq_false_iff_not] at h1 ⊢
    exact fun h => h1 (.inl h)
  · simpa [e] using hn
  · simp [e, hw]
end Eng
/-! Rounds: the defs. -/
namespace Eng
open PySem PySem.Spec L2 SX
open PyProof.Rows hiding St
theorem metT_snoc (xs : List Str) (x : Str) : metT (xs ++ [x]) = addT (metT xs) x := by
  unfold metT
  rw [List.foldl_append]
  rfl
theorem heads_snoc (p : Row → Bool) (done : List Row) (r : Row) : heads ((done ++ [r]).filter p) = heads (done.filter p) ++ if p r = true then [r.1] else [] := by
  unfold heads
  rw [List.filter_append, List.map_append]
  cases h : p r <;> simp [h]
theorem heads_len {p : Row → Bool} {b done rest : List Row} (hb : b.length ≤ 200) (h : b = done ++ rest) : (metT (heads (done.filter p))).length ≤ 200 := by
  have h1 := len_metT (heads (done.filter p))
  have h2 : (heads (done.filter p)).length ≤ done.length := by
    unfold heads
    rw [List.length_map]
    exact List.length_filter_le _ _
  have h3 : done.length ≤ b.length := by rw [h]; simp
  omega
theorem next_round_eq (b : List Row) (k : List Str) (h : Bo b) : f_next_round [.val (eBk b), .dic (kd k)] = .ret (.lst ((frs b k).map .str)) [.val (eBk b), .dic (kd k)] := by
  obtain ⟨ρ', e, rfl⟩ := forL_all (f := eRow) (T := .tup [3, 4]) (fg := [3, 4]) (b := w_next_round_1)
    (fun done ρ => ρ = [some (false, .val (eBk b)), some (true, .dic (kd k)), some (false, .dic (kd (metT (heads (done.filter (rdy k)))))), none, none, none]) b
    [some (false, .val (eBk b)), some (true, .dic (kd k)), some (false, .dic (kd [])), none, none, none] rfl (by
    rintro done r rest ρ hb rfl
    refine ⟨_, ?_, rfl⟩
    have hz := heads_len (p := rdy k) h.len hb
    have hz' : (metT (heads (done.filter (rdy k)))).length < sizeLine := small hz
    have c := lc_all (f := PyData.str) (c := none) (T := .nm 5) (t := tTrue) (g := o2 inS (oNm 5) (oNm 1)) (own := [5])
      (ρ := [some (false, .val (eBk b)), some (true, .dic (kd k)), some (false, .dic (kd (metT (heads (done.filter (rdy k)))))), some (false, .val (.str r.1)), some (false, .val (eW r.2)), none])
      (fun w => .bool (decide (w ∈ k))) r.2 (by simp) (by intro w hw; simp [lturn_ap])
    simp [-List.map_map] at c
    have a := allS_map (fun w => decide (w ∈ k)) r.2
    rw [heads_snoc]
    by_cases h1 : r.1 ∈ k
    · simp [-List.map_map, -allS_ap, -List.all_eq_true, turn_ap, w_next_round_1, h1, rdy]
    · cases h2 : (r.2.all fun w => decide (w ∈ k)) with
      | true => simp [-List.map_map, -allS_ap, -List.all_eq_true, turn_ap, w_next_round_1, c_next_round_1, h1, rdy, c, a, h2, hz', metT_snoc]
      | false => simp [-List.map_map, -allS_ap, -List.all_eq_true, turn_ap, w_next_round_1, c_next_round_1, h1, rdy, c, a, h2])
  have hz := heads_len (p := rdy k) (b := b) (done := b) (rest := []) h.len (by simp)
  simp [-List.map_map, f_next_round, b_next_round, runF_ap]
  rw [← kd_nil, e]
  have hz' : (metT (heads (b.filter (rdy k)))).length ≤ sizeLine := Nat.le_of_lt (small hz)
  simp [-List.map_map, hz', frs]
/-- words that are heads of rows, none twice: what is known -/
def Kn (b : List Row) (k : List Str) : Prop := k.Nodup ∧ ∀ w ∈ k, w ∈ heads b
theorem Kn.len {b : List Row} {k : List Str} (h : Kn b k) : k.length ≤ b.length := by
  have := sub_len h.1 h.2
  unfold heads at this
  rwa [List.length_map] at this
theorem Kn.nil (b : List Row) : Kn b [] := ⟨List.nodup_nil, by simp⟩
theorem frs_head {b : List Row} {k : List Str} {w : Str} (h : w ∈ frs b k) : w ∈ heads b := by
  obtain ⟨r, hr, rfl, _⟩ := frs_mem.mp h
  exact List.mem_map_of_mem hr
theorem Kn.add {b : List Row} {k : List Str} {w : Str} (h : Kn b k) (hw : w ∈ heads b) : Kn b (addT k w) := ⟨addT_nodup h.1, fun v hv => by
  rcases mem_addT.mp hv with h1 | rfl
  · exact h.2 v h1
  · exact hw⟩
theorem Kn.app {b : List Row} {k : List Str} (h : Kn b k) : Kn b (k ++ frs b k) := ⟨List.nodup_append.mpr ⟨h.1, frs_nodup b k, fun a ha c hc e => frs_new hc (e ▸ ha)⟩, fun v hv => by
  rcases List.mem_append.mp hv with h1 | h1
  · exact h.2 v h1
  · exact frs_head h1⟩
theorem fold_frs (b : List Row) (k : List Str) : (frs b k).foldl addT k = k ++ frs b k := foldT_app _ _ (frs_nodup b k) fun y hy => frs_new hy
theorem rdy_nil (r : Row) : rdy [] r = decide (r.2.length = 0) := by
  unfold rdy
  cases h : r.2 with
  | nil => simp
  | cons w ws => simp
def eL (ws : List Str) : D := .list (ws.map PyData.str)
@[simp] theorem itemsD_eL (ws : List Str) : itemsD (eL ws) = some (ws.map .str) := rfl
@[simp] theorem list_eL (ws : List Str) : PyData.list (ws.map PyData.str) = eL ws := rfl
theorem rounds_while (b : List Row) (hb : Bo b) : ∀ (n : Nat) (k : List Str) (found : List (List Str)), left b k < n → Kn b k → found.length + left b k ≤ 200 → ∃ k', sWhile t_rounds_1 [4] w_rounds_1 [some (false, .val (eBk b)), some (false, .dic (kd k)), some (false, .lst (found.map eL)), some (false, .lst ((frs b k).map .str)), none, none] =
    .nx [some (false, .val (eBk b)), some (false, .dic (kd k')), some (false, .lst ((found ++ rndF b n k).map eL)), some (false, .lst []), none, none]
  | 0, _, _, h, _, _ => absurd h (Nat.not_lt_zero _)
  | n + 1, k, found, h, hk, hf => by
    unfold rndF
    by_cases h0 : frs b k = []
    · refine ⟨k, ?_⟩
      rw [sWhile_done (ρ1 := [some (false, .val (eBk b)), some (false, .dic (kd k)), some (false, .lst (found.map eL)), some (false, .lst ((frs b k).map .str)), none, none]) (by simp [t_rounds_1, h0])]
      simp [h0]
    · have hl : 0 < (frs b k).length := List.length_pos_iff.mpr h0
      have hlt := left_lt h0
      obtain ⟨k', ih⟩ := rounds_while b hb n (k ++ frs b k) (found ++ [frs b k]) (by omega) hk.app (by simp; omega)
      refine ⟨k', ?_⟩
      obtain ⟨e, _⟩ := forL_map (f := PyData.str) (T := .nm 4) (fg := [4]) (b := w_rounds_2)
        (fun kn => [some (false, .val (eBk b)), some (false, .dic (kd kn)), some (false, .lst ((found ++ [frs b k]).map eL)), some (false, .val (eL (frs b k))), none, none]) addT (Kn b) (frs b k) k hk (by
        intro s x hx hs
        refine ⟨?_, hs.add (frs_head hx)⟩
        have z : s.length < sizeLine := small (m := 200) (Nat.le_trans hs.len hb.len)
        simp [-List.map_map, turn_ap, w_rounds_2, z])
      rw [fold_frs] at e
      have nx := next_round_eq b (k ++ frs b k) hb
      have z : found.length < sizeLine := small (m := 200) (by omega)
      rw [sWhile_turn (ρ1 := [some (false, .val (eBk b)), some (false, .dic (kd k)), some (false, .lst (found.map eL)), some (false, .lst ((frs b k).map .str)), none, none])
        (ρ2 := [some (false, .val (eBk b)), some (false, .dic (kd (k ++ frs b k))), some (false, .lst ((found ++ [frs b k]).map eL)), some (false, .lst ((frs b (k ++ frs b k)).map .str)), none, none]) (by simp [t_rounds_1, hl]) (.inl (by
        simp [-List.map_map, w_rounds_1, z]
        simp [-List.map_map] at e
        simp [-List.map_map, e, nx]))]
      simp [-List.map_map, h0] at ih ⊢
      exact ih
theorem rounds_eq (b : List Row) (hb : Bo b) : f_rounds [.val (eBk b)] = .ret (.lst ((rnd b).map eL)) [.val (eBk b)] := by
  have c1 := lc_if (f := eRow) (c := none) (T := .nm 5) (t := (tV (o2 eqS (o1 lenS (o2 ixS (oNm 5) (oC (.int 1)))) (oC (.int 0))))) (g := o2 ixS (oNm 5) (oC (.int 0))) (own := [5])
      (ρ := [some (false, .val (eBk b)), some (false, .dic (kd [])), some (false, .lst []), none, none, none])
      (rdy []) (fun r => .str r.1) b (by simp) (by
      intro r hr
      rw [rdy_nil]
      by_cases h : r.2 = [] <;> simp [lturn_ap, h])
  have c2 := lc_all (f := PyData.str) (c := none) (T := .nm 4) (t := tTrue) (g := oNm 4) (own := [4])
      (ρ := [some (false, .val (eBk b)), some (false, .dic (kd [])), some (false, .lst []), none, none, none])
      PyData.str (frs b []) (by simp) (by intro w hw; simp [lturn_ap])
  have e1 : ((b.filter (rdy [])).map fun r => PyData.str r.1) = (heads (b.filter (rdy []))).map .str := by
    unfold heads
    rw [List.map_map]
    rfl
  rw [e1] at c1
  have hz := heads_len (p := rdy []) (b := b) (done := b) (rest := []) hb.len (by simp)
  have z1 : (metT (heads (b.filter (rdy [])))).length ≤ sizeLine := Nat.le_of_lt (small hz)
  have z2 : (heads (b.filter (rdy []))).length + 1 < scanBound := by
    have : (heads (b.filter (rdy []))).length ≤ b.length := by
      unfold heads
      rw [List.length_map]
      exact List.length_filter_le _ _
    have := hb.len
    exact Nat.lt_of_le_of_lt (show _ ≤ 201 by omega) (by decide)
  have e2 : sortT (metT (heads (b.filter (rdy [])))) = frs b [] := rfl
  obtain ⟨k', w⟩ := rounds_while b hb (b.length + 1) [] [] (by have := left_le b []; omega) (Kn.nil b) (by have := left_le b []; have := hb.len; simp; omega)
  simp [-List.map_map] at c1 c2 w
  simp [-List.map_map, f_rounds, b_rounds, runF_ap, c_rounds_1, c_rounds_2]
  rw [← kd_nil, c1]
  simp [-List.map_map, z1, z2, e2, c2, w]
  rfl
end Eng
/-! The law's rounds; learnt; order. -/
namespace Eng
open PySem PySem.Spec L2 SX
open PyProof.Rows hiding St
/-! ### what the rounds are -/
theorem rndF_flat {b : List Row} : ∀ {n : Nat} {k : List Str}, Kn b k → Kn b (k ++ (rndF b n k).flatten)
  | 0, k, h => by simpa [rndF] using h
  | n + 1, k, h => by
    unfold rndF
    split
    · simpa using h
    · have := rndF_flat (n := n) h.app
      simpa using this
theorem rnd_kn (b : List Row) : Kn b (rnd b).flatten := by
  have := rndF_flat (n := b.length + 1) (Kn.nil b)
  simpa [rnd] using this
end Eng
/-! Orders. -/
namespace Eng
open PySem PySem.Spec L2 SX
open PyProof.Rows hiding St
theorem ixS_eBk {b : List Row} {i : Nat} {r : Row} (h : b[i]? = some r) : ixS (.val (eBk b)) (.val (.int (i : Int))) = some (.val (eRow r)) := by
  have hl : i < b.length := (List.getElem?_eq_some_iff.mp h).1
  have : atI (b.map eRow) (i : Int) = some (eRow r) := by
    rw [atI_map, atI_nat' _ _ (by omega) (by omega)]
    simp [h]
  simp [eBk, this]
/-- a step: a word, the place of a row -/
abbrev Stp := Str × Nat
theorem addT_new {k : List Str} {w : Str} (h : w ∉ k) : addT k w = k ++ [w] := by
  unfold addT
  rw [if_neg h]
/-! ### steps walked -/
def Walk (b : List Row) : List Str → List Stp → Prop
  | _, [] => True
  | k, (w, n) :: st => w ∉ k ∧ (∃ r, b[n]? = some r ∧ r.1 = w ∧ ∀ v ∈ r.2, v ∈ k) ∧ Walk b (k ++ [w]) st
theorem Walk.at {b : List Row} : ∀ {done : List Stp} {k : List Str} {w : Str} {n : Nat} {rest : List Stp}, Walk b k (done ++ (w, n) :: rest) → w ∉ k ++ done.map (·.1) ∧ ∃ r, b[n]? = some r ∧ r.1 = w ∧ ∀ v ∈ r.2, v ∈ k ++ done.map (·.1)
  | [], k, w, n, rest, h => by
    obtain ⟨r, h2, h3, h4⟩ := h.2.1
    exact ⟨by simpa using h.1, r, h2, h3, by simpa using h4⟩
  | (v, m) :: done, k, w, n, rest, h => by
    have := Walk.at (done := done) h.2.2
    simpa using this
end Eng
/-! Words of books, rows of words, wider books. -/
namespace Eng
open PySem PySem.Spec L2 SX
open PyProof.Rows hiding St
/-- all words that stand in a book, as they stand -/
def wl (b : List Row) : List Str := (b.map fun r => r.1 :: r.2).flatten
/-- all words of a book, sorted -/
def wds (b : List Row) : List Str := sortT (metT (wl b))
theorem Bo.sub {b done rest : List Row} (h : Bo b) (e : b = done ++ rest) : Bo done := ⟨by
  have := h.len
  rw [e] at this
  simp at this
  omega, fun r hr => h.row r (by rw [e]; exact List.mem_append.mpr (.inl hr))⟩
theorem wds_mem {b : List Row} {w : Str} : w ∈ wds b ↔ ∃ r ∈ b, w = r.1 ∨ w ∈ r.2 := by
  unfold wds wl
  rw [mem_sortT, mem_metT, List.mem_flatten]
  constructor
  · rintro ⟨l, hl, hw⟩
    obtain ⟨r, hr, rfl⟩ := List.mem_map.mp hl
    exact ⟨r, hr, List.mem_cons.mp hw⟩
  · rintro ⟨r, hr, h⟩
    exact ⟨_, List.mem_map_of_mem hr, List.mem_cons.mpr h⟩
theorem wds_WW {b : List Row} (hb : Bo b) : ∀ w ∈ wds b, WW w := fun w h => by
  obtain ⟨r, hr, rfl | h⟩ := wds_mem.mp h
  · exact (hb.row r hr).1
  · exact (hb.row r hr).2.2 w h
/-- the places of a word's rows -/
def hd? (b : List Row) (w : Str) (i : Nat) : Bool := match b[i]? with
  | some r => decide (r.1 = w)
  | none => false
def plcs (b : List Row) (w : Str) : List Nat := (List.range b.length).filter (hd? b w)
/-! ### rows in books -/
theorem Bo.ww {b : List Row} (h : Bo b) : ∀ r ∈ b, WW r.1 ∧ ∀ w ∈ r.2, WW w := fun r hr => ⟨(h.row r hr).1, (h.row r hr).2.2⟩
end Eng
/-! Data within all lines: repr, ==. -/
namespace Eng
open PySem PySem.Spec L2 SX
open PyProof.Rows hiding St
/-- data that lies within the lines: at most so deep, at most so heavy -/
structure Gd (d : D) (k W : Nat) : Prop where
  lay : d.canLay0 = true
  shw : d.showable = true
  shrt : d.intsShort 13 = true
  deep : d.depth ≤ k
  heavy : d.weight ≤ W
theorem Gd.mono {d : D} {k k' W W' : Nat} (h : Gd d k W) (hk : k ≤ k') (hW : W ≤ W') : Gd d k' W' := ⟨h.lay, h.shw, h.shrt, Nat.le_trans h.deep hk, Nat.le_trans h.heavy hW⟩
theorem Gd.str {x : Str} (h : PyData.strOk x = true) {n : Nat} (hl : x.length ≤ n) : Gd (.str x) 0 n := ⟨by simpa [PyData.canLay0] using h, by simp [PyData.showable], by simp [PyData.intsShort], by simp [PyData.depth], by simpa [PyData.weight, Str.length] using hl⟩
theorem WW.gd {w : Str} (h : WW w) : Gd (.str w) 0 11 := .str h.ok h.len.1
theorem Gd.bool (b : Bool) : Gd (.bool b) 0 0 := ⟨by simp [PyData.canLay0], by simp [PyData.showable], by simp [PyData.intsShort], by simp [PyData.depth], by simp [PyData.weight]⟩
theorem log2_le {n : Nat} (h : n < 1000000000000) : n.log2 ≤ 40 := by
  by_cases h0 : n = 0
  · subst h0; decide
  · have := (Nat.log2_lt h0 (k := 41)).mpr (by omega)
    omega
theorem Gd.int {i : Int} (h0 : 0 ≤ i) (h : i < 1000000000000) : Gd (.int i) 0 41 := by
  have hl := log2_le (n := i.natAbs) (by omega)
  refine ⟨by simp [PyData.canLay0], ?_, ?_, by simp [PyData.depth], ?_⟩
  · simp only [PyData.showable, decide_eq_true_eq]
    omega
  · simp only [PyData.intsShort, decide_eq_true_eq]
    have : (Str.ofString (toString i)).length ≤ 12 := toString_length_le h0 (by decide) (by show i < 1000000000000; exact h)
    have e : PyData.shown (.int i) = Str.ofString (toString i) := by rw [PyData.shown]
    rw [e]
    omega
  · simp only [PyData.weight]
    split <;> omega
theorem Gd.all {xs : List D} {k W : Nat} (h : ∀ x ∈ xs, Gd x k W) : PyData.canLayAll0 xs = true ∧ PyData.showableAll xs = true ∧ PyData.intsShortAll 13 xs = true ∧ PyData.depthAll xs ≤ k ∧ PyData.weightAll xs ≤ xs.length * (W + 1) := by
  induction xs with
  | nil => exact ⟨rfl, rfl, rfl, Nat.zero_le _, by simp [PyData.weightAll]⟩
  | cons x xs ih =>
    have g := h x List.mem_cons_self
    obtain ⟨i1, i2, i3, i4, i5⟩ := ih fun y hy => h y (List.mem_cons_of_mem _ hy)
    have := g.heavy
    refine ⟨by simp [PyData.canLayAll0, g.lay, i1], by simp [PyData.showableAll, g.shw, i2], by simp [PyData.intsShortAll, g.shrt, i3], ?_, ?_⟩
    · simp only [PyData.depthAll]
      exact Nat.max_le.mpr ⟨g.deep, i4⟩
    · simp only [PyData.weightAll, List.length_cons, Nat.add_mul]
      omega
theorem Gd.list {xs : List D} {k W : Nat} (h : ∀ x ∈ xs, Gd x k W) : Gd (.list xs) (k + 1) (xs.length * (W + 1)) := by
  obtain ⟨i1, i2, i3, i4, i5⟩ := Gd.all h
  exact ⟨by simpa [PyData.canLay0] using i1, by simpa [PyData.showable] using i2, by simpa [PyData.intsShort] using i3, by simpa [PyData.depth] using i4, by simpa [PyData.weight] using i5⟩
theorem Gd.tup {xs : List D} {k W : Nat} (h : ∀ x ∈ xs, Gd x k W) : Gd (.tuple xs) (k + 1) (xs.length * (W + 1)) := by
  obtain ⟨i1, i2, i3, i4, i5⟩ := Gd.all h
  exact ⟨by simpa [PyData.canLay0] using i1, by simpa [PyData.showable] using i2, by simpa [PyData.intsShort] using i3, by simpa [PyData.depth] using i4, by simpa [PyData.weight] using i5⟩
theorem Gd.map {α : Type} {f : α → D} {xs : List α} {k W : Nat} (h : ∀ x ∈ xs, Gd (f x) k W) : ∀ y ∈ xs.map f, Gd y k W := fun y hy => by
  obtain ⟨x, hx, rfl⟩ := List.mem_map.mp hy
  exact h x hx
theorem Gd.shaped {d : D} {k W : Nat} (h : Gd d k W) (hk : k ≤ 64) : SeqAt.shaped d = true := by
  unfold SeqAt.shaped
  have := h.deep
  simp [h.lay]
  omega
theorem Gd.repr {o : O} {d : D} {k W : Nat} (ho : o.view? = some d) (h : Gd d k W) (hk : k ≤ 32) (hW : W ≤ 1048576) : reprS o = some (.val (.str d.shown)) := by
  have h1 : d.layable0 = true := by
    unfold PyData.layable0
    have := h.deep
    have := h.heavy
    simp [h.lay]
    omega
  have h2 := shown_le13 h1 h.shrt
  have h3 : d.shown.length ≤ sizeLine := Nat.le_trans h2 (by decide)
  unfold reprS
  rw [ho]
  have := h.deep
  simp only
  rw [if_pos ⟨h.shw, PyData.hasDict_of_canLay d h.lay, by omega, h3⟩]
theorem Gd.eq {a b : O} {d : D} {k W : Nat} (ha : a.view? = some d) (hb : b.view? = some d) (h : Gd d k W) (hk : k ≤ 64) : eqS a b = some (.val (.bool true)) := by
  unfold eqS
  rw [ha, hb]
  simp [eqD?, h.shaped hk, SeqAt.eqv_refl d h.lay]
theorem Gd.ne {a b : O} {d : D} {k W : Nat} (ha : a.view? = some d) (hb : b.view? = some d) (h : Gd d k W) (hk : k ≤ 64) : neS a b = some (.val (.bool false)) := by
  unfold neS
  rw [ha, hb]
  simp [eqD?, h.shaped hk, SeqAt.eqv_refl d h.lay]
theorem Gd.strs {ws : List Str} (h : ∀ w ∈ ws, WW w) : Gd (.list (ws.map PyData.str)) 1 (ws.length * 12) := by
  have := Gd.list (xs := ws.map PyData.str) (k := 0) (W := 11) (Gd.map fun w hw => (h w hw).gd)
  rwa [List.length_map] at this
theorem Gd.eW {ws : List Str} (h : ∀ w ∈ ws, WW w) : Gd (eW ws) 1 (ws.length * 12) := by
  have := Gd.tup (xs := ws.map PyData.str) (k := 0) (W := 11) (Gd.map fun w hw => (h w hw).gd)
  rwa [List.length_map] at this
theorem Gd.row {r : Row} (h : WW r.1 ∧ r.2.length ≤ 20 ∧ ∀ w ∈ r.2, WW w) : Gd (eRow r) 2 500 := by
  have h1 := Gd.eW h.2.2
  have h2 := h.1.gd
  have := Gd.tup (xs := [.str r.1, Eng.eW r.2]) (k := 1) (W := 240) (by
    intro x hx
    simp only [List.mem_cons, List.not_mem_nil, or_false] at hx
    rcases hx with rfl | rfl
    · exact h2.mono (by omega) (by omega)
    · exact h1.mono (by omega) (by have := h.2.1; omega))
  exact this.mono (Nat.le_refl _) (by simp)
end Eng
/-! Wider books. -/
namespace Eng
open PySem PySem.Spec L2 SX
open PyProof.Rows hiding St
/-- all words told in a book -/
def tw (b : List Row) : List Str := (b.map (·.2)).flatten
theorem mem_heads {b : List Row} {w : Str} : w ∈ heads b ↔ ∃ r ∈ b, r.1 = w := by
  unfold heads
  rw [List.mem_map]
/-- a book with few words -/
structure Bf (b : List Row) : Prop where
  bo : Bo b
  few : (heads b).length + (tw b).length ≤ 2000
theorem addS_bk (a m : List Row) : addS (.val (eBk a)) (.val (.tuple (m.map eRow))) = if a.length + m.length ≤ sizeLine then some (.val (eBk (a ++ m))) else none := by
  simp [eBk]
end Eng
/-! Orders that may be none. -/
namespace Eng
open PySem PySem.Spec L2 SX
open PyProof.Rows hiding St
/-- a step that may be none: a word, a whole number -/
abbrev SI := Str × Int
def eSI (p : SI) : D := .tuple [.str p.1, .int p.2]
/-- the row at a place, where it is one -/
def at? (b : List Row) (i : Int) : Option Row := if 0 ≤ i then b[i.toNat]? else none
theorem at_some {b : List Row} {i : Int} {r : Row} (h : at? b i = some r) : 0 ≤ i ∧ i < b.length ∧ ixS (.val (eBk b)) (.val (.int i)) = some (.val (eRow r)) ∧ r ∈ b := by
  unfold at? at h
  split at h
  · rename_i h0
    have hl := (List.getElem?_eq_some_iff.mp h).1
    refine ⟨h0, by omega, ?_, List.mem_of_getElem? h⟩
    have := ixS_eBk h
    rwa [Int.toNat_of_nonneg h0] at this
  · cases h
/-- one step of an order -/
def stO (b : List Row) (k : List Str) (p : SI) : Option (List Str) := if p.1 ∈ k then none else match at? b p.2 with
  | some r => if r.1 = p.1 ∧ (r.2.all fun v => decide (v ∈ k)) = true then some (k ++ [p.1]) else none
  | none => none
theorem stO_some {b : List Row} {k k' : List Str} {p : SI} (h : stO b k p = some k') : p.1 ∉ k ∧ k' = k ++ [p.1] ∧ ∃ r, at? b p.2 = some r ∧ r.1 = p.1 ∧ (r.2.all fun v => decide (v ∈ k)) = true := by
  unfold stO at h
  split at h
  · cases h
  · rename_i hn
    split at h
    · rename_i r e
      split at h
      · rename_i hc
        cases h
        exact ⟨hn, rfl, r, e, hc⟩
      · cases h
    · cases h
theorem Kn.st {b : List Row} {k k' : List Str} {p : SI} (hk : Kn b k) (h : stO b k p = some k') : Kn b k' := by
  obtain ⟨h1, rfl, r, h2, h3, _⟩ := stO_some h
  have := hk.add (w := p.1) (mem_heads.mpr ⟨r, (at_some h2).2.2.2, h3⟩)
  rwa [addT_new h1] at this
end Eng
/-! What is learnt; knots. -/
namespace Eng
open PySem PySem.Spec L2 SX
open PyProof.Rows hiding St
/-! ### closures -/
/-- what is learnt, as it is learnt -/
def cls (b : List Row) : List Str := (rnd b).flatten
def lrn (b : List Row) : List Str := sortT (cls b)
theorem rndF_end {b : List Row} : ∀ {n : Nat} {k : List Str}, left b k < n → frs b (k ++ (rndF b n k).flatten) = []
  | 0, _, h => absurd h (Nat.not_lt_zero _)
  | n + 1, k, h => by
    unfold rndF
    split
    · rename_i e
      simpa using e
    · rename_i h0
      have := left_lt h0
      have ih := rndF_end (b := b) (n := n) (k := k ++ frs b k) (by omega)
      simpa using ih
theorem cls_end (b : List Row) : frs b (cls b) = [] := by
  have := rndF_end (b := b) (n := b.length + 1) (k := []) (by have := left_le b []; omega)
  simpa [cls, rnd] using this
/-- whoever knows all words told learns -/
theorem cls_closed {b : List Row} {r : Row} (hr : r ∈ b) (h : ∀ v ∈ r.2, v ∈ cls b) : r.1 ∈ cls b := by
  refine Classical.byContradiction fun hn => ?_
  have : r.1 ∈ frs b (cls b) := frs_mem.mpr ⟨r, hr, rfl, by
    unfold rdy
    simp only [hn, decide_false, Bool.not_false, Bool.true_and, List.all_eq_true, decide_eq_true_eq]
    exact h⟩
  rw [cls_end] at this
  cases this
/-- by what is closed all that is learnt is had -/
theorem rndF_min {b : List Row} {S : Str → Prop} (hS : ∀ r ∈ b, (∀ v ∈ r.2, S v) → S r.1) : ∀ {n : Nat} {k : List Str}, (∀ v ∈ k, S v) → ∀ v ∈ k ++ (rndF b n k).flatten, S v
  | 0, k, h => by simpa [rndF] using h
  | n + 1, k, h => by
    unfold rndF
    split
    · simpa using h
    · have h2 : ∀ v ∈ k ++ frs b k, S v := fun v hv => by
        rcases List.mem_append.mp hv with h1 | h1
        · exact h v h1
        · obtain ⟨r, hr, rfl, q⟩ := frs_mem.mp h1
          unfold rdy at q
          simp only [Bool.and_eq_true, List.all_eq_true, decide_eq_true_eq] at q
          exact hS r hr fun u hu => h u (q.2 u hu)
      have := rndF_min hS (n := n) h2
      simpa using this
theorem cls_min {b : List Row} {S : Str → Prop} (hS : ∀ r ∈ b, (∀ v ∈ r.2, S v) → S r.1) {w : Str} (h : w ∈ cls b) : S w := by
  have := rndF_min hS (n := b.length + 1) (k := []) (by simp)
  exact this w (by simpa [cls, rnd] using h)
theorem cls_kn (b : List Row) : Kn b (cls b) := rnd_kn b
theorem lrn_mem {b : List Row} {w : Str} : w ∈ lrn b ↔ w ∈ cls b := mem_sortT
theorem cls_wds {b : List Row} {w : Str} (h : w ∈ cls b) : w ∈ wds b := by
  obtain ⟨r, hr, e⟩ := mem_heads.mp ((cls_kn b).2 w h)
  exact wds_mem.mpr ⟨r, hr, .inl e.symm⟩
theorem lrn_len {b : List Row} (hb : Bo b) : (lrn b).length ≤ 200 := by
  unfold lrn
  rw [len_sortT]
  exact Nat.le_trans (cls_kn b).len hb.len
theorem learnt_eq (b : List Row) (hb : Bo b) : f_learnt [.val (eBk b)] = .ret (.lst ((lrn b).map .str)) [.val (eBk b)] := by
  obtain ⟨ρ', e, rfl⟩ := forL_all (f := eL) (T := .nm 2) (fg := [2]) (b := w_learnt_1)
    (fun done ρ => ρ = [some (false, .val (eBk b)), some (false, .lst (done.flatten.map .str)), none]) (rnd b)
    [some (false, .val (eBk b)), some (false, .lst []), none] rfl (by
    rintro done x rest ρ hd rfl
    refine ⟨_, ?_, rfl⟩
    have z : done.flatten.length + x.length ≤ sizeLine := by
      have h1 : (rnd b).flatten.length = done.flatten.length + (x.length + rest.flatten.length) := by rw [hd]; simp
      have h2 := (cls_kn b).len
      have h3 := hb.len
      unfold cls at h2
      exact Nat.le_of_lt (small (m := 200) (by omega))
    have ef : (done ++ [x]).flatten = done.flatten ++ x := by simp
    rw [ef]
    generalize done.flatten = K at *
    have e1 : addS (.lst (K.map PyData.str)) (.val (eL x)) = some (.lst ((K ++ x).map .str)) := by
      show (if (K.map PyData.str).length + (x.map PyData.str).length ≤ sizeLine then some (O.lst (K.map PyData.str ++ x.map PyData.str)) else none) = _
      rw [List.length_map, List.length_map, if_pos z, List.map_append]
    simp [-List.map_map, -List.map_append, turn_ap, w_learnt_1, e1])
  have z : (cls b).length ≤ sizeLine := Nat.le_of_lt (small (m := 200) (Nat.le_trans (cls_kn b).len hb.len))
  have ec : (rnd b).flatten = cls b := rfl
  rw [ec] at e
  simp [-List.map_map, f_learnt, b_learnt, runF_ap, rounds_eq b hb, e, z, lrn]
/-! ### what is held back -/
/-- words that hold one another back -/
def Hs (b : List Row) (S : List Str) : Prop := ∀ w ∈ S, ∀ r ∈ b, r.1 = w → ∃ v ∈ r.2, v ∈ S
theorem Hs.not {b : List Row} {S : List Str} (h : Hs b S) {w : Str} (hw : w ∈ S) : w ∉ cls b := fun hc => by
  have := cls_min (S := fun v => v ∉ S) (b := b) (fun r hr hv hs => by
    obtain ⟨v, h1, h2⟩ := h r.1 hs r hr rfl
    exact hv v h1 h2) hc
  exact this hw
def bk1 (b : List Row) (S : List Str) (i : Nat) : Str := (((b[i]?.getD (Str.ofString "", [])).2.filter fun v => decide (v ∈ S)).head?).getD (Str.ofString "")
/-- for each row of a word the first word told that is held -/
def blk (b : List Row) (w : Str) (S : List Str) : List Str := (plcs b w).map (bk1 b S)
end Eng
/-! The law's words; its knots of given words. -/
namespace Eng
open PySem PySem.Spec L2 SX
open PyProof.Rows hiding St
def zipI : Option (List D × En) → Out (Option Nat × List D)
  | some ([.list ds, .tuple es], ρ2) => if (zipD ds es).length ≤ sizeLine then .ok (none, zipD ds es) ρ2 else .stuck
  | _ => .stuck
@[simp] theorem iZip_ap (f g : ES) (ρ : En) : iZip f g ρ = (oAs [f, g] ρ).bind fun ps ρ1 => zipI (gives ρ1 ps) := rfl
@[simp] theorem zipI_tup (ds es : List D) (ρ : En) : zipI (some ([.list ds, .tuple es], ρ)) = if (zipD ds es).length ≤ sizeLine then .ok (none, zipD ds es) ρ else .stuck := rfl
@[simp] theorem zipI_eW (ds : List D) (ws : List Str) (ρ : En) : zipI (some ([.list ds, eW ws], ρ)) = if (zipD ds (ws.map PyData.str)).length ≤ sizeLine then .ok (none, zipD ds (ws.map PyData.str)) ρ else .stuck := rfl
/-! ### the greatest knot of given words -/
def okH (b : List Row) (S : List Str) (w : Str) : Bool := (b.filter fun r => decide (r.1 = w)).all fun r => r.2.any fun v => decide (v ∈ S)
def hst (b : List Row) (S : List Str) : List Str := S.filter (okH b S)
def hfx (b : List Row) : Nat → List Str → List Str
  | 0, S => S
  | n + 1, S => if (hst b S).length < S.length then hfx b n (hst b S) else hst b S
/-- the greatest knot of some words -/
def gk (b : List Row) (ws : List Str) : List Str := hfx b (ws.length + 1) (sortT (metT ws))
end Eng
/-! What is a knot. -/
namespace Eng
open PySem PySem.Spec L2 SX
open PyProof.Rows hiding St
end Eng
/-! Prices, plainly; dicts from texts to whole numbers. -/
namespace Eng
open PySem PySem.Spec L2 SX
open PyProof.Rows hiding St
/-- a dict of prices -/
abbrev Cs := List (Str × Int)
def eCs (C : Cs) : List (D × D) := sd PyData.int C
def cget (C : Cs) (w : Str) : Option Int := (C.find? fun e => decide (e.1 = w)).map (·.2)
def cput (C : Cs) (w : Str) (v : Int) : Cs := if w ∈ C.map (·.1) then C.map (fun e => if e.1 = w then (e.1, v) else e) else C ++ [(w, v)]
theorem eqv_s (x y : Str) : PyData.eqv (.str x) (.str y) = decide (x = y) := by
  rw [eqv_str]
  by_cases h : x = y <;> simp [h]
theorem dget_cs (C : Cs) (w : Str) : dget (eCs C) (.str w) = (cget C w).map PyData.int := by
  unfold dget eCs sd cget
  rw [List.find?_map]
  have : ((fun e : D × D => PyData.eqv e.1 (.str w)) ∘ fun e : Str × Int => ((.str e.1, .int e.2) : D × D)) = fun e : Str × Int => decide (e.1 = w) := by
    funext e
    exact eqv_s _ _
  rw [this]
  cases C.find? fun e => decide (e.1 = w) <;> rfl
theorem dput_cs (C : Cs) (w : Str) (v : Int) : dput (eCs C) (.str w) (.int v) = eCs (cput C w v) := by
  unfold dput cput
  have h := dhas_sd PyData.int C w
  unfold eCs
  rw [h]
  by_cases hm : w ∈ C.map (·.1)
  · simp only [hm, decide_true, if_true]
    unfold sd
    rw [List.map_map, List.map_map]
    refine List.map_congr_left fun e _ => ?_
    simp only [Function.comp, eqv_s]
    by_cases hw : e.1 = w <;> simp [hw]
  · simp only [hm, decide_false, Bool.false_eq_true, if_false]
    unfold sd
    rw [List.map_append]
    rfl
theorem len_cs (C : Cs) : (eCs C).length = C.length := by simp [eCs, sd]
@[simp] theorem inS_cs (x : Str) (C : Cs) : inS (.val (.str x)) (.dic (eCs C)) = some (.val (.bool (decide (x ∈ C.map (·.1))))) := by
  unfold inS hasS eCs
  simp only [dOk_sd, dhas_sd, if_true]
  rfl
@[simp] theorem notinS_cs (x : Str) (C : Cs) : notinS (.val (.str x)) (.dic (eCs C)) = some (.val (.bool (!decide (x ∈ C.map (·.1))))) := by
  unfold notinS hasS eCs
  simp only [dOk_sd, dhas_sd, if_true]
  rfl
@[simp] theorem ixS_cs (x : Str) (C : Cs) : ixS (.dic (eCs C)) (.val (.str x)) = (cget C x).map fun i => .val (.int i) := by
  show (if dOk (eCs C) (.str x) = true then (dget (eCs C) (.str x)).map O.val else none) = _
  have h : dOk (eCs C) (.str x) = true := dOk_sd _ _ _
  rw [if_pos h, dget_cs, Option.map_map]
  rfl
@[simp] theorem setS_cs (x : Str) (v : Int) (C : Cs) : setS (.dic (eCs C)) (.str x) (.int v) = if C.length < sizeLine then some (.dic (eCs (cput C x v))) else none := by
  unfold setS
  have h : dOk (eCs C) (.str x) = true := dOk_sd _ _ _
  simp only [h, dput_cs, len_cs, true_and]
@[simp] theorem sortS_cs (C : Cs) : sortS (.dic (eCs C)) = if C.length ≤ sizeLine then some (.lst ((sortT (C.map (·.1))).map PyData.str)) else none := sortS_sd PyData.int C
theorem cget_none {C : Cs} {w : Str} : cget C w = none ↔ w ∉ C.map (·.1) := by
  unfold cget
  rw [Option.map_eq_none_iff, List.find?_eq_none]
  simp only [decide_eq_true_eq, List.mem_map, not_exists, not_and]
theorem cget_mem {C : Cs} {w : Str} {v : Int} (h : cget C w = some v) : w ∈ C.map (·.1) := Classical.byContradiction fun hn => by
  rw [cget_none.mpr hn] at h
  cases h
theorem cget_some {C : Cs} {w : Str} (h : w ∈ C.map (·.1)) : ∃ v, cget C w = some v := by
  cases e : cget C w with
  | some v => exact ⟨v, rfl⟩
  | none => exact absurd h (cget_none.mp e)
theorem cget_cons (e : Str × Int) (C : Cs) (w : Str) : cget (e :: C) w = if e.1 = w then some e.2 else cget C w := by
  unfold cget
  rw [List.find?_cons]
  by_cases h : e.1 = w <;> simp [h]
theorem cget_app (C : Cs) (w v : Str) (x : Int) : cget (C ++ [(w, x)]) v = match cget C v with | some y => some y | none => if w = v then some x else none := by
  induction C with
  | nil => rw [List.nil_append, cget_cons]; rfl
  | cons e C ih =>
    rw [List.cons_append, cget_cons, cget_cons, ih]
    by_cases h : e.1 = v <;> simp [h]
theorem cget_map (C : Cs) (w v : Str) (x : Int) : cget (C.map fun e => if e.1 = w then (e.1, x) else e) v = if v = w ∧ w ∈ C.map (·.1) then some x else cget C v := by
  induction C with
  | nil => simp [cget]
  | cons e C ih =>
    rw [List.map_cons, cget_cons, cget_cons, ih]
    by_cases h1 : e.1 = w
    · by_cases h2 : v = w
      · subst h2; simp [h1]
      · have h3 : ¬ e.1 = v := fun q => h2 (q.symm.trans h1)
        have h4 : ¬ w = v := fun q => h2 q.symm
        simp [h1, h2, h3, h4]
    · by_cases h2 : v = w
      · subst h2
        have h3 : ¬ v = e.1 := fun q => h1 q.symm
        have h4 : (v ∈ (e :: C).map (·.1)) ↔ v ∈ C.map (·.1) := by
          rw [List.map_cons, List.mem_cons]
          exact ⟨fun h => h.resolve_left h3, .inr⟩
        simp only [h1, if_false, h4]
      · by_cases h3 : e.1 = v <;> simp [h1, h2, h3]
theorem cget_put (C : Cs) (w v : Str) (x : Int) : cget (cput C w x) v = if v = w then some x else cget C v := by
  unfold cput
  split
  · rename_i h
    rw [cget_map]
    by_cases hv : v = w <;> simp [hv, h]
  · rename_i h
    rw [cget_app]
    by_cases hv : v = w
    · subst hv
      rw [cget_none.mpr h]
    · have : ¬ w = v := fun q => hv q.symm
      simp only [this, hv, if_false]
      cases cget C v <;> rfl
theorem cput_keys (C : Cs) (w : Str) (x : Int) : (cput C w x).map (·.1) = addT (C.map (·.1)) w := by
  unfold cput addT
  split
  · rw [List.map_map]
    refine List.map_congr_left fun e _ => ?_
    simp only [Function.comp]
    split <;> rfl
  · rw [List.map_append]
    rfl
/-! ### prices by a row -/
def pby (C : Cs) (ws : List Str) : Option Int := ws.foldlM (fun L w => (cget C w).map (L + ·)) 1
theorem pby_go (C : Cs) : ∀ (ws : List Str) (L : Int), ws.foldlM (fun L w => (cget C w).map (L + ·)) L = if (ws.all fun w => decide (w ∈ C.map (·.1))) = true then some (L + (ws.map fun w => (cget C w).getD 0).sum) else none
  | [], L => by simp
  | w :: ws, L => by
    rw [List.foldlM_cons]
    cases e : cget C w with
    | none =>
      have := cget_none.mp e
      simp only [List.all_cons, this, decide_false, Bool.false_and, Bool.false_eq_true, if_false, Option.map_none]
      rfl
    | some v =>
      have := cget_mem e
      show (ws.foldlM (fun L w => (cget C w).map (L + ·)) (L + v)) = _
      rw [pby_go C ws (L + v)]
      simp only [List.all_cons, this, decide_true, Bool.true_and, List.map_cons, e, Option.getD_some, List.sum_cons]
      split
      · rw [Int.add_assoc]
      · rfl
theorem pby_all (C : Cs) (ws : List Str) : pby C ws = if (ws.all fun w => decide (w ∈ C.map (·.1))) = true then some (1 + (ws.map fun w => (cget C w).getD 0).sum) else none := pby_go C ws 1
/-- one row's turn -/
def stC (s : Cs × Bool) (r : Row) : Cs × Bool := match pby s.1 r.2 with
  | none => s
  | some L => match cget s.1 r.1 with
    | none => (cput s.1 r.1 L, true)
    | some c => if L < c then (cput s.1 r.1 L, true) else s
def passC (b : List Row) (C : Cs) : Cs × Bool := b.foldl stC (C, false)
def itC (b : List Row) : Nat → Cs → Option Cs
  | 0, _ => none
  | n + 1, C => if (passC b C).2 = true then itC b n (passC b C).1 else some (passC b C).1
/-- what holds of the prices all the time -/
structure Iv (b : List Row) (C : Cs) : Prop where
  kn : Kn b (C.map (·.1))
  pos : ∀ w c, cget C w = some c → 1 ≤ c
  row : ∀ w c, cget C w = some c → ∃ r ∈ b, r.1 = w ∧ ∃ L, pby C r.2 = some L ∧ L ≤ c
theorem sum_le {α : Type} {f g : α → Int} : ∀ {xs : List α}, (∀ x ∈ xs, f x ≤ g x) → (xs.map f).sum ≤ (xs.map g).sum
  | [], _ => Int.le_refl _
  | x :: xs, h => by
    have h1 := h x List.mem_cons_self
    have h2 := sum_le fun y hy => h y (List.mem_cons_of_mem _ hy)
    simp only [List.map_cons, List.sum_cons]
    omega
theorem sum_pos {α : Type} {f : α → Int} : ∀ {xs : List α}, (∀ x ∈ xs, 0 ≤ f x) → 0 ≤ (xs.map f).sum
  | [], _ => Int.le_refl _
  | x :: xs, h => by
    have h1 := h x List.mem_cons_self
    have h2 := sum_pos fun y hy => h y (List.mem_cons_of_mem _ hy)
    simp only [List.map_cons, List.sum_cons]
    omega
theorem pby_some {C : Cs} {ws : List Str} {L : Int} (h : pby C ws = some L) : (∀ w ∈ ws, w ∈ C.map (·.1)) ∧ L = 1 + (ws.map fun w => (cget C w).getD 0).sum := by
  rw [pby_all] at h
  split at h
  · rename_i h1
    cases h
    exact ⟨fun w hw => of_decide_eq_true (List.all_eq_true.mp h1 w hw), rfl⟩
  · cases h
theorem pby_of {C : Cs} {ws : List Str} (h : ∀ w ∈ ws, w ∈ C.map (·.1)) : pby C ws = some (1 + (ws.map fun w => (cget C w).getD 0).sum) := by
  rw [pby_all, if_pos (List.all_eq_true.mpr fun w hw => decide_eq_true (h w hw))]
/-- lower prices all over -/
theorem pby_mono {C E : Cs} (h : ∀ w c, cget C w = some c → ∃ d, cget E w = some d ∧ d ≤ c) {ws : List Str} {L : Int} (hp : pby C ws = some L) : ∃ M, pby E ws = some M ∧ M ≤ L := by
  obtain ⟨h1, rfl⟩ := pby_some hp
  have hE : ∀ w ∈ ws, w ∈ E.map (·.1) := fun w hw => by
    obtain ⟨c, hc⟩ := cget_some (h1 w hw)
    obtain ⟨d, hd, _⟩ := h w c hc
    exact cget_mem hd
  refine ⟨_, pby_of hE, ?_⟩
  have := sum_le (f := fun w => (cget E w).getD 0) (g := fun w => (cget C w).getD 0) (xs := ws) (fun w hw => by
    obtain ⟨c, hc⟩ := cget_some (h1 w hw)
    obtain ⟨d, hd, hle⟩ := h w c hc
    rw [hc, hd]
    exact hle)
  omega
theorem Iv.put {b : List Row} {C : Cs} (h : Iv b C) {r : Row} (hr : r ∈ b) {L : Int} (hp : pby C r.2 = some L) (hlt : ∀ c, cget C r.1 = some c → L < c) : Iv b (cput C r.1 L) := by
  have hL : 1 ≤ L := by
    obtain ⟨h1, rfl⟩ := pby_some hp
    have := sum_pos (f := fun w => (cget C w).getD 0) (xs := r.2) (fun w hw => by
      obtain ⟨c, hc⟩ := cget_some (h1 w hw)
      rw [hc]
      have := h.pos w c hc
      show 0 ≤ c
      omega)
    omega
  have low : ∀ w c, cget C w = some c → ∃ d, cget (cput C r.1 L) w = some d ∧ d ≤ c := fun w c hc => by
    rw [cget_put]
    by_cases hw : w = r.1
    · subst hw
      exact ⟨L, by simp, Int.le_of_lt (hlt c hc)⟩
    · exact ⟨c, by simp [hw, hc], Int.le_refl _⟩
  refine ⟨?_, fun w c hc => ?_, fun w c hc => ?_⟩
  · rw [cput_keys]
    exact h.kn.add (List.mem_map_of_mem hr)
  · rw [cget_put] at hc
    split at hc
    · cases hc; exact hL
    · exact h.pos w c hc
  · rw [cget_put] at hc
    split at hc
    · rename_i hw
      cases hc
      obtain ⟨M, hM, hle⟩ := pby_mono low hp
      exact ⟨r, hr, hw.symm, M, hM, hle⟩
    · obtain ⟨r', hr', e, M, hM, hle⟩ := h.row w c hc
      obtain ⟨M', hM', hle'⟩ := pby_mono low hM
      exact ⟨r', hr', e, M', hM', by omega⟩
/-- how much may fall yet -/
def mea (b : List Row) (C : Cs) : Nat × Nat := (b.length - (C.map (·.1)).length, (C.map fun e => e.2.toNat).sum)
theorem sum_put : ∀ (C : Cs) (w : Str) (L c : Int), (C.map (·.1)).Nodup → cget C w = some c → 0 ≤ L → L < c → ((C.map fun e => if e.1 = w then (e.1, L) else e).map fun e => e.2.toNat).sum < (C.map fun e => e.2.toNat).sum
  | [], _, _, _, _, h, _, _ => by simp [cget] at h
  | e :: C, w, L, c, nd, h, h0, hlt => by
    rw [cget_cons] at h
    rw [List.map_cons] at nd
    have nd := List.nodup_cons.mp nd
    by_cases hw : e.1 = w
    · rw [if_pos hw] at h
      cases h
      have same : (C.map fun e => if e.1 = w then (e.1, L) else e) = C := by
        have : (C.map fun e => if e.1 = w then (e.1, L) else e) = C.map id := List.map_congr_left fun x hx => by
          have : ¬ x.1 = w := fun q => nd.1 (by rw [hw, ← q]; exact List.mem_map_of_mem hx)
          simp [this]
        rw [this, List.map_id]
      simp only [List.map_cons, hw, if_true, same, List.sum_cons]
      omega
    · rw [if_neg hw] at h
      have := sum_put C w L c nd.2 h h0 hlt
      simp only [List.map_cons, hw, if_false, List.sum_cons]
      omega
theorem stC_iv {b : List Row} {C : Cs} {f : Bool} (h : Iv b C) {r : Row} (hr : r ∈ b) : Iv b (stC (C, f) r).1 ∧ ((stC (C, f) r) = (C, f) ∨ ((stC (C, f) r).2 = true ∧ Prod.Lex Nat.lt Nat.lt (mea b (stC (C, f) r).1) (mea b C))) := by
  unfold stC
  cases hp : pby C r.2 with
  | none => exact ⟨h, .inl rfl⟩
  | some L =>
    simp only
    have hL : 0 ≤ L := by
      obtain ⟨h1, rfl⟩ := pby_some hp
      have := sum_pos (f := fun w => (cget C w).getD 0) (xs := r.2) (fun w hw => by
        obtain ⟨c, hc⟩ := cget_some (h1 w hw)
        rw [hc]
        have := h.pos w c hc
        show 0 ≤ c
        omega)
      omega
    cases hc : cget C r.1 with
    | none =>
      simp only
      refine ⟨h.put hr hp (fun c q => by rw [hc] at q; cases q), .inr ⟨trivial, ?_⟩⟩
      refine Prod.Lex.left _ _ ?_
      have hn := cget_none.mp hc
      have h2 := (h.kn.add (w := r.1) (List.mem_map_of_mem hr)).len
      rw [addT_new hn, List.length_append, List.length_singleton] at h2
      rw [cput_keys, addT_new hn, List.length_append, List.length_singleton]
      show b.length - ((C.map (·.1)).length + 1) < b.length - (C.map (·.1)).length
      omega
    | some c =>
      simp only
      split
      · rename_i hlt
        refine ⟨h.put hr hp (fun c' q => by rw [hc] at q; cases q; exact hlt), .inr ⟨by first | rfl | trivial, ?_⟩⟩
        unfold mea
        rw [cput_keys]
        have hm := cget_mem hc
        have e1 : addT (C.map (·.1)) r.1 = C.map (·.1) := by unfold addT; rw [if_pos hm]
        rw [e1]
        refine Prod.Lex.right _ ?_
        unfold cput
        rw [if_pos hm]
        exact sum_put C r.1 L c h.kn.1 hc hL hlt
      · exact ⟨h, .inl rfl⟩
theorem lex_trans {a c d : Nat × Nat} (h1 : Prod.Lex Nat.lt Nat.lt a c) (h2 : Prod.Lex Nat.lt Nat.lt c d) : Prod.Lex Nat.lt Nat.lt a d := by
  rw [Prod.lex_def] at *
  have : ∀ x y, Nat.lt x y ↔ x < y := fun _ _ => Iff.rfl
  simp only [this] at *
  omega
theorem fold_iv {b : List Row} : ∀ (rs : List Row) (C : Cs) (f : Bool), (∀ r ∈ rs, r ∈ b) → Iv b C → Iv b (rs.foldl stC (C, f)).1 ∧ ((rs.foldl stC (C, f)) = (C, f) ∨ ((rs.foldl stC (C, f)).2 = true ∧ Prod.Lex Nat.lt Nat.lt (mea b (rs.foldl stC (C, f)).1) (mea b C)))
  | [], C, f, _, h => ⟨h, .inl rfl⟩
  | r :: rs, C, f, hs, h => by
    obtain ⟨h1, h2⟩ := stC_iv (f := f) h (hs r List.mem_cons_self)
    rw [List.foldl_cons]
    obtain ⟨C1, f1, hst⟩ : ∃ C1 f1, stC (C, f) r = (C1, f1) := ⟨_, _, rfl⟩
    rw [hst] at h1 h2 ⊢
    obtain ⟨h3, h4⟩ := fold_iv rs C1 f1 (fun x hx => hs x (List.mem_cons_of_mem _ hx)) h1
    refine ⟨h3, ?_⟩
    rcases h2 with h2 | ⟨h2, h2'⟩
    · cases h2
      exact h4
    · rcases h4 with h4 | ⟨h4, h4'⟩
      · rw [h4]
        exact .inr ⟨h2, h2'⟩
      · exact .inr ⟨h4, lex_trans h4' h2'⟩
end Eng
/-! Prices: the defs. -/
namespace Eng
open PySem PySem.Spec L2 SX
open PyProof.Rows hiding St
theorem Iv.nil (b : List Row) : Iv b [] := ⟨Kn.nil b, by simp [cget], by simp [cget]⟩
theorem passC_iv {b : List Row} {C : Cs} (h : Iv b C) : Iv b (passC b C).1 ∧ (passC b C = (C, false) ∨ ((passC b C).2 = true ∧ Prod.Lex Nat.lt Nat.lt (mea b (passC b C).1) (mea b C))) := fold_iv b C false (fun _ h => h) h
theorem it_ex (b : List Row) (C : Cs) (h : Iv b C) : ∃ n C', itC b n C = some C' ∧ Iv b C' ∧ passC b C' = (C', false) := by
  have wf : WellFounded (InvImage (Prod.Lex Nat.lt Nat.lt) (mea b)) := InvImage.wf _ (Prod.lex Nat.lt_wfRel Nat.lt_wfRel).wf
  induction C using wf.induction with
  | _ C ih =>
    obtain ⟨h1, h2⟩ := passC_iv h
    rcases h2 with h2 | ⟨h2, h3⟩
    · refine ⟨1, C, ?_, h, h2⟩
      unfold itC
      rw [h2]
      rfl
    · obtain ⟨n, C', e1, e2, e3⟩ := ih _ h3 h1
      refine ⟨n + 1, C', ?_, e2, e3⟩
      unfold itC
      rw [if_pos h2]
      exact e1
theorem Iv.len {b : List Row} {C : Cs} (h : Iv b C) (hb : Bo b) : C.length ≤ 200 := by
  have h1 := h.kn.len
  rw [List.length_map] at h1
  exact Nat.le_trans h1 hb.len
/-- the prices of a book -/
noncomputable def csts (b : List Row) : Cs := Classical.choose (Classical.choose_spec (it_ex b [] (Iv.nil b)))
/-! ### the law's prices -/
/-! ### where nothing falls any more -/
end Eng
/-! The other maker of books: draws, words. -/
namespace Eng
open PySem PySem.Spec L2 SX
open PyProof.Rows hiding St
/-- a source of draws: drawn from so many times at most -/
def Sc (T : Nat) (s : List Int) : Prop := ∃ a t c, s = [a, t, c] ∧ 0 ≤ t ∧ t ≤ T
theorem Sc.mono {T U : Nat} {s : List Int} (h : Sc T s) (hT : T ≤ U) : Sc U s := by
  obtain ⟨a, t, c, e, h1, h2⟩ := h
  exact ⟨a, t, c, e, h1, by omega⟩
end Eng
/-! The other maker of books, II: words. -/
namespace Eng
open PySem PySem.Spec L2 SX
open PyProof.Rows hiding St
end Eng
/-! The other maker of books, III: rows, books. -/
namespace Eng
open PySem PySem.Spec L2 SX
open PyProof.Rows hiding St
/-- a row over these words -/
def Rg (ns : List Str) (r : Row) : Prop := r.1 ∈ ns ∧ r.2.length ≤ 8 ∧ ∀ w ∈ r.2, w ∈ ns
/-- a row is laid behind others, where none is alike -/
def layR (b : List Row) (r : Row) : List Row := if (b.find? fun x => decide (x.1 = r.1) && decide (sortT x.2 = sortT r.2)).isSome then b else b ++ [r]
theorem layR_len (b : List Row) (r : Row) : (layR b r).length ≤ b.length + 1 := by
  unfold layR
  split <;> simp
theorem layR_mem {b : List Row} {r x : Row} (h : x ∈ layR b r) : x ∈ b ∨ x = r := by
  unfold layR at h
  split at h
  · exact .inl h
  · exact (List.mem_append.mp h).imp id fun q => List.mem_singleton.mp q
/-- a book of such rows -/
structure Bg (ns : List Str) (n : Nat) (b : List Row) : Prop where
  len : b.length ≤ n
  row : ∀ r ∈ b, Rg ns r
theorem Bg.bo {ns : List Str} {n : Nat} {b : List Row} (h : Bg ns n b) (hn : n ≤ 200) (hw : ∀ w ∈ ns, WW w) : Bo b := ⟨Nat.le_trans h.len hn, fun r hr => by
  have := h.row r hr
  exact ⟨hw _ this.1, by have := this.2.1; omega, fun w h2 => hw _ (this.2.2 w h2)⟩⟩
theorem Bg.lay {ns : List Str} {n : Nat} {b : List Row} {r : Row} (h : Bg ns n b) (hr : Rg ns r) : Bg ns (n + 1) (layR b r) := ⟨Nat.le_trans (layR_len b r) (by have := h.len; omega), fun x hx => by
  rcases layR_mem hx with q | rfl
  · exact h.row x q
  · exact hr⟩
theorem Bg.mono {ns : List Str} {n m : Nat} {b : List Row} (h : Bg ns n b) (hn : n ≤ m) : Bg ns m b := ⟨Nat.le_trans h.len hn, h.row⟩
end Eng
/-! The other maker of books, IV: wider books. -/
namespace Eng
open PySem PySem.Spec L2 SX
open PyProof.Rows hiding St
end Eng
/-! Law k13. -/
namespace Eng
open PySem PySem.Spec L2 SX
open PyProof.Rows hiding St
/-! ### steps that are drawn -/
theorem cutA_map {α β : Type} (f : α → β) (xs : List α) (lo hi : Option Int) : cutA (xs.map f) lo hi = (cutA xs lo hi).map f := by
  unfold cutA
  rw [List.length_map, ← List.map_drop, ← List.map_take]
theorem sq_if_f {t : TS'} {a c : SS} {ρ ρ1 : En} (h : t ρ = .ok false ρ1) : sSeq (sIf t a sNil) c ρ = c ρ1 := by simp [h]
theorem sq_if_t {t : TS'} {a c : SS} {ρ ρ1 : En} (h : t ρ = .ok true ρ1) : sSeq (sIf t a sNil) c ρ = (a ρ1).then c := by simp [h]
end Eng
/-! Law k22. -/
namespace Eng
open PySem PySem.Spec L2 SX
open PyProof.Rows hiding St
@[simp] theorem slS_scr (ns : List Int) (lo hi : Option Int) : slS lo hi (.scr ns) = some (.lst (cutA (ns.map PyData.int) lo hi)) := rfl
@[simp] theorem listRevS_lst (ds : List D) : listRevS (.lst ds) = some (.lst ds.reverse) := rfl
/-! ### best rows -/
structure Ib (b : List Row) (n : Nat) (B : Cs) : Prop where
  kn : Kn b (B.map (·.1))
  val : ∀ w i, cget B w = some i → ∃ k : Nat, i = (k : Int) ∧ k < n ∧ ∃ r, b[k]? = some r ∧ r.1 = w ∧ ∃ c, cget (csts b) w = some c ∧ pby (csts b) r.2 = some c
  all : ∀ k r, k < n → b[k]? = some r → ∀ c, cget (csts b) r.1 = some c → pby (csts b) r.2 = some c → r.1 ∈ B.map (·.1)
end Eng
/-! Law k21. -/
namespace Eng
open PySem PySem.Spec L2 SX
open PyProof.Rows hiding St
end Eng
/-! Law k14. -/
namespace Eng
open PySem PySem.Spec L2 SX
open PyProof.Rows hiding St
/-- the words told in a word's rows -/
def tolds (b : List Row) (w : Str) : List (List Str) := (b.filter fun r => decide (r.1 = w)).map (·.2)
theorem Bf.rev {b : List Row} (h : Bf b) : Bf b.reverse := ⟨⟨by rw [List.length_reverse]; exact h.bo.len, fun r hr => h.bo.row r (List.mem_reverse.mp hr)⟩, by
  have h1 : (heads b.reverse).length = (heads b).length := by simp [heads]
  have h2 : (tw b.reverse).length = (tw b).length := by
    unfold tw
    rw [List.map_reverse, List.length_flatten, List.length_flatten, List.map_reverse, List.sum_reverse]
  have := h.few
  omega⟩
end Eng
/-! Dicts from texts to anything; which words lean on which. -/
namespace Eng
open PySem PySem.Spec L2 SX
open PyProof.Rows hiding St
theorem sq_nx {a c : SS} {ρ ρ1 : En} (h : a ρ = .nx ρ1) : sSeq a c ρ = c ρ1 := by simp [h]
section
variable {β : Type} (f : β → D)
def gget (C : List (Str × β)) (w : Str) : Option β := (C.find? fun e => decide (e.1 = w)).map (·.2)
end
section
variable {β : Type}
end
/-! ### straight -/
/-- the words told in a word's rows -/
def tl (b : List Row) (w : Str) : List Str := (tolds b w).flatten
theorem tl_mem {b : List Row} {w v : Str} : v ∈ tl b w ↔ ∃ r ∈ b, r.1 = w ∧ v ∈ r.2 := by
  unfold tl tolds
  simp only [List.mem_flatten, List.mem_map, List.mem_filter, decide_eq_true_eq]
  constructor
  · rintro ⟨l, ⟨r, ⟨h1, h2⟩, rfl⟩, h3⟩
    exact ⟨r, h1, h2, h3⟩
  · rintro ⟨r, h1, h2, h3⟩
    exact ⟨r.2, ⟨r, ⟨h1, h2⟩, rfl⟩, h3⟩
abbrev Ld := List (Str × List Str)
/-- all words, each with the words told in its rows -/
structure Sg (ks : List Str) (b : List Row) (C : Ld) : Prop where
  keys : C.map (·.1) = ks
  get : ∀ w ∈ ks, gget C w = some (tl b w)
end Eng
/-! Which words lean on which, II. -/
namespace Eng
open PySem PySem.Spec L2 SX
open PyProof.Rows hiding St
/-- w leans on v, straight or through others -/
inductive Rc (b : List Row) (w : Str) : Str → Prop
  | st {r : Row} {v : Str} (hr : r ∈ b) (h : r.1 = w) (hv : v ∈ r.2) : Rc b w v
  | go {r : Row} {v : Str} (hr : r ∈ b) (h : Rc b w r.1) (hv : v ∈ r.2) : Rc b w v
theorem Rc.wds {b : List Row} {w v : Str} (h : Rc b w v) : v ∈ wds b := by
  cases h with
  | st hr _ hv => exact wds_mem.mpr ⟨_, hr, .inr hv⟩
  | go hr _ hv => exact wds_mem.mpr ⟨_, hr, .inr hv⟩
theorem Rc.tl {b : List Row} {w u v : Str} (h : Rc b w u) (hv : v ∈ tl b u) : Rc b w v := by
  obtain ⟨r, hr, e, hv⟩ := tl_mem.mp hv
  exact .go hr (e ▸ h) hv
@[simp] theorem seq_eL (ws : List Str) : (O.val (eL ws)).seq? = some (ws.map .str) := rfl
/-- on the way from w -/
structure Mt (b : List Row) (w : Str) (met fresh : List Str) : Prop where
  nd : met.Nodup
  m : ∀ v ∈ met, Rc b w v
  f : ∀ v ∈ fresh, Rc b w v
  a : ∀ v ∈ Eng.tl b w, v ∈ met ∨ v ∈ fresh
  c : ∀ u ∈ met, ∀ v ∈ Eng.tl b u, v ∈ met ∨ v ∈ fresh
  z : fresh.length ≤ 2000 * (met.length + 1)
theorem Mt.len {b : List Row} {w : Str} {met fresh : List Str} (h : Mt b w met fresh) (hW : (wds b).length ≤ 2000) : met.length ≤ 2000 :=
  Nat.le_trans (sub_len h.nd fun v hv => (h.m v hv).wds) hW
end Eng
/-! Which words lean on which, III: under, over; the law's; the kinds of refusals. -/
namespace Eng
open PySem PySem.Spec L2 SX
open PyProof.Rows hiding St
/-! ### the law's words beneath -/
def Jb (b : List Row) (w : Str) (k : List Str) : Prop := k.Nodup ∧ ∀ v ∈ k, Rc b w v
theorem Jb.len {b : List Row} {w : Str} {k : List Str} (h : Jb b w k) (hW : (wds b).length ≤ 2000) : k.length ≤ 2000 := Nat.le_trans (sub_len h.1 fun v hv => (h.2 v hv).wds) hW
/-! ### the kinds of refusals -/
@[simp] theorem own_exn (c : Nat) : (O.exn c).own = true := rfl
@[simp] theorem fins_exn (c : Nat) (x : O) (os : List O) (ρ : En) : fins (.exn c :: os) (some (true, x) :: ρ) = match fins os ρ with | some r => some (x :: r) | none => none := rfl
@[simp] theorem gone_nx (i : Nat) (ρ : En) : gone i (.nx ρ) = .nx (ρ.set i none) := rfl
@[simp] theorem oRd_ap (sem : O → O → Option O) (f g : ES) (ρ : En) : oRd sem f g ρ = (f ρ).bind fun p ρ1 => match look ρ1 p with
  | some o0 => if o0.list?.isSome = true then (g ρ1).bind fun q ρ2 => match looks ρ2 [p, q] with
      | some os => put ρ2 (two sem os)
      | none => .stuck
    else .stuck
  | none => .stuck := rfl
@[simp] theorem isS_exn (c : Nat) : isS (.exn c) (.val .none) = some (.val (.bool false)) := rfl
@[simp] theorem isS_non : isS (.val .none) (.val .none) = some (.val (.bool true)) := rfl
@[simp] theorem isS_lst (ds : List D) : isS (.lst ds) (.val .none) = some (.val (.bool false)) := rfl
end Eng
/-! Law k31. -/
namespace Eng
open PySem PySem.Spec L2 SX
open PyProof.Rows hiding St
end Eng
/-! Law k12. -/
namespace Eng
open PySem PySem.Spec L2 SX
open PyProof.Rows hiding St
end Eng
/-! Law k13: the answer. -/
namespace Eng
open PySem PySem.Spec L2 SX
open PyProof.Rows hiding St
theorem Dr.cut {n : Nat} {ds : List Int} (h : Dr n ds) (k : Nat) (hk : k ≤ n) : Dr (n - k) (cutA ds (some (k : Int)) none) := by
  have e : cutA ds (some (k : Int)) none = ds.drop k := by
    unfold cutA
    rw [HT.sIx_nat, HT.sIx_none, h.1, Nat.min_eq_left hk]
    rw [List.take_of_length_le (by rw [List.length_drop, h.1]; exact Nat.le_refl _)]
  rw [e]
  exact ⟨by rw [List.length_drop, h.1], fun d hd => h.2 d (List.mem_of_mem_drop hd)⟩
theorem Gd.si {p : SI} (h1 : WW p.1) (h2 : 0 ≤ p.2) (h3 : p.2 < 1000000) : Gd (eSI p) 1 84 := by
  have := Gd.tup (xs := [.str p.1, .int p.2]) (k := 0) (W := 41) (by
    intro x hx
    simp only [List.mem_cons, List.not_mem_nil, or_false] at hx
    rcases hx with rfl | rfl
    · exact h1.gd.mono (by omega) (by omega)
    · exact Gd.int h2 (by omega))
  exact this.mono (by omega) (by simp)
end Eng
/-! Law k16. -/
namespace Eng
open PySem PySem.Spec L2 SX
open PyProof.Rows hiding St
theorem cls_mono {b c : List Row} (h : ∀ r ∈ b, r ∈ c) {w : Str} (hw : w ∈ cls b) : w ∈ cls c := cls_min (S := fun v => v ∈ cls c) (fun r hr hv => cls_closed (h r hr) hv) hw
theorem cutA_take {α : Type} (xs : List α) (i : Int) (h : 0 ≤ i) : cutA xs none (some i) = xs.take i.toNat := by
  unfold cutA
  obtain ⟨n, rfl⟩ : ∃ n : Nat, i = (n : Int) := ⟨i.toNat, by omega⟩
  rw [HT.sIx_nat, HT.sIx_none, Int.toNat_natCast, List.drop_zero, Nat.sub_zero]
  by_cases hn : n ≤ xs.length
  · rw [Nat.min_eq_left hn]
  · rw [Nat.min_eq_right (by omega), List.take_of_length_le (Nat.le_refl _), List.take_of_length_le (by omega)]
theorem mem_cutA {α : Type} {xs : List α} {lo hi : Option Int} {x : α} (h : x ∈ cutA xs lo hi) : x ∈ xs := List.mem_of_mem_drop (List.mem_of_mem_take h)
theorem slS_bk (b : List Row) (lo hi : Option Int) : slS lo hi (.val (eBk b)) = some (.val (eBk (cutA b lo hi))) := by
  unfold eBk
  rw [slS_tup, cutA_map]
theorem addS_bk2 (a m : List Row) : addS (.val (eBk a)) (.val (eBk m)) = if a.length + m.length ≤ sizeLine then some (.val (eBk (a ++ m))) else none := addS_bk a m
theorem Bo.mem {b c : List Row} (h : Bo b) (hl : c.length ≤ 200) (hm : ∀ r ∈ c, r ∈ b) : Bo c := ⟨hl, fun r hr => h.row r (hm r hr)⟩
end Eng
/-! The laws' learnt words; books trimmed. -/
namespace Eng
open PySem PySem.Spec L2 SX
open PyProof.Rows hiding St
/-- one row of a pass -/
def stL (s : List Str × Bool) (r : Row) : List Str × Bool := if r.1 ∉ s.1 ∧ (r.2.all fun v => decide (v ∈ s.1)) = true then (s.1 ++ [r.1], true) else s
def passL (b : List Row) (k : List Str) : List Str × Bool := b.foldl stL (k, false)
/-- what is known meanwhile -/
def Jl (b : List Row) (k : List Str) : Prop := Kn b k ∧ ∀ w ∈ k, w ∈ cls b
theorem stL_j {b : List Row} {k : List Str} {f : Bool} (h : Jl b k) {r : Row} (hr : r ∈ b) : Jl b (stL (k, f) r).1 ∧ ((stL (k, f) r) = (k, f) ∨ ((stL (k, f) r).2 = true ∧ k.length < (stL (k, f) r).1.length)) := by
  unfold stL
  simp only
  split
  · rename_i hc
    have ha := List.all_eq_true.mp hc.2
    have hin : r.1 ∈ cls b := cls_closed hr fun v hv => h.2 v (of_decide_eq_true (ha v hv))
    refine ⟨⟨?_, fun w hw => ?_⟩, .inr ⟨rfl, by simp⟩⟩
    · rw [← addT_new hc.1]
      exact h.1.add (List.mem_map_of_mem hr)
    · rcases List.mem_append.mp hw with g | g
      · exact h.2 w g
      · rw [List.mem_singleton.mp g]; exact hin
  · exact ⟨h, .inl rfl⟩
theorem fold_j {b : List Row} : ∀ (rs : List Row) (k : List Str) (f : Bool), (∀ r ∈ rs, r ∈ b) → Jl b k → Jl b (rs.foldl stL (k, f)).1 ∧ ((rs.foldl stL (k, f)) = (k, f) ∨ ((rs.foldl stL (k, f)).2 = true ∧ k.length < (rs.foldl stL (k, f)).1.length))
  | [], k, f, _, h => ⟨h, .inl rfl⟩
  | r :: rs, k, f, hm, h => by
    obtain ⟨h1, h2⟩ := stL_j (f := f) h (hm r List.mem_cons_self)
    rw [List.foldl_cons]
    obtain ⟨k', f', e⟩ : ∃ k' f', stL (k, f) r = (k', f') := ⟨_, _, rfl⟩
    rw [e] at h1 h2 ⊢
    obtain ⟨h3, h4⟩ := fold_j rs k' f' (fun q hq => hm q (List.mem_cons_of_mem _ hq)) h1
    refine ⟨h3, ?_⟩
    rcases h2 with h2 | ⟨h2, h2'⟩
    · cases h2
      exact h4
    · simp only at h2 h2'
      rcases h4 with h4 | ⟨h4, h4'⟩
      · rw [h4]
        exact .inr ⟨h2, h2'⟩
      · exact .inr ⟨h4, by omega⟩
theorem fold_stay {b : List Row} : ∀ (rs : List Row) (k : List Str), (∀ r ∈ rs, r ∈ b) → Jl b k → (rs.foldl stL (k, false)) = (k, false) → ∀ r ∈ rs, ¬ (r.1 ∉ k ∧ (r.2.all fun v => decide (v ∈ k)) = true)
  | [], k, _, _, _, r, h => by cases h
  | q :: rs, k, hm, hj, e, r, h => by
    rw [List.foldl_cons] at e
    by_cases hc : q.1 ∉ k ∧ (q.2.all fun v => decide (v ∈ k)) = true
    · have e1 : stL (k, false) q = (k ++ [q.1], true) := by unfold stL; rw [if_pos hc]
      rw [e1] at e
      have hj' : Jl b (k ++ [q.1]) := by
        have := (stL_j (f := false) hj (hm q List.mem_cons_self)).1
        rwa [e1] at this
      have := (fold_j rs (k ++ [q.1]) true (fun q hq => hm q (List.mem_cons_of_mem _ hq)) hj').2
      rw [e] at this
      rcases this with g | ⟨g, _⟩
      · have := congrArg Prod.snd g
        cases this
      · cases g
    · have e1 : stL (k, false) q = (k, false) := by unfold stL; rw [if_neg hc]
      rw [e1] at e
      rcases List.mem_cons.mp h with rfl | h
      · exact hc
      · exact fold_stay rs k (fun q hq => hm q (List.mem_cons_of_mem _ hq)) hj e r h
theorem pass_end {b : List Row} {k : List Str} (hj : Jl b k) (e : passL b k = (k, false)) {w : Str} : w ∈ k ↔ w ∈ cls b := by
  refine ⟨hj.2 w, fun h => cls_min (S := fun v => v ∈ k) (fun r hr hv => ?_) h⟩
  refine Classical.byContradiction fun hn => fold_stay b k (fun _ h => h) hj e r hr ⟨hn, List.all_eq_true.mpr fun v h => decide_eq_true (hv v h)⟩
theorem ll_turn (b : List Row) (hb : Bo b) (x0 : Sl) (s : List Str × Bool) (hs : Jl b s.1) (r : Row) : turn (.tup [3, 4]) [3, 4] w_l_learnt_2_2 (eRow r) [x0, some (false, .dic (kd s.1)), some (false, .val (.bool s.2)), none, none, none] =
    .nx [x0, some (false, .dic (kd (stL s r).1)), some (false, .val (.bool (stL s r).2)), none, none, none] := by
  obtain ⟨k, f⟩ := s
  have hk := hs.1.len
  have hbl := hb.len
  simp only at hk
  have z : k.length < sizeLine := small (m := 200) (by omega)
  have c := lc_all (f := PyData.str) (c := none) (T := .nm 5) (t := tTrue) (g := o2 inS (oNm 5) (oNm 1)) (own := [5])
    (ρ := [x0, some (false, .dic (kd k)), some (false, .val (.bool f)), some (false, .val (.str r.1)), some (false, .val (eW r.2)), none])
    (fun w => .bool (decide (w ∈ k))) r.2 (by simp) (by intro w _; simp [lturn_ap])
  simp [-List.map_map] at c
  have a := allS_map (fun w => decide (w ∈ k)) r.2
  unfold stL
  by_cases h1 : r.1 ∈ k
  · simp [-List.map_map, -allS_ap, -List.all_eq_true, turn_ap, w_l_learnt_2_2, h1]
  · cases h2 : (r.2.all fun w => decide (w ∈ k)) with
    | true => simp [-List.map_map, -allS_ap, -List.all_eq_true, turn_ap, w_l_learnt_2_2, c_l_learnt_2_1, h1, c, a, h2, z, addT_new h1]
    | false => simp [-List.map_map, -allS_ap, -List.all_eq_true, turn_ap, w_l_learnt_2_2, c_l_learnt_2_1, h1, c, a, h2]
theorem Jl.nil (b : List Row) : Jl b [] := ⟨Kn.nil b, by simp⟩
/-! ### trimmed -/
/-- the book without one row -/
def cut1 (b : List Row) (i : Nat) : List Row := b.take i ++ b.drop (i + 1)
theorem cut1_sub (b : List Row) (i : Nat) : (cut1 b i).Sublist b := by
  unfold cut1
  have h := List.take_append_drop i b
  have : (b.take i ++ b.drop (i + 1)).Sublist (b.take i ++ b.drop i) := List.Sublist.append (List.Sublist.refl _) (by
    rw [show b.drop (i + 1) = (b.drop i).drop 1 by rw [List.drop_drop]]
    exact List.drop_sublist _ _)
  rwa [h] at this
theorem cutA_pre {α : Type} (xs : List α) (n : Nat) : cutA xs none (some (n : Int)) = xs.take n := by
  have := cutA_take xs (n : Int) (by omega)
  simpa using this
theorem Bo.subl {b c : List Row} (h : Bo b) (hs : c.Sublist b) : Bo c := h.mem (Nat.le_trans hs.length_le h.len) fun r hr => hs.subset hr
/-- none of the first rows can be left out -/
def Fst (b : List Row) (n : Nat) : Prop := ∀ i, i < n → i < b.length → lrn (cut1 b i) ≠ lrn b
theorem lrn_eq {b c : List Row} (h : ∀ w, w ∈ cls b ↔ w ∈ cls c) : lrn b = lrn c := sortT_ext (cls_kn b).1 (cls_kn c).1 h
theorem cls_eq {b c : List Row} (h : lrn b = lrn c) (w : Str) : w ∈ cls b ↔ w ∈ cls c := by rw [← lrn_mem, h, lrn_mem]
theorem mem_cut1 {b : List Row} {i : Nat} {r : Row} : r ∈ cut1 b i ↔ ∃ j, j ≠ i ∧ b[j]? = some r := by
  unfold cut1
  rw [List.mem_append]
  constructor
  · rintro (h | h)
    · obtain ⟨j, hj⟩ := List.mem_iff_getElem?.mp h
      rw [List.getElem?_take] at hj
      split at hj
      · exact ⟨j, by omega, hj⟩
      · cases hj
    · obtain ⟨j, hj⟩ := List.mem_iff_getElem?.mp h
      rw [List.getElem?_drop] at hj
      exact ⟨i + 1 + j, by omega, hj⟩
  · rintro ⟨j, hj, e⟩
    rcases Nat.lt_or_gt_of_ne hj with h | h
    · refine .inl (List.mem_iff_getElem?.mpr ⟨j, ?_⟩)
      rw [List.getElem?_take, if_pos h, e]
    · refine .inr (List.mem_iff_getElem?.mpr ⟨j - (i + 1), ?_⟩)
      rw [List.getElem?_drop, show i + 1 + (j - (i + 1)) = j by omega, e]
theorem cut1_get {b : List Row} {i : Nat} (h : i < b.length) (m : Nat) : (cut1 b i)[m]? = if m < i then b[m]? else b[m + 1]? := by
  unfold cut1
  have hl : (b.take i).length = i := by rw [List.length_take]; omega
  split
  · rename_i h1
    rw [List.getElem?_append_left (by omega), List.getElem?_take, if_pos h1]
  · rename_i h1
    rw [List.getElem?_append_right (by omega), List.getElem?_drop, hl, show i + 1 + (m - i) = m + 1 by omega]
theorem Fst.cut {b : List Row} {i : Nat} (hi : i < b.length) (h : Fst b i) (e : lrn (cut1 b i) = lrn b) : Fst (cut1 b i) i := fun j hj hl q => by
  have hjb : j < b.length := by omega
  refine h j hj hjb (lrn_eq fun w => ⟨fun hw => cls_mono (fun r hr => (cut1_sub b j).subset hr) hw, fun hw => ?_⟩)
  have hw2 : w ∈ cls (cut1 (cut1 b i) j) := (cls_eq (q.trans e) w).mpr hw
  refine cls_mono (fun r hr => ?_) hw2
  obtain ⟨m, hm, em⟩ := mem_cut1.mp hr
  rw [cut1_get hi] at em
  split at em
  · exact mem_cut1.mpr ⟨m, hm, em⟩
  · exact mem_cut1.mpr ⟨m + 1, by omega, em⟩
theorem cutA_post {α : Type} (xs : List α) (n : Nat) : cutA xs (some ((n : Int) + 1)) none = xs.drop (n + 1) := by
  unfold cutA
  rw [show ((n : Int) + 1) = ((n + 1 : Nat) : Int) by omega, HT.sIx_nat, HT.sIx_none]
  by_cases hn : n + 1 ≤ xs.length
  · rw [Nat.min_eq_left hn]
    exact List.take_of_length_le (by rw [List.length_drop]; omega)
  · rw [Nat.min_eq_right (by omega), List.drop_eq_nil_of_le (show xs.length ≤ n + 1 by omega)]
    simp
theorem WW_of {b : List Row} (hb : Bo b) {w : Str} (h : w ∈ lrn b) : WW w := wds_WW hb w (cls_wds (lrn_mem.mp h))
/-! ### the law's looks -/
theorem Gd.bk {b : List Row} (h : Bo b) : Gd (eBk b) 3 (b.length * 501) := by
  have := Gd.tup (Gd.map (f := eRow) (xs := b) fun r hr => Gd.row (h.row r hr))
  rwa [List.length_map] at this
end Eng
/-! Books without a word's rows; what a word must have. -/
namespace Eng
open PySem PySem.Spec L2 SX
open PyProof.Rows hiding St
theorem tw_sub {a b : List Row} (h : a.Sublist b) : (tw a).length ≤ (tw b).length := by
  induction h with
  | slnil => simp
  | cons r _ ih => unfold tw at *; simp only [List.map_cons, List.flatten_cons, List.length_append]; omega
  | cons_cons r _ ih => unfold tw at *; simp only [List.map_cons, List.flatten_cons, List.length_append]; omega
theorem Bf.subl {a b : List Row} (h : Bf b) (hs : a.Sublist b) : Bf a := ⟨h.bo.subl hs, by
  have h1 := tw_sub hs
  have h2 : (heads a).length ≤ (heads b).length := by unfold heads; rw [List.length_map, List.length_map]; exact hs.length_le
  have := h.few
  omega⟩
/-! ### the law's learnt words of a list of rows -/
end Eng
/-! Pictures that suffice. -/
namespace Eng
open PySem PySem.Spec L2 SX
open PyProof.Rows hiding St
theorem lrn_WW {b : List Row} (hb : Bo b) : ∀ w ∈ lrn b, WW w := fun _ h => WW_of hb h
/-! ### the law's own -/
/-! ### drawn words -/
/-! ### strange words -/
end Eng
/-! The law's own looks at orders and knots. -/
namespace Eng
open PySem PySem.Spec L2 SX
open PyProof.Rows hiding St
/-! ### orders -/
/-! ### knots -/
def kn (b : List Row) (S : List Str) : List Row := S.map fun w => (w, blk b w S)
end Eng
/-! Law k41. -/
namespace Eng
open PySem PySem.Spec L2 SX
open PyProof.Rows hiding St
end Eng
/-! Law k42. -/
namespace Eng
open PySem PySem.Spec L2 SX
open PyProof.Rows hiding St
/-- without a word -/
def lo (l : List Str) (w : Str) : List Str := l.filter fun v => !decide (v = w)
/-- a list, frozen or not -/
def lv (f : Bool) (l : List Str) : O := if f = true then .val (eL l) else .lst (l.map .str)
end Eng
/-! Cores: knots of words of which no fewer have one. -/
namespace Eng
open PySem PySem.Spec L2 SX
open PyProof.Rows hiding St
/-! ### held among some words -/
@[simp] theorem inS_eLw (x : Str) (ws : List Str) : inS (.val (.str x)) (.val (eL ws)) = some (.val (.bool (decide (x ∈ ws)))) := inS_list x ws
def ha (b : List Row) (ws : List Str) : List Str := hfx b (ws.length + 1) ws
/-! ### the core -/
/-- a knot of words, of which no fewer have one -/
structure Cr (b : List Row) (S : List Str) : Prop where
  ne : S ≠ []
  nod : S.Nodup
  srt : S.Pairwise fun x y => leT x y = true
  wds : ∀ w ∈ S, w ∈ wds b
  hs : Hs b S
  min : ∀ w ∈ S, ∀ T, Hs b T → (∀ v ∈ T, v ∈ S ∧ v ≠ w) → T = []
/-! ### beside pictures -/
end Eng
/-! Law k34. -/
namespace Eng
open PySem PySem.Spec L2 SX
open PyProof.Rows hiding St
end Eng
/-! Knots apart. -/
namespace Eng
open PySem PySem.Spec L2 SX
open PyProof.Rows hiding St
/-! ### the law's held words -/
/-! ### the law -/
end Eng
/-! The fewest words, and their papers. -/
namespace Eng
open PySem PySem.Spec L2 SX
open PyProof.Rows hiding St
/-! ### lists of so many words -/
def sts : List Str → Nat → List (List Str)
  | _, 0 => [[]]
  | [], _ + 1 => []
  | w :: ws, m + 1 => (sts ws m).map (w :: ·) ++ sts ws (m + 1)
/-! ### the fewest words -/
/-! ### papers -/
end Eng
/-! Books cut; law k46. -/
namespace Eng
open PySem PySem.Spec L2 SX
open PyProof.Rows hiding St
/-! ### law k46 -/
end Eng
/-! Law k44: the paper gone along. -/
namespace Eng
open PySem PySem.Spec L2 SX
open PyProof.Rows hiding St
end Eng
/-! The looks of the laws over the other maker's books. -/
namespace Eng
open PySem PySem.Spec L2 SX
open PyProof.Rows hiding St
/-! ### knots -/
/-! ### orders -/
end Eng
/-! Law k64: its books, and the answer. -/
namespace Eng
open PySem PySem.Spec L2 SX
open PyProof.Rows hiding St
theorem l_told_exN (N : Nat) (hN : 11 ≤ N) (ds : List Int) (ns : List Str) (h : Dr N ds) (hn : ns ≠ []) : ∃ ws, f_l_told [.lst (ds.map .int), .lst (ns.map .str)] = .ret (.val (eW ws)) [.lst (ds.map .int), .lst (ns.map .str)] ∧ Td ns ws := by
  have hp : 0 < ns.length := List.length_pos_iff.mpr hn
  have hp' : (0 : Int) < ns.length := by omega
  obtain ⟨a0, b0, c0⟩ := h.at 0 (by omega) (by omega)
  obtain ⟨a1, b1, c1⟩ := h.at 1 (by omega) (by omega)
  obtain ⟨a2, b2, c2⟩ := h.at 2 (by omega) (by omega)
  obtain ⟨m, hm, em⟩ := l_told_many (dat ds 1 % 10) (by omega) (by omega)
  have body : ∀ top : Int, 0 < top → top ≤ ns.length → ∃ ρ', forL none (.nm 4) [4, 5] w_l_told_1 (rng 0 m) [some (true, .lst (ds.map .int)), some (true, .lst (ns.map .str)), some (false, .val (.int top)), some (false, .lst []), none, none] = .nx ρ' ∧
      ∃ ws : List Str, (ws.length ≤ m ∧ ws.Nodup ∧ ∀ w ∈ ws, w ∈ ns) ∧ ρ' = [some (true, .lst (ds.map .int)), some (true, .lst (ns.map .str)), some (false, .val (.int top)), some (false, .lst (ws.map .str)), none, none] := fun top t0 t1 => by
    refine forL_rng (fun k ρ => ∃ ws : List Str, (ws.length ≤ k ∧ ws.Nodup ∧ ∀ w ∈ ws, w ∈ ns) ∧ ρ = [some (true, .lst (ds.map .int)), some (true, .lst (ns.map .str)), some (false, .val (.int top)), some (false, .lst (ws.map .str)), none, none]) m _ ⟨[], by simp, rfl⟩ ?_
    rintro k ρ hk ⟨ws, ⟨hl, hd, hw⟩, rfl⟩
    obtain ⟨a, b, c⟩ := h.at (3 + (k : Nat)) (by omega) (by omega)
    have q1 := Int.emod_nonneg (dat ds (3 + (k : Nat))) (show top ≠ 0 by omega)
    have q2 := Int.emod_lt_of_pos (dat ds (3 + (k : Nat))) t0
    obtain ⟨w, ew, hwn⟩ := at_strs (ns := ns) q1 (by omega)
    have z : ws.length < sizeLine := small (m := 8) (by omega)
    by_cases hin : w ∈ ws
    · exact ⟨_, by simp [-List.map_map, turn_ap, w_l_told_1, a, t0, ew, hin]; rfl, ws, ⟨by omega, hd, hw⟩, by simp⟩
    · refine ⟨_, by simp [-List.map_map, turn_ap, w_l_told_1, a, t0, ew, hin, z]; rfl, ws ++ [w], ⟨by simp; omega, ?_, ?_⟩, by simp⟩
      · rw [List.nodup_append]
        refine ⟨hd, by simp, fun a ha b hb e => hin ?_⟩
        rw [List.mem_singleton] at hb
        rw [← hb, ← e]
        exact ha
      · intro v hv
        rw [List.mem_append, List.mem_singleton] at hv
        rcases hv with h | rfl
        · exact hw v h
        · exact hwn
  have hb : (m : Int) ≤ 1000000 := by omega
  have hb' : (-4611686018427387904 : Int) ≤ m := by omega
  have q3 := Int.emod_lt_of_pos (dat ds 0) hp'
  have z10 : 10 ≤ 1000 := by decide
  by_cases k1 : 0 < dat ds 2 % 3
  · by_cases k2 : 0 < dat ds 0 % ns.length
    · obtain ⟨ρ', e, ws, hw, rfl⟩ := body _ k2 (by omega)
      refine ⟨ws, ?_, by omega, hw.2⟩
      simp [-List.map_map, f_l_told, b_l_told, runF_ap, a0, a1, a2, hp, hp', k1, k2, em, hb, hb', e, eW]
    · obtain ⟨ρ', e, ws, hw, rfl⟩ := body _ hp' (by omega)
      refine ⟨ws, ?_, by omega, hw.2⟩
      simp [-List.map_map, f_l_told, b_l_told, runF_ap, a0, a1, a2, hp, hp', k1, k2, em, hb, hb', e, eW]
  · obtain ⟨ρ', e, ws, hw, rfl⟩ := body _ hp' (by omega)
    refine ⟨ws, ?_, by omega, hw.2⟩
    simp [-List.map_map, f_l_told, b_l_told, runF_ap, a0, a1, a2, hp, hp', k1, em, hb, hb', e, eW]

theorem cutA_from' {α : Type} (xs : List α) (n : Nat) : cutA xs (some (n : Int)) none = xs.drop n := by
  unfold cutA
  rw [HT.sIx_nat, HT.sIx_none]
  by_cases hn : n ≤ xs.length
  · rw [Nat.min_eq_left hn]
    exact List.take_of_length_le (by rw [List.length_drop]; omega)
  · rw [Nat.min_eq_right (by omega), List.drop_eq_nil_of_le (show xs.length ≤ n by omega)]
    simp
def RowOk (r : Row) : Prop := WW r.1 ∧ r.2.length ≤ 20 ∧ ∀ w ∈ r.2, WW w
/-- rows so far -/
def RR (n : Nat) (rs : List Row) : Prop := rs.length ≤ n ∧ ∀ r ∈ rs, RowOk r
theorem RR.bo {n : Nat} {rs : List Row} (h : RR n rs) (hn : n ≤ 200) : Bo rs := ⟨Nat.le_trans h.1 hn, h.2⟩
theorem RR.mono {n m : Nat} {rs : List Row} (h : RR n rs) (hn : n ≤ m) : RR m rs := ⟨Nat.le_trans h.1 hn, h.2⟩
theorem RR.add {n : Nat} {rs : List Row} {r : Row} (h : RR n rs) (hr : RowOk r) : RR (n + 1) (rs ++ [r]) := ⟨by have := h.1; simp; omega, fun q hq => (List.mem_append.mp hq).elim (h.2 q) fun e => by rw [List.mem_singleton.mp e]; exact hr⟩
end Eng
/-! The makers of names for the laws of laying. -/
namespace Eng
open PySem PySem.Spec L2 SX
open PyProof.Rows hiding St
end Eng
/-! New names. -/
namespace Eng
open PySem PySem.Spec L2 SX
open PyProof.Rows hiding St
def stm (w : Str) : Str := (Txt.split w (Str.ofString "/")).headD (Str.ofString "")
def nmF (w : Str) (n : Nat) : Str := stm w ++ Str.ofString "/" ++ S (TL.numL n)
theorem stm_ex {w : Str} (h : WW w) : ∃ st, Stem st ∧ stm w = S st := by
  obtain ⟨l, r, hl, e⟩ := h.split
  exact ⟨l, hl, by unfold stm; rw [e]; rfl⟩
theorem nmF_WW {w : Str} (h : WW w) {n : Nat} (h2 : 2 ≤ n) (h9 : n ≤ 99) : WW (nmF w n) := by
  obtain ⟨st, hst, e⟩ := stm_ex h
  unfold nmF
  rw [e, cat_slash]
  exact ⟨st, hst, .inr ⟨n, h2, h9, rfl⟩⟩
theorem S_inj' {a b : List Nat} (h : S a = S b) : a = b := by
  have := congrArg (fun s : Str => s.cps.toList) h
  simpa [S] using this
theorem nmF_inj {w : Str} (h : WW w) {m n : Nat} (e : nmF w m = nmF w n) : m = n := by
  obtain ⟨st, hst, es⟩ := stm_ex h
  unfold nmF at e
  rw [es, cat_slash, cat_slash] at e
  have := S_inj' e
  have := List.append_cancel_left this
  exact TL.numL_inj (by simpa using this)
def frq (w : Str) (met : List Str) : Option Nat := ((List.range 98).map (2 + ·)).find? fun n => !decide (nmF w n ∈ met)
def fnw (w : Str) (met : List Str) : Str := nmF w ((frq w met).getD 2)
theorem frq_some {w : Str} {met : List Str} {n : Nat} (h : frq w met = some n) : 2 ≤ n ∧ n ≤ 99 ∧ nmF w n ∉ met := by
  unfold frq at h
  have h1 := List.mem_of_find?_eq_some h
  have h2 := List.find?_some h
  obtain ⟨k, hk, rfl⟩ := List.mem_map.mp h1
  have := List.mem_range.mp hk
  exact ⟨by omega, by omega, by simpa using h2⟩
theorem frq_ex {w : Str} (hw : WW w) {met : List Str} (h : met.length < 98) : ∃ n, frq w met = some n := by
  cases e : frq w met with
  | some n => exact ⟨n, rfl⟩
  | none =>
    exfalso
    unfold frq at e
    rw [List.find?_eq_none] at e
    have hs : ∀ x ∈ ((List.range 98).map (2 + ·)).map (nmF w), x ∈ met := fun x hx => by
      obtain ⟨n, hn, rfl⟩ := List.mem_map.mp hx
      have := e n hn
      simpa using this
    have nd : (((List.range 98).map (2 + ·)).map (nmF w)).Nodup := by
      refine List.pairwise_map.mpr (List.pairwise_map.mpr (List.nodup_range.imp fun hab q => hab ?_))
      have := nmF_inj hw q
      omega
    have := sub_len nd hs
    simp at this
    omega
/-! ### new names -/
abbrev Pr := Str × Str
def stN (mine same : List Str) (s : List Pr × List Str) (w : Str) : List Pr × List Str := if w ∈ mine ∧ w ∉ same then (s.1 ++ [(w, fnw w s.2)], addT s.2 (fnw w s.2)) else (s.1 ++ [(w, w)], s.2)
def nnS (mine theirs same : List Str) : List Pr × List Str := theirs.foldl (stN mine same) ([], metT (mine ++ theirs))
def nn (mine theirs same : List Str) : List Pr := (nnS mine theirs same).1
/-- what the names are so far -/
structure Jn (mine theirs same : List Str) (done : List Str) (s : List Pr × List Str) : Prop where
  fst : s.1.map (·.1) = done
  met : ∀ x, x ∈ s.2 ↔ (x ∈ mine ∨ x ∈ theirs) ∨ x ∈ s.1.map (·.2)
  len : s.2.length ≤ mine.length + theirs.length + done.length
  nod : (s.1.map (·.2)).Nodup
  ww : ∀ x ∈ s.1.map (·.2), WW x
  old : ∀ p ∈ s.1, p.2 = p.1 ∨ (p.2 ∉ mine ∧ p.2 ∉ theirs)
  keep : ∀ p ∈ s.1, p.1 ∉ mine ∨ p.1 ∈ same → p.2 = p.1
  new : ∀ p ∈ s.1, p.1 ∈ mine ∧ p.1 ∉ same → p.2 ∉ mine ∧ p.2 ∉ theirs
theorem Jn.nil (mine theirs same : List Str) : Jn mine theirs same [] ([], metT (mine ++ theirs)) := ⟨rfl, fun x => by rw [mem_metT]; simp, by have := metT_len (mine ++ theirs); simpa using this, by simp, by simp, by simp, by simp, by simp⟩
theorem Jn.step {mine theirs same done rest : List Str} {w : Str} {s : List Pr × List Str} (h : Jn mine theirs same done s) (ht : theirs = done ++ w :: rest) (hn : theirs.Nodup) (hW : ∀ v ∈ theirs, WW v) (hl : mine.length + 2 * theirs.length < 98) : Jn mine theirs same (done ++ [w]) (stN mine same s w) := by
  have hwt : w ∈ theirs := by rw [ht]; simp
  have hdl : done.length < theirs.length := by rw [ht]; simp
  unfold stN
  by_cases q : w ∈ mine ∧ w ∉ same
  · rw [if_pos q]
    obtain ⟨n, hf⟩ := frq_ex (hW w hwt) (met := s.2) (by have := h.len; omega)
    obtain ⟨n2, n9, nm⟩ := frq_some hf
    have e : fnw w s.2 = nmF w n := by unfold fnw; rw [hf]; rfl
    rw [e]
    have nm' : ¬ ((nmF w n ∈ mine ∨ nmF w n ∈ theirs) ∨ nmF w n ∈ s.1.map (·.2)) := fun q => nm ((h.met _).mpr q)
    refine ⟨by simp [h.fst], fun x => ?_, ?_, ?_, ?_, ?_, ?_, ?_⟩
    · rw [addT_new nm, List.mem_append, h.met]
      simp only [List.map_append, List.map_cons, List.map_nil, List.mem_append, List.mem_singleton]
      exact or_assoc
    · rw [addT_new nm]
      have := h.len
      simp only [List.length_append, List.length_singleton]
      omega
    · simp only [List.map_append, List.map_cons, List.map_nil]
      rw [List.nodup_append]
      refine ⟨h.nod, by simp, fun x hx y hy e => ?_⟩
      rw [List.mem_singleton.mp hy] at e
      exact nm' (.inr (e ▸ hx))
    · intro x hx
      simp only [List.map_append, List.map_cons, List.map_nil, List.mem_append, List.mem_singleton] at hx
      rcases hx with hx | rfl
      · exact h.ww x hx
      · exact nmF_WW (hW w hwt) n2 n9
    · intro p hp
      rcases List.mem_append.mp hp with hp | hp
      · exact h.old p hp
      · rw [List.mem_singleton.mp hp]
        exact .inr ⟨fun q => nm' (.inl (.inl q)), fun q => nm' (.inl (.inr q))⟩
    · intro p hp hc
      rcases List.mem_append.mp hp with hp | hp
      · exact h.keep p hp hc
      · rw [List.mem_singleton.mp hp] at hc ⊢
        rcases hc with hc | hc
        · exact absurd q.1 hc
        · exact absurd hc q.2
    · intro p hp hc
      rcases List.mem_append.mp hp with hp | hp
      · exact h.new p hp hc
      · rw [List.mem_singleton.mp hp]
        exact ⟨fun q => nm' (.inl (.inl q)), fun q => nm' (.inl (.inr q))⟩
  · rw [if_neg q]
    refine ⟨by simp [h.fst], fun x => ?_, ?_, ?_, ?_, ?_, ?_, ?_⟩
    · rw [h.met]
      simp only [List.map_append, List.map_cons, List.map_nil, List.mem_append, List.mem_singleton]
      constructor
      · rintro (h1 | h1)
        · exact .inl h1
        · exact .inr (.inl h1)
      · rintro (h1 | h1 | rfl)
        · exact .inl h1
        · exact .inr h1
        · exact .inl (.inr hwt)
    · have := h.len
      simp only [List.length_append, List.length_singleton]
      omega
    · simp only [List.map_append, List.map_cons, List.map_nil]
      rw [List.nodup_append]
      refine ⟨h.nod, by simp, fun x hx y hy e => ?_⟩
      rw [List.mem_singleton.mp hy] at e
      subst e
      obtain ⟨p, hp, hpx⟩ := List.mem_map.mp hx
      rcases h.old p hp with h1 | ⟨_, h2⟩
      · have : p.1 ∈ done := by rw [← h.fst]; exact List.mem_map.mpr ⟨p, hp, rfl⟩
        rw [h1] at hpx
        rw [ht, List.nodup_append] at hn
        exact hn.2.2 p.1 this x (by simp) hpx
      · exact h2 (hpx ▸ hwt)
    · intro x hx
      simp only [List.map_append, List.map_cons, List.map_nil, List.mem_append, List.mem_singleton] at hx
      rcases hx with hx | rfl
      · exact h.ww x hx
      · exact hW x hwt
    · intro p hp
      rcases List.mem_append.mp hp with hp | hp
      · exact h.old p hp
      · rw [List.mem_singleton.mp hp]
        exact .inl rfl
    · intro p hp hc
      rcases List.mem_append.mp hp with hp | hp
      · exact h.keep p hp hc
      · rw [List.mem_singleton.mp hp]
    · intro p hp hc
      rcases List.mem_append.mp hp with hp | hp
      · exact h.new p hp hc
      · rw [List.mem_singleton.mp hp] at hc
        exact absurd hc q
end Eng
/-! Words, told of any text. -/
namespace Eng
open PySem PySem.Spec L2 SX
open PyProof.Rows hiding St
theorem itemsD_S (l : List Nat) (h : l.length ≤ sizeLine) : itemsD (.str (S l)) = some (l.map fun c => .str (S [c])) := by
  have h2 : (S l).length ≤ sizeLine := by rw [S_len]; exact h
  show (if (S l).length ≤ sizeLine then some (signs (S l)) else none) = _
  rw [if_pos h2]
  rfl
def lowB (c : Nat) : Bool := decide (97 ≤ c ∧ c ≤ 122)
def figB (c : Nat) : Bool := decide (48 ≤ c ∧ c ≤ 57)
theorem figs : (Str.ofString "0123456789") = S ((List.range 10).map (48 + ·)) := by decide +kernel
theorem in_abc (c : Nat) : inS (.val (.str (S [c]))) (.val (.str (Str.ofString "abcdefghijklmnopqrstuvwxyz"))) = some (.val (.bool (lowB c))) := by
  rw [abc]
  show some (O.val (PyData.bool (decide (c ∈ (List.range 26).map (97 + ·))))) = _
  have : (c ∈ (List.range 26).map (97 + ·)) ↔ 97 ≤ c ∧ c ≤ 122 := by
    rw [List.mem_map]
    constructor
    · rintro ⟨k, hk, rfl⟩
      have := List.mem_range.mp hk
      omega
    · intro h
      exact ⟨c - 97, List.mem_range.mpr (by omega), by omega⟩
  unfold lowB
  rw [decide_eq_decide.mpr this]
theorem in_figs (c : Nat) : inS (.val (.str (S [c]))) (.val (.str (Str.ofString "0123456789"))) = some (.val (.bool (figB c))) := by
  rw [figs]
  show some (O.val (PyData.bool (decide (c ∈ (List.range 10).map (48 + ·))))) = _
  have : (c ∈ (List.range 10).map (48 + ·)) ↔ 48 ≤ c ∧ c ≤ 57 := by
    rw [List.mem_map]
    constructor
    · rintro ⟨k, hk, rfl⟩
      have := List.mem_range.mp hk
      omega
    · intro h
      exact ⟨c - 48, List.mem_range.mpr (by omega), by omega⟩
  unfold figB
  rw [decide_eq_decide.mpr this]
def stmB (l : List Nat) : Bool := (decide (1 ≤ l.length) && decide (l.length ≤ 8)) && l.all lowB
def nuB (l : List Nat) : Bool := (decide (1 ≤ l.length) && decide (l.length ≤ 2)) && l.all figB && (!decide (l.head? = some 48)) && !decide (l = [49])
theorem lenS_S (l : List Nat) (h : l.length ≤ sizeLine) : lenS (.val (.str (S l))) = some (.val (.int l.length)) := by
  rw [lenS_str, if_pos (by rw [S_len]; exact h), S_len]
theorem is_stem_eq (l : List Nat) (h : l.length ≤ sizeLine) : f_is_stem [.val (.str (S l))] = .ret (.val (.bool (stmB l))) [.val (.str (S l))] := by
  have it := itemsD_S l h
  have ln := lenS_S l h
  have c1 := lc_all (f := fun c => PyData.str (S [c])) (c := none) (T := .nm 1) (t := tTrue) (g := o2 inS (oNm 1) (oC (.str "abcdefghijklmnopqrstuvwxyz"))) (own := [1])
    (ρ := [some (false, .val (.str (S l))), none]) (fun c => .bool (lowB c)) l (by simp) (by
    intro c hc
    have := in_abc c
    simp [-List.map_map, lturn_ap, this])
  simp [-List.map_map] at c1
  have al := allS_map lowB l
  unfold stmB
  by_cases h1 : 1 ≤ l.length
  · have h1' : (1 : Int) ≤ l.length := by omega
    by_cases h2 : l.length ≤ 8
    · have h2' : (l.length : Int) ≤ 8 := by omega
      simp [-List.map_map, -lenS_str, -allS_ap, f_is_stem, b_is_stem, runF_ap, ln, h1, h1', h2, h2', c_is_stem_1, it, c1, al]
    · have h2' : ¬ (l.length : Int) ≤ 8 := by omega
      simp [-List.map_map, -lenS_str, -allS_ap, f_is_stem, b_is_stem, runF_ap, ln, h1, h1', h2, h2', c_is_stem_1, it, c1, al]
  · have h1' : ¬ (1 : Int) ≤ l.length := by omega
    simp [-List.map_map, -lenS_str, -allS_ap, f_is_stem, b_is_stem, runF_ap, ln, h1, h1', c_is_stem_1, it, c1, al]
theorem is_number_eq (l : List Nat) (h : l.length ≤ sizeLine) : f_is_number [.val (.str (S l))] = .ret (.val (.bool (nuB l))) [.val (.str (S l))] := by
  have it := itemsD_S l h
  have ln := lenS_S l h
  have c1 := lc_all (f := fun c => PyData.str (S [c])) (c := none) (T := .nm 1) (t := tTrue) (g := o2 inS (oNm 1) (oC (.str "0123456789"))) (own := [1])
    (ρ := [some (false, .val (.str (S l))), none]) (fun c => .bool (figB c)) l (by simp) (by
    intro c hc
    have := in_figs c
    simp [-List.map_map, lturn_ap, this])
  simp [-List.map_map] at c1
  have al := allS_map figB l
  unfold nuB
  by_cases h1 : 1 ≤ l.length
  · have h1' : (1 : Int) ≤ l.length := by omega
    by_cases h2 : l.length ≤ 2
    · have h2' : (l.length : Int) ≤ 2 := by omega
      cases h3 : l.all figB with
      | false =>
        rw [h3] at al
        simp [-List.map_map, -lenS_str, -allS_ap, f_is_number, b_is_number, runF_ap, ln, h1, h1', h2, h2', c_is_number_1, it, c1, al]
      | true =>
        rw [h3] at al
        obtain ⟨c, r, e⟩ : ∃ c r, l = c :: r := by
          cases l with
          | nil => simp at h1
          | cons c r => exact ⟨c, r, rfl⟩
        have i0 : ixS (.val (.str (S l))) (.val (.int 0)) = some (.val (.str (S [c]))) := by
          rw [ixS_str, if_pos (by rw [S_len]; exact h), e]
          have : (S (c :: r)).cps.toList = c :: r := rfl
          rw [this, atI_zero]
          rfl
        have z0 : (Str.ofString "0") = S [48] := by decide +kernel
        have z1 : (Str.ofString "1") = S [49] := by decide +kernel
        have q0 : neS (.val (.str (S [c]))) (.val (.str (Str.ofString "0"))) = some (.val (.bool (!decide (l.head? = some 48)))) := by
          rw [neS_str, z0, S_beq_eq, e]
          simp
        have q1 : neS (.val (.str (S l))) (.val (.str (Str.ofString "1"))) = some (.val (.bool (!decide (l = [49])))) := by
          rw [neS_str, z1, S_beq_eq]
        cases h4 : decide (l.head? = some 48) <;> rw [h4] at q0 <;>
        simp [-List.map_map, -lenS_str, -allS_ap, -ixS_str, -neS_str, f_is_number, b_is_number, runF_ap, ln, h1, h1', h2, h2', c_is_number_1, it, c1, al, i0, q0, q1]
    · have h2' : ¬ (l.length : Int) ≤ 2 := by omega
      simp [-List.map_map, -lenS_str, -allS_ap, f_is_number, b_is_number, runF_ap, ln, h1, h1', h2, h2', c_is_number_1, it, c1, al]
  · have h1' : ¬ (1 : Int) ≤ l.length := by omega
    simp [-List.map_map, -lenS_str, -allS_ap, f_is_number, b_is_number, runF_ap, ln, h1, h1', c_is_number_1, it, c1, al]
/-! ### words -/
def wdP : List Str → Bool
  | [p] => stmB p.cps.toList
  | [p, n] => stmB p.cps.toList && nuB n.cps.toList
  | _ => false
def wdB (w : Str) : Bool := wdP (Txt.split w (Str.ofString "/"))
theorem splitS_slash (w : Str) (h : w.length + 2 ≤ sizeLine) : splitS w (.val (.str (Str.ofString "/"))) = some (.lst ((Txt.split w (Str.ofString "/")).map .str)) := by
  have sl2 : (Str.ofString "/").length = 1 := by rw [slash]; rfl
  show (if ((Str.ofString "/").length == 0) = false ∧ w.length + 2 ≤ sizeLine then some (O.lst ((Txt.split w (Str.ofString "/")).map PyData.str)) else none) = _
  rw [if_pos ⟨by rw [sl2]; rfl, h⟩]
theorem is_word_eq (w : Str) (h : w.length + 2 ≤ sizeLine) : f_is_word [.val (.str w)] = .ret (.val (.bool (wdB w))) [.val (.str w)] := by
  have sp := splitS_slash w h
  have hs : ∀ a ∈ Txt.split w (Str.ofString "/"), a.length ≤ w.length := fun a ha => part_short ha
  have hp := split_pos w (Str.ofString "/")
  unfold wdB
  generalize Txt.split w (Str.ofString "/") = ps at *
  have st : ∀ a ∈ ps, f_is_stem [.val (.str a)] = .ret (.val (.bool (stmB a.cps.toList))) [.val (.str a)] := fun a ha => is_stem_eq a.cps.toList (by
    have h1 := hs a ha
    have h2 : a.cps.toList.length = a.length := by simp [Str.length]
    omega)
  have nu : ∀ a ∈ ps, f_is_number [.val (.str a)] = .ret (.val (.bool (nuB a.cps.toList))) [.val (.str a)] := fun a ha => is_number_eq a.cps.toList (by
    have h1 := hs a ha
    have h2 : a.cps.toList.length = a.length := by simp [Str.length]
    omega)
  match ps, hp with
  | [p], _ =>
    have s1 := st p (by simp)
    unfold wdP
    cases q : stmB p.cps.toList <;> rw [q] at s1 <;> simp at sp <;> simp [-List.map_map, f_is_word, b_is_word, runF_ap, sp, s1, q]
  | [p, n], _ =>
    have s1 := st p (by simp)
    have s2 := nu n (by simp)
    unfold wdP
    cases q : stmB p.cps.toList <;> rw [q] at s1 <;> simp at sp <;> simp [-List.map_map, f_is_word, b_is_word, runF_ap, sp, s1, s2, q]
  | p :: n :: m :: r, _ =>
    have s1 := st p (by simp)
    unfold wdP
    have a0 : atI (PyData.str p :: PyData.str n :: PyData.str m :: r.map .str) 0 = some (.str p) := atI_zero _ _
    have l1 : ((p :: n :: m :: r).map PyData.str).length = r.length + 3 := by simp
    have n1 : ¬ (r.length + 3 : Int) = 1 := by omega
    have n2 : ¬ (r.length + 3 : Int) = 2 := by omega
    have n1' : ¬ ((r.length : Int) + 1 + 1 + 1 = 1) := by omega
    have n2' : ¬ ((r.length : Int) + 1 + 1 + 1 = 2) := by omega
    simp only [List.map_cons] at sp
    cases q : stmB p.cps.toList <;> rw [q] at s1 <;> simp [-List.map_map, f_is_word, b_is_word, runF_ap, sp, s1, a0, n1, n2, n1', n2', q]
end Eng
/-! Law k61. -/
namespace Eng
open PySem PySem.Spec L2 SX
open PyProof.Rows hiding St
end Eng
/-! Books laid together; law k63. -/
namespace Eng
open PySem PySem.Spec L2 SX
open PyProof.Rows hiding St
/-! ### names looked up -/
/-! ### laid -/
def alkB (r s : Row) : Bool := decide (r.1 = s.1) && decide (sortT r.2 = sortT s.2)
/-- what a book's rows must be -/
def RO (r : Row) : Prop := WW r.1 ∧ r.2.length ≤ 20 ∧ ∀ w ∈ r.2, WW w
/-! ### what is learnt in books laid together -/
/-! ### alone -/
theorem alkB_key (r s : Row) : alkB r s = decide (keyR r = keyR s) := by
  unfold alkB keyR
  by_cases h1 : r.1 = s.1 <;> by_cases h2 : sortT r.2 = sortT s.2 <;> simp [h1, h2]
theorem Bo.nil : Bo [] := ⟨by simp, by simp⟩
end Eng
/-! Words and rows, told of any text. -/
namespace Eng
open PySem PySem.Spec L2 SX
open PyProof.Rows hiding St
theorem stmB_iff (l : List Nat) : stmB l = true ↔ Stem l := by
  unfold stmB Stem lowB
  simp only [Bool.and_eq_true, decide_eq_true_eq, List.all_eq_true, and_assoc]
theorem nuB_num {n : Nat} (h2 : 2 ≤ n) (h9 : n ≤ 99) : nuB (TL.numL n) = true := by
  by_cases h : n < 10
  · rw [TL.numL_lt h]
    unfold nuB figB
    simp
    omega
  · rw [TL.numL_step (by omega), TL.numL_lt (by omega)]
    unfold nuB figB
    simp
    omega
theorem nuB_ex {l : List Nat} (h : nuB l = true) : ∃ n : Nat, 2 ≤ n ∧ n ≤ 99 ∧ l = TL.numL n := by
  unfold nuB figB at h
  simp only [Bool.and_eq_true, decide_eq_true_eq, List.all_eq_true, Bool.not_eq_true', decide_eq_false_iff_not] at h
  obtain ⟨⟨⟨⟨h1, h2⟩, h3⟩, h4⟩, h5⟩ := h
  match l, h1, h2 with
  | [c], _, _ =>
    have := h3 c (by simp)
    simp at h4 h5
    refine ⟨c - 48, by omega, by omega, ?_⟩
    rw [TL.numL_lt (by omega)]
    congr 1
    omega
  | [c, d], _, _ =>
    have a1 := h3 c (by simp)
    have a2 := h3 d (by simp)
    simp at h4
    refine ⟨(c - 48) * 10 + (d - 48), by omega, by omega, ?_⟩
    rw [TL.numL_step (by omega), TL.numL_lt (by omega)]
    have e1 : ((c - 48) * 10 + (d - 48)) / 10 = c - 48 := by omega
    have e2 : ((c - 48) * 10 + (d - 48)) % 10 = d - 48 := by omega
    rw [e1, e2]
    simp
    omega
theorem wdB_of {w : Str} (h : WW w) : wdB w = true := by
  unfold wdB
  obtain ⟨l, hl, rfl | ⟨n, h2, h9, rfl⟩⟩ := h
  · rw [split_stem hl]
    exact (stmB_iff l).mpr hl
  · rw [split_sense hl n]
    show (stmB l && nuB (TL.numL n)) = true
    rw [(stmB_iff l).mpr hl, nuB_num h2 h9]
    rfl
theorem WW_of_wdB {w : Str} (h : wdB w = true) : WW w := by
  have j : Str.join (Str.ofString "/") (Txt.split w (Str.ofString "/")) = w := StrLaws.join_split w _
  unfold wdB at h
  generalize Txt.split w (Str.ofString "/") = ps at *
  match ps with
  | [] => simp [wdP] at h
  | [p] =>
    have jw : p = w := j
    have := (stmB_iff p.cps.toList).mp h
    exact ⟨p.cps.toList, this, .inl (by rw [← jw, S_tl])⟩
  | [p, n] =>
    have jw : p ++ Str.ofString "/" ++ n = w := j
    unfold wdP at h
    rw [Bool.and_eq_true] at h
    have h1 := (stmB_iff p.cps.toList).mp h.1
    obtain ⟨k, h2, h9, e⟩ := nuB_ex h.2
    refine ⟨p.cps.toList, h1, .inr ⟨k, h2, h9, ?_⟩⟩
    rw [← cat_slash, ← jw, ← e, S_tl, S_tl]
  | _ :: _ :: _ :: _ => simp [wdP] at h
/-! ### rows -/
def rowB (r : Row) : Bool := wdB r.1 && decide (r.2.length ≤ 8) && !decide ((metT r.2).length < r.2.length) && r.2.all wdB
/-- a row of texts not too long -/
structure RS (r : Row) : Prop where
  hd : r.1.length + 2 ≤ sizeLine
  ln : r.2.length ≤ 1000000
  tw : ∀ w ∈ r.2, w.length + 2 ≤ sizeLine
theorem small3 {m : Nat} (h : m ≤ 1000000) : m ≤ sizeLine := Nat.le_trans h (by decide)
theorem is_row_eq (r : Row) (h : RS r) : f_is_row [.val (.str r.1), .val (eW r.2)] = .ret (.val (.bool (rowB r))) [.val (.str r.1), .val (eW r.2)] := by
  have w1 := is_word_eq r.1 h.hd
  have st : r.2.length ≤ 8 → setC (.val (eW r.2)) = some (.set (metT r.2)) := fun h8 => by
    have sc : r.2.length + 1 < scanBound := by
      have : 3001 < scanBound := by decide
      omega
    show setC (.val (.tuple (r.2.map .str))) = _
    rw [setC_tup, if_pos sc]
  have hm := metT_len r.2
  have hl := h.ln
  have c1 := lc_all (f := PyData.str) (c := none) (T := .nm 2) (t := tTrue) (g := (oCall f_is_word (oAs [oNm 2]))) (own := [2])
    (ρ := [some (false, .val (.str r.1)), some (false, .val (eW r.2)), none]) (fun w => .bool (wdB w)) r.2 (by simp) (by
    intro w hw
    have := is_word_eq w (h.tw w hw)
    simp [-List.map_map, lturn_ap, this])
  simp [-List.map_map] at c1
  have al := allS_map wdB r.2
  have s0 : startE 3 [.val (.str r.1), .val (eW r.2)] = [some (false, .val (.str r.1)), some (false, .val (eW r.2)), none] := rfl
  unfold rowB
  cases q : wdB r.1 with
  | false =>
    rw [q] at w1
    simp [-List.map_map, f_is_row, b_is_row, runF_fin, s0, w1]
  | true =>
    rw [q] at w1
    by_cases h8 : r.2.length ≤ 8
    · have st := st h8
      have h8' : ¬ (8 : Int) < r.2.length := by omega
      by_cases hs : (metT r.2).length < r.2.length
      · have hs' : ((metT r.2).length : Int) < r.2.length := by omega
        simp [-List.map_map, f_is_row, b_is_row, runF_fin, s0, w1, h8, h8', st, hs, hs']
      · have hs' : ¬ ((metT r.2).length : Int) < r.2.length := by omega
        have hs2 : r.2.length ≤ (metT r.2).length := by omega
        simp [-List.map_map, -allS_ap, f_is_row, b_is_row, runF_fin, s0, w1, h8, h8', st, hs, hs', hs2, c_is_row_1, c1, al]
    · have h8' : (8 : Int) < r.2.length := by omega
      simp [-List.map_map, f_is_row, b_is_row, runF_fin, s0, w1, h8, h8']
def bkFitS (k : List Row) (r : Row) : Option (List Row) := if rowB r = true ∧ keyR r ∉ k then some (k ++ [keyR r]) else none
def bkFit (b : List Row) : Bool := decide (b.length ≤ 60) && (b.foldlM bkFitS []).isSome
theorem fits_eq (b : List Row) (hb : ∀ r ∈ b, RS r) : f_fits [.val (eBk b)] = .ret (.val (.bool (bkFit b))) [.val (eBk b)] := by
  have s0 : startE 5 [.val (eBk b)] = [some (false, .val (eBk b)), none, none, none, none] := rfl
  unfold bkFit
  by_cases h60 : b.length ≤ 60
  · have h60' : ¬ (60 : Int) < b.length := by omega
    have h60'' : ¬ 60 < b.length := by omega
    have h := forL_try (f := eRow) (T := .tup [2, 3]) (fg := [2, 3, 4]) (b := w_fits_1) none (fun k : List Row => [some (false, .val (eBk b)), some (false, .dic (rd k)), none, none, none]) bkFitS (fun k => k.Nodup ∧ ∀ x ∈ k, x ∈ b.map keyR) (fun ρ => fins [.val (eBk b)] ρ = some [.val (eBk b)]) (.val (.bool false)) (fun _ => trivial) b [] ⟨List.nodup_nil, by simp⟩ (by
      rintro k r hr ⟨kn, km⟩
      have rs := hb r hr
      have hk : k.length ≤ 60 := by
        have := sub_len kn km
        rw [List.length_map] at this
        omega
      have z : k.length < sizeLine := small (m := 60) hk
      have z2 : r.2.length ≤ sizeLine := small3 rs.ln
      have ir := is_row_eq r rs
      have ek : PyData.tuple [.str r.1, .tuple ((sortT r.2).map .str)] = eRow (keyR r) := rfl
      unfold bkFitS
      cases q : rowB r with
      | false =>
        rw [q] at ir
        refine .inr ⟨by simp, ?_⟩
        simp [-List.map_map, turn_ap, w_fits_1, z2, ek, ir]
      | true =>
        rw [q] at ir
        by_cases q2 : keyR r ∈ k
        · refine .inr ⟨by simp [q2], ?_⟩
          simp [-List.map_map, turn_ap, w_fits_1, z2, ek, ir, q2]
        · refine .inl ⟨k ++ [keyR r], by simp [q2], ?_, ?_, ?_⟩
          · have ad : addR k (keyR r) = k ++ [keyR r] := if_neg q2
            simp [-List.map_map, turn_ap, w_fits_1, z2, ek, ir, q2, z, ad]
          · rw [List.nodup_append]
            exact ⟨kn, by simp, fun a ha b hb => by simp at hb; rw [hb]; exact fun e => q2 (e ▸ ha)⟩
          · intro x hx
            rcases List.mem_append.mp hx with hx | hx
            · exact km x hx
            · rw [List.mem_singleton.mp hx]
              exact List.mem_map.mpr ⟨r, hr, rfl⟩)
    have er : rd [] = [] := rfl
    rcases h with ⟨s', e1, e2, _⟩ | ⟨e1, ρ', e2, hf⟩
    · rw [er] at e2
      simp [-List.map_map, f_fits, b_fits, runF_fin, s0, h60, h60', h60'', e1, e2]
    · rw [er] at e2
      simp [-List.map_map, f_fits, b_fits, runF_fin, s0, h60, h60', h60'', e1, e2, hf]
  · have h60' : (60 : Int) < b.length := by omega
    have h60'' : 60 < b.length := by omega
    simp [-List.map_map, f_fits, b_fits, runF_fin, s0, h60, h60', h60'']
end Eng
/-! What is told anew: the reading evaluated. -/
namespace Eng
open PySem PySem.Spec L2 SX
open PyProof.Rows hiding St
theorem lfA_map {α : Type} {f : α → D} {xs : List α} (h : ∀ x ∈ xs, lfD (f x) = true) : lfA (xs.map f) = true := by
  induction xs with
  | nil => simp [lfA]
  | cons x xs ih =>
    rw [List.map_cons, lfA, h x List.mem_cons_self, ih fun y hy => h y (List.mem_cons_of_mem _ hy)]
    rfl
@[simp] theorem lfD_str (x : Str) : lfD (.str x) = true := by simp [lfD]
@[simp] theorem lfD_int (x : Int) : lfD (.int x) = true := by simp [lfD]
@[simp] theorem lfD_bool (x : Bool) : lfD (.bool x) = true := by simp [lfD]
@[simp] theorem lfD_none : lfD .none = true := by simp [lfD]
@[simp] theorem lfA_strs (xs : List Str) : lfA (xs.map PyData.str) = true := lfA_map fun _ _ => lfD_str _
@[simp] theorem lfA_ints (xs : List Int) : lfA (xs.map PyData.int) = true := lfA_map fun _ _ => lfD_int _
@[simp] theorem lfD_eW (xs : List Str) : lfD (eW xs) = true := by unfold eW; rw [lfD]; exact lfA_strs xs
@[simp] theorem lfD_eRow (r : Row) : lfD (eRow r) = true := by unfold eRow; simp [lfD, lfA]
@[simp] theorem lfD_eBk (b : List Row) : lfD (eBk b) = true := by unfold eBk; rw [lfD]; exact lfA_map fun _ _ => lfD_eRow _
@[simp] theorem lfO_val (d : D) : lfO (.val d) = lfD d := rfl
@[simp] theorem lfO_scr (ns : List Int) : lfO (.scr ns) = true := rfl
@[simp] theorem lfO_lst (ds : List D) : lfO (.lst ds) = lfA ds := rfl
@[simp] theorem strip_nil : strip [] = [] := rfl
@[simp] theorem strip_cons (sl : Sl) (ρ : En) : strip (sl :: ρ) = strip1 sl :: strip ρ := rfl
@[simp] theorem strip1_none : strip1 none = none := rfl
@[simp] theorem strip1_val (p : Bool) (d : D) : strip1 (some (p, .val d)) = if lfD d = true then some (p, .val d) else none := rfl
@[simp] theorem strip1_scr (p : Bool) (ns : List Int) : strip1 (some (p, .scr ns)) = some (p, .scr ns) := rfl
@[simp] theorem strip1_lst (p : Bool) (ds : List D) : strip1 (some (p, .lst ds)) = none := rfl
@[simp] theorem strip1_dic (p : Bool) (ds : List (D × D)) : strip1 (some (p, .dic ds)) = none := rfl
@[simp] theorem pinsE_nil (ρ : En) : pinsE [] ρ = some ρ := rfl
@[simp] theorem unpins_nil (o : SOut) : unpins [] o = o := rfl
@[simp] theorem unpins_cons (j : Nat) (js : List Nat) (o : SOut) : unpins (j :: js) o = unpS j (unpins js o) := rfl
@[simp] theorem unpS_rt (j : Nat) (o : O) (ρ : En) : unpS j (.rt o ρ) = .rt o (unpin j ρ) := rfl
@[simp] theorem unpin_zero_none (ρ : En) : unpin 0 (none :: ρ) = none :: ρ := rfl
@[simp] theorem noneE_nil (ρ : En) : noneE [] ρ = ρ := rfl
@[simp] theorem noneE_cons (i : Nat) (is : List Nat) (ρ : En) : noneE (i :: is) ρ = noneE is (ρ.set i none) := rfl
@[simp] theorem sFrz_ap (j : Nat) (b : SS) (ρ : En) : sFrz j b ρ = b (frz ρ j) := rfl
@[simp] theorem sDrp_ap (is : List Nat) (b : SS) (ρ : En) : sDrp is b ρ = b (dropE is ρ) := rfl
@[simp] theorem oAppT_ap (f g : ES) (ρ : En) : oAppT f g ρ = (f ρ).bind fun p ρ1 => match p with
  | .tmp (.lst ds) => (g ρ1).bind fun p2 ρ2 => match give ρ2 p2 with
    | some (_, ρ3) => if ds.length < sizeLine then .ok (.tmp (.val .none)) ρ3 else .stuck
    | none => .stuck
  | _ => .stuck := rfl
@[simp] theorem listRvT_tup (ds : List D) : listRvT (.val (.tuple ds)) = some (.lst ds.reverse) := rfl
@[simp] theorem tupRvT_tup (ds : List D) : tupRvT (.val (.tuple ds)) = some (.val (.tuple ds.reverse)) := rfl
end Eng
/-! The shelf. -/
namespace Eng
open PySem PySem.Spec L2 SX
open PyProof.Rows hiding St
theorem np1 : ¬ (Str.ofString "now" = Str.ofString "past") := by decide +kernel
theorem nk_turned : ¬ (Str.ofString "now" = Str.ofString "turned") := by decide +kernel
theorem pk_turned : ¬ (Str.ofString "past" = Str.ofString "turned") := by decide +kernel
theorem nk_place_of : ¬ (Str.ofString "now" = Str.ofString "place_of") := by decide +kernel
theorem pk_place_of : ¬ (Str.ofString "past" = Str.ofString "place_of") := by decide +kernel
theorem nk_put : ¬ (Str.ofString "now" = Str.ofString "put") := by decide +kernel
theorem pk_put : ¬ (Str.ofString "past" = Str.ofString "put") := by decide +kernel
theorem nk_take : ¬ (Str.ofString "now" = Str.ofString "take") := by decide +kernel
theorem pk_take : ¬ (Str.ofString "past" = Str.ofString "take") := by decide +kernel
theorem nk_back : ¬ (Str.ofString "now" = Str.ofString "back") := by decide +kernel
theorem pk_back : ¬ (Str.ofString "past" = Str.ofString "back") := by decide +kernel
theorem nk_book : ¬ (Str.ofString "now" = Str.ofString "book") := by decide +kernel
theorem pk_book : ¬ (Str.ofString "past" = Str.ofString "book") := by decide +kernel
theorem nk_learnt_now : ¬ (Str.ofString "now" = Str.ofString "learnt_now") := by decide +kernel
theorem pk_learnt_now : ¬ (Str.ofString "past" = Str.ofString "learnt_now") := by decide +kernel
theorem nk_deeds : ¬ (Str.ofString "now" = Str.ofString "deeds") := by decide +kernel
theorem pk_deeds : ¬ (Str.ofString "past" = Str.ofString "deeds") := by decide +kernel
/-- a shelf: its book, the books ahead -/
def shF (b : List Row) (ps : List (List Row)) : List (Str × O) := [(Str.ofString "now", .val (eBk b)), (Str.ofString "past", .lst (ps.map eBk))]
abbrev shl (b : List Row) (ps : List (List Row)) : O := .ins 9 (shF b ps)
@[simp] theorem fins_ins (c : Nat) (fs : List (Str × O)) (os : List O) (x : O) (ρ : En) : fins (.ins c fs :: os) (some (true, x) :: ρ) = match fins os ρ with | some r => some (x :: r) | none => none := rfl
@[simp] theorem sh_now (b : List Row) (ps : List (List Row)) : (shF b ps).lookup (Str.ofString "now") = some (.val (eBk b)) := by
  unfold shF
  rw [look_cons, if_pos rfl]
@[simp] theorem sh_past (b : List Row) (ps : List (List Row)) : (shF b ps).lookup (Str.ofString "past") = some (.lst (ps.map eBk)) := by
  unfold shF
  rw [look_cons, if_neg np1, look_cons, if_pos rfl]
@[simp] theorem sh_putN (b c : List Row) (ps : List (List Row)) : fput (Str.ofString "now") (.val (eBk c)) (shF b ps) = shF c ps := by
  unfold shF fput
  rw [if_pos rfl]
@[simp] theorem sh_putP (b : List Row) (ps : List (List Row)) (ds : List D) : fput (Str.ofString "past") (.lst ds) (shF b ps) = [(Str.ofString "now", .val (eBk b)), (Str.ofString "past", .lst ds)] := by
  unfold shF fput
  rw [if_neg np1]
  unfold fput
  rw [if_pos rfl]
@[simp] theorem sh_len (b : List Row) (ps : List (List Row)) : (shF b ps).length = 2 := rfl
@[simp] theorem sh_turned (b : List Row) (ps : List (List Row)) : (shF b ps).lookup (Str.ofString "turned") = none := by
  unfold shF
  rw [look_cons, if_neg nk_turned, look_cons, if_neg pk_turned]
  rfl
@[simp] theorem sh_place_of (b : List Row) (ps : List (List Row)) : (shF b ps).lookup (Str.ofString "place_of") = none := by
  unfold shF
  rw [look_cons, if_neg nk_place_of, look_cons, if_neg pk_place_of]
  rfl
@[simp] theorem sh_put (b : List Row) (ps : List (List Row)) : (shF b ps).lookup (Str.ofString "put") = none := by
  unfold shF
  rw [look_cons, if_neg nk_put, look_cons, if_neg pk_put]
  rfl
@[simp] theorem sh_take (b : List Row) (ps : List (List Row)) : (shF b ps).lookup (Str.ofString "take") = none := by
  unfold shF
  rw [look_cons, if_neg nk_take, look_cons, if_neg pk_take]
  rfl
@[simp] theorem sh_back (b : List Row) (ps : List (List Row)) : (shF b ps).lookup (Str.ofString "back") = none := by
  unfold shF
  rw [look_cons, if_neg nk_back, look_cons, if_neg pk_back]
  rfl
@[simp] theorem sh_book (b : List Row) (ps : List (List Row)) : (shF b ps).lookup (Str.ofString "book") = none := by
  unfold shF
  rw [look_cons, if_neg nk_book, look_cons, if_neg pk_book]
  rfl
@[simp] theorem sh_learnt_now (b : List Row) (ps : List (List Row)) : (shF b ps).lookup (Str.ofString "learnt_now") = none := by
  unfold shF
  rw [look_cons, if_neg nk_learnt_now, look_cons, if_neg pk_learnt_now]
  rfl
@[simp] theorem sh_deeds (b : List Row) (ps : List (List Row)) : (shF b ps).lookup (Str.ofString "deeds") = none := by
  unfold shF
  rw [look_cons, if_neg nk_deeds, look_cons, if_neg pk_deeds]
  rfl
@[simp] theorem oFld_ap (c i : Nat) (m : Str) (ρ : En) : oFld c i m ρ = match ρ[i]? with
  | some (some (_, .ins c' fs)) => if c' = c then match fs.lookup m with
      | some (.val d) => .ok (.tmp (.val d)) ρ
      | _ => .stuck
    else .stuck
  | _ => .stuck := rfl
@[simp] theorem sFld_ap (c i : Nat) (m : Str) (g : ES) (ρ : En) : sFld c i m g ρ = (g ρ).bindS fun p ρ1 => match giveUp ρ1 p with
  | some (o, ρ2) => match ρ2[i]? with
    | some (some (b, .ins c' fs)) => if c' = c ∧ fs.length < 900 then .nx (ρ2.set i (some (b, .ins c' (fput m o fs)))) else .stuck
    | _ => .stuck
  | none => .stuck := rfl
@[simp] theorem oMeth_ap (c i : Nat) (m : Str) (fn : FSem) (gs : List ES) (ρ : En) : oMeth c i m fn gs ρ = match ρ[i]? with
  | some (some (_, .ins c' fs)) => if c' = c ∧ fs.lookup m = none then oCall fn (oAs (oNm i :: gs)) ρ else .stuck
  | _ => .stuck := rfl
@[simp] theorem oFldU_ap (sem : O → Option O) (c i : Nat) (m : Str) (ρ : En) : oFldU sem c i m ρ = match ρ[i]? with
  | some (some (_, .ins c' fs)) => if c' = c then match fs.lookup m with
      | some o => put ρ (sem o)
      | none => .stuck
    else .stuck
  | _ => .stuck := rfl
@[simp] theorem sFldApp_ap (c i : Nat) (m m2 : Str) (ρ : En) : sFldApp c i m m2 ρ = match ρ[i]? with
  | some (some (b, .ins c' fs)) => if c' = c then match fs.lookup m, fs.lookup m2 with
      | some (.lst ds), some (.val d) => if ds.length < sizeLine then .nx (ρ.set i (some (b, .ins c' (fput m (.lst (ds ++ [d])) fs)))) else .stuck
      | _, _ => .stuck
    else .stuck
  | _ => .stuck := rfl
@[simp] theorem oFldPop_ap (c i : Nat) (m : Str) (ρ : En) : oFldPop c i m ρ = match ρ[i]? with
  | some (some (b, .ins c' fs)) => if c' = c then match fs.lookup m with
      | some (.lst ds) => match ds[ds.length - 1]? with
        | some d => .ok (.tmp (.val d)) (ρ.set i (some (b, .ins c' (fput m (.lst ds.dropLast) fs))))
        | none => .stuck
      | _ => .stuck
    else .stuck
  | _ => .stuck := rfl
@[simp] theorem oMake_ap (c : Nat) (fn : FSem) (ρ : En) : oMake c fn ρ = match fn [.ins c []] with
  | .ret (.val .none) [x] => .ok (.tmp x) ρ
  | _ => .stuck := rfl
theorem sh_fold (b : List Row) (ps : List (List Row)) (c : List Row) : ([(Str.ofString "now", .val (eBk b)), (Str.ofString "past", .lst (ps.map eBk ++ [eBk c]))] : List (Str × O)) = shF b (ps ++ [c]) := by
  unfold shF
  rw [List.map_append]
  rfl
/-! ### the methods -/
theorem shelf_init : f_Shelf_init [.ins 9 []] = .ret (.val .none) [shl [] []] := by
  have e0 : eBk [] = .tuple [] := rfl
  have e1 : ([] : List (List Row)).map eBk = [] := rfl
  simp [f_Shelf_init, b_Shelf_init, runF_ap, fput, np1, shF, e0]
theorem shelf_book (b : List Row) (ps : List (List Row)) : f_Shelf_book [shl b ps] = .ret (.val (eBk b)) [shl b ps] := by
  simp [-List.map_map, f_Shelf_book, b_Shelf_book, runF_ap]
theorem shelf_learnt (b : List Row) (ps : List (List Row)) (hb : Bo b) : f_Shelf_learnt_now [shl b ps] = .ret (.lst ((lrn b).map .str)) [shl b ps] := by
  have := learnt_eq b hb
  simp [-List.map_map, f_Shelf_learnt_now, b_Shelf_learnt_now, runF_ap, this]
theorem shelf_deeds (b : List Row) (ps : List (List Row)) : f_Shelf_deeds [shl b ps] = .ret (.val (.int (ps.length : Int))) [shl b ps] := by
  simp [-List.map_map, f_Shelf_deeds, b_Shelf_deeds, runF_ap]
def wos (xs ys : List Str) : List Str := xs.filter fun w => !decide (w ∈ ys)
theorem without_some_eq (xs ys : List Str) : f_without_some [.lst (xs.map .str), .lst (ys.map .str)] = .ret (.lst ((wos xs ys).map .str)) [.lst (xs.map .str), .lst (ys.map .str)] := by
  have s0 : startE 3 [.lst (xs.map .str), .lst (ys.map .str)] = [some (true, .lst (xs.map .str)), some (true, .lst (ys.map .str)), none] := rfl
  have c1 := lc_if (f := PyData.str) (c := some (0, xs.map .str)) (T := .nm 2) (t := (tV (o2 notinS (oNm 2) (oNm 1)))) (g := oNm 2) (own := [2])
    (ρ := [some (true, .lst (xs.map .str)), some (true, .lst (ys.map .str)), none]) (fun v => !decide (v ∈ ys)) PyData.str xs (by simp) (by
    intro v hv
    by_cases h1 : v ∈ ys <;> simp [-List.map_map, lturn_ap, h1])
  simp [-List.map_map] at c1
  have ew : (xs.filter fun v => !decide (v ∈ ys)) = wos xs ys := rfl
  rw [ew] at c1
  simp [-List.map_map, f_without_some, b_without_some, runF_fin, s0, c_without_some_1, lcE_nmT, c1]
/-- what a deed tells -/
def turnD (b c : List Row) : D := .tuple [eL (wos (lrn c) (lrn b)), eL (wos (lrn b) (lrn c))]
theorem shelf_turned (b c : List Row) (ps : List (List Row)) (hb : Bo b) (hc : Bo c) : f_Shelf_turned [shl b ps, .val (eBk c)] = .ret (.val (turnD b c)) [shl c ps, .val (eBk c)] := by
  have s0 : startE 4 [shl b ps, .val (eBk c)] = [some (true, shl b ps), some (false, .val (eBk c)), none, none] := rfl
  have l1 := learnt_eq b hb
  have l2 := learnt_eq c hc
  have w1 := without_some_eq (lrn c) (lrn b)
  have w2 := without_some_eq (lrn b) (lrn c)
  have p0 : (sAsg 2 (oCall f_learnt (oAs [oFld 9 0 "now"]))) [some (true, shl b ps), some (false, .val (eBk c)), none, none] = .nx [some (true, shl b ps), some (false, .val (eBk c)), some (false, .lst ((lrn b).map .str)), none] := by
    simp [-List.map_map, l1]
  have p1 : (sAsg 3 (oCall f_learnt (oAs [oNm 1]))) [some (true, shl b ps), some (false, .val (eBk c)), some (false, .lst ((lrn b).map .str)), none] = .nx [some (true, shl b ps), some (false, .val (eBk c)), some (false, .lst ((lrn b).map .str)), some (false, .lst ((lrn c).map .str))] := by
    simp [-List.map_map, l2]
  have p2 : (sFld 9 0 "now" (oNm 1)) [some (true, shl b ps), some (false, .val (eBk c)), some (false, .lst ((lrn b).map .str)), some (false, .lst ((lrn c).map .str))] = .nx [some (true, shl c ps), some (false, .val (eBk c)), some (false, .lst ((lrn b).map .str)), some (false, .lst ((lrn c).map .str))] := by
    simp [-List.map_map]
  rw [f_Shelf_turned, runF_fin, s0, b_Shelf_turned, sq_nx p0, sq_nx p1, sq_nx p2]
  simp [-List.map_map, w1, w2, turnD]
end Eng
/-! Books read and shown. -/
namespace Eng
open PySem PySem.Spec L2 SX
open PyProof.Rows hiding St
/-! ### texts joined and split -/
def okT (t : Str) : Prop := ∀ c ∈ t.cps.toList, c < 0x110000
theorem okT.ok {t : Str} (h : okT t) : PyData.strOk t = true := by
  unfold PyData.strOk
  rw [← Array.all_toList]
  simp only [List.all_eq_true, decide_eq_true_eq]
  exact h
theorem joinL_mem (y : List Nat) : ∀ (ps : List (List Nat)) (p : List Nat), p ∈ ps → ∀ c ∈ p, c ∈ TL.joinL y ps
  | [], _, h, _, _ => by cases h
  | [p], q, h, c, hc => by
    rw [List.mem_singleton.mp h] at hc
    exact hc
  | p :: q :: r, x, h, c, hc => by
    show c ∈ p ++ (y ++ TL.joinL y (q :: r))
    rcases List.mem_cons.mp h with rfl | h
    · exact List.mem_append_left _ hc
    · exact List.mem_append_right _ (List.mem_append_right _ (joinL_mem y (q :: r) x h c hc))
theorem split_mem {t y p : Str} (h : p ∈ Txt.split t y) : ∀ c ∈ p.cps.toList, c ∈ t.cps.toList := fun c hc => by
  have j : Str.join y (Txt.split t y) = t := StrLaws.join_split t y
  have e : t.cps.toList = TL.joinL y.cps.toList ((Txt.split t y).map fun x => x.cps.toList) := by
    conv => lhs; rw [← j]
    exact TL.tl_join y _
  rw [e]
  exact joinL_mem _ _ p.cps.toList (List.mem_map.mpr ⟨p, h, rfl⟩) c hc
theorem okT.split {t y p : Str} (h : okT t) (hp : p ∈ Txt.split t y) : okT p := fun c hc => h c (split_mem hp c hc)
theorem str_beq (a b : Str) : (a == b) = decide (a = b) := by
  by_cases h : a = b
  · subst h; simp
  · rw [decide_eq_false h]
    exact beq_eq_false_iff_ne.mpr h
theorem eqS_ls2 {a b : List Str} (ha : ∀ w ∈ a, okT w) (hb : ∀ w ∈ b, okT w) : eqS (.lst (a.map PyData.str)) (.lst (b.map PyData.str)) = some (.val (.bool (decide (a = b)))) := by
  have g : ∀ {l : List Str}, (∀ w ∈ l, okT w) → SeqAt.shaped (.list (l.map PyData.str)) = true := fun {l} h => by
    have h1 : PyData.canLayAll0 (l.map PyData.str) = true := by
      induction l with
      | nil => rfl
      | cons x l ih => simp [PyData.canLayAll0, PyData.canLay0, (h x (by simp)).ok, ih fun w hw => h w (List.mem_cons_of_mem _ hw)]
    have h2 : PyData.depthAll (l.map PyData.str) = 0 := by
      clear h h1
      induction l with
      | nil => rfl
      | cons x l ih => simp [PyData.depthAll, PyData.depth, ih]
    unfold SeqAt.shaped
    simp [PyData.canLay0, h1, PyData.depth, h2]
  have s1 := g ha
  have s2 := g hb
  unfold eqS
  simp only [view_lst, eqD?, s1, s2, Bool.and_self, Bool.or_true, if_true, Option.map_some, PyData.eqv, eqvAll_strs]
/-! ### a book that fits -/
theorem rowB_of {r : Row} (h1 : WW r.1) (h2 : r.2.length ≤ 8) (h3 : r.2.Nodup) (h4 : ∀ w ∈ r.2, WW w) : rowB r = true := by
  have hm : ¬ (metT r.2).length < r.2.length := by
    have := sub_len h3 fun w hw => mem_metT.mpr hw
    omega
  unfold rowB
  rw [wdB_of h1, decide_eq_true h2, decide_eq_false hm, List.all_eq_true.mpr fun w hw => wdB_of (h4 w hw)]
  rfl
/-! ### a row read -/
end Eng
/-! Books read and shown, of rows that are words. -/
namespace Eng
open PySem PySem.Spec L2 SX
open PyProof.Rows hiding St
theorem joinS_of {o : O} {ws : List Str} (s : Str) (h : o.seq? = some (ws.map .str)) (hl : (ws.map (·.length)).sum + ws.length * s.length ≤ 16777216) : joinS s o = some (.val (.str (Txt.join s ws))) := by
  unfold joinS
  rw [h]
  show (asStrs (ws.map PyData.str)).bind _ = _
  rw [asStrs_map]
  show (if (ws.map (·.length)).sum + ws.length * s.length ≤ 16777216 then some (O.val (.str (Txt.join s ws))) else none) = _
  rw [if_pos hl]
/-! ### the text of a row -/
theorem WW.signs {w : Str} (h : WW w) : ∀ c ∈ w.cps.toList, 47 ≤ c ∧ c ≤ 122 := by
  obtain ⟨l, hl, rfl | ⟨n, h2, h9, rfl⟩⟩ := h
  · intro c hc
    have := hl.2.2 c hc
    omega
  · intro c hc
    have hc : c ∈ l ++ 47 :: TL.numL n := hc
    rcases List.mem_append.mp hc with hc | hc
    · have := hl.2.2 c hc
      omega
    · rcases List.mem_cons.mp hc with rfl | hc
      · omega
      · have := TL.numL_digits n c hc
        omega
/-- a row of words, at most eight told -/
def R8 (r : Row) : Prop := WW r.1 ∧ r.2.length ≤ 8 ∧ r.2.Nodup ∧ ∀ w ∈ r.2, WW w
theorem join_mem {y : Str} {ps : List Str} {P : Nat → Prop} (hy : ∀ c ∈ y.cps.toList, P c) (hp_ : ∀ p ∈ ps, ∀ c ∈ p.cps.toList, P c) : ∀ c ∈ (Txt.join y ps).cps.toList, P c := by
  have e : (Txt.join y ps).cps.toList = TL.joinL y.cps.toList (ps.map fun x => x.cps.toList) := by
    rw [TL.join_eq]
    exact TL.tl_join y ps
  rw [e]
  have key : ∀ qs : List (List Nat), (∀ p ∈ qs, ∀ c ∈ p, P c) → ∀ c ∈ TL.joinL y.cps.toList qs, P c := by
    intro qs
    induction qs with
    | nil => intro _ c hc; cases hc
    | cons q qs ih =>
      intro h c hc
      cases qs with
      | nil => exact h q (by simp) c hc
      | cons q2 r =>
        have hc : c ∈ q ++ (y.cps.toList ++ TL.joinL y.cps.toList (q2 :: r)) := hc
        rcases List.mem_append.mp hc with hc | hc
        · exact h q (by simp) c hc
        · rcases List.mem_append.mp hc with hc | hc
          · exact hy c hc
          · exact ih (fun p hp => h p (List.mem_cons_of_mem _ hp)) c hc
  refine key _ fun p hp c hc => ?_
  obtain ⟨x, hx, rfl⟩ := List.mem_map.mp hp
  exact hp_ x hx c hc
theorem R8.rs {r : Row} (h : R8 r) : RS r := ⟨by have := h.1.len.1; exact small3 (by omega), by have := h.2.1; omega, fun w hw => by have := (h.2.2.2 w hw).len.1; exact small3 (by omega)⟩
end Eng
/-! The shelf: rows put in, taken out, taken back. -/
namespace Eng
open PySem PySem.Spec L2 SX
open PyProof.Rows hiding St
/-- words told, as a list or a tuple -/
inductive Tl (ts : List Str) : D → Prop
  | lst : Tl ts (eL ts)
  | tup : Tl ts (eW ts)
theorem Tl.sort {ts : List Str} {d : D} (h : Tl ts d) (hl : ts.length ≤ 1000000) : sortS (.val d) = some (.lst ((sortT ts).map .str)) := by
  cases h with
  | lst => show sortS (.val (.list (ts.map .str))) = _; rw [sortS_list, if_pos (small3 hl)]
  | tup => show sortS (.val (.tuple (ts.map .str))) = _; rw [sortS_tup, if_pos (small3 hl)]
/-- rows of texts that are in order (no line crossed) -/
structure RT (w : Str) (ts : List Str) : Prop where
  rs : RS (w, ts)
  hd : okT w
  tw : ∀ v ∈ ts, okT v
theorem WW.okT {w : Str} (h : WW w) : okT w := fun c hc => by have := h.signs c hc; omega
theorem alike_eqD (r : Row) (w : Str) (ts : List Str) (d : D) (hd : Tl ts d) (hr : RO r) (ht : RT w ts) : f_alike [.val (eRow r), .val (.tuple [.str w, d])] = .ret (.val (.bool (alkB r (w, ts)))) [.val (eRow r), .val (.tuple [.str w, d])] := by
  have s1 : sortS (.val (eW r.2)) = some (.lst ((sortT r.2).map .str)) := by
    show sortS (.val (.tuple (r.2.map .str))) = _
    rw [sortS_tup, if_pos (Nat.le_of_lt (small (m := 20) hr.2.1))]
  have s2 := hd.sort ht.rs.ln
  have q := eqS_ls2 (a := sortT r.2) (b := sortT ts) (fun v h => (hr.2.2 v (mem_sortT.mp h)).okT) (fun v h => ht.tw v (mem_sortT.mp h))
  have e := eqS_str r.1 w
  rw [str_beq] at e
  have a0 : atI [PyData.str w, d] 0 = some (.str w) := atI_zero _ _
  have a1 : atI [PyData.str w, d] 1 = some d := atI_one _ _ _
  unfold alkB
  by_cases h : r.1 = w
  · rw [decide_eq_true h] at e
    rw [show decide (r.1 = (w, ts).1) = true from decide_eq_true h]
    simp [-List.map_map, -eqS_str, f_alike, b_alike, runF_ap, s1, s2, q, e, a0, a1]
  · rw [decide_eq_false h] at e
    rw [show decide (r.1 = (w, ts).1) = false from decide_eq_false h]
    simp [-List.map_map, -eqS_str, f_alike, b_alike, runF_ap, s1, s2, q, e, a0, a1]
@[simp] theorem isnot_int (k : Int) : isnotS (.val (.int k)) (.val .none) = some (.val (.bool true)) := rfl
@[simp] theorem isnot_non : isnotS (.val .none) (.val .none) = some (.val (.bool false)) := rfl
@[simp] theorem is_int (k : Int) : isS (.val (.int k)) (.val .none) = some (.val (.bool false)) := rfl
@[simp] theorem is_non : isS (.val .none) (.val .none) = some (.val (.bool true)) := rfl
def alkAt (b : List Row) (s : Row) (k : Nat) : Bool := match b[k]? with
  | some r => alkB r s
  | none => false
def plcF (b : List Row) (s : Row) : Option Nat := (List.range b.length).find? (alkAt b s)
def plD : Option Nat → D
  | some k => .int (k : Int)
  | none => .none
theorem bkFit_one (r : Row) : bkFit [r] = rowB r := by
  unfold bkFit
  have e : [r].foldlM bkFitS [] = bkFitS [] r := by
    rw [List.foldlM_cons]
    cases bkFitS [] r <;> rfl
  rw [e]
  unfold bkFitS
  cases q : rowB r <;> simp
theorem rowB_bo {b : List Row} {r : Row} (hb : Bo b) (h : rowB r = true) (hl : b.length < 200) : Bo (b ++ [r]) := by
  unfold rowB at h
  simp only [Bool.and_eq_true, decide_eq_true_eq, List.all_eq_true] at h
  refine ⟨by simp; omega, fun s hs => ?_⟩
  rcases List.mem_append.mp hs with hs | hs
  · exact hb.row s hs
  · rw [List.mem_singleton.mp hs]
    exact ⟨WW_of_wdB h.1.1.1, by omega, fun v hv => WW_of_wdB (h.2 v hv)⟩
/-- the told words as they are handed over -/
inductive Ho (ts : List Str) : O → Prop
  | lst : Ho ts (.lst (ts.map .str))
  | val {d : D} (h : Tl ts d) : Ho ts (.val d)
end Eng
/-! The shelf: rows taken out, deeds taken back. -/
namespace Eng
open PySem PySem.Spec L2 SX
open PyProof.Rows hiding St
theorem slS_bkN (b : List Row) (k : Nat) : slS none (some (k : Int)) (.val (eBk b)) = some (.val (eBk (b.take k))) := by rw [slS_bk, cutA_pre]
theorem slS_bkP (b : List Row) (k : Nat) : slS (some ((k : Int) + 1)) none (.val (eBk b)) = some (.val (eBk (b.drop (k + 1)))) := by rw [slS_bk, cutA_post]
theorem plcF_lt {b : List Row} {s : Row} {k : Nat} (h : plcF b s = some k) : k < b.length := List.mem_range.mp (List.mem_of_find?_eq_some h)
theorem eqB_nil (ps : List (List Row)) (h : ∀ c ∈ ps, Bo c) : eqS (.lst (ps.map eBk)) (.lst []) = some (.val (.bool (decide (ps = [])))) := by
  have g : SeqAt.shaped (.list (ps.map eBk)) = true := (Gd.list (Gd.map (f := eBk) (xs := ps) (k := 3) (W := 200 * 501) fun c hc => (Gd.bk (h c hc)).mono (Nat.le_refl _) (by have := (h c hc).len; exact Nat.mul_le_mul_right _ this))).shaped (by omega)
  have g2 : SeqAt.shaped (.list []) = true := by decide +kernel
  unfold eqS
  simp only [view_lst, eqD?, g, g2, Bool.and_self, Bool.or_true, if_true, Option.map_some, PyData.eqv]
  cases ps with
  | nil => simp [PyData.eqvAll]
  | cons c ps => simp [PyData.eqvAll]
theorem sh_pop (b c : List Row) (ps : List (List Row)) : ([(Str.ofString "now", .val (eBk b)), (Str.ofString "past", .lst (ps.map eBk))] : List (Str × O)) = shF b ps := rfl
theorem shelf_back (b c : List Row) (ps : List (List Row)) (hb : Bo b) (hc : Bo c) (hps : ∀ d ∈ ps, Bo d) : f_Shelf_back [shl b (ps ++ [c])] = .ret (.val (turnD b c)) [shl c ps] := by
  have e := eqB_nil (ps ++ [c]) (fun d hd => by
    rcases List.mem_append.mp hd with h | h
    · exact hps d h
    · rw [List.mem_singleton.mp h]; exact hc)
  rw [decide_eq_false (by simp)] at e
  have tn := shelf_turned b c ps hb hc
  have g : ((ps ++ [c]).map eBk)[((ps ++ [c]).map eBk).length - 1]? = some (eBk c) := by
    rw [List.map_append]
    simp
  have dl : ((ps ++ [c]).map eBk).dropLast = ps.map eBk := by
    rw [List.map_append]
    simp
  simp [-List.map_map, -List.map_append, -List.length_map, -List.length_append, f_Shelf_back, b_Shelf_back, runF_ap, e, g, dl, sh_pop b c ps, tn]
end Eng
/-! Whether a row stands; law k62. -/
namespace Eng
open PySem PySem.Spec L2 SX
open PyProof.Rows hiding St
theorem alkB_symm (r s : Row) : alkB r s = alkB s r := by
  unfold alkB
  rw [decide_eq_decide.mpr (show r.1 = s.1 ↔ s.1 = r.1 from eq_comm), decide_eq_decide.mpr (show sortT r.2 = sortT s.2 ↔ sortT s.2 = sortT r.2 from eq_comm)]
end Eng
/-! Law k94: the second book, the words told to be the same. -/
namespace Eng
open PySem PySem.Spec L2 SX
open PyProof.Rows hiding St
end Eng
/-! Law k94: names and books laid together, as the law reckons them. -/
namespace Eng
open PySem PySem.Spec L2 SX
open PyProof.Rows hiding St
end Eng
/-! Law k94. -/
namespace Eng
open PySem PySem.Spec L2 SX
open PyProof.Rows hiding St
/-! ### the book laid together, as the law reckons it -/
end Eng
/-! Law k94, whole. -/
namespace Eng
open PySem PySem.Spec L2 SX
open PyProof.Rows hiding St
end Eng
/-! Rows in a list that stands in a list; a deed undone. -/
namespace Eng
open PySem PySem.Spec L2 SX
open PyProof.Rows hiding St
def eB (b : List Row) : D := .list (b.map eRow)
@[simp] theorem itemsD_eB (b : List Row) : itemsD (eB b) = some (b.map eRow) := rfl
@[simp] theorem lenS_eB (b : List Row) : lenS (.val (eB b)) = some (.val (.int b.length)) := by simp [eB]
@[simp] theorem tupS_eB (b : List Row) : tupleS (.val (eB b)) = some (.val (eBk b)) := rfl
theorem llB_body (b : List Row) (hb : Bo b) (k : List Str) (hk : Jl b k) : w_l_learnt_2_1 [some (false, .val (eB b)), some (false, .dic (kd k)), some (false, .val (.bool true)), none, none, none] =
    .nx [some (false, .val (eB b)), some (false, .dic (kd (passL b k).1)), some (false, .val (.bool (passL b k).2)), none, none, none] := by
  obtain ⟨e, _⟩ := forL_map (f := eRow) (T := .tup [3, 4]) (fg := [3, 4]) (b := w_l_learnt_2_2)
    (fun s : List Str × Bool => [some (false, .val (eB b)), some (false, .dic (kd s.1)), some (false, .val (.bool s.2)), none, none, none]) stL (fun s => Jl b s.1) b (k, false) hk (fun s r hr hs => ⟨ll_turn b hb _ s hs r, (stL_j hs hr).1⟩)
  simp [-List.map_map, w_l_learnt_2_1, e, passL]
theorem llB_while (b : List Row) (hb : Bo b) : ∀ (n : Nat) (k : List Str), Jl b k → b.length - k.length < n → ∃ k', Jl b k' ∧ (∀ w, w ∈ k' ↔ w ∈ cls b) ∧
    sWhile t_l_learnt_2_1 [3, 4] w_l_learnt_2_1 [some (false, .val (eB b)), some (false, .dic (kd k)), some (false, .val (.bool true)), none, none, none] = .nx [some (false, .val (eB b)), some (false, .dic (kd k')), some (false, .val (.bool false)), none, none, none]
  | 0, k, _, h => by omega
  | n + 1, k, hk, h => by
    have e := llB_body b hb k hk
    obtain ⟨hj, hc⟩ := fold_j b k false (fun _ h => h) hk
    have hj : Jl b (passL b k).1 := hj
    have hc : passL b k = (k, false) ∨ ((passL b k).2 = true ∧ k.length < (passL b k).1.length) := hc
    rw [sWhile_turn (ρ1 := [some (false, .val (eB b)), some (false, .dic (kd k)), some (false, .val (.bool true)), none, none, none]) (by simp [t_l_learnt_2_1]) (.inl e)]
    rcases hc with hc | ⟨hc, hl⟩
    · refine ⟨k, hk, fun w => pass_end hk hc, ?_⟩
      rw [hc]
      simp only [dropE_cons, dropE_nil, dropE1_succ, dropE1_zero']
      rw [sWhile_done (ρ1 := [some (false, .val (eB b)), some (false, .dic (kd k)), some (false, .val (.bool false)), none, none, none]) (by simp [t_l_learnt_2_1])]
    · have h1 := hj.1.len
      obtain ⟨k', g1, g2, g3⟩ := llB_while b hb n _ hj (by omega)
      refine ⟨k', g1, g2, ?_⟩
      rw [hc]
      simpa using g3
theorem l_learnt_2_li (b : List Row) (hb : Bo b) : f_l_learnt_2 [.val (eB b)] = .ret (.lst ((lrn b).map .str)) [.val (eB b)] := by
  obtain ⟨k, hj, hc, e⟩ := llB_while b hb (b.length + 1) [] (Jl.nil b) (by omega)
  have hk := hj.1.len
  have hbl := hb.len
  have z : k.length ≤ sizeLine := Nat.le_of_lt (small (m := 200) (by omega))
  have es : sortT k = lrn b := sortT_ext hj.1.1 (cls_kn b).1 hc
  rw [kd_nil] at e
  simp [-List.map_map, f_l_learnt_2, b_l_learnt_2, runF_ap, e, z, es]
theorem l_stands_li (rs : List Row) (r : Row) (hb : ∀ s ∈ rs, RO s) (hl : rs.length ≤ 1000) (hr : RO r) : f_l_stands [.val (eB rs), .val (eRow r)] = .ret (.val (.bool (rs.any fun s => alkB r s))) [.val (eB rs), .val (eRow r)] := by
  have cc := lc_if (f := eRow) (c := none) (T := .nm 2) (t := tAndC (tV (o2 eqS (o2 ixS (oNm 2) (oC (.int 0))) (o2 ixS (oNm 1) (oC (.int 0))))) (tV (o2 eqS (o1 sortS (o2 ixS (oNm 2) (oC (.int 1)))) (o1 sortS (o2 ixS (oNm 1) (oC (.int 1))))))) (g := oNm 2) (own := [2])
    (ρ := [some (false, .val (eB rs)), some (false, .val (eRow r)), none])
    (fun q => decide (q.1 = r.1) && decide (sortT q.2 = sortT r.2)) eRow rs (by simp) (by
    intro q hq
    obtain ⟨q1, q2, q3⟩ := hb q hq
    have z1 : q.2.length ≤ sizeLine := Nat.le_of_lt (small (m := 20) q2)
    have z2 : r.2.length ≤ sizeLine := Nat.le_of_lt (small (m := 20) hr.2.1)
    have g := eqS_lsts (a := sortT q.2) (b := sortT r.2) (fun w hw => q3 w (mem_sortT.mp hw)) (fun w hw => hr.2.2 w (mem_sortT.mp hw))
    by_cases h1 : q.1 = r.1
    · by_cases h2 : sortT q.2 = sortT r.2
      · rw [h2] at g
        simp [-List.map_map, lturn_ap, h1, z1, z2, g, h2]
      · simp [-List.map_map, lturn_ap, h1, z1, z2, g, h2]
    · simp [-List.map_map, lturn_ap, h1])
  obtain ⟨L, hL⟩ : ∃ L, L = rs.filter fun q => decide (q.1 = r.1) && decide (sortT q.2 = sortT r.2) := ⟨_, rfl⟩
  rw [← hL] at cc
  simp [-List.map_map] at cc
  have hLm : ∀ q ∈ L, RO q := fun q hq => by rw [hL] at hq; exact hb q (List.mem_filter.mp hq).1
  have s1 : SeqAt.shaped (.list (L.map eRow)) = true := (Gd.list (Gd.map (f := eRow) (xs := L) fun q hq => Gd.row (hLm q hq))).shaped (by omega)
  have s2 : SeqAt.shaped (.list []) = true := by decide +kernel
  have g : neS (.lst (L.map eRow)) (.lst []) = some (.val (.bool (!PyData.eqv (.list (L.map eRow)) (.list [])))) := by
    unfold neS
    simp [eqD?, isStrD, s1, s2]
  have ev : (!PyData.eqv (.list (L.map eRow)) (.list [])) = rs.any fun s => alkB r s := by
    have e1 : (rs.any fun s => alkB r s) = !L.isEmpty := by
      rw [hL]
      cases q : (rs.any fun s => alkB r s) with
      | true =>
        obtain ⟨s, hs, e⟩ := List.any_eq_true.mp q
        rw [alkB_symm] at e
        have : s ∈ rs.filter fun q => decide (q.1 = r.1) && decide (sortT q.2 = sortT r.2) := List.mem_filter.mpr ⟨hs, e⟩
        cases q2 : (rs.filter fun q => decide (q.1 = r.1) && decide (sortT q.2 = sortT r.2)) with
        | nil => rw [q2] at this; cases this
        | cons => rfl
      | false =>
        have : (rs.filter fun q => decide (q.1 = r.1) && decide (sortT q.2 = sortT r.2)) = [] := by
          rw [List.filter_eq_nil_iff]
          intro s hs e
          have := List.any_eq_false.mp q s hs
          rw [alkB_symm] at this
          exact this e
        rw [this]
        rfl
    rw [e1]
    cases L with
    | nil => simp [PyData.eqv, PyData.eqvAll]
    | cons x L => simp [PyData.eqv, PyData.eqvAll]
  rw [ev] at g
  simp [-List.map_map, f_l_stands, b_l_stands, runF_ap, c_l_stands_1, cc, g]

end Eng
/-! Law k54: a deed taken back. -/
namespace Eng
open PySem PySem.Spec L2 SX
open PyProof.Rows hiding St
theorem popS_eB (qs : List (List Row)) (b : List Row) : popS (.lst ((qs ++ [b]).map eB)) = some (.lst (qs.map eB), eB b) := by
  unfold popS
  rw [List.map_append]
  simp
theorem Gd.wds {ws : List Str} (h : ∀ w ∈ ws, WW w) (hl : ws.length ≤ 200) : Gd (eL ws) 1 2400 := (Gd.strs h).mono (Nat.le_refl _) (by omega)
end Eng
/-! The text of a book as the laws write it; law k05. -/
namespace Eng
open PySem PySem.Spec L2 SX
open PyProof.Rows hiding St
theorem Td.r8 {ns : List Str} {r : Row} (h : Rw ns r) (hw : ∀ w ∈ ns, WW w) : R8 r := ⟨hw _ h.1, h.2.1, h.2.2.1, fun w q => hw _ (h.2.2.2 w q)⟩
theorem Gd.txt {t : Str} (h : okT t) {n : Nat} (hl : t.length ≤ n) : Gd (.str t) 0 n := .str h.ok hl
end Eng
/-! Law k54: deeds. -/
namespace Eng
open PySem PySem.Spec L2 SX
open PyProof.Rows hiding St
theorem key_uniq {b : List Row} (h : (b.map keyR).Nodup) {r s : Row} (hr : r ∈ b) (hs : s ∈ b) (e : keyR r = keyR s) : r = s := by
  induction b with
  | nil => cases hr
  | cons x b ih =>
    rw [List.map_cons, List.nodup_cons] at h
    rcases List.mem_cons.mp hr with rfl | hr2
    · rcases List.mem_cons.mp hs with rfl | hs2
      · rfl
      · exact (h.1 (List.mem_map.mpr ⟨s, hs2, e.symm⟩)).elim
    · rcases List.mem_cons.mp hs with rfl | hs2
      · exact (h.1 (List.mem_map.mpr ⟨r, hr2, e⟩)).elim
      · exact ih h.2 hr2 hs2
theorem cut_filter : ∀ {b : List Row} {k : Nat} {r : Row}, b.Nodup → b[k]? = some r → cut1 b k = b.filter fun q => !decide (q = r)
  | [], _, _, _, h => by simp at h
  | x :: b, 0, r, hn, h => by
    have hx : x = r := by simpa using h
    subst hx
    have hn := List.nodup_cons.mp hn
    unfold cut1
    rw [List.filter_cons_of_neg (by simp)]
    have : b.filter (fun q => !decide (q = x)) = b := List.filter_eq_self.mpr fun q hq => by
      have : q ≠ x := fun e => hn.1 (e ▸ hq)
      simp [this]
    rw [this]
    simp
  | x :: b, k + 1, r, hn, h => by
    have hn := List.nodup_cons.mp hn
    have h : b[k]? = some r := by simpa using h
    have ih := cut_filter hn.2 h
    have : x ≠ r := fun e => hn.1 (e ▸ List.mem_of_getElem? h)
    rw [List.filter_cons_of_pos (by simp [this]), ← ih]
    unfold cut1
    simp
theorem plc_of {b : List Row} (hk : (b.map keyR).Nodup) {s r : Row} (hr : r ∈ b) (ha : alkB r s = true) : ∃ k, plcF b s = some k ∧ b[k]? = some r ∧ cut1 b k = b.filter fun q => !decide (q = r) := by
  obtain ⟨i, hi, e⟩ := List.mem_iff_getElem.mp hr
  have g : b[i]? = some r := by rw [List.getElem?_eq_getElem hi, e]
  cases q : plcF b s with
  | none =>
    have := List.find?_eq_none.mp q i (List.mem_range.mpr hi)
    unfold alkAt at this
    rw [g] at this
    exact absurd ha this
  | some k =>
    have h1 := List.find?_some q
    unfold alkAt at h1
    cases gk : b[k]? with
    | none => rw [gk] at h1; cases h1
    | some r' =>
      rw [gk] at h1
      simp only at h1
      have e1 : keyR r' = keyR r := by
        rw [alkB_key, decide_eq_true_eq] at h1 ha
        rw [h1, ha]
      have := key_uniq hk (List.mem_of_getElem? gk) hr e1
      subst this
      exact ⟨k, rfl, gk, cut_filter ((List.pairwise_map.mp hk).imp fun hab e => hab (congrArg keyR e)) gk⟩
theorem plc_none {b : List Row} {s : Row} (h : ∀ r ∈ b, alkB r s = false) : plcF b s = none := by
  unfold plcF
  rw [List.find?_eq_none]
  intro k hk
  unfold alkAt
  cases g : b[k]? with
  | none => simp
  | some r => simp [h r (List.mem_of_getElem? g)]
theorem Rw.r8 {nm : List Str} {r : Row} (h : Rw nm r) (hW : ∀ w ∈ nm, WW w) : R8 r := ⟨hW _ h.1, h.2.1, h.2.2.1, fun w q => hW _ (h.2.2.2 w q)⟩
theorem R8.ro {r : Row} (h : R8 r) : RO r := ⟨h.1, by have := h.2.1; omega, h.2.2.2⟩
theorem R8.rt {r : Row} (h : R8 r) {ts : List Str} (hl : ts.length ≤ 8) (hm : ∀ w ∈ ts, w ∈ r.2) : RT r.1 ts := ⟨⟨h.rs.hd, show ts.length ≤ 1000000 by omega, fun w hw => h.rs.tw w (hm w hw)⟩, h.1.okT, fun w hw => (h.2.2.2 w (hm w hw)).okT⟩
theorem R8.row {r : Row} (h : R8 r) : rowB r = true := rowB_of h.1 h.2.1 h.2.2.1 h.2.2.2
theorem Bk.sub {nm : List Str} {n : Nat} {b c : List Row} (h : Bk nm n b) (hs : c.Sublist b) : Bk nm n c := ⟨Nat.le_trans hs.length_le h.len, fun r hr => h.row r (hs.subset hr), (hs.map keyR).nodup h.key⟩
theorem Bk.snoc {nm : List Str} {n : Nat} {b : List Row} {r : Row} (h : Bk nm n b) (hr : Rw nm r) (hn : ∀ s ∈ b, alkB s r = false) : Bk nm (n + 1) (b ++ [r]) := ⟨by have := h.len; simp; omega, fun s hs => by
  rcases List.mem_append.mp hs with hs | hs
  · exact h.row s hs
  · rw [List.mem_singleton.mp hs]; exact hr, by
  rw [List.map_append, List.nodup_append]
  refine ⟨h.key, by simp, fun a ha c hc e => ?_⟩
  obtain ⟨s, hs, rfl⟩ := List.mem_map.mp ha
  simp at hc
  have := hn s hs
  rw [alkB_key] at this
  exact of_decide_eq_false this (e.trans hc)⟩
theorem alk_refl (r : Row) {ts : List Str} (h : sortT r.2 = sortT ts) : alkB r (r.1, ts) = true := by
  unfold alkB
  simp [h]
theorem app_eB (qs : List (List Row)) (b : List Row) (hl : qs.length ≤ 2000) : appS (.lst (qs.map eB)) [eB b] = some (.lst ((qs ++ [b]).map eB), .none) := by
  have z : (qs.map eB).length < sizeLine := small (m := 2000) (by rw [List.length_map]; exact hl)
  rw [appS_ap, if_pos z, List.map_append]
  rfl
theorem neE_nil (b : List Row) (hb : Bo b) : neS (.val (eB b)) (.lst []) = some (.val (.bool (!decide (b = [])))) := by
  have s1 : SeqAt.shaped (.list (b.map eRow)) = true := (Gd.list (Gd.map (f := eRow) (xs := b) fun q hq => Gd.row (hb.row q hq))).shaped (by omega)
  have s2 : SeqAt.shaped (.list []) = true := by decide +kernel
  show (eqD? (.list (b.map eRow)) (.list [])).map (fun k => O.val (.bool (!k))) = _
  cases b with
  | nil => simp [eqD?, isStrD, s2, PyData.eqv, PyData.eqvAll]
  | cons x l => simp only [List.map_cons] at s1; simp [eqD?, isStrD, s1, s2, PyData.eqv, PyData.eqvAll]
end Eng
/-! Law k54. -/
namespace Eng
open PySem PySem.Spec L2 SX
open PyProof.Rows hiding St
theorem sIf_t {t : TS'} {a c : SS} {ρ ρ1 : En} (h : t ρ = .ok true ρ1) : sIf t a c ρ = a ρ1 := by simp [h]
/-- the law's rows and the shelf, as they stand together -/
structure Tg (nm : List Str) (n : Nat) (b : List Row) (ps : List (List Row)) : Prop where
  now : Bk nm n b
  past : ∀ c ∈ ps, Bk nm n c
  len : ps.length ≤ 2 * n
  bot : (ps ++ [b]).head? = some []
theorem Tg.deed {nm : List Str} {n : Nat} {b b' : List Row} {ps X : List (List Row)} (h : Tg nm n b ps) (hb : Bk nm (n + 1) b') (hX : ∀ c ∈ X, Bk nm (n + 1) c) (hl : X.length ≤ 1) : Tg nm (n + 1) b' (ps ++ [b] ++ X) := ⟨hb, fun c hc => by
  rcases List.mem_append.mp hc with hc | hc
  · rcases List.mem_append.mp hc with hc | hc
    · exact (h.past c hc).mono (by omega)
    · rw [List.mem_singleton.mp hc]; exact h.now.mono (by omega)
  · exact hX c hc, by have := h.len; simp; omega, by
  have := h.bot
  cases ps with
  | nil => simpa using this
  | cons c ps => simpa using this⟩
theorem Tg.back {nm : List Str} {n : Nat} {b c : List Row} {ps : List (List Row)} (h : Tg nm n b (ps ++ [c])) : Tg nm n c ps := ⟨h.past c (by simp), fun d hd => h.past d (by simp [hd]), by have := h.len; simp at this; omega, by
  have := h.bot
  cases ps with
  | nil => simpa using this
  | cons d ps => simpa using this⟩
theorem Tg.mono {nm : List Str} {n m : Nat} {b : List Row} {ps : List (List Row)} (h : Tg nm n b ps) (hm : n ≤ m) : Tg nm m b ps := ⟨h.now.mono hm, fun c hc => (h.past c hc).mono hm, by have := h.len; omega, h.bot⟩
theorem snoc_ex {α : Type} : ∀ {l : List α}, l ≠ [] → ∃ q c, l = q ++ [c] := fun {l} h => ⟨l.dropLast, l.getLast h, (List.dropLast_concat_getLast h).symm⟩
theorem k54_pick (nm : List Str) (hne : nm ≠ []) (d : Int) (h0 : 0 ≤ d) : ∃ w, w ∈ nm ∧ modS (.val (.int d)) (.val (.int (nm.length : Int))) = some (.val (.int (d % (nm.length : Int)))) ∧ atI (nm.map PyData.str) (d % (nm.length : Int)) = some (.str w) := by
  have hp : 0 < nm.length := List.length_pos_iff.mpr hne
  have hpi : (0 : Int) < nm.length := by omega
  have a0 := Int.emod_nonneg d (show (nm.length : Int) ≠ 0 by omega)
  have a1 := Int.emod_lt_of_pos d hpi
  refine ⟨nm[(d % (nm.length : Int)).toNat]'(by omega), List.getElem_mem _, by rw [modS_int, if_pos hpi], ?_⟩
  rw [atI_nat' _ _ a0 (by rw [List.length_map]; omega), List.getElem?_map, List.getElem?_eq_getElem (by omega)]
  rfl
end Eng
/-! The desk. -/
namespace Eng
open PySem PySem.Spec L2 SX
open PyProof.Rows hiding St
@[simp] theorem oMethF_ap (c c2 i : Nat) (m mm : Str) (fn : FSem) (gs : List ES) (ρ : En) : oMethF c c2 i m mm fn gs ρ = match ρ[i]? with
  | some (some (b, .ins c' [(m', .ins c2' fs2)])) => if c' = c ∧ m' = m ∧ c2' = c2 ∧ fs2.lookup mm = none then
      (match oAs gs (ρ.set i none) with
      | .stuck => .stuck
      | .exc cc ρ1 => match ρ1[i]? with
        | some none => .exc cc (ρ1.set i (some (b, .ins c [(m, .ins c2 fs2)])))
        | _ => .stuck
      | .ok ps ρ1 => match lift ρ1 ps with
        | none => .stuck
        | some (os, bs, ρ2) => match fn (.ins c2 fs2 :: os) with
          | .ret o (x :: fin) => (match (backs ps bs fin ρ2)[i]? with
            | some none => .ok (.tmp o) ((backs ps bs fin ρ2).set i (some (b, .ins c [(m, x)])))
            | _ => .stuck)
          | .exc cc (x :: fin) => (match (backs ps bs fin ρ2)[i]? with
            | some none => .exc cc ((backs ps bs fin ρ2).set i (some (b, .ins c [(m, x)])))
            | _ => .stuck)
          | _ => .stuck)
    else .stuck
  | _ => .stuck := rfl
end Eng
/-! The desk, words without more. -/
namespace Eng
open PySem PySem.Spec L2 SX
open PyProof.Rows hiding St
end Eng
/-! The desk: told book, learnt. -/
namespace Eng
open PySem PySem.Spec L2 SX
open PyProof.Rows hiding St
end Eng
/-! The desk: told book, learnt. -/
namespace Eng
open PySem PySem.Spec L2 SX
open PyProof.Rows hiding St
end Eng
/-! Law k01. -/
namespace Eng
open PySem PySem.Spec L2 SX
open PyProof.Rows hiding St
end Eng
/-! Law k01: the number of a text's sense. -/
namespace Eng
open PySem PySem.Spec L2 SX
open PyProof.Rows hiding St
end Eng
/-! Law k15: the law's own walk along pairs. -/
namespace Eng
open PySem PySem.Spec L2 SX
open PyProof.Rows hiding St
end Eng
/-! Law k15: the pairs made here, and bent. -/
namespace Eng
open PySem PySem.Spec L2 SX
open PyProof.Rows hiding St
@[simp] theorem inS_eL (x : Str) (ws : List Str) : inS (.val (.str x)) (.val (eL ws)) = some (.val (.bool (decide (x ∈ ws)))) := inS_list x ws
theorem tolds_snoc (b : List Row) (r : Row) (w : Str) : tolds (b ++ [r]) w = tolds b w ++ if r.1 = w then [r.2] else [] := by
  unfold tolds
  rw [List.filter_append, List.map_append]
  by_cases h : r.1 = w <;> simp [h]
/-- blocks for the rows of a word -/
def Gb (b : List Row) (S : List Str) (w : Str) (bl : List Str) : Prop := bl.length = (tolds b w).length ∧ ∀ p ∈ (tolds b w).zip bl, p.2 ∈ p.1 ∧ p.2 ∈ S
theorem Gb.snoc {b : List Row} {S : List Str} {r : Row} {w v : Str} {bl : List Str} (h : Gb b S w bl) (hr : r.1 = w) (h1 : v ∈ r.2) (h2 : v ∈ S) : Gb (b ++ [r]) S w (bl ++ [v]) := by
  obtain ⟨a, c⟩ := h
  refine ⟨?_, ?_⟩
  · rw [tolds_snoc, if_pos hr]; simp [a]
  · rw [tolds_snoc, if_pos hr, List.zip_append a.symm]
    intro p hp
    rcases List.mem_append.mp hp with hp | hp
    · exact c p hp
    · simp at hp
      subst hp
      exact ⟨h1, h2⟩
end Eng
/-! Law k15: bent pairs, and the answer. -/
namespace Eng
open PySem PySem.Spec L2 SX
open PyProof.Rows hiding St
end Eng
/-! The laws' own look at a word and at a book (laws k03, k06). -/
namespace Eng
open PySem PySem.Spec L2 SX
open PyProof.Rows hiding St
end Eng
/-! The laws' own look at a book; what they say of the kinds (laws k03, k06). -/
namespace Eng
open PySem PySem.Spec L2 SX
open PyProof.Rows hiding St
/-- a row of texts -/
structure RG (r : Row) : Prop where
  rs : RS r
  oh : okT r.1
  ot : ∀ w ∈ r.2, okT w
def eKz (k : Row) : D := .tuple [.str k.1, .list (k.2.map .str)]
theorem longest : ∀ ws : List Str, ∃ n, ∀ w ∈ ws, w.length ≤ n
  | [] => ⟨0, by simp⟩
  | a :: ws => by
    obtain ⟨n, h⟩ := longest ws
    refine ⟨n + a.length, fun w hw => ?_⟩
    rcases List.mem_cons.mp hw with rfl | hw
    · omega
    · have := h w hw
      omega
theorem Gd.kz {k : Row} (h1 : okT k.1) (h2 : ∀ w ∈ k.2, okT w) : ∃ W, Gd (eKz k) 2 W := by
  obtain ⟨n, hb⟩ := longest k.2
  have hn : ∀ x ∈ k.2.map PyData.str, Gd x 0 n := fun x hx => by
    obtain ⟨w, hw, rfl⟩ := List.mem_map.mp hx
    exact Gd.str (h2 w hw).ok (hb w hw)
  have g2 := Gd.list hn
  have := Gd.tup (xs := [.str k.1, .list (k.2.map .str)]) (k := 1) (W := k.1.length + (k.2.map PyData.str).length * (n + 1)) (by
    intro x hx
    simp only [List.mem_cons, List.not_mem_nil, or_false] at hx
    rcases hx with rfl | rfl
    · exact (Gd.str h1.ok (Nat.le_refl _)).mono (by omega) (by omega)
    · exact g2.mono (by omega) (by omega))
  exact ⟨_, this⟩
end Eng
/-! Law k03: books with one thing spoilt. -/
namespace Eng
open PySem PySem.Spec L2 SX
open PyProof.Rows hiding St
structure RQ (r : Row) : Prop where
  oh : okT r.1 ∧ r.1.length ≤ 40
  ln : r.2.length ≤ 40
  ot : ∀ w ∈ r.2, okT w ∧ w.length ≤ 40
theorem WW.q {w : Str} (h : WW w) : Eng.okT w ∧ w.length ≤ 40 := ⟨h.okT, by have := h.len; omega⟩
end Eng
/-! Law k06: texts with a spoilt place. -/
namespace Eng
open PySem PySem.Spec L2 SX
open PyProof.Rows hiding St
/-- so much do texts take, with one sign behind each -/
def mu (ws : List Str) : Nat := (ws.map fun w => w.length + 1).sum
theorem mu_app (a c : List Str) : mu (a ++ c) = mu a + mu c := by unfold mu; rw [List.map_append, List.sum_append]
theorem mu_cons (w : Str) (ws : List Str) : mu (w :: ws) = w.length + 1 + mu ws := by unfold mu; rw [List.map_cons, List.sum_cons]
theorem mu_nil : mu [] = 0 := rfl
theorem mu_one (w : Str) : mu [w] = w.length + 1 := by rw [mu_cons, mu_nil]
theorem mu_take : ∀ (n : Nat) (ws : List Str), mu (ws.take n) ≤ mu ws
  | 0, ws => by rw [List.take_zero, mu_nil]; omega
  | _ + 1, [] => by simp
  | n + 1, w :: ws => by rw [List.take_succ_cons, mu_cons, mu_cons]; have := mu_take n ws; omega
theorem mu_drop : ∀ (n : Nat) (ws : List Str), mu (ws.drop n) ≤ mu ws
  | 0, ws => by rw [List.drop_zero]; omega
  | _ + 1, [] => by simp
  | n + 1, w :: ws => by rw [List.drop_succ_cons, mu_cons]; have := mu_drop n ws; omega
theorem mu_cut (ws : List Str) (lo hi : Option Int) : mu (cutA ws lo hi) ≤ mu ws := Nat.le_trans (mu_take _ _) (mu_drop _ _)
theorem mu_len (ws : List Str) : ws.length ≤ mu ws := by
  induction ws with
  | nil => simp
  | cons a ws ih => rw [mu_cons, List.length_cons]; omega
theorem mu_sum (ws : List Str) : (ws.map (·.length)).sum + ws.length = mu ws := by
  induction ws with
  | nil => rfl
  | cons a ws ih => rw [mu_cons, List.map_cons, List.sum_cons, List.length_cons]; omega
/-- texts, good, and of that much at most -/
structure LK (ws : List Str) (n : Nat) : Prop where
  ok : ∀ w ∈ ws, okT w
  mu : mu ws ≤ n
theorem LK.app {a c : List Str} {n m : Nat} (h : LK a n) (h2 : LK c m) : LK (a ++ c) (n + m) := ⟨fun w hw => (List.mem_append.mp hw).elim (h.ok w) (h2.ok w), by rw [mu_app]; have := h.mu; have := h2.mu; omega⟩
theorem LK.cut {a : List Str} {n : Nat} (h : LK a n) (lo hi : Option Int) : LK (cutA a lo hi) n := ⟨fun w hw => h.ok w (mem_cutA hw), Nat.le_trans (mu_cut _ _ _) h.mu⟩
theorem LK.one {w : Str} (h : okT w) : LK [w] (w.length + 1) := ⟨fun v hv => by rw [List.mem_singleton.mp hv]; exact h, by rw [mu_one]; omega⟩
theorem LK.le {a : List Str} {n m : Nat} (h : LK a n) (hm : n ≤ m) : LK a m := ⟨h.ok, Nat.le_trans h.mu hm⟩
theorem LK.len {a : List Str} {n : Nat} (h : LK a n) : a.length ≤ n := Nat.le_trans (mu_len a) h.mu
theorem LK.add {a c : List Str} {n m : Nat} (h : LK a n) (h2 : LK c m) (hz : n + m ≤ 1000000) : addS (.lst (a.map .str)) (.lst (c.map .str)) = some (.lst ((a ++ c).map .str)) := by
  rw [addS_ll, List.length_map, List.length_map, if_pos (small3 (by have := h.len; have := h2.len; omega)), List.map_append]
theorem LK.join {ws : List Str} {n : Nat} (h : LK ws n) (y : Str) (hy : y.length = 1) (ho : okT y) (hn : n ≤ 1000000) : ∃ t, joinS y (.lst (ws.map .str)) = some (.val (.str t)) ∧ okT t ∧ t.length ≤ n := by
  have hs := mu_sum ws
  have hm := h.mu
  refine ⟨Txt.join y ws, joinS_of y rfl (by rw [hy]; omega), join_mem (P := fun c => c < 0x110000) ho fun p hp => h.ok p hp, ?_⟩
  have h1 := StrLaws.join_length_le y ws
  rw [← TL.join_eq, hy] at h1
  omega
theorem Dr.mid {n : Nat} {ds : List Int} (h : Dr n ds) (a b : Nat) (hab : a ≤ b) (hb : b ≤ n) : Dr (b - a) (cutA ds (some (a : Int)) (some (b : Int))) := by
  have e : cutA ds (some (a : Int)) (some (b : Int)) = (ds.drop a).take (b - a) := by
    unfold cutA
    rw [HT.sIx_nat, HT.sIx_nat, h.1, Nat.min_eq_left (by omega), Nat.min_eq_left (by omega)]
  rw [e]
  exact ⟨by rw [List.length_take, List.length_drop, h.1]; omega, fun d hd => h.2 d (List.mem_of_mem_drop (List.mem_of_mem_take hd))⟩
end Eng
/-! Law k06: texts with a spoilt place, the ways. -/
namespace Eng
open PySem PySem.Spec L2 SX
open PyProof.Rows hiding St
end Eng
/-! Law k06: any text read, by the program and by the law. -/
namespace Eng
open PySem PySem.Spec L2 SX
open PyProof.Rows hiding St
/-! ### the program reads -/
end Eng
/-! Law k06: the law's own reading. -/
namespace Eng
open PySem PySem.Spec L2 SX
open PyProof.Rows hiding St
def K1 : List D := [.bool true, .bool true, .bool true, .bool false, .bool false, .bool false, .bool false, .bool false, .bool false, .bool false]
end Eng
/-! The desk: texts of deeds that are refused. -/
namespace Eng
open PySem PySem.Spec L2 SX
open PyProof.Rows hiding St
theorem RG.rt {r : Row} (h : RG r) : RT r.1 r.2 := ⟨h.rs, h.oh, h.ot⟩
end Eng
/-! The desk: texts that are refused. -/
namespace Eng
open PySem PySem.Spec L2 SX
open PyProof.Rows hiding St
def asked : List Str := [Str.ofString "round", Str.ofString "price", Str.ofString "read", Str.ofString "under", Str.ofString "over", Str.ofString "musts", Str.ofString "why"]
end Eng
/-! The desk: what is told. -/
namespace Eng
open PySem PySem.Spec L2 SX
open PyProof.Rows hiding St
end Eng
/-! The desk: deeds, told in full. -/
namespace Eng
open PySem PySem.Spec L2 SX
open PyProof.Rows hiding St
/-! ### texts of rows that need not fit -/
/-! ### refused -/
/-! ### done -/
end Eng
/-! Law k71: what is said, what is shown. -/
namespace Eng
open PySem PySem.Spec L2 SX
open PyProof.Rows hiding St
def k7 (c : Nat) : Nat := if c = 2 then 0 else if c = 7 then 1 else 2
end Eng
/-! Law k71: a row's text, the rows alike, the turn. -/
namespace Eng
open PySem PySem.Spec L2 SX
open PyProof.Rows hiding St
end Eng
/-! Law k71: what is due behind a deed. -/
namespace Eng
open PySem PySem.Spec L2 SX
open PyProof.Rows hiding St
theorem Gd.eb {b : List Row} (h : Bo b) : Gd (eB b) 3 (200 * 501) := (Gd.list (Gd.map (f := eRow) (xs := b) fun q hq => Gd.row (h.row q hq))).mono (by omega) (by rw [List.length_map]; exact Nat.mul_le_mul_right _ h.len)
theorem eqE_nil (ps : List (List Row)) (h : ∀ c ∈ ps, Bo c) : eqS (.lst (ps.map eB)) (.lst []) = some (.val (.bool (decide (ps = [])))) := by
  have g : SeqAt.shaped (.list (ps.map eB)) = true := (Gd.list (Gd.map (f := eB) (xs := ps) (k := 3) (W := 200 * 501) fun c hc => Gd.eb (h c hc))).shaped (by omega)
  have g2 : SeqAt.shaped (.list []) = true := by decide +kernel
  unfold eqS
  simp only [view_lst, eqD?, g, g2, Bool.and_self, Bool.or_true, if_true, Option.map_some, PyData.eqv]
  cases ps with
  | nil => simp [PyData.eqvAll]
  | cons c ps => simp [PyData.eqvAll]
section
variable (b : List Row) (ps : List (List Row)) (r : Row)
variable (hb : Bo b) (hr : RO r)
include hb hr
end
end Eng
/-! Law k51: what is young; the shelf that a list is lent to. -/
namespace Eng
open PySem PySem.Spec L2 SX
open PyProof.Rows hiding St

@[simp] theorem oMethY_ap (c i : Nat) (m : Str) (fn : FSem) (gs : List ES) (ρ : En) : oMethY c i m fn gs ρ = match ρ[i]? with
  | some (some (_, .ins c' fs)) => if c' = c ∧ fs.lookup m = none then oCallY fn (oAs (oNm i :: gs)) ρ else .stuck
  | _ => .stuck := rfl
@[simp] theorem oCallY_ap (g : FSem) (as : AS) (ρ : En) : oCallY g as ρ = (as ρ).bind fun ps ρ1 => callY g ρ1 ps := rfl
@[simp] theorem callY_ap (g : FSem) (ρ : En) (ps : List Opd) : callY g ρ ps = match lift ρ ps with
  | some (os, bs, ρ1) => if os.all lfP = true then match g os with
    | .ret (.val (.tuple ds)) fin => if fin.all lfP = true then .ok (.tmp (.yng (.tuple ds) none)) (backs ps bs fin ρ1) else .stuck
    | .exc c fin => if fin.all lfP = true then .exc c (backs ps bs fin ρ1) else .stuck
    | _ => .stuck
    else .stuck
  | none => .stuck := rfl
@[simp] theorem oTupY_ap (f g : ES) (ρ : En) : oTupY f g ρ = (oAs [f, g] ρ).bind fun ps ρ1 => match ps with
  | [p1, p2] => match giveUp ρ1 p1 with
    | some (.yng d none, ρ2) => match give ρ2 p2 with
      | some (e, ρ3) => .ok (.tmp (.yng d (some e))) ρ3
      | none => .stuck
    | _ => .stuck
  | _ => .stuck := rfl
@[simp] theorem oYngR_ap (i : Nat) (ρ : En) : oYngR i ρ = match ρ[i]? with
  | some (some (_, .yng _ (some e))) => .ok (.tmp (.val e)) ρ
  | _ => .stuck := rfl
@[simp] theorem oYngL_ap (i : Nat) (ρ : En) : oYngL i ρ = match ρ[i]? with
  | some (some (false, .yng (.tuple ds) (some _))) => .ok (.tmp (.yng (.tuple ds) none)) (ρ.set i none)
  | _ => .stuck := rfl
@[simp] theorem lfP_lstS (ws : List Str) : lfP (.lst (ws.map PyData.str)) = true := by
  rw [lfP]
  exact lfA_strs ws
@[simp] theorem lfP_str (x : Str) : lfP (.val (.str x)) = true := by simp [lfP]
@[simp] theorem lfP_eLv (ws : List Str) : lfP (.val (.tuple (ws.map PyData.str))) = true := by
  rw [lfP]
  exact lfD_eW ws
@[simp] theorem lfP_shl (b : List Row) (ps : List (List Row)) : lfP (shl b ps) = true := by
  show lfP (.ins 9 (shF b ps)) = true
  unfold shF
  rw [lfP, lfF, lfF, lfF, lfP, lfP, lfD_eBk, lfA_map fun c _ => lfD_eBk c]
  rfl
@[simp] theorem isnot_yng (d : D) (e : Option D) : isnotS (.yng d e) (.val .none) = some (.val (.bool true)) := rfl

theorem oLend_go {j : Nat} {f : ES} {ρ : En} {p : Bool} {ds : List D} {d : D} (h : ρ[j]? = some (some (p, .lst ds))) (hl : lfOwn (ρ.set j none) = true) (hf : f (ρ.set j (some (p, .val (.list ds)))) = .ok (.tmp (.val d)) (ρ.set j (some (p, .val (.list ds))))) (hd : lfD d = true) : oLend j f ρ = .ok (.tmp (.val d)) ρ := by
  unfold oLend
  rw [h]
  simp only [hl, hf, hd, if_true, and_self]
theorem pl2_turn (b : List Row) (ps : List (List Row)) (hb : Bo b) (w : Str) (ts : List Str) (ht : RT w ts) (k : Nat) (hk : k < b.length) : turn (.nm 3) [3] w_Shelf_place_of_2_1 (.int (0 + (k : Nat))) [some (true, shl b ps), some (false, .val (.str w)), some (true, .lst (ts.map .str)), none] =
    if alkAt b (w, ts) k = true then .rt (.val (.int (k : Int))) [some (true, shl b ps), some (false, .val (.str w)), some (true, .lst (ts.map .str)), some (false, .val (.int (k : Int)))] else .nx [some (true, shl b ps), some (false, .val (.str w)), some (true, .lst (ts.map .str)), none] := by
  obtain ⟨r, g⟩ : ∃ r, b[k]? = some r := ⟨_, List.getElem?_eq_getElem hk⟩
  have hrb := List.mem_of_getElem? g
  have ix := ixS_eBk g
  have al := alike_eqD r w ts (eL ts) .lst (hb.row _ hrb) ht
  have z : (0 + (k : Nat) : Int) = (k : Int) := by omega
  have el : PyData.list (ts.map .str) = eL ts := rfl
  have hA : alkAt b (w, ts) k = alkB r (w, ts) := by unfold alkAt; rw [g]
  have ld : oLend 2 (oCall f_alike (oAs [o2 ixS (oFld 9 0 "now") (oNm 3), oTup (oAs [oNm 1, oNm 2])])) [some (true, shl b ps), some (false, .val (.str w)), some (true, .lst (ts.map .str)), some (false, .val (.int (k : Int)))] = .ok (.tmp (.val (.bool (alkB r (w, ts))))) [some (true, shl b ps), some (false, .val (.str w)), some (true, .lst (ts.map .str)), some (false, .val (.int (k : Int)))] := by
    refine oLend_go (p := true) (ds := ts.map .str) rfl ?_ ?_ (by simp)
    · unfold lfOwn
      have h1 := lfP_shl b ps
      simp only [List.set_cons_succ, List.set_cons_zero, List.all_cons, List.all_nil, h1, O.own, Bool.not_true, Bool.not_false, Bool.or_true, Bool.true_or, Bool.false_or, Bool.and_self]
    · simp only [List.set_cons_succ, List.set_cons_zero, el]
      simp [-List.map_map, ix, al]
  rw [z]
  by_cases q : alkB r (w, ts) = true
  · rw [q] at ld
    rw [if_pos (hA.trans q)]
    simp [-List.map_map, turn_ap, w_Shelf_place_of_2_1, ld]
  · rw [Bool.eq_false_iff.mpr q] at ld
    rw [if_neg fun h => q (hA.symm.trans h)]
    simp [-List.map_map, turn_ap, w_Shelf_place_of_2_1, ld]
theorem shelf2_place (b : List Row) (ps : List (List Row)) (hb : Bo b) (w : Str) (ts : List Str) (ht : RT w ts) : f_Shelf_place_of_2 [shl b ps, .val (.str w), .lst (ts.map .str)] = .ret (.val (plD (plcF b (w, ts)))) [shl b ps, .val (.str w), .lst (ts.map .str)] := by
  have fl := forL_find (f := fun k : Nat => PyData.int (0 + (k : Nat))) (T := .nm 3) (fg := [3]) (b := w_Shelf_place_of_2_1) (ρ := [some (true, shl b ps), some (false, .val (.str w)), some (true, .lst (ts.map .str)), none]) (alkAt b (w, ts)) (fun k => .rt (.val (.int (k : Int))) [some (true, shl b ps), some (false, .val (.str w)), some (true, .lst (ts.map .str)), some (false, .val (.int (k : Int)))]) (fun k _ => .inl ⟨_, _, rfl⟩) (List.range b.length) (fun k hk => pl2_turn b ps hb w ts ht k (List.mem_range.mp hk))
  have s0 : startE 4 [shl b ps, .val (.str w), .lst (ts.map .str)] = [some (true, shl b ps), some (false, .val (.str w)), some (true, .lst (ts.map .str)), none] := rfl
  have z1 : (b.length : Int) ≤ 1000000 := by have := hb.len; omega
  have z2 : (-4611686018427387904 : Int) ≤ b.length := by omega
  have er : ((List.range b.length).map fun k : Nat => PyData.int (0 + (k : Nat))) = rng 0 b.length := rfl
  rw [er] at fl
  unfold plcF
  cases q : (List.range b.length).find? (alkAt b (w, ts)) <;> rw [q] at fl <;> simp only at fl <;> simp [-List.map_map, f_Shelf_place_of_2, b_Shelf_place_of_2, runF_fin, s0, z1, z2, fl, plD]
theorem shelf2_put (b : List Row) (ps : List (List Row)) (hb : Bo b) (hps : ps.length ≤ 1000) (w : Str) (ts : List Str) (ht : RT w ts) (hr : rowB (w, ts) = true) (hp : plcF b (w, ts) = none) (h60 : ¬ 60 ≤ b.length) : f_Shelf_put_3 [shl b ps, .val (.str w), .lst (ts.map .str)] =
    .ret (.val (turnD b (b ++ [(w, ts)]))) [shl (b ++ [(w, ts)]) (ps ++ [b]), .val (.str w), .lst (ts.map .str)] := by
  have s0 : startE 4 [shl b ps, .val (.str w), .lst (ts.map .str)] = [some (true, shl b ps), some (false, .val (.str w)), some (true, .lst (ts.map .str)), none] := rfl
  have tu : tupleS (.lst (ts.map .str)) = some (.val (eW ts)) := rfl
  have er : PyData.tuple [.str w, eW ts] = eRow (w, ts) := rfl
  have p0 : (sAsg 3 (oTup (oAs [oNm 1, o1 tupleS (oNm 2)]))) [some (true, shl b ps), some (false, .val (.str w)), some (true, .lst (ts.map .str)), none] = .nx [some (true, shl b ps), some (false, .val (.str w)), some (true, .lst (ts.map .str)), some (false, .val (eRow (w, ts)))] := by
    simp [-List.map_map, -tupleS_ap, tu, er]
  have eb : PyData.tuple [eRow (w, ts)] = eBk [(w, ts)] := rfl
  have fq := fits_eq [(w, ts)] (fun r hr => by rw [List.mem_singleton.mp hr]; exact ht.rs)
  rw [bkFit_one, hr] at fq
  have pq := shelf2_place b ps hb w ts ht
  rw [hp] at pq
  have hbl := hb.len
  have z1 : b.length + 1 ≤ sizeLine := Nat.le_of_lt (small (m := 300) (by omega))
  have ad : addS (.val (eBk b)) (.val (eBk [(w, ts)])) = some (.val (eBk (b ++ [(w, ts)]))) := by rw [addS_bk2, if_pos (show b.length + [(w, ts)].length ≤ sizeLine from z1)]
  have p1 : (sIf (tOrC (tNotC (tV (oCall f_fits (oAs [oTup (oAs [oNm 3])])))) (tV (o2 isnotS (oMeth 9 0 "place_of" f_Shelf_place_of_2 [oNm 1, oNm 2]) (oC .none)))) (sRaise 2) sNil) [some (true, shl b ps), some (false, .val (.str w)), some (true, .lst (ts.map .str)), some (false, .val (eRow (w, ts)))] = .nx [some (true, shl b ps), some (false, .val (.str w)), some (true, .lst (ts.map .str)), some (false, .val (eRow (w, ts)))] := by
    simp [-List.map_map, eb, fq, pq, plD]
  have h60' : ¬ (60 : Int) ≤ b.length := by omega
  have hb2 : Bo (b ++ [(w, ts)]) := rowB_bo hb hr (by omega)
  have tn := shelf_turned b (b ++ [(w, ts)]) (ps ++ [b]) hb hb2
  have zp : ps.length < sizeLine := small (m := 1000) hps
  have p2 : (sIf (tV (o2 geS (o1 lenS (oFld 9 0 "now")) (oC (.int 60)))) (sRaise 5) sNil) [some (true, shl b ps), some (false, .val (.str w)), some (true, .lst (ts.map .str)), some (false, .val (eRow (w, ts)))] = .nx [some (true, shl b ps), some (false, .val (.str w)), some (true, .lst (ts.map .str)), some (false, .val (eRow (w, ts)))] := by
    simp [-List.map_map, h60, h60']
  have p3 : (sFldApp 9 0 "past" "now") [some (true, shl b ps), some (false, .val (.str w)), some (true, .lst (ts.map .str)), some (false, .val (eRow (w, ts)))] = .nx [some (true, shl b (ps ++ [b])), some (false, .val (.str w)), some (true, .lst (ts.map .str)), some (false, .val (eRow (w, ts)))] := by
    simp [-List.map_map, zp, sh_fold]
  rw [f_Shelf_put_3, runF_fin, s0, b_Shelf_put_3, sq_nx p0, sq_nx p1, sq_nx p2, sq_nx p3]
  simp [-List.map_map, eb, ad, tn]
theorem shelf2_take (b : List Row) (ps : List (List Row)) (hb : Bo b) (hps : ps.length ≤ 1000) (w : Str) (ts : List Str) (ht : RT w ts) (k : Nat) (hp : plcF b (w, ts) = some k) : f_Shelf_take_2 [shl b ps, .val (.str w), .lst (ts.map .str)] =
    .ret (.val (turnD b (cut1 b k))) [shl (cut1 b k) (ps ++ [b]), .val (.str w), .lst (ts.map .str)] := by
  have s0 : startE 4 [shl b ps, .val (.str w), .lst (ts.map .str)] = [some (true, shl b ps), some (false, .val (.str w)), some (true, .lst (ts.map .str)), none] := rfl
  have pq := shelf2_place b ps hb w ts ht
  rw [hp] at pq
  have p0 : (sAsg 3 (oMeth 9 0 "place_of" f_Shelf_place_of_2 [oNm 1, oNm 2])) [some (true, shl b ps), some (false, .val (.str w)), some (true, .lst (ts.map .str)), none] = .nx [some (true, shl b ps), some (false, .val (.str w)), some (true, .lst (ts.map .str)), some (false, .val (.int (k : Int)))] := by
    simp [-List.map_map, pq, plD]
  have hk := plcF_lt hp
  have hbl := hb.len
  have zp : ps.length < sizeLine := small (m := 1000) hps
  have hc := hb.subl (cut1_sub b k)
  have tn := shelf_turned b (cut1 b k) (ps ++ [b]) hb hc
  have p1 : (sIf (tV (o2 isS (oNm 3) (oC .none))) (sRaise 7) sNil) [some (true, shl b ps), some (false, .val (.str w)), some (true, .lst (ts.map .str)), some (false, .val (.int (k : Int)))] = .nx [some (true, shl b ps), some (false, .val (.str w)), some (true, .lst (ts.map .str)), some (false, .val (.int (k : Int)))] := by simp
  have p2 : (sFldApp 9 0 "past" "now") [some (true, shl b ps), some (false, .val (.str w)), some (true, .lst (ts.map .str)), some (false, .val (.int (k : Int)))] = .nx [some (true, shl b (ps ++ [b])), some (false, .val (.str w)), some (true, .lst (ts.map .str)), some (false, .val (.int (k : Int)))] := by
    simp [-List.map_map, zp, sh_fold]
  have z : min k b.length + (b.length - (k + 1)) ≤ sizeLine := Nat.le_of_lt (small (m := 300) (by omega))
  have ecut : b.take k ++ b.drop (k + 1) = cut1 b k := rfl
  rw [f_Shelf_take_2, runF_fin, s0, b_Shelf_take_2, sq_nx p0, sq_nx p1, sq_nx p2]
  simp [-List.map_map, slS_bkN, slS_bkP, addS_bk2, z, ecut, tn]
end Eng
/-! Law k51: the look at a turn; the look at the shelf. -/
namespace Eng
open PySem PySem.Spec L2 SX
open PyProof.Rows hiding St

theorem sYngP_go {i : Nat} {mid rest : SS} {ρ ρ3 : En} {d0 d1 : List D} (h : ρ[i]? = some (some (true, .yng (.tuple [.list d0, .list d1]) none))) (hl : d0.length < 1000 ∧ d1.length < 1000) (hm : mid (ρ.set i (some (true, .val (.tuple [.list d0, .list d1])))) = .nx ρ3)
    (hk : ρ3[i]? = some (some (true, .val (.tuple [.list d0, .list d1]))) ∧ lfE (ρ3.set i none) = true) : sYngP i mid rest ρ = rest (ρ3.set i (some (true, .junk))) := by
  unfold sYngP
  rw [h]
  simp only
  rw [if_pos hl, hm]
  simp only
  rw [if_pos hk]
/-- the look at a turn -/
theorem l_turn_right_2_eq (xs ys : List Str) (hx : ∀ w ∈ xs, WW w) (hy : ∀ w ∈ ys, WW w) (lx : xs.length ≤ 200) (ly : ys.length ≤ 200) : f_l_turn_right_2 [.yng (.tuple [eL (wos ys xs), eL (wos xs ys)]) none, .lst (xs.map .str), .lst (ys.map .str)] = .ret (.val (.bool true)) [.junk, .lst (xs.map .str), .lst (ys.map .str)] := by
  have s0 : startE 7 [.yng (.tuple [eL (wos ys xs), eL (wos xs ys)]) none, .lst (xs.map .str), .lst (ys.map .str)] = [some (true, .yng (.tuple [eL (wos ys xs), eL (wos xs ys)]) none), some (true, .lst (xs.map .str)), some (true, .lst (ys.map .str)), none, none, none, none] := rfl
  have wl1 : (wos ys xs).length ≤ 200 := Nat.le_trans (List.length_filter_le _ _) ly
  have wl2 : (wos xs ys).length ≤ 200 := Nat.le_trans (List.length_filter_le _ _) lx
  have W1 : ∀ w ∈ wos ys xs, WW w := fun w h => hy w (List.mem_filter.mp h).1
  have W2 : ∀ w ∈ wos xs ys, WW w := fun w h => hx w (List.mem_filter.mp h).1
  have c1 := lc_if (f := PyData.str) (c := some (2, ys.map .str)) (T := .nm 6) (t := (tV (o2 notinS (oNm 6) (oNm 1)))) (g := oNm 6) (own := [6])
    (ρ := [some (true, .val (.tuple [eL (wos ys xs), eL (wos xs ys)])), some (true, .lst (xs.map .str)), some (true, .lst (ys.map .str)), none, none, none, none]) (fun v => !decide (v ∈ xs)) PyData.str ys (by simp) (by
    intro v hv
    by_cases h : v ∈ xs
    · simp [-List.map_map, lturn_ap, h]
    · simp [-List.map_map, lturn_ap, h])
  have f1 : (ys.filter fun v => !decide (v ∈ xs)) = wos ys xs := rfl
  rw [f1] at c1
  simp [-List.map_map] at c1
  have k1 : c_l_turn_right_2_1 [some (true, .val (.tuple [eL (wos ys xs), eL (wos xs ys)])), some (true, .lst (xs.map .str)), some (true, .lst (ys.map .str)), none, none, none, none] = .ok (.tmp (.lst ((wos ys xs).map .str))) [some (true, .val (.tuple [eL (wos ys xs), eL (wos xs ys)])), some (true, .lst (xs.map .str)), some (true, .lst (ys.map .str)), none, none, none, none] := by
    have nm := lcE_nmT (T := .nm 6) (t := (tV (o2 notinS (oNm 6) (oNm 1)))) (g := oNm 6) (own := [6]) (ρ := [some (true, .val (.tuple [eL (wos ys xs), eL (wos xs ys)])), some (true, .lst (xs.map .str)), some (true, .lst (ys.map .str)), none, none, none, none]) (j := 2) (ds := ys.map .str) (o := .lst (ys.map .str)) rfl
    rw [c_l_turn_right_2_1]
    generalize (wos ys xs).map PyData.str = Y at *
    simp [-List.map_map, nm, c1]
  have c2 := lc_if (f := PyData.str) (c := some (1, xs.map .str)) (T := .nm 6) (t := (tV (o2 notinS (oNm 6) (oNm 2)))) (g := oNm 6) (own := [6])
    (ρ := [some (true, .val (.tuple [eL (wos ys xs), eL (wos xs ys)])), some (true, .lst (xs.map .str)), some (true, .lst (ys.map .str)), some (false, .lst ((wos ys xs).map .str)), none, none, none]) (fun v => !decide (v ∈ ys)) PyData.str xs (by simp) (by
    intro v hv
    by_cases h : v ∈ ys
    · simp [-List.map_map, lturn_ap, h]
    · simp [-List.map_map, lturn_ap, h])
  have f2 : (xs.filter fun v => !decide (v ∈ ys)) = wos xs ys := rfl
  rw [f2] at c2
  simp [-List.map_map] at c2
  have k2 : c_l_turn_right_2_2 [some (true, .val (.tuple [eL (wos ys xs), eL (wos xs ys)])), some (true, .lst (xs.map .str)), some (true, .lst (ys.map .str)), some (false, .lst ((wos ys xs).map .str)), none, none, none] = .ok (.tmp (.lst ((wos xs ys).map .str))) [some (true, .val (.tuple [eL (wos ys xs), eL (wos xs ys)])), some (true, .lst (xs.map .str)), some (true, .lst (ys.map .str)), some (false, .lst ((wos ys xs).map .str)), none, none, none] := by
    have nm := lcE_nmT (T := .nm 6) (t := (tV (o2 notinS (oNm 6) (oNm 2)))) (g := oNm 6) (own := [6]) (ρ := [some (true, .val (.tuple [eL (wos ys xs), eL (wos xs ys)])), some (true, .lst (xs.map .str)), some (true, .lst (ys.map .str)), some (false, .lst ((wos ys xs).map .str)), none, none, none]) (j := 1) (ds := xs.map .str) (o := .lst (xs.map .str)) rfl
    rw [c_l_turn_right_2_2]
    generalize (wos xs ys).map PyData.str = Y at *
    simp [-List.map_map, nm, c2]
  have g1 := Gd.eq (a := .val (eL (wos ys xs))) (b := .lst ((wos ys xs).map .str)) rfl rfl (Gd.strs W1) (by omega)
  have g2 := Gd.eq (a := .val (eL (wos xs ys))) (b := .lst ((wos xs ys).map .str)) rfl rfl (Gd.strs W2) (by omega)
  have i0 : isiS "list" (.val (eL (wos ys xs))) = some (.val (.bool true)) := rfl
  have i1 : isiS "list" (.val (eL (wos xs ys))) = some (.val (.bool true)) := rfl
  have q1 : (sIf (tOrC (tNotC (tV (o1 (isiS "tuple") (oNm 0)))) (tOrC (tV (o2 neS (o1 lenS (oNm 0)) (oC (.int 2)))) (tNotC (tV (o1 (isiS "list") (o2 ixS (oNm 0) (oC (.int 0)))))))) (sRet (oC (.bool false))) sNil) [some (true, .val (.tuple [eL (wos ys xs), eL (wos xs ys)])), some (true, .lst (xs.map .str)), some (true, .lst (ys.map .str)), none, none, none, none] = .nx [some (true, .val (.tuple [eL (wos ys xs), eL (wos xs ys)])), some (true, .lst (xs.map .str)), some (true, .lst (ys.map .str)), none, none, none, none] := by
    have it : isiS "tuple" (.val (.tuple [eL (wos ys xs), eL (wos xs ys)])) = some (.val (.bool true)) := rfl
    have ln : lenS (.val (.tuple [eL (wos ys xs), eL (wos xs ys)])) = some (.val (.int 2)) := rfl
    have x0 : ixS (.val (.tuple [eL (wos ys xs), eL (wos xs ys)])) (.val (.int 0)) = some (.val (eL (wos ys xs))) := rfl
    generalize eL (wos ys xs) = A at *
    generalize eL (wos xs ys) = B at *
    simp [-List.map_map, it, ln, x0, i0]
  have q2 : (sAsg 3 (c_l_turn_right_2_1)) [some (true, .val (.tuple [eL (wos ys xs), eL (wos xs ys)])), some (true, .lst (xs.map .str)), some (true, .lst (ys.map .str)), none, none, none, none] = .nx [some (true, .val (.tuple [eL (wos ys xs), eL (wos xs ys)])), some (true, .lst (xs.map .str)), some (true, .lst (ys.map .str)), some (false, .lst ((wos ys xs).map .str)), none, none, none] := by
    generalize (wos ys xs).map PyData.str = A at *
    generalize eL (wos ys xs) = A1 at *
    generalize eL (wos xs ys) = B1 at *
    simp [-List.map_map, k1]
  have q3 : (sAsg 4 (c_l_turn_right_2_2)) [some (true, .val (.tuple [eL (wos ys xs), eL (wos xs ys)])), some (true, .lst (xs.map .str)), some (true, .lst (ys.map .str)), some (false, .lst ((wos ys xs).map .str)), none, none, none] = .nx [some (true, .val (.tuple [eL (wos ys xs), eL (wos xs ys)])), some (true, .lst (xs.map .str)), some (true, .lst (ys.map .str)), some (false, .lst ((wos ys xs).map .str)), some (false, .lst ((wos xs ys).map .str)), none, none] := by
    generalize (wos ys xs).map PyData.str = A at *
    generalize (wos xs ys).map PyData.str = B at *
    generalize eL (wos ys xs) = A1 at *
    generalize eL (wos xs ys) = B1 at *
    simp [-List.map_map, k2]
  have q4 : (sAsg 5 (oAnd (o1 (isiS "list") (o2 ixS (oNm 0) (oC (.int 1)))) (oAnd (o2 eqS (o2 ixS (oNm 0) (oC (.int 0))) (oNm 3)) (o2 eqS (o2 ixS (oNm 0) (oC (.int 1))) (oNm 4))))) [some (true, .val (.tuple [eL (wos ys xs), eL (wos xs ys)])), some (true, .lst (xs.map .str)), some (true, .lst (ys.map .str)), some (false, .lst ((wos ys xs).map .str)), some (false, .lst ((wos xs ys).map .str)), none, none] = .nx [some (true, .val (.tuple [eL (wos ys xs), eL (wos xs ys)])), some (true, .lst (xs.map .str)), some (true, .lst (ys.map .str)), some (false, .lst ((wos ys xs).map .str)), some (false, .lst ((wos xs ys).map .str)), some (false, .val (.bool true)), none] := by
    have x0 : ixS (.val (.tuple [eL (wos ys xs), eL (wos xs ys)])) (.val (.int 0)) = some (.val (eL (wos ys xs))) := rfl
    have x1 : ixS (.val (.tuple [eL (wos ys xs), eL (wos xs ys)])) (.val (.int 1)) = some (.val (eL (wos xs ys))) := rfl
    generalize (wos ys xs).map PyData.str = A at *
    generalize (wos xs ys).map PyData.str = B at *
    generalize eL (wos ys xs) = A1 at *
    generalize eL (wos xs ys) = B1 at *
    simp [-List.map_map, x0, x1, i1, g1, g2]
  have lk : lfE ([some (true, .val (.tuple [eL (wos ys xs), eL (wos xs ys)])), some (true, .lst (xs.map .str)), some (true, .lst (ys.map .str)), some (false, .lst ((wos ys xs).map .str)), some (false, .lst ((wos xs ys).map .str)), some (false, .val (.bool true)), none].set 0 none) = true := by
    unfold lfE
    have h1 := lfP_lstS xs
    have h2 := lfP_lstS ys
    have h3 := lfP_lstS (wos ys xs)
    have h4 := lfP_lstS (wos xs ys)
    have h5 : lfP (.val (.bool true)) = true := by simp [lfP]
    simp only [List.set_cons_zero, List.all_cons, List.all_nil, h1, h2, h3, h4, h5, Bool.and_self]
  have len : ((wos ys xs).map PyData.str).length < 1000 ∧ ((wos xs ys).map PyData.str).length < 1000 := by
    rw [List.length_map, List.length_map]
    omega
  have md : (sSeq (sIf (tOrC (tNotC (tV (o1 (isiS "tuple") (oNm 0)))) (tOrC (tV (o2 neS (o1 lenS (oNm 0)) (oC (.int 2)))) (tNotC (tV (o1 (isiS "list") (o2 ixS (oNm 0) (oC (.int 0)))))))) (sRet (oC (.bool false))) sNil) (sSeq (sAsg 3 (c_l_turn_right_2_1)) (sSeq (sAsg 4 (c_l_turn_right_2_2)) (sSeq (sAsg 5 (oAnd (o1 (isiS "list") (o2 ixS (oNm 0) (oC (.int 1)))) (oAnd (o2 eqS (o2 ixS (oNm 0) (oC (.int 0))) (oNm 3)) (o2 eqS (o2 ixS (oNm 0) (oC (.int 1))) (oNm 4))))) sNil)))) [some (true, .val (.tuple [eL (wos ys xs), eL (wos xs ys)])), some (true, .lst (xs.map .str)), some (true, .lst (ys.map .str)), none, none, none, none] = .nx [some (true, .val (.tuple [eL (wos ys xs), eL (wos xs ys)])), some (true, .lst (xs.map .str)), some (true, .lst (ys.map .str)), some (false, .lst ((wos ys xs).map .str)), some (false, .lst ((wos xs ys).map .str)), some (false, .val (.bool true)), none] := by
    rw [sq_nx q1, sq_nx q2, sq_nx q3, sq_nx q4]
    rfl
  have go : b_l_turn_right_2 [some (true, .yng (.tuple [eL (wos ys xs), eL (wos xs ys)]) none), some (true, .lst (xs.map .str)), some (true, .lst (ys.map .str)), none, none, none, none] = .rt (.val (.bool true)) [some (true, .junk), some (true, .lst (xs.map .str)), some (true, .lst (ys.map .str)), some (false, .lst ((wos ys xs).map .str)), some (false, .lst ((wos xs ys).map .str)), some (false, .val (.bool true)), none] := by
    rw [b_l_turn_right_2]
    exact (sYngP_go (d0 := (wos ys xs).map PyData.str) (d1 := (wos xs ys).map PyData.str) rfl len md ⟨rfl, lk⟩).trans rfl
  rw [f_l_turn_right_2, runF_fin, s0, go]
  rfl
theorem l_right_12_eq (b : List Row) (ps : List (List Row)) (hb : Bo b) : f_l_right_12 [shl b ps, .val (eB b), .lst (ps.map eB)] = .ret (.val (.bool true)) [shl b ps, .val (eB b), .lst (ps.map eB)] := by
  have s0 : startE 7 [shl b ps, .val (eB b), .lst (ps.map eB)] = [some (true, shl b ps), some (false, .val (eB b)), some (true, .lst (ps.map eB)), none, none, none, none] := rfl
  have bo := shelf_book b ps
  have de := shelf_deeds b ps
  have le := shelf_learnt b ps hb
  have ll := l_learnt_2_li b hb
  have nb := (Gd.ne (a := .val (eBk b)) (b := .val (eBk b)) rfl rfl (Gd.bk hb) (by omega))
  have nl := (Gd.ne (a := .lst ((lrn b).map .str)) (b := .lst ((lrn b).map .str)) rfl rfl (Gd.strs (lrn_WW hb)) (by omega))
  have q1 : (sAsg 3 (oMeth 9 0 "book" f_Shelf_book [])) [some (true, shl b ps), some (false, .val (eB b)), some (true, .lst (ps.map eB)), none, none, none, none] = .nx [some (true, shl b ps), some (false, .val (eB b)), some (true, .lst (ps.map eB)), some (false, .val (eBk b)), none, none, none] := by
    simp [-List.map_map, bo]
  have q2 : (sIf (tOrC (tNotC (tV (o1 (isiS "tuple") (oNm 3)))) (tV (o2 neS (oNm 3) (o1 tupleS (oNm 1))))) (sRet (oC (.bool false))) sNil) [some (true, shl b ps), some (false, .val (eB b)), some (true, .lst (ps.map eB)), some (false, .val (eBk b)), none, none, none] = .nx [some (true, shl b ps), some (false, .val (eB b)), some (true, .lst (ps.map eB)), some (false, .val (eBk b)), none, none, none] := by
    have it : isiS "tuple" (.val (eBk b)) = some (.val (.bool true)) := rfl
    simp [-List.map_map, -tupleS_ap, it, nb]
  have fo := forL_same (f := eRow) (T := .nm 4) (fg := [4]) (b := w_l_right_12_1) (ρ := [some (true, shl b ps), some (false, .val (eB b)), some (true, .lst (ps.map eB)), some (false, .val (eBk b)), none, none, none]) b (by
    intro r hr
    have it1 : isiS "tuple" (.val (eRow r)) = some (.val (.bool true)) := rfl
    have it2 : isiS "tuple" (.val (eW r.2)) = some (.val (.bool true)) := rfl
    simp [-List.map_map, turn_ap, w_l_right_12_1, it1, it2])
  have it3 : itSeq [some (true, shl b ps), some (false, .val (eB b)), some (true, .lst (ps.map eB)), some (false, .val (eBk b)), none, none, none] (.nm 3) = .ok (none, b.map eRow) [some (true, shl b ps), some (false, .val (eB b)), some (true, .lst (ps.map eB)), some (false, .val (eBk b)), none, none, none] := rfl
  have q3 : (sFor (iSeq (oNm 3)) (.nm 4) [4] w_l_right_12_1) [some (true, shl b ps), some (false, .val (eB b)), some (true, .lst (ps.map eB)), some (false, .val (eBk b)), none, none, none] = .nx [some (true, shl b ps), some (false, .val (eB b)), some (true, .lst (ps.map eB)), some (false, .val (eBk b)), none, none, none] := by
    simp [-List.map_map, it3, fo]
  have q4 : (sAsg 5 (oMeth 9 0 "learnt_now" f_Shelf_learnt_now [])) [some (true, shl b ps), some (false, .val (eB b)), some (true, .lst (ps.map eB)), some (false, .val (eBk b)), none, none, none] = .nx [some (true, shl b ps), some (false, .val (eB b)), some (true, .lst (ps.map eB)), some (false, .val (eBk b)), none, some (false, .lst ((lrn b).map .str)), none] := by
    simp [-List.map_map, le]
  have q5 : (sIf (tOrC (tNotC (tV (o1 (isiS "list") (oNm 5)))) (tV (o2 neS (oNm 5) (oCall f_l_learnt_2 (oAs [oNm 1]))))) (sRet (oC (.bool false))) sNil) [some (true, shl b ps), some (false, .val (eB b)), some (true, .lst (ps.map eB)), some (false, .val (eBk b)), none, some (false, .lst ((lrn b).map .str)), none] = .nx [some (true, shl b ps), some (false, .val (eB b)), some (true, .lst (ps.map eB)), some (false, .val (eBk b)), none, some (false, .lst ((lrn b).map .str)), none] := by
    have it : isiS "list" (.lst ((lrn b).map .str)) = some (.val (.bool true)) := rfl
    simp [-List.map_map, it, ll, nl]
  have lz : ((lrn b).map PyData.str).length < sizeLine := by
    rw [List.length_map]
    have := lrn_len hb
    exact small (m := 1000) (by omega)
  have ap : appS (.lst ((lrn b).map .str)) [.str (Str.ofString "x")] = some (.lst ((lrn b).map .str ++ [.str (Str.ofString "x")]), .none) := by
    rw [appS_ap, if_pos lz]
  have q6 : (sExpr (oMutA appS 5 (oAs [oC (.str "x")]))) [some (true, shl b ps), some (false, .val (eB b)), some (true, .lst (ps.map eB)), some (false, .val (eBk b)), none, some (false, .lst ((lrn b).map .str)), none] = .nx [some (true, shl b ps), some (false, .val (eB b)), some (true, .lst (ps.map eB)), some (false, .val (eBk b)), none, some (false, .lst ((lrn b).map .str ++ [.str (Str.ofString "x")])), none] := by
    simp [-List.map_map, -appS_ap, ap]
  have q7 : (sAsg 6 (oMeth 9 0 "deeds" f_Shelf_deeds [])) [some (true, shl b ps), some (false, .val (eB b)), some (true, .lst (ps.map eB)), some (false, .val (eBk b)), none, some (false, .lst ((lrn b).map .str ++ [.str (Str.ofString "x")])), none] = .nx [some (true, shl b ps), some (false, .val (eB b)), some (true, .lst (ps.map eB)), some (false, .val (eBk b)), none, some (false, .lst ((lrn b).map .str ++ [.str (Str.ofString "x")])), some (false, .val (.int (ps.length : Int)))] := by
    simp [-List.map_map, de]
  rw [f_l_right_12, runF_fin, s0, b_l_right_12, sq_nx q1, sq_nx q2, sq_nx q3, sq_nx q4, sq_nx q5, sq_nx q6, sq_nx q7]
  have i1 : isiS "int" (.val (.int (ps.length : Int))) = some (.val (.bool true)) := rfl
  have i2 : isiS "bool" (.val (.int (ps.length : Int))) = some (.val (.bool false)) := rfl
  have ln : lenS (.lst (ps.map eB)) = some (.val (.int (ps.length : Int))) := by
    rw [lenS_lst, List.length_map]
  simp [-List.map_map, -lenS_lst, i1, i2, ln]
end Eng
/-! Law k51: a deed. -/
namespace Eng
open PySem PySem.Spec L2 SX
open PyProof.Rows hiding St

theorem ne_of_eqS5 {a b : O} {k : Bool} (h : eqS a b = some (.val (.bool k))) : neS a b = some (.val (.bool (!k))) := by
  unfold eqS at h
  unfold neS
  cases ea : a.view? with
  | none => rw [ea] at h; cases h
  | some d =>
    rw [ea] at h
    cases eb : b.view? with
    | none => rw [eb] at h; cases h
    | some e =>
      rw [eb] at h
      simp only at h ⊢
      cases ec : eqD? d e with
      | none => rw [ec] at h; cases h
      | some q =>
        rw [ec] at h
        simp only [Option.map_some, Option.some.injEq, O.val.injEq, PyData.bool.injEq] at h
        rw [h]
        rfl
structure Ts (nm : List Str) (n : Nat) (b : List Row) (ps : List (List Row)) : Prop where
  now : Bk nm n b
  past : ∀ c ∈ ps, Bk nm n c
  len : ps.length ≤ n
theorem Ts.mono {nm : List Str} {n m : Nat} {b : List Row} {ps : List (List Row)} (h : Ts nm n b ps) (hm : n ≤ m) : Ts nm m b ps := ⟨h.now.mono hm, fun c hc => (h.past c hc).mono hm, by have := h.len; omega⟩
theorem Ts.put {nm : List Str} {n : Nat} {b c : List Row} {ps : List (List Row)} (h : Ts nm n b ps) (hc : Bk nm (n + 1) c) : Ts nm (n + 1) c (ps ++ [b]) := ⟨hc, fun d hd => by
  rcases List.mem_append.mp hd with hd | hd
  · exact (h.past d hd).mono (by omega)
  · rw [List.mem_singleton.mp hd]; exact h.now.mono (by omega), by have := h.len; simp; omega⟩
theorem Ts.back {nm : List Str} {n : Nat} {b c : List Row} {ps : List (List Row)} (h : Ts nm n b (ps ++ [c])) : Ts nm n c ps := ⟨h.past c (by simp), fun d hd => h.past d (by simp [hd]), by have := h.len; simp at this; omega⟩
theorem deed_back (x1 x2 : Sl) (bt : List Int) (nm : List Str) (hW : ∀ w ∈ nm, WW w) (n : Nat) (hn : n ≤ 100) (b c : List Row) (qs : List (List Row)) (h : Ts nm n b (qs ++ [c])) (w : Str) (ts : List Str) : (sSeq (sAsg 9 (oMut0 popS 4)) (sRet (oTupY (oMethY 9 0 "back" f_Shelf_back []) (oNm 9)))) [some (true, shl b (qs ++ [c])), some (true, .lst (bt.map .int)), some (true, .lst (nm.map .str)), some (false, .val (eB b)), some (true, .lst ((qs ++ [c]).map eB)), some (false, .val (eRow (w, ts))), some (false, .val (.int (dat bt 11 % 8))), none, none, none, none, none, none] = .rt (.yng (turnD b c) (some (eB c))) [some (true, shl c qs), some (true, .lst (bt.map .int)), some (true, .lst (nm.map .str)), some (false, .val (eB b)), some (true, .lst (qs.map eB)), some (false, .val (eRow (w, ts))), some (false, .val (.int (dat bt 11 % 8))), none, none, some (false, .val (eB c)), none, none, none] := by
  have hb := h.now.bo (by omega) hW
  have hc := (h.past c (by simp)).bo (by omega) hW
  have hq : ∀ d ∈ qs, Bo d := fun d hd => (h.past d (by simp [hd])).bo (by omega) hW
  have po := popS_eB qs c
  have sb := shelf_back b c qs hb hc hq
  have sb : f_Shelf_back [shl b (qs ++ [c])] = .ret (.val (.tuple [eL (wos (lrn c) (lrn b)), eL (wos (lrn b) (lrn c))])) [shl c qs] := sb
  have tE : turnD b c = .tuple [eL (wos (lrn c) (lrn b)), eL (wos (lrn b) (lrn c))] := rfl
  have l1 := lfP_shl b (qs ++ [c])
  have l2 := lfP_shl c qs
  have q1 : (sAsg 9 (oMut0 popS 4)) [some (true, shl b (qs ++ [c])), some (true, .lst (bt.map .int)), some (true, .lst (nm.map .str)), some (false, .val (eB b)), some (true, .lst ((qs ++ [c]).map eB)), some (false, .val (eRow (w, ts))), some (false, .val (.int (dat bt 11 % 8))), none, none, none, none, none, none] = .nx [some (true, shl b (qs ++ [c])), some (true, .lst (bt.map .int)), some (true, .lst (nm.map .str)), some (false, .val (eB b)), some (true, .lst (qs.map eB)), some (false, .val (eRow (w, ts))), some (false, .val (.int (dat bt 11 % 8))), none, none, some (false, .val (eB c)), none, none, none] := by
    generalize eB c = EC at *
    simp [-List.map_map, -List.map_append, po]
  rw [sq_nx q1, tE]
  generalize eL (wos (lrn c) (lrn b)) = A at *
  generalize eL (wos (lrn b) (lrn c)) = B at *
  generalize eB c = EC at *
  simp [-List.map_map, -List.map_append, sb, l1, l2]

theorem deed_take (bt : List Int) (hbt : Dr 14 bt) (nm : List Str) (hW : ∀ w ∈ nm, WW w) (n : Nat) (hn : n ≤ 100) (b : List Row) (ps : List (List Row)) (h : Ts nm n b ps) (hne : b ≠ []) (w : Str) (ts : List Str) : ∃ (j : Nat) (x10 x11 x12 : Sl), (sSeq (sAsg 10 (o2 modS (o2 ixS (oNm 1) (oC (.int 12))) (o1 lenS (oNm 3))))
    (sSeq (sAsg 11 (o1 listS (o2 ixS (o2 ixS (oNm 3) (oNm 10)) (oC (.int 1)))))
    (sSeq (sAsg 12 (o2 modS (o2 ixS (oNm 1) (oC (.int 13))) (o2 addS (o1 lenS (oNm 11)) (oC (.int 1)))))
    (sSeq (sExpr (oMutA appS 4 (oAs [oNm 3])))
    (sRet (oTupY (oMethY 9 0 "take" f_Shelf_take_2 [o2 ixS (o2 ixS (oNm 3) (oNm 10)) (oC (.int 0)), o1 listRevS (o2 addS (oSl (oNm 11) (oPart (oNm 12)) oNoPart) (oSl (oNm 11) oNoPart (oPart (oNm 12))))]) (o2 addS (oSl (oNm 3) oNoPart (oPart (oNm 10))) (oSl (oNm 3) (oPart (o2 addS (oNm 10) (oC (.int 1)))) oNoPart)))))))) [some (true, shl b ps), some (true, .lst (bt.map .int)), some (true, .lst (nm.map .str)), some (false, .val (eB b)), some (true, .lst (ps.map eB)), some (false, .val (eRow (w, ts))), some (false, .val (.int (dat bt 11 % 8))), none, none, none, none, none, none] = .rt (.yng (turnD b (cut1 b j)) (some (eB (cut1 b j)))) [some (true, shl (cut1 b j) (ps ++ [b])), some (true, .lst (bt.map .int)), some (true, .lst (nm.map .str)), some (false, .val (eB b)), some (true, .lst ((ps ++ [b]).map eB)), some (false, .val (eRow (w, ts))), some (false, .val (.int (dat bt 11 % 8))), none, none, none, x10, x11, x12] := by
  have hbo := h.now.bo (by omega) hW
  obtain ⟨a12, b12, u12⟩ := hbt.at 12 (by omega) (by omega)
  obtain ⟨a13, b13, u13⟩ := hbt.at 13 (by omega) (by omega)
  have hp : 0 < b.length := List.length_pos_iff.mpr hne
  have hpi : (0 : Int) < b.length := by omega
  obtain ⟨j, hj⟩ : ∃ j : Nat, dat bt 12 % (b.length : Int) = (j : Int) := ⟨(dat bt 12 % (b.length : Int)).toNat, by have := Int.emod_nonneg (dat bt 12) (show (b.length : Int) ≠ 0 by omega); omega⟩
  have hj2 : j < b.length := by have := Int.emod_lt_of_pos (dat bt 12) hpi; omega
  obtain ⟨s, gs⟩ : ∃ s, b[j]? = some s := ⟨_, List.getElem?_eq_getElem hj2⟩
  have hs := List.mem_of_getElem? gs
  have h8 := (h.now.row s hs).r8 hW
  have s8 := h8.2.1
  obtain ⟨m, hm⟩ : ∃ m : Nat, dat bt 13 % ((s.2.length + 1 : Nat) : Int) = (m : Int) := ⟨(dat bt 13 % ((s.2.length + 1 : Nat) : Int)).toNat, by have := Int.emod_nonneg (dat bt 13) (show ((s.2.length + 1 : Nat) : Int) ≠ 0 by omega); omega⟩
  refine ⟨j, some (false, .val (.int (j : Int))), some (false, .lst (s.2.map .str)), some (false, .val (.int (m : Int))), ?_⟩
  have ixs : ixS (.val (eB b)) (.val (.int (j : Int))) = some (.val (eRow s)) := by
    show (atI (b.map eRow) (j : Int)).map O.val = _
    rw [atI_nat' _ _ (by omega) (by rw [List.length_map]; omega), List.getElem?_map]
    rw [show ((j : Int)).toNat = j by omega, gs]
    rfl
  have lsS : listS (.val (eW s.2)) = some (.lst (s.2.map .str)) := rfl
  have lB : lenS (.val (eB b)) = some (.val (.int (b.length : Int))) := lenS_eB b
  have m12 : modS (.val (.int (dat bt 12))) (.val (.int (b.length : Int))) = some (.val (.int (j : Int))) := by rw [modS_int, if_pos hpi, hj]
  have q1 : (sAsg 10 (o2 modS (o2 ixS (oNm 1) (oC (.int 12))) (o1 lenS (oNm 3)))) [some (true, shl b ps), some (true, .lst (bt.map .int)), some (true, .lst (nm.map .str)), some (false, .val (eB b)), some (true, .lst (ps.map eB)), some (false, .val (eRow (w, ts))), some (false, .val (.int (dat bt 11 % 8))), none, none, none, none, none, none] = .nx [some (true, shl b ps), some (true, .lst (bt.map .int)), some (true, .lst (nm.map .str)), some (false, .val (eB b)), some (true, .lst (ps.map eB)), some (false, .val (eRow (w, ts))), some (false, .val (.int (dat bt 11 % 8))), none, none, none, some (false, .val (.int (j : Int))), none, none] := by
    generalize eB b = EB at *
    generalize (b.length : Int) = LB at *
    generalize (j : Int) = J at *
    simp [-List.map_map, -modS_int, a12, lB, m12]
  have q2 : (sAsg 11 (o1 listS (o2 ixS (o2 ixS (oNm 3) (oNm 10)) (oC (.int 1))))) [some (true, shl b ps), some (true, .lst (bt.map .int)), some (true, .lst (nm.map .str)), some (false, .val (eB b)), some (true, .lst (ps.map eB)), some (false, .val (eRow (w, ts))), some (false, .val (.int (dat bt 11 % 8))), none, none, none, some (false, .val (.int (j : Int))), none, none] = .nx [some (true, shl b ps), some (true, .lst (bt.map .int)), some (true, .lst (nm.map .str)), some (false, .val (eB b)), some (true, .lst (ps.map eB)), some (false, .val (eRow (w, ts))), some (false, .val (.int (dat bt 11 % 8))), none, none, none, some (false, .val (.int (j : Int))), some (false, .lst (s.2.map .str)), none] := by
    have x1 : ixS (.val (eRow s)) (.val (.int 1)) = some (.val (eW s.2)) := rfl
    generalize eB b = EB at *
    generalize (j : Int) = J at *
    generalize eRow s = ES at *
    generalize eW s.2 = EW at *
    simp [-List.map_map, -listS_ap, ixs, x1, lsS]
  have m13 : modS (.val (.int (dat bt 13))) (.val (.int ((s.2.length + 1 : Nat) : Int))) = some (.val (.int (m : Int))) := by rw [modS_int, if_pos (by omega), hm]
  have l11 : lenS (.lst (s.2.map .str)) = some (.val (.int (s.2.length : Int))) := by rw [lenS_lst, List.length_map]
  have ad1 : addS (.val (.int (s.2.length : Int))) (.val (.int 1)) = some (.val (.int ((s.2.length + 1 : Nat) : Int))) := by
    show some (O.val (.int ((s.2.length : Int) + 1))) = _
    congr 3
  have q3 : (sAsg 12 (o2 modS (o2 ixS (oNm 1) (oC (.int 13))) (o2 addS (o1 lenS (oNm 11)) (oC (.int 1))))) [some (true, shl b ps), some (true, .lst (bt.map .int)), some (true, .lst (nm.map .str)), some (false, .val (eB b)), some (true, .lst (ps.map eB)), some (false, .val (eRow (w, ts))), some (false, .val (.int (dat bt 11 % 8))), none, none, none, some (false, .val (.int (j : Int))), some (false, .lst (s.2.map .str)), none] = .nx [some (true, shl b ps), some (true, .lst (bt.map .int)), some (true, .lst (nm.map .str)), some (false, .val (eB b)), some (true, .lst (ps.map eB)), some (false, .val (eRow (w, ts))), some (false, .val (.int (dat bt 11 % 8))), none, none, none, some (false, .val (.int (j : Int))), some (false, .lst (s.2.map .str)), some (false, .val (.int (m : Int)))] := by
    generalize ((s.2.length + 1 : Nat) : Int) = S1 at *
    generalize (s.2.length : Int) = S0 at *
    generalize (m : Int) = M at *
    generalize (j : Int) = J at *
    generalize s.2.map PyData.str = SS at *
    generalize eB b = EB at *
    simp [-List.map_map, -modS_int, -addS_int, -lenS_lst, a13, l11, ad1, m13]
  have ap := app_eB ps b (by have := h.len; omega)
  have q4 : (sExpr (oMutA appS 4 (oAs [oNm 3]))) [some (true, shl b ps), some (true, .lst (bt.map .int)), some (true, .lst (nm.map .str)), some (false, .val (eB b)), some (true, .lst (ps.map eB)), some (false, .val (eRow (w, ts))), some (false, .val (.int (dat bt 11 % 8))), none, none, none, some (false, .val (.int (j : Int))), some (false, .lst (s.2.map .str)), some (false, .val (.int (m : Int)))] = .nx [some (true, shl b ps), some (true, .lst (bt.map .int)), some (true, .lst (nm.map .str)), some (false, .val (eB b)), some (true, .lst ((ps ++ [b]).map eB)), some (false, .val (eRow (w, ts))), some (false, .val (.int (dat bt 11 % 8))), none, none, none, some (false, .val (.int (j : Int))), some (false, .lst (s.2.map .str)), some (false, .val (.int (m : Int)))] := by
    generalize s.2.map PyData.str = SS at *
    generalize eB b = EB at *
    simp [-List.map_map, -List.map_append, -appS_ap, ap]
  rw [sq_nx q1, sq_nx q2, sq_nx q3, sq_nx q4]
  -- the row, told turned about
  obtain ⟨T, hT⟩ : ∃ T, T = (s.2.drop m ++ s.2.take m).reverse := ⟨_, rfl⟩
  have pm : T.Perm s.2 := by
    rw [hT]
    refine (List.reverse_perm _).trans (List.perm_append_comm.trans ?_)
    rw [List.take_append_drop]
  have nd : s.2.Nodup := h8.2.2.1
  have eS : sortT s.2 = sortT T := sortT_ext nd (pm.nodup_iff.mpr nd) fun v => pm.mem_iff.symm
  obtain ⟨K0, pk, gk, cf⟩ := plc_of h.now.key hs (alk_refl s eS)
  have bnd : b.Nodup := (List.pairwise_map.mp h.now.key).imp fun hab e => hab (congrArg keyR e)
  have ec : cut1 b K0 = cut1 b j := cf.trans (cut_filter bnd gs).symm
  have tk := shelf2_take b ps hbo (by have := h.len; omega) s.1 T (h8.rt (ts := T) (by rw [pm.length_eq]; exact s8) fun v hv => pm.mem_iff.mp hv) K0 pk
  rw [ec] at tk
  have tk : f_Shelf_take_2 [shl b ps, .val (.str s.1), .lst (T.map .str)] = .ret (.val (.tuple [eL (wos (lrn (cut1 b j)) (lrn b)), eL (wos (lrn b) (lrn (cut1 b j)))])) [shl (cut1 b j) (ps ++ [b]), .val (.str s.1), .lst (T.map .str)] := tk
  have tE : turnD b (cut1 b j) = .tuple [eL (wos (lrn (cut1 b j)) (lrn b)), eL (wos (lrn b) (lrn (cut1 b j)))] := rfl
  have sA : slS (some (m : Int)) none (.lst (s.2.map PyData.str)) = some (.lst ((s.2.drop m).map .str)) := by rw [slS_lst, cutA_from', List.map_drop]
  have sB : slS none (some (m : Int)) (.lst (s.2.map PyData.str)) = some (.lst ((s.2.take m).map .str)) := by rw [slS_lst, cutA_pre, List.map_take]
  have ll2 : (s.2.drop m).length + (s.2.take m).length ≤ 100 := by rw [List.length_drop, List.length_take]; omega
  have sC : addS (.lst ((s.2.drop m).map .str)) (.lst ((s.2.take m).map .str)) = some (.lst ((s.2.drop m ++ s.2.take m).map .str)) := by
    rw [addS_ll, if_pos (small3 (by rw [List.length_map, List.length_map]; omega)), List.map_append]
  have rv : listRevS (.lst ((s.2.drop m ++ s.2.take m).map .str)) = some (.lst (T.map .str)) := by
    rw [hT, List.map_reverse]
    rfl
  have x0 : ixS (.val (eRow s)) (.val (.int 0)) = some (.val (.str s.1)) := rfl
  have hbl := hbo.len
  have sD : slS none (some (j : Int)) (.val (eB b)) = some (.lst ((b.take j).map eRow)) := by
    show some (O.lst (cutA (b.map eRow) none (some (j : Int)))) = _
    rw [cutA_pre, List.map_take]
  have sE : slS (some ((j : Int) + 1)) none (.val (eB b)) = some (.lst ((b.drop (j + 1)).map eRow)) := by
    show some (O.lst (cutA (b.map eRow) (some ((j : Int) + 1)) none)) = _
    rw [cutA_post, List.map_drop]
  have sF : addS (.lst ((b.take j).map eRow)) (.lst ((b.drop (j + 1)).map eRow)) = some (.lst ((cut1 b j).map eRow)) := by
    rw [addS_ll, if_pos (small3 (by rw [List.length_map, List.length_map, List.length_take, List.length_drop]; omega)), ← List.map_append]
    rfl
  have eC : PyData.list ((cut1 b j).map eRow) = eB (cut1 b j) := rfl
  have k1 : addS (.val (.int (j : Int))) (.val (.int 1)) = some (.val (.int ((j : Int) + 1))) := rfl
  have l1 := lfP_shl b ps
  have l2 := lfP_shl (cut1 b j) (ps ++ [b])
  have l3 := lfP_lstS T
  rw [tE]
  have eC2 := eC
  generalize eL (wos (lrn (cut1 b j)) (lrn b)) = A at *
  generalize eL (wos (lrn b) (lrn (cut1 b j))) = B at *
  generalize eB (cut1 b j) = EC at *
  generalize (cut1 b j).map eRow = RC at *
  generalize (b.take j).map eRow = R1 at *
  generalize (b.drop (j + 1)).map eRow = R2 at *
  generalize (s.2.drop m ++ s.2.take m).map PyData.str = X3 at *
  generalize (s.2.drop m).map PyData.str = X1 at *
  generalize (s.2.take m).map PyData.str = X2 at *
  generalize s.2.map PyData.str = SS at *
  generalize (ps ++ [b]).map eB = PB at *
  generalize eB b = EB at *
  generalize eRow s = ES at *
  generalize T.map PyData.str = TS at *
  generalize (j : Int) + 1 = K1 at *
  generalize (j : Int) = K at *
  generalize (m : Int) = M at *
  simp [-List.map_map, -List.map_append, -addS_ll, -addS_int, -slS_lst, -slS_list, ixs, x0, sA, sB, sC, sD, sE, sF, rv, tk, k1, l1, l2, l3, eC]

theorem deed_put (bt : List Int) (nm : List Str) (hW : ∀ w ∈ nm, WW w) (n : Nat) (hn : n ≤ 59) (b : List Row) (ps : List (List Row)) (h : Ts nm n b ps) (w : Str) (ts : List Str) (hr : Rw nm (w, ts)) (hno : ∀ q ∈ b, alkB q (w, ts) = false) : (sSeq (sExpr (oMutA appS 4 (oAs [oNm 3])))
  (sSeq (sAsg 7 (o1 listS (o2 ixS (oNm 5) (oC (.int 1)))))
  (sSeq (sAsg 8 (oMethY 9 0 "put" f_Shelf_put_3 [o2 ixS (oNm 5) (oC (.int 0)), oNm 7]))
  (sSeq (sExpr (oMutA appS 7 (oAs [oC (.str "x")])))
  (sRet (oTupY (oNm 8) (o2 addS (oNm 3) (oLst (oAs [oNm 5])))))))))  [some (true, shl b ps), some (true, .lst (bt.map .int)), some (true, .lst (nm.map .str)), some (false, .val (eB b)), some (true, .lst (ps.map eB)), some (false, .val (eRow (w, ts))), some (false, .val (.int (dat bt 11 % 8))), none, none, none, none, none, none] = .rt (.yng (turnD b (b ++ [(w, ts)])) (some (eB (b ++ [(w, ts)])))) [some (true, shl (b ++ [(w, ts)]) (ps ++ [b])), some (true, .lst (bt.map .int)), some (true, .lst (nm.map .str)), some (false, .val (eB b)), some (true, .lst ((ps ++ [b]).map eB)), some (false, .val (eRow (w, ts))), some (false, .val (.int (dat bt 11 % 8))), some (false, .lst (ts.map .str ++ [.str (Str.ofString "x")])), none, none, none, none, none] := by
  have hbo := h.now.bo (by omega) hW
  have r8 := hr.r8 hW
  have rt := r8.rt (ts := ts) r8.2.1 (fun _ h => h)
  have hbl := h.now.len
  have ap := app_eB ps b (by have := h.len; omega)
  have q1 : (sExpr (oMutA appS 4 (oAs [oNm 3]))) [some (true, shl b ps), some (true, .lst (bt.map .int)), some (true, .lst (nm.map .str)), some (false, .val (eB b)), some (true, .lst (ps.map eB)), some (false, .val (eRow (w, ts))), some (false, .val (.int (dat bt 11 % 8))), none, none, none, none, none, none] = .nx [some (true, shl b ps), some (true, .lst (bt.map .int)), some (true, .lst (nm.map .str)), some (false, .val (eB b)), some (true, .lst ((ps ++ [b]).map eB)), some (false, .val (eRow (w, ts))), some (false, .val (.int (dat bt 11 % 8))), none, none, none, none, none, none] := by
    generalize eB b = EB at *
    simp [-List.map_map, -List.map_append, -appS_ap, ap]
  have lsr : listS (.val (eW ts)) = some (.lst (ts.map .str)) := rfl
  have q2 : (sAsg 7 (o1 listS (o2 ixS (oNm 5) (oC (.int 1))))) [some (true, shl b ps), some (true, .lst (bt.map .int)), some (true, .lst (nm.map .str)), some (false, .val (eB b)), some (true, .lst ((ps ++ [b]).map eB)), some (false, .val (eRow (w, ts))), some (false, .val (.int (dat bt 11 % 8))), none, none, none, none, none, none] = .nx [some (true, shl b ps), some (true, .lst (bt.map .int)), some (true, .lst (nm.map .str)), some (false, .val (eB b)), some (true, .lst ((ps ++ [b]).map eB)), some (false, .val (eRow (w, ts))), some (false, .val (.int (dat bt 11 % 8))), some (false, .lst (ts.map .str)), none, none, none, none, none] := by
    have x1 : ixS (.val (eRow (w, ts))) (.val (.int 1)) = some (.val (eW ts)) := rfl
    generalize eRow (w, ts) = ER at *
    generalize eW ts = EW at *
    generalize (ps ++ [b]).map eB = PB at *
    simp [-List.map_map, -listS_ap, x1, lsr]
  have pt := shelf2_put b ps hbo (by have := h.len; omega) w ts rt r8.row (plc_none hno) (by omega)
  have pt : f_Shelf_put_3 [shl b ps, .val (.str w), .lst (ts.map .str)] = .ret (.val (.tuple [eL (wos (lrn (b ++ [(w, ts)])) (lrn b)), eL (wos (lrn b) (lrn (b ++ [(w, ts)])))])) [shl (b ++ [(w, ts)]) (ps ++ [b]), .val (.str w), .lst (ts.map .str)] := pt
  have tE : turnD b (b ++ [(w, ts)]) = .tuple [eL (wos (lrn (b ++ [(w, ts)])) (lrn b)), eL (wos (lrn b) (lrn (b ++ [(w, ts)])))] := rfl
  have l1 := lfP_shl b ps
  have l2 := lfP_shl (b ++ [(w, ts)]) (ps ++ [b])
  have l3 := lfP_lstS ts
  have x0 : ixS (.val (eRow (w, ts))) (.val (.int 0)) = some (.val (.str w)) := rfl
  have q3 : (sAsg 8 (oMethY 9 0 "put" f_Shelf_put_3 [o2 ixS (oNm 5) (oC (.int 0)), oNm 7])) [some (true, shl b ps), some (true, .lst (bt.map .int)), some (true, .lst (nm.map .str)), some (false, .val (eB b)), some (true, .lst ((ps ++ [b]).map eB)), some (false, .val (eRow (w, ts))), some (false, .val (.int (dat bt 11 % 8))), some (false, .lst (ts.map .str)), none, none, none, none, none] = .nx [some (true, shl (b ++ [(w, ts)]) (ps ++ [b])), some (true, .lst (bt.map .int)), some (true, .lst (nm.map .str)), some (false, .val (eB b)), some (true, .lst ((ps ++ [b]).map eB)), some (false, .val (eRow (w, ts))), some (false, .val (.int (dat bt 11 % 8))), some (false, .lst (ts.map .str)), some (false, .yng (turnD b (b ++ [(w, ts)])) none), none, none, none, none] := by
    rw [tE]
    generalize eL (wos (lrn (b ++ [(w, ts)])) (lrn b)) = A at *
    generalize eL (wos (lrn b) (lrn (b ++ [(w, ts)]))) = B at *
    generalize eRow (w, ts) = ER at *
    generalize ts.map PyData.str = TS at *
    generalize (ps ++ [b]).map eB = PB at *
    generalize b ++ [(w, ts)] = B2 at *
    generalize ps ++ [b] = P2 at *
    simp [-List.map_map, -List.map_append, x0, pt, l1, l2, l3]
  have tz : (ts.map PyData.str).length < sizeLine := by
    rw [List.length_map]
    have := r8.2.1
    exact small (m := 1000) (by show ts.length ≤ 1000; have : ts.length ≤ 8 := this; omega)
  have ax : appS (.lst (ts.map .str)) [.str (Str.ofString "x")] = some (.lst (ts.map .str ++ [.str (Str.ofString "x")]), .none) := by rw [appS_ap, if_pos tz]
  have q4 : (sExpr (oMutA appS 7 (oAs [oC (.str "x")]))) [some (true, shl (b ++ [(w, ts)]) (ps ++ [b])), some (true, .lst (bt.map .int)), some (true, .lst (nm.map .str)), some (false, .val (eB b)), some (true, .lst ((ps ++ [b]).map eB)), some (false, .val (eRow (w, ts))), some (false, .val (.int (dat bt 11 % 8))), some (false, .lst (ts.map .str)), some (false, .yng (turnD b (b ++ [(w, ts)])) none), none, none, none, none] = .nx [some (true, shl (b ++ [(w, ts)]) (ps ++ [b])), some (true, .lst (bt.map .int)), some (true, .lst (nm.map .str)), some (false, .val (eB b)), some (true, .lst ((ps ++ [b]).map eB)), some (false, .val (eRow (w, ts))), some (false, .val (.int (dat bt 11 % 8))), some (false, .lst (ts.map .str ++ [.str (Str.ofString "x")])), some (false, .yng (turnD b (b ++ [(w, ts)])) none), none, none, none, none] := by
    generalize ts.map PyData.str ++ [.str (Str.ofString "x")] = TX at *
    generalize ts.map PyData.str = TS at *
    generalize (ps ++ [b]).map eB = PB at *
    simp [-List.map_map, -List.map_append, -appS_ap, ax]
  have z1 : (b.map eRow).length + [eRow (w, ts)].length ≤ sizeLine := Nat.le_of_lt (small (m := 300) (by rw [List.length_map]; simp; omega))
  have ad : addS (.val (eB b)) (.lst [eRow (w, ts)]) = some (.lst ((b ++ [(w, ts)]).map eRow)) := by
    show (if (b.map eRow).length + [eRow (w, ts)].length ≤ sizeLine then some (O.lst (b.map eRow ++ [eRow (w, ts)])) else none) = _
    rw [if_pos z1, List.map_append]
    rfl
  have eC : PyData.list ((b ++ [(w, ts)]).map eRow) = eB (b ++ [(w, ts)]) := rfl
  rw [sq_nx q1, sq_nx q2, sq_nx q3, sq_nx q4]
  generalize turnD b (b ++ [(w, ts)]) = TD at *
  generalize eB (b ++ [(w, ts)]) = EC at *
  generalize (b ++ [(w, ts)]).map eRow = RC at *
  generalize ts.map PyData.str ++ [.str (Str.ofString "x")] = TX at *
  generalize (ps ++ [b]).map eB = PB at *
  generalize eRow (w, ts) = ER at *
  generalize eB b = EB at *
  simp [-List.map_map, -List.map_append, ad, eC]

theorem l_deed_8_ex (nm : List Str) (hne : nm ≠ []) (hW : ∀ w ∈ nm, WW w) (n : Nat) (hn : n ≤ 59) (b : List Row) (ps : List (List Row)) (h : Ts nm n b ps) (bt : List Int) (hbt : Dr 14 bt) :
    (∃ c qs, Ts nm (n + 1) c qs ∧ f_l_deed_8 [shl b ps, .lst (bt.map .int), .lst (nm.map .str), .val (eB b), .lst (ps.map eB)] = .ret (.yng (turnD b c) (some (eB c))) [shl (c) (qs), .lst (bt.map .int), .lst (nm.map .str), .val (eB b), .lst ((qs).map eB)]) ∨ f_l_deed_8 [shl b ps, .lst (bt.map .int), .lst (nm.map .str), .val (eB b), .lst (ps.map eB)] = .ret (.val .none) [shl b ps, .lst (bt.map .int), .lst (nm.map .str), .val (eB b), .lst (ps.map eB)] := by
  have s0 : startE 13 [shl b ps, .lst (bt.map .int), .lst (nm.map .str), .val (eB b), .lst (ps.map eB)] = [some (true, shl b ps), some (true, .lst (bt.map .int)), some (true, .lst (nm.map .str)), some (false, .val (eB b)), some (true, .lst (ps.map eB)), none, none, none, none, none, none, none, none] := rfl
  have hbo := h.now.bo (by omega) hW
  obtain ⟨a0, b0, u0⟩ := hbt.at 0 (by omega) (by omega)
  obtain ⟨a11, b11, u11⟩ := hbt.at 11 (by omega) (by omega)
  obtain ⟨w, hw, mw, aw⟩ := k54_pick nm hne (dat bt 0) b0
  obtain ⟨ts, et, hts⟩ := l_told_exN 14 (by omega) bt nm hbt hne
  have hr : Rw nm (w, ts) := ⟨hw, hts⟩
  have er : PyData.tuple [.str w, eW ts] = eRow (w, ts) := rfl
  have p5 : (sAsg 5 (oTup (oAs [o2 ixS (oNm 2) (o2 modS (o2 ixS (oNm 1) (oC (.int 0))) (o1 lenS (oNm 2))), oCall f_l_told (oAs [oNm 1, oNm 2])]))) [some (true, shl b ps), some (true, .lst (bt.map .int)), some (true, .lst (nm.map .str)), some (false, .val (eB b)), some (true, .lst (ps.map eB)), none, none, none, none, none, none, none, none] = .nx [some (true, shl b ps), some (true, .lst (bt.map .int)), some (true, .lst (nm.map .str)), some (false, .val (eB b)), some (true, .lst (ps.map eB)), some (false, .val (eRow (w, ts))), none, none, none, none, none, none, none] := by
    simp [-List.map_map, -modS_int, a0, mw, aw, et, er]
  have p6 : (sAsg 6 (o2 modS (o2 ixS (oNm 1) (oC (.int 11))) (oC (.int 8)))) [some (true, shl b ps), some (true, .lst (bt.map .int)), some (true, .lst (nm.map .str)), some (false, .val (eB b)), some (true, .lst (ps.map eB)), some (false, .val (eRow (w, ts))), none, none, none, none, none, none, none] = .nx [some (true, shl b ps), some (true, .lst (bt.map .int)), some (true, .lst (nm.map .str)), some (false, .val (eB b)), some (true, .lst (ps.map eB)), some (false, .val (eRow (w, ts))), some (false, .val (.int (dat bt 11 % 8))), none, none, none, none, none, none] := by
    simp [-List.map_map, a11]
  have pn := ne_of_eqS5 (eqE_nil ps fun c hc => (h.past c hc).bo (by omega) hW)
  have bn := neE_nil b hbo
  rw [f_l_deed_8, runF_fin, s0, b_l_deed_8, sq_nx p5, sq_nx p6]
  obtain ⟨kd, hkd⟩ : ∃ kd : Int, kd = dat bt 11 % 8 := ⟨_, rfl⟩
  by_cases hA : dat bt 11 % 8 = 7 ∧ ps ≠ []
  · obtain ⟨h7, hps⟩ := hA
    obtain ⟨qs, c, rfl⟩ := snoc_ex hps
    left
    refine ⟨c, qs, h.back.mono (by omega), ?_⟩
    have go := deed_back none none bt nm hW n (by omega) b c qs h w ts
    have t1 : (tAndC (tV (o2 eqS (oNm 6) (oC (.int 7)))) (tV (o2 neS (oNm 4) (oLst (oAs []))))) [some (true, shl b (qs ++ [c])), some (true, .lst (bt.map .int)), some (true, .lst (nm.map .str)), some (false, .val (eB b)), some (true, .lst ((qs ++ [c]).map eB)), some (false, .val (eRow (w, ts))), some (false, .val (.int (dat bt 11 % 8))), none, none, none, none, none, none] = .ok true [some (true, shl b (qs ++ [c])), some (true, .lst (bt.map .int)), some (true, .lst (nm.map .str)), some (false, .val (eB b)), some (true, .lst ((qs ++ [c]).map eB)), some (false, .val (eRow (w, ts))), some (false, .val (.int (dat bt 11 % 8))), none, none, none, none, none, none] := by
      rw [decide_eq_false hps] at pn
      generalize (qs ++ [c]).map eB = PB at *
      simp [-List.map_map, -List.map_append, h7, pn]
    rw [sq_if_t t1, go]
    rfl
  · have t1 : (tAndC (tV (o2 eqS (oNm 6) (oC (.int 7)))) (tV (o2 neS (oNm 4) (oLst (oAs []))))) [some (true, shl b ps), some (true, .lst (bt.map .int)), some (true, .lst (nm.map .str)), some (false, .val (eB b)), some (true, .lst (ps.map eB)), some (false, .val (eRow (w, ts))), some (false, .val (.int (dat bt 11 % 8))), none, none, none, none, none, none] = .ok false [some (true, shl b ps), some (true, .lst (bt.map .int)), some (true, .lst (nm.map .str)), some (false, .val (eB b)), some (true, .lst (ps.map eB)), some (false, .val (eRow (w, ts))), some (false, .val (.int (dat bt 11 % 8))), none, none, none, none, none, none] := by
      by_cases h7 : dat bt 11 % 8 = 7
      · have hps : ps = [] := Classical.byContradiction fun q => hA ⟨h7, q⟩
        rw [decide_eq_true hps] at pn
        generalize ps.map eB = PB at *
        simp [-List.map_map, h7, pn]
      · simp [-List.map_map, h7]
    rw [sq_if_f t1]
    by_cases hB : 4 < dat bt 11 % 8 ∧ b ≠ []
    · obtain ⟨h4, hbn⟩ := hB
      obtain ⟨j, x10, x11, x12, go⟩ := deed_take bt hbt nm hW n (by omega) b ps h hbn w ts
      left
      refine ⟨cut1 b j, ps ++ [b], h.put ((h.now.sub (cut1_sub b j)).mono (by omega)), ?_⟩
      have t2 : (tAndC (tV (o2 gtS (oNm 6) (oC (.int 4)))) (tV (o2 neS (oNm 3) (oLst (oAs []))))) [some (true, shl b ps), some (true, .lst (bt.map .int)), some (true, .lst (nm.map .str)), some (false, .val (eB b)), some (true, .lst (ps.map eB)), some (false, .val (eRow (w, ts))), some (false, .val (.int (dat bt 11 % 8))), none, none, none, none, none, none] = .ok true [some (true, shl b ps), some (true, .lst (bt.map .int)), some (true, .lst (nm.map .str)), some (false, .val (eB b)), some (true, .lst (ps.map eB)), some (false, .val (eRow (w, ts))), some (false, .val (.int (dat bt 11 % 8))), none, none, none, none, none, none] := by
        rw [decide_eq_false hbn] at bn
        generalize eB b = EB at *
        simp [-List.map_map, h4, bn]
      rw [sq_if_t t2, go]
      rfl
    · have t2 : (tAndC (tV (o2 gtS (oNm 6) (oC (.int 4)))) (tV (o2 neS (oNm 3) (oLst (oAs []))))) [some (true, shl b ps), some (true, .lst (bt.map .int)), some (true, .lst (nm.map .str)), some (false, .val (eB b)), some (true, .lst (ps.map eB)), some (false, .val (eRow (w, ts))), some (false, .val (.int (dat bt 11 % 8))), none, none, none, none, none, none] = .ok false [some (true, shl b ps), some (true, .lst (bt.map .int)), some (true, .lst (nm.map .str)), some (false, .val (eB b)), some (true, .lst (ps.map eB)), some (false, .val (eRow (w, ts))), some (false, .val (.int (dat bt 11 % 8))), none, none, none, none, none, none] := by
        by_cases h4 : 4 < dat bt 11 % 8
        · have hbn : b = [] := Classical.byContradiction fun q => hB ⟨h4, q⟩
          rw [decide_eq_true hbn] at bn
          generalize eB b = EB at *
          simp [-List.map_map, h4, bn]
        · simp [-List.map_map, h4]
      rw [sq_if_f t2]
      have st := l_stands_li b (w, ts) (fun s hs => hbo.row s hs) (by have := hbo.len; omega) (hr.r8 hW).ro
      cases ha : b.any fun s => alkB (w, ts) s with
      | true =>
        right
        rw [ha] at st
        have t3 : (tV (oCall f_l_stands (oAs [oNm 3, oNm 5]))) [some (true, shl b ps), some (true, .lst (bt.map .int)), some (true, .lst (nm.map .str)), some (false, .val (eB b)), some (true, .lst (ps.map eB)), some (false, .val (eRow (w, ts))), some (false, .val (.int (dat bt 11 % 8))), none, none, none, none, none, none] = .ok true [some (true, shl b ps), some (true, .lst (bt.map .int)), some (true, .lst (nm.map .str)), some (false, .val (eB b)), some (true, .lst (ps.map eB)), some (false, .val (eRow (w, ts))), some (false, .val (.int (dat bt 11 % 8))), none, none, none, none, none, none] := by
          simp [-List.map_map, st]
        rw [sq_if_t t3]
        simp [-List.map_map]
      | false =>
        left
        rw [ha] at st
        have hno : ∀ q ∈ b, alkB q (w, ts) = false := fun q hq => by
          have h1 := Bool.eq_false_iff.mpr (List.any_eq_false.mp ha q hq)
          rw [alkB_key] at h1 ⊢
          rw [← h1]
          exact decide_eq_decide.mpr eq_comm
        refine ⟨b ++ [(w, ts)], ps ++ [b], h.put (h.now.snoc hr hno), ?_⟩
        have go := deed_put bt nm hW n hn b ps h w ts hr hno
        have t3 : (tV (oCall f_l_stands (oAs [oNm 3, oNm 5]))) [some (true, shl b ps), some (true, .lst (bt.map .int)), some (true, .lst (nm.map .str)), some (false, .val (eB b)), some (true, .lst (ps.map eB)), some (false, .val (eRow (w, ts))), some (false, .val (.int (dat bt 11 % 8))), none, none, none, none, none, none] = .ok false [some (true, shl b ps), some (true, .lst (bt.map .int)), some (true, .lst (nm.map .str)), some (false, .val (eB b)), some (true, .lst (ps.map eB)), some (false, .val (eRow (w, ts))), some (false, .val (.int (dat bt 11 % 8))), none, none, none, none, none, none] := by
          simp [-List.map_map, st]
        rw [sq_if_f t3, go]
        rfl
end Eng
/-! Law k51: the law. -/
namespace Eng
open PySem PySem.Spec L2 SX
open PyProof.Rows hiding St

theorem k51_turn (nm : List Str) (hne : nm ≠ []) (hW : ∀ w ∈ nm, WW w) (n : Nat) (hn : n ≤ 58) (b : List Row) (ps : List (List Row)) (h : Ts nm n b ps) (ns : List Int) (x1 : Sl) (kk : Int) (hk : 0 ≤ kk ∧ kk ≤ 100) : ∃ c qs, Ts nm (n + 1) c qs ∧ turn (.nm 6) [6, 7, 8] w_law_92_1 (.int kk) [some (false, .scr ns), x1, some (false, .lst (nm.map .str)), some (false, shl b ps), some (false, .val (eB b)), some (false, .lst (ps.map eB)), none, none, none] = .nx [some (false, .scr ns), x1, some (false, .lst (nm.map .str)), some (false, shl c qs), some (false, .val (eB c)), some (false, .lst (qs.map eB)), none, none, none] := by
  obtain ⟨ce, ec⟩ := l_cell_ex ns (20 + kk) (by omega)
  obtain ⟨bt, ed, hbt⟩ := l_drawn_ex ce 14 (by omega)
  simp at ed
  have hbo := h.now.bo (by omega) hW
  have t0 : (Tgt.nm 6).put (.int kk) [some (false, .scr ns), x1, some (false, .lst (nm.map .str)), some (false, shl b ps), some (false, .val (eB b)), some (false, .lst (ps.map eB)), none, none, none] = some [some (false, .scr ns), x1, some (false, .lst (nm.map .str)), some (false, shl b ps), some (false, .val (eB b)), some (false, .lst (ps.map eB)), some (false, .val (.int kk)), none, none] := by simp
  have lb := l_learnt_2_li b hbo
  rcases l_deed_8_ex nm hne hW n (by omega) b ps h bt hbt with ⟨c, qs, hT, fd⟩ | fd
  · refine ⟨c, qs, hT, ?_⟩
    have hco := hT.now.bo (by omega) hW
    have lc := l_learnt_2_li c hco
    have tr := l_turn_right_2_eq (lrn b) (lrn c) (lrn_WW hbo) (lrn_WW hco) (lrn_len hbo) (lrn_len hco)
    have rt := l_right_12_eq c qs hco
    have fd : f_l_deed_8 [shl b ps, .lst (bt.map .int), .lst (nm.map .str), .val (eB b), .lst (ps.map eB)] = .ret (.yng (.tuple [eL (wos (lrn c) (lrn b)), eL (wos (lrn b) (lrn c))]) (some (eB c))) [shl c qs, .lst (bt.map .int), .lst (nm.map .str), .val (eB b), .lst (qs.map eB)] := fd
    have q1 : (sAsg 7 (oCall f_l_deed_8 (oAs [oNm 3, oCall f_l_drawn (oAs [oCall f_l_cell (oAs [oNm 0, o2 addS (oC (.int 20)) (oNm 6)]), oC (.int 14)]), oNm 2, oNm 4, oNm 5]))) [some (false, .scr ns), x1, some (false, .lst (nm.map .str)), some (false, shl b ps), some (false, .val (eB b)), some (false, .lst (ps.map eB)), some (false, .val (.int kk)), none, none] = .nx [some (false, .scr ns), x1, some (false, .lst (nm.map .str)), some (false, shl c qs), some (false, .val (eB b)), some (false, .lst (qs.map eB)), some (false, .val (.int kk)), some (false, .yng (.tuple [eL (wos (lrn c) (lrn b)), eL (wos (lrn b) (lrn c))]) (some (eB c))), none] := by
      generalize eL (wos (lrn c) (lrn b)) = A at *
      generalize eL (wos (lrn b) (lrn c)) = B at *
      generalize eB c = EC at *
      generalize eB b = EB at *
      generalize bt.map PyData.int = BT at *
      generalize qs.map eB = QB at *
      generalize ps.map eB = PB at *
      simp [-List.map_map, ec, ed, fd]
    have q2 : (sAsg 8 (oCall f_l_learnt_2 (oAs [oNm 4]))) [some (false, .scr ns), x1, some (false, .lst (nm.map .str)), some (false, shl c qs), some (false, .val (eB b)), some (false, .lst (qs.map eB)), some (false, .val (.int kk)), some (false, .yng (.tuple [eL (wos (lrn c) (lrn b)), eL (wos (lrn b) (lrn c))]) (some (eB c))), none] = .nx [some (false, .scr ns), x1, some (false, .lst (nm.map .str)), some (false, shl c qs), some (false, .val (eB b)), some (false, .lst (qs.map eB)), some (false, .val (.int kk)), some (false, .yng (.tuple [eL (wos (lrn c) (lrn b)), eL (wos (lrn b) (lrn c))]) (some (eB c))), some (false, .lst ((lrn b).map .str))] := by
      generalize eL (wos (lrn c) (lrn b)) = A at *
      generalize eL (wos (lrn b) (lrn c)) = B at *
      generalize eB b = EB at *
      generalize eB c = EC at *
      generalize (lrn b).map PyData.str = LB at *
      simp [-List.map_map, lb]
    have q3 : (sAsg 4 (oYngR 7)) [some (false, .scr ns), x1, some (false, .lst (nm.map .str)), some (false, shl c qs), some (false, .val (eB b)), some (false, .lst (qs.map eB)), some (false, .val (.int kk)), some (false, .yng (.tuple [eL (wos (lrn c) (lrn b)), eL (wos (lrn b) (lrn c))]) (some (eB c))), some (false, .lst ((lrn b).map .str))] = .nx [some (false, .scr ns), x1, some (false, .lst (nm.map .str)), some (false, shl c qs), some (false, .val (eB c)), some (false, .lst (qs.map eB)), some (false, .val (.int kk)), some (false, .yng (.tuple [eL (wos (lrn c) (lrn b)), eL (wos (lrn b) (lrn c))]) (some (eB c))), some (false, .lst ((lrn b).map .str))] := by
      generalize eL (wos (lrn c) (lrn b)) = A at *
      generalize eL (wos (lrn b) (lrn c)) = B at *
      generalize eB b = EB at *
      generalize eB c = EC at *
      generalize (lrn b).map PyData.str = LB at *
      simp [-List.map_map]
    have q4 : (sIf (tNotC (tV (oCall f_l_turn_right_2 (oAs [oYngL 7, oNm 8, oCall f_l_learnt_2 (oAs [oNm 4])])))) (sRet (oC (.bool false))) sNil) [some (false, .scr ns), x1, some (false, .lst (nm.map .str)), some (false, shl c qs), some (false, .val (eB c)), some (false, .lst (qs.map eB)), some (false, .val (.int kk)), some (false, .yng (.tuple [eL (wos (lrn c) (lrn b)), eL (wos (lrn b) (lrn c))]) (some (eB c))), some (false, .lst ((lrn b).map .str))] = .nx [some (false, .scr ns), x1, some (false, .lst (nm.map .str)), some (false, shl c qs), some (false, .val (eB c)), some (false, .lst (qs.map eB)), some (false, .val (.int kk)), none, some (false, .lst ((lrn b).map .str))] := by
      generalize eL (wos (lrn c) (lrn b)) = A at *
      generalize eL (wos (lrn b) (lrn c)) = B at *
      generalize eB c = EC at *
      generalize (lrn b).map PyData.str = LB at *
      generalize (lrn c).map PyData.str = LC at *
      simp [-List.map_map, lc, tr]
    have q5 : (sIf (tV (o2 isnotS (oNm 7) (oC .none))) (sSeq (sAsg 8 (oCall f_l_learnt_2 (oAs [oNm 4]))) (sSeq (sAsg 4 (oYngR 7)) (sIf (tNotC (tV (oCall f_l_turn_right_2 (oAs [oYngL 7, oNm 8, oCall f_l_learnt_2 (oAs [oNm 4])])))) (sRet (oC (.bool false))) sNil))) sNil) [some (false, .scr ns), x1, some (false, .lst (nm.map .str)), some (false, shl c qs), some (false, .val (eB b)), some (false, .lst (qs.map eB)), some (false, .val (.int kk)), some (false, .yng (.tuple [eL (wos (lrn c) (lrn b)), eL (wos (lrn b) (lrn c))]) (some (eB c))), none] = .nx [some (false, .scr ns), x1, some (false, .lst (nm.map .str)), some (false, shl c qs), some (false, .val (eB c)), some (false, .lst (qs.map eB)), some (false, .val (.int kk)), none, some (false, .lst ((lrn b).map .str))] := by
      have t1 : (tV (o2 isnotS (oNm 7) (oC .none))) [some (false, .scr ns), x1, some (false, .lst (nm.map .str)), some (false, shl c qs), some (false, .val (eB b)), some (false, .lst (qs.map eB)), some (false, .val (.int kk)), some (false, .yng (.tuple [eL (wos (lrn c) (lrn b)), eL (wos (lrn b) (lrn c))]) (some (eB c))), none] = .ok true [some (false, .scr ns), x1, some (false, .lst (nm.map .str)), some (false, shl c qs), some (false, .val (eB b)), some (false, .lst (qs.map eB)), some (false, .val (.int kk)), some (false, .yng (.tuple [eL (wos (lrn c) (lrn b)), eL (wos (lrn b) (lrn c))]) (some (eB c))), none] := by
        generalize eL (wos (lrn c) (lrn b)) = A at *
        generalize eL (wos (lrn b) (lrn c)) = B at *
        generalize eB b = EB at *
        generalize eB c = EC at *
        simp [-List.map_map]
      rw [sIf_t t1, sq_nx q2, sq_nx q3, q4]
    have q6 : (sIf (tNotC (tV (oCall f_l_right_12 (oAs [oNm 3, oNm 4, oNm 5])))) (sRet (oC (.bool false))) sNil) [some (false, .scr ns), x1, some (false, .lst (nm.map .str)), some (false, shl c qs), some (false, .val (eB c)), some (false, .lst (qs.map eB)), some (false, .val (.int kk)), none, some (false, .lst ((lrn b).map .str))] = .nx [some (false, .scr ns), x1, some (false, .lst (nm.map .str)), some (false, shl c qs), some (false, .val (eB c)), some (false, .lst (qs.map eB)), some (false, .val (.int kk)), none, some (false, .lst ((lrn b).map .str))] := by
      generalize eB c = EC at *
      generalize (lrn b).map PyData.str = LB at *
      generalize qs.map eB = QB at *
      simp [-List.map_map, rt]
    rw [turn_ap, t0]
    simp only
    rw [w_law_92_1, sq_nx q1, sq_nx q5, q6]
    simp [-List.map_map]
  · refine ⟨b, ps, h.mono (by omega), ?_⟩
    have rt := l_right_12_eq b ps hbo
    have q1 : (sAsg 7 (oCall f_l_deed_8 (oAs [oNm 3, oCall f_l_drawn (oAs [oCall f_l_cell (oAs [oNm 0, o2 addS (oC (.int 20)) (oNm 6)]), oC (.int 14)]), oNm 2, oNm 4, oNm 5]))) [some (false, .scr ns), x1, some (false, .lst (nm.map .str)), some (false, shl b ps), some (false, .val (eB b)), some (false, .lst (ps.map eB)), some (false, .val (.int kk)), none, none] = .nx [some (false, .scr ns), x1, some (false, .lst (nm.map .str)), some (false, shl b ps), some (false, .val (eB b)), some (false, .lst (ps.map eB)), some (false, .val (.int kk)), some (false, .val .none), none] := by
      generalize eB b = EB at *
      generalize bt.map PyData.int = BT at *
      generalize ps.map eB = PB at *
      simp [-List.map_map, ec, ed, fd]
    have q6 : (sIf (tNotC (tV (oCall f_l_right_12 (oAs [oNm 3, oNm 4, oNm 5])))) (sRet (oC (.bool false))) sNil) [some (false, .scr ns), x1, some (false, .lst (nm.map .str)), some (false, shl b ps), some (false, .val (eB b)), some (false, .lst (ps.map eB)), some (false, .val (.int kk)), some (false, .val .none), none] = .nx [some (false, .scr ns), x1, some (false, .lst (nm.map .str)), some (false, shl b ps), some (false, .val (eB b)), some (false, .lst (ps.map eB)), some (false, .val (.int kk)), some (false, .val .none), none] := by
      generalize eB b = EB at *
      generalize ps.map eB = PB at *
      simp [-List.map_map, rt]
    have q5 : (sIf (tV (o2 isnotS (oNm 7) (oC .none))) (sSeq (sAsg 8 (oCall f_l_learnt_2 (oAs [oNm 4]))) (sSeq (sAsg 4 (oYngR 7)) (sIf (tNotC (tV (oCall f_l_turn_right_2 (oAs [oYngL 7, oNm 8, oCall f_l_learnt_2 (oAs [oNm 4])])))) (sRet (oC (.bool false))) sNil))) sNil) [some (false, .scr ns), x1, some (false, .lst (nm.map .str)), some (false, shl b ps), some (false, .val (eB b)), some (false, .lst (ps.map eB)), some (false, .val (.int kk)), some (false, .val .none), none] = .nx [some (false, .scr ns), x1, some (false, .lst (nm.map .str)), some (false, shl b ps), some (false, .val (eB b)), some (false, .lst (ps.map eB)), some (false, .val (.int kk)), some (false, .val .none), none] := by
      simp [-List.map_map]
    rw [turn_ap, t0]
    simp only
    rw [w_law_92_1, sq_nx q1, sq_nx q5, q6]
    simp [-List.map_map]
theorem answer51 (ns : List Int) : ∃ fin, f_law_92 [.scr ns] = .ret (.val (.bool true)) fin := by
  obtain ⟨c, ec⟩ := l_cell_ex ns 0 (by omega)
  obtain ⟨ds, ed, hds⟩ := l_drawn_ex c 4 (by omega)
  simp at ed
  obtain ⟨a0, b0, c0⟩ := hds.at 0 (by omega) (by omega)
  obtain ⟨a1, b1, c1⟩ := hds.at 1 (by omega) (by omega)
  obtain ⟨n, en⟩ : ∃ n : Nat, 1 + dat ds 0 % 14 = (n : Int) := ⟨(1 + dat ds 0 % 14).toNat, by omega⟩
  obtain ⟨m, em⟩ : ∃ m : Nat, dat ds 1 % 31 = (m : Int) := ⟨(dat ds 1 % 31).toNat, by omega⟩
  obtain ⟨nm, enm, hnm⟩ := l_names_ex ns 1 n (by omega) (by omega)
  have hne : nm ≠ [] := fun h => by have := hnm.1; rw [h] at this; simp at this; omega
  have si := shelf_init
  have s0 : startE 9 [.scr ns] = [some (false, .scr ns), none, none, none, none, none, none, none, none] := rfl
  have t00 : Ts nm 0 [] [] := ⟨⟨by simp, by simp, by simp⟩, by simp, by simp⟩
  have p0 : (sAsg 1 (oCall f_l_drawn (oAs [oCall f_l_cell (oAs [oNm 0, oC (.int 0)]), oC (.int 4)]))) [some (false, .scr ns), none, none, none, none, none, none, none, none] = .nx [some (false, .scr ns), some (false, .lst (ds.map .int)), none, none, none, none, none, none, none] := by
    simp [-List.map_map, ec, ed]
  have p1 : (sAsg 2 (oCall f_l_names (oAs [oNm 0, oC (.int 1), o2 addS (oC (.int 1)) (o2 modS (o2 ixS (oNm 1) (oC (.int 0))) (oC (.int 14)))]))) [some (false, .scr ns), some (false, .lst (ds.map .int)), none, none, none, none, none, none, none] = .nx [some (false, .scr ns), some (false, .lst (ds.map .int)), some (false, .lst (nm.map .str)), none, none, none, none, none, none] := by
    simp [-List.map_map, a0, en, enm]
  have p2 : (sAsg 3 (oMake 9 f_Shelf_init)) [some (false, .scr ns), some (false, .lst (ds.map .int)), some (false, .lst (nm.map .str)), none, none, none, none, none, none] = .nx [some (false, .scr ns), some (false, .lst (ds.map .int)), some (false, .lst (nm.map .str)), some (false, shl [] []), none, none, none, none, none] := by
    simp [-List.map_map, si]
  have p3 : (sAsg 4 (oLst (oAs []))) [some (false, .scr ns), some (false, .lst (ds.map .int)), some (false, .lst (nm.map .str)), some (false, shl [] []), none, none, none, none, none] = .nx [some (false, .scr ns), some (false, .lst (ds.map .int)), some (false, .lst (nm.map .str)), some (false, shl [] []), some (false, .lst []), none, none, none, none] := by
    simp [-List.map_map]
  have rt := l_right_12_eq [] [] ⟨by simp, by simp⟩
  have p4 : (sAsg 5 (oLst (oAs []))) [some (false, .scr ns), some (false, .lst (ds.map .int)), some (false, .lst (nm.map .str)), some (false, shl [] []), some (false, .val (eB [])), none, none, none, none] = .nx [some (false, .scr ns), some (false, .lst (ds.map .int)), some (false, .lst (nm.map .str)), some (false, shl [] []), some (false, .val (eB [])), some (false, .lst (([] : List (List Row)).map eB)), none, none, none] := by
    generalize eB [] = E0 at *
    simp
  have p5 : (sIf (tNotC (tV (oCall f_l_right_12 (oAs [oNm 3, oNm 4, oNm 5])))) (sRet (oC (.bool false))) sNil) [some (false, .scr ns), some (false, .lst (ds.map .int)), some (false, .lst (nm.map .str)), some (false, shl [] []), some (false, .val (eB [])), some (false, .lst (([] : List (List Row)).map eB)), none, none, none] = .nx [some (false, .scr ns), some (false, .lst (ds.map .int)), some (false, .lst (nm.map .str)), some (false, shl [] []), some (false, .val (eB [])), some (false, .lst (([] : List (List Row)).map eB)), none, none, none] := by
    generalize eB [] = E0 at *
    generalize ([] : List (List Row)).map eB = P0 at *
    simp [-List.map_map, -List.map_nil, rt]
  obtain ⟨_, e, b, ps, tg, rfl⟩ := forL_rng (lo := 0) (T := .nm 6) (fg := [6, 7, 8]) (b := w_law_92_1)
    (fun j ρ => ∃ b ps, Ts nm j b ps ∧ ρ = [some (false, .scr ns), some (false, .lst (ds.map .int)), some (false, .lst (nm.map .str)), some (false, shl b ps), some (false, .val (eB b)), some (false, .lst (ps.map eB)), none, none, none]) m [some (false, .scr ns), some (false, .lst (ds.map .int)), some (false, .lst (nm.map .str)), some (false, shl [] []), some (false, .val (eB [])), some (false, .lst (([] : List (List Row)).map eB)), none, none, none] ⟨[], [], t00, rfl⟩ (by
    rintro j ρ hj ⟨b, ps, tg, rfl⟩
    obtain ⟨b', ps', tg', e⟩ := k51_turn nm hne hnm.2.2 j (by omega) b ps tg ns _ (0 + (j : Nat)) (by omega)
    exact ⟨_, e, b', ps', tg', rfl⟩)
  have z1 : (m : Int) ≤ 1000000 := by omega
  have z2 : (-4611686018427387904 : Int) ≤ m := by omega
  have m31 : modS (.val (.int (dat ds 1))) (.val (.int 31)) = some (.val (.int (m : Int))) := by rw [modS_int, if_pos (by omega), em]
  have i1 : iRng1 (oAs [o2 modS (o2 ixS (oNm 1) (oC (.int 1))) (oC (.int 31))]) [some (false, .scr ns), some (false, .lst (ds.map .int)), some (false, .lst (nm.map .str)), some (false, shl [] []), some (false, .val (eB [])), some (false, .lst (([] : List (List Row)).map eB)), none, none, none] = .ok (none, rng 0 m) [some (false, .scr ns), some (false, .lst (ds.map .int)), some (false, .lst (nm.map .str)), some (false, shl [] []), some (false, .val (eB [])), some (false, .lst (([] : List (List Row)).map eB)), none, none, none] := by
    have lk : looks [some (false, .scr ns), some (false, .lst (ds.map .int)), some (false, .lst (nm.map .str)), some (false, shl [] []), some (false, .val (eB [])), some (false, .lst (([] : List (List Row)).map eB)), none, none, none] [.tmp (.val (.int (m : Int)))] = some [.val (.int (m : Int))] := rfl
    have oa : (oAs [o2 modS (o2 ixS (oNm 1) (oC (.int 1))) (oC (.int 31))]) [some (false, .scr ns), some (false, .lst (ds.map .int)), some (false, .lst (nm.map .str)), some (false, shl [] []), some (false, .val (eB [])), some (false, .lst (([] : List (List Row)).map eB)), none, none, none] = .ok [.tmp (.val (.int (m : Int)))] [some (false, .scr ns), some (false, .lst (ds.map .int)), some (false, .lst (nm.map .str)), some (false, shl [] []), some (false, .val (eB [])), some (false, .lst (([] : List (List Row)).map eB)), none, none, none] := by
      generalize (m : Int) = MI at *
      generalize eB [] = E0 at *
      generalize ([] : List (List Row)).map eB = P0 at *
      simp [-List.map_map, -modS_int, a1, m31]
    rw [iRng1_ap, oa]
    simp only [bind_ok, lk]
    rw [if_pos ⟨z1, z2⟩]
    rfl
  have p6 : (sFor (iRng1 (oAs [o2 modS (o2 ixS (oNm 1) (oC (.int 1))) (oC (.int 31))])) (.nm 6) [6, 7, 8] w_law_92_1) [some (false, .scr ns), some (false, .lst (ds.map .int)), some (false, .lst (nm.map .str)), some (false, shl [] []), some (false, .val (eB [])), some (false, .lst (([] : List (List Row)).map eB)), none, none, none] = .nx [some (false, .scr ns), some (false, .lst (ds.map .int)), some (false, .lst (nm.map .str)), some (false, shl b ps), some (false, .val (eB b)), some (false, .lst (ps.map eB)), none, none, none] := by
    rw [sFor_ap, i1]
    exact e
  refine ⟨[.scr ns], ?_⟩
  have fz : sFrz 4 (sSeq (sAsg 5 (oLst (oAs [])))
    (sSeq (sIf (tNotC (tV (oCall f_l_right_12 (oAs [oNm 3, oNm 4, oNm 5])))) (sRet (oC (.bool false))) sNil)
    (sSeq (sFor (iRng1 (oAs [o2 modS (o2 ixS (oNm 1) (oC (.int 1))) (oC (.int 31))])) (.nm 6) [6, 7, 8] w_law_92_1)
    (sRet (oC (.bool true)))))) [some (false, .scr ns), some (false, .lst (ds.map .int)), some (false, .lst (nm.map .str)), some (false, shl [] []), some (false, .lst []), none, none, none, none] = (sSeq (sAsg 5 (oLst (oAs [])))
    (sSeq (sIf (tNotC (tV (oCall f_l_right_12 (oAs [oNm 3, oNm 4, oNm 5])))) (sRet (oC (.bool false))) sNil)
    (sSeq (sFor (iRng1 (oAs [o2 modS (o2 ixS (oNm 1) (oC (.int 1))) (oC (.int 31))])) (.nm 6) [6, 7, 8] w_law_92_1)
    (sRet (oC (.bool true)))))) [some (false, .scr ns), some (false, .lst (ds.map .int)), some (false, .lst (nm.map .str)), some (false, shl [] []), some (false, .val (eB [])), none, none, none, none] := rfl
  rw [f_law_92, runF_fin, s0, b_law_92, sq_nx p0, sq_nx p1, sq_nx p2, sq_nx p3, fz, sq_nx p4, sq_nx p5, sq_nx p6]
  simp [-List.map_map]
end Eng
set_option maxHeartbeats 4000000
namespace Eng
open PySem PySem.Spec L2
open PyProof.Rows hiding St
def top (i : Nat) : Stmt := PySem.Challenge.pw_primer_k51_a_shelf_walked.main.body.getD i (.Pass ⟨0, 0, 0, 0⟩)
def mth (i j : Nat) : Stmt := match top i with
  | .ClassDef _ _ _ body .. => body.getD j (.Pass ⟨0, 0, 0, 0⟩)
  | s => s
section
variable {P : Program} {w : World} {K : PySem.W.Frag} {mg : Str → Option Value} {base : Heap} {ca : Nat → Addr}

theorem sc__law_mix : FnScope ["_law_cell_here", "_law_k", "_law_by"] ["_law_cell_here", "_law_k"] (defScope (top 28)) := ⟨rfl, rfl, rfl, by decide +kernel, rfl, by decide +kernel, by decide +kernel⟩
theorem ok__law_mix {f : Addr} {fd : FuncData} (F : Fun K "_law_mix" "_law_mix" (top 28) f fd) (hm : mg "_law_mix" = some (.ref f)) (hB : Blt mg) : Callee P w K mg base ca 1 "_law_mix" 2 f_l_mix := by
  refine ⟨f, fd, ["_law_cell_here", "_law_k"], rfl, efn_body (N := ["_law_cell_here", "_law_k", "_law_by"]) (b := b_l_mix) F sc__law_mix fun cdv A outer s H E hg hr => ?_, hm, F.kp, F.binds fun _ _ _ _ _ _ us hl => match us, hl with | [_, _], _ => rfl⟩
  have hG : (cxOf (L2N.CX P w) P w K mg base ["_law_cell_here", "_law_k", "_law_by"] "_law_mix" (defScope (top 28)) f cdv A outer s H E).A.guards = some [] := by
    rw [← hg]; exact deeper_guards _ _
  have tk : L2N.Takes (cxOf (L2N.CX P w) P w K mg base ["_law_cell_here", "_law_k", "_law_by"] "_law_mix" (defScope (top 28)) f cdv A outer s H E) (fun cls d _ H => E cls d H) := L2N.takes_of rfl rfl rfl rfl
  have nd := sc__law_mix.nd
  have hp : PassesOwn _ _ _ (cxOf (L2N.CX P w) P w K mg base ["_law_cell_here", "_law_k", "_law_by"] "_law_mix" (defScope (top 28)) f cdv A outer s H E).xe := passes_of rfl
  exact (ss_cons (ss_asg (i := 2) nd rfl (by first | exact .inl rfl | exact .inr rfl) (se_bin bin_add (se_bin bin_add (se_bin bin_mul (se_bin bin_add (se_bin bin_mod (se_n 0 rfl (by first | exact .inl rfl | exact .inr (.inl rfl) | exact .inr (.inr rfl)) rfl rfl) (se_bin bin_pow se_int se_int)) se_int) se_int) (se_bin bin_mul (se_bin bin_mul (se_n 1 rfl (by first | exact .inl rfl | exact .inr (.inl rfl) | exact .inr (.inr rfl)) rfl rfl) (se_n 1 rfl (by first | exact .inl rfl | exact .inr (.inl rfl) | exact .inr (.inr rfl)) rfl rfl)) se_int)) (se_bin bin_mul (se_n 1 rfl (by first | exact .inl rfl | exact .inr (.inl rfl) | exact .inr (.inr rfl)) rfl rfl) se_int)) rfl (by first | exact .inl rfl | exact .inr rfl))
  (ss_one (ss_ret (se_bin bin_mod (se_bin bin_mul (se_bin bin_mod (se_n 2 rfl (by first | exact .inl rfl | exact .inr (.inl rfl) | exact .inr (.inr rfl)) rfl rfl) se_int) se_int) se_int))))
theorem sc__law_cell : FnScope ["_law_script", "_law_k", "_law_seed"] ["_law_script", "_law_k"] (defScope (top 29)) := ⟨rfl, rfl, rfl, by decide +kernel, rfl, by decide +kernel, by decide +kernel⟩
theorem ok__law_cell {f : Addr} {fd : FuncData} (F : Fun K "_law_cell" "_law_cell" (top 29) f fd) (hm : mg "_law_cell" = some (.ref f)) (hB : Blt mg) (c__law_mix : Callee P w K mg base ca 1 "_law_mix" 2 f_l_mix) : Callee P w K mg base ca 2 "_law_cell" 2 f_l_cell := by
  refine ⟨f, fd, ["_law_script", "_law_k"], rfl, efn_body (N := ["_law_script", "_law_k", "_law_seed"]) (b := b_l_cell) F sc__law_cell fun cdv A outer s H E hg hr => ?_, hm, F.kp, F.binds fun _ _ _ _ _ _ us hl => match us, hl with | [_, _], _ => rfl⟩
  have hG : (cxOf (L2N.CX P w) P w K mg base ["_law_script", "_law_k", "_law_seed"] "_law_cell" (defScope (top 29)) f cdv A outer s H E).A.guards = some [] := by
    rw [← hg]; exact deeper_guards _ _
  have tk : L2N.Takes (cxOf (L2N.CX P w) P w K mg base ["_law_script", "_law_k", "_law_seed"] "_law_cell" (defScope (top 29)) f cdv A outer s H E) (fun cls d _ H => E cls d H) := L2N.takes_of rfl rfl rfl rfl
  have nd := sc__law_cell.nd
  have hp : PassesOwn _ _ _ (cxOf (L2N.CX P w) P w K mg base ["_law_script", "_law_k", "_law_seed"] "_law_cell" (defScope (top 29)) f cdv A outer s H E).xe := passes_of rfl
  exact (ss_cons (ss_if (st_cmp bin_lt (se_n 1 rfl (by first | exact .inl rfl | exact .inr (.inl rfl) | exact .inr (.inr rfl)) rfl rfl) (se_len hB rfl rfl (se_n 0 rfl (by first | exact .inl rfl | exact .inr (.inl rfl) | exact .inr (.inr rfl)) rfl rfl)) rfl)
    (ss_one (ss_ret (se_ix (hu65 hr) (se_n 0 rfl (by first | exact .inl rfl | exact .inr (.inl rfl) | exact .inr (.inr rfl)) rfl rfl) (se_n 1 rfl (by first | exact .inl rfl | exact .inr (.inl rfl) | exact .inr (.inr rfl)) rfl rfl) (fun _ _ => rfl))))
    ss_nil)
  (ss_cons (ss_asg (i := 2) nd rfl (by first | exact .inl rfl | exact .inr rfl) se_int rfl (by first | exact .inl rfl | exact .inr rfl))
  (ss_cons (ss_if (st_cmp bin_gt (se_len hB rfl rfl (se_n 0 rfl (by first | exact .inl rfl | exact .inr (.inl rfl) | exact .inr (.inr rfl)) rfl rfl)) se_int rfl)
    (ss_one (ss_asg (i := 2) nd rfl (by first | exact .inl rfl | exact .inr rfl) (se_ix (hu65 hr) (se_n 0 rfl (by first | exact .inl rfl | exact .inr (.inl rfl) | exact .inr (.inr rfl)) rfl rfl) (se_bin bin_mod (se_n 1 rfl (by first | exact .inl rfl | exact .inr (.inl rfl) | exact .inr (.inr rfl)) rfl rfl) (se_len hB rfl rfl (se_n 0 rfl (by first | exact .inl rfl | exact .inr (.inl rfl) | exact .inr (.inr rfl)) rfl rfl))) (fun _ _ => rfl)) rfl (by first | exact .inl rfl | exact .inr rfl)))
    ss_nil)
  (ss_one (ss_ret (se_bin bin_add (se_bin bin_mul se_int (se_c c__law_mix hG hr tk rfl rfl rfl rfl (sa_c rfl (se_n 2 rfl (by first | exact .inl rfl | exact .inr (.inl rfl) | exact .inr (.inr rfl)) rfl rfl) (sa_c rfl (se_n 1 rfl (by first | exact .inl rfl | exact .inr (.inl rfl) | exact .inr (.inr rfl)) rfl rfl) sa_nil)))) se_int))))))
theorem sc__law_stands : FnScope ["_law_rows", "_law_row", "_law_one"] ["_law_rows", "_law_row"] (defScope (top 35)) := ⟨rfl, rfl, rfl, by decide +kernel, rfl, by decide +kernel, by decide +kernel⟩
theorem ok__law_stands {f : Addr} {fd : FuncData} (F : Fun K "_law_stands" "_law_stands" (top 35) f fd) (hm : mg "_law_stands" = some (.ref f)) (hB : Blt mg) : Callee P w K mg base ca 1 "_law_stands" 2 f_l_stands := by
  refine ⟨f, fd, ["_law_rows", "_law_row"], rfl, efn_body (N := ["_law_rows", "_law_row", "_law_one"]) (b := b_l_stands) F sc__law_stands fun cdv A outer s H E hg hr => ?_, hm, F.kp, F.binds fun _ _ _ _ _ _ us hl => match us, hl with | [_, _], _ => rfl⟩
  have hG : (cxOf (L2N.CX P w) P w K mg base ["_law_rows", "_law_row", "_law_one"] "_law_stands" (defScope (top 35)) f cdv A outer s H E).A.guards = some [] := by
    rw [← hg]; exact deeper_guards _ _
  have tk : L2N.Takes (cxOf (L2N.CX P w) P w K mg base ["_law_rows", "_law_row", "_law_one"] "_law_stands" (defScope (top 35)) f cdv A outer s H E) (fun cls d _ H => E cls d H) := L2N.takes_of rfl rfl rfl rfl
  have nd := sc__law_stands.nd
  have hp : PassesOwn _ _ _ (cxOf (L2N.CX P w) P w K mg base ["_law_rows", "_law_row", "_law_one"] "_law_stands" (defScope (top 35)) f cdv A outer s H E).xe := passes_of rfl
  exact (ss_one (ss_ret (se_cmp (bin_ne (hu64 hr)) (se_lc (own := [("_law_one", 2)]) (by decide) rfl nd (si_seq (se_n 0 rfl (by first | exact .inl rfl | exact .inr (.inl rfl) | exact .inr (.inr rfl)) rfl rfl)) (by exact blkOk_by (by kernel_rfl)) (fun _ _ _ _ _ => (sg_name (i := 2) nd rfl (by first | exact .inl rfl | exact .inr rfl) (by first | exact .inl rfl | exact .inr rfl))) (fun _ _ _ _ _ => (st_ifone (PW.pt (st_and (st_cmp (bin_eq (hu64 hr)) (se_ix (hu65 hr) (se_n 2 rfl (by first | exact .inl rfl | exact .inr (.inl rfl) | exact .inr (.inr rfl)) rfl rfl) se_int (fun _ _ => rfl)) (se_ix (hu65 hr) (se_n 1 rfl (by first | exact .inl rfl | exact .inr (.inl rfl) | exact .inr (.inr rfl)) rfl rfl) se_int (fun _ _ => rfl)) rfl) (st_and1 (st_cmp (bin_eq (hu64 hr)) (se_sorted rfl hr hB rfl rfl (se_ix (hu65 hr) (se_n 2 rfl (by first | exact .inl rfl | exact .inr (.inl rfl) | exact .inr (.inr rfl)) rfl rfl) se_int (fun _ _ => rfl))) (se_sorted rfl hr hB rfl rfl (se_ix (hu65 hr) (se_n 1 rfl (by first | exact .inl rfl | exact .inr (.inl rfl) | exact .inr (.inr rfl)) rfl rfl) se_int (fun _ _ => rfl))) rfl)))))) (fun _ _ _ _ _ => (se_n 2 rfl (by first | exact .inl rfl | exact .inr (.inl rfl) | exact .inr (.inr rfl)) rfl rfl)) (fun _ => rfl)) (se_lst sa_nil) rfl)))
theorem sc__law_told : FnScope ["_law_drawn_here", "_law_names_here", "_law_top", "_law_told_here", "_law_k", "_law_one"] ["_law_drawn_here", "_law_names_here"] (defScope (top 33)) := ⟨rfl, rfl, rfl, by decide +kernel, rfl, by decide +kernel, by decide +kernel⟩
theorem ok__law_told {f : Addr} {fd : FuncData} (F : Fun K "_law_told" "_law_told" (top 33) f fd) (hm : mg "_law_told" = some (.ref f)) (hB : Blt mg) : Callee P w K mg base ca 1 "_law_told" 2 f_l_told := by
  refine ⟨f, fd, ["_law_drawn_here", "_law_names_here"], rfl, efn_body (N := ["_law_drawn_here", "_law_names_here", "_law_top", "_law_told_here", "_law_k", "_law_one"]) (b := b_l_told) F sc__law_told fun cdv A outer s H E hg hr => ?_, hm, F.kp, F.binds fun _ _ _ _ _ _ us hl => match us, hl with | [_, _], _ => rfl⟩
  have hG : (cxOf (L2N.CX P w) P w K mg base ["_law_drawn_here", "_law_names_here", "_law_top", "_law_told_here", "_law_k", "_law_one"] "_law_told" (defScope (top 33)) f cdv A outer s H E).A.guards = some [] := by
    rw [← hg]; exact deeper_guards _ _
  have tk : L2N.Takes (cxOf (L2N.CX P w) P w K mg base ["_law_drawn_here", "_law_names_here", "_law_top", "_law_told_here", "_law_k", "_law_one"] "_law_told" (defScope (top 33)) f cdv A outer s H E) (fun cls d _ H => E cls d H) := L2N.takes_of rfl rfl rfl rfl
  have nd := sc__law_told.nd
  have hp : PassesOwn _ _ _ (cxOf (L2N.CX P w) P w K mg base ["_law_drawn_here", "_law_names_here", "_law_top", "_law_told_here", "_law_k", "_law_one"] "_law_told" (defScope (top 33)) f cdv A outer s H E).xe := passes_of rfl
  exact (ss_cons (ss_asg (i := 2) nd rfl (by first | exact .inl rfl | exact .inr rfl) (se_len hB rfl rfl (se_n 1 rfl (by first | exact .inl rfl | exact .inr (.inl rfl) | exact .inr (.inr rfl)) rfl rfl)) rfl (by first | exact .inl rfl | exact .inr rfl))
  (ss_cons (ss_if (PW.pt (st_and (st_cmp bin_gt (se_bin bin_mod (se_ix (hu65 hr) (se_n 0 rfl (by first | exact .inl rfl | exact .inr (.inl rfl) | exact .inr (.inr rfl)) rfl rfl) se_int (fun _ _ => rfl)) se_int) se_int rfl) (st_and1 (st_cmp bin_gt (se_bin bin_mod (se_ix (hu65 hr) (se_n 0 rfl (by first | exact .inl rfl | exact .inr (.inl rfl) | exact .inr (.inr rfl)) rfl rfl) se_int (fun _ _ => rfl)) (se_len hB rfl rfl (se_n 1 rfl (by first | exact .inl rfl | exact .inr (.inl rfl) | exact .inr (.inr rfl)) rfl rfl))) se_int rfl))))
    (ss_one (ss_asg (i := 2) nd rfl (by first | exact .inl rfl | exact .inr rfl) (se_bin bin_mod (se_ix (hu65 hr) (se_n 0 rfl (by first | exact .inl rfl | exact .inr (.inl rfl) | exact .inr (.inr rfl)) rfl rfl) se_int (fun _ _ => rfl)) (se_len hB rfl rfl (se_n 1 rfl (by first | exact .inl rfl | exact .inr (.inl rfl) | exact .inr (.inr rfl)) rfl rfl))) rfl (by first | exact .inl rfl | exact .inr rfl)))
    ss_nil)
  (ss_cons (ss_asg (i := 3) nd rfl (by first | exact .inl rfl | exact .inr rfl) (se_lst sa_nil) rfl (by first | exact .inl rfl | exact .inr rfl))
  (ss_cons (ss_for (fg := [4, 5]) hp rfl (si_rng1 rfl hB.range (sa_c rfl (se_ix (hu65 hr) (se_lst (sa_c rfl se_int (sa_c rfl se_int (sa_c rfl se_int (sa_c rfl se_int (sa_c rfl se_int (sa_c rfl se_int (sa_c rfl se_int (sa_c rfl se_int (sa_c rfl se_int (sa_c rfl se_int sa_nil))))))))))) (se_bin bin_mod (se_ix (hu65 hr) (se_n 0 rfl (by first | exact .inl rfl | exact .inr (.inl rfl) | exact .inr (.inr rfl)) rfl rfl) se_int (fun _ _ => rfl)) se_int) (fun _ _ => rfl)) sa_nil) rfl) (sg_name (i := 4) nd rfl (by first | exact .inl rfl | exact .inr rfl) (by first | exact .inl rfl | exact .inr rfl))
    (ss_cons (ss_asg (i := 5) nd rfl (by first | exact .inl rfl | exact .inr rfl) (se_ix (hu65 hr) (se_n 1 rfl (by first | exact .inl rfl | exact .inr (.inl rfl) | exact .inr (.inr rfl)) rfl rfl) (se_bin bin_mod (se_ix (hu65 hr) (se_n 0 rfl (by first | exact .inl rfl | exact .inr (.inl rfl) | exact .inr (.inr rfl)) rfl rfl) (se_bin bin_add se_int (se_n 4 rfl (by first | exact .inl rfl | exact .inr (.inl rfl) | exact .inr (.inr rfl)) rfl rfl)) (fun _ _ => rfl)) (se_n 2 rfl (by first | exact .inl rfl | exact .inr (.inl rfl) | exact .inr (.inr rfl)) rfl rfl)) (fun _ _ => rfl)) rfl (by first | exact .inl rfl | exact .inr rfl))
    (ss_one (ss_if (st_cmp (bin_notin (hu65 hr)) (se_n 5 rfl (by first | exact .inl rfl | exact .inr (.inl rfl) | exact .inr (.inr rfl)) rfl rfl) (se_n 3 rfl (by first | exact .inl rfl | exact .inr (.inl rfl) | exact .inr (.inr rfl)) rfl rfl) rfl)
      (ss_one (ss_expr (se_app (j := 3) rfl (by first | exact .inl rfl | exact .inr (.inl rfl) | exact .inr (.inr rfl)) rfl rfl (se_n 5 rfl (by first | exact .inl rfl | exact .inr (.inl rfl) | exact .inr (.inr rfl)) rfl rfl) rfl rfl rfl rfl) rfl))
      ss_nil))) (fun _ => rfl))
  (ss_one (ss_ret (se_tuple hB rfl rfl (se_n 3 rfl (by first | exact .inl rfl | exact .inr (.inl rfl) | exact .inr (.inr rfl)) rfl rfl))))))))
theorem sc_next_round : FnScope ["book", "known", "fresh", "word", "told", "one"] ["book", "known"] (defScope (top 20)) := ⟨rfl, rfl, rfl, by decide +kernel, rfl, by decide +kernel, by decide +kernel⟩
theorem ok_next_round {f : Addr} {fd : FuncData} (F : Fun K "next_round" "next_round" (top 20) f fd) (hm : mg "next_round" = some (.ref f)) (hB : Blt mg) : Callee P w K mg base ca 1 "next_round" 2 f_next_round := by
  refine ⟨f, fd, ["book", "known"], rfl, efn_body (N := ["book", "known", "fresh", "word", "told", "one"]) (b := b_next_round) F sc_next_round fun cdv A outer s H E hg hr => ?_, hm, F.kp, F.binds fun _ _ _ _ _ _ us hl => match us, hl with | [_, _], _ => rfl⟩
  have hG : (cxOf (L2N.CX P w) P w K mg base ["book", "known", "fresh", "word", "told", "one"] "next_round" (defScope (top 20)) f cdv A outer s H E).A.guards = some [] := by
    rw [← hg]; exact deeper_guards _ _
  have tk : L2N.Takes (cxOf (L2N.CX P w) P w K mg base ["book", "known", "fresh", "word", "told", "one"] "next_round" (defScope (top 20)) f cdv A outer s H E) (fun cls d _ H => E cls d H) := L2N.takes_of rfl rfl rfl rfl
  have nd := sc_next_round.nd
  have hp : PassesOwn _ _ _ (cxOf (L2N.CX P w) P w K mg base ["book", "known", "fresh", "word", "told", "one"] "next_round" (defScope (top 20)) f cdv A outer s H E).xe := passes_of rfl
  exact (ss_cons (ss_asg (i := 2) nd rfl (by first | exact .inl rfl | exact .inr rfl) se_dic0 rfl (by first | exact .inl rfl | exact .inr rfl))
  (ss_cons (ss_for (fg := [3, 4]) hp rfl (si_seq (se_n 0 rfl (by first | exact .inl rfl | exact .inr (.inl rfl) | exact .inr (.inr rfl)) rfl rfl)) (sg_tup rfl (sg_cons (pg_name (i := 3) nd rfl (by first | exact .inl rfl | exact .inr rfl) (by first | exact .inl rfl | exact .inr rfl)) (sg_cons (pg_name (i := 4) nd rfl (by first | exact .inl rfl | exact .inr rfl) (by first | exact .inl rfl | exact .inr rfl)) sg_nil rfl) rfl) rfl rfl)
    (ss_one (ss_if (PW.pt (st_and (st_cmp (bin_notin (hu65 hr)) (se_n 3 rfl (by first | exact .inl rfl | exact .inr (.inl rfl) | exact .inr (.inr rfl)) rfl rfl) (se_n 1 rfl (by first | exact .inl rfl | exact .inr (.inl rfl) | exact .inr (.inr rfl)) rfl rfl) rfl) (st_and1 (st_val (se_all rfl hB rfl rfl (se_lc (own := [("one", 5)]) (by decide) rfl nd (si_seq (se_n 4 rfl (by first | exact .inl rfl | exact .inr (.inl rfl) | exact .inr (.inr rfl)) rfl rfl)) (by exact blkOk_by (by kernel_rfl)) (fun _ _ _ _ _ => (sg_name (i := 5) nd rfl (by first | exact .inl rfl | exact .inr rfl) (by first | exact .inl rfl | exact .inr rfl))) (fun _ _ _ _ _ => st_yes) (fun _ _ _ _ _ => (se_cmp (bin_in (hu65 hr)) (se_n 5 rfl (by first | exact .inl rfl | exact .inr (.inl rfl) | exact .inr (.inr rfl)) rfl rfl) (se_n 1 rfl (by first | exact .inl rfl | exact .inr (.inl rfl) | exact .inr (.inr rfl)) rfl rfl) rfl)) (fun _ => rfl))) (fun _ => rfl)))))
      (ss_one (ss_put (i := 2) (hu65 hr) rfl (by first | exact .inl rfl | exact .inr (.inl rfl) | exact .inr (.inr rfl)) rfl rfl (se_n 3 rfl (by first | exact .inl rfl | exact .inr (.inl rfl) | exact .inr (.inr rfl)) rfl rfl) se_bl rfl rfl rfl (fun _ => rfl)))
      ss_nil)) (fun _ => rfl))
  (ss_one (ss_ret (se_sorted rfl hr hB rfl rfl (se_n 2 rfl (by first | exact .inl rfl | exact .inr (.inl rfl) | exact .inr (.inr rfl)) rfl rfl))))))
theorem sc_rounds : FnScope ["book", "known", "found", "fresh", "word", "row"] ["book"] (defScope (top 21)) := ⟨rfl, rfl, rfl, by decide +kernel, rfl, by decide +kernel, by decide +kernel⟩
theorem ok_rounds {f : Addr} {fd : FuncData} (F : Fun K "rounds" "rounds" (top 21) f fd) (hm : mg "rounds" = some (.ref f)) (hB : Blt mg) (c_next_round : Callee P w K mg base ca 1 "next_round" 2 f_next_round) : Callee P w K mg base ca 2 "rounds" 1 f_rounds := by
  refine ⟨f, fd, ["book"], rfl, efn_body (N := ["book", "known", "found", "fresh", "word", "row"]) (b := b_rounds) F sc_rounds fun cdv A outer s H E hg hr => ?_, hm, F.kp, F.binds fun _ _ _ _ _ _ us hl => match us, hl with | [_], _ => rfl⟩
  have hG : (cxOf (L2N.CX P w) P w K mg base ["book", "known", "found", "fresh", "word", "row"] "rounds" (defScope (top 21)) f cdv A outer s H E).A.guards = some [] := by
    rw [← hg]; exact deeper_guards _ _
  have tk : L2N.Takes (cxOf (L2N.CX P w) P w K mg base ["book", "known", "found", "fresh", "word", "row"] "rounds" (defScope (top 21)) f cdv A outer s H E) (fun cls d _ H => E cls d H) := L2N.takes_of rfl rfl rfl rfl
  have nd := sc_rounds.nd
  have hp : PassesOwn _ _ _ (cxOf (L2N.CX P w) P w K mg base ["book", "known", "found", "fresh", "word", "row"] "rounds" (defScope (top 21)) f cdv A outer s H E).xe := passes_of rfl
  exact (ss_cons (ss_asg (i := 1) nd rfl (by first | exact .inl rfl | exact .inr rfl) se_dic0 rfl (by first | exact .inl rfl | exact .inr rfl))
  (ss_cons (ss_asg (i := 2) nd rfl (by first | exact .inl rfl | exact .inr rfl) (se_lst sa_nil) rfl (by first | exact .inl rfl | exact .inr rfl))
  (ss_cons (ss_setLc (i := 3) (own := [("word", 4)]) (by decide) rfl nd rfl rfl (sw_true rfl rfl rfl (by decide +kernel)) (si_seq (se_sorted rfl hr hB rfl rfl (se_setC rfl hr hB rfl rfl (se_lc (own := [("row", 5)]) (by decide) rfl nd (si_seq (se_n 0 rfl (by first | exact .inl rfl | exact .inr (.inl rfl) | exact .inr (.inr rfl)) rfl rfl)) (by exact blkOk_by (by kernel_rfl)) (fun _ _ _ _ _ => (sg_name (i := 5) nd rfl (by first | exact .inl rfl | exact .inr rfl) (by first | exact .inl rfl | exact .inr rfl))) (fun _ _ _ _ _ => (st_ifone (st_cmp (bin_eq (hu64 hr)) (se_len hB rfl rfl (se_ix (hu65 hr) (se_n 5 rfl (by first | exact .inl rfl | exact .inr (.inl rfl) | exact .inr (.inr rfl)) rfl rfl) se_int (fun _ _ => rfl))) se_int rfl))) (fun _ _ _ _ _ => (se_ix (hu65 hr) (se_n 5 rfl (by first | exact .inl rfl | exact .inr (.inl rfl) | exact .inr (.inr rfl)) rfl rfl) se_int (fun _ _ => rfl))) (fun _ => rfl))))) (by exact blkOk_by (by kernel_rfl)) (fun _ _ _ _ _ => (sg_name (i := 4) nd rfl (by first | exact .inl rfl | exact .inr rfl) (by first | exact .inl rfl | exact .inr rfl))) (fun _ _ _ _ _ => st_yes) (fun _ _ _ _ _ => (se_n 4 rfl (by first | exact .inl rfl | exact .inr (.inl rfl) | exact .inr (.inr rfl)) rfl rfl)) (fun _ => rfl))
  (ss_cons (ss_while (fg := [4]) hp (st_cmp bin_gt (se_len hB rfl rfl (se_n 3 rfl (by first | exact .inl rfl | exact .inr (.inl rfl) | exact .inr (.inr rfl)) rfl rfl)) se_int rfl)
    (ss_cons (ss_expr (se_app (j := 2) rfl (by first | exact .inl rfl | exact .inr (.inl rfl) | exact .inr (.inr rfl)) rfl rfl (se_n 3 rfl (by first | exact .inl rfl | exact .inr (.inl rfl) | exact .inr (.inr rfl)) rfl rfl) rfl rfl rfl rfl) rfl)
    (ss_cons (ss_for (fg := [4]) hp rfl (si_seq (se_n 3 rfl (by first | exact .inl rfl | exact .inr (.inl rfl) | exact .inr (.inr rfl)) rfl rfl)) (sg_name (i := 4) nd rfl (by first | exact .inl rfl | exact .inr rfl) (by first | exact .inl rfl | exact .inr rfl))
      (ss_one (ss_put (i := 1) (hu65 hr) rfl (by first | exact .inl rfl | exact .inr (.inl rfl) | exact .inr (.inr rfl)) rfl rfl (se_n 4 rfl (by first | exact .inl rfl | exact .inr (.inl rfl) | exact .inr (.inr rfl)) rfl rfl) se_bl rfl rfl rfl (fun _ => rfl))) (fun _ => rfl))
    (ss_one (ss_asg (i := 3) nd rfl (by first | exact .inl rfl | exact .inr rfl) (se_c c_next_round hG hr tk rfl rfl rfl rfl (sa_c rfl (se_n 0 rfl (by first | exact .inl rfl | exact .inr (.inl rfl) | exact .inr (.inr rfl)) rfl rfl) (sa_c rfl (se_n 1 rfl (by first | exact .inl rfl | exact .inr (.inl rfl) | exact .inr (.inr rfl)) rfl rfl) sa_nil))) rfl (by first | exact .inl rfl | exact .inr rfl))))))
  (ss_one (ss_ret (se_n 2 rfl (by first | exact .inl rfl | exact .inr (.inl rfl) | exact .inr (.inr rfl)) rfl rfl)))))))
theorem sc_learnt : FnScope ["book", "found", "some"] ["book"] (defScope (top 22)) := ⟨rfl, rfl, rfl, by decide +kernel, rfl, by decide +kernel, by decide +kernel⟩
theorem ok_learnt {f : Addr} {fd : FuncData} (F : Fun K "learnt" "learnt" (top 22) f fd) (hm : mg "learnt" = some (.ref f)) (hB : Blt mg) (c_rounds : Callee P w K mg base ca 2 "rounds" 1 f_rounds) : Callee P w K mg base ca 3 "learnt" 1 f_learnt := by
  refine ⟨f, fd, ["book"], rfl, efn_body (N := ["book", "found", "some"]) (b := b_learnt) F sc_learnt fun cdv A outer s H E hg hr => ?_, hm, F.kp, F.binds fun _ _ _ _ _ _ us hl => match us, hl with | [_], _ => rfl⟩
  have hG : (cxOf (L2N.CX P w) P w K mg base ["book", "found", "some"] "learnt" (defScope (top 22)) f cdv A outer s H E).A.guards = some [] := by
    rw [← hg]; exact deeper_guards _ _
  have tk : L2N.Takes (cxOf (L2N.CX P w) P w K mg base ["book", "found", "some"] "learnt" (defScope (top 22)) f cdv A outer s H E) (fun cls d _ H => E cls d H) := L2N.takes_of rfl rfl rfl rfl
  have nd := sc_learnt.nd
  have hp : PassesOwn _ _ _ (cxOf (L2N.CX P w) P w K mg base ["book", "found", "some"] "learnt" (defScope (top 22)) f cdv A outer s H E).xe := passes_of rfl
  exact (ss_cons (ss_asg (i := 1) nd rfl (by first | exact .inl rfl | exact .inr rfl) (se_lst sa_nil) rfl (by first | exact .inl rfl | exact .inr rfl))
  (ss_cons (ss_for (fg := [2]) hp rfl (si_seq (se_c c_rounds hG hr tk rfl rfl rfl rfl (sa_c rfl (se_n 0 rfl (by first | exact .inl rfl | exact .inr (.inl rfl) | exact .inr (.inr rfl)) rfl rfl) sa_nil))) (sg_name (i := 2) nd rfl (by first | exact .inl rfl | exact .inr rfl) (by first | exact .inl rfl | exact .inr rfl))
    (ss_one (ss_asg (i := 1) nd rfl (by first | exact .inl rfl | exact .inr rfl) (se_bin bin_add (se_n 1 rfl (by first | exact .inl rfl | exact .inr (.inl rfl) | exact .inr (.inr rfl)) rfl rfl) (se_n 2 rfl (by first | exact .inl rfl | exact .inr (.inl rfl) | exact .inr (.inr rfl)) rfl rfl)) rfl (by first | exact .inl rfl | exact .inr rfl))) (fun _ => rfl))
  (ss_one (ss_ret (se_sorted rfl hr hB rfl rfl (se_n 1 rfl (by first | exact .inl rfl | exact .inr (.inl rfl) | exact .inr (.inr rfl)) rfl rfl))))))
theorem sc_without_some : FnScope ["words", "others", "word"] ["words", "others"] (defScope (top 25)) := ⟨rfl, rfl, rfl, by decide +kernel, rfl, by decide +kernel, by decide +kernel⟩
theorem ok_without_some {f : Addr} {fd : FuncData} (F : Fun K "without_some" "without_some" (top 25) f fd) (hm : mg "without_some" = some (.ref f)) (hB : Blt mg) : Callee P w K mg base ca 1 "without_some" 2 f_without_some := by
  refine ⟨f, fd, ["words", "others"], rfl, efn_body (N := ["words", "others", "word"]) (b := b_without_some) F sc_without_some fun cdv A outer s H E hg hr => ?_, hm, F.kp, F.binds fun _ _ _ _ _ _ us hl => match us, hl with | [_, _], _ => rfl⟩
  have hG : (cxOf (L2N.CX P w) P w K mg base ["words", "others", "word"] "without_some" (defScope (top 25)) f cdv A outer s H E).A.guards = some [] := by
    rw [← hg]; exact deeper_guards _ _
  have tk : L2N.Takes (cxOf (L2N.CX P w) P w K mg base ["words", "others", "word"] "without_some" (defScope (top 25)) f cdv A outer s H E) (fun cls d _ H => E cls d H) := L2N.takes_of rfl rfl rfl rfl
  have nd := sc_without_some.nd
  have hp : PassesOwn _ _ _ (cxOf (L2N.CX P w) P w K mg base ["words", "others", "word"] "without_some" (defScope (top 25)) f cdv A outer s H E).xe := passes_of rfl
  exact (ss_one (ss_ret (se_lc (own := [("word", 2)]) (by decide) rfl nd (si_seq (se_n 0 rfl (by first | exact .inl rfl | exact .inr (.inl rfl) | exact .inr (.inr rfl)) rfl rfl)) (by exact blkOk_by (by kernel_rfl)) (fun _ _ _ _ _ => (sg_name (i := 2) nd rfl (by first | exact .inl rfl | exact .inr rfl) (by first | exact .inl rfl | exact .inr rfl))) (fun _ _ _ _ _ => (st_ifone (st_cmp (bin_notin (hu65 hr)) (se_n 2 rfl (by first | exact .inl rfl | exact .inr (.inl rfl) | exact .inr (.inr rfl)) rfl rfl) (se_n 1 rfl (by first | exact .inl rfl | exact .inr (.inl rfl) | exact .inr (.inr rfl)) rfl rfl) rfl))) (fun _ _ _ _ _ => (se_n 2 rfl (by first | exact .inl rfl | exact .inr (.inl rfl) | exact .inr (.inr rfl)) rfl rfl)) (fun _ => rfl))))
theorem sc_Shelf_turned : FnScope ["self", "book", "ahead", "behind"] ["self", "book"] (defScope (mth 26 1)) := ⟨rfl, rfl, rfl, by decide +kernel, rfl, by decide +kernel, by decide +kernel⟩
theorem ok_Shelf_turned {f : Addr} {fd : FuncData} (F : Fun K "turned" "Shelf.turned" (mth 26 1) f fd) (hm : Meth K (ca 9) "turned" f) (hB : Blt mg) (cl_Shelf : Cls K (ca 9)) (na_Shelf_now : NoAttr K (ca 9) "now") (c_learnt : Callee P w K mg base ca 3 "learnt" 1 f_learnt) (c_without_some : Callee P w K mg base ca 3 "without_some" 2 f_without_some) : CalleeM P w K mg base ca 4 9 "turned" 2 f_Shelf_turned := by
  refine ⟨f, fd, ["self", "book"], rfl, efn_body (N := ["self", "book", "ahead", "behind"]) (b := b_Shelf_turned) F sc_Shelf_turned fun cdv A outer s H E hg hr => ?_, hm, F.binds fun _ _ _ _ _ _ us hl => match us, hl with | [_, _], _ => rfl⟩
  have hG : (cxOf (L2N.CX P w) P w K mg base ["self", "book", "ahead", "behind"] "Shelf.turned" (defScope (mth 26 1)) f cdv A outer s H E).A.guards = some [] := by
    rw [← hg]; exact deeper_guards _ _
  have tk : L2N.Takes (cxOf (L2N.CX P w) P w K mg base ["self", "book", "ahead", "behind"] "Shelf.turned" (defScope (mth 26 1)) f cdv A outer s H E) (fun cls d _ H => E cls d H) := L2N.takes_of rfl rfl rfl rfl
  have nd := sc_Shelf_turned.nd
  have hp : PassesOwn _ _ _ (cxOf (L2N.CX P w) P w K mg base ["self", "book", "ahead", "behind"] "Shelf.turned" (defScope (mth 26 1)) f cdv A outer s H E).xe := passes_of rfl
  exact (ss_cons (ss_asg (i := 2) nd rfl (by first | exact .inl rfl | exact .inr rfl) (se_c c_learnt hG hr tk rfl rfl rfl rfl (sa_c rfl (se_fld cl_Shelf na_Shelf_now (se_n 0 rfl (by first | exact .inl rfl | exact .inr (.inl rfl) | exact .inr (.inr rfl)) rfl rfl) rfl) sa_nil)) rfl (by first | exact .inl rfl | exact .inr rfl))
  (ss_cons (ss_asg (i := 3) nd rfl (by first | exact .inl rfl | exact .inr rfl) (se_c c_learnt hG hr tk rfl rfl rfl rfl (sa_c rfl (se_n 1 rfl (by first | exact .inl rfl | exact .inr (.inl rfl) | exact .inr (.inr rfl)) rfl rfl) sa_nil)) rfl (by first | exact .inl rfl | exact .inr rfl))
  (ss_cons (ss_fld cl_Shelf na_Shelf_now (se_n 0 rfl (by first | exact .inl rfl | exact .inr (.inl rfl) | exact .inr (.inr rfl)) rfl rfl) (se_n 1 rfl (by first | exact .inl rfl | exact .inr (.inl rfl) | exact .inr (.inr rfl)) rfl rfl) rfl)
  (ss_one (ss_ret (se_tup (sa_c rfl (se_c c_without_some hG hr tk rfl rfl rfl rfl (sa_c rfl (se_n 3 rfl (by first | exact .inl rfl | exact .inr (.inl rfl) | exact .inr (.inr rfl)) rfl rfl) (sa_c rfl (se_n 2 rfl (by first | exact .inl rfl | exact .inr (.inl rfl) | exact .inr (.inr rfl)) rfl rfl) sa_nil))) (sa_c rfl (se_c c_without_some hG hr tk rfl rfl rfl rfl (sa_c rfl (se_n 2 rfl (by first | exact .inl rfl | exact .inr (.inl rfl) | exact .inr (.inr rfl)) rfl rfl) (sa_c rfl (se_n 3 rfl (by first | exact .inl rfl | exact .inr (.inl rfl) | exact .inr (.inr rfl)) rfl rfl) sa_nil))) sa_nil))))))))
theorem sc_Shelf_back : FnScope ["self"] ["self"] (defScope (mth 26 5)) := ⟨rfl, rfl, rfl, by decide +kernel, rfl, by decide +kernel, by decide +kernel⟩
theorem ok_Shelf_back {f : Addr} {fd : FuncData} (F : Fun K "back" "Shelf.back" (mth 26 5) f fd) (hm : Meth K (ca 9) "back" f) (hB : Blt mg) (cl_Shelf : Cls K (ca 9)) (na_Shelf_past : NoAttr K (ca 9) "past") (c_Shelf_turned : CalleeM P w K mg base ca 4 9 "turned" 2 f_Shelf_turned) (hX : Xf K mg ca [0, 2, 5, 7, 8]) : CalleeM P w K mg base ca 5 9 "back" 1 f_Shelf_back := by
  refine ⟨f, fd, ["self"], rfl, efn_body (N := ["self"]) (b := b_Shelf_back) F sc_Shelf_back fun cdv A outer s H E hg hr => ?_, hm, F.binds fun _ _ _ _ _ _ us hl => match us, hl with | [_], _ => rfl⟩
  have hG : (cxOf (L2N.CX P w) P w K mg base ["self"] "Shelf.back" (defScope (mth 26 5)) f cdv A outer s H E).A.guards = some [] := by
    rw [← hg]; exact deeper_guards _ _
  have tk : L2N.Takes (cxOf (L2N.CX P w) P w K mg base ["self"] "Shelf.back" (defScope (mth 26 5)) f cdv A outer s H E) (fun cls d _ H => E cls d H) := L2N.takes_of rfl rfl rfl rfl
  have nd := sc_Shelf_back.nd
  have hp : PassesOwn _ _ _ (cxOf (L2N.CX P w) P w K mg base ["self"] "Shelf.back" (defScope (mth 26 5)) f cdv A outer s H E).xe := passes_of rfl
  exact (ss_cons (ss_if (st_nilF cl_Shelf na_Shelf_past (pe_var rfl (by first | exact .inl rfl | exact .inr (.inl rfl) | exact .inr (.inr rfl)) rfl rfl) rfl (bin_eq (hu64 hr)) rfl)
    (ss_one (ss_raiseX hX 8 (by decide) rfl tk rfl rfl))
    ss_nil)
  (ss_one (ss_ret (se_meth c_Shelf_turned cl_Shelf hG hr tk rfl (se_n 0 rfl (by first | exact .inl rfl | exact .inr (.inl rfl) | exact .inr (.inr rfl)) rfl rfl) rfl (sa_c rfl (se_fldPop cl_Shelf na_Shelf_past (pe_var rfl (by first | exact .inl rfl | exact .inr (.inl rfl) | exact .inr (.inr rfl)) rfl rfl) rfl rfl rfl) sa_nil) rfl))))
theorem sc_is_number : FnScope ["text", "sign"] ["text"] (defScope (top 11)) := ⟨rfl, rfl, rfl, by decide +kernel, rfl, by decide +kernel, by decide +kernel⟩
theorem ok_is_number {f : Addr} {fd : FuncData} (F : Fun K "is_number" "is_number" (top 11) f fd) (hm : mg "is_number" = some (.ref f)) (hB : Blt mg) {t_FIGURES : Tok} (k_FIGURES : mg "FIGURES" = some (.str "0123456789" t_FIGURES)) : Callee P w K mg base ca 1 "is_number" 1 f_is_number := by
  refine ⟨f, fd, ["text"], rfl, efn_body (N := ["text", "sign"]) (b := b_is_number) F sc_is_number fun cdv A outer s H E hg hr => ?_, hm, F.kp, F.binds fun _ _ _ _ _ _ us hl => match us, hl with | [_], _ => rfl⟩
  have hG : (cxOf (L2N.CX P w) P w K mg base ["text", "sign"] "is_number" (defScope (top 11)) f cdv A outer s H E).A.guards = some [] := by
    rw [← hg]; exact deeper_guards _ _
  have tk : L2N.Takes (cxOf (L2N.CX P w) P w K mg base ["text", "sign"] "is_number" (defScope (top 11)) f cdv A outer s H E) (fun cls d _ H => E cls d H) := L2N.takes_of rfl rfl rfl rfl
  have nd := sc_is_number.nd
  have hp : PassesOwn _ _ _ (cxOf (L2N.CX P w) P w K mg base ["text", "sign"] "is_number" (defScope (top 11)) f cdv A outer s H E).xe := passes_of rfl
  exact (ss_cons (ss_if (PW.pt (st_or (st_not (st_chain bin_le bin_le se_int (se_len hB rfl rfl (se_n 0 rfl (by first | exact .inl rfl | exact .inr (.inl rfl) | exact .inr (.inr rfl)) rfl rfl)) se_int rfl)) (st_or1 (st_not (st_val (se_all rfl hB rfl rfl (se_lc (own := [("sign", 1)]) (by decide) rfl nd (si_seq (se_n 0 rfl (by first | exact .inl rfl | exact .inr (.inl rfl) | exact .inr (.inr rfl)) rfl rfl)) (by exact blkOk_by (by kernel_rfl)) (fun _ _ _ _ _ => (sg_name (i := 1) nd rfl (by first | exact .inl rfl | exact .inr rfl) (by first | exact .inl rfl | exact .inr rfl))) (fun _ _ _ _ _ => st_yes) (fun _ _ _ _ _ => (se_cmp (bin_in (hu65 hr)) (se_n 1 rfl (by first | exact .inl rfl | exact .inr (.inl rfl) | exact .inr (.inr rfl)) rfl rfl) (se_glob (v := .str "0123456789") rfl k_FIGURES ⟨_, rfl⟩ rfl (fun _ _ => .str _)) rfl)) (fun _ => rfl))) (fun _ => rfl))))))
    (ss_one (ss_ret se_bl))
    ss_nil)
  (ss_one (ss_ret (se_and (se_cmp (bin_ne (hu64 hr)) (se_ix (hu65 hr) (se_n 0 rfl (by first | exact .inl rfl | exact .inr (.inl rfl) | exact .inr (.inr rfl)) rfl rfl) se_int (fun _ _ => rfl)) se_str rfl) (se_one (se_cmp (bin_ne (hu64 hr)) (se_n 0 rfl (by first | exact .inl rfl | exact .inr (.inl rfl) | exact .inr (.inr rfl)) rfl rfl) se_str rfl))))))
theorem sc_is_stem : FnScope ["text", "sign"] ["text"] (defScope (top 10)) := ⟨rfl, rfl, rfl, by decide +kernel, rfl, by decide +kernel, by decide +kernel⟩
theorem ok_is_stem {f : Addr} {fd : FuncData} (F : Fun K "is_stem" "is_stem" (top 10) f fd) (hm : mg "is_stem" = some (.ref f)) (hB : Blt mg) {t_LETTERS : Tok} (k_LETTERS : mg "LETTERS" = some (.str "abcdefghijklmnopqrstuvwxyz" t_LETTERS)) {t_LONGEST : Tok} (k_LONGEST : mg "LONGEST" = some (.int 8 t_LONGEST)) : Callee P w K mg base ca 1 "is_stem" 1 f_is_stem := by
  refine ⟨f, fd, ["text"], rfl, efn_body (N := ["text", "sign"]) (b := b_is_stem) F sc_is_stem fun cdv A outer s H E hg hr => ?_, hm, F.kp, F.binds fun _ _ _ _ _ _ us hl => match us, hl with | [_], _ => rfl⟩
  have hG : (cxOf (L2N.CX P w) P w K mg base ["text", "sign"] "is_stem" (defScope (top 10)) f cdv A outer s H E).A.guards = some [] := by
    rw [← hg]; exact deeper_guards _ _
  have tk : L2N.Takes (cxOf (L2N.CX P w) P w K mg base ["text", "sign"] "is_stem" (defScope (top 10)) f cdv A outer s H E) (fun cls d _ H => E cls d H) := L2N.takes_of rfl rfl rfl rfl
  have nd := sc_is_stem.nd
  have hp : PassesOwn _ _ _ (cxOf (L2N.CX P w) P w K mg base ["text", "sign"] "is_stem" (defScope (top 10)) f cdv A outer s H E).xe := passes_of rfl
  exact (ss_one (ss_ret (se_and (se_chain bin_le bin_le se_int (se_len hB rfl rfl (se_n 0 rfl (by first | exact .inl rfl | exact .inr (.inl rfl) | exact .inr (.inr rfl)) rfl rfl)) (se_glob (v := .int 8) rfl k_LONGEST ⟨_, rfl⟩ rfl (fun _ _ => .int _)) rfl) (se_one (se_all rfl hB rfl rfl (se_lc (own := [("sign", 1)]) (by decide) rfl nd (si_seq (se_n 0 rfl (by first | exact .inl rfl | exact .inr (.inl rfl) | exact .inr (.inr rfl)) rfl rfl)) (by exact blkOk_by (by kernel_rfl)) (fun _ _ _ _ _ => (sg_name (i := 1) nd rfl (by first | exact .inl rfl | exact .inr rfl) (by first | exact .inl rfl | exact .inr rfl))) (fun _ _ _ _ _ => st_yes) (fun _ _ _ _ _ => (se_cmp (bin_in (hu65 hr)) (se_n 1 rfl (by first | exact .inl rfl | exact .inr (.inl rfl) | exact .inr (.inr rfl)) rfl rfl) (se_glob (v := .str "abcdefghijklmnopqrstuvwxyz") rfl k_LETTERS ⟨_, rfl⟩ rfl (fun _ _ => .str _)) rfl)) (fun _ => rfl)))))))
theorem sc_is_word : FnScope ["text", "parts"] ["text"] (defScope (top 12)) := ⟨rfl, rfl, rfl, by decide +kernel, rfl, by decide +kernel, by decide +kernel⟩
theorem ok_is_word {f : Addr} {fd : FuncData} (F : Fun K "is_word" "is_word" (top 12) f fd) (hm : mg "is_word" = some (.ref f)) (hB : Blt mg) (c_is_stem : Callee P w K mg base ca 1 "is_stem" 1 f_is_stem) (c_is_number : Callee P w K mg base ca 1 "is_number" 1 f_is_number) : Callee P w K mg base ca 2 "is_word" 1 f_is_word := by
  refine ⟨f, fd, ["text"], rfl, efn_body (N := ["text", "parts"]) (b := b_is_word) F sc_is_word fun cdv A outer s H E hg hr => ?_, hm, F.kp, F.binds fun _ _ _ _ _ _ us hl => match us, hl with | [_], _ => rfl⟩
  have hG : (cxOf (L2N.CX P w) P w K mg base ["text", "parts"] "is_word" (defScope (top 12)) f cdv A outer s H E).A.guards = some [] := by
    rw [← hg]; exact deeper_guards _ _
  have tk : L2N.Takes (cxOf (L2N.CX P w) P w K mg base ["text", "parts"] "is_word" (defScope (top 12)) f cdv A outer s H E) (fun cls d _ H => E cls d H) := L2N.takes_of rfl rfl rfl rfl
  have nd := sc_is_word.nd
  have hp : PassesOwn _ _ _ (cxOf (L2N.CX P w) P w K mg base ["text", "parts"] "is_word" (defScope (top 12)) f cdv A outer s H E).xe := passes_of rfl
  exact (ss_cons (ss_asg (i := 1) nd rfl (by first | exact .inl rfl | exact .inr rfl) (se_split (se_n 0 rfl (by first | exact .inl rfl | exact .inr (.inl rfl) | exact .inr (.inr rfl)) rfl rfl) se_str rfl rfl rfl) rfl (by first | exact .inl rfl | exact .inr rfl))
  (ss_cons (ss_if (st_not (st_val (se_c c_is_stem hG hr tk rfl rfl rfl rfl (sa_c rfl (se_ix (hu65 hr) (se_n 1 rfl (by first | exact .inl rfl | exact .inr (.inl rfl) | exact .inr (.inr rfl)) rfl rfl) se_int (fun _ _ => rfl)) sa_nil)) (fun _ => rfl)))
    (ss_one (ss_ret se_bl))
    ss_nil)
  (ss_one (ss_ret (se_or (se_cmp (bin_eq (hu64 hr)) (se_len hB rfl rfl (se_n 1 rfl (by first | exact .inl rfl | exact .inr (.inl rfl) | exact .inr (.inr rfl)) rfl rfl)) se_int rfl) (se_one (se_and (se_cmp (bin_eq (hu64 hr)) (se_len hB rfl rfl (se_n 1 rfl (by first | exact .inl rfl | exact .inr (.inl rfl) | exact .inr (.inr rfl)) rfl rfl)) se_int rfl) (se_one (se_c c_is_number hG hr tk rfl rfl rfl rfl (sa_c rfl (se_ix (hu65 hr) (se_n 1 rfl (by first | exact .inl rfl | exact .inr (.inl rfl) | exact .inr (.inr rfl)) rfl rfl) se_int (fun _ _ => rfl)) sa_nil))))))))))
theorem sc_is_row : FnScope ["word", "told", "one"] ["word", "told"] (defScope (top 17)) := ⟨rfl, rfl, rfl, by decide +kernel, rfl, by decide +kernel, by decide +kernel⟩
theorem ok_is_row {f : Addr} {fd : FuncData} (F : Fun K "is_row" "is_row" (top 17) f fd) (hm : mg "is_row" = some (.ref f)) (hB : Blt mg) (c_is_word : Callee P w K mg base ca 2 "is_word" 1 f_is_word) {t_TOLD : Tok} (k_TOLD : mg "TOLD" = some (.int 8 t_TOLD)) : Callee P w K mg base ca 3 "is_row" 2 f_is_row := by
  refine ⟨f, fd, ["word", "told"], rfl, efn_body (N := ["word", "told", "one"]) (b := b_is_row) F sc_is_row fun cdv A outer s H E hg hr => ?_, hm, F.kp, F.binds fun _ _ _ _ _ _ us hl => match us, hl with | [_, _], _ => rfl⟩
  have hG : (cxOf (L2N.CX P w) P w K mg base ["word", "told", "one"] "is_row" (defScope (top 17)) f cdv A outer s H E).A.guards = some [] := by
    rw [← hg]; exact deeper_guards _ _
  have tk : L2N.Takes (cxOf (L2N.CX P w) P w K mg base ["word", "told", "one"] "is_row" (defScope (top 17)) f cdv A outer s H E) (fun cls d _ H => E cls d H) := L2N.takes_of rfl rfl rfl rfl
  have nd := sc_is_row.nd
  have hp : PassesOwn _ _ _ (cxOf (L2N.CX P w) P w K mg base ["word", "told", "one"] "is_row" (defScope (top 17)) f cdv A outer s H E).xe := passes_of rfl
  exact (ss_cons (ss_if (PW.pt (st_or (st_not (st_val (se_c c_is_word hG hr tk rfl rfl rfl rfl (sa_c rfl (se_n 0 rfl (by first | exact .inl rfl | exact .inr (.inl rfl) | exact .inr (.inr rfl)) rfl rfl) sa_nil)) (fun _ => rfl))) (st_or (st_cmp bin_gt (se_len hB rfl rfl (se_n 1 rfl (by first | exact .inl rfl | exact .inr (.inl rfl) | exact .inr (.inr rfl)) rfl rfl)) (se_glob (v := .int 8) rfl k_TOLD ⟨_, rfl⟩ rfl (fun _ _ => .int _)) rfl) (st_or1 (st_cmp bin_lt (se_len hB rfl rfl (se_setC rfl hr hB rfl rfl (se_n 1 rfl (by first | exact .inl rfl | exact .inr (.inl rfl) | exact .inr (.inr rfl)) rfl rfl))) (se_len hB rfl rfl (se_n 1 rfl (by first | exact .inl rfl | exact .inr (.inl rfl) | exact .inr (.inr rfl)) rfl rfl)) rfl)))))
    (ss_one (ss_ret se_bl))
    ss_nil)
  (ss_one (ss_ret (se_all rfl hB rfl rfl (se_lc (own := [("one", 2)]) (by decide) rfl nd (si_seq (se_n 1 rfl (by first | exact .inl rfl | exact .inr (.inl rfl) | exact .inr (.inr rfl)) rfl rfl)) (by exact blkOk_by (by kernel_rfl)) (fun _ _ _ _ _ => (sg_name (i := 2) nd rfl (by first | exact .inl rfl | exact .inr rfl) (by first | exact .inl rfl | exact .inr rfl))) (fun _ _ _ _ _ => st_yes) (fun _ _ _ _ _ => (se_c c_is_word hG hr takesN0 rfl rfl rfl rfl (sa_c rfl (se_n 2 rfl (by first | exact .inl rfl | exact .inr (.inl rfl) | exact .inr (.inr rfl)) rfl rfl) sa_nil))) (fun _ => rfl))))))
theorem sc_fits : FnScope ["book", "seen", "word", "told", "key"] ["book"] (defScope (top 18)) := ⟨rfl, rfl, rfl, by decide +kernel, rfl, by decide +kernel, by decide +kernel⟩
theorem ok_fits {f : Addr} {fd : FuncData} (F : Fun K "fits" "fits" (top 18) f fd) (hm : mg "fits" = some (.ref f)) (hB : Blt mg) (c_is_row : Callee P w K mg base ca 3 "is_row" 2 f_is_row) {t_ROWS : Tok} (k_ROWS : mg "ROWS" = some (.int 60 t_ROWS)) : Callee P w K mg base ca 4 "fits" 1 f_fits := by
  refine ⟨f, fd, ["book"], rfl, efn_body (N := ["book", "seen", "word", "told", "key"]) (b := b_fits) F sc_fits fun cdv A outer s H E hg hr => ?_, hm, F.kp, F.binds fun _ _ _ _ _ _ us hl => match us, hl with | [_], _ => rfl⟩
  have hG : (cxOf (L2N.CX P w) P w K mg base ["book", "seen", "word", "told", "key"] "fits" (defScope (top 18)) f cdv A outer s H E).A.guards = some [] := by
    rw [← hg]; exact deeper_guards _ _
  have tk : L2N.Takes (cxOf (L2N.CX P w) P w K mg base ["book", "seen", "word", "told", "key"] "fits" (defScope (top 18)) f cdv A outer s H E) (fun cls d _ H => E cls d H) := L2N.takes_of rfl rfl rfl rfl
  have nd := sc_fits.nd
  have hp : PassesOwn _ _ _ (cxOf (L2N.CX P w) P w K mg base ["book", "seen", "word", "told", "key"] "fits" (defScope (top 18)) f cdv A outer s H E).xe := passes_of rfl
  exact (ss_cons (ss_if (st_cmp bin_gt (se_len hB rfl rfl (se_n 0 rfl (by first | exact .inl rfl | exact .inr (.inl rfl) | exact .inr (.inr rfl)) rfl rfl)) (se_glob (v := .int 60) rfl k_ROWS ⟨_, rfl⟩ rfl (fun _ _ => .int _)) rfl)
    (ss_one (ss_ret se_bl))
    ss_nil)
  (ss_cons (ss_asg (i := 1) nd rfl (by first | exact .inl rfl | exact .inr rfl) se_dic0 rfl (by first | exact .inl rfl | exact .inr rfl))
  (ss_cons (ss_for (fg := [2, 3, 4]) hp rfl (si_seq (se_n 0 rfl (by first | exact .inl rfl | exact .inr (.inl rfl) | exact .inr (.inr rfl)) rfl rfl)) (sg_tup rfl (sg_cons (pg_name (i := 2) nd rfl (by first | exact .inl rfl | exact .inr rfl) (by first | exact .inl rfl | exact .inr rfl)) (sg_cons (pg_name (i := 3) nd rfl (by first | exact .inl rfl | exact .inr rfl) (by first | exact .inl rfl | exact .inr rfl)) sg_nil rfl) rfl) rfl rfl)
    (ss_cons (ss_asg (i := 4) nd rfl (by first | exact .inl rfl | exact .inr rfl) (se_tup (sa_c rfl (se_n 2 rfl (by first | exact .inl rfl | exact .inr (.inl rfl) | exact .inr (.inr rfl)) rfl rfl) (sa_c rfl (se_tuple hB rfl rfl (se_sorted rfl hr hB rfl rfl (se_n 3 rfl (by first | exact .inl rfl | exact .inr (.inl rfl) | exact .inr (.inr rfl)) rfl rfl))) sa_nil))) rfl (by first | exact .inl rfl | exact .inr rfl))
    (ss_cons (ss_if (PW.pt (st_or (st_not (st_val (se_c c_is_row hG hr tk rfl rfl rfl rfl (sa_c rfl (se_n 2 rfl (by first | exact .inl rfl | exact .inr (.inl rfl) | exact .inr (.inr rfl)) rfl rfl) (sa_c rfl (se_n 3 rfl (by first | exact .inl rfl | exact .inr (.inl rfl) | exact .inr (.inr rfl)) rfl rfl) sa_nil))) (fun _ => rfl))) (st_or1 (st_cmp (bin_in (hu65 hr)) (se_n 4 rfl (by first | exact .inl rfl | exact .inr (.inl rfl) | exact .inr (.inr rfl)) rfl rfl) (se_n 1 rfl (by first | exact .inl rfl | exact .inr (.inl rfl) | exact .inr (.inr rfl)) rfl rfl) rfl))))
      (ss_one (ss_ret se_bl))
      ss_nil)
    (ss_one (ss_put (i := 1) (hu65 hr) rfl (by first | exact .inl rfl | exact .inr (.inl rfl) | exact .inr (.inr rfl)) rfl rfl (se_n 4 rfl (by first | exact .inl rfl | exact .inr (.inl rfl) | exact .inr (.inr rfl)) rfl rfl) se_bl rfl rfl rfl (fun _ => rfl))))) (fun _ => rfl))
  (ss_one (ss_ret se_bl)))))
theorem sc_alike : FnScope ["row", "other"] ["row", "other"] (defScope (top 16)) := ⟨rfl, rfl, rfl, by decide +kernel, rfl, by decide +kernel, by decide +kernel⟩
theorem ok_alike {f : Addr} {fd : FuncData} (F : Fun K "alike" "alike" (top 16) f fd) (hm : mg "alike" = some (.ref f)) (hB : Blt mg) : Callee P w K mg base ca 1 "alike" 2 f_alike := by
  refine ⟨f, fd, ["row", "other"], rfl, efn_body (N := ["row", "other"]) (b := b_alike) F sc_alike fun cdv A outer s H E hg hr => ?_, hm, F.kp, F.binds fun _ _ _ _ _ _ us hl => match us, hl with | [_, _], _ => rfl⟩
  have hG : (cxOf (L2N.CX P w) P w K mg base ["row", "other"] "alike" (defScope (top 16)) f cdv A outer s H E).A.guards = some [] := by
    rw [← hg]; exact deeper_guards _ _
  have tk : L2N.Takes (cxOf (L2N.CX P w) P w K mg base ["row", "other"] "alike" (defScope (top 16)) f cdv A outer s H E) (fun cls d _ H => E cls d H) := L2N.takes_of rfl rfl rfl rfl
  have nd := sc_alike.nd
  have hp : PassesOwn _ _ _ (cxOf (L2N.CX P w) P w K mg base ["row", "other"] "alike" (defScope (top 16)) f cdv A outer s H E).xe := passes_of rfl
  exact (ss_one (ss_ret (se_and (se_cmp (bin_eq (hu64 hr)) (se_ix (hu65 hr) (se_n 0 rfl (by first | exact .inl rfl | exact .inr (.inl rfl) | exact .inr (.inr rfl)) rfl rfl) se_int (fun _ _ => rfl)) (se_ix (hu65 hr) (se_n 1 rfl (by first | exact .inl rfl | exact .inr (.inl rfl) | exact .inr (.inr rfl)) rfl rfl) se_int (fun _ _ => rfl)) rfl) (se_one (se_cmp (bin_eq (hu64 hr)) (se_sorted rfl hr hB rfl rfl (se_ix (hu65 hr) (se_n 0 rfl (by first | exact .inl rfl | exact .inr (.inl rfl) | exact .inr (.inr rfl)) rfl rfl) se_int (fun _ _ => rfl))) (se_sorted rfl hr hB rfl rfl (se_ix (hu65 hr) (se_n 1 rfl (by first | exact .inl rfl | exact .inr (.inl rfl) | exact .inr (.inr rfl)) rfl rfl) se_int (fun _ _ => rfl))) rfl)))))
theorem sc_Shelf_place_of : FnScope ["self", "word", "told", "place"] ["self", "word", "told"] (defScope (mth 26 2)) := ⟨rfl, rfl, rfl, by decide +kernel, rfl, by decide +kernel, by decide +kernel⟩
theorem ok_Shelf_place_of {f : Addr} {fd : FuncData} (F : Fun K "place_of" "Shelf.place_of" (mth 26 2) f fd) (hm : Meth K (ca 9) "place_of" f) (hB : Blt mg) (cl_Shelf : Cls K (ca 9)) (na_Shelf_now : NoAttr K (ca 9) "now") (c_alike : Callee P w K mg base ca 1 "alike" 2 f_alike) : CalleeM P w K mg base ca 2 9 "place_of" 3 f_Shelf_place_of_2 := by
  refine ⟨f, fd, ["self", "word", "told"], rfl, efn_body (N := ["self", "word", "told", "place"]) (b := b_Shelf_place_of_2) F sc_Shelf_place_of fun cdv A outer s H E hg hr => ?_, hm, F.binds fun _ _ _ _ _ _ us hl => match us, hl with | [_, _, _], _ => rfl⟩
  have hG : (cxOf (L2N.CX P w) P w K mg base ["self", "word", "told", "place"] "Shelf.place_of" (defScope (mth 26 2)) f cdv A outer s H E).A.guards = some [] := by
    rw [← hg]; exact deeper_guards _ _
  have tk : L2N.Takes (cxOf (L2N.CX P w) P w K mg base ["self", "word", "told", "place"] "Shelf.place_of" (defScope (mth 26 2)) f cdv A outer s H E) (fun cls d _ H => E cls d H) := L2N.takes_of rfl rfl rfl rfl
  have nd := sc_Shelf_place_of.nd
  have hp : PassesOwn _ _ _ (cxOf (L2N.CX P w) P w K mg base ["self", "word", "told", "place"] "Shelf.place_of" (defScope (mth 26 2)) f cdv A outer s H E).xe := passes_of rfl
  exact (ss_cons (ss_for (fg := [3]) hp rfl (si_rng1 rfl hB.range (sa_c rfl (se_len hB rfl rfl (se_fld cl_Shelf na_Shelf_now (se_n 0 rfl (by first | exact .inl rfl | exact .inr (.inl rfl) | exact .inr (.inr rfl)) rfl rfl) rfl)) sa_nil) rfl) (sg_name (i := 3) nd rfl (by first | exact .inl rfl | exact .inr rfl) (by first | exact .inl rfl | exact .inr rfl))
    (ss_one (ss_if (st_val (se_lend (j := 2) (se_c c_alike hG hr tk rfl rfl rfl rfl (sa_c rfl (se_ix (hu65 hr) (se_fld cl_Shelf na_Shelf_now (se_n 0 rfl (by first | exact .inl rfl | exact .inr (.inl rfl) | exact .inr (.inr rfl)) rfl rfl) rfl) (se_n 3 rfl (by first | exact .inl rfl | exact .inr (.inl rfl) | exact .inr (.inr rfl)) rfl rfl) (fun _ _ => rfl)) (sa_c rfl (se_tup (sa_c rfl (se_n 1 rfl (by first | exact .inl rfl | exact .inr (.inl rfl) | exact .inr (.inr rfl)) rfl rfl) (sa_c rfl (se_n 2 rfl (by first | exact .inl rfl | exact .inr (.inl rfl) | exact .inr (.inr rfl)) rfl rfl) sa_nil))) sa_nil)))) (fun _ => rfl))
      (ss_one (ss_ret (se_n 3 rfl (by first | exact .inl rfl | exact .inr (.inl rfl) | exact .inr (.inr rfl)) rfl rfl)))
      ss_nil)) (fun _ => rfl))
  (ss_one (ss_ret se_non)))
theorem sc_Shelf_put : FnScope ["self", "word", "told", "row"] ["self", "word", "told"] (defScope (mth 26 3)) := ⟨rfl, rfl, rfl, by decide +kernel, rfl, by decide +kernel, by decide +kernel⟩
theorem ok_Shelf_put {f : Addr} {fd : FuncData} (F : Fun K "put" "Shelf.put" (mth 26 3) f fd) (hm : Meth K (ca 9) "put" f) (hB : Blt mg) (cl_Shelf : Cls K (ca 9)) (na_Shelf_now : NoAttr K (ca 9) "now") (na_Shelf_past : NoAttr K (ca 9) "past") (c_Shelf_place_of : CalleeM P w K mg base ca 4 9 "place_of" 3 f_Shelf_place_of_2) (c_fits : Callee P w K mg base ca 4 "fits" 1 f_fits) (c_Shelf_turned : CalleeM P w K mg base ca 4 9 "turned" 2 f_Shelf_turned) (hX : Xf K mg ca [0, 2, 5, 7, 8]) {t_MOST : Tok} (k_MOST : mg "MOST" = some (.int 60 t_MOST)) : CalleeM P w K mg base ca 5 9 "put" 3 f_Shelf_put_3 := by
  refine ⟨f, fd, ["self", "word", "told"], rfl, efn_body (N := ["self", "word", "told", "row"]) (b := b_Shelf_put_3) F sc_Shelf_put fun cdv A outer s H E hg hr => ?_, hm, F.binds fun _ _ _ _ _ _ us hl => match us, hl with | [_, _, _], _ => rfl⟩
  have hG : (cxOf (L2N.CX P w) P w K mg base ["self", "word", "told", "row"] "Shelf.put" (defScope (mth 26 3)) f cdv A outer s H E).A.guards = some [] := by
    rw [← hg]; exact deeper_guards _ _
  have tk : L2N.Takes (cxOf (L2N.CX P w) P w K mg base ["self", "word", "told", "row"] "Shelf.put" (defScope (mth 26 3)) f cdv A outer s H E) (fun cls d _ H => E cls d H) := L2N.takes_of rfl rfl rfl rfl
  have nd := sc_Shelf_put.nd
  have hp : PassesOwn _ _ _ (cxOf (L2N.CX P w) P w K mg base ["self", "word", "told", "row"] "Shelf.put" (defScope (mth 26 3)) f cdv A outer s H E).xe := passes_of rfl
  exact (ss_cons (ss_asg (i := 3) nd rfl (by first | exact .inl rfl | exact .inr rfl) (se_tup (sa_c rfl (se_n 1 rfl (by first | exact .inl rfl | exact .inr (.inl rfl) | exact .inr (.inr rfl)) rfl rfl) (sa_c rfl (se_tuple hB rfl rfl (se_n 2 rfl (by first | exact .inl rfl | exact .inr (.inl rfl) | exact .inr (.inr rfl)) rfl rfl)) sa_nil))) rfl (by first | exact .inl rfl | exact .inr rfl))
  (ss_cons (ss_if (PW.pt (st_or (st_not (st_val (se_c c_fits hG hr tk rfl rfl rfl rfl (sa_c rfl (se_tup (sa_c rfl (se_n 3 rfl (by first | exact .inl rfl | exact .inr (.inl rfl) | exact .inr (.inr rfl)) rfl rfl) sa_nil)) sa_nil)) (fun _ => rfl))) (st_or1 (st_cmp bin_isnot (se_meth c_Shelf_place_of cl_Shelf hG hr tk rfl (se_n 0 rfl (by first | exact .inl rfl | exact .inr (.inl rfl) | exact .inr (.inr rfl)) rfl rfl) rfl (sa_c rfl (se_n 1 rfl (by first | exact .inl rfl | exact .inr (.inl rfl) | exact .inr (.inr rfl)) rfl rfl) (sa_c rfl (se_n 2 rfl (by first | exact .inl rfl | exact .inr (.inl rfl) | exact .inr (.inr rfl)) rfl rfl) sa_nil)) rfl) se_non rfl))))
    (ss_one (ss_raiseX hX 2 (by decide) rfl tk rfl rfl))
    ss_nil)
  (ss_cons (ss_if (st_cmp bin_ge (se_len hB rfl rfl (se_fld cl_Shelf na_Shelf_now (se_n 0 rfl (by first | exact .inl rfl | exact .inr (.inl rfl) | exact .inr (.inr rfl)) rfl rfl) rfl)) (se_glob (v := .int 60) rfl k_MOST ⟨_, rfl⟩ rfl (fun _ _ => .int _)) rfl)
    (ss_one (ss_raiseX hX 5 (by decide) rfl tk rfl rfl))
    ss_nil)
  (ss_cons (ss_fldApp cl_Shelf na_Shelf_past na_Shelf_now (pe_var rfl (by first | exact .inl rfl | exact .inr (.inl rfl) | exact .inr (.inr rfl)) rfl rfl) (pe_var rfl (by first | exact .inl rfl | exact .inr (.inl rfl) | exact .inr (.inr rfl)) rfl rfl) rfl rfl rfl rfl rfl)
  (ss_one (ss_ret (se_meth c_Shelf_turned cl_Shelf hG hr tk rfl (se_n 0 rfl (by first | exact .inl rfl | exact .inr (.inl rfl) | exact .inr (.inr rfl)) rfl rfl) rfl (sa_c rfl (se_bin bin_add (se_fld cl_Shelf na_Shelf_now (se_n 0 rfl (by first | exact .inl rfl | exact .inr (.inl rfl) | exact .inr (.inr rfl)) rfl rfl) rfl) (se_tup (sa_c rfl (se_n 3 rfl (by first | exact .inl rfl | exact .inr (.inl rfl) | exact .inr (.inr rfl)) rfl rfl) sa_nil))) sa_nil) rfl)))))))
theorem sc_Shelf_take : FnScope ["self", "word", "told", "place"] ["self", "word", "told"] (defScope (mth 26 4)) := ⟨rfl, rfl, rfl, by decide +kernel, rfl, by decide +kernel, by decide +kernel⟩
theorem ok_Shelf_take {f : Addr} {fd : FuncData} (F : Fun K "take" "Shelf.take" (mth 26 4) f fd) (hm : Meth K (ca 9) "take" f) (hB : Blt mg) (cl_Shelf : Cls K (ca 9)) (na_Shelf_past : NoAttr K (ca 9) "past") (na_Shelf_now : NoAttr K (ca 9) "now") (c_Shelf_place_of : CalleeM P w K mg base ca 4 9 "place_of" 3 f_Shelf_place_of_2) (c_Shelf_turned : CalleeM P w K mg base ca 4 9 "turned" 2 f_Shelf_turned) (hX : Xf K mg ca [0, 2, 5, 7, 8]) : CalleeM P w K mg base ca 5 9 "take" 3 f_Shelf_take_2 := by
  refine ⟨f, fd, ["self", "word", "told"], rfl, efn_body (N := ["self", "word", "told", "place"]) (b := b_Shelf_take_2) F sc_Shelf_take fun cdv A outer s H E hg hr => ?_, hm, F.binds fun _ _ _ _ _ _ us hl => match us, hl with | [_, _, _], _ => rfl⟩
  have hG : (cxOf (L2N.CX P w) P w K mg base ["self", "word", "told", "place"] "Shelf.take" (defScope (mth 26 4)) f cdv A outer s H E).A.guards = some [] := by
    rw [← hg]; exact deeper_guards _ _
  have tk : L2N.Takes (cxOf (L2N.CX P w) P w K mg base ["self", "word", "told", "place"] "Shelf.take" (defScope (mth 26 4)) f cdv A outer s H E) (fun cls d _ H => E cls d H) := L2N.takes_of rfl rfl rfl rfl
  have nd := sc_Shelf_take.nd
  have hp : PassesOwn _ _ _ (cxOf (L2N.CX P w) P w K mg base ["self", "word", "told", "place"] "Shelf.take" (defScope (mth 26 4)) f cdv A outer s H E).xe := passes_of rfl
  exact (ss_cons (ss_asg (i := 3) nd rfl (by first | exact .inl rfl | exact .inr rfl) (se_meth c_Shelf_place_of cl_Shelf hG hr tk rfl (se_n 0 rfl (by first | exact .inl rfl | exact .inr (.inl rfl) | exact .inr (.inr rfl)) rfl rfl) rfl (sa_c rfl (se_n 1 rfl (by first | exact .inl rfl | exact .inr (.inl rfl) | exact .inr (.inr rfl)) rfl rfl) (sa_c rfl (se_n 2 rfl (by first | exact .inl rfl | exact .inr (.inl rfl) | exact .inr (.inr rfl)) rfl rfl) sa_nil)) rfl) rfl (by first | exact .inl rfl | exact .inr rfl))
  (ss_cons (ss_if (st_cmp bin_is (se_n 3 rfl (by first | exact .inl rfl | exact .inr (.inl rfl) | exact .inr (.inr rfl)) rfl rfl) se_non rfl)
    (ss_one (ss_raiseX hX 7 (by decide) rfl tk rfl rfl))
    ss_nil)
  (ss_cons (ss_fldApp cl_Shelf na_Shelf_past na_Shelf_now (pe_var rfl (by first | exact .inl rfl | exact .inr (.inl rfl) | exact .inr (.inr rfl)) rfl rfl) (pe_var rfl (by first | exact .inl rfl | exact .inr (.inl rfl) | exact .inr (.inr rfl)) rfl rfl) rfl rfl rfl rfl rfl)
  (ss_one (ss_ret (se_meth c_Shelf_turned cl_Shelf hG hr tk rfl (se_n 0 rfl (by first | exact .inl rfl | exact .inr (.inl rfl) | exact .inr (.inr rfl)) rfl rfl) rfl (sa_c rfl (se_bin bin_add (se_slice (se_fld cl_Shelf na_Shelf_now (se_n 0 rfl (by first | exact .inl rfl | exact .inr (.inl rfl) | exact .inr (.inr rfl)) rfl rfl) rfl) so_none (so_some (se_n 3 rfl (by first | exact .inl rfl | exact .inr (.inl rfl) | exact .inr (.inr rfl)) rfl rfl))) (se_slice (se_fld cl_Shelf na_Shelf_now (se_n 0 rfl (by first | exact .inl rfl | exact .inr (.inl rfl) | exact .inr (.inr rfl)) rfl rfl) rfl) (so_some (se_bin bin_add (se_n 3 rfl (by first | exact .inl rfl | exact .inr (.inl rfl) | exact .inr (.inr rfl)) rfl rfl) se_int)) so_none)) sa_nil) rfl))))))
theorem sc__law_deed : FnScope ["_law_shelf", "_law_drawn_here", "_law_names_here", "_law_rows", "_law_past", "_law_row", "_law_kind", "_law_handed", "_law_turn", "_law_behind", "_law_at", "_law_told_here", "_law_cut"] ["_law_shelf", "_law_drawn_here", "_law_names_here", "_law_rows", "_law_past"] (defScope (top 38)) := ⟨rfl, rfl, rfl, by decide +kernel, rfl, by decide +kernel, by decide +kernel⟩
theorem ok__law_deed {f : Addr} {fd : FuncData} (F : Fun K "_law_deed" "_law_deed" (top 38) f fd) (hm : mg "_law_deed" = some (.ref f)) (hB : Blt mg) (cl_Shelf : Cls K (ca 9)) (c__law_told : Callee P w K mg base ca 5 "_law_told" 2 f_l_told) (c_Shelf_back : CalleeM P w K mg base ca 5 9 "back" 1 f_Shelf_back) (c_Shelf_take : CalleeM P w K mg base ca 5 9 "take" 3 f_Shelf_take_2) (c__law_stands : Callee P w K mg base ca 5 "_law_stands" 2 f_l_stands) (c_Shelf_put : CalleeM P w K mg base ca 5 9 "put" 3 f_Shelf_put_3) : Callee P w K mg base ca 6 "_law_deed" 5 f_l_deed_8 := by
  refine ⟨f, fd, ["_law_shelf", "_law_drawn_here", "_law_names_here", "_law_rows", "_law_past"], rfl, efn_body (N := ["_law_shelf", "_law_drawn_here", "_law_names_here", "_law_rows", "_law_past", "_law_row", "_law_kind", "_law_handed", "_law_turn", "_law_behind", "_law_at", "_law_told_here", "_law_cut"]) (b := b_l_deed_8) F sc__law_deed fun cdv A outer s H E hg hr => ?_, hm, F.kp, F.binds fun _ _ _ _ _ _ us hl => match us, hl with | [_, _, _, _, _], _ => rfl⟩
  have hG : (cxOf (L2N.CX P w) P w K mg base ["_law_shelf", "_law_drawn_here", "_law_names_here", "_law_rows", "_law_past", "_law_row", "_law_kind", "_law_handed", "_law_turn", "_law_behind", "_law_at", "_law_told_here", "_law_cut"] "_law_deed" (defScope (top 38)) f cdv A outer s H E).A.guards = some [] := by
    rw [← hg]; exact deeper_guards _ _
  have tk : L2N.Takes (cxOf (L2N.CX P w) P w K mg base ["_law_shelf", "_law_drawn_here", "_law_names_here", "_law_rows", "_law_past", "_law_row", "_law_kind", "_law_handed", "_law_turn", "_law_behind", "_law_at", "_law_told_here", "_law_cut"] "_law_deed" (defScope (top 38)) f cdv A outer s H E) (fun cls d _ H => E cls d H) := L2N.takes_of rfl rfl rfl rfl
  have nd := sc__law_deed.nd
  have hp : PassesOwn _ _ _ (cxOf (L2N.CX P w) P w K mg base ["_law_shelf", "_law_drawn_here", "_law_names_here", "_law_rows", "_law_past", "_law_row", "_law_kind", "_law_handed", "_law_turn", "_law_behind", "_law_at", "_law_told_here", "_law_cut"] "_law_deed" (defScope (top 38)) f cdv A outer s H E).xe := passes_of rfl
  exact (ss_cons (ss_asg (i := 5) nd rfl (by first | exact .inl rfl | exact .inr rfl) (se_tup (sa_c rfl (se_ix (hu65 hr) (se_n 2 rfl (by first | exact .inl rfl | exact .inr (.inl rfl) | exact .inr (.inr rfl)) rfl rfl) (se_bin bin_mod (se_ix (hu65 hr) (se_n 1 rfl (by first | exact .inl rfl | exact .inr (.inl rfl) | exact .inr (.inr rfl)) rfl rfl) se_int (fun _ _ => rfl)) (se_len hB rfl rfl (se_n 2 rfl (by first | exact .inl rfl | exact .inr (.inl rfl) | exact .inr (.inr rfl)) rfl rfl))) (fun _ _ => rfl)) (sa_c rfl (se_c c__law_told hG hr tk rfl rfl rfl rfl (sa_c rfl (se_n 1 rfl (by first | exact .inl rfl | exact .inr (.inl rfl) | exact .inr (.inr rfl)) rfl rfl) (sa_c rfl (se_n 2 rfl (by first | exact .inl rfl | exact .inr (.inl rfl) | exact .inr (.inr rfl)) rfl rfl) sa_nil))) sa_nil))) rfl (by first | exact .inl rfl | exact .inr rfl))
  (ss_cons (ss_asg (i := 6) nd rfl (by first | exact .inl rfl | exact .inr rfl) (se_bin bin_mod (se_ix (hu65 hr) (se_n 1 rfl (by first | exact .inl rfl | exact .inr (.inl rfl) | exact .inr (.inr rfl)) rfl rfl) se_int (fun _ _ => rfl)) se_int) rfl (by first | exact .inl rfl | exact .inr rfl))
  (ss_cons (ss_if (PW.pt (st_and (st_cmp (bin_eq (hu64 hr)) (se_n 6 rfl (by first | exact .inl rfl | exact .inr (.inl rfl) | exact .inr (.inr rfl)) rfl rfl) se_int rfl) (st_and1 (st_cmp (bin_ne (hu64 hr)) (se_n 4 rfl (by first | exact .inl rfl | exact .inr (.inl rfl) | exact .inr (.inr rfl)) rfl rfl) (se_lst sa_nil) rfl))))
    (ss_cons (ss_asg (i := 9) nd rfl (by first | exact .inl rfl | exact .inr rfl) (se_pop (j := 4) rfl (by first | exact .inl rfl | exact .inr (.inl rfl) | exact .inr (.inr rfl)) rfl rfl rfl rfl) rfl (by first | exact .inl rfl | exact .inr rfl))
    (ss_one (ss_ret (se_tupY (sa_c rfl (se_methY0 c_Shelf_back cl_Shelf hG hr tk (se_n 0 rfl (by first | exact .inl rfl | exact .inr (.inl rfl) | exact .inr (.inr rfl)) rfl rfl) rfl) (sa_c rfl (se_n 9 rfl (by first | exact .inl rfl | exact .inr (.inl rfl) | exact .inr (.inr rfl)) rfl rfl) sa_nil))))))
    ss_nil)
  (ss_cons (ss_if (PW.pt (st_and (st_cmp bin_gt (se_n 6 rfl (by first | exact .inl rfl | exact .inr (.inl rfl) | exact .inr (.inr rfl)) rfl rfl) se_int rfl) (st_and1 (st_cmp (bin_ne (hu64 hr)) (se_n 3 rfl (by first | exact .inl rfl | exact .inr (.inl rfl) | exact .inr (.inr rfl)) rfl rfl) (se_lst sa_nil) rfl))))
    (ss_cons (ss_asg (i := 10) nd rfl (by first | exact .inl rfl | exact .inr rfl) (se_bin bin_mod (se_ix (hu65 hr) (se_n 1 rfl (by first | exact .inl rfl | exact .inr (.inl rfl) | exact .inr (.inr rfl)) rfl rfl) se_int (fun _ _ => rfl)) (se_len hB rfl rfl (se_n 3 rfl (by first | exact .inl rfl | exact .inr (.inl rfl) | exact .inr (.inr rfl)) rfl rfl))) rfl (by first | exact .inl rfl | exact .inr rfl))
    (ss_cons (ss_asg (i := 11) nd rfl (by first | exact .inl rfl | exact .inr rfl) (se_list hB rfl rfl (se_ix (hu65 hr) (se_ix (hu65 hr) (se_n 3 rfl (by first | exact .inl rfl | exact .inr (.inl rfl) | exact .inr (.inr rfl)) rfl rfl) (se_n 10 rfl (by first | exact .inl rfl | exact .inr (.inl rfl) | exact .inr (.inr rfl)) rfl rfl) (fun _ _ => rfl)) se_int (fun _ _ => rfl))) rfl (by first | exact .inl rfl | exact .inr rfl))
    (ss_cons (ss_asg (i := 12) nd rfl (by first | exact .inl rfl | exact .inr rfl) (se_bin bin_mod (se_ix (hu65 hr) (se_n 1 rfl (by first | exact .inl rfl | exact .inr (.inl rfl) | exact .inr (.inr rfl)) rfl rfl) se_int (fun _ _ => rfl)) (se_bin bin_add (se_len hB rfl rfl (se_n 11 rfl (by first | exact .inl rfl | exact .inr (.inl rfl) | exact .inr (.inr rfl)) rfl rfl)) se_int)) rfl (by first | exact .inl rfl | exact .inr rfl))
    (ss_cons (ss_expr (se_app (j := 4) rfl (by first | exact .inl rfl | exact .inr (.inl rfl) | exact .inr (.inr rfl)) rfl rfl (se_n 3 rfl (by first | exact .inl rfl | exact .inr (.inl rfl) | exact .inr (.inr rfl)) rfl rfl) rfl rfl rfl rfl) rfl)
    (ss_one (ss_ret (se_tupY (sa_c rfl (se_methY c_Shelf_take cl_Shelf hG hr tk rfl (se_n 0 rfl (by first | exact .inl rfl | exact .inr (.inl rfl) | exact .inr (.inr rfl)) rfl rfl) rfl (sa_c rfl (se_ix (hu65 hr) (se_ix (hu65 hr) (se_n 3 rfl (by first | exact .inl rfl | exact .inr (.inl rfl) | exact .inr (.inr rfl)) rfl rfl) (se_n 10 rfl (by first | exact .inl rfl | exact .inr (.inl rfl) | exact .inr (.inr rfl)) rfl rfl) (fun _ _ => rfl)) se_int (fun _ _ => rfl)) (sa_c rfl (se_listRev rfl hB hB.rev rfl rfl (se_bin bin_add (se_slice (se_n 11 rfl (by first | exact .inl rfl | exact .inr (.inl rfl) | exact .inr (.inr rfl)) rfl rfl) (so_some (se_n 12 rfl (by first | exact .inl rfl | exact .inr (.inl rfl) | exact .inr (.inr rfl)) rfl rfl)) so_none) (se_slice (se_n 11 rfl (by first | exact .inl rfl | exact .inr (.inl rfl) | exact .inr (.inr rfl)) rfl rfl) so_none (so_some (se_n 12 rfl (by first | exact .inl rfl | exact .inr (.inl rfl) | exact .inr (.inr rfl)) rfl rfl))))) sa_nil)) rfl) (sa_c rfl (se_bin bin_add (se_slice (se_n 3 rfl (by first | exact .inl rfl | exact .inr (.inl rfl) | exact .inr (.inr rfl)) rfl rfl) so_none (so_some (se_n 10 rfl (by first | exact .inl rfl | exact .inr (.inl rfl) | exact .inr (.inr rfl)) rfl rfl))) (se_slice (se_n 3 rfl (by first | exact .inl rfl | exact .inr (.inl rfl) | exact .inr (.inr rfl)) rfl rfl) (so_some (se_bin bin_add (se_n 10 rfl (by first | exact .inl rfl | exact .inr (.inl rfl) | exact .inr (.inr rfl)) rfl rfl) se_int)) so_none)) sa_nil)))))))))
    ss_nil)
  (ss_cons (ss_if (st_val (se_c c__law_stands hG hr tk rfl rfl rfl rfl (sa_c rfl (se_n 3 rfl (by first | exact .inl rfl | exact .inr (.inl rfl) | exact .inr (.inr rfl)) rfl rfl) (sa_c rfl (se_n 5 rfl (by first | exact .inl rfl | exact .inr (.inl rfl) | exact .inr (.inr rfl)) rfl rfl) sa_nil))) (fun _ => rfl))
    (ss_one (ss_ret se_non))
    ss_nil)
  (ss_cons (ss_expr (se_app (j := 4) rfl (by first | exact .inl rfl | exact .inr (.inl rfl) | exact .inr (.inr rfl)) rfl rfl (se_n 3 rfl (by first | exact .inl rfl | exact .inr (.inl rfl) | exact .inr (.inr rfl)) rfl rfl) rfl rfl rfl rfl) rfl)
  (ss_cons (ss_asg (i := 7) nd rfl (by first | exact .inl rfl | exact .inr rfl) (se_list hB rfl rfl (se_ix (hu65 hr) (se_n 5 rfl (by first | exact .inl rfl | exact .inr (.inl rfl) | exact .inr (.inr rfl)) rfl rfl) se_int (fun _ _ => rfl))) rfl (by first | exact .inl rfl | exact .inr rfl))
  (ss_cons (ss_asg (i := 8) nd rfl (by first | exact .inl rfl | exact .inr rfl) (se_methY c_Shelf_put cl_Shelf hG hr tk rfl (se_n 0 rfl (by first | exact .inl rfl | exact .inr (.inl rfl) | exact .inr (.inr rfl)) rfl rfl) rfl (sa_c rfl (se_ix (hu65 hr) (se_n 5 rfl (by first | exact .inl rfl | exact .inr (.inl rfl) | exact .inr (.inr rfl)) rfl rfl) se_int (fun _ _ => rfl)) (sa_c rfl (se_n 7 rfl (by first | exact .inl rfl | exact .inr (.inl rfl) | exact .inr (.inr rfl)) rfl rfl) sa_nil)) rfl) rfl (by first | exact .inl rfl | exact .inr rfl))
  (ss_cons (ss_expr (se_app (j := 7) rfl (by first | exact .inl rfl | exact .inr (.inl rfl) | exact .inr (.inr rfl)) rfl rfl se_str rfl rfl rfl rfl) rfl)
  (ss_one (ss_ret (se_tupY (sa_c rfl (se_n 8 rfl (by first | exact .inl rfl | exact .inr (.inl rfl) | exact .inr (.inr rfl)) rfl rfl) (sa_c rfl (se_bin bin_add (se_n 3 rfl (by first | exact .inl rfl | exact .inr (.inl rfl) | exact .inr (.inr rfl)) rfl rfl) (se_lst (sa_c rfl (se_n 5 rfl (by first | exact .inl rfl | exact .inr (.inl rfl) | exact .inr (.inr rfl)) rfl rfl) sa_nil))) sa_nil))))))))))))))
theorem sc__law_drawn : FnScope ["_law_cell_here", "_law_many", "_law_found", "_law_left", "_law_k"] ["_law_cell_here", "_law_many"] (defScope (top 30)) := ⟨rfl, rfl, rfl, by decide +kernel, rfl, by decide +kernel, by decide +kernel⟩
theorem ok__law_drawn {f : Addr} {fd : FuncData} (F : Fun K "_law_drawn" "_law_drawn" (top 30) f fd) (hm : mg "_law_drawn" = some (.ref f)) (hB : Blt mg) (c__law_mix : Callee P w K mg base ca 1 "_law_mix" 2 f_l_mix) : Callee P w K mg base ca 2 "_law_drawn" 2 f_l_drawn := by
  refine ⟨f, fd, ["_law_cell_here", "_law_many"], rfl, efn_body (N := ["_law_cell_here", "_law_many", "_law_found", "_law_left", "_law_k"]) (b := b_l_drawn) F sc__law_drawn fun cdv A outer s H E hg hr => ?_, hm, F.kp, F.binds fun _ _ _ _ _ _ us hl => match us, hl with | [_, _], _ => rfl⟩
  have hG : (cxOf (L2N.CX P w) P w K mg base ["_law_cell_here", "_law_many", "_law_found", "_law_left", "_law_k"] "_law_drawn" (defScope (top 30)) f cdv A outer s H E).A.guards = some [] := by
    rw [← hg]; exact deeper_guards _ _
  have tk : L2N.Takes (cxOf (L2N.CX P w) P w K mg base ["_law_cell_here", "_law_many", "_law_found", "_law_left", "_law_k"] "_law_drawn" (defScope (top 30)) f cdv A outer s H E) (fun cls d _ H => E cls d H) := L2N.takes_of rfl rfl rfl rfl
  have nd := sc__law_drawn.nd
  have hp : PassesOwn _ _ _ (cxOf (L2N.CX P w) P w K mg base ["_law_cell_here", "_law_many", "_law_found", "_law_left", "_law_k"] "_law_drawn" (defScope (top 30)) f cdv A outer s H E).xe := passes_of rfl
  exact (ss_cons (ss_asg (i := 2) nd rfl (by first | exact .inl rfl | exact .inr rfl) (se_lst sa_nil) rfl (by first | exact .inl rfl | exact .inr rfl))
  (ss_cons (ss_asg (i := 3) nd rfl (by first | exact .inl rfl | exact .inr rfl) (se_bin bin_fdiv (se_n 0 rfl (by first | exact .inl rfl | exact .inr (.inl rfl) | exact .inr (.inr rfl)) rfl rfl) se_int) rfl (by first | exact .inl rfl | exact .inr rfl))
  (ss_cons (ss_for (fg := [4]) hp rfl (si_rng1 rfl hB.range (sa_c rfl (se_n 1 rfl (by first | exact .inl rfl | exact .inr (.inl rfl) | exact .inr (.inr rfl)) rfl rfl) sa_nil) rfl) (sg_name (i := 4) nd rfl (by first | exact .inl rfl | exact .inr rfl) (by first | exact .inl rfl | exact .inr rfl))
    (ss_one (ss_if (st_cmp (bin_eq (hu64 hr)) (se_bin bin_mod (se_n 0 rfl (by first | exact .inl rfl | exact .inr (.inl rfl) | exact .inr (.inr rfl)) rfl rfl) se_int) se_int rfl)
      (ss_cons (ss_expr (se_app (j := 2) rfl (by first | exact .inl rfl | exact .inr (.inl rfl) | exact .inr (.inr rfl)) rfl rfl (se_bin bin_mod (se_n 3 rfl (by first | exact .inl rfl | exact .inr (.inl rfl) | exact .inr (.inr rfl)) rfl rfl) se_int) rfl rfl rfl rfl) rfl)
      (ss_one (ss_asg (i := 3) nd rfl (by first | exact .inl rfl | exact .inr rfl) (se_bin bin_fdiv (se_n 3 rfl (by first | exact .inl rfl | exact .inr (.inl rfl) | exact .inr (.inr rfl)) rfl rfl) se_int) rfl (by first | exact .inl rfl | exact .inr rfl))))
      (ss_one (ss_expr (se_app (j := 2) rfl (by first | exact .inl rfl | exact .inr (.inl rfl) | exact .inr (.inr rfl)) rfl rfl (se_bin bin_mod (se_bin bin_fdiv (se_c c__law_mix hG hr tk rfl rfl rfl rfl (sa_c rfl (se_n 0 rfl (by first | exact .inl rfl | exact .inr (.inl rfl) | exact .inr (.inr rfl)) rfl rfl) (sa_c rfl (se_n 4 rfl (by first | exact .inl rfl | exact .inr (.inl rfl) | exact .inr (.inr rfl)) rfl rfl) sa_nil))) se_int) se_int) rfl rfl rfl rfl) rfl)))) (fun _ => rfl))
  (ss_one (ss_ret (se_n 2 rfl (by first | exact .inl rfl | exact .inr (.inl rfl) | exact .inr (.inr rfl)) rfl rfl))))))
theorem sc__law_learnt : FnScope ["_law_rows", "_law_known", "_law_grown", "_law_word", "_law_told_here", "_law_one"] ["_law_rows"] (defScope (top 34)) := ⟨rfl, rfl, rfl, by decide +kernel, rfl, by decide +kernel, by decide +kernel⟩
theorem ok__law_learnt {f : Addr} {fd : FuncData} (F : Fun K "_law_learnt" "_law_learnt" (top 34) f fd) (hm : mg "_law_learnt" = some (.ref f)) (hB : Blt mg) : Callee P w K mg base ca 1 "_law_learnt" 1 f_l_learnt_2 := by
  refine ⟨f, fd, ["_law_rows"], rfl, efn_body (N := ["_law_rows", "_law_known", "_law_grown", "_law_word", "_law_told_here", "_law_one"]) (b := b_l_learnt_2) F sc__law_learnt fun cdv A outer s H E hg hr => ?_, hm, F.kp, F.binds fun _ _ _ _ _ _ us hl => match us, hl with | [_], _ => rfl⟩
  have hG : (cxOf (L2N.CX P w) P w K mg base ["_law_rows", "_law_known", "_law_grown", "_law_word", "_law_told_here", "_law_one"] "_law_learnt" (defScope (top 34)) f cdv A outer s H E).A.guards = some [] := by
    rw [← hg]; exact deeper_guards _ _
  have tk : L2N.Takes (cxOf (L2N.CX P w) P w K mg base ["_law_rows", "_law_known", "_law_grown", "_law_word", "_law_told_here", "_law_one"] "_law_learnt" (defScope (top 34)) f cdv A outer s H E) (fun cls d _ H => E cls d H) := L2N.takes_of rfl rfl rfl rfl
  have nd := sc__law_learnt.nd
  have hp : PassesOwn _ _ _ (cxOf (L2N.CX P w) P w K mg base ["_law_rows", "_law_known", "_law_grown", "_law_word", "_law_told_here", "_law_one"] "_law_learnt" (defScope (top 34)) f cdv A outer s H E).xe := passes_of rfl
  exact (ss_cons (ss_asg (i := 1) nd rfl (by first | exact .inl rfl | exact .inr rfl) se_dic0 rfl (by first | exact .inl rfl | exact .inr rfl))
  (ss_cons (ss_asg (i := 2) nd rfl (by first | exact .inl rfl | exact .inr rfl) se_bl rfl (by first | exact .inl rfl | exact .inr rfl))
  (ss_cons (ss_while (fg := [3, 4]) hp (st_val (se_n 2 rfl (by first | exact .inl rfl | exact .inr (.inl rfl) | exact .inr (.inr rfl)) rfl rfl) (fun _ => rfl))
    (ss_cons (ss_asg (i := 2) nd rfl (by first | exact .inl rfl | exact .inr rfl) se_bl rfl (by first | exact .inl rfl | exact .inr rfl))
    (ss_one (ss_for (fg := [3, 4]) hp rfl (si_seq (se_n 0 rfl (by first | exact .inl rfl | exact .inr (.inl rfl) | exact .inr (.inr rfl)) rfl rfl)) (sg_tup rfl (sg_cons (pg_name (i := 3) nd rfl (by first | exact .inl rfl | exact .inr rfl) (by first | exact .inl rfl | exact .inr rfl)) (sg_cons (pg_name (i := 4) nd rfl (by first | exact .inl rfl | exact .inr rfl) (by first | exact .inl rfl | exact .inr rfl)) sg_nil rfl) rfl) rfl rfl)
      (ss_one (ss_if (PW.pt (st_and (st_cmp (bin_notin (hu65 hr)) (se_n 3 rfl (by first | exact .inl rfl | exact .inr (.inl rfl) | exact .inr (.inr rfl)) rfl rfl) (se_n 1 rfl (by first | exact .inl rfl | exact .inr (.inl rfl) | exact .inr (.inr rfl)) rfl rfl) rfl) (st_and1 (st_val (se_all rfl hB rfl rfl (se_lc (own := [("_law_one", 5)]) (by decide) rfl nd (si_seq (se_n 4 rfl (by first | exact .inl rfl | exact .inr (.inl rfl) | exact .inr (.inr rfl)) rfl rfl)) (by exact blkOk_by (by kernel_rfl)) (fun _ _ _ _ _ => (sg_name (i := 5) nd rfl (by first | exact .inl rfl | exact .inr rfl) (by first | exact .inl rfl | exact .inr rfl))) (fun _ _ _ _ _ => st_yes) (fun _ _ _ _ _ => (se_cmp (bin_in (hu65 hr)) (se_n 5 rfl (by first | exact .inl rfl | exact .inr (.inl rfl) | exact .inr (.inr rfl)) rfl rfl) (se_n 1 rfl (by first | exact .inl rfl | exact .inr (.inl rfl) | exact .inr (.inr rfl)) rfl rfl) rfl)) (fun _ => rfl))) (fun _ => rfl)))))
        (ss_cons (ss_put (i := 1) (hu65 hr) rfl (by first | exact .inl rfl | exact .inr (.inl rfl) | exact .inr (.inr rfl)) rfl rfl (se_n 3 rfl (by first | exact .inl rfl | exact .inr (.inl rfl) | exact .inr (.inr rfl)) rfl rfl) se_bl rfl rfl rfl (fun _ => rfl))
        (ss_one (ss_asg (i := 2) nd rfl (by first | exact .inl rfl | exact .inr rfl) se_bl rfl (by first | exact .inl rfl | exact .inr rfl))))
        ss_nil)) (fun _ => rfl)))))
  (ss_one (ss_ret (se_sorted rfl hr hB rfl rfl (se_n 1 rfl (by first | exact .inl rfl | exact .inr (.inl rfl) | exact .inr (.inr rfl)) rfl rfl)))))))
theorem sc__law_name : FnScope ["_law_drawn_here", "_law_names_here", "_law_letters", "_law_name_here", "_law_spare", "_law_stem", "_law_k", "_law_one"] ["_law_drawn_here", "_law_names_here"] (defScope (top 31)) := ⟨rfl, rfl, rfl, by decide +kernel, rfl, by decide +kernel, by decide +kernel⟩
theorem ok__law_name {f : Addr} {fd : FuncData} (F : Fun K "_law_name" "_law_name" (top 31) f fd) (hm : mg "_law_name" = some (.ref f)) (hB : Blt mg) : Callee P w K mg base ca 1 "_law_name" 2 f_l_name := by
  refine ⟨f, fd, ["_law_drawn_here", "_law_names_here"], rfl, efn_body (N := ["_law_drawn_here", "_law_names_here", "_law_letters", "_law_name_here", "_law_spare", "_law_stem", "_law_k", "_law_one"]) (b := b_l_name) F sc__law_name fun cdv A outer s H E hg hr => ?_, hm, F.kp, F.binds fun _ _ _ _ _ _ us hl => match us, hl with | [_, _], _ => rfl⟩
  have hG : (cxOf (L2N.CX P w) P w K mg base ["_law_drawn_here", "_law_names_here", "_law_letters", "_law_name_here", "_law_spare", "_law_stem", "_law_k", "_law_one"] "_law_name" (defScope (top 31)) f cdv A outer s H E).A.guards = some [] := by
    rw [← hg]; exact deeper_guards _ _
  have tk : L2N.Takes (cxOf (L2N.CX P w) P w K mg base ["_law_drawn_here", "_law_names_here", "_law_letters", "_law_name_here", "_law_spare", "_law_stem", "_law_k", "_law_one"] "_law_name" (defScope (top 31)) f cdv A outer s H E) (fun cls d _ H => E cls d H) := L2N.takes_of rfl rfl rfl rfl
  have nd := sc__law_name.nd
  have hp : PassesOwn _ _ _ (cxOf (L2N.CX P w) P w K mg base ["_law_drawn_here", "_law_names_here", "_law_letters", "_law_name_here", "_law_spare", "_law_stem", "_law_k", "_law_one"] "_law_name" (defScope (top 31)) f cdv A outer s H E).xe := passes_of rfl
  exact (ss_cons (ss_asg (i := 2) nd rfl (by first | exact .inl rfl | exact .inr rfl) se_str rfl (by first | exact .inl rfl | exact .inr rfl))
  (ss_cons (ss_asg (i := 3) nd rfl (by first | exact .inl rfl | exact .inr rfl) (se_join se_str (se_lc (own := [("_law_k", 6)]) (by decide) rfl nd (si_rng1 rfl hB.range (sa_c rfl (se_bin bin_add se_int (se_bin bin_mod (se_ix (hu65 hr) (se_n 0 rfl (by first | exact .inl rfl | exact .inr (.inl rfl) | exact .inr (.inr rfl)) rfl rfl) se_int (fun _ _ => rfl)) se_int)) sa_nil) rfl) (by exact blkOk_by (by kernel_rfl)) (fun _ _ _ _ _ => (sg_name (i := 6) nd rfl (by first | exact .inl rfl | exact .inr rfl) (by first | exact .inl rfl | exact .inr rfl))) (fun _ _ _ _ _ => st_yes) (fun _ _ _ _ _ => (se_ix (hu65 hr) (se_n 2 rfl (by first | exact .inl rfl | exact .inr (.inl rfl) | exact .inr (.inr rfl)) rfl rfl) (se_bin bin_mod (se_ix (hu65 hr) (se_n 0 rfl (by first | exact .inl rfl | exact .inr (.inl rfl) | exact .inr (.inr rfl)) rfl rfl) (se_bin bin_add se_int (se_n 6 rfl (by first | exact .inl rfl | exact .inr (.inl rfl) | exact .inr (.inr rfl)) rfl rfl)) (fun _ _ => rfl)) se_int) (fun _ _ => rfl))) (fun _ => rfl)) rfl rfl rfl) rfl (by first | exact .inl rfl | exact .inr rfl))
  (ss_cons (ss_if (st_cmp bin_gt (se_len hB rfl rfl (se_n 1 rfl (by first | exact .inl rfl | exact .inr (.inl rfl) | exact .inr (.inr rfl)) rfl rfl)) se_int rfl)
    (ss_cons (ss_asg (i := 5) nd rfl (by first | exact .inl rfl | exact .inr rfl) (se_ix (hu65 hr) (se_split (se_ix (hu65 hr) (se_n 1 rfl (by first | exact .inl rfl | exact .inr (.inl rfl) | exact .inr (.inr rfl)) rfl rfl) (se_bin bin_mod (se_ix (hu65 hr) (se_n 0 rfl (by first | exact .inl rfl | exact .inr (.inl rfl) | exact .inr (.inr rfl)) rfl rfl) se_int (fun _ _ => rfl)) (se_len hB rfl rfl (se_n 1 rfl (by first | exact .inl rfl | exact .inr (.inl rfl) | exact .inr (.inr rfl)) rfl rfl))) (fun _ _ => rfl)) se_str rfl rfl rfl) se_int (fun _ _ => rfl)) rfl (by first | exact .inl rfl | exact .inr rfl))
    (ss_cons (ss_if (st_cmp (bin_eq (hu64 hr)) (se_bin bin_mod (se_ix (hu65 hr) (se_n 0 rfl (by first | exact .inl rfl | exact .inr (.inl rfl) | exact .inr (.inr rfl)) rfl rfl) se_int (fun _ _ => rfl)) se_int) se_int rfl)
      (ss_one (ss_asg (i := 3) nd rfl (by first | exact .inl rfl | exact .inr rfl) (se_slice (se_bin bin_add (se_n 5 rfl (by first | exact .inl rfl | exact .inr (.inl rfl) | exact .inr (.inr rfl)) rfl rfl) (se_n 3 rfl (by first | exact .inl rfl | exact .inr (.inl rfl) | exact .inr (.inr rfl)) rfl rfl)) so_none (so_some se_int)) rfl (by first | exact .inl rfl | exact .inr rfl)))
      ss_nil)
    (ss_one (ss_if (st_cmp (bin_eq (hu64 hr)) (se_bin bin_mod (se_ix (hu65 hr) (se_n 0 rfl (by first | exact .inl rfl | exact .inr (.inl rfl) | exact .inr (.inr rfl)) rfl rfl) se_int (fun _ _ => rfl)) se_int) se_int rfl)
      (ss_one (ss_asg (i := 3) nd rfl (by first | exact .inl rfl | exact .inr rfl) (se_bin bin_add (se_bin bin_add (se_n 5 rfl (by first | exact .inl rfl | exact .inr (.inl rfl) | exact .inr (.inr rfl)) rfl rfl) se_str) (se_strC hB rfl rfl (se_bin bin_add se_int (se_bin bin_mod (se_ix (hu65 hr) (se_n 0 rfl (by first | exact .inl rfl | exact .inr (.inl rfl) | exact .inr (.inr rfl)) rfl rfl) se_int (fun _ _ => rfl)) se_int)))) rfl (by first | exact .inl rfl | exact .inr rfl)))
      ss_nil))))
    ss_nil)
  (ss_cons (ss_asg (i := 4) nd rfl (by first | exact .inl rfl | exact .inr rfl) (se_bin bin_add (se_lst (sa_c rfl (se_n 3 rfl (by first | exact .inl rfl | exact .inr (.inl rfl) | exact .inr (.inr rfl)) rfl rfl) sa_nil)) (se_lc (own := [("_law_k", 6)]) (by decide) rfl nd (si_rng1 rfl hB.range (sa_c rfl se_int sa_nil) rfl) (by exact blkOk_by (by kernel_rfl)) (fun _ _ _ _ _ => (sg_name (i := 6) nd rfl (by first | exact .inl rfl | exact .inr rfl) (by first | exact .inl rfl | exact .inr rfl))) (fun _ _ _ _ _ => st_yes) (fun _ _ _ _ _ => (se_bin bin_add (se_ix (hu65 hr) (se_n 2 rfl (by first | exact .inl rfl | exact .inr (.inl rfl) | exact .inr (.inr rfl)) rfl rfl) (se_bin bin_fdiv (se_n 6 rfl (by first | exact .inl rfl | exact .inr (.inl rfl) | exact .inr (.inr rfl)) rfl rfl) se_int) (fun _ _ => rfl)) (se_ix (hu65 hr) (se_n 2 rfl (by first | exact .inl rfl | exact .inr (.inl rfl) | exact .inr (.inr rfl)) rfl rfl) (se_bin bin_mod (se_n 6 rfl (by first | exact .inl rfl | exact .inr (.inl rfl) | exact .inr (.inr rfl)) rfl rfl) se_int) (fun _ _ => rfl)))) (fun _ => rfl))) rfl (by first | exact .inl rfl | exact .inr rfl))
  (ss_one (ss_ret (se_ix (hu65 hr) (se_lc (own := [("_law_one", 7)]) (by decide) rfl nd (si_seq (se_n 4 rfl (by first | exact .inl rfl | exact .inr (.inl rfl) | exact .inr (.inr rfl)) rfl rfl)) (by exact blkOk_by (by kernel_rfl)) (fun _ _ _ _ _ => (sg_name (i := 7) nd rfl (by first | exact .inl rfl | exact .inr rfl) (by first | exact .inl rfl | exact .inr rfl))) (fun _ _ _ _ _ => (st_ifone (st_cmp (bin_notin (hu65 hr)) (se_n 7 rfl (by first | exact .inl rfl | exact .inr (.inl rfl) | exact .inr (.inr rfl)) rfl rfl) (se_n 1 rfl (by first | exact .inl rfl | exact .inr (.inl rfl) | exact .inr (.inr rfl)) rfl rfl) rfl))) (fun _ _ _ _ _ => (se_n 7 rfl (by first | exact .inl rfl | exact .inr (.inl rfl) | exact .inr (.inr rfl)) rfl rfl)) (fun _ => rfl)) se_int (fun _ _ => rfl))))))))
theorem sc__law_names : FnScope ["_law_script", "_law_base", "_law_many", "_law_names_here", "_law_k"] ["_law_script", "_law_base", "_law_many"] (defScope (top 32)) := ⟨rfl, rfl, rfl, by decide +kernel, rfl, by decide +kernel, by decide +kernel⟩
theorem ok__law_names {f : Addr} {fd : FuncData} (F : Fun K "_law_names" "_law_names" (top 32) f fd) (hm : mg "_law_names" = some (.ref f)) (hB : Blt mg) (c__law_name : Callee P w K mg base ca 2 "_law_name" 2 f_l_name) (c__law_drawn : Callee P w K mg base ca 2 "_law_drawn" 2 f_l_drawn) (c__law_cell : Callee P w K mg base ca 2 "_law_cell" 2 f_l_cell) : Callee P w K mg base ca 3 "_law_names" 3 f_l_names := by
  refine ⟨f, fd, ["_law_script", "_law_base", "_law_many"], rfl, efn_body (N := ["_law_script", "_law_base", "_law_many", "_law_names_here", "_law_k"]) (b := b_l_names) F sc__law_names fun cdv A outer s H E hg hr => ?_, hm, F.kp, F.binds fun _ _ _ _ _ _ us hl => match us, hl with | [_, _, _], _ => rfl⟩
  have hG : (cxOf (L2N.CX P w) P w K mg base ["_law_script", "_law_base", "_law_many", "_law_names_here", "_law_k"] "_law_names" (defScope (top 32)) f cdv A outer s H E).A.guards = some [] := by
    rw [← hg]; exact deeper_guards _ _
  have tk : L2N.Takes (cxOf (L2N.CX P w) P w K mg base ["_law_script", "_law_base", "_law_many", "_law_names_here", "_law_k"] "_law_names" (defScope (top 32)) f cdv A outer s H E) (fun cls d _ H => E cls d H) := L2N.takes_of rfl rfl rfl rfl
  have nd := sc__law_names.nd
  have hp : PassesOwn _ _ _ (cxOf (L2N.CX P w) P w K mg base ["_law_script", "_law_base", "_law_many", "_law_names_here", "_law_k"] "_law_names" (defScope (top 32)) f cdv A outer s H E).xe := passes_of rfl
  exact (ss_cons (ss_asg (i := 3) nd rfl (by first | exact .inl rfl | exact .inr rfl) (se_lst sa_nil) rfl (by first | exact .inl rfl | exact .inr rfl))
  (ss_cons (ss_for (fg := [4]) hp rfl (si_rng1 rfl hB.range (sa_c rfl (se_n 2 rfl (by first | exact .inl rfl | exact .inr (.inl rfl) | exact .inr (.inr rfl)) rfl rfl) sa_nil) rfl) (sg_name (i := 4) nd rfl (by first | exact .inl rfl | exact .inr rfl) (by first | exact .inl rfl | exact .inr rfl))
    (ss_one (ss_expr (se_app (j := 3) rfl (by first | exact .inl rfl | exact .inr (.inl rfl) | exact .inr (.inr rfl)) rfl rfl (se_c c__law_name hG hr tk rfl rfl rfl rfl (sa_c rfl (se_c c__law_drawn hG hr tk rfl rfl rfl rfl (sa_c rfl (se_c c__law_cell hG hr tk rfl rfl rfl rfl (sa_c rfl (se_n 0 rfl (by first | exact .inl rfl | exact .inr (.inl rfl) | exact .inr (.inr rfl)) rfl rfl) (sa_c rfl (se_bin bin_add (se_n 1 rfl (by first | exact .inl rfl | exact .inr (.inl rfl) | exact .inr (.inr rfl)) rfl rfl) (se_n 4 rfl (by first | exact .inl rfl | exact .inr (.inl rfl) | exact .inr (.inr rfl)) rfl rfl)) sa_nil))) (sa_c rfl se_int sa_nil))) (sa_c rfl (se_n 3 rfl (by first | exact .inl rfl | exact .inr (.inl rfl) | exact .inr (.inr rfl)) rfl rfl) sa_nil))) rfl rfl rfl rfl) rfl)) (fun _ => rfl))
  (ss_one (ss_ret (se_n 3 rfl (by first | exact .inl rfl | exact .inr (.inl rfl) | exact .inr (.inr rfl)) rfl rfl)))))
theorem sc_Shelf_book : FnScope ["self"] ["self"] (defScope (mth 26 6)) := ⟨rfl, rfl, rfl, by decide +kernel, rfl, by decide +kernel, by decide +kernel⟩
theorem ok_Shelf_book {f : Addr} {fd : FuncData} (F : Fun K "book" "Shelf.book" (mth 26 6) f fd) (hm : Meth K (ca 9) "book" f) (hB : Blt mg) (cl_Shelf : Cls K (ca 9)) (na_Shelf_now : NoAttr K (ca 9) "now") : CalleeM P w K mg base ca 1 9 "book" 1 f_Shelf_book := by
  refine ⟨f, fd, ["self"], rfl, efn_body (N := ["self"]) (b := b_Shelf_book) F sc_Shelf_book fun cdv A outer s H E hg hr => ?_, hm, F.binds fun _ _ _ _ _ _ us hl => match us, hl with | [_], _ => rfl⟩
  have hG : (cxOf (L2N.CX P w) P w K mg base ["self"] "Shelf.book" (defScope (mth 26 6)) f cdv A outer s H E).A.guards = some [] := by
    rw [← hg]; exact deeper_guards _ _
  have tk : L2N.Takes (cxOf (L2N.CX P w) P w K mg base ["self"] "Shelf.book" (defScope (mth 26 6)) f cdv A outer s H E) (fun cls d _ H => E cls d H) := L2N.takes_of rfl rfl rfl rfl
  have nd := sc_Shelf_book.nd
  have hp : PassesOwn _ _ _ (cxOf (L2N.CX P w) P w K mg base ["self"] "Shelf.book" (defScope (mth 26 6)) f cdv A outer s H E).xe := passes_of rfl
  exact (ss_one (ss_ret (se_fld cl_Shelf na_Shelf_now (se_n 0 rfl (by first | exact .inl rfl | exact .inr (.inl rfl) | exact .inr (.inr rfl)) rfl rfl) rfl)))
theorem sc_Shelf_deeds : FnScope ["self"] ["self"] (defScope (mth 26 8)) := ⟨rfl, rfl, rfl, by decide +kernel, rfl, by decide +kernel, by decide +kernel⟩
theorem ok_Shelf_deeds {f : Addr} {fd : FuncData} (F : Fun K "deeds" "Shelf.deeds" (mth 26 8) f fd) (hm : Meth K (ca 9) "deeds" f) (hB : Blt mg) (cl_Shelf : Cls K (ca 9)) (na_Shelf_past : NoAttr K (ca 9) "past") : CalleeM P w K mg base ca 1 9 "deeds" 1 f_Shelf_deeds := by
  refine ⟨f, fd, ["self"], rfl, efn_body (N := ["self"]) (b := b_Shelf_deeds) F sc_Shelf_deeds fun cdv A outer s H E hg hr => ?_, hm, F.binds fun _ _ _ _ _ _ us hl => match us, hl with | [_], _ => rfl⟩
  have hG : (cxOf (L2N.CX P w) P w K mg base ["self"] "Shelf.deeds" (defScope (mth 26 8)) f cdv A outer s H E).A.guards = some [] := by
    rw [← hg]; exact deeper_guards _ _
  have tk : L2N.Takes (cxOf (L2N.CX P w) P w K mg base ["self"] "Shelf.deeds" (defScope (mth 26 8)) f cdv A outer s H E) (fun cls d _ H => E cls d H) := L2N.takes_of rfl rfl rfl rfl
  have nd := sc_Shelf_deeds.nd
  have hp : PassesOwn _ _ _ (cxOf (L2N.CX P w) P w K mg base ["self"] "Shelf.deeds" (defScope (mth 26 8)) f cdv A outer s H E).xe := passes_of rfl
  exact (ss_one (ss_ret (se_lenF cl_Shelf na_Shelf_past (pe_var rfl (by first | exact .inl rfl | exact .inr (.inl rfl) | exact .inr (.inr rfl)) rfl rfl) rfl hB rfl)))
theorem sc_Shelf_learnt_now : FnScope ["self"] ["self"] (defScope (mth 26 7)) := ⟨rfl, rfl, rfl, by decide +kernel, rfl, by decide +kernel, by decide +kernel⟩
theorem ok_Shelf_learnt_now {f : Addr} {fd : FuncData} (F : Fun K "learnt_now" "Shelf.learnt_now" (mth 26 7) f fd) (hm : Meth K (ca 9) "learnt_now" f) (hB : Blt mg) (cl_Shelf : Cls K (ca 9)) (na_Shelf_now : NoAttr K (ca 9) "now") (c_learnt : Callee P w K mg base ca 3 "learnt" 1 f_learnt) : CalleeM P w K mg base ca 4 9 "learnt_now" 1 f_Shelf_learnt_now := by
  refine ⟨f, fd, ["self"], rfl, efn_body (N := ["self"]) (b := b_Shelf_learnt_now) F sc_Shelf_learnt_now fun cdv A outer s H E hg hr => ?_, hm, F.binds fun _ _ _ _ _ _ us hl => match us, hl with | [_], _ => rfl⟩
  have hG : (cxOf (L2N.CX P w) P w K mg base ["self"] "Shelf.learnt_now" (defScope (mth 26 7)) f cdv A outer s H E).A.guards = some [] := by
    rw [← hg]; exact deeper_guards _ _
  have tk : L2N.Takes (cxOf (L2N.CX P w) P w K mg base ["self"] "Shelf.learnt_now" (defScope (mth 26 7)) f cdv A outer s H E) (fun cls d _ H => E cls d H) := L2N.takes_of rfl rfl rfl rfl
  have nd := sc_Shelf_learnt_now.nd
  have hp : PassesOwn _ _ _ (cxOf (L2N.CX P w) P w K mg base ["self"] "Shelf.learnt_now" (defScope (mth 26 7)) f cdv A outer s H E).xe := passes_of rfl
  exact (ss_one (ss_ret (se_c c_learnt hG hr tk rfl rfl rfl rfl (sa_c rfl (se_fld cl_Shelf na_Shelf_now (se_n 0 rfl (by first | exact .inl rfl | exact .inr (.inl rfl) | exact .inr (.inr rfl)) rfl rfl) rfl) sa_nil))))
theorem sc__law_right : FnScope ["_law_shelf", "_law_rows", "_law_past", "_law_book", "_law_row", "_law_known", "_law_deeds"] ["_law_shelf", "_law_rows", "_law_past"] (defScope (top 37)) := ⟨rfl, rfl, rfl, by decide +kernel, rfl, by decide +kernel, by decide +kernel⟩
theorem ok__law_right {f : Addr} {fd : FuncData} (F : Fun K "_law_right" "_law_right" (top 37) f fd) (hm : mg "_law_right" = some (.ref f)) (hB : Blt mg) (cl_Shelf : Cls K (ca 9)) (c_Shelf_book : CalleeM P w K mg base ca 4 9 "book" 1 f_Shelf_book) (c_Shelf_learnt_now : CalleeM P w K mg base ca 4 9 "learnt_now" 1 f_Shelf_learnt_now) (c__law_learnt : Callee P w K mg base ca 4 "_law_learnt" 1 f_l_learnt_2) (c_Shelf_deeds : CalleeM P w K mg base ca 4 9 "deeds" 1 f_Shelf_deeds) : Callee P w K mg base ca 5 "_law_right" 3 f_l_right_12 := by
  refine ⟨f, fd, ["_law_shelf", "_law_rows", "_law_past"], rfl, efn_body (N := ["_law_shelf", "_law_rows", "_law_past", "_law_book", "_law_row", "_law_known", "_law_deeds"]) (b := b_l_right_12) F sc__law_right fun cdv A outer s H E hg hr => ?_, hm, F.kp, F.binds fun _ _ _ _ _ _ us hl => match us, hl with | [_, _, _], _ => rfl⟩
  have hG : (cxOf (L2N.CX P w) P w K mg base ["_law_shelf", "_law_rows", "_law_past", "_law_book", "_law_row", "_law_known", "_law_deeds"] "_law_right" (defScope (top 37)) f cdv A outer s H E).A.guards = some [] := by
    rw [← hg]; exact deeper_guards _ _
  have tk : L2N.Takes (cxOf (L2N.CX P w) P w K mg base ["_law_shelf", "_law_rows", "_law_past", "_law_book", "_law_row", "_law_known", "_law_deeds"] "_law_right" (defScope (top 37)) f cdv A outer s H E) (fun cls d _ H => E cls d H) := L2N.takes_of rfl rfl rfl rfl
  have nd := sc__law_right.nd
  have hp : PassesOwn _ _ _ (cxOf (L2N.CX P w) P w K mg base ["_law_shelf", "_law_rows", "_law_past", "_law_book", "_law_row", "_law_known", "_law_deeds"] "_law_right" (defScope (top 37)) f cdv A outer s H E).xe := passes_of rfl
  exact (ss_cons (ss_asg (i := 3) nd rfl (by first | exact .inl rfl | exact .inr rfl) (se_meth0 c_Shelf_book cl_Shelf hG hr tk (se_n 0 rfl (by first | exact .inl rfl | exact .inr (.inl rfl) | exact .inr (.inr rfl)) rfl rfl) rfl) rfl (by first | exact .inl rfl | exact .inr rfl))
  (ss_cons (ss_if (PW.pt (st_or (st_not (st_val (se_isi (by decide) (se_n 3 rfl (by first | exact .inl rfl | exact .inr (.inl rfl) | exact .inr (.inr rfl)) rfl rfl) rfl hB.isi rfl hB.tuple bb_tuple (by decide) rfl rfl) (fun _ => rfl))) (st_or1 (st_cmp (bin_ne (hu64 hr)) (se_n 3 rfl (by first | exact .inl rfl | exact .inr (.inl rfl) | exact .inr (.inr rfl)) rfl rfl) (se_tuple hB rfl rfl (se_n 1 rfl (by first | exact .inl rfl | exact .inr (.inl rfl) | exact .inr (.inr rfl)) rfl rfl)) rfl))))
    (ss_one (ss_ret se_bl))
    ss_nil)
  (ss_cons (ss_for (fg := [4]) hp rfl (si_seq (se_n 3 rfl (by first | exact .inl rfl | exact .inr (.inl rfl) | exact .inr (.inr rfl)) rfl rfl)) (sg_name (i := 4) nd rfl (by first | exact .inl rfl | exact .inr rfl) (by first | exact .inl rfl | exact .inr rfl))
    (ss_one (ss_if (PW.pt (st_or (st_not (st_val (se_isi (by decide) (se_n 4 rfl (by first | exact .inl rfl | exact .inr (.inl rfl) | exact .inr (.inr rfl)) rfl rfl) rfl hB.isi rfl hB.tuple bb_tuple (by decide) rfl rfl) (fun _ => rfl))) (st_or1 (st_not (st_val (se_isi (by decide) (se_ix (hu65 hr) (se_n 4 rfl (by first | exact .inl rfl | exact .inr (.inl rfl) | exact .inr (.inr rfl)) rfl rfl) se_int (fun _ _ => rfl)) rfl hB.isi rfl hB.tuple bb_tuple (by decide) rfl rfl) (fun _ => rfl))))))
      (ss_one (ss_ret se_bl))
      ss_nil)) (fun _ => rfl))
  (ss_cons (ss_asg (i := 5) nd rfl (by first | exact .inl rfl | exact .inr rfl) (se_meth0 c_Shelf_learnt_now cl_Shelf hG hr tk (se_n 0 rfl (by first | exact .inl rfl | exact .inr (.inl rfl) | exact .inr (.inr rfl)) rfl rfl) rfl) rfl (by first | exact .inl rfl | exact .inr rfl))
  (ss_cons (ss_if (PW.pt (st_or (st_not (st_val (se_isi (by decide) (se_n 5 rfl (by first | exact .inl rfl | exact .inr (.inl rfl) | exact .inr (.inr rfl)) rfl rfl) rfl hB.isi rfl hB.list bb_list (by decide) rfl rfl) (fun _ => rfl))) (st_or1 (st_cmp (bin_ne (hu64 hr)) (se_n 5 rfl (by first | exact .inl rfl | exact .inr (.inl rfl) | exact .inr (.inr rfl)) rfl rfl) (se_c c__law_learnt hG hr tk rfl rfl rfl rfl (sa_c rfl (se_n 1 rfl (by first | exact .inl rfl | exact .inr (.inl rfl) | exact .inr (.inr rfl)) rfl rfl) sa_nil)) rfl))))
    (ss_one (ss_ret se_bl))
    ss_nil)
  (ss_cons (ss_expr (se_app (j := 5) rfl (by first | exact .inl rfl | exact .inr (.inl rfl) | exact .inr (.inr rfl)) rfl rfl se_str rfl rfl rfl rfl) rfl)
  (ss_cons (ss_asg (i := 6) nd rfl (by first | exact .inl rfl | exact .inr rfl) (se_meth0 c_Shelf_deeds cl_Shelf hG hr tk (se_n 0 rfl (by first | exact .inl rfl | exact .inr (.inl rfl) | exact .inr (.inr rfl)) rfl rfl) rfl) rfl (by first | exact .inl rfl | exact .inr rfl))
  (ss_one (ss_ret (se_and (se_isi (by decide) (se_n 6 rfl (by first | exact .inl rfl | exact .inr (.inl rfl) | exact .inr (.inr rfl)) rfl rfl) rfl hB.isi rfl hB.int bb_int (by decide) rfl rfl) (se_and (se_not (se_isi (by decide) (se_n 6 rfl (by first | exact .inl rfl | exact .inr (.inl rfl) | exact .inr (.inr rfl)) rfl rfl) rfl hB.isi rfl hB.bool bb_bool (by decide) rfl rfl)) (se_one (se_cmp (bin_eq (hu64 hr)) (se_n 6 rfl (by first | exact .inl rfl | exact .inr (.inl rfl) | exact .inr (.inr rfl)) rfl rfl) (se_len hB rfl rfl (se_n 2 rfl (by first | exact .inl rfl | exact .inr (.inl rfl) | exact .inr (.inr rfl)) rfl rfl)) rfl)))))))))))))
theorem sc__law_turn_right : FnScope ["_law_turn", "_law_ahead", "_law_behind", "_law_gained", "_law_lost", "_law_right_here", "_law_word"] ["_law_turn", "_law_ahead", "_law_behind"] (defScope (top 36)) := ⟨rfl, rfl, rfl, by decide +kernel, rfl, by decide +kernel, by decide +kernel⟩
theorem ok__law_turn_right {f : Addr} {fd : FuncData} (F : Fun K "_law_turn_right" "_law_turn_right" (top 36) f fd) (hm : mg "_law_turn_right" = some (.ref f)) (hB : Blt mg) : Callee P w K mg base ca 1 "_law_turn_right" 3 f_l_turn_right_2 := by
  refine ⟨f, fd, ["_law_turn", "_law_ahead", "_law_behind"], rfl, efn_body (N := ["_law_turn", "_law_ahead", "_law_behind", "_law_gained", "_law_lost", "_law_right_here", "_law_word"]) (b := b_l_turn_right_2) F sc__law_turn_right fun cdv A outer s H E hg hr => ?_, hm, F.kp, F.binds fun _ _ _ _ _ _ us hl => match us, hl with | [_, _, _], _ => rfl⟩
  have hG : (cxOf (L2N.CX P w) P w K mg base ["_law_turn", "_law_ahead", "_law_behind", "_law_gained", "_law_lost", "_law_right_here", "_law_word"] "_law_turn_right" (defScope (top 36)) f cdv A outer s H E).A.guards = some [] := by
    rw [← hg]; exact deeper_guards _ _
  have tk : L2N.Takes (cxOf (L2N.CX P w) P w K mg base ["_law_turn", "_law_ahead", "_law_behind", "_law_gained", "_law_lost", "_law_right_here", "_law_word"] "_law_turn_right" (defScope (top 36)) f cdv A outer s H E) (fun cls d _ H => E cls d H) := L2N.takes_of rfl rfl rfl rfl
  have nd := sc__law_turn_right.nd
  have hp : PassesOwn _ _ _ (cxOf (L2N.CX P w) P w K mg base ["_law_turn", "_law_ahead", "_law_behind", "_law_gained", "_law_lost", "_law_right_here", "_law_word"] "_law_turn_right" (defScope (top 36)) f cdv A outer s H E).xe := passes_of rfl
  exact (ss_yngP (i := 0) (a := "x") (b := "x")
  (ty_cons (ss_if (PW.pt (st_or (st_not (st_val (se_isi (by decide) (se_n 0 rfl (by first | exact .inl rfl | exact .inr (.inl rfl) | exact .inr (.inr rfl)) rfl rfl) rfl hB.isi rfl hB.tuple bb_tuple (by decide) rfl rfl) (fun _ => rfl))) (st_or (st_cmp (bin_ne (hu64 hr)) (se_len hB rfl rfl (se_n 0 rfl (by first | exact .inl rfl | exact .inr (.inl rfl) | exact .inr (.inr rfl)) rfl rfl)) se_int rfl) (st_or1 (st_not (st_val (se_isi (by decide) (se_ix (hu65 hr) (se_n 0 rfl (by first | exact .inl rfl | exact .inr (.inl rfl) | exact .inr (.inr rfl)) rfl rfl) se_int (fun _ _ => rfl)) rfl hB.isi rfl hB.list bb_list (by decide) rfl rfl) (fun _ => rfl)))))))
    (ss_one (ss_ret se_bl))
    ss_nil)
  (ty_cons (ss_setLc (i := 3) (own := [("_law_word", 6)]) (by decide) rfl nd rfl rfl (sw_true rfl rfl rfl (by decide +kernel)) (si_seq (se_n 2 rfl (by first | exact .inl rfl | exact .inr (.inl rfl) | exact .inr (.inr rfl)) rfl rfl)) (by exact blkOk_by (by kernel_rfl)) (fun _ _ _ _ _ => (sg_name (i := 6) nd rfl (by first | exact .inl rfl | exact .inr rfl) (by first | exact .inl rfl | exact .inr rfl))) (fun _ _ _ _ _ => (st_ifone (st_cmp (bin_notin (hu65 hr)) (se_n 6 rfl (by first | exact .inl rfl | exact .inr (.inl rfl) | exact .inr (.inr rfl)) rfl rfl) (se_n 1 rfl (by first | exact .inl rfl | exact .inr (.inl rfl) | exact .inr (.inr rfl)) rfl rfl) rfl))) (fun _ _ _ _ _ => (se_n 6 rfl (by first | exact .inl rfl | exact .inr (.inl rfl) | exact .inr (.inr rfl)) rfl rfl)) (fun _ => rfl))
  (ty_cons (ss_setLc (i := 4) (own := [("_law_word", 6)]) (by decide) rfl nd rfl rfl (sw_true rfl rfl rfl (by decide +kernel)) (si_seq (se_n 1 rfl (by first | exact .inl rfl | exact .inr (.inl rfl) | exact .inr (.inr rfl)) rfl rfl)) (by exact blkOk_by (by kernel_rfl)) (fun _ _ _ _ _ => (sg_name (i := 6) nd rfl (by first | exact .inl rfl | exact .inr rfl) (by first | exact .inl rfl | exact .inr rfl))) (fun _ _ _ _ _ => (st_ifone (st_cmp (bin_notin (hu65 hr)) (se_n 6 rfl (by first | exact .inl rfl | exact .inr (.inl rfl) | exact .inr (.inr rfl)) rfl rfl) (se_n 2 rfl (by first | exact .inl rfl | exact .inr (.inl rfl) | exact .inr (.inr rfl)) rfl rfl) rfl))) (fun _ _ _ _ _ => (se_n 6 rfl (by first | exact .inl rfl | exact .inr (.inl rfl) | exact .inr (.inr rfl)) rfl rfl)) (fun _ => rfl))
  (ty_cons (ss_asg (i := 5) nd rfl (by first | exact .inl rfl | exact .inr rfl) (se_and (se_isi (by decide) (se_ix (hu65 hr) (se_n 0 rfl (by first | exact .inl rfl | exact .inr (.inl rfl) | exact .inr (.inr rfl)) rfl rfl) se_int (fun _ _ => rfl)) rfl hB.isi rfl hB.list bb_list (by decide) rfl rfl) (se_and (se_cmp (bin_eq (hu64 hr)) (se_ix (hu65 hr) (se_n 0 rfl (by first | exact .inl rfl | exact .inr (.inl rfl) | exact .inr (.inr rfl)) rfl rfl) se_int (fun _ _ => rfl)) (se_n 3 rfl (by first | exact .inl rfl | exact .inr (.inl rfl) | exact .inr (.inr rfl)) rfl rfl) rfl) (se_one (se_cmp (bin_eq (hu64 hr)) (se_ix (hu65 hr) (se_n 0 rfl (by first | exact .inl rfl | exact .inr (.inl rfl) | exact .inr (.inr rfl)) rfl rfl) se_int (fun _ _ => rfl)) (se_n 4 rfl (by first | exact .inl rfl | exact .inr (.inl rfl) | exact .inr (.inr rfl)) rfl rfl) rfl)))) rfl (by first | exact .inl rfl | exact .inr rfl))
  (ty_nil (sy_XY (i := 0) (pe_var rfl (by first | exact .inl rfl | exact .inr (.inl rfl) | exact .inr (.inr rfl)) rfl rfl) (pe_var rfl (by first | exact .inl rfl | exact .inr (.inl rfl) | exact .inr (.inr rfl)) rfl rfl) rfl rfl rfl rfl rfl rfl (ss_one (ss_ret (se_n 5 rfl (by first | exact .inl rfl | exact .inr (.inl rfl) | exact .inr (.inr rfl)) rfl rfl))))))))))
theorem sc_Shelf___init__ : FnScope ["self"] ["self"] (defScope (mth 26 0)) := ⟨rfl, rfl, rfl, by decide +kernel, rfl, by decide +kernel, by decide +kernel⟩
theorem ok_Shelf___init__ {f : Addr} {fd : FuncData} (F : Fun K "__init__" "Shelf.__init__" (mth 26 0) f fd) (hm : Mk K (ca 9) f) (hq : mg (clN 9) = some (.ref (ca 9))) (hB : Blt mg) (cl_Shelf : Cls K (ca 9)) (na_Shelf_now : NoAttr K (ca 9) "now") (na_Shelf_past : NoAttr K (ca 9) "past") : CalleeN P w K mg base ca 1 9 f_Shelf_init := by
  refine ⟨f, fd, ["self"], rfl, efn_body (N := ["self"]) (b := b_Shelf_init) F sc_Shelf___init__ fun cdv A outer s H E hg hr => ?_, hm, F.binds fun _ _ _ _ _ _ us hl => match us, hl with | [_], _ => rfl, hq⟩
  have hG : (cxOf (L2N.CX P w) P w K mg base ["self"] "Shelf.__init__" (defScope (mth 26 0)) f cdv A outer s H E).A.guards = some [] := by
    rw [← hg]; exact deeper_guards _ _
  have tk : L2N.Takes (cxOf (L2N.CX P w) P w K mg base ["self"] "Shelf.__init__" (defScope (mth 26 0)) f cdv A outer s H E) (fun cls d _ H => E cls d H) := L2N.takes_of rfl rfl rfl rfl
  have nd := sc_Shelf___init__.nd
  have hp : PassesOwn _ _ _ (cxOf (L2N.CX P w) P w K mg base ["self"] "Shelf.__init__" (defScope (mth 26 0)) f cdv A outer s H E).xe := passes_of rfl
  exact (ss_cons (ss_fld cl_Shelf na_Shelf_now (se_n 0 rfl (by first | exact .inl rfl | exact .inr (.inl rfl) | exact .inr (.inr rfl)) rfl rfl) (se_tup sa_nil) rfl)
  (ss_one (ss_fld cl_Shelf na_Shelf_past (se_n 0 rfl (by first | exact .inl rfl | exact .inr (.inl rfl) | exact .inr (.inr rfl)) rfl rfl) (se_lst sa_nil) rfl)))
theorem sc_law : FnScope ["_law_script", "_law_drawn_here", "_law_names_here", "_law_shelf", "_law_rows", "_law_past", "_law_k", "_law_found", "_law_ahead"] ["_law_script"] (defScope (top 39)) := ⟨rfl, rfl, rfl, by decide +kernel, rfl, by decide +kernel, by decide +kernel⟩
theorem ok_law {f : Addr} {fd : FuncData} (F : Fun K "law" "law" (top 39) f fd) (hB : Blt mg) (c__law_drawn : Callee P w K mg base ca 6 "_law_drawn" 2 f_l_drawn) (c__law_cell : Callee P w K mg base ca 6 "_law_cell" 2 f_l_cell) (c__law_names : Callee P w K mg base ca 6 "_law_names" 3 f_l_names) (c_Shelf___init__ : CalleeN P w K mg base ca 5 9 f_Shelf_init) (c__law_right : Callee P w K mg base ca 6 "_law_right" 3 f_l_right_12) (c__law_deed : Callee P w K mg base ca 6 "_law_deed" 5 f_l_deed_8) (c__law_learnt : Callee P w K mg base ca 6 "_law_learnt" 1 f_l_learnt_2) (c__law_turn_right : Callee P w K mg base ca 6 "_law_turn_right" 3 f_l_turn_right_2) : EFn P w K mg base 7 f fd ["_law_script"] (spF ⟨P, w, K, ca⟩ 1 f_law_92) := by
  refine efn_body (N := ["_law_script", "_law_drawn_here", "_law_names_here", "_law_shelf", "_law_rows", "_law_past", "_law_k", "_law_found", "_law_ahead"]) (b := b_law_92) F sc_law fun cdv A outer s H E hg hr => ?_
  have hG : (cxOf (L2N.CX P w) P w K mg base ["_law_script", "_law_drawn_here", "_law_names_here", "_law_shelf", "_law_rows", "_law_past", "_law_k", "_law_found", "_law_ahead"] "law" (defScope (top 39)) f cdv A outer s H E).A.guards = some [] := by
    rw [← hg]; exact deeper_guards _ _
  have tk : L2N.Takes (cxOf (L2N.CX P w) P w K mg base ["_law_script", "_law_drawn_here", "_law_names_here", "_law_shelf", "_law_rows", "_law_past", "_law_k", "_law_found", "_law_ahead"] "law" (defScope (top 39)) f cdv A outer s H E) (fun cls d _ H => E cls d H) := L2N.takes_of rfl rfl rfl rfl
  have nd := sc_law.nd
  have hp : PassesOwn _ _ _ (cxOf (L2N.CX P w) P w K mg base ["_law_script", "_law_drawn_here", "_law_names_here", "_law_shelf", "_law_rows", "_law_past", "_law_k", "_law_found", "_law_ahead"] "law" (defScope (top 39)) f cdv A outer s H E).xe := passes_of rfl
  exact (ss_cons (ss_asg (i := 1) nd rfl (by first | exact .inl rfl | exact .inr rfl) (se_c c__law_drawn hG hr tk rfl rfl rfl rfl (sa_c rfl (se_c c__law_cell hG hr tk rfl rfl rfl rfl (sa_c rfl (se_n 0 rfl (by first | exact .inl rfl | exact .inr (.inl rfl) | exact .inr (.inr rfl)) rfl rfl) (sa_c rfl se_int sa_nil))) (sa_c rfl se_int sa_nil))) rfl (by first | exact .inl rfl | exact .inr rfl))
  (ss_cons (ss_asg (i := 2) nd rfl (by first | exact .inl rfl | exact .inr rfl) (se_c c__law_names hG hr tk rfl rfl rfl rfl (sa_c rfl (se_n 0 rfl (by first | exact .inl rfl | exact .inr (.inl rfl) | exact .inr (.inr rfl)) rfl rfl) (sa_c rfl se_int (sa_c rfl (se_bin bin_add se_int (se_bin bin_mod (se_ix (hu65 hr) (se_n 1 rfl (by first | exact .inl rfl | exact .inr (.inl rfl) | exact .inr (.inr rfl)) rfl rfl) se_int (fun _ _ => rfl)) se_int)) sa_nil)))) rfl (by first | exact .inl rfl | exact .inr rfl))
  (ss_cons (ss_asg (i := 3) nd rfl (by first | exact .inl rfl | exact .inr rfl) (se_make (c := 9) c_Shelf___init__ hG hr tk rfl rfl) rfl (by first | exact .inl rfl | exact .inr rfl))
  (ss_cons (ss_asg (i := 4) nd rfl (by first | exact .inl rfl | exact .inr rfl) (se_lst sa_nil) rfl (by first | exact .inl rfl | exact .inr rfl))
  (ss_frz (j := 4) (ss_cons (ss_asg (i := 5) nd rfl (by first | exact .inl rfl | exact .inr rfl) (se_lst sa_nil) rfl (by first | exact .inl rfl | exact .inr rfl))
  (ss_cons (ss_if (st_not (st_val (se_c c__law_right hG hr tk rfl rfl rfl rfl (sa_c rfl (se_n 3 rfl (by first | exact .inl rfl | exact .inr (.inl rfl) | exact .inr (.inr rfl)) rfl rfl) (sa_c rfl (se_n 4 rfl (by first | exact .inl rfl | exact .inr (.inl rfl) | exact .inr (.inr rfl)) rfl rfl) (sa_c rfl (se_n 5 rfl (by first | exact .inl rfl | exact .inr (.inl rfl) | exact .inr (.inr rfl)) rfl rfl) sa_nil)))) (fun _ => rfl)))
    (ss_one (ss_ret se_bl))
    ss_nil)
  (ss_cons (ss_for (fg := [6, 7, 8]) hp rfl (si_rng1 rfl hB.range (sa_c rfl (se_bin bin_mod (se_ix (hu65 hr) (se_n 1 rfl (by first | exact .inl rfl | exact .inr (.inl rfl) | exact .inr (.inr rfl)) rfl rfl) se_int (fun _ _ => rfl)) se_int) sa_nil) rfl) (sg_name (i := 6) nd rfl (by first | exact .inl rfl | exact .inr rfl) (by first | exact .inl rfl | exact .inr rfl))
    (ss_cons (ss_asg (i := 7) nd rfl (by first | exact .inl rfl | exact .inr rfl) (se_c c__law_deed hG hr tk rfl rfl rfl rfl (sa_c rfl (se_n 3 rfl (by first | exact .inl rfl | exact .inr (.inl rfl) | exact .inr (.inr rfl)) rfl rfl) (sa_c rfl (se_c c__law_drawn hG hr tk rfl rfl rfl rfl (sa_c rfl (se_c c__law_cell hG hr tk rfl rfl rfl rfl (sa_c rfl (se_n 0 rfl (by first | exact .inl rfl | exact .inr (.inl rfl) | exact .inr (.inr rfl)) rfl rfl) (sa_c rfl (se_bin bin_add se_int (se_n 6 rfl (by first | exact .inl rfl | exact .inr (.inl rfl) | exact .inr (.inr rfl)) rfl rfl)) sa_nil))) (sa_c rfl se_int sa_nil))) (sa_c rfl (se_n 2 rfl (by first | exact .inl rfl | exact .inr (.inl rfl) | exact .inr (.inr rfl)) rfl rfl) (sa_c rfl (se_n 4 rfl (by first | exact .inl rfl | exact .inr (.inl rfl) | exact .inr (.inr rfl)) rfl rfl) (sa_c rfl (se_n 5 rfl (by first | exact .inl rfl | exact .inr (.inl rfl) | exact .inr (.inr rfl)) rfl rfl) sa_nil)))))) rfl (by first | exact .inl rfl | exact .inr rfl))
    (ss_cons (ss_if (st_cmp bin_isnot (se_n 7 rfl (by first | exact .inl rfl | exact .inr (.inl rfl) | exact .inr (.inr rfl)) rfl rfl) se_non rfl)
      (ss_cons (ss_asg (i := 8) nd rfl (by first | exact .inl rfl | exact .inr rfl) (se_c c__law_learnt hG hr tk rfl rfl rfl rfl (sa_c rfl (se_n 4 rfl (by first | exact .inl rfl | exact .inr (.inl rfl) | exact .inr (.inr rfl)) rfl rfl) sa_nil)) rfl (by first | exact .inl rfl | exact .inr rfl))
      (ss_cons (ss_asg (i := 4) nd rfl (by first | exact .inl rfl | exact .inr rfl) (se_yngR (pe_var rfl (by first | exact .inl rfl | exact .inr (.inl rfl) | exact .inr (.inr rfl)) rfl rfl)) rfl (by first | exact .inl rfl | exact .inr rfl))
      (ss_one (ss_if (st_not (st_val (se_c c__law_turn_right hG hr tk rfl rfl rfl rfl (sa_c rfl (se_yngL (pe_var rfl (by first | exact .inl rfl | exact .inr (.inl rfl) | exact .inr (.inr rfl)) rfl rfl)) (sa_c rfl (se_n 8 rfl (by first | exact .inl rfl | exact .inr (.inl rfl) | exact .inr (.inr rfl)) rfl rfl) (sa_c rfl (se_c c__law_learnt hG hr tk rfl rfl rfl rfl (sa_c rfl (se_n 4 rfl (by first | exact .inl rfl | exact .inr (.inl rfl) | exact .inr (.inr rfl)) rfl rfl) sa_nil)) sa_nil)))) (fun _ => rfl)))
        (ss_one (ss_ret se_bl))
        ss_nil))))
      ss_nil)
    (ss_one (ss_if (st_not (st_val (se_c c__law_right hG hr tk rfl rfl rfl rfl (sa_c rfl (se_n 3 rfl (by first | exact .inl rfl | exact .inr (.inl rfl) | exact .inr (.inr rfl)) rfl rfl) (sa_c rfl (se_n 4 rfl (by first | exact .inl rfl | exact .inr (.inl rfl) | exact .inr (.inr rfl)) rfl rfl) (sa_c rfl (se_n 5 rfl (by first | exact .inl rfl | exact .inr (.inl rfl) | exact .inr (.inr rfl)) rfl rfl) sa_nil)))) (fun _ => rfl)))
      (ss_one (ss_ret se_bl))
      ss_nil)))) (fun _ => rfl))
  (ss_one (ss_ret se_bl))))))))))
end
def d_0 : He.FnD := ⟨("_law_mix", none), "_law_mix", "_law_mix", defArgs (top 28), defBody (top 28), defScope (top 28)⟩
def d_1 : He.FnD := ⟨("_law_cell", none), "_law_cell", "_law_cell", defArgs (top 29), defBody (top 29), defScope (top 29)⟩
def d_2 : He.FnD := ⟨("_law_stands", none), "_law_stands", "_law_stands", defArgs (top 35), defBody (top 35), defScope (top 35)⟩
def d_3 : He.FnD := ⟨("_law_told", none), "_law_told", "_law_told", defArgs (top 33), defBody (top 33), defScope (top 33)⟩
def d_4 : He.FnD := ⟨("next_round", none), "next_round", "next_round", defArgs (top 20), defBody (top 20), defScope (top 20)⟩
def d_5 : He.FnD := ⟨("rounds", none), "rounds", "rounds", defArgs (top 21), defBody (top 21), defScope (top 21)⟩
def d_6 : He.FnD := ⟨("learnt", none), "learnt", "learnt", defArgs (top 22), defBody (top 22), defScope (top 22)⟩
def d_7 : He.FnD := ⟨("without_some", none), "without_some", "without_some", defArgs (top 25), defBody (top 25), defScope (top 25)⟩
def d_8 : He.FnD := ⟨("Shelf", some "turned"), "turned", "Shelf.turned", defArgs (mth 26 1), defBody (mth 26 1), defScope (mth 26 1)⟩
def d_9 : He.FnD := ⟨("Shelf", some "back"), "back", "Shelf.back", defArgs (mth 26 5), defBody (mth 26 5), defScope (mth 26 5)⟩
def d_10 : He.FnD := ⟨("is_number", none), "is_number", "is_number", defArgs (top 11), defBody (top 11), defScope (top 11)⟩
def d_11 : He.FnD := ⟨("is_stem", none), "is_stem", "is_stem", defArgs (top 10), defBody (top 10), defScope (top 10)⟩
def d_12 : He.FnD := ⟨("is_word", none), "is_word", "is_word", defArgs (top 12), defBody (top 12), defScope (top 12)⟩
def d_13 : He.FnD := ⟨("is_row", none), "is_row", "is_row", defArgs (top 17), defBody (top 17), defScope (top 17)⟩
def d_14 : He.FnD := ⟨("fits", none), "fits", "fits", defArgs (top 18), defBody (top 18), defScope (top 18)⟩
def d_15 : He.FnD := ⟨("alike", none), "alike", "alike", defArgs (top 16), defBody (top 16), defScope (top 16)⟩
def d_16 : He.FnD := ⟨("Shelf", some "place_of"), "place_of", "Shelf.place_of", defArgs (mth 26 2), defBody (mth 26 2), defScope (mth 26 2)⟩
def d_17 : He.FnD := ⟨("Shelf", some "put"), "put", "Shelf.put", defArgs (mth 26 3), defBody (mth 26 3), defScope (mth 26 3)⟩
def d_18 : He.FnD := ⟨("Shelf", some "take"), "take", "Shelf.take", defArgs (mth 26 4), defBody (mth 26 4), defScope (mth 26 4)⟩
def d_19 : He.FnD := ⟨("_law_deed", none), "_law_deed", "_law_deed", defArgs (top 38), defBody (top 38), defScope (top 38)⟩
def d_20 : He.FnD := ⟨("_law_drawn", none), "_law_drawn", "_law_drawn", defArgs (top 30), defBody (top 30), defScope (top 30)⟩
def d_21 : He.FnD := ⟨("_law_learnt", none), "_law_learnt", "_law_learnt", defArgs (top 34), defBody (top 34), defScope (top 34)⟩
def d_22 : He.FnD := ⟨("_law_name", none), "_law_name", "_law_name", defArgs (top 31), defBody (top 31), defScope (top 31)⟩
def d_23 : He.FnD := ⟨("_law_names", none), "_law_names", "_law_names", defArgs (top 32), defBody (top 32), defScope (top 32)⟩
def d_24 : He.FnD := ⟨("Shelf", some "book"), "book", "Shelf.book", defArgs (mth 26 6), defBody (mth 26 6), defScope (mth 26 6)⟩
def d_25 : He.FnD := ⟨("Shelf", some "deeds"), "deeds", "Shelf.deeds", defArgs (mth 26 8), defBody (mth 26 8), defScope (mth 26 8)⟩
def d_26 : He.FnD := ⟨("Shelf", some "learnt_now"), "learnt_now", "Shelf.learnt_now", defArgs (mth 26 7), defBody (mth 26 7), defScope (mth 26 7)⟩
def d_27 : He.FnD := ⟨("_law_right", none), "_law_right", "_law_right", defArgs (top 37), defBody (top 37), defScope (top 37)⟩
def d_28 : He.FnD := ⟨("_law_turn_right", none), "_law_turn_right", "_law_turn_right", defArgs (top 36), defBody (top 36), defScope (top 36)⟩
def d_29 : He.FnD := ⟨("Shelf", some "__init__"), "__init__", "Shelf.__init__", defArgs (mth 26 0), defBody (mth 26 0), defScope (mth 26 0)⟩
def d_30 : He.FnD := ⟨("law", none), "law", "law", defArgs (top 39), defBody (top 39), defScope (top 39)⟩
def fn : List He.FnD := [d_0, d_1, d_2, d_3, d_4, d_5, d_6, d_7, d_8, d_9, d_10, d_11, d_12, d_13, d_14, d_15, d_16, d_17, d_18, d_19, d_20, d_21, d_22, d_23, d_24, d_25, d_26, d_27, d_28, d_29, d_30]
def fa : List He.Fa := [.glo "_law_mix", .keep "_law_mix", .glo "_law_cell", .keep "_law_cell", .glo "_law_stands", .keep "_law_stands", .glo "_law_told", .keep "_law_told", .glo "next_round", .keep "next_round", .glo "rounds", .keep "rounds", .glo "learnt", .keep "learnt", .glo "without_some", .keep "without_some", .meth "Shelf" "turned", .meth "Shelf" "back", .glo "is_number", .keep "is_number", .glo "is_stem", .keep "is_stem", .glo "is_word", .keep "is_word", .glo "is_row", .keep "is_row", .glo "fits", .keep "fits", .glo "alike", .keep "alike", .meth "Shelf" "place_of", .meth "Shelf" "put", .meth "Shelf" "take", .glo "_law_deed", .keep "_law_deed", .glo "_law_drawn", .keep "_law_drawn", .glo "_law_learnt", .keep "_law_learnt", .glo "_law_name", .keep "_law_name", .glo "_law_names", .keep "_law_names", .meth "Shelf" "book", .meth "Shelf" "deeds", .meth "Shelf" "learnt_now", .glo "_law_right", .keep "_law_right", .glo "_law_turn_right", .keep "_law_turn_right", .glo "law", .keep "law", .glo "Shelf", .cls "Shelf", .mkr "Shelf", .noat "Shelf" "now", .noat "Shelf" "past", .free "len", .free "range", .free "sorted", .free "set", .free "tuple", .free "list", .free "all", .free "any", .free "sum", .free "max", .free "min", .free "str", .free "int", .free "dict", .free "repr", .free "isinstance", .free "zip", .free "enumerate", .free "reversed", .free "bool", .str "LETTERS" "abcdefghijklmnopqrstuvwxyz", .str "FIGURES" "0123456789", .int "LONGEST" 8, .int "ROWS" 60, .int "TOLD" 8, .int "MOST" 60]
abbrev R : PySem.W.OpenRow := PySem.W.OpenLaw.row PySem.Challenge.rw_primer_k51_a_shelf_walked
abbrev hk : PySem.W.Hook := hookT 5 fa fn (clB [0, 2, 5, 7, 8])
theorem facts {P : Program} {w : World} {K : PySem.W.Frag} {h : Heap} {mg : Str → Option Value} {f : Addr} (X : K.In h) (G : h.Ns mainGlobals mg) (hfa : mg ("law" : Str) = some (.ref f)) (cM : SaysM fa fn (clB [0, 2, 5, 7, 8]) K) :
    ∃ (fd : FuncData) (ca : Nat → Addr), (∀ (s : Shared) (v : Value), BindsTo s fd ⟨[v], []⟩ [("_law_script", v)]) ∧ ∀ base : Heap, K.In base → base.Ns mainGlobals mg → EFn P w K mg base 7 f fd ["_law_script"] (spF ⟨P, w, K, ca⟩ 1 f_law_92) := by
  have c := cM.1
  have hX := clB_ok X G cM.2
  have hB : Blt mg := ⟨He.free_ok X G (c.fact 57 (f := .free "len") rfl), He.free_ok X G (c.fact 58 (f := .free "range") rfl), He.free_ok X G (c.fact 59 (f := .free "sorted") rfl), He.free_ok X G (c.fact 60 (f := .free "set") rfl), He.free_ok X G (c.fact 61 (f := .free "tuple") rfl), He.free_ok X G (c.fact 62 (f := .free "list") rfl), He.free_ok X G (c.fact 63 (f := .free "all") rfl), He.free_ok X G (c.fact 64 (f := .free "any") rfl), He.free_ok X G (c.fact 65 (f := .free "sum") rfl), He.free_ok X G (c.fact 66 (f := .free "max") rfl), He.free_ok X G (c.fact 67 (f := .free "min") rfl), He.free_ok X G (c.fact 68 (f := .free "str") rfl), He.free_ok X G (c.fact 69 (f := .free "int") rfl), He.free_ok X G (c.fact 70 (f := .free "dict") rfl), He.free_ok X G (c.fact 71 (f := .free "repr") rfl), He.free_ok X G (c.fact 72 (f := .free "isinstance") rfl), He.free_ok X G (c.fact 73 (f := .free "zip") rfl), He.free_ok X G (c.fact 74 (f := .free "enumerate") rfl), He.free_ok X G (c.fact 75 (f := .free "reversed") rfl), He.free_ok X G (c.fact 76 (f := .free "bool") rfl)⟩
  obtain ⟨t_LETTERS, k_LETTERS⟩ := He.str_ok X G (c.fact 77 (f := .str "LETTERS" "abcdefghijklmnopqrstuvwxyz") rfl)
  obtain ⟨t_FIGURES, k_FIGURES⟩ := He.str_ok X G (c.fact 78 (f := .str "FIGURES" "0123456789") rfl)
  obtain ⟨t_LONGEST, k_LONGEST⟩ := He.int_ok X G (c.fact 79 (f := .int "LONGEST" 8) rfl)
  obtain ⟨t_ROWS, k_ROWS⟩ := He.int_ok X G (c.fact 80 (f := .int "ROWS" 60) rfl)
  obtain ⟨t_TOLD, k_TOLD⟩ := He.int_ok X G (c.fact 81 (f := .int "TOLD" 8) rfl)
  obtain ⟨t_MOST, k_MOST⟩ := He.int_ok X G (c.fact 82 (f := .int "MOST" 60) rfl)
  have cl_Shelf : Cls K (caOf K 9) := He.cls_ok (c.fact 53 (f := .cls "Shelf") rfl)
  have mg_Shelf : mg (clN 9) = some (.ref (caOf K 9)) := He.glo_ok X G (c.fact 52 (f := .glo "Shelf") rfl)
  have na_Shelf_now : NoAttr K (caOf K 9) "now" := He.noat_ok (c.fact 55 (f := .noat "Shelf" "now") rfl)
  have na_Shelf_past : NoAttr K (caOf K 9) "past" := He.noat_ok (c.fact 56 (f := .noat "Shelf" "past") rfl)
  have m__law_mix := He.glo_ok X G (c.fact 0 (f := .glo "_law_mix") rfl)
  obtain ⟨_, _, _, _, _, _, _, _, _, l_0, q_0⟩ := c.def_ 0 (d := d_0) rfl
  have F__law_mix : Fun K "_law_mix" "_law_mix" (top 28) (He.ga K "_law_mix") _ := fun_mk l_0 q_0 (He.keep_ok (c.fact 1 (f := .keep "_law_mix") rfl))
  have m__law_cell := He.glo_ok X G (c.fact 2 (f := .glo "_law_cell") rfl)
  obtain ⟨_, _, _, _, _, _, _, _, _, l_1, q_1⟩ := c.def_ 1 (d := d_1) rfl
  have F__law_cell : Fun K "_law_cell" "_law_cell" (top 29) (He.ga K "_law_cell") _ := fun_mk l_1 q_1 (He.keep_ok (c.fact 3 (f := .keep "_law_cell") rfl))
  have m__law_stands := He.glo_ok X G (c.fact 4 (f := .glo "_law_stands") rfl)
  obtain ⟨_, _, _, _, _, _, _, _, _, l_2, q_2⟩ := c.def_ 2 (d := d_2) rfl
  have F__law_stands : Fun K "_law_stands" "_law_stands" (top 35) (He.ga K "_law_stands") _ := fun_mk l_2 q_2 (He.keep_ok (c.fact 5 (f := .keep "_law_stands") rfl))
  have m__law_told := He.glo_ok X G (c.fact 6 (f := .glo "_law_told") rfl)
  obtain ⟨_, _, _, _, _, _, _, _, _, l_3, q_3⟩ := c.def_ 3 (d := d_3) rfl
  have F__law_told : Fun K "_law_told" "_law_told" (top 33) (He.ga K "_law_told") _ := fun_mk l_3 q_3 (He.keep_ok (c.fact 7 (f := .keep "_law_told") rfl))
  have m_next_round := He.glo_ok X G (c.fact 8 (f := .glo "next_round") rfl)
  obtain ⟨_, _, _, _, _, _, _, _, _, l_4, q_4⟩ := c.def_ 4 (d := d_4) rfl
  have F_next_round : Fun K "next_round" "next_round" (top 20) (He.ga K "next_round") _ := fun_mk l_4 q_4 (He.keep_ok (c.fact 9 (f := .keep "next_round") rfl))
  have m_rounds := He.glo_ok X G (c.fact 10 (f := .glo "rounds") rfl)
  obtain ⟨_, _, _, _, _, _, _, _, _, l_5, q_5⟩ := c.def_ 5 (d := d_5) rfl
  have F_rounds : Fun K "rounds" "rounds" (top 21) (He.ga K "rounds") _ := fun_mk l_5 q_5 (He.keep_ok (c.fact 11 (f := .keep "rounds") rfl))
  have m_learnt := He.glo_ok X G (c.fact 12 (f := .glo "learnt") rfl)
  obtain ⟨_, _, _, _, _, _, _, _, _, l_6, q_6⟩ := c.def_ 6 (d := d_6) rfl
  have F_learnt : Fun K "learnt" "learnt" (top 22) (He.ga K "learnt") _ := fun_mk l_6 q_6 (He.keep_ok (c.fact 13 (f := .keep "learnt") rfl))
  have m_without_some := He.glo_ok X G (c.fact 14 (f := .glo "without_some") rfl)
  obtain ⟨_, _, _, _, _, _, _, _, _, l_7, q_7⟩ := c.def_ 7 (d := d_7) rfl
  have F_without_some : Fun K "without_some" "without_some" (top 25) (He.ga K "without_some") _ := fun_mk l_7 q_7 (He.keep_ok (c.fact 15 (f := .keep "without_some") rfl))
  obtain ⟨_, _, _, _, _, _, _, _, _, l_8, q_8⟩ := c.def_ 8 (d := d_8) rfl
  have m_Shelf_turned : Meth K (caOf K 9) "turned" (He.ma K (He.ga K "Shelf") "turned") := He.meth_ok (c.fact 16 (f := .meth "Shelf" "turned") rfl)
  have F_Shelf_turned : Fun K "turned" "Shelf.turned" (mth 26 1) (He.ma K (He.ga K "Shelf") "turned") _ := fun_mk l_8 q_8 m_Shelf_turned.kp
  obtain ⟨_, _, _, _, _, _, _, _, _, l_9, q_9⟩ := c.def_ 9 (d := d_9) rfl
  have m_Shelf_back : Meth K (caOf K 9) "back" (He.ma K (He.ga K "Shelf") "back") := He.meth_ok (c.fact 17 (f := .meth "Shelf" "back") rfl)
  have F_Shelf_back : Fun K "back" "Shelf.back" (mth 26 5) (He.ma K (He.ga K "Shelf") "back") _ := fun_mk l_9 q_9 m_Shelf_back.kp
  have m_is_number := He.glo_ok X G (c.fact 18 (f := .glo "is_number") rfl)
  obtain ⟨_, _, _, _, _, _, _, _, _, l_10, q_10⟩ := c.def_ 10 (d := d_10) rfl
  have F_is_number : Fun K "is_number" "is_number" (top 11) (He.ga K "is_number") _ := fun_mk l_10 q_10 (He.keep_ok (c.fact 19 (f := .keep "is_number") rfl))
  have m_is_stem := He.glo_ok X G (c.fact 20 (f := .glo "is_stem") rfl)
  obtain ⟨_, _, _, _, _, _, _, _, _, l_11, q_11⟩ := c.def_ 11 (d := d_11) rfl
  have F_is_stem : Fun K "is_stem" "is_stem" (top 10) (He.ga K "is_stem") _ := fun_mk l_11 q_11 (He.keep_ok (c.fact 21 (f := .keep "is_stem") rfl))
  have m_is_word := He.glo_ok X G (c.fact 22 (f := .glo "is_word") rfl)
  obtain ⟨_, _, _, _, _, _, _, _, _, l_12, q_12⟩ := c.def_ 12 (d := d_12) rfl
  have F_is_word : Fun K "is_word" "is_word" (top 12) (He.ga K "is_word") _ := fun_mk l_12 q_12 (He.keep_ok (c.fact 23 (f := .keep "is_word") rfl))
  have m_is_row := He.glo_ok X G (c.fact 24 (f := .glo "is_row") rfl)
  obtain ⟨_, _, _, _, _, _, _, _, _, l_13, q_13⟩ := c.def_ 13 (d := d_13) rfl
  have F_is_row : Fun K "is_row" "is_row" (top 17) (He.ga K "is_row") _ := fun_mk l_13 q_13 (He.keep_ok (c.fact 25 (f := .keep "is_row") rfl))
  have m_fits := He.glo_ok X G (c.fact 26 (f := .glo "fits") rfl)
  obtain ⟨_, _, _, _, _, _, _, _, _, l_14, q_14⟩ := c.def_ 14 (d := d_14) rfl
  have F_fits : Fun K "fits" "fits" (top 18) (He.ga K "fits") _ := fun_mk l_14 q_14 (He.keep_ok (c.fact 27 (f := .keep "fits") rfl))
  have m_alike := He.glo_ok X G (c.fact 28 (f := .glo "alike") rfl)
  obtain ⟨_, _, _, _, _, _, _, _, _, l_15, q_15⟩ := c.def_ 15 (d := d_15) rfl
  have F_alike : Fun K "alike" "alike" (top 16) (He.ga K "alike") _ := fun_mk l_15 q_15 (He.keep_ok (c.fact 29 (f := .keep "alike") rfl))
  obtain ⟨_, _, _, _, _, _, _, _, _, l_16, q_16⟩ := c.def_ 16 (d := d_16) rfl
  have m_Shelf_place_of : Meth K (caOf K 9) "place_of" (He.ma K (He.ga K "Shelf") "place_of") := He.meth_ok (c.fact 30 (f := .meth "Shelf" "place_of") rfl)
  have F_Shelf_place_of : Fun K "place_of" "Shelf.place_of" (mth 26 2) (He.ma K (He.ga K "Shelf") "place_of") _ := fun_mk l_16 q_16 m_Shelf_place_of.kp
  obtain ⟨_, _, _, _, _, _, _, _, _, l_17, q_17⟩ := c.def_ 17 (d := d_17) rfl
  have m_Shelf_put : Meth K (caOf K 9) "put" (He.ma K (He.ga K "Shelf") "put") := He.meth_ok (c.fact 31 (f := .meth "Shelf" "put") rfl)
  have F_Shelf_put : Fun K "put" "Shelf.put" (mth 26 3) (He.ma K (He.ga K "Shelf") "put") _ := fun_mk l_17 q_17 m_Shelf_put.kp
  obtain ⟨_, _, _, _, _, _, _, _, _, l_18, q_18⟩ := c.def_ 18 (d := d_18) rfl
  have m_Shelf_take : Meth K (caOf K 9) "take" (He.ma K (He.ga K "Shelf") "take") := He.meth_ok (c.fact 32 (f := .meth "Shelf" "take") rfl)
  have F_Shelf_take : Fun K "take" "Shelf.take" (mth 26 4) (He.ma K (He.ga K "Shelf") "take") _ := fun_mk l_18 q_18 m_Shelf_take.kp
  have m__law_deed := He.glo_ok X G (c.fact 33 (f := .glo "_law_deed") rfl)
  obtain ⟨_, _, _, _, _, _, _, _, _, l_19, q_19⟩ := c.def_ 19 (d := d_19) rfl
  have F__law_deed : Fun K "_law_deed" "_law_deed" (top 38) (He.ga K "_law_deed") _ := fun_mk l_19 q_19 (He.keep_ok (c.fact 34 (f := .keep "_law_deed") rfl))
  have m__law_drawn := He.glo_ok X G (c.fact 35 (f := .glo "_law_drawn") rfl)
  obtain ⟨_, _, _, _, _, _, _, _, _, l_20, q_20⟩ := c.def_ 20 (d := d_20) rfl
  have F__law_drawn : Fun K "_law_drawn" "_law_drawn" (top 30) (He.ga K "_law_drawn") _ := fun_mk l_20 q_20 (He.keep_ok (c.fact 36 (f := .keep "_law_drawn") rfl))
  have m__law_learnt := He.glo_ok X G (c.fact 37 (f := .glo "_law_learnt") rfl)
  obtain ⟨_, _, _, _, _, _, _, _, _, l_21, q_21⟩ := c.def_ 21 (d := d_21) rfl
  have F__law_learnt : Fun K "_law_learnt" "_law_learnt" (top 34) (He.ga K "_law_learnt") _ := fun_mk l_21 q_21 (He.keep_ok (c.fact 38 (f := .keep "_law_learnt") rfl))
  have m__law_name := He.glo_ok X G (c.fact 39 (f := .glo "_law_name") rfl)
  obtain ⟨_, _, _, _, _, _, _, _, _, l_22, q_22⟩ := c.def_ 22 (d := d_22) rfl
  have F__law_name : Fun K "_law_name" "_law_name" (top 31) (He.ga K "_law_name") _ := fun_mk l_22 q_22 (He.keep_ok (c.fact 40 (f := .keep "_law_name") rfl))
  have m__law_names := He.glo_ok X G (c.fact 41 (f := .glo "_law_names") rfl)
  obtain ⟨_, _, _, _, _, _, _, _, _, l_23, q_23⟩ := c.def_ 23 (d := d_23) rfl
  have F__law_names : Fun K "_law_names" "_law_names" (top 32) (He.ga K "_law_names") _ := fun_mk l_23 q_23 (He.keep_ok (c.fact 42 (f := .keep "_law_names") rfl))
  obtain ⟨_, _, _, _, _, _, _, _, _, l_24, q_24⟩ := c.def_ 24 (d := d_24) rfl
  have m_Shelf_book : Meth K (caOf K 9) "book" (He.ma K (He.ga K "Shelf") "book") := He.meth_ok (c.fact 43 (f := .meth "Shelf" "book") rfl)
  have F_Shelf_book : Fun K "book" "Shelf.book" (mth 26 6) (He.ma K (He.ga K "Shelf") "book") _ := fun_mk l_24 q_24 m_Shelf_book.kp
  obtain ⟨_, _, _, _, _, _, _, _, _, l_25, q_25⟩ := c.def_ 25 (d := d_25) rfl
  have m_Shelf_deeds : Meth K (caOf K 9) "deeds" (He.ma K (He.ga K "Shelf") "deeds") := He.meth_ok (c.fact 44 (f := .meth "Shelf" "deeds") rfl)
  have F_Shelf_deeds : Fun K "deeds" "Shelf.deeds" (mth 26 8) (He.ma K (He.ga K "Shelf") "deeds") _ := fun_mk l_25 q_25 m_Shelf_deeds.kp
  obtain ⟨_, _, _, _, _, _, _, _, _, l_26, q_26⟩ := c.def_ 26 (d := d_26) rfl
  have m_Shelf_learnt_now : Meth K (caOf K 9) "learnt_now" (He.ma K (He.ga K "Shelf") "learnt_now") := He.meth_ok (c.fact 45 (f := .meth "Shelf" "learnt_now") rfl)
  have F_Shelf_learnt_now : Fun K "learnt_now" "Shelf.learnt_now" (mth 26 7) (He.ma K (He.ga K "Shelf") "learnt_now") _ := fun_mk l_26 q_26 m_Shelf_learnt_now.kp
  have m__law_right := He.glo_ok X G (c.fact 46 (f := .glo "_law_right") rfl)
  obtain ⟨_, _, _, _, _, _, _, _, _, l_27, q_27⟩ := c.def_ 27 (d := d_27) rfl
  have F__law_right : Fun K "_law_right" "_law_right" (top 37) (He.ga K "_law_right") _ := fun_mk l_27 q_27 (He.keep_ok (c.fact 47 (f := .keep "_law_right") rfl))
  have m__law_turn_right := He.glo_ok X G (c.fact 48 (f := .glo "_law_turn_right") rfl)
  obtain ⟨_, _, _, _, _, _, _, _, _, l_28, q_28⟩ := c.def_ 28 (d := d_28) rfl
  have F__law_turn_right : Fun K "_law_turn_right" "_law_turn_right" (top 36) (He.ga K "_law_turn_right") _ := fun_mk l_28 q_28 (He.keep_ok (c.fact 49 (f := .keep "_law_turn_right") rfl))
  obtain ⟨_, _, _, _, _, _, _, _, _, l_29, q_29⟩ := c.def_ 29 (d := d_29) rfl
  have m_Shelf___init__ : Mk K (caOf K 9) (He.ma K (He.ga K "Shelf") "__init__") := He.mkr_ok (c.fact 54 (f := .mkr "Shelf") rfl)
  have F_Shelf___init__ : Fun K "__init__" "Shelf.__init__" (mth 26 0) (He.ma K (He.ga K "Shelf") "__init__") _ := fun_mkI l_29 q_29
  have m_law := He.glo_ok X G (c.fact 50 (f := .glo "law") rfl)
  obtain ⟨_, _, _, _, _, _, _, _, _, l_30, q_30⟩ := c.def_ 30 (d := d_30) rfl
  have F_law : Fun K "law" "law" (top 39) (He.ga K "law") _ := fun_mk l_30 q_30 (He.keep_ok (c.fact 51 (f := .keep "law") rfl))
  rw [m_law] at hfa
  cases hfa
  refine ⟨_, caOf K, F_law.binds1 fun _ _ _ _ _ _ us hl => match us, hl with | [_], _ => rfl, fun base hb hg => ?_⟩
  have c__law_mix := ok__law_mix (P := P) (w := w) (base := base) (ca := caOf K) F__law_mix m__law_mix hB
  have c__law_cell := ok__law_cell (P := P) (w := w) (base := base) (ca := caOf K) F__law_cell m__law_cell hB (c__law_mix.mono (by decide))
  have c__law_stands := ok__law_stands (P := P) (w := w) (base := base) (ca := caOf K) F__law_stands m__law_stands hB
  have c__law_told := ok__law_told (P := P) (w := w) (base := base) (ca := caOf K) F__law_told m__law_told hB
  have c_next_round := ok_next_round (P := P) (w := w) (base := base) (ca := caOf K) F_next_round m_next_round hB
  have c_rounds := ok_rounds (P := P) (w := w) (base := base) (ca := caOf K) F_rounds m_rounds hB (c_next_round.mono (by decide))
  have c_learnt := ok_learnt (P := P) (w := w) (base := base) (ca := caOf K) F_learnt m_learnt hB (c_rounds.mono (by decide))
  have c_without_some := ok_without_some (P := P) (w := w) (base := base) (ca := caOf K) F_without_some m_without_some hB
  have c_Shelf_turned := ok_Shelf_turned (P := P) (w := w) (base := base) (ca := caOf K) F_Shelf_turned m_Shelf_turned hB cl_Shelf na_Shelf_now (c_learnt.mono (by decide)) (c_without_some.mono (by decide))
  have c_Shelf_back := ok_Shelf_back (P := P) (w := w) (base := base) (ca := caOf K) F_Shelf_back m_Shelf_back hB cl_Shelf na_Shelf_past (c_Shelf_turned.mono (by decide)) hX
  have c_is_number := ok_is_number (P := P) (w := w) (base := base) (ca := caOf K) F_is_number m_is_number hB k_FIGURES
  have c_is_stem := ok_is_stem (P := P) (w := w) (base := base) (ca := caOf K) F_is_stem m_is_stem hB k_LETTERS k_LONGEST
  have c_is_word := ok_is_word (P := P) (w := w) (base := base) (ca := caOf K) F_is_word m_is_word hB (c_is_stem.mono (by decide)) (c_is_number.mono (by decide))
  have c_is_row := ok_is_row (P := P) (w := w) (base := base) (ca := caOf K) F_is_row m_is_row hB (c_is_word.mono (by decide)) k_TOLD
  have c_fits := ok_fits (P := P) (w := w) (base := base) (ca := caOf K) F_fits m_fits hB (c_is_row.mono (by decide)) k_ROWS
  have c_alike := ok_alike (P := P) (w := w) (base := base) (ca := caOf K) F_alike m_alike hB
  have c_Shelf_place_of := ok_Shelf_place_of (P := P) (w := w) (base := base) (ca := caOf K) F_Shelf_place_of m_Shelf_place_of hB cl_Shelf na_Shelf_now (c_alike.mono (by decide))
  have c_Shelf_put := ok_Shelf_put (P := P) (w := w) (base := base) (ca := caOf K) F_Shelf_put m_Shelf_put hB cl_Shelf na_Shelf_now na_Shelf_past (c_Shelf_place_of.mono (by decide)) (c_fits.mono (by decide)) (c_Shelf_turned.mono (by decide)) hX k_MOST
  have c_Shelf_take := ok_Shelf_take (P := P) (w := w) (base := base) (ca := caOf K) F_Shelf_take m_Shelf_take hB cl_Shelf na_Shelf_past na_Shelf_now (c_Shelf_place_of.mono (by decide)) (c_Shelf_turned.mono (by decide)) hX
  have c__law_deed := ok__law_deed (P := P) (w := w) (base := base) (ca := caOf K) F__law_deed m__law_deed hB cl_Shelf (c__law_told.mono (by decide)) (c_Shelf_back.mono (by decide)) (c_Shelf_take.mono (by decide)) (c__law_stands.mono (by decide)) (c_Shelf_put.mono (by decide))
  have c__law_drawn := ok__law_drawn (P := P) (w := w) (base := base) (ca := caOf K) F__law_drawn m__law_drawn hB (c__law_mix.mono (by decide))
  have c__law_learnt := ok__law_learnt (P := P) (w := w) (base := base) (ca := caOf K) F__law_learnt m__law_learnt hB
  have c__law_name := ok__law_name (P := P) (w := w) (base := base) (ca := caOf K) F__law_name m__law_name hB
  have c__law_names := ok__law_names (P := P) (w := w) (base := base) (ca := caOf K) F__law_names m__law_names hB (c__law_name.mono (by decide)) (c__law_drawn.mono (by decide)) (c__law_cell.mono (by decide))
  have c_Shelf_book := ok_Shelf_book (P := P) (w := w) (base := base) (ca := caOf K) F_Shelf_book m_Shelf_book hB cl_Shelf na_Shelf_now
  have c_Shelf_deeds := ok_Shelf_deeds (P := P) (w := w) (base := base) (ca := caOf K) F_Shelf_deeds m_Shelf_deeds hB cl_Shelf na_Shelf_past
  have c_Shelf_learnt_now := ok_Shelf_learnt_now (P := P) (w := w) (base := base) (ca := caOf K) F_Shelf_learnt_now m_Shelf_learnt_now hB cl_Shelf na_Shelf_now (c_learnt.mono (by decide))
  have c__law_right := ok__law_right (P := P) (w := w) (base := base) (ca := caOf K) F__law_right m__law_right hB cl_Shelf (c_Shelf_book.mono (by decide)) (c_Shelf_learnt_now.mono (by decide)) (c__law_learnt.mono (by decide)) (c_Shelf_deeds.mono (by decide))
  have c__law_turn_right := ok__law_turn_right (P := P) (w := w) (base := base) (ca := caOf K) F__law_turn_right m__law_turn_right hB
  have c_Shelf___init__ := ok_Shelf___init__ (P := P) (w := w) (base := base) (ca := caOf K) F_Shelf___init__ m_Shelf___init__ mg_Shelf hB cl_Shelf na_Shelf_now na_Shelf_past
  exact ok_law F_law hB (c__law_drawn.mono (by decide)) (c__law_cell.mono (by decide)) (c__law_names.mono (by decide)) (c_Shelf___init__.mono (by decide)) (c__law_right.mono (by decide)) (c__law_deed.mono (by decide)) (c__law_learnt.mono (by decide)) (c__law_turn_right.mono (by decide))
end Eng
open PySem PySem.W PySem.Calls PyProof.Rows
theorem Eng.answer (ns : List Int) (_ : ns.length ≤ 63) : ∃ fin, Eng.f_law_92 [.scr ns] = .ret (.val (.bool true)) fin := Eng.answer51 ns
set_option maxHeartbeats 0 in
theorem PySem.Challenge.cw_primer_k51_a_shelf_walked_holds : PySem.Challenge.rw_primer_k51_a_shelf_walked.Holds := by
  w_on; o_law
  o_head Eng.hk
  case hw => w_witness2
  case hc =>
    refine Eng.walk_law (l := PySem.Challenge.rw_primer_k51_a_shelf_walked) (n := 63) (k := 7) (x := "_law_script") rfl (by decide) rfl ⟨rfl, by decide, by decide⟩ ?F Eng.answer
    intro w mg fa h Y G hmg0
    obtain ⟨K, KX, c⟩ := Y
    have hmg : mg ("law" : PySem.Str) = some (.ref fa) := hmg0
    obtain ⟨fd, ca, hb, hF⟩ := Eng.facts (P := (PySem.Challenge.rw_primer_k51_a_shelf_walked).prog) (w := w) KX G hmg c
    exact ⟨K, fd, ca, KX, hb, hF⟩
