import PyProof.Rows.All
import Wide.All
import OpenK.AllK
import Wide.FinOn
import HandS.ForMost
import HandS.Exc
import HandS.TryOnly
import HandS.ExcOwn
import HandS.ExcCtx
import HandS.WordsExc
import HandS.More
import KE.KDictKeyed
import KE.KeyNested
import HandS.Set
import HandS.Deep
import HandS.TupAny
import KE.SortData
import HandS.WordsDict
import HandS.SetFor
import HandS.Text
import HandS.Walk
import HandS.Zip
import PyProof.Draws
import PyProof.EnumMake
import HandS.Iter
import HandS.ForSpec
import HandS.IsInst
import PyProof.ReprRoads
import HandS.EndBits
import HandS.HeadHook1
import HandS.Style
import HandS.Rev
import HandS.ExcIs
import HandS.Dict
import KE.DataFind
import HandS.Head0
import HandS.Head1
import HandS.Head2
import HandS.Words
import HandS.HotCalls
import HandS.Strs
import HandS.Codes
import PySem.Challenge.RW_primer_k32_rings
set_option Elab.async false
set_option linter.all false
set_option maxRecDepth 100000
/-! The engine, part 1: data, owned objects, the state relation. -/
namespace Eng
open PySem PySem.Spec L2
open PyProof.Rows hiding St

abbrev D := PyData
abbrev Zs := Addr → Prop

mutual
/-- a value reads as a datum all of whose lists are frozen (in Z) -/
inductive Dz (Z : Zs) (K : PySem.W.Frag) (H : Hp) : D → V → Prop
  | non : Dz Z K H .none .non
  | bl (b : Bool) : Dz Z K H (.bool b) (.bl b)
  | int (i : Int) : Dz Z K H (.int i) (.int i)
  | str (x : Str) : Dz Z K H (.str x) (.str x)
  | lst {a : Addr} {xs : List V} {ds : List D} (z : Z a) (r : H a = some (.lst xs)) (h : DzA Z K H ds xs) : Dz Z K H (.list ds) (.ref a)
  | tup {a : Addr} {xs : List V} {ds : List D} (r : SqT K H a xs) (h : DzA Z K H ds xs) : Dz Z K H (.tuple ds) (.ref a)
  | dic {a : Addr} {ob : Obj} {kvs : List (Key × V)} {es : List (D × D)} (r : H a = some (.frz ob (.dK kvs))) (nd : (kvs.map (·.1)).Nodup) (hk : DzA Z K H (es.map (·.1)) (kvs.map fun p => kV p.1)) (hv : DzA Z K H (es.map (·.2)) (kvs.map (·.2))) : Dz Z K H (.dict es) (.ref a)
inductive DzA (Z : Zs) (K : PySem.W.Frag) (H : Hp) : List D → List V → Prop
  | nil : DzA Z K H [] []
  | cons {d : D} {v : V} {ds : List D} {vs : List V} (h : Dz Z K H d v) (t : DzA Z K H ds vs) : DzA Z K H (d :: ds) (v :: vs)
end

/-- the script: a list of ints that is locked, or written -/
def SqS (K : PySem.W.Frag) (H : Hp) (a : Addr) (ns : List Int) : Prop :=
  (∃ ob, H a = some (.frz ob (.lst (ns.map V.int)))) ∨
    ∃ (o : Obj) (its : Array Value) (n : Nat), K.lookup a = some o ∧ o.cls = .type "list" ∧ o.dict = none ∧ o.data = .seq its n ∧ its.size ≤ sizeLine ∧ Vals (ns.map V.int) its.toList
theorem SqS.sq {K : PySem.W.Frag} {H : Hp} {a : Addr} {ns : List Int} (h : SqS K H a ns) : SqL K H a (ns.map V.int) := by
  rcases h with ⟨ob, h⟩ | h
  · exact .inl (.inr ⟨ob, h⟩)
  · exact .inr h
/-- what a change of the heap keeps of frozen data -/
structure Kp (Z : Zs) (K : PySem.W.Frag) (H : Hp) (Z' : Zs) (H' : Hp) : Prop where
  z : ∀ a, Z a → Z' a
  r : ∀ a xs, Z a → H a = some (.lst xs) → H' a = some (.lst xs)
  t : ∀ a xs, SqT K H a xs → SqT K H' a xs
  f : ∀ a ns, SqS K H a ns → SqS K H' a ns
  g : ∀ a ob u, H a = some (.frz ob u) → H' a = some (.frz ob u)

section
variable {Z Z' : Zs} {K : PySem.W.Frag} {H H' : Hp}
theorem Dz.kp (k : Kp Z K H Z' H') {d : D} {v : V} (h : Dz Z K H d v) : Dz Z' K H' d v :=
  Dz.rec (motive_1 := fun d v _ => Dz Z' K H' d v) (motive_2 := fun ds vs _ => DzA Z' K H' ds vs) .non .bl .int .str (fun z r _ ih => .lst (k.z _ z) (k.r _ _ z r) ih) (fun r _ ih => .tup (k.t _ _ r) ih)
    (fun r nd _ _ ih1 ih2 => .dic (k.g _ _ _ r) nd ih1 ih2) .nil (fun _ _ ih1 ih2 => .cons ih1 ih2) h
theorem DzA.kp (k : Kp Z K H Z' H') : ∀ {ds : List D} {vs : List V}, DzA Z K H ds vs → DzA Z' K H' ds vs
  | [], _, h => by cases h; exact .nil
  | d :: ds, _, h => by
    cases h with
    | cons h t => exact .cons (Dz.kp k h) (DzA.kp k t)
mutual
theorem Dz.dp : ∀ {d : D} {v : V}, Dz Z K H d v → d.hasDict = false → Dp K H v d
  | .none, _, h, _ => by cases h; exact .non
  | .bool _, _, h, _ => by cases h; exact .bl _
  | .int _, _, h, _ => by cases h; exact .int _
  | .str _, _, h, _ => by cases h; exact .str _
  | .list ds, _, h, c => by
    cases h with
    | lst z r h => exact .lst (.inl (.inl r)) (DzA.dp h (by simpa [PyData.hasDict] using c))
  | .tuple ds, _, h, c => by
    cases h with
    | tup r h => exact .tup r (DzA.dp h (by simpa [PyData.hasDict] using c))
  | .dict _, _, h, c => by simp [PyData.hasDict] at c
theorem DzA.dp : ∀ {ds : List D} {vs : List V}, DzA Z K H ds vs → PyData.hasDictAll ds = false → DpAll K H vs ds
  | [], _, h, _ => by cases h; exact .nil
  | d :: ds, _, h, c => by
    cases h with
    | cons h t =>
      have c2 : d.hasDict = false ∧ PyData.hasDictAll ds = false := by simpa [PyData.hasDictAll] using c
      exact .cons (Dz.dp h c2.1) (DzA.dp t c2.2)
end
theorem DzA.length : ∀ {ds : List D} {vs : List V}, DzA Z K H ds vs → vs.length = ds.length
  | _, _, .nil => rfl
  | _, _, .cons _ t => by rw [List.length_cons, List.length_cons, DzA.length t]
theorem DzA.append : ∀ {ds es : List D} {vs ws : List V}, DzA Z K H ds vs → DzA Z K H es ws → DzA Z K H (ds ++ es) (vs ++ ws)
  | _, _, _, _, .nil, h => h
  | _, _, _, _, .cons h t, h' => .cons h (DzA.append t h')
theorem DzA.get : ∀ {ds : List D} {vs : List V} {i : Nat} {d : D}, DzA Z K H ds vs → ds[i]? = some d → ∃ v, vs[i]? = some v ∧ Dz Z K H d v
  | _, _, _, _, .nil, e => by simp at e
  | _, _, 0, d, .cons h t, e => by
    have e' := Option.some.inj (show some _ = some d by simpa using e)
    subst e'
    exact ⟨_, rfl, h⟩
  | _, _, i + 1, d, .cons h t, e => by
    obtain ⟨v, h1, h2⟩ := DzA.get (i := i) t (by simpa using e)
    exact ⟨v, by simpa using h1, h2⟩
theorem DzA.take : ∀ {ds : List D} {vs : List V} (n : Nat), DzA Z K H ds vs → DzA Z K H (ds.take n) (vs.take n)
  | _, _, 0, _ => .nil
  | _, _, _ + 1, .nil => .nil
  | _, _, n + 1, .cons h t => .cons h (DzA.take n t)
theorem DzA.drop : ∀ {ds : List D} {vs : List V} (n : Nat), DzA Z K H ds vs → DzA Z K H (ds.drop n) (vs.drop n)
  | _, _, 0, h => h
  | _, _, _ + 1, .nil => .nil
  | _, _, n + 1, .cons h t => DzA.drop n t
theorem DzA.reverse : ∀ {ds : List D} {vs : List V}, DzA Z K H ds vs → DzA Z K H ds.reverse vs.reverse
  | _, _, .nil => .nil
  | _, _, .cons h t => by
    rw [List.reverse_cons, List.reverse_cons]
    exact DzA.append (DzA.reverse t) (.cons h .nil)
theorem DzA.set : ∀ {ds : List D} {vs : List V} {d : D} {v : V} (i : Nat), DzA Z K H ds vs → Dz Z K H d v → DzA Z K H (ds.set i d) (vs.set i v)
  | _, _, _, _, _, .nil, _ => .nil
  | _, _, _, _, 0, .cons _ t, h => .cons h t
  | _, _, _, _, i + 1, .cons h t, h' => .cons h (DzA.set i t h')
theorem DzA.eraseIdx : ∀ {ds : List D} {vs : List V} (i : Nat), DzA Z K H ds vs → DzA Z K H (ds.eraseIdx i) (vs.eraseIdx i)
  | _, _, _, .nil => .nil
  | _, _, 0, .cons _ t => t
  | _, _, i + 1, .cons h t => .cons h (DzA.eraseIdx i t)
theorem DzA.dropLast : ∀ {ds : List D} {vs : List V}, DzA Z K H ds vs → DzA Z K H ds.dropLast vs.dropLast
  | _, _, .nil => .nil
  | _, _, .cons _ .nil => .nil
  | _, _, .cons h (.cons h' t) => .cons h (DzA.dropLast (.cons h' t))
theorem DzA.strs : ∀ {xs : List Str} {vs : List V}, DzA Z K H (xs.map PyData.str) vs → vs = xs.map V.str
  | [], _, h => by cases h; rfl
  | x :: xs, _, h => by
    cases h with
    | cons h t =>
      cases h
      rw [DzA.strs t]; rfl
theorem DzA.ints : ∀ {xs : List Int} {vs : List V}, DzA Z K H (xs.map PyData.int) vs → vs = xs.map V.int
  | [], _, h => by cases h; rfl
  | x :: xs, _, h => by
    cases h with
    | cons h t =>
      cases h
      rw [DzA.ints t]; rfl
theorem DzA.bls : ∀ {xs : List Bool} {vs : List V}, DzA Z K H (xs.map PyData.bool) vs → vs = xs.map V.bl
  | [], _, h => by cases h; rfl
  | x :: xs, _, h => by
    cases h with
    | cons h t =>
      cases h
      rw [DzA.bls t]; rfl
end

/-- the text of a set's entry -/
def txt (e : Int × Value) : Str := match e.2 with
  | .str x _ => x
  | _ => Str.empty
/-- at a stands a set of just the texts xs -/
def SetT (w : World) (h : Heap) (a : Addr) (xs : List Str) : Prop :=
  ∃ (o : Obj) (es : Array (Int × Value)) (ep : Nat) (t : SetTable), (h.get? a = some o ∧ o.ExactSet ∧ o.data = .set es ep t) ∧ (∀ e ∈ es.toList, ∃ x tk, e = (hashStr w x, Value.str x tk)) ∧
    (es.toList.map txt).Perm xs ∧ xs.Nodup ∧ (es.size < scanBound ∧ t.fits es.size = true ∧ Ris t.place.toList ∧ (w.params.followText "set-order" = true ∨ t.led = true))
/-- an object of the frame's own, its inner data frozen; a datum; an instance -/
inductive O where
  | val (d : D)
  | scr (ns : List Int)
  | set (xs : List Str)
  | lst (ds : List D)
  | dic (es : List (D × D))
  | ins (c : Nat) (fs : List (Str × O))
  | exn (c : Nat)

/-- at a stands an exception of the class C -/
def ExT (a C : Addr) (h : Heap) : Prop := ∃ o, h.get? a = some o ∧ o.cls = .ref C ∧ o.dict = none ∧ ∃ vs, o.data = .fields vs ∧ vs[2]? = some .none
/-- the key of a dict with nested tuples as keys -/
def nkey : D → Option NestedKey
  | .none => some .none
  | .int i => some (.num i)
  | .str x => some (.text x)
  | .tuple ds => (nkeys ds).map .tup
  | _ => none
where nkeys : List D → Option (List NestedKey)
  | [] => some []
  | d :: ds => match nkey d, nkeys ds with
    | some k, some ks => some (k :: ks)
    | _, _ => none

/-- what the context of a program gives -/
structure Gx where
  P : Program
  w : World
  K : PySem.W.Frag
  ca : Nat → Addr

/-- a dict with nested keys, by its own object alone -/
def NDict (G : Gx) (a : Addr) (xs : List (NestedKey × Addr × Value)) : Heap → Prop := fun h =>
  ∃ o es ep, h.get? a = some o ∧ o.ExactDict ∧ o.data = .dict es ep ∧ es.toList = xs.map (entryOfKey (nestedKind G.P G.w)) ∧ (xs.map (·.1)).Nodup ∧ (a == sysModules) = false ∧ xs.length ≤ sizeLine

def NEnt (Z : Zs) (K : PySem.W.Frag) (H : Hp) (x : NestedKey × Addr × Value) (e : D × D) : Prop :=
  nkey e.1 = some x.1 ∧ x.1.depth ≤ 8 ∧ Dz Z K H e.1 (.ref x.2.1) ∧ ∃ v, RelV v x.2.2 ∧ Dz Z K H e.2 v

mutual
/-- the object o stands at v; F: the addresses that it owns -/
inductive Ro (G : Gx) (Z : Zs) (H : Hp) : O → V → List Addr → Prop
  | val {d : D} {v : V} (h : Dz Z G.K H d v) : Ro G Z H (.val d) v []
  | scr {a : Addr} {ns : List Int} (h : SqS G.K H a ns) : Ro G Z H (.scr ns) (.ref a) []
  | set {a : Addr} {xs : List Str} (e : H a = some (.ext fun h => SetT G.w h a xs)) : Ro G Z H (.set xs) (.ref a) [a]
  | lst {a : Addr} {xs : List V} {ds : List D} (e : H a = some (.lst xs)) (h : DzA Z G.K H ds xs) : Ro G Z H (.lst ds) (.ref a) [a]
  | dic {a : Addr} {kvs : List (Key × V)} {es : List (D × D)} (e : H a = some (.dK kvs)) (hk : DzA Z G.K H (es.map (·.1)) (kvs.map fun p => kV p.1)) (hv : DzA Z G.K H (es.map (·.2)) (kvs.map (·.2)))
      (nd : (kvs.map (·.1)).Nodup) : Ro G Z H (.dic es) (.ref a) [a]
  | dct {a : Addr} {xs : List (NestedKey × Addr × Value)} {es : List (D × D)} (e : H a = some (.ext (NDict G a xs))) (hx : Paired (NEnt Z G.K H) xs es) (nd : (xs.map (·.1)).Nodup) (ne : xs ≠ []) : Ro G Z H (.dic es) (.ref a) [a]
  | ins {a dx : Addr} {c : Nat} {vs : List (Str × V)} {fs : List (Str × O)} {F : List Addr} (e : H a = some (.ins (G.ca c) dx vs)) (h : RoF G Z H fs vs F) : Ro G Z H (.ins c fs) (.ref a) (a :: F)
  | exn {a : Addr} {c : Nat} (e : H a = some (.ext (ExT a (G.ca c)))) : Ro G Z H (.exn c) (.ref a) [a]
inductive RoF (G : Gx) (Z : Zs) (H : Hp) : List (Str × O) → List (Str × V) → List Addr → Prop
  | nil : RoF G Z H [] [] []
  | cons {n : Str} {o : O} {v : V} {fs : List (Str × O)} {vs : List (Str × V)} {F F' : List Addr} (h : Ro G Z H o v F) (t : RoF G Z H fs vs F') : RoF G Z H ((n, o) :: fs) ((n, v) :: vs) (F ++ F')
end

section
variable {G : Gx} {Z Z' : Zs} {H H' : Hp}
mutual
theorem Ro.kp (k : Kp Z G.K H Z' H') : ∀ {o : O} {v : V} {F : List Addr}, Ro G Z H o v F → (∀ a ∈ F, ∀ u, H a = some u → H' a = some u) → Ro G Z' H' o v F
  | .val _, _, _, h, _ => by
    cases h with
    | val h => exact .val (h.kp k)
  | .scr _, _, _, h, _ => by
    cases h with
    | scr h => exact .scr (k.f _ _ h)
  | .set _, _, _, h, hf => by
    cases h with
    | set e => exact .set (hf _ (by simp) _ e)
  | .lst _, _, _, h, hf => by
    cases h with
    | lst e h => exact .lst (hf _ (by simp) _ e) (h.kp k)
  | .dic _, _, _, h, hf => by
    cases h with
    | dic e hk hv nd => exact .dic (hf _ (by simp) _ e) (hk.kp k) (hv.kp k) nd
    | dct e hx nd ne => exact .dct (hf _ (by simp) _ e) (Paired.mapP hx fun p q ⟨h1, h2, h3, v, h4, h5⟩ => ⟨h1, h2, h3.kp k, v, h4, h5.kp k⟩) nd ne
  | .ins _ fs, _, _, h, hf => by
    cases h with
    | ins e h => exact .ins (hf _ (by simp) _ e) (RoF.kp k h fun a ha => hf a (List.mem_cons_of_mem _ ha))
  | .exn _, _, _, h, hf => by
    cases h with
    | exn e => exact .exn (hf _ (by simp) _ e)
theorem RoF.kp (k : Kp Z G.K H Z' H') : ∀ {fs : List (Str × O)} {vs : List (Str × V)} {F : List Addr}, RoF G Z H fs vs F → (∀ a ∈ F, ∀ u, H a = some u → H' a = some u) → RoF G Z' H' fs vs F
  | [], _, _, h, _ => by cases h; exact .nil
  | (n, o) :: fs, _, _, h, hf => by
    cases h with
    | cons h t => exact .cons (Ro.kp k h fun a ha => hf a (List.mem_append_left _ ha)) (RoF.kp k t fun a ha => hf a (List.mem_append_right _ ha))
end
mutual
theorem Ro.mut : ∀ {o : O} {v : V} {F : List Addr}, Ro G Z H o v F → ∀ a ∈ F, Mut (H a)
  | .val _, _, _, h, a, ha => by
    cases h with
    | val h => cases ha
  | .scr _, _, _, h, a, ha => by
    cases h with
    | scr h => cases ha
  | .set _, _, _, h, a, ha => by
    cases h with
    | set e => rw [List.mem_singleton] at ha; subst ha; rw [e]; trivial
  | .lst _, _, _, h, a, ha => by
    cases h with
    | lst e h => rw [List.mem_singleton] at ha; subst ha; rw [e]; trivial
  | .dic _, _, _, h, a, ha => by
    cases h with
    | dic e hk hv nd => rw [List.mem_singleton] at ha; subst ha; rw [e]; trivial
    | dct e hx nd ne => rw [List.mem_singleton] at ha; subst ha; rw [e]; trivial
  | .ins _ fs, _, _, h, a, ha => by
    cases h with
    | ins e h =>
      rcases List.mem_cons.mp ha with q | ha
      · subst q; rw [e]; trivial
      · exact RoF.mut h a ha
  | .exn _, _, _, h, a, ha => by
    cases h with
    | exn e => rw [List.mem_singleton] at ha; subst ha; rw [e]; trivial
theorem RoF.mut : ∀ {fs : List (Str × O)} {vs : List (Str × V)} {F : List Addr}, RoF G Z H fs vs F → ∀ a ∈ F, Mut (H a)
  | [], _, _, h, a, ha => by cases h; cases ha
  | (n, o) :: fs, _, _, h, a, ha => by
    cases h with
    | cons h t =>
      rcases List.mem_append.mp ha with ha | ha
      · exact Ro.mut h a ha
      · exact RoF.mut t a ha
end
end

/-! ### steps -/
structure Step (Z : Zs) (L : List Addr) (H : Hp) (Z' : Zs) (M : List Addr) (H' : Hp) : Prop where
  keep : ∀ a o, H a = some o → a ∉ L → H' a = some o
  zmono : ∀ a, Z a → Z' a
  znew : ∀ a, Z' a → Z a ∨ a ∈ L ∨ H a = none
  lnew : ∀ a ∈ M, a ∈ L ∨ H a = none

section
variable {K : PySem.W.Frag} {Z Z1 Z2 : Zs} {H H1 H2 : Hp} {L M L1 M2 F : List Addr}
theorem Step.refl : Step Z L H Z L H := ⟨fun _ _ e _ => e, fun _ h => h, fun _ h => .inl h, fun _ h => .inl h⟩
theorem Step.sub (s : Step Z L H Z1 M H1) (h : ∀ a ∈ L1, a ∈ M) : Step Z L H Z1 L1 H1 := ⟨s.keep, s.zmono, s.znew, fun a ha => s.lnew a (h a ha)⟩
/-- a further step of a part; F stands aside -/
theorem Step.then (s : Step Z L H Z1 (F ++ L1) H1) (t : Step Z1 L1 H1 Z2 M2 H2) : Step Z L H Z2 (F ++ M2) H2 where
  keep := fun a o e hn => t.keep a o (s.keep a o e hn) fun hl => by
    rcases s.lnew a (List.mem_append_right _ hl) with q | q
    · exact hn q
    · rw [e] at q; cases q
  zmono := fun a h => t.zmono a (s.zmono a h)
  znew := fun a h => by
    have none_of : H1 a = none → a ∈ L ∨ H a = none := fun q => by
      by_cases hl : a ∈ L
      · exact .inl hl
      · cases e : H a with
        | none => exact .inr rfl
        | some o => rw [s.keep a o e hl] at q; cases q
    rcases t.znew a h with q | q | q
    · exact s.znew a q
    · exact .inr (s.lnew a (List.mem_append_right _ q))
    · exact .inr (none_of q)
  lnew := fun a h => by
    have none_of : H1 a = none → a ∈ L ∨ H a = none := fun q => by
      by_cases hl : a ∈ L
      · exact .inl hl
      · cases e : H a with
        | none => exact .inr rfl
        | some o => rw [s.keep a o e hl] at q; cases q
    rcases List.mem_append.mp h with h | h
    · exact s.lnew a (List.mem_append_left _ h)
    · rcases t.lnew a h with q | q
      · exact s.lnew a (List.mem_append_right _ q)
      · exact none_of q
theorem Step.trans (s : Step Z L H Z1 L1 H1) (t : Step Z1 L1 H1 Z2 M2 H2) : Step Z L H Z2 M2 H2 := Step.then (F := []) s t
/-- frozen data is kept -/
theorem Step.kp (s : Step Z L H Z1 M H1) (mu : ∀ a ∈ L, Mut (H a)) (dis : ∀ a ∈ L, ¬ Z a) : Kp Z K H Z1 H1 where
  z := s.zmono
  r := fun a xs z r => by
    have hn : a ∉ L := fun h => dis a h z
    exact s.keep _ _ r hn
  t := fun a xs r => by
    rcases r with (r | ⟨o, r⟩) | r
    · refine .inl (.inl (s.keep _ _ r fun h => ?_))
      have := mu a h
      rw [r] at this
      exact this
    · refine .inl (.inr ⟨o, s.keep _ _ r fun h => ?_⟩)
      have := mu a h
      rw [r] at this
      exact this
    · exact .inr r
  f := fun a ns r => by
    rcases r with ⟨ob, r⟩ | r
    · refine .inl ⟨ob, s.keep _ _ r fun h => ?_⟩
      have := mu a h
      rw [r] at this
      exact this
    · exact .inr r
  g := fun a ob u r => s.keep _ _ r fun h => by
    have := mu a h
    rw [r] at this
    exact this
end

/-! ### the slots -/
/-- a slot: unknown, or an object (pin: a parameter's own, not to be stored over) -/
abbrev Sl := Option (Bool × O)
abbrev En := List Sl

inductive RoS (G : Gx) (Z : Zs) (H : Hp) : En → St → List Addr → Prop
  | emp : RoS G Z H [] [] []
  | no {ρ : En} {σ : St} {x : Option V} {L : List Addr} (t : RoS G Z H ρ σ L) : RoS G Z H (none :: ρ) (x :: σ) L
  | yes {ρ : En} {σ : St} {p : Bool} {o : O} {v : V} {F L : List Addr} (h : Ro G Z H o v F) (t : RoS G Z H ρ σ L) : RoS G Z H (some (p, o) :: ρ) (some v :: σ) (F ++ L)

section
variable {G : Gx} {Z Z' : Zs} {H H' : Hp}
theorem RoS.kp (k : Kp Z G.K H Z' H') : ∀ {ρ : En} {σ : St} {L : List Addr}, RoS G Z H ρ σ L → (∀ a ∈ L, ∀ u, H a = some u → H' a = some u) → RoS G Z' H' ρ σ L
  | _, _, _, .emp, _ => .emp
  | _, _, _, .no t, hf => .no (RoS.kp k t hf)
  | _, _, _, .yes h t, hf => .yes (h.kp k fun a ha => hf a (List.mem_append_left _ ha)) (RoS.kp k t fun a ha => hf a (List.mem_append_right _ ha))
theorem RoS.mut : ∀ {ρ : En} {σ : St} {L : List Addr}, RoS G Z H ρ σ L → ∀ a ∈ L, Mut (H a)
  | _, _, _, .emp, _, h => by cases h
  | _, _, _, .no t, a, h => RoS.mut t a h
  | _, _, _, .yes h t, a, ha => by
    rcases List.mem_append.mp ha with ha | ha
    · exact h.mut a ha
    · exact RoS.mut t a ha
theorem RoS.length : ∀ {ρ : En} {σ : St} {L : List Addr}, RoS G Z H ρ σ L → ρ.length = σ.length
  | _, _, _, .emp => rfl
  | _, _, _, .no t => by rw [List.length_cons, List.length_cons, RoS.length t]
  | _, _, _, .yes _ t => by rw [List.length_cons, List.length_cons, RoS.length t]
/-- a slot is read: its object, and the rest -/
theorem RoS.get : ∀ {ρ : En} {σ : St} {L : List Addr} {i : Nat} {p : Bool} {o : O}, RoS G Z H ρ σ L → ρ[i]? = some (some (p, o)) → ∃ v F, σ[i]? = some (some v) ∧ Ro G Z H o v F ∧ (∀ a ∈ F, a ∈ L)
  | _, _, _, _, _, _, .emp, e => by simp at e
  | _, _, _, 0, _, _, .no t, e => by simp at e
  | _, _, _, i + 1, _, _, .no t, e => by
    obtain ⟨v, F, h1, h2, h3⟩ := RoS.get (i := i) t (by simpa using e)
    exact ⟨v, F, by simpa using h1, h2, h3⟩
  | _, _, _, 0, p, o, .yes h t, e => by
    simp only [List.getElem?_cons_zero, Option.some.injEq, Prod.mk.injEq] at e
    obtain ⟨rfl, rfl⟩ := e
    exact ⟨_, _, rfl, h, fun a ha => List.mem_append_left _ ha⟩
  | _, _, _, i + 1, _, _, .yes h t, e => by
    obtain ⟨v, F, h1, h2, h3⟩ := RoS.get (i := i) t (by simpa using e)
    exact ⟨v, F, by simpa using h1, h2, fun a ha => List.mem_append_right _ (h3 a ha)⟩
end

/-- the state: slots ρ at σ, in all L owned; pinned ones at their θ -/
structure Rep (θ : Nat → V) (G : Gx) (Z : Zs) (H : Hp) (ρ : En) (σ : St) (L : List Addr) : Prop where
  sl : RoS G Z H ρ σ L
  nd : L.Nodup
  dis : ∀ a ∈ L, ¬ Z a
  zd : ∀ a, Z a → H a ≠ none
  pn : ∀ i o, ρ[i]? = some (some (true, o)) → σ[i]? = some (some (θ i))
end Eng
/-! The engine, part 2: outcomes, operands, readings of expressions. -/
namespace Eng
open PySem PySem.Spec L2
open PyProof.Rows hiding St

inductive Out (α : Type) where
  | ok (a : α) (ρ : En)
  | exc (c : Nat) (ρ : En)
  | stuck
def Out.bind {α β : Type} : Out α → (α → En → Out β) → Out β
  | .ok a ρ, f => f a ρ
  | .exc c ρ, _ => .exc c ρ
  | .stuck, _ => .stuck
@[simp] theorem bind_ok {α β : Type} (a : α) (ρ : En) (f : α → En → Out β) : (Out.ok a ρ).bind f = f a ρ := rfl
@[simp] theorem bind_exc {α β : Type} (c : Nat) (ρ : En) (f : α → En → Out β) : (Out.exc c ρ : Out α).bind f = .exc c ρ := rfl
@[simp] theorem bind_stuck {α β : Type} (f : α → En → Out β) : (Out.stuck : Out α).bind f = .stuck := rfl

inductive Opd where
  | tmp (o : O)
  | nm (i : Nat)
abbrev ES := En → Out Opd
abbrev AS := En → Out (List Opd)
abbrev TS' := En → Out Bool

def slotO (ρ : En) (i : Nat) : Option O := match ρ[i]? with
  | some (some po) => some po.2
  | _ => none
def look (ρ : En) : Opd → Option O
  | .tmp o => some o
  | .nm i => slotO ρ i
def looks (ρ : En) : List Opd → Option (List O)
  | [] => some []
  | p :: ps => match look ρ p, looks ρ ps with
    | some o, some os => some (o :: os)
    | _, _ => none
/-- an answer that may be lacking -/
def put (ρ : En) : Option O → Out Opd
  | some o => .ok (.tmp o) ρ
  | none => .stuck

/-! ### operands that are held -/
inductive OpsOk (G : Gx) (Z : Zs) (H : Hp) (σ : L2.St) : List Opd → List V → List Addr → Prop
  | nil : OpsOk G Z H σ [] [] []
  | tmp {o : O} {v : V} {F F' : List Addr} {ps : List Opd} {vs : List V} (h : Ro G Z H o v F) (t : OpsOk G Z H σ ps vs F') : OpsOk G Z H σ (.tmp o :: ps) (v :: vs) (F ++ F')
  | nm {i : Nat} {v : V} {F' : List Addr} {ps : List Opd} {vs : List V} (h : σ[i]? = some (some v)) (t : OpsOk G Z H σ ps vs F') : OpsOk G Z H σ (.nm i :: ps) (v :: vs) F'
structure Held (G : Gx) (Z : Zs) (H : Hp) (σ : L2.St) (L : List Addr) (ps : List Opd) (vs : List V) (F : List Addr) : Prop where
  ok : OpsOk G Z H σ ps vs F
  nd : (F ++ L).Nodup
  dis : ∀ a ∈ F, ¬ Z a

section
variable {θ : Nat → V} {G : Gx} {Z Z1 Z2 : Zs} {H H1 H2 : Hp} {σ : L2.St} {L L1 L2' F F1 F2 : List Addr} {ps qs : List Opd} {vs ws : List V} {ρ ρ1 : En}
theorem OpsOk.kp (k : Kp Z1 G.K H1 Z2 H2) : ∀ {ps : List Opd} {vs : List V} {F : List Addr}, OpsOk G Z1 H1 σ ps vs F → (∀ a ∈ F, ∀ u, H1 a = some u → H2 a = some u) → OpsOk G Z2 H2 σ ps vs F
  | _, _, _, .nil, _ => .nil
  | _, _, _, .tmp h t, hf => .tmp (h.kp k fun a ha => hf a (List.mem_append_left _ ha)) (OpsOk.kp k t fun a ha => hf a (List.mem_append_right _ ha))
  | _, _, _, .nm h t, hf => .nm h (OpsOk.kp k t hf)
theorem OpsOk.mut : ∀ {ps : List Opd} {vs : List V} {F : List Addr}, OpsOk G Z H σ ps vs F → ∀ a ∈ F, Mut (H a)
  | _, _, _, .nil, _, h => by cases h
  | _, _, _, .tmp h t, a, ha => (List.mem_append.mp ha).elim (h.mut a) (OpsOk.mut t a)
  | _, _, _, .nm _ t, a, ha => OpsOk.mut t a ha
theorem OpsOk.append : ∀ {ps qs : List Opd} {vs ws : List V} {F F' : List Addr}, OpsOk G Z H σ ps vs F → OpsOk G Z H σ qs ws F' → OpsOk G Z H σ (ps ++ qs) (vs ++ ws) (F ++ F')
  | _, _, _, _, _, _, .nil, h => h
  | _, _, _, _, _, _, .tmp h t, h' => by
    rw [List.append_assoc]
    exact .tmp h (OpsOk.append t h')
  | _, _, _, _, _, _, .nm h t, h' => .nm h (OpsOk.append t h')
theorem mut_some {H : Hp} {a : Addr} (m : Mut (H a)) : H a ≠ none := fun e => by rw [e] at m; exact m
/-- held operands are held on when a part of the state has gone a step -/
theorem Held.carry (h : Held G Z1 H1 σ L1 ps vs F1) (r : Rep θ G Z1 H1 ρ1 σ L1) (s : Step Z1 L1 H1 Z2 (F2 ++ L2') H2) (nd : (F2 ++ L2').Nodup) : Held G Z2 H2 σ (F2 ++ L2') ps vs F1 := by
  have mu := h.ok.mut
  have nL : ∀ a ∈ F1, a ∉ L1 := fun a ha hl => (List.nodup_append.mp h.nd).2.2 a ha a hl rfl
  refine ⟨h.ok.kp (s.kp r.sl.mut r.dis) fun a ha u e => s.keep a u e (nL a ha), ?_, fun a ha z => ?_⟩
  · refine List.nodup_append.mpr ⟨(List.nodup_append.mp h.nd).1, nd, fun a ha b hb e => ?_⟩
    subst e
    rcases s.lnew a hb with q | q
    · exact nL a ha q
    · exact mut_some (mu a ha) q
  · rcases s.znew a z with q | q | q
    · exact h.dis a ha q
    · exact nL a ha q
    · exact mut_some (mu a ha) q
theorem Held.join (h1 : Held G Z H σ (F2 ++ L) ps vs F1) (h2 : Held G Z H σ L qs ws F2) : Held G Z H σ L (ps ++ qs) (vs ++ ws) (F1 ++ F2) :=
  ⟨h1.ok.append h2.ok, by rw [List.append_assoc]; exact h1.nd, fun a ha => (List.mem_append.mp ha).elim (h1.dis a) (h2.dis a)⟩
theorem Held.none (r : Rep θ G Z H ρ σ L) : Held G Z H σ L [] [] [] := ⟨.nil, r.nd, fun _ h => by cases h⟩
/-- it can be read -/
def Rb (G : Gx) (Z : Zs) (H : Hp) (o : O) (v : V) : Prop := ∃ F, Ro G Z H o v F
theorem slotO_some {ρ : En} {i : Nat} {o : O} (e : slotO ρ i = some o) : ∃ p, ρ[i]? = some (some (p, o)) := by
  unfold slotO at e
  split at e
  · rename_i po h
    cases e
    exact ⟨po.1, h⟩
  · cases e
theorem Rep.look (r : Rep θ G Z H ρ σ L) {i : Nat} {o : O} {v : V} (e : slotO ρ i = some o) (hv : σ[i]? = some (some v)) : Rb G Z H o v := by
  obtain ⟨p, e⟩ := slotO_some e
  obtain ⟨v', F, h1, h2, _⟩ := r.sl.get e
  rw [hv] at h1
  cases h1
  exact ⟨F, h2⟩
theorem OpsOk.looks (r : Rep θ G Z H ρ σ L) : ∀ {ps : List Opd} {vs : List V} {F : List Addr} {os : List O}, OpsOk G Z H σ ps vs F → looks ρ ps = some os → Paired (Rb G Z H) os vs
  | _, _, _, _, .nil, e => by
    cases e
    exact .nil
  | _, _, _, os, .tmp (ps := ps) h t, e => by
    unfold Eng.looks at e
    cases q : Eng.looks ρ ps with
    | none => rw [q] at e; simp [look] at e
    | some us =>
      rw [q] at e
      simp only [look, Option.some.injEq] at e
      subst e
      exact .cons ⟨_, h⟩ (OpsOk.looks r t q)
  | _, _, _, os, .nm (i := i) (ps := ps) h t, e => by
    unfold Eng.looks at e
    cases q : Eng.looks ρ ps with
    | none => rw [q] at e; cases q2 : slotO ρ i <;> simp [look, q2] at e
    | some us =>
      cases q2 : slotO ρ i with
      | none => simp [look, q2] at e
      | some o =>
        rw [q] at e
        simp only [look, q2, Option.some.injEq] at e
        subst e
        exact .cons (r.look q2 h) (OpsOk.looks r t q)
end

/-! ### an answer at a new object -/
structure Al (G : Gx) (Z : Zs) (H : Hp) (o : O) (v : V) (H' : Hp) (F : List Addr) : Prop where
  same : Same H H'
  ro : Ro G Z H' o v F
  nd : F.Nodup
  new : ∀ a ∈ F, H a = none
section
variable {θ : Nat → V} {G : Gx} {Z : Zs} {H H' : Hp} {σ : L2.St} {L F : List Addr} {ρ : En} {o : O} {v : V}
theorem same_kp {K : PySem.W.Frag} (s : Same H H') : Kp Z K H Z H' := ⟨fun _ h => h, fun a xs _ e => s _ _ e, fun a xs h => by
  rcases h with (e | ⟨o, e⟩) | e
  · exact .inl (.inl (s _ _ e))
  · exact .inl (.inr ⟨o, s _ _ e⟩)
  · exact .inr e, fun a ns h => by
  rcases h with ⟨ob, e⟩ | e
  · exact .inl ⟨ob, s _ _ e⟩
  · exact .inr e, fun a ob u e => s _ _ e⟩
theorem Rep.same (r : Rep θ G Z H ρ σ L) (s : Same H H') : Rep θ G Z H' ρ σ L :=
  ⟨r.sl.kp (same_kp s) fun a _ u e => s a u e, r.nd, r.dis, fun a z e => by
    cases q : H a with
    | none => exact r.zd a z q
    | some o => (rw [s a o q] at e; cases e), r.pn⟩
theorem Al.rep (x : Al G Z H o v H' F) (r : Rep θ G Z H ρ σ L) : Rep θ G Z H' ρ σ L := r.same x.same
theorem Al.disj (x : Al G Z H o v H' F) (r : Rep θ G Z H ρ σ L) : (F ++ L).Nodup ∧ ∀ a ∈ F, ¬ Z a :=
  ⟨List.nodup_append.mpr ⟨x.nd, r.nd, fun a ha b hb e => by subst e; exact mut_some (r.sl.mut a hb) (x.new a ha)⟩, fun a ha z => r.zd a z (x.new a ha)⟩
theorem Al.held (x : Al G Z H o v H' F) (r : Rep θ G Z H ρ σ L) : Held G Z H' σ L [.tmp o] [v] F := by
  obtain ⟨h1, h2⟩ := x.disj r
  have h3 : OpsOk G Z H' σ [.tmp o] [v] (F ++ []) := .tmp x.ro .nil
  rw [List.append_nil] at h3
  exact ⟨h3, h1, h2⟩
theorem Al.step (x : Al G Z H o v H' F) : Step Z L H Z (F ++ L) H' :=
  ⟨fun a u e _ => x.same a u e, fun _ z => z, fun _ z => .inl z, fun a ha => (List.mem_append.mp ha).elim (fun h => .inr (x.new a h)) .inl⟩
theorem Al.val {d : D} {v : V} (h : Dz Z G.K H d v) : Al G Z H (.val d) v H [] := ⟨fun _ _ e => e, .val h, List.nodup_nil, fun _ h => by cases h⟩
theorem same_new {p : Addr} {o : HO} (h : H p = none) : Same H (upd H p o) := fun b x e => by
  rw [upd_ne (ne_of_none e h)]
  exact e
theorem Al.lst {ds : List D} {xs : List V} {p : Addr} (h : DzA Z G.K H ds xs) (np : H p = none) : Al G Z H (.lst ds) (.ref p) (upd H p (.lst xs)) [p] :=
  ⟨same_new np, .lst upd_same (h.kp (same_kp (same_new np))), by simp, fun a ha => by
    rw [List.mem_singleton] at ha
    rw [ha]; exact np⟩
theorem Al.tup {ds : List D} {xs : List V} {p : Addr} (h : DzA Z G.K H ds xs) (np : H p = none) : Al G Z H (.val (.tuple ds)) (.ref p) (upd H p (.tup xs)) [] :=
  ⟨same_new np, .val (.tup (.inl (.inl upd_same)) (h.kp (same_kp (same_new np)))), List.nodup_nil, fun _ h => by cases h⟩
end

/-! ### the readings -/
section
variable (X : Cx) (ca : Nat → Addr) (W : WX)
abbrev gx : Gx := ⟨X.prog, X.w, X.K, ca⟩
/-- what is wanted behind an expression; behind a list of them -/
def PoE (θ : Nat → V) (Z : Zs) (L : List Addr) (H : Hp) (σ : L2.St) (Q : VK) : Out Opd → Prop
  | .ok p ρ' => ∀ Z' H' L' F v, Rep θ (gx X ca) Z' H' ρ' σ L' → Held (gx X ca) Z' H' σ L' [p] [v] F → Step Z L H Z' (F ++ L') H' → Q v H'
  | .exc c ρ' => ∀ Z' H' L', Rep θ (gx X ca) Z' H' ρ' σ L' → Step Z L H Z' L' H' → W (.ref (ca c)) none σ H'
  | .stuck => False
def PoA (θ : Nat → V) (Z : Zs) (L : List Addr) (H : Hp) (σ : L2.St) (Q : List V → Hp → Prop) : Out (List Opd) → Prop
  | .ok ps ρ' => ∀ Z' H' L' F vs, Rep θ (gx X ca) Z' H' ρ' σ L' → Held (gx X ca) Z' H' σ L' ps vs F → Step Z L H Z' (F ++ L') H' → Q vs H'
  | .exc c ρ' => ∀ Z' H' L', Rep θ (gx X ca) Z' H' ρ' σ L' → Step Z L H Z' L' H' → W (.ref (ca c)) none σ H'
  | .stuck => False
def PoT (θ : Nat → V) (Z : Zs) (L : List Addr) (H : Hp) (σ : L2.St) (Q : Bool → Hp → Prop) : Out Bool → Prop
  | .ok b ρ' => ∀ Z' H' L', Rep θ (gx X ca) Z' H' ρ' σ L' → Step Z L H Z' L' H' → Q b H'
  | .exc c ρ' => ∀ Z' H' L', Rep θ (gx X ca) Z' H' ρ' σ L' → Step Z L H Z' L' H' → W (.ref (ca c)) none σ H'
  | .stuck => False
def RdE (f : ES) : TE := fun σ H Q => ∃ θ Z ρ L, Rep θ (gx X ca) Z H ρ σ L ∧ PoE X ca W θ Z L H σ Q (f ρ)
def RdA (f : AS) : TA := fun σ H Q => ∃ θ Z ρ L, Rep θ (gx X ca) Z H ρ σ L ∧ PoA X ca W θ Z L H σ Q (f ρ)
def RdT (f : TS') : TT := fun σ H Q => ∃ θ Z ρ L, Rep θ (gx X ca) Z H ρ σ L ∧ PoT X ca W θ Z L H σ Q (f ρ)
end

theorem PE.imp {X : Cx} {e : Expr} {t t' : TE} (h : PE X e t) (i : ∀ σ H Q, t' σ H Q → t σ H Q) : PE X e t' := ⟨fun pins s σ H Q I q => h.run pins s σ H Q I (i σ H Q q)⟩
theorem PT.imp {X : Cx} {e : Expr} {t t' : TT} (h : PT X e t) (i : ∀ σ H Q, t' σ H Q → t σ H Q) : PT X e t' := ⟨fun pins s σ H Q I q => h.run pins s σ H Q I (i σ H Q q)⟩
theorem PW.imp {X : Cx} {e : Expr} {t t' : TT} (h : PW X e t) (i : ∀ σ H Q, t' σ H Q → t σ H Q) : PW X e t' := ⟨fun wh pins s σ H Q I q => h.run wh pins s σ H Q I (i σ H Q q)⟩
theorem PA.imp {X : Cx} {es : List Expr} {t t' : TA} (h : PA X es t) (i : ∀ σ H Q, t' σ H Q → t σ H Q) : PA X es t' := ⟨fun pos pins s σ H Q I q => h.run pos pins s σ H Q I (i σ H Q q)⟩

/-! ### the combinators of expressions -/
def oNm (i : Nat) : ES := fun ρ => match slotO ρ i with
  | some _ => .ok (.nm i) ρ
  | none => .stuck
def oC (d : D) : ES := fun ρ => .ok (.tmp (.val d)) ρ
def oAs : List ES → AS
  | [] => fun ρ => .ok [] ρ
  | f :: fs => fun ρ => (f ρ).bind fun p ρ1 => (oAs fs ρ1).bind fun ps ρ2 => .ok (p :: ps) ρ2
/-- an operation on operands that are read -/
def oF (sem : List O → Option O) (as : AS) : ES := fun ρ => (as ρ).bind fun ps ρ1 => match looks ρ1 ps with
  | some os => put ρ1 (sem os)
  | none => .stuck
def two (sem : O → O → Option O) : List O → Option O
  | [a, b] => sem a b
  | _ => none
def one (sem : O → Option O) : List O → Option O
  | [a] => sem a
  | _ => none
/-- two operands -/
def o2 (sem : O → O → Option O) (a b : ES) : ES := oF (two sem) (oAs [a, b])

section
variable {X : Cx} {ca : Nat → Addr} {W : WX} {a b e : Expr} {es : List Expr} {f g : ES} {fs : AS} {pos : Pos}
theorem se_name {i : Nat} {x : Str} (hN : X.N[i]? = some x) (hv : Vis X.env.scope x) (hd : (x == ("__debug__" : Str)) = false) (hcd : (x == ("__classdict__" : Str)) = false) : PE X (.Name x pos) (RdE X ca W (oNm i)) :=
  PE.imp (pe_var hN hv hd hcd) fun σ H Q ⟨θ, Z, ρ, L, r, q⟩ => by
    unfold oNm at q
    cases e : slotO ρ i with
    | none => rw [e] at q; exact q.elim
    | some o =>
      rw [e] at q
      obtain ⟨p, e'⟩ := slotO_some e
      obtain ⟨v, F, h1, h2, _⟩ := r.sl.get e'
      exact ⟨v, h1, q Z H L [] v r ⟨.nm h1 .nil, r.nd, fun _ h => by cases h⟩ Step.refl⟩
theorem rd_const {d : D} {v : V} (h : ∀ Z H, Dz Z X.K H d v) : ∀ σ H Q, RdE X ca W (oC d) σ H Q → tC v σ H Q := fun σ H Q ⟨θ, Z, ρ, L, r, q⟩ =>
  q Z H L [] v r ((Al.val (G := gx X ca) (h Z H)).held r) Step.refl
theorem se_int {i : Int} {j : Nat} : PE X (.Constant (.int i) j pos) (RdE X ca W (oC (.int i))) := PE.imp pe_int (rd_const fun _ _ => .int i)
theorem se_bl {i : Bool} {j : Nat} : PE X (.Constant (.bool i) j pos) (RdE X ca W (oC (.bool i))) := PE.imp pe_bl (rd_const fun _ _ => .bl i)
theorem se_str {x : Str} {j : Nat} : PE X (.Constant (.str x) j pos) (RdE X ca W (oC (.str x))) := PE.imp pe_str (rd_const fun _ _ => .str x)
theorem se_non {j : Nat} : PE X (.Constant .none j pos) (RdE X ca W (oC .none)) := PE.imp pe_non (rd_const fun _ _ => .non)
/-- one expression, then others -/
theorem seq2 {θ : Nat → V} {Z : Zs} {ρ : En} {L : List Addr} {σ : L2.St} {H : Hp} {Q : List V → Hp → Prop} {ta : TE} (r : Rep θ (gx X ca) Z H ρ σ L)
    (q : PoA X ca W θ Z L H σ Q ((f ρ).bind fun p ρ1 => (fs ρ1).bind fun ps ρ2 => .ok (p :: ps) ρ2)) (ha : ∀ Q', RdE X ca W f σ H Q' → ta σ H Q') : ta σ H fun x H1 => RdA X ca W fs σ H1 fun xs H2 => Q (x :: xs) H2 := by
  refine ha _ ⟨θ, Z, ρ, L, r, ?_⟩
  cases e : f ρ with
  | stuck => rw [e] at q; exact q
  | exc c ρ1 => rw [e] at q; exact q
  | ok p ρ1 =>
    rw [e] at q
    intro Z1 H1 L1 F1 v1 r1 h1 s1
    refine ⟨θ, Z1, ρ1, L1, r1, ?_⟩
    simp only [bind_ok] at q
    cases e2 : fs ρ1 with
    | stuck => rw [e2] at q; exact q
    | exc c ρ2 =>
      rw [e2] at q
      intro Z2 H2 L2 r2 s2
      exact q Z2 H2 L2 r2 ((s1.sub fun a h => List.mem_append_right _ h).trans s2)
    | ok ps ρ2 =>
      rw [e2] at q
      intro Z2 H2 L2 F2 vs r2 h2 s2
      have h3 := (h1.carry r1 s2 h2.nd).join h2
      exact q Z2 H2 L2 (F1 ++ F2) (v1 :: vs) r2 h3 (by rw [List.append_assoc]; exact s1.then s2)
theorem RdE.mono {σ : L2.St} {H : Hp} {Q Q' : VK} (h : RdE X ca W f σ H Q) (i : ∀ v H, Q v H → Q' v H) : RdE X ca W f σ H Q' := by
  obtain ⟨θ, Z, ρ, L, r, q⟩ := h
  refine ⟨θ, Z, ρ, L, r, ?_⟩
  cases e : f ρ with
  | stuck => rw [e] at q; exact q
  | exc c ρ1 => rw [e] at q; exact q
  | ok p ρ1 => rw [e] at q; exact fun Z1 H1 L1 F v r1 h1 s1 => i _ _ (q Z1 H1 L1 F v r1 h1 s1)
theorem rdA_one {σ : L2.St} {H : Hp} {Q : List V → Hp → Prop} (h : RdA X ca W (oAs [g]) σ H Q) : RdE X ca W g σ H fun y H1 => Q [y] H1 := by
  obtain ⟨θ, Z, ρ, L, r, q⟩ := h
  refine ⟨θ, Z, ρ, L, r, ?_⟩
  unfold oAs at q
  cases e : g ρ with
  | stuck => rw [e] at q; exact q
  | exc c ρ1 => rw [e] at q; exact q
  | ok p ρ1 => rw [e] at q; exact fun Z1 H1 L1 F v r1 h1 s1 => q Z1 H1 L1 F [v] r1 h1 s1
theorem sa_nil : PA X [] (RdA X ca W (oAs [])) := PA.imp pa_nil fun σ H Q ⟨θ, Z, ρ, L, r, q⟩ => q Z H L [] [] r (Held.none r) Step.refl
theorem sa_cons {fs : List ES} (ha : PE X e (RdE X ca W f)) (hr : PA X es (RdA X ca W (oAs fs))) (hs : starEach (e :: es) X.env = (false, eval e X.env) :: starEach es X.env) : PA X (e :: es) (RdA X ca W (oAs (f :: fs))) :=
  PA.imp (pa_cons ha hr hs) fun σ H Q ⟨θ, Z, ρ, L, r, q⟩ => seq2 (fs := oAs fs) r q fun _ h => h

/-- an operation's semantics on values -/
def RSem (sem : List O → Option O) : List V → Hp → VK → Prop := fun xs H Q =>
  ∃ Z os r, (∀ a, Z a → H a ≠ none) ∧ Paired (Rb (gx X ca) Z H) os xs ∧ sem os = some r ∧ ∀ v H' F, Al (gx X ca) Z H r v H' F → Q v H'
/-- what an operation's reading gives back to the whole -/
theorem fin_op {sem : List O → Option O} {θ : Nat → V} {Z : Zs} {L : List Addr} {H : Hp} {σ : L2.St} {Q : VK} {ps : List Opd} {ρ1 : En} {Z1 : Zs} {H1 : Hp} {L1 F : List Addr} {vs : List V}
    (q : PoE X ca W θ Z L H σ Q (match looks ρ1 ps with | some os => put ρ1 (sem os) | none => .stuck)) (r1 : Rep θ (gx X ca) Z1 H1 ρ1 σ L1) (h1 : Held (gx X ca) Z1 H1 σ L1 ps vs F) (s1 : Step Z L H Z1 (F ++ L1) H1) :
    RSem (X := X) (ca := ca) sem vs H1 Q := by
  cases e : looks ρ1 ps with
  | none => rw [e] at q; exact q.elim
  | some os =>
    rw [e] at q
    cases e2 : sem os with
    | none => simp only [e2, put] at q; exact q.elim
    | some o =>
      simp only [e2, put] at q
      refine ⟨Z1, os, o, r1.zd, h1.ok.looks r1 e, e2, fun v H' F' x => ?_⟩
      exact q Z1 H' L1 F' v (x.rep r1) (x.held r1) ((s1.sub fun a h => List.mem_append_right _ h).trans x.step)
theorem rd_oF {sem : List O → Option O} {σ : L2.St} {H : Hp} {Q : VK} (h : RdE X ca W (oF sem fs) σ H Q) : RdA X ca W fs σ H fun vs H1 => RSem (X := X) (ca := ca) sem vs H1 Q := by
  obtain ⟨θ, Z, ρ, L, r, q⟩ := h
  refine ⟨θ, Z, ρ, L, r, ?_⟩
  unfold oF at q
  cases e : fs ρ with
  | stuck => rw [e] at q; exact q
  | exc c ρ1 => rw [e] at q; exact q
  | ok ps ρ1 =>
    rw [e] at q
    intro Z1 H1 L1 F vs r1 h1 s1
    exact fin_op q r1 h1 s1
/-- binary operators -/
def BinS (X : Cx) (ca : Nat → Addr) (op : Value → Value → Sem Value) (sem : O → O → Option O) : Prop := OpR X op (fun x y H Q => RSem (X := X) (ca := ca) (two sem) [x, y] H Q)
theorem rd_o2 {sem : O → O → Option O} {σ : L2.St} {H : Hp} {Q : VK} (h : RdE X ca W (o2 sem f g) σ H Q) : tOp (fun x y H Q => RSem (X := X) (ca := ca) (two sem) [x, y] H Q) (RdE X ca W f) (RdE X ca W g) σ H Q := by
  obtain ⟨θ, Z, ρ, L, r, q⟩ := rd_oF h
  have h1 := seq2 (fs := oAs [g]) (ta := RdE X ca W f) (Q := fun vs H1 => RSem (X := X) (ca := ca) (two sem) vs H1 Q) r q (fun _ h => h)
  exact h1.mono fun v H1 h2 => rdA_one h2
theorem se_bin {sem : O → O → Option O} {op : Operator} (ho : BinS X ca (binaryOp op) sem) (ha : PE X a (RdE X ca W f)) (hb : PE X b (RdE X ca W g)) : PE X (.BinOp a op b pos) (RdE X ca W (o2 sem f g)) :=
  PE.imp (pe_op ho ha hb) fun _ _ _ h => rd_o2 h
theorem se_cmp {sem : O → O → Option O} {op : CmpOp} (ho : BinS X ca (compareOp op) sem) (ha : PE X a (RdE X ca W f)) (hb : PE X b (RdE X ca W g)) (hm : behindInMarks op b = false) : PE X (.Compare a [op] [b] pos) (RdE X ca W (o2 sem f g)) :=
  PE.imp (pe_cmpR ho ha hb hm) fun _ _ _ h => rd_o2 h
end
end Eng
set_option maxHeartbeats 1000000
/-! The engine, part 3: operators. -/
namespace Eng
open PySem PySem.Spec L2
open PyProof.Rows hiding St

/-! ### views -/
def O.list? : O → Option (List D)
  | .lst ds => some ds
  | .val (.list ds) => some ds
  | _ => none
def O.tup? : O → Option (List D)
  | .val (.tuple ds) => some ds
  | _ => none
def O.seq? : O → Option (List D)
  | .lst ds => some ds
  | .val (.list ds) => some ds
  | .val (.tuple ds) => some ds
  | _ => none
def O.view? : O → Option D
  | .lst ds => some (.list ds)
  | .val d => some d
  | _ => none
section
variable {G : Gx} {Z : Zs} {H : Hp} {o : O} {v : V} {ds : List D} {d : D}
theorem rb_list (h : Rb G Z H o v) (e : o.list? = some ds) : ∃ a xs, v = .ref a ∧ H a = some (.lst xs) ∧ DzA Z G.K H ds xs := by
  obtain ⟨F, h⟩ := h
  cases h with
  | lst e1 h1 => cases e; exact ⟨_, _, rfl, e1, h1⟩
  | val h1 =>
    cases h1 with
    | lst z r h => cases e; exact ⟨_, _, rfl, r, h⟩
    | _ => cases e
  | _ => cases e
theorem rb_tup (h : Rb G Z H o v) (e : o.tup? = some ds) : ∃ a xs, v = .ref a ∧ SqT G.K H a xs ∧ DzA Z G.K H ds xs := by
  obtain ⟨F, h⟩ := h
  cases h with
  | val h1 =>
    cases h1 with
    | tup r h => cases e; exact ⟨_, _, rfl, r, h⟩
    | _ => cases e
  | _ => cases e
theorem rb_seq (h : Rb G Z H o v) (e : o.seq? = some ds) : ∃ a xs, v = .ref a ∧ (SqL G.K H a xs ∨ SqT G.K H a xs) ∧ DzA Z G.K H ds xs := by
  obtain ⟨F, h⟩ := h
  cases h with
  | lst e1 h1 => cases e; exact ⟨_, _, rfl, .inl (.inl (.inl e1)), h1⟩
  | val h1 =>
    cases h1 with
    | lst z r h => cases e; exact ⟨_, _, rfl, .inl (.inl (.inl r)), h⟩
    | tup r h => cases e; exact ⟨_, _, rfl, .inr r, h⟩
    | _ => cases e
  | _ => cases e
theorem layS_shaped {d : D} (h : SeqAt.shaped d = true) : d.hasDict = false := PyData.hasDict_of_canLay _ (SeqAt.canLay_of_shaped h)
theorem rb_view (h : Rb G Z H o v) (e : o.view? = some d) (c : d.hasDict = false) : Dp G.K H v d := by
  obtain ⟨F, h⟩ := h
  cases h with
  | lst e1 h1 =>
    cases e
    exact .lst (.inl (.inl e1)) (h1.dp (by simpa [PyData.hasDict] using c))
  | val h1 => cases e; exact h1.dp c
  | _ => cases e
theorem rb_val (h : Rb G Z H (.val d) v) : Dz Z G.K H d v := by
  obtain ⟨F, h⟩ := h
  cases h with
  | val h1 => exact h1
theorem rb_int {i : Int} (h : Rb G Z H (.val (.int i)) v) : v = .int i := by cases rb_val h; rfl
theorem rb_str {i : Str} (h : Rb G Z H (.val (.str i)) v) : v = .str i := by cases rb_val h; rfl
theorem rb_bl {i : Bool} (h : Rb G Z H (.val (.bool i)) v) : v = .bl i := by cases rb_val h; rfl
theorem rb_non (h : Rb G Z H (.val .none) v) : v = .non := by cases rb_val h; rfl
end
theorem pair2 {α β : Type} {R : α → β → Prop} {a b : α} {x y : β} (h : Paired R [a, b] [x, y]) : R a x ∧ R b y := by
  cases h with
  | cons h1 t =>
    cases t with
    | cons h2 t => exact ⟨h1, h2⟩
theorem pair1 {α β : Type} {R : α → β → Prop} {a : α} {x : β} (h : Paired R [a] [x]) : R a x := by
  cases h with
  | cons h1 t => exact h1
theorem two_some {sem : O → O → Option O} {os : List O} {r : O} (e : two sem os = some r) : ∃ a b, os = [a, b] ∧ sem a b = some r := by
  unfold two at e
  split at e
  · exact ⟨_, _, rfl, e⟩
  · cases e
theorem one_some {sem : O → Option O} {os : List O} {r : O} (e : one sem os = some r) : ∃ a, os = [a] ∧ sem a = some r := by
  unfold one at e
  split at e
  · exact ⟨_, rfl, e⟩
  · cases e
section
variable {X : Cx} {ca : Nat → Addr}
/-- the frame of a binary operator's proof -/
theorem binS_of {f : Value → Value → Sem Value} {sem : O → O → Option O}
    (h : ∀ (pins : List (Addr × Obj)) (s : Shared) (σ : L2.St) (H : Hp) (x y : V) (v u : Value) (Q : VK) (Z : Zs) (a b r : O), Inv X pins σ H s → RelV x v → RelV y u → Rb (gx X ca) Z H a x → Rb (gx X ca) Z H b y → sem a b = some r →
      (∀ v H' F, Al (gx X ca) Z H r v H' F → Q v H') → wpAny (model X.prog X.w) X.A (f v u) (EP X pins σ Q) X.xe s) : BinS X ca f sem := by
  intro pins s σ H x y v u Q I rx ry ⟨Z, os, r, zd, hp, e, q⟩
  obtain ⟨a, b, rfl, e⟩ := two_some e
  obtain ⟨h1, h2⟩ := pair2 hp
  exact h pins s σ H x y v u Q Z a b r I rx ry h1 h2 e q
end

/-! ### arithmetic -/
def addS : O → O → Option O
  | .val (.int i), .val (.int j) => some (.val (.int (i + j)))
  | .val (.str x), .val (.str y) => if x.length + y.length ≤ sizeLine then some (.val (.str (x ++ y))) else none
  | .val (.tuple xs), .val (.tuple ys) => if xs.length + ys.length ≤ sizeLine then some (.val (.tuple (xs ++ ys))) else none
  | .lst xs, .lst ys => if xs.length + ys.length ≤ sizeLine then some (.lst (xs ++ ys)) else none
  | .lst xs, .val (.list ys) => if xs.length + ys.length ≤ sizeLine then some (.lst (xs ++ ys)) else none
  | .val (.list xs), .lst ys => if xs.length + ys.length ≤ sizeLine then some (.lst (xs ++ ys)) else none
  | .val (.list xs), .val (.list ys) => if xs.length + ys.length ≤ sizeLine then some (.lst (xs ++ ys)) else none
  | _, _ => none
def intS (C : Int → Int → Prop) [∀ i j, Decidable (C i j)] (g : Int → Int → Int) : O → O → Option O
  | .val (.int i), .val (.int j) => if C i j then some (.val (.int (g i j))) else none
  | _, _ => none
def subS := intS (fun _ _ => True) fun i j => i - j
def mulS := intS (fun i j => (-(2 ^ 64) < i ∧ i < 2 ^ 64) ∨ (-(2 ^ 64) < j ∧ j < 2 ^ 64)) fun i j => i * j
def fdivS := intS (fun _ j => 0 < j ∧ j < 1073741824) fun i j => i / j
def modS := intS (fun _ j => 0 < j) fun i j => i % j
def powS := intS (fun i j => 0 ≤ j ∧ j ≤ 1000000 ∧ i.natAbs < 2 ^ 64) fun i j => i ^ j.toNat

section
variable {X : Cx} {ca : Nat → Addr}
theorem intS_ok {C : Int → Int → Prop} [∀ i j, Decidable (C i j)] {g : Int → Int → Int} {f : Value → Value → Sem Value} {C' : Int → Int → Prop} (h : OpR X f (rI C' fun i j => .int (g i j))) (hC : ∀ i j, C i j → C' i j) : BinS X ca f (intS C g) := binS_of fun pins s σ H x y v u Q Z a b r I rx ry ha hb e q => by
  unfold intS at e
  split at e
  · rename_i i j
    split at e
    · rename_i hc
      cases e
      cases rb_int ha
      cases rb_int hb
      exact h pins s σ H _ _ v u Q I rx ry ⟨i, j, rfl, rfl, hC i j hc, q _ _ [] (Al.val (.int _))⟩
    · cases e
  · cases e
theorem bin_mul : BinS X ca (binaryOp .Mult) mulS := intS_ok op_mul fun _ _ h => h
theorem bin_fdiv : BinS X ca (binaryOp .FloorDiv) fdivS := intS_ok op_fdiv fun _ _ h => h
theorem bin_mod : BinS X ca (binaryOp .Mod) modS := intS_ok op_mod fun _ _ h => h
theorem bin_pow : BinS X ca (binaryOp .Pow) powS := intS_ok op_pow fun _ _ h => h
theorem DzA.nil_iff {Z : Zs} {K : PySem.W.Frag} {H : Hp} {ds : List D} {xs : List V} (h : DzA Z K H ds xs) (e : xs = []) : ds = [] := by
  subst e
  cases h
  rfl
theorem bin_add : BinS X ca (binaryOp .Add) addS := binS_of fun pins s σ H x y v u Q Z a b r I rx ry ha hb e q => by
  have lists : ∀ xs ys, a.list? = some xs → b.list? = some ys → (if xs.length + ys.length ≤ sizeLine then some (O.lst (xs ++ ys)) else none) = some r → wpAny (model X.prog X.w) X.A (binaryOp .Add v u) (EP X pins σ Q) X.xe s := fun xs ys e1 e2 e => by
    split at e
    · rename_i hc
      cases e
      obtain ⟨p, us, rfl, hp, dp⟩ := rb_list ha e1
      obtain ⟨p', ws, rfl, hp', dp'⟩ := rb_list hb e2
      exact op_cat pins s σ H _ _ v u Q I rx ry ⟨p, p', us, ws, rfl, rfl, hp, hp', by rw [dp.length, dp'.length]; exact hc, fun l nl => q _ _ _ (Al.lst (dp.append dp') nl)⟩
    · cases e
  unfold addS at e
  split at e
  · cases e
    cases rb_int ha
    cases rb_int hb
    exact op_add pins s σ H _ _ v u Q I rx ry ⟨_, _, rfl, rfl, q _ _ [] (Al.val (.int _))⟩
  · split at e
    · rename_i hc
      cases e
      cases rb_str ha
      cases rb_str hb
      exact op_add_str pins s σ H _ _ v u Q I rx ry ⟨_, _, rfl, rfl, hc, q _ _ [] (Al.val (.str _))⟩
    · cases e
  · split at e
    · rename_i xs ys hc
      cases e
      obtain ⟨p, us, rfl, hp, dp⟩ := rb_tup ha rfl
      obtain ⟨p', ws, rfl, hp', dp'⟩ := rb_tup hb rfl
      refine op_catA pins s σ H _ _ v u Q I rx ry ⟨p, p', us, ws, rfl, rfl, hp, hp', by rw [dp.length, dp'.length]; exact hc, fun e => ?_, fun _ e => ?_, fun _ _ l nl => q _ _ _ (Al.tup (dp.append dp') nl)⟩
      · cases dp.nil_iff e
        exact q _ _ [] (Al.val (.tup hp' dp'))
      · cases dp'.nil_iff e
        rw [List.append_nil] at q
        exact q _ _ [] (Al.val (.tup hp dp))
    · cases e
  · exact lists _ _ rfl rfl e
  · exact lists _ _ rfl rfl e
  · exact lists _ _ rfl rfl e
  · exact lists _ _ rfl rfl e
  · cases e
end

/-! ### comparisons -/
def isStrD : D → Bool
  | .str _ => true
  | _ => false
/-- == of data: two texts, or data that lies within the model's line -/
def eqD? (d e : D) : Option Bool := if (isStrD d && isStrD e || SeqAt.shaped d && SeqAt.shaped e) = true then some (PyData.eqv d e) else none
def eqS (a b : O) : Option O := match a.view?, b.view? with
  | some d, some e => (eqD? d e).map fun k => .val (.bool k)
  | _, _ => none
def neS (a b : O) : Option O := match a.view?, b.view? with
  | some d, some e => (eqD? d e).map fun k => .val (.bool (!k))
  | _, _ => none
def cmpS (p : Int → Int → Bool) (ps : List Nat → List Nat → Bool) : O → O → Option O
  | .val (.int i), .val (.int j) => some (.val (.bool (p i j)))
  | .val (.str i), .val (.str j) => some (.val (.bool (ps i.cps.toList j.cps.toList)))
  | _, _ => none
def ltS := cmpS (fun i j => decide (i < j)) fun i j => decide (i < j)
def leS := cmpS (fun i j => decide (i ≤ j)) fun i j => !decide (j < i)
def gtS := cmpS (fun i j => decide (j < i)) fun i j => decide (j < i)
def geS := cmpS (fun i j => decide (j ≤ i)) fun i j => !decide (i < j)
def isNoneO : O → Bool
  | .val .none => true
  | _ => false
def isS (a b : O) : Option O := if isNoneO b = true then some (.val (.bool (isNoneO a))) else none
section
variable {X : Cx} {ca : Nat → Addr}
theorem eqv_str (x y : Str) : PyData.eqv (.str x) (.str y) = (x == y) := by simp [PyData.eqv]
theorem eqD_ok {d e : D} {k : Bool} (h : eqD? d e = some k) : (∃ x y, d = .str x ∧ e = .str y ∧ k = decide (x = y)) ∨ (SeqAt.shaped d = true ∧ SeqAt.shaped e = true ∧ k = PyData.eqv d e) := by
  unfold eqD? at h
  split at h
  · rename_i hc
    cases h
    rcases Bool.or_eq_true_iff.mp hc with hc | hc
    · left
      rw [Bool.and_eq_true] at hc
      cases d <;> cases e <;> simp [isStrD] at hc
      refine ⟨_, _, rfl, rfl, ?_⟩
      rw [eqv_str]
      exact Bool.beq_eq_decide_eq _ _
    · rw [Bool.and_eq_true] at hc
      exact .inr ⟨hc.1, hc.2, rfl⟩
  · cases h
theorem bin_eq (hu : X.A.units + 64 < cLine) : BinS X ca (compareOp .Eq) eqS := binS_of fun pins s σ H x y v u Q Z a b r I rx ry ha hb e q => by
  unfold eqS at e
  split at e
  · rename_i d d' e1 e2
    cases e3 : eqD? d d' with
    | none => rw [e3] at e; cases e
    | some k =>
      rw [e3] at e
      cases e
      rcases eqD_ok e3 with ⟨x', y', rfl, rfl, rfl⟩ | ⟨s1, s2, rfl⟩
      · have h1 := rb_view ha e1 (by simp [PyData.hasDict])
        have h2 := rb_view hb e2 (by simp [PyData.hasDict])
        cases h1
        cases h2
        refine op_eq pins s σ H _ _ v u Q I rx ry ⟨rfl, ?_⟩
        have hd : decide (V.str x' = V.str y') = decide (x' = y') := by
          by_cases h : x' = y'
          · subst h; simp
          · rw [decide_eq_false h, decide_eq_false fun e => h (V.str.inj e)]
        rw [hd]
        exact q _ _ [] (Al.val (.bl _))
      · have h1 := rb_view ha e1 (layS_shaped s1)
        have h2 := rb_view hb e2 (layS_shaped s2)
        exact op_eqD hu pins s σ H _ _ v u Q I rx ry ⟨_, _, h1, h2, s1, s2, q _ _ [] (Al.val (.bl _))⟩
  · cases e
theorem bin_ne (hu : X.A.units + 64 < cLine) : BinS X ca (compareOp .NotEq) neS := binS_of fun pins s σ H x y v u Q Z a b r I rx ry ha hb e q => by
  unfold neS at e
  split at e
  · rename_i d d' e1 e2
    cases e3 : eqD? d d' with
    | none => rw [e3] at e; cases e
    | some k =>
      rw [e3] at e
      cases e
      rcases eqD_ok e3 with ⟨x', y', rfl, rfl, rfl⟩ | ⟨s1, s2, rfl⟩
      · have h1 := rb_view ha e1 (by simp [PyData.hasDict])
        have h2 := rb_view hb e2 (by simp [PyData.hasDict])
        cases h1
        cases h2
        refine op_ne pins s σ H _ _ v u Q I rx ry ⟨rfl, ?_⟩
        have hd : decide (V.str x' = V.str y') = decide (x' = y') := by
          by_cases h : x' = y'
          · subst h; simp
          · rw [decide_eq_false h, decide_eq_false fun e => h (V.str.inj e)]
        rw [hd]
        exact q _ _ [] (Al.val (.bl _))
      · have h1 := rb_view ha e1 (layS_shaped s1)
        have h2 := rb_view hb e2 (layS_shaped s2)
        exact op_neD hu pins s σ H _ _ v u Q I rx ry ⟨_, _, h1, h2, s1, s2, q _ _ [] (Al.val (.bl _))⟩
  · cases e
theorem cmp_ok {p : Int → Int → Bool} {ps : List Nat → List Nat → Bool} {f : Value → Value → Sem Value} (h : OpR X f (rI0 fun i j => .bl (p i j)))
    (h' : OpR X f (fun x y H Q => ∃ i j, x = .str i ∧ y = .str j ∧ Q (.bl (ps i.cps.toList j.cps.toList)) H)) : BinS X ca f (cmpS p ps) := binS_of fun pins s σ H x y v u Q Z a b r I rx ry ha hb e q => by
  unfold cmpS at e
  split at e
  · cases e
    cases rb_int ha
    cases rb_int hb
    exact h pins s σ H _ _ v u Q I rx ry ⟨_, _, rfl, rfl, q _ _ [] (Al.val (.bl _))⟩
  · cases e
    cases rb_str ha
    cases rb_str hb
    exact h' pins s σ H _ _ v u Q I rx ry ⟨_, _, rfl, rfl, q _ _ [] (Al.val (.bl _))⟩
  · cases e
theorem bin_lt : BinS X ca (compareOp .Lt) ltS := cmp_ok op_lt op_lt_str
theorem bin_gt : BinS X ca (compareOp .Gt) gtS := cmp_ok op_gt op_gt_str
theorem isNone_rb {Z : Zs} {H : Hp} {o : O} {x : V} (h : Rb (gx X ca) Z H o x) : decide (x = .non) = isNoneO o := by
  obtain ⟨F, h⟩ := h
  cases h with
  | val h => cases h <;> simp [isNoneO]
  | _ => simp [isNoneO]
theorem isNone_val {o : O} (h : isNoneO o = true) : o = .val .none := by
  unfold isNoneO at h
  split at h
  · rfl
  · cases h
theorem bin_is : BinS X ca (compareOp .Is) isS := binS_of fun pins s σ H x y v u Q Z a b r I rx ry ha hb e q => by
  unfold isS at e
  split at e
  · rename_i hc
    cases e
    cases isNone_val hc
    cases rb_non hb
    refine op_isN pins s σ H _ _ v u Q I rx ry ⟨rfl, ?_⟩
    rw [isNone_rb ha]
    exact q _ _ [] (Al.val (.bl _))
  · cases e
end
end Eng
set_option maxHeartbeats 1000000
/-! The engine, part 4: dicts, in, items, slices. -/
namespace Eng
open PySem PySem.Spec L2
open PyProof.Rows hiding St

/-! ### dicts as lists of pairs -/
def keyOf : D → Option Key
  | .str x => some (.inr x)
  | .int i => some (.inl i)
  | _ => none
def nkOf (d : D) : Option NestedKey := match nkey d with
  | some (.tup ks) => if (NestedKey.tup ks).depth ≤ 8 then some (.tup ks) else none
  | _ => none
def dget (es : List (D × D)) (k : D) : Option D := (es.find? fun e => PyData.eqv e.1 k).map (·.2)
def dhas (es : List (D × D)) (k : D) : Bool := es.any fun e => PyData.eqv e.1 k
def dput (es : List (D × D)) (k v : D) : List (D × D) := if dhas es k = true then es.map (fun e => if PyData.eqv e.1 k = true then (e.1, v) else e) else es ++ [(k, v)]
/-- the key is of the dict's kind -/
def dOk (es : List (D × D)) (k : D) : Bool := ((keyOf k).isSome && es.all fun e => (keyOf e.1).isSome) || ((nkOf k).isSome && es.all fun e => (nkOf e.1).isSome)

section
variable {Z : Zs} {K : PySem.W.Frag} {H : Hp}
theorem key_dz {d : D} {κ : Key} (h : Dz Z K H d (kV κ)) : keyOf d = some κ := by
  cases κ with
  | inl i => cases h; rfl
  | inr x => cases h; rfl
theorem key_v {d : D} {v : V} {κ : Key} (h : Dz Z K H d v) (e : keyOf d = some κ) : v = kV κ := by
  cases h <;> simp [keyOf] at e
  · subst e; rfl
  · subst e; rfl
theorem eqv_key {a b : D} {κ κ' : Key} (h : keyOf a = some κ) (h' : keyOf b = some κ') : PyData.eqv a b = decide (κ = κ') := by
  cases a <;> simp [keyOf] at h <;> subst h <;> cases b <;> simp [keyOf] at h' <;> subst h' <;> simp [PyData.eqv] <;> exact Bool.beq_eq_decide_eq _ _
theorem nkey_ref {d : D} {κ : NestedKey} (e : nkOf d = some κ) : ∃ ds, d = .tuple ds := by
  unfold nkOf at e
  cases d with
  | tuple ds => exact ⟨ds, rfl⟩
  | _ => simp [nkey] at e
theorem keyOf_tup {d : D} {κ : NestedKey} (e : nkOf d = some κ) : keyOf d = none := by
  obtain ⟨ds, rfl⟩ := nkey_ref e
  rfl
theorem nkOf_some {d : D} {κ : NestedKey} (e : nkOf d = some κ) : nkey d = some κ ∧ κ.depth ≤ 8 := by
  unfold nkOf at e
  split at e
  · rename_i ks h
    split at e
    · rename_i hd
      cases e
      exact ⟨h, hd⟩
    · cases e
  · cases e
mutual
theorem nkey_eqv : ∀ {a b : D} {x y : NestedKey}, nkey a = some x → nkey b = some y → PyData.eqv a b = decide (x = y)
  | .none, b, x, y, h, h' => by
    simp [nkey] at h; subst h
    cases b <;> simp [nkey] at h'
    · subst h'; simp [PyData.eqv]
    · subst h'; simp [PyData.eqv]
    · subst h'; simp [PyData.eqv]
    · obtain ⟨ks, _, rfl⟩ := h'; simp [PyData.eqv]
  | .int i, b, x, y, h, h' => by
    simp [nkey] at h; subst h
    cases b <;> simp [nkey] at h'
    · subst h'; first | (simp [PyData.eqv]; done) | (simp [PyData.eqv]; exact Bool.beq_eq_decide_eq _ _)
    · subst h'; first | (simp [PyData.eqv]; done) | (simp [PyData.eqv]; exact Bool.beq_eq_decide_eq _ _)
    · subst h'; first | (simp [PyData.eqv]; done) | (simp [PyData.eqv]; exact Bool.beq_eq_decide_eq _ _)
    · obtain ⟨ks, _, rfl⟩ := h'; simp [PyData.eqv]
  | .str i, b, x, y, h, h' => by
    simp [nkey] at h; subst h
    cases b <;> simp [nkey] at h'
    · subst h'; first | (simp [PyData.eqv]; done) | (simp [PyData.eqv]; exact Bool.beq_eq_decide_eq _ _)
    · subst h'; first | (simp [PyData.eqv]; done) | (simp [PyData.eqv]; exact Bool.beq_eq_decide_eq _ _)
    · subst h'; first | (simp [PyData.eqv]; done) | (simp [PyData.eqv]; exact Bool.beq_eq_decide_eq _ _)
    · obtain ⟨ks, _, rfl⟩ := h'; simp [PyData.eqv]
  | .tuple ds, b, x, y, h, h' => by
    simp [nkey] at h
    obtain ⟨ks, hk, rfl⟩ := h
    cases b <;> simp [nkey] at h'
    · subst h'; simp [PyData.eqv]
    · subst h'; simp [PyData.eqv]
    · subst h'; simp [PyData.eqv]
    · obtain ⟨ks', hk', rfl⟩ := h'
      simp only [PyData.eqv, NestedKey.tup.injEq]
      exact nkeys_eqv hk hk'
  | .bool _, _, _, _, h, _ => by simp [nkey] at h
  | .list _, _, _, _, h, _ => by simp [nkey] at h
  | .dict _, _, _, _, h, _ => by simp [nkey] at h
theorem nkeys_eqv : ∀ {a b : List D} {x y : List NestedKey}, nkey.nkeys a = some x → nkey.nkeys b = some y → PyData.eqvAll a b = decide (x = y)
  | [], b, x, y, h, h' => by
    simp [nkey.nkeys] at h; subst h
    cases b with
    | nil => simp [nkey.nkeys] at h'; subst h'; simp [PyData.eqvAll]
    | cons d ds =>
      unfold nkey.nkeys at h'
      split at h'
      · cases h'; simp [PyData.eqvAll]
      · cases h'
  | c :: cs, b, x, y, h, h' => by
    unfold nkey.nkeys at h
    split at h
    · rename_i k ks h1 h2
      cases h
      cases b with
      | nil => simp [nkey.nkeys] at h'; subst h'; simp [PyData.eqvAll]
      | cons d ds =>
        unfold nkey.nkeys at h'
        split at h'
        · rename_i k' ks' h1' h2'
          cases h'
          simp only [PyData.eqvAll, nkey_eqv h1 h1', nkeys_eqv h2 h2', List.cons.injEq]
          by_cases e1 : k = k' <;> by_cases e2 : ks = ks' <;> simp [e1, e2]
        · cases h'
    · cases h
end
/-- a dict with plain keys, asked -/
theorem dget_val : ∀ {es : List (D × D)} {kvs : List (Key × V)} {k : D} {κ : Key}, DzA Z K H (es.map (·.1)) (kvs.map fun p => kV p.1) → DzA Z K H (es.map (·.2)) (kvs.map (·.2)) → keyOf k = some κ →
    (valV kvs κ).isSome = dhas es k ∧ ∀ d, dget es k = some d → ∃ v, valV kvs κ = some v ∧ Dz Z K H d v
  | [], [], _, _, _, _, _ => ⟨rfl, fun d e => by simp [dget] at e⟩
  | [], _ :: _, _, _, h, _, _ => by cases h
  | _ :: _, [], _, _, h, _, _ => by cases h
  | (a, b) :: es, (c, v) :: kvs, k, κ, h1, h2, hk => by
    cases h1 with
    | cons h1 t1 =>
      cases h2 with
      | cons h2 t2 =>
        have e1 : PyData.eqv a k = decide (c = κ) := eqv_key (key_dz h1) hk
        obtain ⟨i1, i2⟩ := dget_val t1 t2 hk
        by_cases e : c = κ
        · rw [valV_pos (p := (c, v)) e]
          refine ⟨by simp [dhas, e1, e], fun d q => ?_⟩
          simp [dget, e1, e] at q
          subst q
          exact ⟨v, rfl, h2⟩
        · rw [valV_neg (p := (c, v)) e]
          refine ⟨by rw [i1]; simp [dhas, e1, e], fun d q => ?_⟩
          refine i2 d ?_
          simpa [dget, e1, e] using q
theorem map_dput : ∀ {es : List (D × D)} {kvs : List (Key × V)} {k d : D} {κ : Key} {v : V}, DzA Z K H (es.map (·.1)) (kvs.map fun p => kV p.1) → DzA Z K H (es.map (·.2)) (kvs.map (·.2)) → keyOf k = some κ → Dz Z K H d v →
    DzA Z K H ((es.map fun e => if PyData.eqv e.1 k = true then (e.1, d) else e).map (·.1)) ((kvs.map fun kv => if kv.1 = κ then (kv.1, v) else kv).map fun p => kV p.1) ∧
    DzA Z K H ((es.map fun e => if PyData.eqv e.1 k = true then (e.1, d) else e).map (·.2)) ((kvs.map fun kv => if kv.1 = κ then (kv.1, v) else kv).map (·.2))
  | [], [], _, _, _, _, _, _, _, _ => ⟨.nil, .nil⟩
  | [], _ :: _, _, _, _, _, h, _, _, _ => by cases h
  | _ :: _, [], _, _, _, _, h, _, _, _ => by cases h
  | (a, b) :: es, (c, w) :: kvs, k, d, κ, v, h1, h2, hk, hd => by
    cases h1 with
    | cons h1 t1 =>
      cases h2 with
      | cons h2 t2 =>
        have e1 : PyData.eqv a k = decide (c = κ) := eqv_key (key_dz h1) hk
        obtain ⟨i1, i2⟩ := map_dput t1 t2 hk hd
        by_cases e : c = κ
        · simp only [List.map_cons, e1, e, decide_true, if_true]
          exact ⟨.cons (by rw [← e]; exact h1) i1, .cons hd i2⟩
        · simp only [List.map_cons, e1, e, decide_false, if_false, Bool.false_eq_true]
          exact ⟨.cons h1 i1, .cons h2 i2⟩
theorem dput_ok {es : List (D × D)} {kvs : List (Key × V)} {k d : D} {κ : Key} {v : V} (h1 : DzA Z K H (es.map (·.1)) (kvs.map fun p => kV p.1)) (h2 : DzA Z K H (es.map (·.2)) (kvs.map (·.2))) (hk : keyOf k = some κ) (hkv : Dz Z K H k (kV κ)) (hd : Dz Z K H d v) :
    DzA Z K H ((dput es k d).map (·.1)) ((putK kvs κ v).map fun p => kV p.1) ∧ DzA Z K H ((dput es k d).map (·.2)) ((putK kvs κ v).map (·.2)) := by
  have e := (dget_val h1 h2 hk).1
  unfold dput putK
  rw [valV_any, e]
  split
  · exact map_dput h1 h2 hk hd
  · rw [List.map_append, List.map_append, List.map_append, List.map_append]
    exact ⟨h1.append (.cons hkv .nil), h2.append (.cons hd .nil)⟩
/-- all keys plain, or none there -/
theorem all_key : ∀ {es : List (D × D)} {kvs : List (Key × V)}, DzA Z K H (es.map (·.1)) (kvs.map fun p => kV p.1) → (es.all fun e => (nkOf e.1).isSome) = true → es = [] ∧ kvs = []
  | [], [], _, _ => ⟨rfl, rfl⟩
  | [], _ :: _, h, _ => by cases h
  | (a, b) :: es, [], h, _ => by cases h
  | (a, b) :: es, (c, v) :: kvs, h, q => by
    cases h with
    | cons h t =>
      rw [List.all_cons, Bool.and_eq_true] at q
      obtain ⟨κ, e⟩ := Option.isSome_iff_exists.mp q.1
      have := keyOf_tup e
      rw [key_dz h] at this
      cases this
theorem all_nkey : ∀ {xs : List (NestedKey × Addr × Value)} {es : List (D × D)}, Paired (NEnt Z K H) xs es → (es.all fun e => (keyOf e.1).isSome) = true → xs = []
  | _, _, .nil, _ => rfl
  | _, (ek, ev) :: _, .cons h t, q => by
    rw [List.all_cons, Bool.and_eq_true] at q
    obtain ⟨h1, h2, h3, _⟩ := h
    replace h3 : Dz Z K H ek _ := h3
    replace q : (keyOf ek).isSome = true ∧ _ := q
    cases h3 with
    | lst => simp [keyOf] at q
    | tup => simp [keyOf] at q
    | dic => simp [keyOf] at q
/-- nested keys, asked -/
theorem dget_nk : ∀ {xs : List (NestedKey × Addr × Value)} {es : List (D × D)} {k : D} {κ : NestedKey}, Paired (NEnt Z K H) xs es → nkey k = some κ →
    (atKey xs κ).isSome = dhas es k ∧ ∀ d, dget es k = some d → ∃ p v, atKey xs κ = some p ∧ RelV v p.2 ∧ Dz Z K H d v
  | _, _, _, _, .nil, _ => ⟨rfl, fun d e => by simp [dget] at e⟩
  | x :: xs, e :: es, k, κ, .cons h t, hk => by
    obtain ⟨h1, h2, h3, v, h4, h5⟩ := h
    have e1 : PyData.eqv e.1 k = decide (x.1 = κ) := nkey_eqv h1 hk
    obtain ⟨i1, i2⟩ := dget_nk t hk
    by_cases q : x.1 = κ
    · refine ⟨by simp [atKey, dhas, e1, q], fun d q2 => ?_⟩
      simp [dget, e1, q] at q2
      subst q2
      exact ⟨x.2, v, by simp [atKey, q], h4, h5⟩
    · have ea : atKey (x :: xs) κ = atKey xs κ := by simp [atKey, q]
      rw [ea]
      refine ⟨by rw [i1]; simp [dhas, e1, q], fun d q2 => i2 d ?_⟩
      simpa [dget, e1, q] using q2
end

/-! ### from the abstract heap to the keys of the model -/
section
variable {X : Cx} {pins : List (Addr × Obj)} {σ : L2.St} {H : Hp} {s : Shared} {Z : Zs}
mutual
theorem nested_is (I : Inv X pins σ H s) : ∀ {d : D} {v : V} {u : Value} {κ : NestedKey}, Dz Z X.K H d v → RelV v u → nkey d = some κ → NestedIs s.heap κ u
  | .none, _, _, _, h, r, e => by
    simp [nkey] at e; subst e
    cases h; cases r
    exact .none
  | .int i, _, _, _, h, r, e => by
    simp [nkey] at e; subst e
    cases h
    obtain ⟨t, rfl⟩ := r
    exact .int i t
  | .str i, _, _, _, h, r, e => by
    simp [nkey] at e; subst e
    cases h
    obtain ⟨t, rfl⟩ := r
    exact .text i t
  | .tuple ds, _, _, _, h, r, e => by
    simp [nkey] at e
    obtain ⟨ks, hk, rfl⟩ := e
    cases h with
    | tup q h =>
      cases r
      obtain ⟨its, rv, ⟨o, ho, hc, n, hd⟩, _⟩ := I.tuple q
      exact .tup ho hc hd (nested_all I h rv hk)
  | .bool _, _, _, _, _, _, e => by simp [nkey] at e
  | .list _, _, _, _, _, _, e => by simp [nkey] at e
  | .dict _, _, _, _, _, _, e => by simp [nkey] at e
theorem nested_all (I : Inv X pins σ H s) : ∀ {ds : List D} {vs : List V} {us : List Value} {ks : List NestedKey}, DzA Z X.K H ds vs → Vals vs us → nkey.nkeys ds = some ks → NestedAll s.heap ks us
  | [], _, _, _, h, r, e => by
    simp [nkey.nkeys] at e; subst e
    cases h; cases r
    exact .nil
  | d :: ds, _, _, _, h, r, e => by
    unfold nkey.nkeys at e
    split at e
    · rename_i k ks h1 h2
      cases e
      cases h with
      | cons h t =>
        cases r with
        | cons r rr => exact .cons (nested_is I h r h1) (nested_all I t rr h2)
    · cases e
end
/-- a dict with nested keys stands there -/
theorem ndict_at (I : Inv X pins σ H s) {a : Addr} {xs : List (NestedKey × Addr × Value)} {es : List (D × D)} {G : Gx} (hP : G.P = X.prog) (hw : G.w = X.w) (e : H a = some (.ext (NDict G a xs))) (hx : Paired (NEnt Z X.K H) xs es) :
    s.heap.DictOfH (nestedKind X.prog X.w) a xs ∧ (a == sysModules) = false ∧ xs.length ≤ sizeLine := by
  obtain ⟨⟨o, ds, ep, h1, h2, h3, h4, h5, h6, h7⟩, _⟩ := I.hok a _ e
  rw [hP, hw] at h4
  refine ⟨⟨o, ds, ep, h1, h2, h3, h4, fun x hx' => ?_, h5⟩, h6, h7⟩
  obtain ⟨i, hi⟩ := List.mem_iff_getElem?.mp hx'
  have get : ∀ {xs : List (NestedKey × Addr × Value)} {es : List (D × D)} {i : Nat}, Paired (NEnt Z X.K H) xs es → xs[i]? = some x → ∃ e, NEnt Z X.K H x e := by
    intro xs es i h
    induction h generalizing i with
    | nil => intro e; simp at e
    | cons h t ih =>
      cases i with
      | zero => intro e; simp at e; subst e; exact ⟨_, h⟩
      | succ i => intro e; exact ih (by simpa using e)
  obtain ⟨e', q1, q2, q3, _⟩ := get hx hi
  exact ⟨nested_is I q3 rfl q1, q2⟩
/-- the empty dict, as one with nested keys -/
theorem ndict_nil (I : Inv X pins σ H s) {a : Addr} (e : H a = some (.dK [])) : s.heap.DictOfH (nestedKind X.prog X.w) a [] ∧ (a == sysModules) = false := by
  obtain ⟨_, h6, vs, rel, o, ds, ep, h1, h2, h3, h4, h5, h7⟩ := I.hok a _ e
  cases rel
  refine ⟨⟨o, ds, ep, h1, h2, h3, ?_, fun x hx => (by cases hx), List.nodup_nil⟩, h6⟩
  cases q : ds.toList with
  | nil => rfl
  | cons x r =>
    rw [q] at h5
    cases h5
end
end Eng
set_option maxHeartbeats 1000000
/-! The engine, part 5: in, items, slices, built-ins. -/
namespace Eng
open PySem PySem.Spec L2
open PyProof.Rows hiding St

/-! ### in -/
def hasS (a b : O) : Option Bool :=
  match b with
  | .dic es => match a with
    | .val k => if dOk es k = true then some (dhas es k) else none
    | _ => none
  | .val (.str z) => match a with
    | .val (.str x) => match x.cps.toList with
      | [c] => some (decide (c ∈ z.cps.toList))
      | _ => none
    | _ => none
  | .val (.dict es) => match a with
    | .val k => if ((es.all fun e => (keyOf e.1).isSome) && (keyOf k).isSome) = true then some (dhas es k) else none
    | _ => none
  | b => match a.view?, b.seq? with
    | some d, some ds => if (isStrD d && ds.all isStrD || SeqAt.shaped d && SeqAt.shaped (.list ds)) = true then some (ds.any fun y => PyData.eqv y d) else none
    | _, _ => none
def inS (a b : O) : Option O := (hasS a b).map fun k => .val (.bool k)
def notinS (a b : O) : Option O := (hasS a b).map fun k => .val (.bool (!k))

section
variable {X : Cx} {ca : Nat → Addr} {pins : List (Addr × Obj)} {σ : L2.St} {H : Hp} {s : Shared} {Z : Zs}
theorem strs_flat : ∀ {ds : List D} {vs : List V}, DzA Z X.K H ds vs → (ds.all isStrD) = true → (vs.all flatV) = true ∧ ∀ (x : Str), (inV (.str x) vs = ds.any fun y => PyData.eqv y (.str x))
  | [], _, h, _ => by
    cases h
    exact ⟨rfl, fun _ => rfl⟩
  | d :: ds, _, h, q => by
    cases h with
    | cons h t =>
      rw [List.all_cons, Bool.and_eq_true] at q
      obtain ⟨i1, i2⟩ := strs_flat t q.2
      cases d <;> simp [isStrD] at q
      cases h
      refine ⟨by rw [List.all_cons, i1]; rfl, fun x => ?_⟩
      have := i2 x
      unfold inV at this ⊢
      rw [List.any_cons, List.any_cons, this, eqv_str]
      rfl
theorem d_in2 {Q : Value → Shared → Prop} {A : Around} {E : Value → Shared → Prop} (neg : Bool) {a : Addr} {y : V} {o : Option V} {u : Value} (hu : A.units + 1 < cLine) (I : Inv X pins σ H s) (g : DGet H a y o) (ry : RelV y u) (h : ∀ s', Inv X pins σ H s' → Q (.bool (if neg then !o.isSome else o.isSome)) s') :
    wpAny (model X.prog X.w) A (compareOp (if neg then .NotIn else .In) u (.ref a)) Q E s := by
  cases neg with
  | true => exact d_notIn hu I g ry h
  | false => exact d_in hu I g ry h
theorem k_in2 {Q : Value → Shared → Prop} {A : Around} {E : Value → Shared → Prop} (neg : Bool) {a b : Addr} {κ : NestedKey} {xs : List (NestedKey × Addr × Value)} (hu : A.units + 64 < cLine) (I : Inv X pins σ H s) (hm : s.heap.DictOfH (nestedKind X.prog X.w) a xs) (hd : (a == sysModules) = false)
    (hk : (nestedKind X.prog X.w).is s.heap κ b) (h : ∀ s', Inv X pins σ H s' → Q (.bool (if neg then !(atKey xs κ).isSome else (atKey xs κ).isSome)) s') :
    wpAny (model X.prog X.w) A (compareOp (if neg then .NotIn else .In) (.ref b) (.ref a)) Q E s := by
  have hr : (nestedKind X.prog X.w).room A.in1 := by
    show A.units + 1 + 8 < cLine
    omega
  cases neg with
  | true =>
    show wpAny _ _ (do return .bool (!(← contains (.ref a) (.ref b)))) Q E s
    exact wpAny_bind (wpAny_contains_heap hr hk hd hm (wpAny_pure (h _ (I.tok _))))
  | false => exact wpAny_in_heap hr hk hd hm (h _ (I.tok _))
theorem has_ok (neg : Bool) {a b : O} {x y : V} {v u : Value} {k : Bool} {Q : VK} (hu : X.A.units + 65 < cLine) (I : Inv X pins σ H s) (rx : RelV x v) (ry : RelV y u) (ha : Rb (gx X ca) Z H a x) (hb : Rb (gx X ca) Z H b y) (e : hasS a b = some k)
    (q : Q (.bl (if neg then !k else k)) H) : wpAny (model X.prog X.w) X.A (compareOp (if neg then .NotIn else .In) v u) (EP X pins σ Q) X.xe s := by
  have seqs : ∀ d ds, a.view? = some d → b.seq? = some ds → (if (isStrD d && ds.all isStrD || SeqAt.shaped d && SeqAt.shaped (.list ds)) = true then some (ds.any fun y => PyData.eqv y d) else none) = some k →
      wpAny (model X.prog X.w) X.A (compareOp (if neg then .NotIn else .In) v u) (EP X pins σ Q) X.xe s := fun d ds e1 e2 e => by
    split at e
    · rename_i hc
      cases e
      obtain ⟨p, us, rfl, hs, hd⟩ := rb_seq hb e2
      have hv := rb_view ha e1 (by
        rcases Bool.or_eq_true_iff.mp hc with hc | hc
        · rw [Bool.and_eq_true] at hc
          cases d with
          | str z => simp [PyData.hasDict]
          | _ => cases hc.1
        · rw [Bool.and_eq_true] at hc
          exact layS_shaped hc.1)
      rcases Bool.or_eq_true_iff.mp hc with hc | hc
      · rw [Bool.and_eq_true] at hc
        obtain ⟨c1, c2⟩ := hc
        obtain ⟨z, rfl⟩ : ∃ z, d = .str z := by
          cases d with
          | str z => exact ⟨z, rfl⟩
          | _ => cases c1
        cases hv
        obtain ⟨f1, f2⟩ := strs_flat hd c2
        have fin := f2 z
        cases neg with
        | true => exact op_notIn_seq pins s σ H _ _ v u Q I rx ry ⟨p, us, rfl, hs, rfl, f1, by rw [if_pos rfl, fin]; exact q⟩
        | false => exact op_in_seq pins s σ H _ _ v u Q I rx ry ⟨p, us, rfl, hs, rfl, f1, by rw [if_neg (by decide), fin]; exact q⟩
      · rw [Bool.and_eq_true] at hc
        obtain ⟨as, r1⟩ := Dp.reads I d x v hv rx
        have cl0 : PyData.hasDictAll ds = false := by
          have := layS_shaped hc.2
          simpa [PyData.hasDict] using this
        have cl : PyData.canLayAll0 ds = true := by
          have := SeqAt.canLay_of_shaped hc.2
          simpa [PyData.canLay0] using this
        rcases hs with hs | hs
        · obtain ⟨bs, r2⟩ := Dp.reads I (.list ds) _ u (.lst hs (hd.dp cl0)) ry
          cases neg with
          | true => exact SeqAt.notIn_list_reads r2 r1 (SeqAt.canLay_of_shaped hc.2) (SeqAt.canLay_of_shaped hc.1) (room_in_shaped hc.1 hu) ⟨.bl _, H, I, rfl, q⟩
          | false => exact SeqAt.in_list_reads r2 r1 (SeqAt.canLay_of_shaped hc.2) (SeqAt.canLay_of_shaped hc.1) (room_in_shaped hc.1 hu) ⟨.bl _, H, I, rfl, q⟩
        · obtain ⟨bs, r2⟩ := Dp.reads I (.tuple ds) _ u (.tup hs (hd.dp cl0)) ry
          cases neg with
          | true => exact SeqAt.notIn_tuple_reads r2 r1 cl (SeqAt.canLay_of_shaped hc.1) (room_in_shaped hc.1 hu) ⟨.bl _, H, I, rfl, q⟩
          | false => exact SeqAt.in_tuple_reads r2 r1 cl (SeqAt.canLay_of_shaped hc.1) (room_in_shaped hc.1 hu) ⟨.bl _, H, I, rfl, q⟩
    · cases e
  unfold hasS at e
  split at e
  · -- a dict
    rename_i es
    split at e
    · rename_i d
      split at e
      · rename_i hc
        cases e
        have hv := rb_val ha
        obtain ⟨F, hb⟩ := hb
        rcases Bool.or_eq_true_iff.mp hc with hc | hc
        · rw [Bool.and_eq_true] at hc
          obtain ⟨κ, hk⟩ := Option.isSome_iff_exists.mp hc.1
          cases hb with
          | dic e1 h1 h2 nd =>
            cases ry
            obtain rfl := key_v hv hk
            refine d_in2 neg (by omega) I (DGet.k (k := κ) e1) rx fun s' I' => ?_
            rw [(dget_val h1 h2 hk).1]
            exact ⟨.bl _, H, I', rfl, q⟩
          | dct e1 hx nd ne => exact absurd (all_nkey hx hc.2) ne
        · rw [Bool.and_eq_true] at hc
          obtain ⟨κ, hk⟩ := Option.isSome_iff_exists.mp hc.1
          obtain ⟨hk1, hk2⟩ := nkOf_some hk
          obtain ⟨ds, rfl⟩ := nkey_ref hk
          cases hv with
          | tup hq hds =>
            cases rx
            have his : (nestedKind X.prog X.w).is s.heap κ _ := ⟨nested_is I (.tup hq hds) rfl hk1, hk2⟩
            cases hb with
            | dic e1 h1 h2 nd =>
              cases ry
              obtain ⟨rfl, rfl⟩ := all_key h1 hc.2
              obtain ⟨m1, m2⟩ := ndict_nil I e1
              exact k_in2 neg (by omega) I m1 m2 his fun s' I' => ⟨.bl _, H, I', rfl, q⟩
            | dct e1 hx nd ne =>
              cases ry
              obtain ⟨m1, m2, _⟩ := ndict_at I rfl rfl e1 hx
              refine k_in2 neg (by omega) I m1 m2 his fun s' I' => ?_
              rw [(dget_nk hx hk1).1]
              exact ⟨.bl _, H, I', rfl, q⟩
      · cases e
    · cases e
  · -- a text
    rename_i z
    split at e
    · rename_i t
      split at e
      · rename_i c hc
        cases e
        cases rb_str ha
        cases rb_str hb
        have et : t = ⟨#[c]⟩ := TL.ext_tl hc
        subst et
        cases neg with
        | true => exact op_notIn_sign pins s σ H _ _ v u Q I rx ry ⟨c, z, rfl, rfl, q⟩
        | false => exact op_in_sign pins s σ H _ _ v u Q I rx ry ⟨c, z, rfl, rfl, q⟩
      · cases e
    · cases e
  · -- a frozen dict
    rename_i es
    split at e
    · rename_i d
      split at e
      · rename_i hc
        cases e
        rw [Bool.and_eq_true] at hc
        have hv := rb_val ha
        have hb := rb_val hb
        obtain ⟨κ, hk⟩ := Option.isSome_iff_exists.mp hc.2
        cases hb with
        | dic e1 nd h1 h2 =>
          cases ry
          obtain rfl := key_v hv hk
          refine d_in2 neg (by omega) I (.inl ⟨_, κ, .inr ⟨_, e1⟩, rfl, rfl⟩) rx fun s' I' => ?_
          rw [(dget_val h1 h2 hk).1]
          exact ⟨.bl _, H, I', rfl, q⟩
      · cases e
    · cases e
  · split at e
    · rename_i d ds e1 e2
      exact seqs d ds e1 e2 e
    · cases e
theorem bin_in (hu : X.A.units + 65 < cLine) : BinS X ca (compareOp .In) inS := binS_of fun pins s σ H x y v u Q Z a b r I rx ry ha hb e q => by
  unfold inS at e
  cases e2 : hasS a b with
  | none => rw [e2] at e; cases e
  | some k =>
    rw [e2] at e
    cases e
    exact has_ok false hu I rx ry ha hb e2 (q _ _ [] (Al.val (.bl _)))
theorem bin_notin (hu : X.A.units + 65 < cLine) : BinS X ca (compareOp .NotIn) notinS := binS_of fun pins s σ H x y v u Q Z a b r I rx ry ha hb e q => by
  unfold notinS at e
  cases e2 : hasS a b with
  | none => rw [e2] at e; cases e
  | some k =>
    rw [e2] at e
    cases e
    exact has_ok true hu I rx ry ha hb e2 (q _ _ [] (Al.val (.bl _)))
end

/-! ### items -/
def ixS : O → O → Option O
  | .scr ns, .val (.int i) => (atI ns i).map fun n => .val (.int n)
  | .val (.str z), .val (.int i) => if z.length ≤ sizeLine then (atI z.cps.toList i).map fun c => .val (.str ⟨#[c]⟩) else none
  | .dic es, .val k => if dOk es k = true then (dget es k).map .val else none
  | .val (.dict es), .val k => if ((es.all fun e => (keyOf e.1).isSome) && (keyOf k).isSome) = true then (dget es k).map .val else none
  | .lst ds, .val (.int i) => (atI ds i).map .val
  | .val (.list ds), .val (.int i) => (atI ds i).map .val
  | .val (.tuple ds), .val (.int i) => (atI ds i).map .val
  | _, _ => none
section
variable {X : Cx} {ca : Nat → Addr} {W : WX}
theorem DzA.atI {Z : Zs} {K : PySem.W.Frag} {H : Hp} {ds : List D} {vs : List V} {i : Int} {d : D} (h : DzA Z K H ds vs) (e : L2.atI ds i = some d) : ∃ v, L2.atI vs i = some v ∧ Dz Z K H d v := by
  unfold L2.atI at e ⊢
  rw [h.length]
  cases q : ixN ds.length i with
  | none => rw [q] at e; cases e
  | some j =>
    rw [q] at e
    exact h.get e
theorem atI_map {α β : Type} (f : α → β) (xs : List α) (i : Int) : L2.atI (xs.map f) i = (L2.atI xs i).map f := by
  unfold L2.atI
  rw [List.length_map]
  cases ixN xs.length i with
  | none => rfl
  | some j => simp
theorem ix_all (hu : X.A.units + 65 < cLine) : IxR X (fun x y H Q => RSem (X := X) (ca := ca) (two ixS) [x, y] H Q) := by
  intro value slice pins s σ H x y v u Q I rx ry ⟨Z, os, r, zd, hp, e0, q⟩ hs
  obtain ⟨a, b, rfl, e⟩ := two_some e0
  obtain ⟨ha, hb⟩ := pair2 hp
  unfold ixS at e
  split at e
  · rename_i ns i
    obtain ⟨F, ha⟩ := ha
    cases ha with
    | scr hq =>
      cases rb_int hb
      cases e2 : L2.atI ns i with
      | none => rw [e2] at e; cases e
      | some n =>
        rw [e2] at e
        cases e
        exact ix_list value slice pins s σ H _ _ v u Q I rx ry ⟨_, _, i, .int n, rfl, rfl, hq.sq, by rw [atI_map, e2]; rfl, q _ _ [] (Al.val (.int _))⟩ hs
  · rename_i z i
    split at e
    · rename_i hz
      cases rb_str ha
      cases rb_int hb
      cases e2 : L2.atI z.cps.toList i with
      | none => rw [e2] at e; cases e
      | some c =>
        rw [e2] at e
        cases e
        exact ix_str value slice pins s σ H _ _ v u Q I rx ry ⟨z, i, c, rfl, rfl, hz, e2, q _ _ [] (Al.val (.str _))⟩ hs
    · cases e
  · rename_i es k
    split at e
    · rename_i hc
      cases e2 : dget es k with
      | none => rw [e2] at e; cases e
      | some d =>
        rw [e2] at e
        cases e
        have hv := rb_val hb
        obtain ⟨F, ha⟩ := ha
        rcases Bool.or_eq_true_iff.mp hc with hc | hc
        · rw [Bool.and_eq_true] at hc
          obtain ⟨κ, hk⟩ := Option.isSome_iff_exists.mp hc.1
          cases ha with
          | dic e1 h1 h2 nd =>
            cases rx
            obtain rfl := key_v hv hk
            obtain ⟨w', hw, hd⟩ := (dget_val h1 h2 hk).2 d e2
            have g := DGet.k (k := κ) e1
            rw [hw] at g
            exact PyProof.Rows.tail_any (dict_typeIs I g) PySem.F.slot_dict_getitem.lookup (d_getItem (by omega) I g ry fun z s3 I3 rz => ⟨w', H, I3, rz, q _ _ [] (Al.val hd)⟩) hs
          | dct e1 hx nd ne => exact absurd (all_nkey hx hc.2) ne
        · rw [Bool.and_eq_true] at hc
          obtain ⟨κ, hk⟩ := Option.isSome_iff_exists.mp hc.1
          obtain ⟨hk1, hk2⟩ := nkOf_some hk
          obtain ⟨ds, rfl⟩ := nkey_ref hk
          cases hv with
          | tup hq hds =>
            cases ry
            have his : (nestedKind X.prog X.w).is s.heap κ _ := ⟨nested_is I (.tup hq hds) rfl hk1, hk2⟩
            cases ha with
            | dic e1 h1 h2 nd =>
              obtain ⟨rfl, rfl⟩ := all_key h1 hc.2
              cases e2
            | dct e1 hx nd ne =>
              cases rx
              obtain ⟨m1, m2, _⟩ := ndict_at I rfl rfl e1 hx
              obtain ⟨p, w', hp, rw', hd⟩ := (dget_nk hx hk1).2 d e2
              refine PyProof.Rows.tail_any m1.typeIs PySem.F.slot_dict_getitem.lookup (wpAny_getItem_heap (by show X.A.units + 1 + 8 < cLine; omega) his m1 hp ?_) hs
              exact ⟨w', H, I.tok _, rw', q _ _ [] (Al.val hd)⟩
    · cases e
  · rename_i es d
    split at e
    · rename_i hc
      cases e2 : dget es d with
      | none => rw [e2] at e; cases e
      | some d' =>
        rw [e2] at e
        cases e
        rw [Bool.and_eq_true] at hc
        have hv := rb_val hb
        have ha := rb_val ha
        obtain ⟨κ, hk⟩ := Option.isSome_iff_exists.mp hc.2
        cases ha with
        | dic e1 nd h1 h2 =>
          cases rx
          rename_i p ob kvs
          obtain rfl := key_v hv hk
          obtain ⟨w', hw, hd⟩ := (dget_val h1 h2 hk).2 d' e2
          have g : DGet H p (kV κ) (valV kvs κ) := .inl ⟨kvs, κ, .inr ⟨ob, e1⟩, rfl, rfl⟩
          rw [hw] at g
          exact PyProof.Rows.tail_any (dict_typeIs I g) PySem.F.slot_dict_getitem.lookup (d_getItem (by omega) I g ry fun z s3 I3 rz => ⟨w', H, I3, rz, q _ _ [] (Al.val hd)⟩) hs
    · cases e
  · rename_i ds i
    cases e2 : L2.atI ds i with
    | none => rw [e2] at e; cases e
    | some d =>
      rw [e2] at e
      cases e
      cases rb_int hb
      obtain ⟨p, xs, rfl, hp, hd⟩ := rb_list ha rfl
      obtain ⟨w', hw, hdw⟩ := hd.atI e2
      exact ix_list value slice pins s σ H _ _ v u Q I rx ry ⟨p, xs, i, w', rfl, rfl, .inl (.inl hp), hw, q _ _ [] (Al.val hdw)⟩ hs
  · rename_i ds i
    cases e2 : L2.atI ds i with
    | none => rw [e2] at e; cases e
    | some d =>
      rw [e2] at e
      cases e
      cases rb_int hb
      obtain ⟨p, xs, rfl, hp, hd⟩ := rb_list ha rfl
      obtain ⟨w', hw, hdw⟩ := hd.atI e2
      exact ix_list value slice pins s σ H _ _ v u Q I rx ry ⟨p, xs, i, w', rfl, rfl, .inl (.inl hp), hw, q _ _ [] (Al.val hdw)⟩ hs
  · rename_i ds i
    cases e2 : L2.atI ds i with
    | none => rw [e2] at e; cases e
    | some d =>
      rw [e2] at e
      cases e
      cases rb_int hb
      obtain ⟨p, xs, rfl, hp, hd⟩ := rb_tup ha rfl
      obtain ⟨w', hw, hdw⟩ := hd.atI e2
      exact ix_tup value slice pins s σ H _ _ v u Q I rx ry ⟨p, xs, i, w', rfl, rfl, hp, hw, q _ _ [] (Al.val hdw)⟩ hs
  · cases e
theorem se_ix {a b : Expr} {f g : ES} {pos : Pos} (hu : X.A.units + 65 < cLine) (ha : PE X a (RdE X ca W f)) (hb : PE X b (RdE X ca W g)) (hs : PlainIx b) : PE X (.Subscript a b pos) (RdE X ca W (o2 ixS f g)) :=
  PE.imp (pe_ix (ix_all hu) ha hb hs) fun _ _ _ h => rd_o2 h

/-! ### slices -/
def cutA {α : Type} (xs : List α) (lo hi : Option Int) : List α := (xs.drop (HT.sIx xs.length 0 lo)).take (HT.sIx xs.length xs.length hi - HT.sIx xs.length 0 lo)
def slS (lo hi : Option Int) : O → Option O
  | .val (.str z) => if z.length ≤ sizeLine then some (.val (.str (cutS z lo hi))) else none
  | .val (.tuple ds) => some (.val (.tuple (cutA ds lo hi)))
  | .lst ds => some (.lst (cutA ds lo hi))
  | .val (.list ds) => some (.lst (cutA ds lo hi))
  | .scr ns => some (.lst (cutA (ns.map PyData.int) lo hi))
  | _ => none
theorem dzA_ints {Z : Zs} {K : PySem.W.Frag} {H : Hp} : ∀ ns : List Int, DzA Z K H (ns.map PyData.int) (ns.map V.int)
  | [] => .nil
  | n :: ns => .cons (.int n) (dzA_ints ns)
theorem DzA.cut {Z : Zs} {K : PySem.W.Frag} {H : Hp} {ds : List D} {vs : List V} (h : DzA Z K H ds vs) (lo hi : Option Int) : DzA Z K H (cutA ds lo hi) (cutV vs lo hi) := by
  unfold cutA cutV
  rw [h.length]
  exact (h.drop _).take _
theorem sl_all {lo hi : Option Int} : SlR X (fun x l h H Q => l = lo ∧ h = hi ∧ RSem (X := X) (ca := ca) (one (slS lo hi)) [x] H Q) := by
  intro pins s σ H x v vl vu l h sl Q I rx his pl pu ⟨e1, e2, Z, os, r, zd, hp, e0, q⟩
  subst e1; subst e2
  obtain ⟨a, rfl, e⟩ := one_some e0
  have ha := pair1 hp
  unfold slS at e
  split at e
  · rename_i z
    split at e
    · rename_i hz
      cases e
      cases rb_str ha
      exact sl_str pins s σ H _ v vl vu l h sl Q I rx his pl pu ⟨z, rfl, hz, q _ _ [] (Al.val (.str _))⟩
    · cases e
  · rename_i ds
    cases e
    obtain ⟨p, xs, rfl, hp, hd⟩ := rb_tup ha rfl
    refine sl_tupA pins s σ H _ v vl vu l h sl Q I rx his pl pu ⟨p, xs, rfl, hp, fun hw => ?_, fun _ a' na => q _ _ [] (Al.tup (hd.cut l h) na)⟩
    have e : cutA ds l h = ds := by
      unfold cutA
      rw [← hd.length, hw.1, hw.2, hd.length, List.drop_zero, Nat.sub_zero, List.take_length]
    rw [e] at q
    exact q _ _ [] (Al.val (.tup hp hd))
  · rename_i ds
    cases e
    obtain ⟨p, xs, rfl, hp, hd⟩ := rb_list ha rfl
    exact sl_list pins s σ H _ v vl vu l h sl Q I rx his pl pu ⟨p, xs, rfl, .inl (.inl hp), fun a' na => q _ _ _ (Al.lst (hd.cut l h) na)⟩
  · rename_i ds
    cases e
    obtain ⟨p, xs, rfl, hp, hd⟩ := rb_list ha rfl
    exact sl_list pins s σ H _ v vl vu l h sl Q I rx his pl pu ⟨p, xs, rfl, .inl (.inl hp), fun a' na => q _ _ _ (Al.lst (hd.cut l h) na)⟩
  · rename_i ns
    cases e
    obtain ⟨F, hF⟩ := ha
    cases hF with
    | scr hq => exact sl_list pins s σ H _ v vl vu l h sl Q I rx his pl pu ⟨_, _, rfl, hq.sq, fun a' na => q _ _ _ (Al.lst ((dzA_ints ns).cut l h) na)⟩
  · cases e
end
end Eng
set_option maxHeartbeats 1000000
/-! The engine, part 6: calls of built-ins. -/
namespace Eng
open PySem PySem.Spec L2
open PyProof.Rows hiding St

/-! ### plain forms of the text -/
def notStar : Expr → Bool
  | .Starred _ _ => false
  | _ => true
theorem star_cons {e : Expr} {es : List Expr} {env : Env} (h : notStar e = true) : starEach (e :: es) env = (false, eval e env) :: starEach es env := by
  cases e <;> first | rfl | cases h
theorem star_plain {env : Env} {pos : Pos} : ∀ {es : List Expr}, (es.all notStar) = true → (backTo pos (starEach es env)).any (·.1) = false
  | [], _ => rfl
  | e :: es, h => by
    rw [List.all_cons, Bool.and_eq_true] at h
    rw [star_cons h.1]
    show (false || (backTo pos (starEach es env)).any (·.1)) = false
    rw [star_plain h.2]
    rfl
section
variable {X : Cx} {ca : Nat → Addr} {W : WX}
/-- a built-in's call on values -/
def CallS (X : Cx) (ca : Nat → Addr) (f : Value) (sem : List O → Option O) : Prop := CallR X f (fun xs H Q => RSem (X := X) (ca := ca) sem xs H Q)
theorem se_callB {sem : List O → Option O} {id : String} {x : Str} {e : Expr} {es : List Expr} {fs : AS} {p pos : Pos} (hc : CallS X ca (.builtin id) sem) (hg : Gl X x) (hm : X.mg x = none) (hv : bootBuiltins x = some (.builtin id)) (ha : PA X (e :: es) (RdA X ca W fs))
    (hn : x ≠ "__name__") (hdb : (x == ("__debug__" : Str)) = false) (hs : ((e :: es).all notStar) = true) : PE X (.Call (.Name x p) (e :: es) [] pos) (RdE X ca W (oF sem fs)) := by
  rw [List.all_cons, Bool.and_eq_true] at hs
  exact PE.imp (pe_callB hc hg hm hv ha hn hdb (star_cons hs.1) (star_plain hs.2)) fun _ _ _ h => rd_oF h
theorem se_callTy {sem : List O → Option O} {T : String} {x : Str} {e : Expr} {es : List Expr} {fs : AS} {p pos : Pos} (hc : CallS X ca (.type T) sem) (hg : Gl X x) (hm : X.mg x = none) (hv : bootBuiltins x = some (.type T)) (ha : PA X (e :: es) (RdA X ca W fs))
    (hn : x ≠ "__name__") (hdb : (x == ("__debug__" : Str)) = false) (hs : ((e :: es).all notStar) = true) : PE X (.Call (.Name x p) (e :: es) [] pos) (RdE X ca W (oF sem fs)) := by
  rw [List.all_cons, Bool.and_eq_true] at hs
  exact PE.imp (pe_callTy hc hg hm hv ha hn hdb (star_cons hs.1) (star_plain hs.2)) fun _ _ _ h => rd_oF h
theorem callS_of {f : Value} {sem : O → Option O}
    (h : ∀ (pins : List (Addr × Obj)) (s : Shared) (σ : L2.St) (H : Hp) (x : V) (v : Value) (Q : VK) (Z : Zs) (a r : O), Inv X pins σ H s → RelV x v → (∀ a, Z a → H a ≠ none) → Rb (gx X ca) Z H a x → sem a = some r →
      (∀ v H' F, Al (gx X ca) Z H r v H' F → Q v H') → wpAny (model X.prog X.w) X.A (call f [v]) (EP X pins σ Q) X.xe s) : CallS X ca f (one sem) := by
  intro pins s σ H xs us Q I r ⟨Z, os, o, zd, hp, e0, q⟩
  obtain ⟨a, rfl, e⟩ := one_some e0
  cases hp with
  | cons h1 t =>
    cases t
    cases r with
    | cons r1 rt =>
      cases rt
      exact h pins s σ H _ _ Q Z a o I r1 zd h1 e q
theorem vals1' {x : V} {v : Value} (r : RelV x v) : Vals [x] [v] := .cons r .nil

/-! ### len, list, tuple -/
def lenS : O → Option O
  | .val (.str z) => if z.length ≤ sizeLine then some (.val (.int z.length)) else none
  | .val (.list ds) => some (.val (.int ds.length))
  | .val (.tuple ds) => some (.val (.int ds.length))
  | .lst ds => some (.val (.int ds.length))
  | .scr ns => some (.val (.int ns.length))
  | .dic es => if (es.all fun e => (keyOf e.1).isSome) = true then some (.val (.int es.length)) else none
  | .set xs => some (.val (.int xs.length))
  | _ => none
theorem c_len : CallS X ca (.builtin "len") (one lenS) := callS_of fun pins s σ H x v Q Z a r I rx zd ha e q => by
  unfold lenS at e
  split at e
  · split at e
    · rename_i z hz
      cases e
      cases rb_str ha
      exact call_len_str pins s σ H _ _ Q I (vals1' rx) ⟨z, rfl, hz, q _ _ [] (Al.val (.int _))⟩
    · cases e
  · rename_i ds
    cases e
    obtain ⟨p, xs, rfl, hs, hd⟩ := rb_seq ha rfl
    rw [← hd.length] at q
    exact call_len_seq pins s σ H _ _ Q I (vals1' rx) ⟨p, xs, rfl, hs, q _ _ [] (Al.val (.int _))⟩
  · rename_i ds
    cases e
    obtain ⟨p, xs, rfl, hs, hd⟩ := rb_seq ha rfl
    rw [← hd.length] at q
    exact call_len_seq pins s σ H _ _ Q I (vals1' rx) ⟨p, xs, rfl, hs, q _ _ [] (Al.val (.int _))⟩
  · rename_i ds
    cases e
    obtain ⟨p, xs, rfl, hs, hd⟩ := rb_seq ha rfl
    rw [← hd.length] at q
    exact call_len_seq pins s σ H _ _ Q I (vals1' rx) ⟨p, xs, rfl, hs, q _ _ [] (Al.val (.int _))⟩
  · rename_i ns
    cases e
    obtain ⟨F, ha⟩ := ha
    cases ha with
    | scr hq =>
      have hl : (ns.map V.int).length = ns.length := List.length_map _
      rw [← hl] at q
      exact call_len_seq pins s σ H _ _ Q I (vals1' rx) ⟨_, _, rfl, .inl hq.sq, q _ _ [] (Al.val (.int _))⟩
  · split at e
    · rename_i es hc
      cases e
      obtain ⟨F, ha⟩ := ha
      cases ha with
      | dic e1 h1 h2 nd =>
        have hl := h1.length
        rw [List.length_map, List.length_map] at hl
        rw [← hl] at q
        exact call_lenD pins s σ H _ _ Q I (vals1' rx) ⟨_, _, rfl, e1, q _ _ [] (Al.val (.int _))⟩
      | dct e1 hx nd ne => exact absurd (all_nkey hx hc) ne
    · cases e
  · rename_i xs
    cases e
    obtain ⟨F, ha⟩ := ha
    cases ha with
    | set e1 =>
      obtain ⟨x, _⟩ := I.hok _ _ e1
      obtain ⟨o, es, ep, t, ⟨h1, h2, h3⟩, g, pm, nd, hb, hf, _⟩ := x
      cases rx
      have hl : es.size = xs.length := by
        have := pm.length_eq
        simpa using this
      have small : scanBound = 4096 := rfl
      refine call_len_set h1 h2 h3 hf (by omega) ⟨.int xs.length, H, I.tok _, ⟨_, by rw [hl]⟩, q _ _ [] (Al.val (.int _))⟩
  · cases e
def listS (o : O) : Option O := o.seq?.map .lst
def tupleS (o : O) : Option O := o.seq?.map fun ds => .val (.tuple ds)
theorem c_list : CallS X ca (.type "list") (one listS) := callS_of fun pins s σ H x v Q Z a r I rx zd ha e q => by
  unfold listS at e
  cases e1 : a.seq? with
  | none => rw [e1] at e; cases e
  | some ds =>
    rw [e1] at e
    cases e
    obtain ⟨p, xs, rfl, hs, hd⟩ := rb_seq ha e1
    exact call_list_of pins s σ H _ _ Q I (vals1' rx) ⟨p, xs, rfl, hs, fun l nl => q _ _ _ (Al.lst hd nl)⟩
theorem c_tuple : CallS X ca (.type "tuple") (one tupleS) := callS_of fun pins s σ H x v Q Z a r I rx zd ha e q => by
  unfold tupleS at e
  cases e1 : a.seq? with
  | none => rw [e1] at e; cases e
  | some ds =>
    rw [e1] at e
    cases e
    obtain ⟨p, xs, rfl, hs, hd⟩ := rb_seq ha e1
    refine call_tuple_of pins s σ H _ _ Q I (vals1' rx) ⟨p, xs, rfl, ?_⟩
    rcases hs with hs | hs
    · exact .inl ⟨hs, fun l nl => q _ _ _ (Al.tup hd nl)⟩
    · exact .inr ⟨hs, q _ _ [] (Al.val (.tup hs hd))⟩

/-! ### all, any, sum, max, min, str, int -/
def asBools : List D → Option (List Bool)
  | [] => some []
  | .bool b :: ds => (asBools ds).map (b :: ·)
  | _ :: _ => none
def asInts : List D → Option (List Int)
  | [] => some []
  | .int b :: ds => (asInts ds).map (b :: ·)
  | _ :: _ => none
theorem asBools_eq : ∀ {ds : List D} {bs : List Bool}, asBools ds = some bs → ds = bs.map PyData.bool
  | [], _, e => by cases e; rfl
  | d :: ds, bs, e => by
    cases d <;> simp [asBools] at e
    obtain ⟨cs, h, rfl⟩ := e
    rw [asBools_eq h]; rfl
@[simp] theorem asBools_map (bs : List Bool) : asBools (bs.map PyData.bool) = some bs := by
  induction bs with
  | nil => rfl
  | cons b bs ih => simp [asBools, ih]
@[simp] theorem asInts_map (bs : List Int) : asInts (bs.map PyData.int) = some bs := by
  induction bs with
  | nil => rfl
  | cons b bs ih => simp [asInts, ih]
def allS (o : O) : Option O := o.list?.bind fun ds => (asBools ds).map fun bs => .val (.bool (bs.all id))
def anyS (o : O) : Option O := o.list?.bind fun ds => (asBools ds).map fun bs => .val (.bool (bs.any id))
def sumS (o : O) : Option O := o.list?.bind fun ds => (asInts ds).map fun bs => .val (.int bs.sum)
theorem c_all (hc : X.calm = true) : CallS X ca (.builtin "all") (one allS) := callS_of fun pins s σ H x v Q Z a r I rx zd ha e q => by
  unfold allS at e
  cases e1 : a.list? with
  | none => rw [e1] at e; cases e
  | some ds =>
    rw [e1] at e
    cases e2 : asBools ds with
    | none => simp [e2] at e
    | some bs =>
      simp only [Option.bind_some, e2, Option.map_some, Option.some.injEq] at e
      subst e
      obtain ⟨p, xs, rfl, hs, hd⟩ := rb_list ha e1
      rw [asBools_eq e2] at hd
      rw [hd.bls] at hs
      exact cr_all hc pins s σ H _ _ Q I (vals1' rx) ⟨p, bs, rfl, .inl (.inl hs), q _ _ [] (Al.val (.bl _))⟩
def maxS : O → O → Option O
  | .val (.int i), .val (.int j) => some (.val (.int (if j > i then j else i)))
  | _, _ => none
def minS : O → O → Option O
  | .val (.int i), .val (.int j) => some (.val (.int (if j < i then j else i)))
  | _, _ => none
def strS : O → Option O
  | .val (.int i) => if i.natAbs.log2 < 1920 then some (.val (.str (Str.ofString (toString i)))) else none
  | _ => none
theorem c_str : CallS X ca (.type "str") (one strS) := callS_of fun pins s σ H x v Q Z a r I rx zd ha e q => by
  unfold strS at e
  split at e
  · split at e
    · rename_i i hi
      cases e
      cases rb_int ha
      exact call_str_int pins s σ H _ _ Q I (vals1' rx) ⟨i, rfl, hi, q _ _ [] (Al.val (.str _))⟩
    · cases e
  · cases e
end

/-! ### sorted -/
def sortD (ds : List D) : List D := ds.mergeSort (PySem.W.dataLe false fun d => d)
def isTupNE : D → Bool
  | .tuple (_ :: _) => true
  | _ => false
def noTup : D → Bool
  | .tuple _ => false
  | .none => false
  | _ => true
def sortOk (ds : List D) : Bool := (ds.all fun d => ds.all fun e => PySem.W.alike d e) && (ds.all isTupNE || ds.all noTup) && (ds.all fun d => decide (d.depth ≤ 32)) && decide (ds.length ≤ sizeLine)
theorem sortOk_alike {ds : List D} (h : sortOk ds = true) : PySem.W.AllAlike ds := by
  unfold sortOk at h
  simp only [Bool.and_eq_true] at h
  intro d hd e he
  exact List.all_eq_true.mp (List.all_eq_true.mp h.1.1.1 d hd) e he
theorem sortOk_able {ds : List D} (h : sortOk ds = true) : PySem.W.Sortable ds := by
  unfold sortOk at h
  simp only [Bool.and_eq_true, Bool.or_eq_true] at h
  rcases h.1.1.2 with h | h
  · refine .inl fun d hd => ?_
    have := List.all_eq_true.mp h d hd
    cases d with
    | tuple xs =>
      cases xs with
      | nil => cases this
      | cons x r => exact ⟨x, r, rfl⟩
    | _ => cases this
  · refine .inr fun d hd => ?_
    have := List.all_eq_true.mp h d hd
    cases d with
    | tuple xs => cases this
    | none => cases this
    | _ => exact ⟨(by intro e; cases e), fun xs e => by cases e⟩
theorem sortOk_depth {ds : List D} (h : sortOk ds = true) : ∀ d ∈ ds, d.depth ≤ 32 := by
  unfold sortOk at h
  simp only [Bool.and_eq_true] at h
  exact fun d hd => of_decide_eq_true (List.all_eq_true.mp h.1.2 d hd)
theorem sortOk_len {ds : List D} (h : sortOk ds = true) : ds.length ≤ sizeLine := by
  unfold sortOk at h
  simp only [Bool.and_eq_true] at h
  exact of_decide_eq_true h.2
mutual
theorem alike_nd : ∀ d : D, PySem.W.alike d d = true → d.hasDict = false
  | .none, _ => by simp [PyData.hasDict]
  | .bool _, _ => by simp [PyData.hasDict]
  | .int _, _ => by simp [PyData.hasDict]
  | .str _, _ => by simp [PyData.hasDict]
  | .list ds, h => by simpa [PyData.hasDict] using alikeAll_nd ds (by simpa [PySem.W.alike] using h)
  | .tuple ds, h => by simpa [PyData.hasDict] using alikeAll_nd ds (by simpa [PySem.W.alike] using h)
  | .dict _, h => by simp [PySem.W.alike] at h
theorem alikeAll_nd : ∀ ds : List D, PySem.W.alikeAll ds ds = true → PyData.hasDictAll ds = false
  | [], _ => by simp [PyData.hasDictAll]
  | d :: ds, h => by
    have h2 : PySem.W.alike d d = true ∧ PySem.W.alikeAll ds ds = true := by simpa [PySem.W.alikeAll] using h
    simp [PyData.hasDictAll, alike_nd d h2.1, alikeAll_nd ds h2.2]
end
theorem sortOk_nd {ds : List D} (h : sortOk ds = true) : ∀ d ∈ ds, d.hasDict = false := fun d hd => alike_nd d (sortOk_alike h d hd d hd)
section
variable {X : Cx} {ca : Nat → Addr} {pins : List (Addr × Obj)} {σ : L2.St} {H : Hp} {s : Shared} {Z : Zs} {Q : VK}
mutual
theorem Dz.reads (I : Inv X pins σ H s) : ∀ {d : D} {v : V} {u : Value}, d.hasDict = false → Dz Z X.K H d v → RelV v u → ∃ as, Reads s.heap u d as ∧ ∀ a ∈ as, a < s.heap.objs.size
  | .none, _, _, _, h, r => by
    cases h; cases r
    exact ⟨_, Reads.none, fun _ h => by cases h⟩
  | .bool b, _, _, _, h, r => by
    cases h; cases r
    exact ⟨_, Reads.bool b, fun _ h => by cases h⟩
  | .int i, _, _, _, h, r => by
    cases h
    obtain ⟨t, rfl⟩ := r
    exact ⟨_, Reads.int i t, fun _ h => by cases h⟩
  | .str x, _, _, _, h, r => by
    cases h
    obtain ⟨t, rfl⟩ := r
    exact ⟨_, Reads.str x t, fun _ h => by cases h⟩
  | .list ds, _, _, c, h, r => by
    cases h with
    | lst z hs ha =>
      cases r
      obtain ⟨its, rv, ⟨o, n, ho, hc, _, hd⟩, _⟩ := I.list (.inl (.inl hs))
      obtain ⟨as, hr, hb⟩ := DzA.reads I (by simpa [PyData.hasDict] using c) ha rv
      refine ⟨_, Reads.list ho hc hd hr, fun a ha => ?_⟩
      rcases List.mem_cons.mp ha with rfl | ha
      · exact Heap.lt_size ho
      · exact hb a ha
  | .tuple ds, _, _, c, h, r => by
    cases h with
    | tup hs ha =>
      cases r
      obtain ⟨its, rv, ⟨o, ho, hc, n, hd⟩, _⟩ := I.tuple hs
      obtain ⟨as, hr, hb⟩ := DzA.reads I (by simpa [PyData.hasDict] using c) ha rv
      exact ⟨_, Reads.tuple ho hc hd hr, hb⟩
  | .dict _, _, _, c, h, _ => by simp [PyData.hasDict] at c
theorem DzA.reads (I : Inv X pins σ H s) : ∀ {ds : List D} {vs : List V} {us : List Value}, PyData.hasDictAll ds = false → DzA Z X.K H ds vs → Vals vs us → ∃ as, ReadsAll s.heap us ds as ∧ ∀ a ∈ as, a < s.heap.objs.size
  | [], _, _, _, h, r => by
    cases h; cases r
    exact ⟨_, ReadsAll.nil, fun _ h => by cases h⟩
  | d :: ds, _, _, c, h, r => by
    cases h with
    | cons h1 h2 =>
      cases r with
      | cons r1 r2 =>
        obtain ⟨as, q1, b1⟩ := Dz.reads I (show d.hasDict = false by simp [PyData.hasDictAll] at c; exact c.1) h1 r1
        obtain ⟨bs, q2, b2⟩ := DzA.reads I (show PyData.hasDictAll ds = false by simp [PyData.hasDictAll] at c; exact c.2) h2 r2
        exact ⟨_, ReadsAll.cons q1 q2, fun a ha => (List.mem_append.mp ha).elim (b1 a) (b2 a)⟩
end
theorem each_of : ∀ {ds : List D} {vs : List V} {us : List Value}, DzA Z X.K H ds vs → Vals vs us → PySem.W.EachIs (fun u (b : D × V) => RelV b.2 u ∧ Dz Z X.K H b.1 b.2) us (ds.zip vs)
  | [], _, _, h, r => by
    cases h; cases r
    exact .nil
  | d :: ds, _, _, h, r => by
    cases h with
    | cons h1 h2 =>
      cases r with
      | cons r1 r2 => exact .cons ⟨r1, h1⟩ (each_of h2 r2)
theorem of_each : ∀ {bs : List (D × V)} {us : List Value}, PySem.W.EachIs (fun u (b : D × V) => RelV b.2 u ∧ Dz Z X.K H b.1 b.2) us bs → DzA Z X.K H (bs.map (·.1)) (bs.map (·.2)) ∧ Vals (bs.map (·.2)) us
  | [], _, h => by
    cases h
    exact ⟨.nil, .nil⟩
  | b :: bs, _, h => by
    cases h with
    | cons h t =>
      obtain ⟨i1, i2⟩ := of_each t
      exact ⟨.cons h.2 i1, .cons h.1 i2⟩
theorem zip_fst : ∀ {ds : List D} {vs : List V}, DzA Z X.K H ds vs → (ds.zip vs).map Prod.fst = ds
  | [], _, h => by cases h; rfl
  | d :: ds, _, h => by
    cases h with
    | cons h t =>
      show d :: (ds.zip _).map Prod.fst = d :: ds
      rw [zip_fst t]
/-- sorted of what can be gathered into a list -/
theorem sorted_src {a : Addr} (I : Inv X pins σ H s) (hu : X.A.units + 65 < cLine) (P : List D → Prop) (hok : ∀ ds, P ds → sortOk ds = true)
    (col : ∀ (E : Value → Shared → Prop) (Q' : List Value → Shared → Prop), (∀ s' out ds xs, Inv X pins σ H s' → P ds → DzA Z X.K H ds xs → Vals xs out → Q' out s') → wpAny (model X.prog X.w) X.A.in1 (collect (.ref a)) Q' E s)
    (q : ∀ ds vs p, P ds → H p = none → DzA Z X.K H (sortD ds) vs → Q (.ref p) (upd H p (.lst vs))) : wpAny (model X.prog X.w) X.A (call (.builtin "sorted") [.ref a]) (EP X pins σ Q) X.xe s := by
  refine Calls.call_function_entry PyProof.Rows.kind_sorted PyProof.Rows.plain_sorted PyProof.Rows.entry_sorted (PyProof.Rows.args_sorted1 _) ?_
  unfold Builtin.«sorted»
  refine wpAny_bind (m := checkCount "sorted" 1 1 _) (wpAny_pure ?_)
  refine wpAny_bind (col _ _ fun s1 out ds xs I1 hP hd r => ?_)
  have ok := hok ds hP
  have hlen : out.length = ds.length := by rw [← r.length, hd.length]
  refine wpAny_bind (wpAny_newList ?_ (by rw [hlen]; exact sortOk_len ok))
  have hoL : (s1.heap.push (seqObj "list" out.toArray 0)).get? s1.heap.objs.size = some (seqObj "list" out.toArray 0) := Heap.get?_push_size _ rfl
  have ez := zip_fst hd
  have er : ∀ {ds : List D} {xs : List V} {us : List Value}, (∀ d ∈ ds, d.hasDict = false) → DzA Z X.K H ds xs → Vals xs us → PySem.W.EachIs (fun v (b : D × V) => ∃ as, Reads (s1.heap.push (seqObj "list" out.toArray 0)) v b.1 as ∧ s1.heap.objs.size ∉ as) us (ds.zip xs) := by
    intro ds
    induction ds with
    | nil =>
      intro xs us _ h r
      cases h; cases r
      exact .nil
    | cons d ds ih =>
      intro xs us c h r
      cases h with
      | cons h t =>
        cases r with
        | cons r rr =>
          refine .cons ?_ (ih (fun e he => c e (List.mem_cons_of_mem _ he)) t rr)
          obtain ⟨as, h1, h2⟩ := Dz.reads I1 (c d List.mem_cons_self) h r
          exact ⟨as, PyProof.Rows.Reads.keeps (fun _ _ e => Heap.get?_push_of_some _ e) h1, fun hm => absurd (h2 _ hm) (Nat.lt_irrefl _)⟩
  refine wpAny_bind (wpAny_holding (PySem.W.list_sort_data (s := { s1 with heap := s1.heap.push (seqObj "list" out.toArray 0) }) (vs := out) (enc := Prod.fst) (bs := ds.zip xs) (n := 0) hoL (each_of hd r) (er (sortOk_nd ok) hd r) (by rw [ez]; exact sortOk_alike ok) (by rw [ez]; exact sortOk_able ok)
    (by rw [List.length_zip, hd.length, Nat.min_self]; exact sortOk_len ok) (fun b hb => ?_) fun out' hl he => ?_))
  · have hm : b.1 ∈ ds := by
      rw [← ez]
      exact List.mem_map.mpr ⟨b, hb, rfl⟩
    have := sortOk_depth ok _ hm
    show X.A.units + 1 + 1 + b.1.depth < cLine
    omega
  · obtain ⟨i1, i2⟩ := of_each he
    have e1 : ((ds.zip xs).mergeSort (PySem.W.dataLe false Prod.fst)).map (·.1) = sortD ds := by
      unfold sortD
      have := PySem.W.sort_maps (r := PySem.W.dataLe false Prod.fst) (s := PySem.W.dataLe false fun d => d) (Prod.fst : D × V → D) (l := ds.zip xs) fun _ _ _ _ => rfl
      rw [ez] at this
      exact this
    rw [e1] at i1
    obtain ⟨c, hc⟩ := PyProof.Rows.sortedHeap_at (vs := out) (out := out'.toArray) hoL
    have hz : (((ds.zip xs).mergeSort (PySem.W.dataLe false Prod.fst)).map (·.2)).length ≤ sizeLine := by
      rw [i1.length]
      unfold sortD
      rw [List.length_mergeSort]
      exact sortOk_len ok
    refine wpAny_pure ⟨_, rfl, .ref s1.heap.objs.size, upd H s1.heap.objs.size (.lst _), I1.laid (t' := s1.toks) (fun b u e => ?_) (Nat.le_refl _) ⟨hz, out', c, i2, hc⟩, rfl, q ds _ _ hP (I1.hok.fresh (Nat.le_refl _)) i1⟩
    have hb : b < s1.heap.objs.size := Heap.lt_size e
    show (sortedHeap (s1.heap.push (seqObj "list" out.toArray 0)) s1.heap.objs.size out out'.toArray).get? b = some u
    rw [PyProof.Rows.sortedHeap_old (Nat.ne_of_lt hb) (by rw [size_push']; exact Nat.lt_succ_of_lt hb)]
    exact Heap.get?_push_of_some _ e
theorem sortOk_perm {xs ys : List Str} (p : ys.Perm xs) (h : sortOk (xs.map PyData.str) = true) : sortOk (ys.map PyData.str) = true := by
  unfold sortOk at h ⊢
  simp only [Bool.and_eq_true, Bool.or_eq_true, List.all_eq_true, decide_eq_true_eq] at h ⊢
  have m : ∀ d, d ∈ ys.map PyData.str → d ∈ xs.map PyData.str := fun d hd => (p.map _).mem_iff.mp hd
  exact ⟨⟨⟨fun d hd e he => h.1.1.1 d (m d hd) e (m e he), h.1.1.2.imp (fun q d hd => q d (m d hd)) fun q d hd => q d (m d hd)⟩, fun d hd => h.1.2 d (m d hd)⟩, by rw [List.length_map, p.length_eq, ← List.length_map (f := PyData.str)]; exact h.2⟩
/-- two lists in order of the same items are one -/
theorem one_order {α : Type} {le : α → α → Prop} (anti : ∀ a b, le a b → le b a → a = b) : ∀ {l m : List α}, l.Perm m → l.Pairwise le → m.Pairwise le → l = m
  | [], m, p, _, _ => (List.nil_perm.mp p).symm ▸ rfl
  | a :: l, [], p, _, _ => by cases p.length_eq
  | a :: l, b :: m, p, h1, h2 => by
    rw [List.pairwise_cons] at h1 h2
    have e : a = b := by
      rcases List.mem_cons.mp (p.mem_iff.mp List.mem_cons_self) with e | ha
      · exact e
      · rcases List.mem_cons.mp (p.mem_iff.mpr (List.mem_cons_self (a := b) (l := m))) with e | hb
        · exact e.symm
        · exact anti a b (h1.1 b hb) (h2.1 a ha)
    subst e
    rw [one_order anti ((List.perm_cons a).mp p) h1.2 h2.2]
/-- the order of texts -/
def leT (x y : Str) : Bool := decide (x.cps.toList ≤ y.cps.toList)
theorem sortD_strs (xs : List Str) : sortD (xs.map PyData.str) = (xs.mergeSort leT).map PyData.str := by
  unfold sortD
  refine (PySem.W.sort_maps (r := leT) (s := PySem.W.dataLe false fun d => d) PyData.str fun a _ b _ => ?_).symm
  have := congrFun (congrFun (PySem.W.dataLe_str (fun x : Str => x)) a) b
  exact this.symm
theorem leT_trans (a b c : Str) (h1 : leT a b = true) (h2 : leT b c = true) : leT a c = true := by
  unfold leT at *
  simp only [decide_eq_true_eq] at *
  exact List.le_trans h1 h2
theorem leT_total (a b : Str) : (leT a b || leT b a) = true := by
  unfold leT
  simp only [Bool.or_eq_true, decide_eq_true_eq]
  exact List.le_total _ _
theorem leT_anti (a b : Str) (h1 : leT a b = true) (h2 : leT b a = true) : a = b := by
  unfold leT at *
  simp only [decide_eq_true_eq] at *
  exact TL.ext_tl (List.le_antisymm h1 h2)
theorem sortT_pairwise (xs : List Str) : (xs.mergeSort leT).Pairwise (fun a b => leT a b = true) := List.pairwise_mergeSort leT_trans leT_total xs
theorem sortD_perm {xs ys : List Str} (p : ys.Perm xs) : sortD (ys.map PyData.str) = sortD (xs.map PyData.str) := by
  rw [sortD_strs, sortD_strs, one_order leT_anti (((List.mergeSort_perm ys leT).trans p).trans (List.mergeSort_perm xs leT).symm) (sortT_pairwise ys) (sortT_pairwise xs)]
/-- gathered: a list, a tuple, a dict with plain keys -/
def sortS (o : O) : Option O := match o with
  | .dic es => if ((es.all fun e => (keyOf e.1).isSome) && sortOk (es.map (·.1))) = true then some (.lst (sortD (es.map (·.1)))) else none
  | .set xs => if sortOk (xs.map PyData.str) = true then some (.lst (sortD (xs.map PyData.str))) else none
  | .val (.dict es) => if ((es.all fun e => (keyOf e.1).isSome) && sortOk (es.map (·.1))) = true then some (.lst (sortD (es.map (·.1)))) else none
  | o => match o.seq? with
    | some ds => if sortOk ds = true then some (.lst (sortD ds)) else none
    | none => none
theorem c_sorted (hcalm : X.calm = true) (hu : X.A.units + 65 < cLine) : CallS X ca (.builtin "sorted") (one sortS) := callS_of fun pins s σ H x v Q Z a r I rx zd ha e q => by
  have seqs : ∀ ds, a.seq? = some ds → (if sortOk ds = true then some (O.lst (sortD ds)) else none) = some r → wpAny (model X.prog X.w) X.A (call (.builtin "sorted") [v]) (EP X pins σ Q) X.xe s := fun ds e1 e => by
    split at e
    · rename_i hok
      cases e
      obtain ⟨p, xs, rfl, hs, hd⟩ := rb_seq ha e1
      cases rx
      refine sorted_src (Z := Z) I hu (fun ds' => ds' = ds) (fun ds' e => by rw [e]; exact hok) (fun E Q' hQ => ?_) fun ds' vs l e nl hv => ?_
      · rcases hs with hs | hs
        · obtain ⟨its, rv, ⟨o, n, ho, hc, hdn, hdd⟩, hz⟩ := I.list hs
          exact wpAny_collect_seq p (.inl rfl) ho hc hdd (fun h' k => hQ _ _ ds xs (I.kept (t' := s.toks) k) rfl hd rv) (by rw [List.size_toArray, ← rv.length]; exact hz)
        · obtain ⟨its, rv, ⟨o, ho, hc, n, hdd⟩, hz⟩ := I.tuple hs
          exact wpAny_collect_seq p (.inr rfl) ho hc hdd (fun h' k => hQ _ _ ds xs (I.kept (t' := s.toks) k) rfl hd rv) (by rw [List.size_toArray, ← rv.length]; exact hz)
      · subst e
        have h1 : DzA Z (gx X ca).K (upd H l (.lst vs)) (sortD ds') vs := hv.kp (same_kp (same_new nl))
        exact q _ _ _ (Al.lst (G := gx X ca) hv nl)
    · cases e
  have dicts : ∀ (es : List (D × D)) (p : Addr) (kvs : List (Key × V)), Rd H p (.dK kvs) → DzA Z (gx X ca).K H (es.map (·.1)) (kvs.map fun p => kV p.1) → sortOk (es.map (·.1)) = true → (∀ v H' F, Al (gx X ca) Z H (.lst (sortD (es.map (·.1)))) v H' F → Q v H') → wpAny (model X.prog X.w) X.A (call (.builtin "sorted") [.ref p]) (EP X pins σ Q) X.xe s := fun es p kvs e1 h1 hok q => by
    obtain ⟨z, lo, vs, rel, dd⟩ := dk_rd I.hok e1
    obtain ⟨ep, hat⟩ := dd.dictAt
    refine sorted_src (Z := Z) I hu (fun ds' => ds' = es.map (·.1)) (fun ds' e => by rw [e]; exact hok) (fun E Q' hQ => ?_) fun ds' ws l e nl hv => ?_
    · refine PySem.W.kdu_collect (A := X.A.in1) (PySem.W.kdl_dict (knd := mixKind X.prog X.w) (kvs := vs) (ep := ep) lo) (I.ok.hd hcalm) hat (by rw [← rel.length]; exact z) fun h' tk acc hk hacc => ?_
      refine hQ _ _ (es.map (·.1)) (kvs.map fun p => kV p.1) (I.kept hk) rfl h1 ?_
      -- the keys' values
      have hl : acc.toList.length = kvs.length := by rw [Array.length_toList, hacc.1, rel.length]
      have main : ∀ (n : Nat) (us : List Value) (ks : List (Key × V)), us.length = ks.length → (∀ (j : Nat) (v : Value), us[j]? = some v → ∃ p, ks[j]? = some p ∧ keyIs p.1 v = true) → Vals (ks.map fun p => kV p.1) us := by
        intro n us
        induction us with
        | nil =>
          intro ks hl _
          cases ks with
          | nil => exact .nil
          | cons _ _ => cases hl
        | cons u us ih =>
          intro ks hl h
          cases ks with
          | nil => cases hl
          | cons p ks =>
            refine .cons ?_ (ih ks (by simpa using hl) fun j v e => h (j + 1) v (by simpa using e))
            obtain ⟨p', e1, e2⟩ := h 0 u rfl
            simp only [List.getElem?_cons_zero, Option.some.injEq] at e1
            subst e1
            rcases keyIs_shape e2 with ⟨i, t, ek, ev⟩ | ⟨y, t, ek, ev⟩
            · show RelV (kV p.1) u
              rw [ek]; exact ⟨t, ev⟩
            · show RelV (kV p.1) u
              rw [ek]; exact ⟨t, ev⟩
      refine main 0 acc.toList kvs hl fun j v e => ?_
      obtain ⟨k, x, e1, e2⟩ := hacc.2 j v (by rw [← Array.getElem?_toList]; exact e)
      have hk' := rel.keys
      have e3 : (vs.map (·.1))[j]? = some k := by rw [List.getElem?_map, e1]; rfl
      rw [← hk', List.getElem?_map] at e3
      cases e4 : kvs[j]? with
      | none => rw [e4] at e3; cases e3
      | some p' =>
        rw [e4] at e3
        cases e3
        exact ⟨p', rfl, e2⟩
    · subst e
      exact q _ _ _ (Al.lst (G := gx X ca) hv nl)
  unfold sortS at e
  split at e
  · rename_i es
    split at e
    · rename_i hc
      rw [Bool.and_eq_true] at hc
      cases e
      obtain ⟨F, ha⟩ := ha
      cases ha with
      | dct e1 hx nd ne => exact absurd (all_nkey hx hc.1) ne
      | dic e1 h1 h2 nd =>
        cases rx
        rename_i p kvs
        exact dicts es _ kvs (.inl e1) h1 hc.2 q
    · cases e
  · rename_i xs
    split at e
    · rename_i hok
      cases e
      obtain ⟨F, ha⟩ := ha
      cases ha with
      | set e1 =>
        obtain ⟨x, _⟩ := I.hok _ _ e1
        obtain ⟨o, es, ep, t, ⟨h1, h2, h3⟩, g, pm, nd, hb, hf, hr, hl⟩ := x
        cases rx
        refine sorted_src (Z := Z) I hu (fun ds' => ∃ ys : List Str, ds' = ys.map PyData.str ∧ ys.Perm xs) (fun ds' ⟨ys, e, p⟩ => by rw [e]; exact sortOk_perm p hok) (fun E Q' hQ => ?_) fun ds' ws l ⟨ys, e, p⟩ nl hv => ?_
        · refine collect_set (A := X.A.in1) (I.ok.hd hcalm) ⟨o, h1, h2.1, h3⟩ hf hb hr hl fun s' out k1 _ g1 o1 pm2 => ?_
          obtain ⟨ys, hys, hp⟩ : ∃ ys : List Str, StrsAre out ys ∧ ys.Perm xs := by
            have key : ∀ out : List Value, (∀ v ∈ out, ∃ x tk, v = Value.str x tk) → StrsAre out (out.map fun v => txt (0, v)) := by
              intro out
              induction out with
              | nil => intro _; exact .nil
              | cons v r ih =>
                intro h
                obtain ⟨x, tk, rfl⟩ := h v List.mem_cons_self
                exact .cons x tk (ih fun v hv => h v (List.mem_cons_of_mem _ hv))
            refine ⟨out.map fun v => txt (0, v), key out fun v hv => ?_, ?_⟩
            · obtain ⟨e, he, q⟩ := List.mem_map.mp (pm2.mem_iff.mp hv)
              obtain ⟨x, tk, rfl⟩ := g e he
              exact ⟨x, tk, q.symm⟩
            · refine (pm2.map _).trans ?_
              rw [List.map_map]
              exact pm
          have I1 : Inv X pins σ H s' := I.call' (ch := []) o1 (Un.kept k1) (I.hok.kept k1) (by rw [g1]; exact I.bare) (fun _ z => nomatch z)
          refine hQ s' out _ _ I1 ⟨ys, rfl, hp⟩ ?_ (vals_of_strs hys)
          have dz : ∀ ys : List Str, DzA Z X.K H (ys.map PyData.str) (ys.map V.str) := by
            intro ys
            induction ys with
            | nil => exact .nil
            | cons y ys ih => exact .cons (.str y) ih
          exact dz ys
        · subst e
          rw [sortD_perm p] at hv
          exact q _ _ _ (Al.lst (G := gx X ca) hv nl)
    · cases e
  · rename_i es
    split at e
    · rename_i hc
      rw [Bool.and_eq_true] at hc
      cases e
      have ha := rb_val ha
      cases ha with
      | dic e1 nd h1 h2 =>
        cases rx
        exact dicts es _ _ (.inr ⟨_, e1⟩) h1 hc.2 q
    · cases e
  · split at e
    · rename_i ds e1
      exact seqs ds e1 e
    · cases e
end
end Eng
set_option maxHeartbeats 3200000
/-! The engine, part 7: sets of texts: set(xs) of a list or a tuple of texts, its length, sorted. -/
namespace Eng
open PySem PySem.Spec L2
open PyProof.Rows hiding St

/-- a text put to those that have been met -/
def addT (xs : List Str) (k : Str) : List Str := if k ∈ xs then xs else xs ++ [k]
/-- the texts met, each once -/
def metT (ys : List Str) : List Str := ys.foldl addT []
theorem addT_nodup {xs : List Str} {k : Str} (h : xs.Nodup) : (addT xs k).Nodup := by
  unfold addT
  split
  · exact h
  · rename_i hk
    exact List.nodup_append.mpr ⟨h, by simp, fun a ha b hb e => by
      rw [List.mem_singleton] at hb
      subst hb
      subst e
      exact hk ha⟩
theorem mem_addT {xs : List Str} {k j : Str} : j ∈ addT xs k ↔ j ∈ xs ∨ j = k := by
  unfold addT
  split
  · rename_i hk
    exact ⟨.inl, fun h => h.elim id fun e => e ▸ hk⟩
  · rw [List.mem_append, List.mem_singleton]
theorem foldT_nodup : ∀ (ys xs : List Str), xs.Nodup → (ys.foldl addT xs).Nodup
  | [], _, h => h
  | _ :: ys, _, h => foldT_nodup ys _ (addT_nodup h)
theorem mem_foldT : ∀ (ys xs : List Str) {j : Str}, j ∈ ys.foldl addT xs ↔ j ∈ xs ∨ j ∈ ys
  | [], xs, j => by simp
  | y :: ys, xs, j => by
    rw [List.foldl_cons, mem_foldT ys, mem_addT, List.mem_cons, or_assoc]
theorem metT_nodup (ys : List Str) : (metT ys).Nodup := foldT_nodup ys [] List.nodup_nil
theorem mem_metT {ys : List Str} {j : Str} : j ∈ metT ys ↔ j ∈ ys := by
  unfold metT
  rw [mem_foldT]
  simp
section
variable {P : Program} {w : World} {A : Around} {E : Value → Shared → Prop} {s : Shared} {a : Addr} {xs : List Str}
theorem SetT.at {h h' : Heap} (x : SetT w h a xs) (k : ∀ o, h.get? a = some o → h'.get? a = some o) : SetT w h' a xs := by
  obtain ⟨o, es, ep, t, ⟨h1, h2⟩, r⟩ := x
  exact ⟨o, es, ep, t, ⟨k o h1, h2⟩, r⟩
end
end Eng
set_option maxHeartbeats 3200000
/-! The engine, part 8: set(xs), len, sorted. -/
namespace Eng
open PySem PySem.Spec L2
open PyProof.Rows hiding St

/-- a new, empty set -/
def noSet (w : World) : Obj := { cls := .type "set", dict := none, data := .set #[] 0 (.fresh 0 0 (!w.params.followText "set-order")) }
theorem SetT.empty {w : World} {h : Heap} {a : Addr} (e : h.get? a = some (noSet w)) : SetT w h a [] :=
  ⟨_, #[], 0, _, ⟨e, ⟨rfl, rfl, rfl⟩, rfl⟩, fun e he => (by cases he), List.Perm.refl _, List.nodup_nil, by decide, rfl, List.Pairwise.nil, by
    show _ ∨ (!w.params.followText "set-order") = true
    cases w.params.followText "set-order"
    · exact .inr rfl
    · exact .inl rfl⟩
section
variable {P : Program} {w : World} {A : Around} {E : Value → Shared → Prop} {s : Shared}
end
end Eng
set_option maxHeartbeats 3200000
/-! The engine, part 8: set(xs), len, sorted. -/
namespace Eng
open PySem PySem.Spec L2
open PyProof.Rows hiding St

section
variable {P : Program} {w : World} {A : Around} {E : Value → Shared → Prop} {s : Shared}
end
end Eng
set_option maxHeartbeats 1000000
/-! The engine, part 9: slots that change, values handed over, displays, tests. -/
namespace Eng
open PySem PySem.Spec L2
open PyProof.Rows hiding St

/-! ### one slot of the state -/
inductive RoSl (G : Gx) (Z : Zs) (H : Hp) : Sl → Option V → List Addr → Prop
  | no {x : Option V} : RoSl G Z H none x []
  | yes {p : Bool} {o : O} {v : V} {F : List Addr} (h : Ro G Z H o v F) : RoSl G Z H (some (p, o)) (some v) F
section
variable {G : Gx} {Z : Zs} {H : Hp}
theorem RoS.split : ∀ {ρ : En} {σ : L2.St} {L : List Addr} {i : Nat} {sl : Sl}, RoS G Z H ρ σ L → ρ[i]? = some sl → ∃ L1 F L2 x, L = L1 ++ (F ++ L2) ∧ σ[i]? = some x ∧ RoSl G Z H sl x F ∧
    ∀ {Z' : Zs} {H' : Hp} {sl' : Sl} {x' : Option V} {F' : List Addr}, Kp Z G.K H Z' H' → (∀ a ∈ L1 ++ L2, ∀ u, H a = some u → H' a = some u) → RoSl G Z' H' sl' x' F' → RoS G Z' H' (ρ.set i sl') (σ.set i x') (L1 ++ (F' ++ L2))
  | _, _, _, _, _, .emp, e => by simp at e
  | _, _, _, 0, sl, .no (x := x) (L := L) t, e => by
    simp only [List.getElem?_cons_zero, Option.some.injEq] at e
    subst e
    refine ⟨[], [], L, x, rfl, rfl, .no, fun {Z' H' sl' x' F'} k hk r => ?_⟩
    have t' := t.kp k hk
    cases r with
    | no => exact .no t'
    | yes h => show RoS G Z' H' _ _ (F' ++ L); exact .yes h t'
  | _, _, _, 0, sl, .yes (v := v) (F := F) (L := L) h t, e => by
    simp only [List.getElem?_cons_zero, Option.some.injEq] at e
    subst e
    refine ⟨[], F, L, some v, rfl, rfl, .yes h, fun {Z' H' sl' x' F'} k hk r => ?_⟩
    have t' := t.kp k hk
    cases r with
    | no => exact .no t'
    | yes h => show RoS G Z' H' _ _ (F' ++ L); exact .yes h t'
  | _, _, _, i + 1, sl, .no t, e => by
    obtain ⟨L1, F, L2, x, rfl, e2, h, put⟩ := RoS.split (i := i) t (by simpa using e)
    exact ⟨L1, F, L2, x, rfl, by simpa using e2, h, fun k hk r => .no (put k hk r)⟩
  | _, _, _, i + 1, sl, .yes (F := F0) h0 t, e => by
    obtain ⟨L1, F, L2, x, rfl, e2, h, put⟩ := RoS.split (i := i) t (by simpa using e)
    refine ⟨F0 ++ L1, F, L2, x, by rw [List.append_assoc], by simpa using e2, h, fun k hk r => ?_⟩
    rw [List.append_assoc]
    refine .yes (h0.kp k fun a ha => hk a ?_) (put k (fun a ha => hk a ?_) r)
    · rw [List.append_assoc]; exact List.mem_append_left _ ha
    · rw [List.append_assoc]; exact List.mem_append_right _ ha
end

section
variable {θ : Nat → V} {G : Gx} {Z : Zs} {H : Hp} {ρ : En} {σ : L2.St} {L : List Addr} {i : Nat} {sl : Sl}
/-- a slot is stored anew: L1, L2 stand aside -/
theorem Rep.put (r : Rep θ G Z H ρ σ L) (e : ρ[i]? = some sl) : ∃ L1 F L2 x, L = L1 ++ (F ++ L2) ∧ σ[i]? = some x ∧ RoSl G Z H sl x F ∧
    ∀ {Z' : Zs} {H' : Hp} {sl' : Sl} {x' : Option V} {F' : List Addr}, Kp Z G.K H Z' H' → (∀ a ∈ L1 ++ L2, ∀ u, H a = some u → H' a = some u) → RoSl G Z' H' sl' x' F' → F'.Nodup → (∀ a ∈ F', a ∉ L1 ++ L2) → (∀ a ∈ F', ¬ Z' a) → (∀ a ∈ L1 ++ L2, ¬ Z' a) →
      (∀ a, Z' a → H' a ≠ none) → (∀ o, sl' = some (true, o) → x' = some (θ i)) → Rep θ G Z' H' (ρ.set i sl') (σ.set i x') (L1 ++ (F' ++ L2)) := by
  obtain ⟨L1, F, L2, x, rfl, e2, h, put⟩ := r.sl.split e
  refine ⟨L1, F, L2, x, rfl, e2, h, fun {Z' H' sl' x' F'} k hk rs ndF nF zF zL zd hp => ⟨put k hk rs, ?_, fun a ha => ?_, zd, fun j o ej => ?_⟩⟩
  · have n := List.nodup_append.mp r.nd
    have n2 := List.nodup_append.mp n.2.1
    refine List.nodup_append.mpr ⟨n.1, List.nodup_append.mpr ⟨ndF, n2.2.1, fun a ha b hb q => nF a ha (List.mem_append_right _ (q ▸ hb))⟩, fun a ha b hb q => ?_⟩
    rcases List.mem_append.mp hb with hb | hb
    · exact nF b hb (List.mem_append_left _ (q ▸ ha))
    · exact n.2.2 a ha b (List.mem_append_right _ hb) q
  · rcases List.mem_append.mp ha with ha | ha
    · exact zL a (List.mem_append_left _ ha)
    · rcases List.mem_append.mp ha with ha | ha
      · exact zF a ha
      · exact zL a (List.mem_append_right _ ha)
  · by_cases q : i = j
    · subst q
      have li : i < ρ.length := (List.getElem?_eq_some_iff.mp e).1
      have ls : i < σ.length := (List.getElem?_eq_some_iff.mp e2).1
      rw [List.getElem?_set_self li] at ej
      rw [List.getElem?_set_self ls, hp o (Option.some.inj ej)]
    · rw [List.getElem?_set_ne q] at ej ⊢
      exact r.pn j o ej
theorem Kp.refl {K : PySem.W.Frag} : Kp Z K H Z H := ⟨fun _ h => h, fun _ _ _ h => h, fun _ _ h => h, fun _ _ h => h, fun _ _ _ h => h⟩
theorem set_back {α : Type} {l : List α} {i : Nat} {x : α} (e : l[i]? = some x) : l.set i x = l := by
  obtain ⟨h, e⟩ := List.getElem?_eq_some_iff.mp e
  rw [← e]
  exact List.set_getElem_self h
end

/-! ### a name's list is frozen; operands handed over -/
def frz (ρ : En) (i : Nat) : En := match ρ[i]? with
  | some (some (p, .lst ds)) => ρ.set i (some (p, .val (.list ds)))
  | _ => ρ
/-- an operand is handed over -/
def take (ρ : En) : Opd → Option (O × En)
  | .tmp o => some (o, ρ)
  | .nm i => match slotO ρ i with
    | some (.val d) => some (.val d, ρ)
    | some (.scr ns) => some (.scr ns, ρ)
    | some (.lst ds) => some (.val (.list ds), frz ρ i)
    | _ => none
/-- .. as a datum -/
def give (ρ : En) (p : Opd) : Option (D × En) := match take ρ p with
  | some (.val d, ρ') => some (d, ρ')
  | some (.lst ds, ρ') => some (.list ds, ρ')
  | _ => none
def gives (ρ : En) : List Opd → Option (List D × En)
  | [] => some ([], ρ)
  | p :: ps => match give ρ p with
    | some (d, ρ1) => match gives ρ1 ps with
      | some (ds, ρ2) => some (d :: ds, ρ2)
      | none => none
    | none => none

section
variable {θ : Nat → V} {G : Gx} {Z Z1 Z2 : Zs} {H H1 H2 : Hp} {σ : L2.St} {L L1 L2' F F1 F2 : List Addr} {ps qs : List Opd} {vs ws : List V} {ρ ρ1 : En} {v : V} {i : Nat}
theorem Held.carryM (h : Held G Z1 H1 σ L1 ps vs F1) (mu : ∀ a ∈ L1, Mut (H1 a)) (dz : ∀ a ∈ L1, ¬ Z1 a) (s : Step Z1 L1 H1 Z2 L2' H2) (nd : L2'.Nodup) : Held G Z2 H2 σ L2' ps vs F1 := by
  have mF := h.ok.mut
  have nL : ∀ a ∈ F1, a ∉ L1 := fun a ha hl => (List.nodup_append.mp h.nd).2.2 a ha a hl rfl
  refine ⟨h.ok.kp (s.kp mu dz) fun a ha u e => s.keep a u e (nL a ha), List.nodup_append.mpr ⟨(List.nodup_append.mp h.nd).1, nd, fun a ha b hb e => ?_⟩, fun a ha z => ?_⟩
  · subst e
    rcases s.lnew a hb with q | q
    · exact nL a ha q
    · exact mut_some (mF a ha) q
  · rcases s.znew a z with q | q | q
    · exact h.dis a ha q
    · exact nL a ha q
    · exact mut_some (mF a ha) q
/-- more is frozen -/
def ZAdd (Z : Zs) (a : Addr) : Zs := fun b => Z b ∨ b = a
theorem kp_add {K : PySem.W.Frag} {a : Addr} : Kp Z K H (ZAdd Z a) H := ⟨fun _ h => .inl h, fun _ _ _ h => h, fun _ _ h => h, fun _ _ h => h, fun _ _ _ h => h⟩
theorem step_add {a : Addr} (h : a ∈ L) (hs : ∀ b ∈ L1, b ∈ L) : Step Z L H (ZAdd Z a) L1 H := ⟨fun _ _ e _ => e, fun _ z => .inl z, fun b z => by
  rcases z with z | z
  · exact .inl z
  · exact .inr (.inl (z ▸ h)), fun b hb => .inl (hs b hb)⟩
theorem Ro.single {ds : List D} (h : Ro G Z H (.lst ds) v F) : ∃ a xs, v = .ref a ∧ F = [a] ∧ H a = some (.lst xs) ∧ DzA Z G.K H ds xs := by
  cases h with
  | lst e h => exact ⟨_, _, rfl, rfl, e, h⟩
theorem frz_eq {p : Bool} {ds : List D} (e : ρ[i]? = some (some (p, .lst ds))) : frz ρ i = ρ.set i (some (p, .val (.list ds))) := by
  unfold frz
  rw [e]
theorem Rep.frz (r : Rep θ G Z H ρ σ L) {p : Bool} {ds : List D} (e : ρ[i]? = some (some (p, .lst ds))) : ∃ Z' L' v, σ[i]? = some (some v) ∧ Rep θ G Z' H (ρ.set i (some (p, .val (.list ds)))) σ L' ∧ Dz Z' G.K H (.list ds) v ∧ Step Z L H Z' L' H ∧ ∀ b ∈ L', b ∈ L := by
  obtain ⟨L1, F, L2, x, rfl, e2, h, put⟩ := r.put e
  cases h with
  | yes h =>
    obtain ⟨a, xs, rfl, rfl, ea, dz⟩ := h.single
    have n := List.nodup_append.mp r.nd
    have n2 := List.nodup_append.mp n.2.1
    have ha : a ∈ L1 ++ ([a] ++ L2) := List.mem_append_right _ (List.mem_append_left _ List.mem_cons_self)
    have dz' : Dz (ZAdd Z a) G.K H (.list ds) (.ref a) := .lst (.inr rfl) ea (dz.kp kp_add)
    have sub : ∀ b ∈ L1 ++ ([] ++ L2), b ∈ L1 ++ ([a] ++ L2) := fun b hb => by
      rcases List.mem_append.mp hb with hb | hb
      · exact List.mem_append_left _ hb
      · exact List.mem_append_right _ (List.mem_append_right _ hb)
    have nA : ∀ b ∈ L1 ++ L2, b ≠ a := fun b hb q => by
      subst q
      rcases List.mem_append.mp hb with hb | hb
      · exact n.2.2 b hb b (List.mem_append_left _ List.mem_cons_self) rfl
      · exact n2.2.2 b List.mem_cons_self b hb rfl
    have rp := put (Z' := ZAdd Z a) (H' := H) (sl' := some (p, .val (.list ds))) (x' := some (.ref a)) (F' := []) kp_add (fun _ _ _ q => q) (.yes (.val dz')) List.nodup_nil (fun _ q => by cases q) (fun _ q => by cases q)
      (fun b hb z => by
        rcases z with z | z
        · exact r.dis b (sub b (by simpa using hb)) z
        · exact nA b hb z)
      (fun b z => by
        rcases z with z | z
        · exact r.zd b z
        · subst z; rw [ea]; intro q; cases q)
      (fun o q => by
        cases q
        have := r.pn i _ e
        rw [e2] at this
        exact Option.some.inj this)
    rw [set_back e2] at rp
    exact ⟨ZAdd Z a, _, _, e2, rp, dz', step_add ha sub, sub⟩
theorem Held.one (h : Held G Z H σ L [.tmp o] [v] F) : Ro G Z H o v F := by
  have h1 := h.ok
  cases h1 with
  | tmp h5 t5 =>
    cases t5
    rw [List.append_nil]
    exact h5
theorem Held.nm {j : Nat} (h : Held G Z H σ L [.nm j] [v] F) : F = [] ∧ σ[j]? = some (some v) := by
  have h1 := h.ok
  cases h1 with
  | nm h5 t5 =>
    cases t5
    exact ⟨rfl, h5⟩
theorem Held.tmp {o : O} (h : Ro G Z H o v F) (nd : (F ++ L).Nodup) (dis : ∀ a ∈ F, ¬ Z a) : Held G Z H σ L [.tmp o] [v] F := by
  have h3 : OpsOk G Z H σ [.tmp o] [v] (F ++ []) := .tmp h .nil
  rw [List.append_nil] at h3
  exact ⟨h3, nd, dis⟩
/-- an operand is handed over -/
theorem take_ok {p : Opd} {o : O} {ρ' : En} (r : Rep θ G Z H ρ σ L) (h : Held G Z H σ L [p] [v] F) (e : take ρ p = some (o, ρ')) :
    ∃ Z' L' F', Rep θ G Z' H ρ' σ L' ∧ Held G Z' H σ L' [.tmp o] [v] F' ∧ Step Z (F ++ L) H Z' (F' ++ L') H := by
  cases p with
  | tmp o' =>
    simp only [take, Option.some.injEq, Prod.mk.injEq] at e
    obtain ⟨rfl, rfl⟩ := e
    exact ⟨Z, L, F, r, h, Step.refl⟩
  | nm j =>
    obtain ⟨rfl, hv⟩ := h.nm
    simp only [take] at e
    split at e
    · rename_i d e1
      cases e
      obtain ⟨F0, h0⟩ := r.look e1 hv
      cases h0 with
      | val h0 => exact ⟨Z, L, [], r, .tmp (.val h0) r.nd (fun _ q => by cases q), Step.refl⟩
    · rename_i ns e1
      cases e
      obtain ⟨F0, h0⟩ := r.look e1 hv
      cases h0 with
      | scr h0 => exact ⟨Z, L, [], r, .tmp (.scr h0) r.nd (fun _ q => by cases q), Step.refl⟩
    · rename_i ds e1
      cases e
      obtain ⟨p, e1⟩ := slotO_some e1
      obtain ⟨Z', L', v', q1, q2, q3, q4, _⟩ := r.frz e1
      rw [hv] at q1
      cases q1
      rw [frz_eq e1]
      exact ⟨Z', L', [], q2, .tmp (.val q3) q2.nd (fun _ q => by cases q), q4⟩
    · cases e
theorem tmp_frz {ds : List D} (r : Rep θ G Z H ρ σ L) (h : Held G Z H σ L [.tmp (.lst ds)] [v] F) : ∃ Z', Rep θ G Z' H ρ σ L ∧ Dz Z' G.K H (.list ds) v ∧ Step Z (F ++ L) H Z' L H := by
  obtain ⟨a, xs, rfl, rfl, ea, dz⟩ := h.one.single
  have nL : a ∉ L := fun hl => (List.nodup_append.mp h.nd).2.2 a List.mem_cons_self a hl rfl
  refine ⟨ZAdd Z a, ⟨r.sl.kp kp_add fun _ _ _ q => q, r.nd, fun b hb z => ?_, fun b z => ?_, r.pn⟩, .lst (.inr rfl) ea (dz.kp kp_add), step_add (by simp) fun b hb => List.mem_append_right _ hb⟩
  · rcases z with z | z
    · exact r.dis b hb z
    · subst z; exact nL hb
  · rcases z with z | z
    · exact r.zd b z
    · subst z; rw [ea]; intro q; cases q
theorem give_ok {p : Opd} {d : D} {ρ' : En} (r : Rep θ G Z H ρ σ L) (h : Held G Z H σ L [p] [v] F) (e : give ρ p = some (d, ρ')) :
    ∃ Z' L', Rep θ G Z' H ρ' σ L' ∧ Dz Z' G.K H d v ∧ Step Z (F ++ L) H Z' L' H := by
  unfold give at e
  split at e
  · rename_i d' ρ1 e1
    cases e
    obtain ⟨Z', L', F', r1, h1, s1⟩ := take_ok r h e1
    have h2 := h1.one
    cases h2 with
    | val h2 => exact ⟨Z', L', r1, h2, s1⟩
  · rename_i ds ρ1 e1
    cases e
    obtain ⟨Z', L', F', r1, h1, s1⟩ := take_ok r h e1
    obtain ⟨Z2, r2, d2, s2⟩ := tmp_frz r1 h1
    exact ⟨Z2, L', r2, d2, s1.trans s2⟩
  · cases e
theorem OpsOk.cons_split {p : Opd} (h : OpsOk G Z H σ (p :: ps) (v :: vs) F) : ∃ F1 F2, F = F1 ++ F2 ∧ OpsOk G Z H σ [p] [v] F1 ∧ OpsOk G Z H σ ps vs F2 := by
  cases h with
  | tmp h t => exact ⟨_, _, rfl, by have h3 : OpsOk G Z H σ [.tmp _] [v] (_ ++ []) := .tmp h .nil
                                    rw [List.append_nil] at h3
                                    exact h3, t⟩
  | nm h t => exact ⟨[], _, rfl, .nm h .nil, t⟩
theorem Held.mut (h : Held G Z H σ L ps vs F) (r : Rep θ G Z H ρ σ L) : (∀ a ∈ F ++ L, Mut (H a)) ∧ ∀ a ∈ F ++ L, ¬ Z a :=
  ⟨fun a ha => (List.mem_append.mp ha).elim (h.ok.mut a) (r.sl.mut a), fun a ha => (List.mem_append.mp ha).elim (h.dis a) (r.dis a)⟩
theorem gives_ok : ∀ {ps : List Opd} {vs : List V} {ds : List D} {ρ ρ' : En} {Z : Zs} {L F : List Addr}, Rep θ G Z H ρ σ L → Held G Z H σ L ps vs F → gives ρ ps = some (ds, ρ') →
    ∃ Z' L', Rep θ G Z' H ρ' σ L' ∧ DzA Z' G.K H ds vs ∧ Step Z (F ++ L) H Z' L' H
  | [], vs, ds, ρ, ρ', Z, L, F, r, h, e => by
    simp only [gives, Option.some.injEq, Prod.mk.injEq] at e
    obtain ⟨rfl, rfl⟩ := e
    have h1 := h.ok
    cases h1
    exact ⟨Z, L, r, .nil, Step.refl⟩
  | p :: ps, vs, ds, ρ, ρ', Z, L, F, r, h, e => by
    unfold gives at e
    split at e
    · rename_i d ρ1 e1
      split at e
      · rename_i ds' ρ2 e2
        cases e
        have ho := h.ok
        cases vs with
        | nil => cases ho
        | cons v vs =>
          obtain ⟨F1, F2, rfl, o1, o2⟩ := ho.cons_split
          have nd := h.nd
          rw [List.append_assoc] at nd
          have n1 := List.nodup_append.mp nd
          have n2 := List.nodup_append.mp n1.2.1
          have h1 : Held G Z H σ L [p] [v] F1 := ⟨o1, List.nodup_append.mpr ⟨n1.1, r.nd, fun a ha b hb => n1.2.2 a ha b (List.mem_append_right _ hb)⟩, fun a ha => h.dis a (List.mem_append_left _ ha)⟩
          have h2 : Held G Z H σ (F1 ++ L) ps vs F2 := ⟨o2, List.nodup_append.mpr ⟨n2.1, h1.nd, fun a ha b hb q => (List.mem_append.mp hb).elim (fun hb => n1.2.2 b hb a (List.mem_append_left _ ha) q.symm) (fun hb => n2.2.2 a ha b hb q)⟩, fun a ha => h.dis a (List.mem_append_right _ ha)⟩
          obtain ⟨Z1, L1, r1, d1, s1⟩ := give_ok r h1 e1
          obtain ⟨mu, dz⟩ := h1.mut r
          have h3 := h2.carryM mu dz s1 r1.nd
          obtain ⟨Z2, L2, r2, d2, s2⟩ := gives_ok r1 h3 e2
          obtain ⟨mu3, dz3⟩ := h3.mut r1
          have s1' : Step Z (F1 ++ F2 ++ L) H Z1 (F2 ++ L1) H := ⟨fun a o q _ => q, s1.zmono, fun a z => by
            rcases s1.znew a z with q | q | q
            · exact .inl q
            · exact .inr (.inl ((List.mem_append.mp q).elim (fun q => List.mem_append_left _ (List.mem_append_left _ q)) (fun q => List.mem_append_right _ q)))
            · exact .inr (.inr q), fun a ha => by
            rcases List.mem_append.mp ha with ha | ha
            · exact .inl (List.mem_append_left _ (List.mem_append_right _ ha))
            · rcases s1.lnew a ha with q | q
              · exact .inl ((List.mem_append.mp q).elim (fun q => List.mem_append_left _ (List.mem_append_left _ q)) (fun q => List.mem_append_right _ q))
              · exact .inr q⟩
          exact ⟨Z2, L2, r2, .cons (d1.kp (s2.kp mu3 dz3)) d2, s1'.trans s2⟩
      · cases e
    · cases e
end
end Eng
set_option maxHeartbeats 1000000
/-! The engine, part 10: displays, tests, values by truth, slices, methods that tell. -/
namespace Eng
open PySem PySem.Spec L2
open PyProof.Rows hiding St

section
variable {X : Cx} {ca : Nat → Addr} {W : WX} {f g h : ES} {fs : AS} {t u : TS'}
theorem RdA.mono {σ : L2.St} {H : Hp} {Q Q' : List V → Hp → Prop} (h : RdA X ca W fs σ H Q) (i : ∀ v H, Q v H → Q' v H) : RdA X ca W fs σ H Q' := by
  obtain ⟨θ, Z, ρ, L, r, q⟩ := h
  refine ⟨θ, Z, ρ, L, r, ?_⟩
  cases e : fs ρ with
  | stuck => rw [e] at q; exact q
  | exc c ρ1 => rw [e] at q; exact q
  | ok p ρ1 => rw [e] at q; exact fun Z1 H1 L1 F v r1 h1 s1 => i _ _ (q Z1 H1 L1 F v r1 h1 s1)
theorem RdT.mono {σ : L2.St} {H : Hp} {Q Q' : Bool → Hp → Prop} (h : RdT X ca W t σ H Q) (i : ∀ v H, Q v H → Q' v H) : RdT X ca W t σ H Q' := by
  obtain ⟨θ, Z, ρ, L, r, q⟩ := h
  refine ⟨θ, Z, ρ, L, r, ?_⟩
  cases e : t ρ with
  | stuck => rw [e] at q; exact q
  | exc c ρ1 => rw [e] at q; exact q
  | ok p ρ1 => rw [e] at q; exact fun Z1 H1 L1 r1 s1 => i _ _ (q Z1 H1 L1 r1 s1)
variable {θ : Nat → V} {Z Z1 : Zs} {L L1 F : List Addr} {H H1 : Hp} {σ : L2.St} {ρ ρ1 : En}
theorem PoE.step {Q : VK} {o : Out Opd} (q : PoE X ca W θ Z L H σ Q o) (s : Step Z L H Z1 L1 H1) : PoE X ca W θ Z1 L1 H1 σ Q o := by
  cases o with
  | stuck => exact q
  | exc c ρ1 => exact fun Z' H' L' r s' => q Z' H' L' r (s.trans s')
  | ok p ρ1 => exact fun Z' H' L' F v r h s' => q Z' H' L' F v r h (s.trans s')
theorem PoT.step {Q : Bool → Hp → Prop} {o : Out Bool} (q : PoT X ca W θ Z L H σ Q o) (s : Step Z L H Z1 L1 H1) : PoT X ca W θ Z1 L1 H1 σ Q o := by
  cases o with
  | stuck => exact q
  | exc c ρ1 => exact fun Z' H' L' r s' => q Z' H' L' r (s.trans s')
  | ok p ρ1 => exact fun Z' H' L' r s' => q Z' H' L' r (s.trans s')
theorem PoA.step {Q : List V → Hp → Prop} {o : Out (List Opd)} (q : PoA X ca W θ Z L H σ Q o) (s : Step Z L H Z1 L1 H1) : PoA X ca W θ Z1 L1 H1 σ Q o := by
  cases o with
  | stuck => exact q
  | exc c ρ1 => exact fun Z' H' L' r s' => q Z' H' L' r (s.trans s')
  | ok p ρ1 => exact fun Z' H' L' F v r h s' => q Z' H' L' F v r h (s.trans s')
/-- an expression, then what comes behind -/
theorem rd_bindE {α : Type} {k : Opd → En → Out α} {P : Out α → Prop} {Q : VK} (r : Rep θ (gx X ca) Z H ρ σ L) (hs : P .stuck → False) (hx : ∀ c ρ', P (.exc c ρ') → ∀ Z' H' L', Rep θ (gx X ca) Z' H' ρ' σ L' → Step Z L H Z' L' H' → W (.ref (ca c)) none σ H')
    (q : P ((f ρ).bind k)) (go : ∀ p ρ1 Z1 H1 L1 F v, P (k p ρ1) → Rep θ (gx X ca) Z1 H1 ρ1 σ L1 → Held (gx X ca) Z1 H1 σ L1 [p] [v] F → Step Z L H Z1 (F ++ L1) H1 → Q v H1) : RdE X ca W f σ H Q := by
  refine ⟨θ, Z, ρ, L, r, ?_⟩
  cases e : f ρ with
  | stuck => rw [e] at q; exact (hs q).elim
  | exc c ρ1 => rw [e] at q; exact hx c ρ1 q
  | ok p ρ1 => rw [e] at q; exact fun Z1 H1 L1 F v r1 h1 s1 => go p ρ1 Z1 H1 L1 F v q r1 h1 s1
theorem rd_bindT {α : Type} {k : Bool → En → Out α} {P : Out α → Prop} {Q : Bool → Hp → Prop} (r : Rep θ (gx X ca) Z H ρ σ L) (hs : P .stuck → False) (hx : ∀ c ρ', P (.exc c ρ') → ∀ Z' H' L', Rep θ (gx X ca) Z' H' ρ' σ L' → Step Z L H Z' L' H' → W (.ref (ca c)) none σ H')
    (q : P ((t ρ).bind k)) (go : ∀ b ρ1 Z1 H1 L1, P (k b ρ1) → Rep θ (gx X ca) Z1 H1 ρ1 σ L1 → Step Z L H Z1 L1 H1 → Q b H1) : RdT X ca W t σ H Q := by
  refine ⟨θ, Z, ρ, L, r, ?_⟩
  cases e : t ρ with
  | stuck => rw [e] at q; exact (hs q).elim
  | exc c ρ1 => rw [e] at q; exact hx c ρ1 q
  | ok b ρ1 => rw [e] at q; exact fun Z1 H1 L1 r1 s1 => go b ρ1 Z1 H1 L1 q r1 s1

/-! ### displays -/
def fin1 (k : List D → Option O) (as : AS) : ES := fun ρ => (as ρ).bind fun ps ρ1 => match gives ρ1 ps with
  | some (ds, ρ2) => put ρ2 (k ds)
  | none => .stuck
def oLst (as : AS) : ES := fin1 (fun ds => if ds.length ≤ 1000 then some (.lst ds) else none) as
def oTup (as : AS) : ES := fin1 (fun ds => if ds.length ≤ 1000 then some (.val (.tuple ds)) else none) as
def oDic0 : ES := fun ρ => .ok (.tmp (.dic [])) ρ
theorem rd_fin1 {k : List D → Option O} {Q : VK} (h : RdE X ca W (fin1 k fs) σ H Q) : RdA X ca W fs σ H fun vs H1 => ∃ Z ds o, (∀ a, Z a → H1 a ≠ none) ∧ DzA Z X.K H1 ds vs ∧ k ds = some o ∧ ∀ v H' F, Al (gx X ca) Z H1 o v H' F → Q v H' := by
  obtain ⟨θ, Z, ρ, L, r, q⟩ := h
  refine ⟨θ, Z, ρ, L, r, ?_⟩
  unfold fin1 at q
  cases e : fs ρ with
  | stuck => rw [e] at q; exact q
  | exc c ρ1 => rw [e] at q; exact q
  | ok ps ρ1 =>
    rw [e] at q
    simp only [bind_ok] at q
    intro Z1 H1 L1 F vs r1 h1 s1
    cases e2 : gives ρ1 ps with
    | none => rw [e2] at q; exact q.elim
    | some dr =>
      obtain ⟨ds, ρ2⟩ := dr
      rw [e2] at q
      obtain ⟨Z2, L2, r2, d2, s2⟩ := gives_ok r1 h1 e2
      cases e3 : k ds with
      | none => simp only [e3, Eng.put] at q; exact q.elim
      | some o =>
        simp only [e3, Eng.put] at q
        exact ⟨Z2, ds, o, r2.zd, d2, e3, fun v H' F' x => q Z2 H' L2 F' v (x.rep r2) (x.held r2) ((s1.trans s2).trans x.step)⟩
theorem se_lst {es : List Expr} {pos : Pos} (ha : PA X es (RdA X ca W fs)) : PE X (.List es pos) (RdE X ca W (oLst fs)) := PE.imp (pe_lst ha) fun σ H Q h => (rd_fin1 h).mono fun vs H1 ⟨Z, ds, o, zd, dz, e, q⟩ => by
  split at e
  · rename_i hc
    cases e
    exact ⟨by rw [dz.length]; exact Nat.le_trans hc (by decide), fun p np => q _ _ _ (Al.lst (G := gx X ca) dz np)⟩
  · cases e
theorem se_tup {es : List Expr} {k : Nat} {pos : Pos} (ha : PA X es (RdA X ca W fs)) : PE X (.Tuple es k pos) (RdE X ca W (oTup fs)) := PE.imp (pe_tup ha) fun σ H Q h => (rd_fin1 h).mono fun vs H1 ⟨Z, ds, o, zd, dz, e, q⟩ => by
  split at e
  · rename_i hc
    cases e
    exact ⟨by rw [dz.length]; exact Nat.le_trans hc (by decide), fun p np => q _ _ _ (Al.tup (G := gx X ca) dz np)⟩
  · cases e
theorem Al.dic0 {p : Addr} (np : H p = none) : Al (gx X ca) Z H (.dic []) (.ref p) (upd H p (.dK [])) [p] :=
  ⟨same_new np, .dic upd_same .nil .nil List.nodup_nil, by simp, fun a ha => by
    rw [List.mem_singleton] at ha
    rw [ha]; exact np⟩
theorem se_dic0 {pos : Pos} : PE X (.Dict [] [] pos) (RdE X ca W oDic0) := PE.imp pe_dnewK fun σ H Q ⟨θ, Z, ρ, L, r, q⟩ => fun p np => by
  have x := Al.dic0 (X := X) (ca := ca) (Z := Z) np
  exact q Z _ L [p] _ (x.rep r) (x.held r) x.step

/-! ### tests -/
def tV (f : ES) : TS' := fun ρ => (f ρ).bind fun p ρ1 => match look ρ1 p with
  | some (.val (.bool b)) => .ok b ρ1
  | _ => .stuck
def tNotC (t : TS') : TS' := fun ρ => (t ρ).bind fun b ρ1 => .ok (!b) ρ1
def tAndC (t u : TS') : TS' := fun ρ => (t ρ).bind fun b ρ1 => if b = true then u ρ1 else .ok false ρ1
def tOrC (t u : TS') : TS' := fun ρ => (t ρ).bind fun b ρ1 => if b = true then .ok true ρ1 else u ρ1
def oT (t : TS') : ES := fun ρ => (t ρ).bind fun b ρ1 => .ok (.tmp (.val (.bool b))) ρ1
def oNot (f : ES) : ES := oT (tNotC (tV f))
def oAnd (f g : ES) : ES := fun ρ => (tV f ρ).bind fun b ρ1 => if b = true then g ρ1 else .ok (.tmp (.val (.bool false))) ρ1
def oOr (f g : ES) : ES := fun ρ => (tV f ρ).bind fun b ρ1 => if b = true then .ok (.tmp (.val (.bool true))) ρ1 else g ρ1
def oIf (t : TS') (f g : ES) : ES := fun ρ => (t ρ).bind fun b ρ1 => if b = true then f ρ1 else g ρ1
theorem look_ok {p : Opd} {o : O} {v : V} (r : Rep θ (gx X ca) Z H ρ σ L) (h : Held (gx X ca) Z H σ L [p] [v] F) (e : look ρ p = some o) : Rb (gx X ca) Z H o v := by
  have := h.ok.looks r (os := [o]) (by simp [looks, e])
  exact pair1 this
theorem out_tV (o : Out Opd) (P : Out Bool → Prop) (hs : P .stuck → False) (q : P (o.bind fun p ρ1 => match look ρ1 p with | some (.val (.bool b)) => .ok b ρ1 | _ => .stuck)) :
    (∃ p ρ1 b, o = .ok p ρ1 ∧ look ρ1 p = some (.val (.bool b)) ∧ P (.ok b ρ1)) ∨ ∃ c ρ1, o = .exc c ρ1 ∧ P (.exc c ρ1) := by
  cases o with
  | stuck => exact (hs q).elim
  | exc c ρ1 => exact .inr ⟨c, ρ1, rfl, q⟩
  | ok p ρ1 =>
    simp only [bind_ok] at q
    split at q
    · rename_i b e
      exact .inl ⟨p, ρ1, b, rfl, e, q⟩
    · exact (hs q).elim
theorem rd_tV {Q : Bool → Hp → Prop} (h : RdT X ca W (tV f) σ H Q) : RdE X ca W f σ H fun x H1 => ∃ k, x = .bl k ∧ Q k H1 := by
  obtain ⟨θ, Z, ρ, L, r, q⟩ := h
  refine ⟨θ, Z, ρ, L, r, ?_⟩
  rcases out_tV (f ρ) (PoT X ca W θ Z L H σ Q) (fun h => h) q with ⟨p, ρ1, b, e, e2, q⟩ | ⟨c, ρ1, e, q⟩
  · rw [e]
    intro Z1 H1 L1 F v r1 h1 s1
    exact ⟨b, rb_bl (look_ok r1 h1 e2), q Z1 H1 L1 r1 (s1.sub fun a h => List.mem_append_right _ h)⟩
  · rw [e]; exact q
theorem st_val {e : Expr} (h : PE X e (RdE X ca W f)) (he : ∀ whole, isTrue e X.env whole = (do let v ← whole; standAt e.pos; holding [v] (truthy v))) : PT X e (RdT X ca W (tV f)) := PT.imp (pt_val h he) fun σ H Q h => rd_tV h
theorem st_cmp {a b : Expr} {pos : Pos} {sem : O → O → Option O} {op : CmpOp} (ho : BinS X ca (compareOp op) sem) (ha : PE X a (RdE X ca W f)) (hb : PE X b (RdE X ca W g)) (hm : behindInMarks op b = false) : PT X (.Compare a [op] [b] pos) (RdT X ca W (tV (o2 sem f g))) :=
  PT.imp (pt_cmpR ho ha hb hm) fun σ H Q h => rd_o2 (rd_tV h)
theorem st_not {a : Expr} {pos : Pos} (h : PT X a (RdT X ca W t)) : PT X (.UnaryOp .Not a pos) (RdT X ca W (tNotC t)) := PT.imp (pt_not h) fun σ H Q ⟨θ, Z, ρ, L, r, q⟩ =>
  rd_bindT (P := PoT X ca W θ Z L H σ Q) r (fun h => h) (fun c ρ' h => h) q fun b ρ1 Z1 H1 L1 q r1 s1 => q Z1 H1 L1 r1 s1
theorem st_and1 {a : Expr} {pos : Pos} (h : PT X a (RdT X ca W t)) : PW X (.BoolOp .And [a] pos) (RdT X ca W t) := pw_and1 h
theorem st_or1 {a : Expr} {pos : Pos} (h : PT X a (RdT X ca W t)) : PW X (.BoolOp .Or [a] pos) (RdT X ca W t) := pw_or1 h
theorem st_and {a b : Expr} {rest : List Expr} {pos : Pos} (ha : PT X a (RdT X ca W t)) (hb : PW X (.BoolOp .And (b :: rest) pos) (RdT X ca W u)) : PW X (.BoolOp .And (a :: b :: rest) pos) (RdT X ca W (tAndC t u)) :=
  PW.imp (pw_and ha hb) fun σ H Q ⟨θ, Z, ρ, L, r, q⟩ => rd_bindT (P := PoT X ca W θ Z L H σ Q) r (fun h => h) (fun c ρ' h => h) q fun b ρ1 Z1 H1 L1 q r1 s1 => by
    cases b with
    | true => exact ⟨θ, Z1, ρ1, L1, r1, PoT.step (by simpa using q) s1⟩
    | false => exact (show PoT X ca W θ Z L H σ Q (.ok false ρ1) by simpa using q) Z1 H1 L1 r1 s1
theorem st_or {a b : Expr} {rest : List Expr} {pos : Pos} (ha : PT X a (RdT X ca W t)) (hb : PW X (.BoolOp .Or (b :: rest) pos) (RdT X ca W u)) : PW X (.BoolOp .Or (a :: b :: rest) pos) (RdT X ca W (tOrC t u)) :=
  PW.imp (pw_or ha hb) fun σ H Q ⟨θ, Z, ρ, L, r, q⟩ => rd_bindT (P := PoT X ca W θ Z L H σ Q) r (fun h => h) (fun c ρ' h => h) q fun b ρ1 Z1 H1 L1 q r1 s1 => by
    cases b with
    | true => exact (show PoT X ca W θ Z L H σ Q (.ok true ρ1) by simpa using q) Z1 H1 L1 r1 s1
    | false => exact ⟨θ, Z1, ρ1, L1, r1, PoT.step (by simpa using q) s1⟩
theorem fin_bool {Q : VK} {b : Bool} (q : PoE X ca W θ Z L H σ Q (.ok (.tmp (.val (.bool b))) ρ1)) (r1 : Rep θ (gx X ca) Z1 H1 ρ1 σ L1) (s1 : Step Z L H Z1 L1 H1) : Q (.bl b) H1 :=
  q Z1 H1 L1 [] (.bl b) r1 ((Al.val (G := gx X ca) (.bl b)).held r1) s1
theorem se_not {a : Expr} {pos : Pos} (h : PE X a (RdE X ca W f)) : PE X (.UnaryOp .Not a pos) (RdE X ca W (oNot f)) := PE.imp (pe_not h) fun σ H Q ⟨θ, Z, ρ, L, r, q⟩ => by
  refine rd_tV (f := f) ?_
  unfold oNot oT tNotC at q
  cases e : tV f ρ with
  | stuck => rw [e] at q; exact q.elim
  | exc c ρ1 => rw [e] at q; exact ⟨θ, Z, ρ, L, r, by rw [e]; exact q⟩
  | ok b ρ1 =>
    rw [e] at q
    exact ⟨θ, Z, ρ, L, r, by rw [e]; exact fun Z1 H1 L1 r1 s1 => fin_bool q r1 s1⟩
theorem se_one {op : BoolOp} {a : Expr} {pos : Pos} (h : PE X a (RdE X ca W f)) : PE X (.BoolOp op [a] pos) (RdE X ca W f) := pe_one h
theorem se_and {a b : Expr} {rest : List Expr} {pos : Pos} (ha : PE X a (RdE X ca W f)) (hb : PE X (.BoolOp .And (b :: rest) pos) (RdE X ca W g)) : PE X (.BoolOp .And (a :: b :: rest) pos) (RdE X ca W (oAnd f g)) :=
  PE.imp (pe_and ha hb) fun σ H Q ⟨θ, Z, ρ, L, r, q⟩ => by
    refine rd_tV (f := f) (rd_bindT (P := PoE X ca W θ Z L H σ Q) r (fun h => h) (fun c ρ' h => h) q fun b ρ1 Z1 H1 L1 q r1 s1 => ?_)
    cases b with
    | true => exact ⟨θ, Z1, ρ1, L1, r1, PoE.step (by simpa using q) s1⟩
    | false => exact fin_bool (by simpa using q) r1 s1
theorem se_if {c a b : Expr} {pos : Pos} (hc : PT X c (RdT X ca W t)) (ha : PE X a (RdE X ca W f)) (hb : PE X b (RdE X ca W g)) : PE X (.IfExp c a b pos) (RdE X ca W (oIf t f g)) :=
  PE.imp (pe_ifExp hc ha hb) fun σ H Q ⟨θ, Z, ρ, L, r, q⟩ => rd_bindT (P := PoE X ca W θ Z L H σ Q) r (fun h => h) (fun c ρ' h => h) q fun b ρ1 Z1 H1 L1 q r1 s1 => by
    cases b with
    | true => exact ⟨θ, Z1, ρ1, L1, r1, PoE.step (by simpa using q) s1⟩
    | false => exact ⟨θ, Z1, ρ1, L1, r1, PoE.step (by simpa using q) s1⟩

/-! ### one operand -/
def o1 (sem : O → Option O) (f : ES) : ES := oF (one sem) (oAs [f])
theorem rd_o1 {sem : O → Option O} {Q : VK} (h : RdE X ca W (o1 sem f) σ H Q) : RdE X ca W f σ H fun x H1 => RSem (X := X) (ca := ca) (one sem) [x] H1 Q := rdA_one (rd_oF h)
def negS : O → Option O
  | .val (.int i) => some (.val (.int (-i)))
  | _ => none
theorem rsem1 {sem : O → Option O} {x : V} {Q : VK} (h : RSem (X := X) (ca := ca) (one sem) [x] H Q) : ∃ Z a o, (∀ a, Z a → H a ≠ none) ∧ Rb (gx X ca) Z H a x ∧ sem a = some o ∧ ∀ v H' F, Al (gx X ca) Z H o v H' F → Q v H' := by
  obtain ⟨Z, os, o, zd, hp, e, q⟩ := h
  obtain ⟨a, rfl, e⟩ := one_some e
  exact ⟨Z, a, o, zd, pair1 hp, e, q⟩
/-! ### slices -/
abbrev OS := En → Out (Option Int)
def oNoPart : OS := fun ρ => .ok none ρ
def oPart (f : ES) : OS := fun ρ => (f ρ).bind fun p ρ1 => match look ρ1 p with
  | some (.val (.int i)) => .ok (some i) ρ1
  | _ => .stuck
def oSl (f : ES) (lo hi : OS) : ES := fun ρ => (f ρ).bind fun p ρ1 => (lo ρ1).bind fun l ρ2 => (hi ρ2).bind fun h ρ3 => match look ρ3 p with
  | some o => put ρ3 (slS l h o)
  | none => .stuck
def PoO (θ : Nat → V) (Z : Zs) (L : List Addr) (H : Hp) (σ : L2.St) (Q : Option Int → Hp → Prop) : Out (Option Int) → Prop
  | .ok b ρ' => ∀ Z' H' L', Rep θ (gx X ca) Z' H' ρ' σ L' → Step Z L H Z' L' H' → Q b H'
  | .exc c ρ' => ∀ Z' H' L', Rep θ (gx X ca) Z' H' ρ' σ L' → Step Z L H Z' L' H' → W (.ref (ca c)) none σ H'
  | .stuck => False
def RdO (X : Cx) (ca : Nat → Addr) (W : WX) (f : OS) : TO := fun σ H Q => ∃ θ Z ρ L, Rep θ (gx X ca) Z H ρ σ L ∧ PoO (X := X) (ca := ca) (W := W) θ Z L H σ Q (f ρ)
theorem PO.imp {e : Option Expr} {t t' : TO} (h : PO X e t) (i : ∀ σ H Q, t' σ H Q → t σ H Q) : PO X e t' := ⟨fun pins s σ H Q I q => h.run pins s σ H Q I (i σ H Q q)⟩
theorem so_none : PO X none (RdO X ca W oNoPart) := PO.imp po_none fun σ H Q ⟨θ, Z, ρ, L, r, q⟩ => q Z H L r Step.refl
theorem so_some {e : Expr} (h : PE X e (RdE X ca W f)) : PO X (some e) (RdO X ca W (oPart f)) := PO.imp (po_some h) fun σ H Q ⟨θ, Z, ρ, L, r, q⟩ =>
  rd_bindE (P := PoO (X := X) (ca := ca) (W := W) θ Z L H σ Q) r (fun h => h) (fun c ρ' h => h) q fun p ρ1 Z1 H1 L1 F v q r1 h1 s1 => by
    split at q
    · rename_i i e
      exact ⟨i, rb_int (look_ok r1 h1 e), q Z1 H1 L1 r1 (s1.sub fun a h => List.mem_append_right _ h)⟩
    · exact q.elim
theorem sl_any : SlR X (fun x l h H Q => RSem (X := X) (ca := ca) (one (slS l h)) [x] H Q) := fun pins s σ H x v vl vu lo hi sl Q I rx hs pl pu q =>
  sl_all (lo := lo) (hi := hi) pins s σ H x v vl vu lo hi sl Q I rx hs pl pu ⟨rfl, rfl, q⟩
/-- a part, while F is held aside -/
theorem rd_part {p : Opd} {v : V} {lo : OS} {k : Option Int → En → Out Opd} {Q : VK} {Q1 : Option Int → Hp → Prop} {Z0 : Zs} {L0 : List Addr} {H0 : Hp} (r : Rep θ (gx X ca) Z H ρ σ L) (h : Held (gx X ca) Z H σ L [p] [v] F) (s : Step Z0 L0 H0 Z (F ++ L) H)
    (q : PoE X ca W θ Z0 L0 H0 σ Q ((lo ρ).bind k)) (go : ∀ b ρ1 Z1 H1 L1, PoE X ca W θ Z0 L0 H0 σ Q (k b ρ1) → Rep θ (gx X ca) Z1 H1 ρ1 σ L1 → Held (gx X ca) Z1 H1 σ L1 [p] [v] F → Step Z0 L0 H0 Z1 (F ++ L1) H1 → Q1 b H1) : RdO X ca W lo σ H Q1 := by
  refine ⟨θ, Z, ρ, L, r, ?_⟩
  cases e : lo ρ with
  | stuck => rw [e] at q; exact q
  | exc c ρ1 => rw [e] at q; exact fun Z' H' L' r' s' => q Z' H' L' r' ((s.sub fun a h => List.mem_append_right _ h).trans s')
  | ok b ρ1 =>
    rw [e] at q
    intro Z1 H1 L1 r1 s1
    exact go b ρ1 Z1 H1 L1 q r1 (h.carryM r.sl.mut r.dis s1 r1.nd) (s.then s1)
theorem se_slice {e : Expr} {a b : Option Expr} {lo hi : OS} {p2 pos : Pos} (he : PE X e (RdE X ca W f)) (hl : PO X a (RdO X ca W lo)) (hu : PO X b (RdO X ca W hi)) : PE X (.Subscript e (.Slice a b none p2) pos) (RdE X ca W (oSl f lo hi)) :=
  PE.imp (pe_slice (sl_any (ca := ca)) he hl hu) fun σ H Q ⟨θ, Z, ρ, L, r, q⟩ => rd_bindE (P := PoE X ca W θ Z L H σ Q) r (fun h => h) (fun c ρ' h => h) q fun p ρ1 Z1 H1 L1 F v q r1 h1 s1 =>
    rd_part r1 h1 s1 q fun l ρ2 Z2 H2 L2 q r2 h2 s2 => rd_part r2 h2 s2 q fun h ρ3 Z3 H3 L3 q r3 h3 s3 => by
      split at q
      · rename_i o e
        cases e3 : slS l h o with
        | none => simp only [e3, Eng.put] at q; exact q.elim
        | some o' =>
          simp only [e3, Eng.put] at q
          exact ⟨Z3, [o], o', r3.zd, .cons (look_ok r3 h3 e) .nil, e3, fun v H' F' x => q Z3 H' L3 F' v (x.rep r3) (x.held r3) ((s3.sub fun a h => List.mem_append_right _ h).trans x.step)⟩
      · exact q.elim

/-! ### a text's methods -/
def asStrs : List D → Option (List Str)
  | [] => some []
  | .str b :: ds => (asStrs ds).map (b :: ·)
  | _ :: _ => none
theorem asStrs_eq : ∀ {ds : List D} {bs : List Str}, asStrs ds = some bs → ds = bs.map PyData.str
  | [], bs, e => by simp only [asStrs, Option.some.injEq] at e; subst e; rfl
  | .str b :: ds, bs, e => by
    simp only [asStrs, Option.map_eq_some_iff] at e
    obtain ⟨cs, e1, rfl⟩ := e
    rw [asStrs_eq e1]; rfl
  | .none :: _, _, e => by cases e
  | .bool _ :: _, _, e => by cases e
  | .int _ :: _, _, e => by cases e
  | .list _ :: _, _, e => by cases e
  | .tuple _ :: _, _, e => by cases e
  | .dict _ :: _, _, e => by cases e
@[simp] theorem asStrs_map (bs : List Str) : asStrs (bs.map PyData.str) = some bs := by
  induction bs with
  | nil => rfl
  | cons b bs ih => simp [asStrs, ih]
def joinS (a : Str) (o : O) : Option O := o.seq?.bind fun ds => (asStrs ds).bind fun ys => if (ys.map (·.length)).sum + ys.length * a.length ≤ 16777216 then some (.val (.str (Txt.join a ys))) else none
def oM1 (sem : Str → O → Option O) (f g : ES) : ES := fun ρ => (f ρ).bind fun p ρ1 => match look ρ1 p with
  | some (.val (.str a)) => (g ρ1).bind fun p2 ρ2 => match look ρ2 p2 with
    | some o => put ρ2 (sem a o)
    | none => .stuck
  | _ => .stuck
theorem rd_m1 {sem : Str → O → Option O} {r : V → List V → Hp → VK → Prop} {Q : VK} (hr : ∀ (a : Str) (y : V) (H : Hp) (Q : VK) (Z : Zs) (b o : O), Rb (gx X ca) Z H b y → sem a b = some o → (∀ v H' F, Al (gx X ca) Z H o v H' F → Q v H') → r (.str a) [y] H Q)
    (q : RdE X ca W (oM1 sem f g) σ H Q) : tM1 r (RdE X ca W f) (RdE X ca W g) σ H Q := by
  obtain ⟨θ, Z, ρ, L, rr, q⟩ := q
  refine rd_bindE (P := PoE X ca W θ Z L H σ Q) rr (fun h => h) (fun c ρ' h => h) q fun p ρ1 Z1 H1 L1 F v q r1 h1 s1 => ?_
  have s1' := s1.sub fun a h => List.mem_append_right _ h
  split at q
  · rename_i a e
    have ev := rb_str (look_ok r1 h1 e)
    subst ev
    refine ⟨⟨a, rfl⟩, rd_bindE (P := PoE X ca W θ Z1 L1 H1 σ Q) r1 (fun h => h) (fun c ρ' h => h) (q.step s1') fun p2 ρ2 Z2 H2 L2 F2 y q r2 h2 s2 => ?_⟩
    split at q
    · rename_i o e2
      cases e3 : sem a o with
      | none => simp only [e3, Eng.put] at q; exact q.elim
      | some o' =>
        simp only [e3, Eng.put] at q
        exact hr a y H2 Q Z2 o o' (look_ok r2 h2 e2) e3 fun v H' F' x => q Z2 H' L2 F' v (x.rep r2) (x.held r2) ((s2.sub fun a h => List.mem_append_right _ h).trans x.step)
    · exact q.elim
  · exact q.elim
theorem se_join {o e : Expr} {apos pos : Pos} (ho : PE X o (RdE X ca W f)) (he : PE X e (RdE X ca W g)) (hs : starEach [e] X.env = [(false, eval e X.env)]) (hbase : attributeBase o "join" X.env (eval o X.env) = eval o X.env) (hline : (apos.endLine == pos.line) = true) :
    PE X (.Call (.Attribute o "join" apos) [e] [] pos) (RdE X ca W (oM1 joinS f g)) := PE.imp (pe_join ho he hs hbase hline) fun σ H Q h => rd_m1 (fun a y H Q Z b o hb e q => by
  unfold joinS at e
  cases e1 : b.seq? with
  | none => rw [e1] at e; cases e
  | some ds =>
    rw [e1] at e
    simp only [Option.bind_some] at e
    cases e2 : asStrs ds with
    | none => rw [e2] at e; cases e
    | some ys =>
      rw [e2] at e
      simp only [Option.bind_some] at e
      split at e
      · rename_i hc
        cases e
        obtain ⟨p, xs, rfl, hq, dz⟩ := rb_seq hb e1
        rw [asStrs_eq e2] at dz
        rw [dz.strs] at hq
        exact ⟨a, p, ys, rfl, rfl, hq, hc, q _ _ [] (Al.val (.str _))⟩
      · cases e) h
end
end Eng
set_option maxHeartbeats 1000000
/-! The engine, part 11: statements: blocks, stores to names, what a slot's object becomes. -/
namespace Eng
open PySem PySem.Spec L2
open PyProof.Rows hiding St

inductive SOut where
  | nx (ρ : En)
  | rt (o : O) (ρ : En)
  | bk (ρ : En)
  | ct (ρ : En)
  | exc (c : Nat) (ρ : En)
  | stuck
abbrev SS := En → SOut
def Out.bindS {α : Type} : Out α → (α → En → SOut) → SOut
  | .ok a ρ, f => f a ρ
  | .exc c ρ, _ => .exc c ρ
  | .stuck, _ => .stuck
@[simp] theorem bindS_ok {α : Type} (a : α) (ρ : En) (f : α → En → SOut) : (Out.ok a ρ).bindS f = f a ρ := rfl
@[simp] theorem bindS_exc {α : Type} (c : Nat) (ρ : En) (f : α → En → SOut) : (Out.exc c ρ : Out α).bindS f = .exc c ρ := rfl
@[simp] theorem bindS_stuck {α : Type} (f : α → En → SOut) : (Out.stuck : Out α).bindS f = .stuck := rfl
def SOut.then : SOut → SS → SOut
  | .nx ρ, f => f ρ
  | o, _ => o
@[simp] theorem then_nx (ρ : En) (f : SS) : (SOut.nx ρ).then f = f ρ := rfl
@[simp] theorem then_rt (o : O) (ρ : En) (f : SS) : (SOut.rt o ρ).then f = .rt o ρ := rfl
@[simp] theorem then_bk (ρ : En) (f : SS) : (SOut.bk ρ).then f = .bk ρ := rfl
@[simp] theorem then_ct (ρ : En) (f : SS) : (SOut.ct ρ).then f = .ct ρ := rfl
@[simp] theorem then_exc (c : Nat) (ρ : En) (f : SS) : (SOut.exc c ρ).then f = .exc c ρ := rfl
@[simp] theorem then_stuck (f : SS) : (SOut.stuck).then f = .stuck := rfl

section
variable (X : Cx) (ca : Nat → Addr) (W : WX)
def PoS (θ : Nat → V) (Z : Zs) (L : List Addr) (H : Hp) (D : Ends) : SOut → Prop
  | .nx ρ' => ∀ Z' H' L' σ', Rep θ (gx X ca) Z' H' ρ' σ' L' → Step Z L H Z' L' H' → D.nx σ' H'
  | .bk ρ' => ∀ Z' H' L' σ', Rep θ (gx X ca) Z' H' ρ' σ' L' → Step Z L H Z' L' H' → D.bk σ' H'
  | .ct ρ' => ∀ Z' H' L' σ', Rep θ (gx X ca) Z' H' ρ' σ' L' → Step Z L H Z' L' H' → D.ct σ' H'
  | .rt o ρ' => ∀ Z' H' L' F v σ', Rep θ (gx X ca) Z' H' ρ' σ' L' → Held (gx X ca) Z' H' σ' L' [.tmp o] [v] F → Step Z L H Z' (F ++ L') H' → D.rt v H'
  | .exc c ρ' => ∀ Z' H' L' σ', Rep θ (gx X ca) Z' H' ρ' σ' L' → Step Z L H Z' L' H' → W (.ref (ca c)) none σ' H'
  | .stuck => False
def RdS (f : SS) : TS := fun D σ H => ∃ θ Z ρ L, Rep θ (gx X ca) Z H ρ σ L ∧ PoS X ca W θ Z L H D (f ρ)
end
theorem PS.imp {X : Cx} {st : Stmt} {t t' : TS} (h : PS X st t) (i : ∀ D σ H, t' D σ H → t D σ H) : PS X st t' := ⟨fun pins s σ H D I q => h.run pins s σ H D I (i D σ H q)⟩
theorem PSs.imp {X : Cx} {st : List Stmt} {t t' : TS} (h : PSs X st t) (i : ∀ D σ H, t' D σ H → t D σ H) : PSs X st t' := ⟨fun pins s σ H D I q => h.run pins s σ H D I (i D σ H q)⟩

section
variable {X : Cx} {ca : Nat → Addr} {W : WX} {f g : ES} {b c : SS} {t : TS'} {G : Gx}
variable {θ : Nat → V} {Z Z1 : Zs} {L L1 F : List Addr} {H H1 : Hp} {σ : L2.St} {ρ ρ1 : En} {D : Ends}
theorem PoS.step {o : SOut} (q : PoS X ca W θ Z L H D o) (s : Step Z L H Z1 L1 H1) : PoS X ca W θ Z1 L1 H1 D o := by
  cases o with
  | stuck => exact q
  | exc c ρ1 => exact fun Z' H' L' σ' r s' => q Z' H' L' σ' r (s.trans s')
  | nx ρ1 => exact fun Z' H' L' σ' r s' => q Z' H' L' σ' r (s.trans s')
  | bk ρ1 => exact fun Z' H' L' σ' r s' => q Z' H' L' σ' r (s.trans s')
  | ct ρ1 => exact fun Z' H' L' σ' r s' => q Z' H' L' σ' r (s.trans s')
  | rt o ρ1 => exact fun Z' H' L' F v σ' r h s' => q Z' H' L' F v σ' r h (s.trans s')
/-- an expression, then a statement's rest -/
theorem rd_ES {k : Opd → En → SOut} {Q : VK} (r : Rep θ (gx X ca) Z H ρ σ L) (q : PoS X ca W θ Z L H D ((f ρ).bindS k))
    (go : ∀ p ρ1 Z1 H1 L1 F v, PoS X ca W θ Z L H D (k p ρ1) → Rep θ (gx X ca) Z1 H1 ρ1 σ L1 → Held (gx X ca) Z1 H1 σ L1 [p] [v] F → Step Z L H Z1 (F ++ L1) H1 → Q v H1) : RdE X ca W f σ H Q := by
  refine ⟨θ, Z, ρ, L, r, ?_⟩
  cases e : f ρ with
  | stuck => rw [e] at q; exact q.elim
  | exc c ρ1 => rw [e] at q; exact fun Z' H' L' r' s' => q Z' H' L' σ r' s'
  | ok p ρ1 => rw [e] at q; exact fun Z1 H1 L1 F v r1 h1 s1 => go p ρ1 Z1 H1 L1 F v q r1 h1 s1
theorem rd_TS {k : Bool → En → SOut} {Q : Bool → Hp → Prop} (r : Rep θ (gx X ca) Z H ρ σ L) (q : PoS X ca W θ Z L H D ((t ρ).bindS k))
    (go : ∀ b ρ1 Z1 H1 L1, PoS X ca W θ Z L H D (k b ρ1) → Rep θ (gx X ca) Z1 H1 ρ1 σ L1 → Step Z L H Z1 L1 H1 → Q b H1) : RdT X ca W t σ H Q := by
  refine ⟨θ, Z, ρ, L, r, ?_⟩
  cases e : t ρ with
  | stuck => rw [e] at q; exact q.elim
  | exc c ρ1 => rw [e] at q; exact fun Z' H' L' r' s' => q Z' H' L' σ r' s'
  | ok p ρ1 => rw [e] at q; exact fun Z1 H1 L1 r1 s1 => go p ρ1 Z1 H1 L1 q r1 s1
/-! ### blocks -/
def sNil : SS := fun ρ => .nx ρ
def sSeq (b c : SS) : SS := fun ρ => (b ρ).then c
def sExpr (f : ES) : SS := fun ρ => (f ρ).bindS fun _ ρ1 => .nx ρ1
def sIf (t : TS') (b c : SS) : SS := fun ρ => (t ρ).bindS fun k ρ1 => if k = true then b ρ1 else c ρ1
def sBreak : SS := fun ρ => .bk ρ
def sCont : SS := fun ρ => .ct ρ
/-- what is handed back: a name's own object goes along -/
def giveUp (ρ : En) : Opd → Option (O × En)
  | .tmp o => some (o, ρ)
  | .nm i => match ρ[i]? with
    | some (some (_, .val d)) => some (.val d, ρ)
    | some (some (_, .scr ns)) => some (.scr ns, ρ)
    | some (some (false, o)) => some (o, ρ.set i none)
    | some (some (true, .lst ds)) => some (.val (.list ds), frz ρ i)
    | _ => none
def sRet (f : ES) : SS := fun ρ => (f ρ).bindS fun p ρ1 => match giveUp ρ1 p with
  | some (o, ρ2) => .rt o ρ2
  | none => .stuck
def sRetN : SS := fun ρ => .rt (.val .none) ρ
variable {st : Stmt} {sts rest : List Stmt} {e : Expr} {pos : Pos}
theorem ss_nil : PSs X [] (RdS X ca W sNil) := PSs.imp pss_nil fun D σ H ⟨θ, Z, ρ, L, r, q⟩ => q Z H L σ r Step.refl
theorem ss_cons (h1 : PS X st (RdS X ca W b)) (h2 : PSs X rest (RdS X ca W c)) : PSs X (st :: rest) (RdS X ca W (sSeq b c)) := PSs.imp (pss_cons h1 h2) fun D σ H ⟨θ, Z, ρ, L, r, q⟩ => by
  refine ⟨θ, Z, ρ, L, r, ?_⟩
  unfold sSeq at q
  cases e : b ρ with
  | nx ρ1 =>
    rw [e] at q
    exact fun Z1 H1 L1 σ1 r1 s1 => ⟨θ, Z1, ρ1, L1, r1, PoS.step q s1⟩
  | rt o ρ1 => rw [e] at q; exact q
  | bk ρ1 => rw [e] at q; exact q
  | ct ρ1 => rw [e] at q; exact q
  | exc c ρ1 => rw [e] at q; exact q
  | stuck => rw [e] at q; exact q
theorem ss_one (h1 : PS X st (RdS X ca W b)) : PSs X [st] (RdS X ca W b) := pss_one h1
theorem ss_expr (he : PE X e (RdE X ca W f)) (hs : swapsWith e none pos.line X.env = pure false) : PS X (.Expr e pos) (RdS X ca W (sExpr f)) := PS.imp (ps_expr he hs) fun D σ H ⟨θ, Z, ρ, L, r, q⟩ =>
  rd_ES r q fun p ρ1 Z1 H1 L1 F v q r1 h1 s1 => q Z1 H1 L1 σ r1 (s1.sub fun a h => List.mem_append_right _ h)
theorem ss_if {cd : Expr} {as bs : List Stmt} (hc : PT X cd (RdT X ca W t)) (ha : PSs X as (RdS X ca W b)) (hb : PSs X bs (RdS X ca W c)) : PS X (.If cd as bs pos) (RdS X ca W (sIf t b c)) := PS.imp (ps_if hc ha hb) fun D σ H ⟨θ, Z, ρ, L, r, q⟩ =>
  rd_TS r q fun k ρ1 Z1 H1 L1 q r1 s1 => by
    cases k with
    | true => exact ⟨θ, Z1, ρ1, L1, r1, PoS.step (by simpa using q) s1⟩
    | false => exact ⟨θ, Z1, ρ1, L1, r1, PoS.step (by simpa using q) s1⟩

/-! ### a slot's object is lifted out, and comes back -/
theorem Rep.lift (r : Rep θ G Z H ρ σ L) {i : Nat} {p : Bool} {o : O} (e : ρ[i]? = some (some (p, o))) :
    ∃ F L' v, σ[i]? = some (some v) ∧ Ro G Z H o v F ∧ Rep θ G Z H (ρ.set i none) σ L' ∧ (F ++ L').Nodup ∧ (∀ a ∈ F, ¬ Z a) ∧ (∀ a, a ∈ F ++ L' ↔ a ∈ L) ∧ (p = true → v = θ i) := by
  obtain ⟨L1, F, L2, x, rfl, e2, h, put⟩ := r.put e
  cases h with
  | yes h =>
    rename_i v0
    have n := List.nodup_append.mp r.nd
    have n2 := List.nodup_append.mp n.2.1
    have rp := put (Z' := Z) (H' := H) (sl' := none) (x' := some v0) (F' := []) Kp.refl (fun _ _ _ q => q) .no List.nodup_nil (fun _ q => by cases q) (fun _ q => by cases q)
      (fun b hb => r.dis b ((List.mem_append.mp hb).elim (fun h => List.mem_append_left _ h) fun h => List.mem_append_right _ (List.mem_append_right _ h))) r.zd (fun o q => by cases q)
    rw [set_back e2] at rp
    refine ⟨F, L1 ++ ([] ++ L2), _, e2, h, rp, ?_, fun a ha => r.dis a (List.mem_append_right _ (List.mem_append_left _ ha)), fun a => ?_, fun hp => ?_⟩
    · have h3 := rp.nd
      refine List.nodup_append.mpr ⟨n2.1, h3, fun a ha b hb q => ?_⟩
      subst q
      rcases List.mem_append.mp hb with hb | hb
      · exact n.2.2 a hb a (List.mem_append_left _ ha) rfl
      · exact n2.2.2 a ha a (by simpa using hb) rfl
    · simp only [List.mem_append, List.nil_append]
      constructor
      · rintro (h | h | h)
        · exact .inr (.inl h)
        · exact .inl h
        · exact .inr (.inr h)
      · rintro (h | h | h)
        · exact .inr (.inl h)
        · exact .inl h
        · exact .inr (.inr h)
    · subst hp
      have := r.pn i o e
      rw [e2] at this
      exact Option.some.inj (Option.some.inj this)
theorem Rep.back (r : Rep θ G Z H ρ σ L) {i : Nat} {p : Bool} {o : O} {v : V} (e : ρ[i]? = some none) (hv : σ[i]? = some (some v)) (h : Ro G Z H o v F) (nd : (F ++ L).Nodup) (dis : ∀ a ∈ F, ¬ Z a) (hp : p = true → v = θ i) :
    ∃ L', Rep θ G Z H (ρ.set i (some (p, o))) σ L' ∧ ∀ a, a ∈ L' ↔ a ∈ F ++ L := by
  obtain ⟨L1, F0, L2, x, rfl, e2, h0, put⟩ := r.put e
  cases h0
  have n := List.nodup_append.mp nd
  have rp := put (Z' := Z) (H' := H) (sl' := some (p, o)) (x' := some v) (F' := F) Kp.refl (fun _ _ _ q => q) (.yes h) n.1 (fun a ha q => n.2.2 a ha a (by simpa using q) rfl) dis
    (fun b hb => r.dis b (by simpa using hb)) r.zd (fun o' q => by
      simp only [Option.some.injEq, Prod.mk.injEq] at q
      rw [hp q.1])
  rw [set_back hv] at rp
  refine ⟨_, rp, fun a => ?_⟩
  simp only [List.mem_append, List.nil_append]
  constructor
  · rintro (h | h | h)
    · exact .inr (.inl h)
    · exact .inl h
    · exact .inr (.inr h)
  · rintro (h | h | h)
    · exact .inr (.inl h)
    · exact .inl h
    · exact .inr (.inr h)
/-- what stands aside stays -/
theorem Ro.aside {Z' : Zs} {H' : Hp} {L' M : List Addr} {o : O} {v : V} (h : Ro G Z H o v F) (mu : ∀ a ∈ L, Mut (H a)) (dz : ∀ a ∈ L, ¬ Z a) (nd : (F ++ L).Nodup) (dis : ∀ a ∈ F, ¬ Z a) (s : Step Z L H Z' M H') (ndM : M.Nodup) :
    Ro G Z' H' o v F ∧ (F ++ M).Nodup ∧ ∀ a ∈ F, ¬ Z' a := by
  have n := List.nodup_append.mp nd
  have mF := h.mut
  refine ⟨h.kp (s.kp mu dz) fun a ha u e => s.keep a u e fun hl => n.2.2 a ha a hl rfl, List.nodup_append.mpr ⟨n.1, ndM, fun a ha b hb e => ?_⟩, fun a ha z => ?_⟩
  · subst e
    rcases s.lnew a hb with q | q
    · exact n.2.2 a ha a q rfl
    · exact mut_some (mF a ha) q
  · rcases s.znew a z with q | q | q
    · exact dis a ha q
    · exact n.2.2 a ha a q rfl
    · exact mut_some (mF a ha) q

/-! ### a store to a name -/
def setE (i : Nat) (o : O) (ρ : En) : Option En := match ρ[i]? with
  | some (some (true, _)) => none
  | some _ => some (ρ.set i (some (false, o)))
  | none => none
theorem setE_ok {i : Nat} {o : O} {ρ' : En} {v : V} (r : Rep θ G Z H ρ σ L) (h : Held G Z H σ L [.tmp o] [v] F) (e : setE i o ρ = some ρ') : ∃ L', Rep θ G Z H ρ' (σ.set i (some v)) L' ∧ ∀ a ∈ L', a ∈ F ++ L := by
  have hr := h.one
  have n := List.nodup_append.mp h.nd
  have gen : ∀ sl, ρ[i]? = some sl → ∃ L', Rep θ G Z H (ρ.set i (some (false, o))) (σ.set i (some v)) L' ∧ ∀ a ∈ L', a ∈ F ++ L := fun sl e1 => by
    obtain ⟨L1, F0, L2, x, rfl, e2, h0, put⟩ := r.put e1
    have sub : ∀ a, a ∈ L1 ++ L2 → a ∈ L1 ++ (F0 ++ L2) := fun a ha => (List.mem_append.mp ha).elim (fun h => List.mem_append_left _ h) fun h => List.mem_append_right _ (List.mem_append_right _ h)
    have rp := put (Z' := Z) (H' := H) (sl' := some (false, o)) (x' := some v) (F' := F) Kp.refl (fun _ _ _ q => q) (.yes hr) n.1 (fun a ha q => n.2.2 a ha a (sub a q) rfl) h.dis
      (fun b hb => r.dis b (sub b hb)) r.zd (fun o' q => by cases q)
    refine ⟨_, rp, fun a ha => ?_⟩
    rcases List.mem_append.mp ha with ha | ha
    · exact List.mem_append_right _ (List.mem_append_left _ ha)
    · rcases List.mem_append.mp ha with ha | ha
      · exact List.mem_append_left _ ha
      · exact List.mem_append_right _ (List.mem_append_right _ (List.mem_append_right _ ha))
  unfold setE at e
  split at e
  · cases e
  · rename_i sl _ e1
    cases e
    exact gen _ e1
  · cases e
/-- what a name gets: a copy of a frozen thing, or the thing itself -/
def takeM (ρ : En) (p : Opd) : Option (O × En) := match take ρ p with
  | some x => some x
  | none => giveUp ρ p
theorem giveUp_ok {p : Opd} {o : O} {ρ' : En} {v : V} (r : Rep θ G Z H ρ σ L) (h : Held G Z H σ L [p] [v] F) (e : giveUp ρ p = some (o, ρ')) :
    ∃ Z' L' F', Rep θ G Z' H ρ' σ L' ∧ Held G Z' H σ L' [.tmp o] [v] F' ∧ Step Z (F ++ L) H Z' (F' ++ L') H := by
  cases p with
  | tmp o' =>
    simp only [giveUp, Option.some.injEq, Prod.mk.injEq] at e
    obtain ⟨rfl, rfl⟩ := e
    exact ⟨Z, L, F, r, h, Step.refl⟩
  | nm j =>
    obtain ⟨rfl, hv⟩ := h.nm
    simp only [giveUp] at e
    split at e
    · rename_i b d e1
      cases e
      obtain ⟨v', F0, h1, h0, _⟩ := r.sl.get e1
      rw [hv] at h1; cases h1
      cases h0 with
      | val h0 => exact ⟨Z, L, [], r, .tmp (.val h0) r.nd (fun _ q => by cases q), Step.refl⟩
    · rename_i b d e1
      cases e
      obtain ⟨v', F0, h1, h0, _⟩ := r.sl.get e1
      rw [hv] at h1; cases h1
      cases h0 with
      | scr h0 => exact ⟨Z, L, [], r, .tmp (.scr h0) r.nd (fun _ q => by cases q), Step.refl⟩
    · rename_i o' _ _ e1
      cases e
      obtain ⟨F0, L', v', h1, h2, h3, h4, h5, h6, _⟩ := r.lift e1
      rw [hv] at h1; cases h1
      exact ⟨Z, L', F0, h3, .tmp h2 h4 h5, ⟨fun _ _ e _ => e, fun _ h => h, fun _ h => .inl h, fun a ha => .inl (by simpa using (h6 a).mp ha)⟩⟩
    · rename_i ds e1
      cases e
      obtain ⟨Z', L', v', q1, q2, q3, q4, _⟩ := r.frz e1
      rw [hv] at q1
      cases q1
      rw [frz_eq e1]
      exact ⟨Z', L', [], q2, .tmp (.val q3) q2.nd (fun _ q => by cases q), q4⟩
    · cases e
theorem takeM_ok {p : Opd} {o : O} {ρ' : En} {v : V} (r : Rep θ G Z H ρ σ L) (h : Held G Z H σ L [p] [v] F) (e : takeM ρ p = some (o, ρ')) :
    ∃ Z' L' F', Rep θ G Z' H ρ' σ L' ∧ Held G Z' H σ L' [.tmp o] [v] F' ∧ Step Z (F ++ L) H Z' (F' ++ L') H := by
  unfold takeM at e
  split at e
  · rename_i x e1
    cases e
    exact take_ok r h e1
  · exact giveUp_ok r h e
def stoE (i : Nat) (ρ : En) (p : Opd) : SOut := match takeM ρ p with
  | some (o, ρ1) => match setE i o ρ1 with
    | some ρ2 => .nx ρ2
    | none => .stuck
  | none => .stuck
def sAsg (i : Nat) (f : ES) : SS := fun ρ => (f ρ).bindS fun p ρ1 => stoE i ρ1 p
theorem stoE_ok {i : Nat} {p : Opd} {v : V} {Z0 : Zs} {L0 : List Addr} {H0 : Hp} (r : Rep θ (gx X ca) Z H ρ σ L) (h : Held (gx X ca) Z H σ L [p] [v] F) (s : Step Z0 L0 H0 Z (F ++ L) H) (q : PoS X ca W θ Z0 L0 H0 D (stoE i ρ p)) : D.nx (σ.set i (some v)) H := by
  unfold stoE at q
  split at q
  · rename_i o ρ1 e1
    split at q
    · rename_i ρ2 e2
      obtain ⟨Z', L', F', r1, h1, s1⟩ := takeM_ok r h e1
      obtain ⟨L2, r2, sub⟩ := setE_ok r1 h1 e2
      exact q Z' H L2 _ r2 ((s.trans s1).sub sub)
    · exact q.elim
  · exact q.elim
theorem ss_asg {i : Nat} {x : Str} {pos' : Pos} (hN : X.N.Nodup) (hi : X.N[i]? = some x) (hx : Loc X.env.scope x) (he : PE X e (RdE X ca W f)) (hs : swapsWith e (some (.Name x pos')) pos.line X.env = pure false) (hf : X.fn x = true ∨ X.env.scope.names.lookup x = some .local) :
    PS X (.Assign [.Name x pos'] e pos) (RdS X ca W (sAsg i f)) := PS.imp (ps_set hN hi hx he hs hf) fun D σ H ⟨θ, Z, ρ, L, r, q⟩ =>
  rd_ES r q fun p ρ1 Z1 H1 L1 F v q r1 h1 s1 => stoE_ok r1 h1 s1 q
theorem ss_ret (he : PE X e (RdE X ca W f)) : PS X (.Return (some e) pos) (RdS X ca W (sRet f)) := PS.imp (ps_ret he) fun D σ H ⟨θ, Z, ρ, L, r, q⟩ =>
  rd_ES r q fun p ρ1 Z1 H1 L1 F v q r1 h1 s1 => by
    split at q
    · rename_i o ρ2 e1
      obtain ⟨Z', L', F', r2, h2, s2⟩ := giveUp_ok r1 h1 e1
      exact q Z' H1 L' F' v σ r2 h2 (s1.trans s2)
    · exact q.elim
theorem ss_retN : PS X (.Return none pos) (RdS X ca W sRetN) := PS.imp ps_retN fun D σ H ⟨θ, Z, ρ, L, r, q⟩ =>
  q Z H L [] .non σ r ((Al.val (G := gx X ca) .non).held r) Step.refl

/-! ### a slot's object is written -/
def own1 : O → Bool
  | .lst _ => true
  | .dic _ => true
  | .set _ => true
  | _ => false
theorem kp_upd {K : PySem.W.Frag} {l : Addr} {u : HO} (mu : Mut (H l)) (nz : ¬ Z l) : Kp Z K H Z (upd H l u) where
  z := fun _ h => h
  r := fun a xs z e => by
    rw [upd_ne (show a ≠ l from fun q => nz (q ▸ z))]
    exact e
  t := fun a xs r => by
    have ne : ∀ v, H a = some v → ¬ Mut (some v) → a ≠ l := fun v e nm q => by subst q; rw [e] at mu; exact nm mu
    rcases r with (r | ⟨o, r⟩) | r
    · exact .inl (.inl (by rw [upd_ne (ne _ r fun h => h)]; exact r))
    · exact .inl (.inr ⟨o, by rw [upd_ne (ne _ r fun h => h)]; exact r⟩)
    · exact .inr r
  f := fun a ns r => by
    have ne : ∀ v, H a = some v → ¬ Mut (some v) → a ≠ l := fun v e nm q => by subst q; rw [e] at mu; exact nm mu
    rcases r with ⟨ob, r⟩ | r
    · exact .inl ⟨ob, by rw [upd_ne (ne _ r fun h => h)]; exact r⟩
    · exact .inr r
  g := fun a ob v r => by
    have ne : ∀ v, H a = some v → ¬ Mut (some v) → a ≠ l := fun v e nm q => by subst q; rw [e] at mu; exact nm mu
    rw [upd_ne (ne _ r fun h => h)]
    exact r
theorem Ro.own1 {o : O} {v : V} (h : Ro G Z H o v F) (e : Eng.own1 o = true) : ∃ l, v = .ref l ∧ F = [l] := by
  cases h with
  | lst => exact ⟨_, rfl, rfl⟩
  | dic => exact ⟨_, rfl, rfl⟩
  | dct => exact ⟨_, rfl, rfl⟩
  | set => exact ⟨_, rfl, rfl⟩
  | _ => cases e
theorem Rep.wr (r : Rep θ G Z H ρ σ L) {i : Nat} {p : Bool} {o : O} (e : ρ[i]? = some (some (p, o))) (ho : own1 o = true) : ∃ l, σ[i]? = some (some (.ref l)) ∧ Ro G Z H o (.ref l) [l] ∧ l ∈ L ∧ (¬ Z l) ∧
    ∀ o' u', Ro G Z (upd H l u') o' (.ref l) [l] → Rep θ G Z (upd H l u') (ρ.set i (some (p, o'))) σ L ∧ Step Z L H Z L (upd H l u') := by
  obtain ⟨L1, F, L2, x, rfl, e2, h, put⟩ := r.put e
  cases h with
  | yes h =>
    obtain ⟨l, rfl, rfl⟩ := h.own1 ho
    have hl : l ∈ L1 ++ ([l] ++ L2) := List.mem_append_right _ (List.mem_append_left _ List.mem_cons_self)
    have nz : ¬ Z l := r.dis l hl
    have mu : Mut (H l) := h.mut l List.mem_cons_self
    refine ⟨l, e2, h, hl, nz, fun o' u' h' => ?_⟩
    have n := List.nodup_append.mp r.nd
    have n2 := List.nodup_append.mp n.2.1
    have nl : ∀ a, a ∈ L1 ++ L2 → a ≠ l := fun a ha q => by
      subst q
      rcases List.mem_append.mp ha with ha | ha
      · exact n.2.2 a ha a (List.mem_append_left _ List.mem_cons_self) rfl
      · exact n2.2.2 a List.mem_cons_self a ha rfl
    have rp := put (Z' := Z) (H' := upd H l u') (sl' := some (p, o')) (x' := some (.ref l)) (F' := [l]) (kp_upd mu nz) (fun a ha u q => by rw [upd_ne (nl a ha)]; exact q) (.yes h') (by simp)
      (fun a ha q => by rw [List.mem_singleton] at ha; subst ha; exact nl a q rfl) (fun a ha => by rw [List.mem_singleton] at ha; subst ha; exact nz)
      (fun b hb => r.dis b ((List.mem_append.mp hb).elim (fun h => List.mem_append_left _ h) fun h => List.mem_append_right _ (List.mem_append_right _ h)))
      (fun a z q => by
        by_cases hal : a = l
        · subst hal; exact nz z
        · rw [upd_ne hal] at q; exact r.zd a z q)
      (fun o'' q => by
        simp only [Option.some.injEq, Prod.mk.injEq] at q
        have hp := r.pn i o (by rw [e, q.1])
        rw [e2] at hp
        exact Option.some.inj hp)
    rw [set_back e2] at rp
    exact ⟨rp, ⟨fun a u e hn => by rw [upd_ne (show a ≠ l from fun q => hn (q ▸ hl))]; exact e, fun _ z => z, fun _ z => .inl z, fun _ h => .inl h⟩⟩
theorem Ro.lst_of {ds : List Eng.D} {l : Addr} (h : Ro G Z H (.lst ds) (.ref l) F) : ∃ xs, H l = some (.lst xs) ∧ DzA Z G.K H ds xs := by
  cases h with
  | lst e h => exact ⟨_, e, h⟩
end
end Eng
set_option maxHeartbeats 1000000
/-! The engine, part 12: objects that change: methods of lists, stores to items, tuples unpacked. -/
namespace Eng
open PySem PySem.Spec L2
open PyProof.Rows hiding St

/-- the object at slot i is changed -/
def mutE (sem : O → Option (O × D)) (i : Nat) (ρ : En) : Out Opd := match ρ[i]? with
  | some (some (p, o)) => match sem o with
    | some (o', res) => .ok (.tmp (.val res)) (ρ.set i (some (p, o')))
    | none => .stuck
  | _ => .stuck
def isLstO : O → Bool
  | .lst _ => true
  | _ => false
def oMutA (sem : O → List D → Option (O × D)) (i : Nat) (as : AS) : ES := fun ρ => match slotO ρ i with
  | some o0 => if isLstO o0 = true then (as ρ).bind fun ps ρ1 => match gives ρ1 ps with
      | some (ds, ρ2) => mutE (fun o => sem o ds) i ρ2
      | none => .stuck
    else .stuck
  | none => .stuck
def oMut0 (sem : O → Option (O × D)) (i : Nat) : ES := fun ρ => match slotO ρ i with
  | some o0 => if isLstO o0 = true then mutE sem i ρ else .stuck
  | none => .stuck
section
variable {X : Cx} {ca : Nat → Addr} {W : WX} {f g : ES} {as : AS} {G : Gx}
variable {θ : Nat → V} {Z Z1 : Zs} {L L1 F : List Addr} {H H1 : Hp} {σ : L2.St} {ρ ρ1 : En} {Dn : Ends}
/-- what a method's reading asks of its rule -/
def MutR (X : Cx) (ca : Nat → Addr) (sem : O → List D → Option (O × D)) (r : V → List V → Hp → VK → Prop) : Prop :=
  ∀ (l : Addr) (o o' : O) (res : D) (ds : List D) (ys : List V) (H : Hp) (Q : VK) (Z : Zs), Ro (gx X ca) Z H o (.ref l) [l] → ¬ Z l → DzA Z X.K H ds ys → sem o ds = some (o', res) →
    (∀ w u', Ro (gx X ca) Z (upd H l u') o' (.ref l) [l] → Dz Z X.K (upd H l u') res w → Q w (upd H l u')) → r (.ref l) ys H Q
theorem isLst_ty {o : O} {v : V} (h : Rb (gx X ca) Z H o v) (e : isLstO o = true) : tyV X.K "list" v H := by
  obtain ⟨F, h⟩ := h
  cases h with
  | lst e1 h1 => exact .inl ⟨rfl, _, .inl (.inl e1)⟩
  | _ => cases e
theorem rd_mut {sem : O → List D → Option (O × D)} {i : Nat} {r : V → List V → Hp → VK → Prop} (hs : ∀ o ds x, sem o ds = some x → own1 o = true) (hr : MutR X ca sem r) {Q : VK} (q : RdE X ca W (oMutA sem i as) σ H Q) :
    tBM X.K "list" r (RdE X ca W (oNm i)) (RdA X ca W as) σ H Q := by
  obtain ⟨θ, Z, ρ, L, rr, q⟩ := q
  unfold oMutA at q
  cases e0 : slotO ρ i with
  | none => rw [e0] at q; exact q.elim
  | some o0 =>
    rw [e0] at q
    by_cases hl : isLstO o0 = true
    · simp only [hl, if_true] at q
      refine ⟨θ, Z, ρ, L, rr, ?_⟩
      unfold oNm
      rw [e0]
      intro Z1 H1 L1 F v r1 h1 s1
      obtain ⟨rfl, hv⟩ := h1.nm
      refine ⟨isLst_ty (r1.look e0 hv) hl, θ, Z1, ρ, L1, r1, ?_⟩
      cases ea : as ρ with
      | stuck => rw [ea] at q; exact q
      | exc c ρ1 => rw [ea] at q; exact fun Z' H' L' r' s' => q Z' H' L' r' (s1.trans s')
      | ok ps ρ1 =>
        rw [ea] at q
        simp only [bind_ok] at q
        intro Z2 H2 L2 F2 vs r2 h2 s2
        cases eg : gives ρ1 ps with
        | none => rw [eg] at q; exact q.elim
        | some x =>
          obtain ⟨ds, ρ2⟩ := x
          rw [eg] at q
          simp only at q
          obtain ⟨Z3, L3, r3, d3, s3⟩ := gives_ok r2 h2 eg
          unfold mutE at q
          split at q
          · rename_i p o e3
            split at q
            · rename_i o' res e4
              obtain ⟨l, w1, w2, w3, w4, w5⟩ := r3.wr e3 (hs _ _ _ e4)
              rw [hv] at w1
              cases w1
              refine hr l o o' res ds vs H2 Q Z3 w2 w4 d3 e4 fun w u' ro' dz' => ?_
              obtain ⟨r4, s4⟩ := w5 o' u' ro'
              exact q Z3 _ L3 [] w r4 (.tmp (.val dz') r4.nd (fun _ q => by cases q)) (((s1.trans s2).trans s3).trans s4)
            · exact q.elim
          · exact q.elim
    · simp only [hl, if_false, Bool.false_eq_true] at q
      exact q.elim
theorem rd_mut0 {sem : O → Option (O × D)} {i : Nat} {r : V → List V → Hp → VK → Prop} (hs : ∀ o x, sem o = some x → own1 o = true) (hr : MutR X ca (fun o ds => if ds = [] then sem o else none) r) {Q : VK} (q : RdE X ca W (oMut0 sem i) σ H Q) :
    tBM0 X.K "list" r (RdE X ca W (oNm i)) σ H Q := by
  obtain ⟨θ, Z, ρ, L, rr, q⟩ := q
  unfold oMut0 at q
  cases e0 : slotO ρ i with
  | none => rw [e0] at q; exact q.elim
  | some o0 =>
    rw [e0] at q
    by_cases hl : isLstO o0 = true
    · simp only [hl, if_true] at q
      refine ⟨θ, Z, ρ, L, rr, ?_⟩
      unfold oNm
      rw [e0]
      intro Z1 H1 L1 F v r1 h1 s1
      obtain ⟨rfl, hv⟩ := h1.nm
      refine ⟨isLst_ty (r1.look e0 hv) hl, ?_⟩
      unfold mutE at q
      split at q
      · rename_i p o e3
        split at q
        · rename_i o' res e4
          obtain ⟨l, w1, w2, w3, w4, w5⟩ := r1.wr e3 (hs _ _ e4)
          rw [hv] at w1
          cases w1
          refine hr l o o' res [] [] H1 Q Z1 w2 w4 .nil (by simpa using e4) fun w u' ro' dz' => ?_
          obtain ⟨r4, s4⟩ := w5 o' u' ro'
          exact q Z1 _ L1 [] w r4 (.tmp (.val dz') r4.nd (fun _ q => by cases q)) (s1.trans s4)
        · exact q.elim
      · exact q.elim
    · simp only [hl, if_false, Bool.false_eq_true] at q
      exact q.elim

/-! ### the methods of lists -/
def appS : O → List D → Option (O × D)
  | .lst ds, [d] => if ds.length < sizeLine then some (.lst (ds ++ [d]), .none) else none
  | _, _ => none
def popS : O → Option (O × D)
  | .lst ds => match ds.getLast? with
    | some d => some (.lst ds.dropLast, d)
    | none => none
  | _ => none
def popAtS : O → List D → Option (O × D)
  | .lst ds, [.int i] => if 0 ≤ i ∧ i < 2 ^ 63 then match ds[i.toNat]? with
      | some d => some (.lst (ds.eraseIdx i.toNat), d)
      | none => none
    else none
  | _, _ => none
theorem kp_l {l : Addr} {o : O} {u : HO} (h : Ro G Z H o (.ref l) [l]) (nz : ¬ Z l) : Kp Z G.K H Z (upd H l u) := kp_upd (h.mut l List.mem_cons_self) nz
theorem Ro.lst_new {ds : List D} {xs : List V} {l : Addr} {o : O} (h : Ro G Z H o (.ref l) [l]) (nz : ¬ Z l) (d : DzA Z G.K H ds xs) : Ro G Z (upd H l (.lst xs)) (.lst ds) (.ref l) [l] := .lst upd_same (d.kp (kp_l h nz))
theorem mut_app : MutR X ca appS rAppend := by
  intro l o o' res ds ys H Q Z hr nz hd e q
  unfold appS at e
  split at e
  · split at e
    · rename_i xs d hz
      cases e
      obtain ⟨us, hl, dz⟩ := hr.lst_of
      cases hd with
      | cons h1 t =>
        cases t
        exact ⟨l, us, _, rfl, rfl, hl, by rw [dz.length]; exact hz, q _ _ (Ro.lst_new hr nz (dz.append (.cons h1 .nil))) .non⟩
    · cases e
  · cases e
theorem mut_popAt : MutR X ca popAtS rPopAt := by
  intro l o o' res ds ys H Q Z hr nz hd e q
  unfold popAtS at e
  split at e
  · rename_i xs i
    split at e
    · rename_i hi
      split at e
      · rename_i d hx
        cases e
        obtain ⟨us, hl, dz⟩ := hr.lst_of
        cases hd with
        | cons h1 t =>
          cases t
          cases h1
          obtain ⟨w, hw, dw⟩ := dz.get hx
          have lt : i.toNat < us.length := (List.getElem?_eq_some_iff.mp hw).1
          refine ⟨l, us, i, i.toNat, w, rfl, rfl, hl, by omega, hi.2, ?_, hw, q _ _ (Ro.lst_new hr nz (dz.eraseIdx _)) (dw.kp (kp_l hr nz))⟩
          unfold seqIndex?
          have h1 : ¬ i < 0 := by omega
          have h2 : i < (us.length : Int) := by omega
          simp only [h1, if_false]
          simp [h2]
          omega
      · cases e
    · cases e
  · cases e
theorem mut_pop : MutR X ca (fun o ds => if ds = [] then popS o else none) rPop := by
  intro l o o' res ds ys H Q Z hr nz hd e q
  dsimp only at e
  split at e
  · rename_i h0
    subst h0
    cases hd
    unfold popS at e
    split at e
    · rename_i xs
      split at e
      · rename_i d hx
        cases e
        obtain ⟨us, hl, dz⟩ := hr.lst_of
        rw [List.getLast?_eq_getElem?] at hx
        obtain ⟨w, hw, dw⟩ := dz.get hx
        rw [← dz.length] at hw
        exact ⟨l, us, w, rfl, rfl, hl, hw, q _ _ (Ro.lst_new hr nz dz.dropLast) (dw.kp (kp_l hr nz))⟩
      · cases e
    · cases e
  · cases e
end
end Eng
set_option maxHeartbeats 1000000
/-! The engine, part 13: extend by a list or a tuple; stores to items; tuples unpacked. -/
namespace Eng
open PySem PySem.Spec L2
open PyProof.Rows hiding St

theorem ext_by_tuple (l : Addr) (items : Array Value) (n : Nat) (b : Addr) (o2 : Obj) (items2 : Array Value) (n2 : Nat) (hc2 : o2.cls = .type "tuple") (hd2 : o2.data = .seq items2 n2)
    (h0 : ¬(!items.isEmpty && Builtin.List.listTooLong (items.size + items2.size)) = true) (h1 : items.size ≤ sizeLine) (h2 : items.size + items2.size ≤ sizeLine + 1) :
    Meets (Builtin.«list.extend» ⟨[.ref l, .ref b], []⟩) (fun _ R s => (s.heap.get? l = some { cls := .type "list", dict := none, data := .seq items n, slots := #[] } ∧ s.heap.get? b = some o2) ∧
      R (.ok (.ret Value.none)) { s with heap := s.heap.update l (Obj.mapSeq fun x => x ++ items2), toks := s.toks }) := by
  obtain ⟨c2, d2, t2, s2⟩ := o2
  simp only at hc2 hd2
  subst hc2 hd2
  refine .of_wp fun prog w A R s h => ?_
  obtain ⟨hp, g, d, tk, os⟩ := s
  obtain ⟨⟨hl, hb⟩, h⟩ := h
  have q1 := AutoSeq1.idx_int
  have q2 := F.sub_tuple_tuple
  have q3 := F.sub_list_list
  have q4 := F.sub_tuple_list
  have q5 := F.sub_list_tuple
  have q6 : (items ++ items2).size ≤ sizeLine + 1 := by
    rw [Array.size_append]
    exact h2
  wp_walk using (wpAny_updateSeq hl rfl (hz := h1) (_hz' := q6)), AutoSeq1.wpAny_loadPart' hl, AutoSeq1.wpAny_loadPart' hb
  exact ⟨_, rfl, h⟩
section
variable {X : Cx}
def rExtA (K : PySem.W.Frag) : V → List V → Hp → VK → Prop := fun x vs H Q => ∃ l b xs zs, x = .ref l ∧ vs = [.ref b] ∧ H l = some (.lst xs) ∧ (H b = some (.lst zs) ∨ SqT K H b zs) ∧ xs.length + zs.length ≤ sizeLine ∧ Q .non (upd H l (.lst (xs ++ zs)))
theorem mt_extA : MtR X "list.extend" (rExtA X.K) := by
  intro pins s σ H x vs v us Q I rx rv h
  obtain ⟨l, b, xs, zs, rfl, rfl, hH, hB, hz, q⟩ := h
  rcases hB with hB | hB
  · exact mt_extend pins s σ H _ _ v us Q I rx rv ⟨l, b, xs, zs, rfl, rfl, hH, hB, hz, q⟩
  · cases rx
    obtain ⟨u, rfl, ru⟩ := rv.one
    cases ru
    obtain ⟨z, its, n, r, hl, e⟩ := I.lstM hH
    obtain ⟨its2, r2, ⟨o2, e2, c2, n2, d2⟩, z2⟩ := I.tuple hB
    have hl2 := r2.length
    have small : its.toArray.size + its2.toArray.size ≤ sizeLine := by
      rw [List.size_toArray, List.size_toArray, ← hl, ← hl2]
      exact hz
    refine call_meets F.slot_list_extend ⟨_, e, rfl⟩ F.entry_list_extend (F.args_list_extend_2 _ _) (ext_by_tuple l its.toArray n b o2 its2.toArray n2 c2 d2 ?_ (by rw [List.size_toArray]; omega) (by omega)) ⟨⟨e, e2⟩, ?_⟩
    · rw [notLongL small, Bool.and_false]
      exact Bool.false_ne_true
    · refine ⟨.non, _, I.lset (its' := its ++ its2) hH e (by simp) (r.append r2) ?_, rfl, q⟩
      rw [List.length_append]
      exact hz

/-! ### stores to items -/
def setS : O → D → D → Option O
  | .lst ds, .int i, d => match ixN ds.length i with
    | some j => some (.lst (ds.set j d))
    | none => none
  | .dic es, k, d => if dOk es k = true ∧ es.length < sizeLine then some (.dic (dput es k d)) else none
  | _, _, _ => none
variable {ca : Nat → Addr} {W : WX} {f g : ES} {as : AS} {G : Gx}
variable {θ : Nat → V} {Z Z1 : Zs} {L L1 F : List Addr} {H H1 : Hp} {σ : L2.St} {ρ ρ1 : En} {Dn : Ends}
theorem setS_own {o o' : O} {k d : D} (e : setS o k d = some o') : own1 o = true := by
  unfold setS at e
  split at e
  · rfl
  · rfl
  · cases e
def SetV (X : Cx) (ca : Nat → Addr) : TSet := fun o i v H Q => ∃ Z l ob k d o', o = .ref l ∧ Ro (gx X ca) Z H ob (.ref l) [l] ∧ ¬ Z l ∧ Dz Z X.K H k i ∧ Dz Z X.K H d v ∧ setS ob k d = some o' ∧ ∀ u', Ro (gx X ca) Z (upd H l u') o' (.ref l) [l] → Q (upd H l u')
theorem atKey_any {xs : List (NestedKey × Addr × Value)} {κ : NestedKey} : (atKey xs κ).isSome = xs.any fun x => decide (x.1 = κ) := by
  induction xs with
  | nil => rfl
  | cons x xs ih =>
    by_cases q : x.1 = κ
    · simp [atKey, q]
    · rw [List.any_cons, decide_eq_false q, Bool.false_or, ← ih]
      simp [atKey, q]
theorem nent_put {K : PySem.W.Frag} {κ : NestedKey} {b : Addr} {k d : D} {v : V} {r : Value} (hκ : nkey k = some κ) (hd : κ.depth ≤ 8) (hb : Dz Z K H k (.ref b)) (hv : Dz Z K H d v) (rv : RelV v r) : ∀ {xs : List (NestedKey × Addr × Value)} {es : List (D × D)}, Paired (NEnt Z K H) xs es →
    Paired (NEnt Z K H) (xs.map (putAt κ r)) (es.map fun e => if PyData.eqv e.1 k = true then (e.1, d) else e)
  | _, _, .nil => .nil
  | x :: xs, e :: es, .cons h t => by
    refine .cons ?_ (nent_put hκ hd hb hv rv t)
    obtain ⟨h1, h2, h3, w, h4, h5⟩ := h
    have e1 : PyData.eqv e.1 k = decide (x.1 = κ) := nkey_eqv h1 hκ
    unfold putAt
    by_cases q : x.1 = κ
    · simp only [e1, q, decide_true, if_true]
      exact ⟨by rw [← q]; exact h1, by rw [← q]; exact h2, h3, v, rv, hv⟩
    · simp only [e1, q, decide_false, if_false, Bool.false_eq_true]
      exact ⟨h1, h2, h3, w, h4, h5⟩
theorem nent_store {K : PySem.W.Frag} {κ : NestedKey} {b : Addr} {k d : D} {v : V} {r : Value} (hκ : nkey k = some κ) (hd : κ.depth ≤ 8) (hb : Dz Z K H k (.ref b)) (hv : Dz Z K H d v) (rv : RelV v r) {xs : List (NestedKey × Addr × Value)} {es : List (D × D)} (p : Paired (NEnt Z K H) xs es) :
    Paired (NEnt Z K H) (storedH xs κ b r) (dput es k d) := by
  unfold storedH dput
  rw [(dget_nk p hκ).1]
  split
  · exact nent_put hκ hd hb hv rv p
  · have : ∀ {xs : List (NestedKey × Addr × Value)} {es : List (D × D)}, Paired (NEnt Z K H) xs es → Paired (NEnt Z K H) (xs ++ [(κ, b, r)]) (es ++ [(k, d)]) := by
      intro xs es p
      induction p with
      | nil => exact .cons ⟨hκ, hd, hb, v, rv, hv⟩ .nil
      | cons h t ih => exact .cons h ih
    exact this p
theorem ndict_ok {P : Program} {w : World} {K : PySem.W.Frag} {H' : Hp} {h' : Heap} {a : Addr} {xs : List (NestedKey × Addr × Value)} (G : Gx) (hP : G.P = P) (hw : G.w = w) (dd : h'.DictOfH (nestedKind P w) a xs) (hd : (a == sysModules) = false) (hz : xs.length ≤ sizeLine) : ObjOk P w H' h' a (.ext (NDict G a xs)) := by
  obtain ⟨o, es, ep, h1, h2, h3, h4, _, h5⟩ := dd
  refine ⟨⟨o, es, ep, h1, h2, h3, by rw [hP, hw]; exact h4, h5, hd, hz⟩, ⟨o, h1⟩, fun g1 g2 ⟨o', es', ep', q1, q2⟩ k => ⟨o', es', ep', k _ q1, q2⟩⟩
theorem len_dput (es : List (D × D)) (k d : D) : (dput es k d).length ≤ es.length + 1 := by
  unfold dput
  split
  · simp
  · simp
theorem storedH_keys {xs : List (NestedKey × Addr × Value)} {κ : NestedKey} {b : Addr} {r : Value} (nd : (xs.map (·.1)).Nodup) : ((storedH xs κ b r).map (·.1)).Nodup := by
  unfold storedH
  by_cases q : (atKey xs κ).isSome = true
  · rw [if_pos q, List.map_map]
    have : ((fun x : NestedKey × Addr × Value => x.1) ∘ putAt κ r) = fun x => x.1 := by
      funext x
      unfold putAt
      simp only [Function.comp]
      split <;> rfl
    rw [this]
    exact nd
  · rw [if_neg q, List.map_append]
    rw [atKey_any] at q
    refine List.nodup_append.mpr ⟨nd, by simp, fun a ha c hc e => ?_⟩
    simp only [List.map_cons, List.map_nil, List.mem_singleton] at hc
    subst hc
    subst e
    obtain ⟨x, hx, ex⟩ := List.mem_map.mp ha
    exact q (List.any_eq_true.mpr ⟨x, hx, by simp [ex]⟩)
theorem storedH_ne {xs : List (NestedKey × Addr × Value)} {κ : NestedKey} {b : Addr} {r : Value} : storedH xs κ b r ≠ [] := by
  unfold storedH
  split
  · rename_i h
    cases xs with
    | nil => simp [atKey] at h
    | cons x xs => simp
  · simp
theorem putK_nd {kvs : List (Key × V)} {k : Key} {v : V} (nd : (kvs.map (·.1)).Nodup) : ((putK kvs k v).map (·.1)).Nodup := by
  cases q : valV kvs k with
  | none => exact nd_putK v nd q
  | some w =>
    unfold putK
    rw [if_pos (by rw [valV_any, q]; rfl), List.map_map]
    have : ((fun x : Key × V => x.1) ∘ fun kv => if kv.1 = k then (kv.1, v) else kv) = fun x => x.1 := by
      funext x
      simp only [Function.comp]
      split <;> rfl
    rw [this]
    exact nd
theorem set_all (hu : X.A.units + 65 < cLine) : PSet X (SetV X ca) := by
  intro pins s σ H o i v ov iv u Q I ro ri rv ⟨Z, l, ob, k, d, o', e1, hr, nz, hk, hd, e, q⟩
  subst e1
  have mu : Mut (H l) := hr.mut l List.mem_cons_self
  have kp : ∀ u', Kp Z X.K H Z (upd H l u') := fun u' => kp_l (G := gx X ca) hr nz
  have hro := ro
  cases ro
  cases ob with
  | lst ds =>
    cases k with
    | int j =>
      simp only [setS] at e
      split at e
      · rename_i j' hj
        cases e
        obtain ⟨xs, hl, dz⟩ := hr.lst_of
        cases hk
        exact set_list pins s σ H _ _ v _ iv u Q I hro ri rv ⟨l, xs, j, j', rfl, rfl, hl, by rw [dz.length]; exact hj, q _ (Ro.lst_new (G := gx X ca) hr nz (dz.set _ hd))⟩
      · cases e
    | _ => simp [setS] at e
  | dic es =>
    simp only [setS] at e
    split at e
    · rename_i hc
      cases e
      obtain ⟨hc, hsz⟩ := hc
      rcases Bool.or_eq_true_iff.mp hc with hc | hc
      · rw [Bool.and_eq_true] at hc
        obtain ⟨κ, hκ⟩ := Option.isSome_iff_exists.mp hc.1
        cases hr with
        | dic e1 h1 h2 nd =>
          rename_i kvs
          obtain rfl := key_v hk hκ
          have hl := h1.length
          rw [List.length_map, List.length_map] at hl
          refine d_setItem (by omega) I (DPut.k (k := κ) (v := v) e1 (by omega)) ri rv fun s' I' => ⟨_, I', q _ ?_⟩
          obtain ⟨p1, p2⟩ := dput_ok h1 h2 hκ hk hd
          exact .dic upd_same (p1.kp (kp _)) (p2.kp (kp _)) (putK_nd nd)
        | dct e1 hx nd ne => exact absurd (all_nkey hx hc.2) ne
      · rw [Bool.and_eq_true] at hc
        obtain ⟨κ, hκ⟩ := Option.isSome_iff_exists.mp hc.1
        obtain ⟨hκ1, hκ2⟩ := nkOf_some hκ
        obtain ⟨ts, rfl⟩ := nkey_ref hκ
        cases hk with
        | tup hq hts =>
          rename_i b ws
          cases ri
          have hb : Dz Z X.K H (.tuple ts) (.ref b) := .tup hq hts
          have his : (nestedKind X.prog X.w).is s.heap κ b := ⟨nested_is I hb rfl hκ1, hκ2⟩
          have go : ∀ xs, s.heap.DictOfH (nestedKind X.prog X.w) l xs → (l == sysModules) = false → xs.length = es.length → Paired (NEnt Z X.K H) xs es → (xs.map (·.1)).Nodup →
              wpAny (model X.prog X.w) X.A (setItem (.ref l) (.ref b) u) (fun _ s' => ∃ H', Inv X pins σ H' s' ∧ Q H') X.xe s := fun xs hm hs hlen hx nd => by
            have hst : (storedH xs κ b u).length ≤ sizeLine := by
              have := Paired.length (nent_store hκ1 hκ2 hb hd rv hx)
              have h2 := len_dput es (.tuple ts) d
              omega
            refine wpAny_setItem_heap (hsz := by omega) (show X.A.units + 1 + 8 < cLine by omega) his hm fun h' hm' sb => ?_
            have he : ∃ q, h'.get? l = some q := let ⟨q, _, _, hq, _⟩ := hm'; ⟨q, hq⟩
            refine ⟨_, d_write I mu sb he (ndict_ok (K := X.K) (gx X ca) rfl rfl hm' hs hst), q _ ?_⟩
            have hp := nent_store hκ1 hκ2 hb hd rv hx
            exact .dct upd_same (Paired.mapP hp fun p q ⟨h1, h2, h3, v, h4, h5⟩ => ⟨h1, h2, h3.kp (kp _), v, h4, h5.kp (kp _)⟩) (storedH_keys nd) storedH_ne
          cases hr with
          | dic e1 h1 h2 nd =>
            obtain ⟨rfl, rfl⟩ := all_key h1 hc.2
            obtain ⟨m1, m2⟩ := ndict_nil I e1
            exact go [] m1 m2 rfl .nil List.nodup_nil
          | dct e1 hx nd ne =>
            obtain ⟨m1, m2, _⟩ := ndict_at I rfl rfl e1 hx
            exact go _ m1 m2 (Paired.length hx) hx nd
    · cases e
  | _ => simp [setS] at e
end
end Eng
set_option maxHeartbeats 1000000
/-! The engine, part 14: stores to items as statements, tuples unpacked, extend, loops. -/
namespace Eng
open PySem PySem.Spec L2
open PyProof.Rows hiding St

section
variable {X : Cx} {ca : Nat → Addr} {W : WX} {f g : ES} {as : AS} {G : Gx} {b : SS} {t : TS'}
variable {θ : Nat → V} {Z Z1 : Zs} {L L1 F : List Addr} {H H1 : Hp} {σ : L2.St} {ρ ρ1 : En} {Dn : Ends}
/-! ### x[k] = e -/
def putAtE (i : Nat) (ρ : En) (pd pk : Opd) : SOut := match give ρ pd with
  | some (d, ρ1) => match give ρ1 pk with
    | some (k, ρ2) => match ρ2[i]? with
      | some (some (p, o)) => match setS o k d with
        | some o' => .nx (ρ2.set i (some (p, o')))
        | none => .stuck
      | _ => .stuck
    | none => .stuck
  | none => .stuck
def sPut (i : Nat) (fk fv : ES) : SS := fun ρ => (fv ρ).bindS fun pd ρ1 => match slotO ρ1 i with
  | some _ => (fk ρ1).bindS fun pk ρ2 => putAtE i ρ2 pd pk
  | none => .stuck
theorem Held.two {p1 p2 : Opd} {v1 v2 : V} (h : Held G Z H σ L [p1, p2] [v1, v2] F) : ∃ F1 F2, F = F1 ++ F2 ∧ Held G Z H σ (F2 ++ L) [p1] [v1] F1 ∧ Held G Z H σ L [p2] [v2] F2 := by
  obtain ⟨F1, F2, rfl, h1, h2⟩ := h.ok.cons_split
  have n := List.nodup_append.mp h.nd
  have n2 := List.nodup_append.mp n.1
  refine ⟨F1, F2, rfl, ⟨h1, by rw [← List.append_assoc]; exact h.nd, fun a ha => h.dis a (List.mem_append_left _ ha)⟩, ⟨h2, List.nodup_append.mpr ⟨n2.2.1, n.2.1, fun a ha b hb => n.2.2 a (List.mem_append_right _ ha) b hb⟩, fun a ha => h.dis a (List.mem_append_right _ ha)⟩⟩
theorem give_two {p1 p2 : Opd} {v1 v2 : V} {d1 d2 : D} {ρ1 ρ2 : En} (r : Rep θ G Z H ρ σ L) (h : Held G Z H σ L [p1, p2] [v1, v2] F) (e1 : give ρ p1 = some (d1, ρ1)) (e2 : give ρ1 p2 = some (d2, ρ2)) :
    ∃ Z' L', Rep θ G Z' H ρ2 σ L' ∧ Dz Z' G.K H d1 v1 ∧ Dz Z' G.K H d2 v2 ∧ Step Z (F ++ L) H Z' L' H := by
  obtain ⟨Z', L', r', d', s'⟩ := gives_ok (ds := [d1, d2]) (ρ' := ρ2) r h (by simp [gives, e1, e2])
  cases d' with
  | cons q1 t =>
    cases t with
    | cons q2 t => exact ⟨Z', L', r', q1, q2, s'⟩
theorem ss_put {ie e : Expr} {i : Nat} {x : Str} {px pos' pos : Pos} (hu : X.A.units + 65 < cLine) (hN : X.N[i]? = some x) (hv : Vis X.env.scope x) (hd : (x == ("__debug__" : Str)) = false) (hcd : (x == ("__classdict__" : Str)) = false)
    (hi : PE X ie (RdE X ca W f)) (he : PE X e (RdE X ca W g)) (hsw : swapsWithSole [.Subscript (.Name x px) ie pos'] e pos.line X.env = pure false) (hw : swappedStores [.Subscript (.Name x px) ie pos'] e X.env = pure none)
    (h1 : (assignEach [.Subscript (.Name x px) ie pos'] X.env).map (·.2) = [assign (.Subscript (.Name x px) ie pos') X.env])
    (ha : ∀ v, assign (.Subscript (.Name x px) ie pos') X.env v = (do
      let ov ← holding [v] (eval (.Name x px) X.env)
      let iv ← holding [v, ov] (eval ie X.env)
      standAt pos'
      holding [v, ov, iv] (setItem ov iv v)
      release [v, ov, iv] [])) : PS X (.Assign [.Subscript (.Name x px) ie pos'] e pos) (RdS X ca W (sPut i f g)) :=
  PS.imp (ps_asg he (pg_sub (se_name (ca := ca) (W := W) (i := i) hN hv hd hcd) hi (set_all (ca := ca) hu) ha) hsw hw h1) fun D σ H ⟨θ, Z, ρ, L, r, q⟩ =>
    rd_ES r q fun pd ρ1 Z1 H1 L1 F1 vd q r1 h1 s1 => by
      cases e0 : slotO ρ1 i with
      | none => rw [e0] at q; exact q.elim
      | some o0 =>
        rw [e0] at q
        simp only at q
        refine ⟨θ, Z1, ρ1, L1, r1, ?_⟩
        unfold oNm
        rw [e0]
        intro Z2 H2 L2 F2 v r2 h2 s2
        obtain ⟨rfl, hv2⟩ := h2.nm
        have s2' : Step Z1 L1 H1 Z2 L2 H2 := s2
        have hd2 := h1.carryM r1.sl.mut r1.dis s2' r2.nd
        have s12 : Step Z L H Z2 (F1 ++ L2) H2 := s1.then s2'
        refine ⟨θ, Z2, ρ1, L2, r2, ?_⟩
        cases ek : f ρ1 with
        | stuck => rw [ek] at q; exact q
        | exc c ρ2 => rw [ek] at q; exact fun Z' H' L' r' s' => q Z' H' L' σ r' ((s12.sub fun a h => List.mem_append_right _ h).trans s')
        | ok pk ρ2 =>
          rw [ek] at q
          simp only [bindS_ok] at q
          intro Z3 H3 L3 F3 vk r3 h3 s3
          have hd3 := (hd2.carry r2 s3 h3.nd).join h3
          have s13 : Step Z L H Z3 ((F1 ++ F3) ++ L3) H3 := by rw [List.append_assoc]; exact s12.then s3
          unfold putAtE at q
          split at q
          · rename_i d ρ3 e1
            split at q
            · rename_i k ρ4 e2
              split at q
              · rename_i p o e3
                split at q
                · rename_i o' e4
                  obtain ⟨Z4, L4, r4, d4, k4, s4⟩ := give_two r3 hd3 e1 e2
                  obtain ⟨l, w1, w2, w3, w4, w5⟩ := r4.wr e3 (setS_own e4)
                  rw [hv2] at w1
                  cases w1
                  refine ⟨Z4, l, o, k, d, o', rfl, w2, w4, k4, d4, e4, fun u' ro' => ?_⟩
                  obtain ⟨r5, s5⟩ := w5 o' u' ro'
                  exact q Z4 _ L4 σ r5 ((s13.trans s4).trans s5)
                · exact q.elim
              · exact q.elim
            · exact q.elim
          · exact q.elim

/-! ### x.extend(e) -/
def oExt (i : Nat) (f : ES) : ES := fun ρ => match slotO ρ i with
  | some o0 => if isLstO o0 = true then (f ρ).bind fun p ρ1 => match look ρ1 p with
      | some o1 => match o1.seq? with
        | some zs => mutE (fun o => match o with
          | .lst ds => if ds.length + zs.length ≤ sizeLine then some (.lst (ds ++ zs), .none) else none
          | _ => none) i ρ1
        | none => .stuck
      | none => .stuck
    else .stuck
  | none => .stuck
theorem rb_seqL {o : O} {v : V} {ds : List D} (h : Rb G Z H o v) (e : o.seq? = some ds) : ∃ a xs, v = .ref a ∧ (H a = some (.lst xs) ∨ SqT G.K H a xs) ∧ DzA Z G.K H ds xs := by
  obtain ⟨F, h⟩ := h
  cases h with
  | lst e1 h1 => cases e; exact ⟨_, _, rfl, .inl e1, h1⟩
  | val h1 =>
    cases h1 with
    | lst z r h => cases e; exact ⟨_, _, rfl, .inl r, h⟩
    | tup r h => cases e; exact ⟨_, _, rfl, .inr r, h⟩
    | _ => cases e
  | _ => cases e
theorem rd_ext {i : Nat} {Q : VK} (q : RdE X ca W (oExt i f) σ H Q) : tBM X.K "list" (rExtA X.K) (RdE X ca W (oNm i)) (RdA X ca W (oAs [f])) σ H Q := by
  obtain ⟨θ, Z, ρ, L, rr, q⟩ := q
  unfold oExt at q
  cases e0 : slotO ρ i with
  | none => rw [e0] at q; exact q.elim
  | some o0 =>
    rw [e0] at q
    by_cases hl : isLstO o0 = true
    · simp only [hl, if_true] at q
      refine ⟨θ, Z, ρ, L, rr, ?_⟩
      unfold oNm
      rw [e0]
      intro Z1 H1 L1 F v r1 h1 s1
      obtain ⟨rfl, hv⟩ := h1.nm
      refine ⟨isLst_ty (r1.look e0 hv) hl, θ, Z1, ρ, L1, r1, ?_⟩
      unfold oAs
      cases ea : f ρ with
      | stuck => rw [ea] at q; exact q
      | exc c ρ1 => rw [ea] at q; exact fun Z' H' L' r' s' => q Z' H' L' r' (s1.trans s')
      | ok p ρ1 =>
        rw [ea] at q
        simp only [bind_ok] at q
        intro Z2 H2 L2 F2 vs r2 h2 s2
        obtain ⟨y, rfl⟩ : ∃ y, vs = [y] := by
          have ho := h2.ok
          cases ho with
          | tmp _ t => cases t; exact ⟨_, rfl⟩
          | nm _ t => cases t; exact ⟨_, rfl⟩
        split at q
        · rename_i o1 e1
          split at q
          · rename_i zs e2
            unfold mutE at q
            split at q
            · rename_i p' o e3
              split at q
              · rename_i o' res e4
                have hy := look_ok r2 h2 e1
                obtain ⟨bb, us, rfl, hb, dzz⟩ := rb_seqL hy e2
                have hown : own1 o = true := by
                  cases o <;> first | rfl | (simp at e4)
                obtain ⟨l, w1, w2, w3, w4, w5⟩ := r2.wr e3 hown
                rw [hv] at w1
                cases w1
                cases o with
                | lst ds =>
                  simp only at e4
                  split at e4
                  · rename_i hz
                    cases e4
                    obtain ⟨xs, hx, dzx⟩ := w2.lst_of
                    refine ⟨l, bb, xs, us, rfl, rfl, hx, hb, by rw [dzx.length, dzz.length]; exact hz, ?_⟩
                    obtain ⟨r4, s4⟩ := w5 (.lst (ds ++ zs)) _ (Ro.lst_new (G := gx X ca) w2 w4 (dzx.append dzz))
                    exact q Z2 _ L2 [] .non r4 (.tmp (.val .non) r4.nd (fun _ q => by cases q)) ((s1.trans (s2.sub fun a h => List.mem_append_right _ h)).trans s4)
                  · cases e4
                | _ => simp at e4
              · exact q.elim
            · exact q.elim
          · exact q.elim
        · exact q.elim
    · simp only [hl, if_false, Bool.false_eq_true] at q
      exact q.elim
end
end Eng
set_option maxHeartbeats 1000000
/-! zip of a list and a tuple. -/
namespace ZM
open PySem PySem.Spec PyProof.Rows RZ
section
variable {prog : Program} {w : World} {A : Around} {E : Value → Shared → Prop} {s : Shared}
end
section
variable {prog : Program} {w : World} {A : Around} {E : Value → Shared → Prop} {s : Shared}
end
end ZM
namespace ZM
open PySem PySem.Spec PyProof.Rows L2 RZ
def ItzM (K : PySem.W.Frag) (a b : Addr) : It :=
  ⟨fun i H => ∃ (xs ys : List V) (x y : V), SqL K H a xs ∧ SqT K H b ys ∧ xs[i]? = some x ∧ ys[i]? = some y,
    fun i H v H' => ∃ T x y, v = .ref T ∧ H T = none ∧ H' = upd H T (.tup [x, y]) ∧ (∀ xs, SqL K H a xs → xs[i]? = some x) ∧ ∀ ys, SqT K H b ys → ys[i]? = some y,
    fun i H => ∃ xs ys : List V, SqL K H a xs ∧ SqT K H b ys ∧ (xs.length ≤ i ∨ ys.length ≤ i)⟩
end ZM
set_option maxHeartbeats 1000000
/-! enumerate of a tuple. -/
namespace ZE
open PySem PySem.Spec PyProof.Rows RZ
open AutoSeq1 (wpAny_loadPart')
section
variable {prog : Program} {w : World} {A : Around} {E : Value → Shared → Prop} {s : Shared}
end
end ZE
namespace ZE
open PySem PySem.Spec PyProof.Rows L2 RZ
/-- the tuple at a, each item in a new pair -/
def IteT (K : PySem.W.Frag) (a : Addr) : It :=
  ⟨fun i H => ∃ (xs : List V) (x : V), SqT K H a xs ∧ xs[i]? = some x, fun i H v H' => ∃ T x, v = .ref T ∧ H T = none ∧ H' = upd H T (.tup [.int (i : Nat), x]) ∧ ∀ xs, SqT K H a xs → xs[i]? = some x, fun i H => ∃ xs : List V, SqT K H a xs ∧ xs.length = i⟩
end ZE
set_option maxHeartbeats 1000000
/-! The engine, part 15: what is walked; targets; for. -/
namespace Eng
open PySem PySem.Spec L2
open PyProof.Rows hiding St

section
variable {X : Cx} {ca : Nat → Addr} {W : WX} {f g : ES} {as : AS} {G : Gx} {b : SS} {t : TS'}
variable {θ θ' : Nat → V} {Z Z1 Z0 Z' : Zs} {L L1 L0 L' F : List Addr} {H H1 H0 H' : Hp} {σ σ' : L2.St} {ρ ρ1 ρ' : En} {Dn : Ends}
/-! ### names forgotten -/
def dropE1 (i : Nat) (ρ : En) : En := match ρ[i]? with
  | some (some (false, _)) => ρ.set i none
  | _ => ρ
def dropE : List Nat → En → En
  | [], ρ => ρ
  | i :: is, ρ => dropE is (dropE1 i ρ)
theorem Rep.drop1 (r : Rep θ G Z H ρ σ L) (i : Nat) : ∃ L', Rep θ G Z H (dropE1 i ρ) σ L' ∧ ∀ a ∈ L', a ∈ L := by
  unfold dropE1
  split
  · rename_i o e
    obtain ⟨F, L', v, _, _, r', _, _, h, _⟩ := r.lift e
    exact ⟨L', r', fun a ha => (h a).mp (List.mem_append_right _ ha)⟩
  · exact ⟨L, r, fun _ h => h⟩
theorem Rep.drop : ∀ (is : List Nat) {ρ : En} {L : List Addr}, Rep θ G Z H ρ σ L → ∃ L', Rep θ G Z H (dropE is ρ) σ L' ∧ ∀ a ∈ L', a ∈ L
  | [], _, L, r => ⟨L, r, fun _ h => h⟩
  | i :: is, _, _, r => by
    obtain ⟨L1, r1, h1⟩ := r.drop1 i
    obtain ⟨L2, r2, h2⟩ := Rep.drop is r1
    exact ⟨L2, r2, fun a h => h1 a (h2 a h)⟩

/-! ### targets -/
inductive Tgt where
  | nm (i : Nat)
  | tup (is : List Nat)
def setDs : List Nat → List D → En → Option En
  | [], [], ρ => some ρ
  | i :: is, d :: ds, ρ => match setE i (.val d) ρ with
    | some ρ1 => setDs is ds ρ1
    | none => none
  | _, _, _ => none
def Tgt.put : Tgt → D → En → Option En
  | .nm i, d, ρ => setE i (.val d) ρ
  | .tup is, .tuple ds, ρ => setDs is ds ρ
  | _, _, _ => none
def Tgt.slots : Tgt → List Nat
  | .nm i => [i]
  | .tup is => is
/-- the slots but these are as they were -/
def Agr (is : List Nat) (σ σ' : L2.St) : Prop := σ'.length = σ.length ∧ ∀ i, i ∉ is → σ'[i]? = σ[i]?
theorem Agr.set {i : Nat} {is : List Nat} {x : Option V} (h : i ∈ is) : Agr is σ (σ.set i x) := ⟨by simp, fun j hj => List.getElem?_set_ne (show i ≠ j from fun e => hj (e ▸ h))⟩
theorem Agr.trans {is : List Nat} {σ1 σ2 σ3 : L2.St} (h1 : Agr is σ1 σ2) (h2 : Agr is σ2 σ3) : Agr is σ1 σ3 := ⟨h2.1.trans h1.1, fun i hi => (h2.2 i hi).trans (h1.2 i hi)⟩
theorem Agr.mono {is js : List Nat} {σ1 σ2 : L2.St} (h1 : Agr is σ1 σ2) (h : ∀ i ∈ is, i ∈ js) : Agr js σ1 σ2 := ⟨h1.1, fun i hi => h1.2 i fun q => hi (h i q)⟩
def tgR (X : Cx) (ca : Nat → Addr) (T : Tgt) : TG := fun v σ H Q => ∃ θ Z ρ L d ρ', Rep θ (gx X ca) Z H ρ σ L ∧ Dz Z X.K H d v ∧ T.put d ρ = some ρ' ∧ ∀ σ' L', Rep θ (gx X ca) Z H ρ' σ' L' → (∀ a ∈ L', a ∈ L) → Agr T.slots σ σ' → Q σ' H
def tgsR (X : Cx) (ca : Nat → Addr) (is : List Nat) : TGs := fun vs σ H Q => ∃ θ Z ρ L ds ρ', Rep θ (gx X ca) Z H ρ σ L ∧ DzA Z X.K H ds vs ∧ setDs is ds ρ = some ρ' ∧ ∀ σ' L', Rep θ (gx X ca) Z H ρ' σ' L' → (∀ a ∈ L', a ∈ L) → Agr is σ σ' → Q σ' H
theorem PG.imp {tg : Expr} {t t' : TG} (h : PG X tg t) (i : ∀ v σ H Q, t' v σ H Q → t v σ H Q) : PG X tg t' := ⟨fun pins s σ H v u Q I r q => h.run pins s σ H v u Q I r (i v σ H Q q)⟩
theorem PGs.imp {tg : List Expr} {t t' : TGs} (h : PGs X tg t) (i : ∀ v σ H Q, t' v σ H Q → t v σ H Q) : PGs X tg t' := ⟨fun pins s σ H v u Q I r q => h.run pins s σ H v u Q I r (i v σ H Q q)⟩
theorem setE_val {i : Nat} {d : D} {v : V} (r : Rep θ G Z H ρ σ L) (h : Dz Z G.K H d v) (e : setE i (.val d) ρ = some ρ') : ∃ L', Rep θ G Z H ρ' (σ.set i (some v)) L' ∧ ∀ a ∈ L', a ∈ L := by
  obtain ⟨L', r', h'⟩ := setE_ok (F := []) r (.tmp (.val h) r.nd (fun _ q => by cases q)) e
  exact ⟨L', r', fun a ha => by simpa using h' a ha⟩
theorem sg_name {i : Nat} {x : Str} {pos : Pos} (hN : X.N.Nodup) (hi : X.N[i]? = some x) (hx : Loc X.env.scope x) (hf : X.fn x = true ∨ X.env.scope.names.lookup x = some .local) : PG X (.Name x pos) (tgR X ca (.nm i)) :=
  PG.imp (pg_name hN hi hx hf) fun v σ H Q ⟨θ, Z, ρ, L, d, ρ', r, hd, e, q⟩ => by
    obtain ⟨L', r', h'⟩ := setE_val r hd e
    exact q _ L' r' h' (Agr.set (by simp [Tgt.slots]))
theorem sg_nil : PGs X [] (tgsR X ca []) := PGs.imp pgs_nil fun vs σ H Q ⟨θ, Z, ρ, L, ds, ρ', r, hd, e, q⟩ => by
  cases hd with
  | nil =>
    cases e
    exact ⟨rfl, q σ L r (fun _ h => h) ⟨rfl, fun _ _ => rfl⟩⟩
  | cons => cases e
theorem sg_cons {es : List Expr} {i : Nat} {is : List Nat} {x : Str} {pos : Pos} (h1 : PG X (.Name x pos) (gName i)) (h2 : PGs X es (tgsR X ca is)) (hs : (assignEach (.Name x pos :: es) X.env).map (·.2) = assign (.Name x pos) X.env :: (assignEach es X.env).map (·.2)) :
    PGs X (.Name x pos :: es) (tgsR X ca (i :: is)) := PGs.imp (pgs_cons h1 h2 hs) fun vs σ H Q ⟨θ, Z, ρ, L, ds, ρ', r, hd, e, q⟩ => by
  cases hd with
  | nil => cases e
  | cons hd ht =>
    unfold setDs at e
    split at e
    · rename_i ρ1 e1
      obtain ⟨L1, r1, h1⟩ := setE_val r hd e1
      exact ⟨_, _, rfl, θ, Z, ρ1, L1, _, ρ', r1, ht, e, fun σ' L' r' h' ag => q σ' L' r' (fun a ha => h1 a (h' a ha)) ((Agr.set List.mem_cons_self).trans (ag.mono fun j hj => List.mem_cons_of_mem _ hj))⟩
    · cases e
theorem sg_tup {es : List Expr} {k : Nat} {is : List Nat} {pos : Pos} (hc : X.calm = true) (h : PGs X es (tgsR X ca is)) (hn : (assignEach es X.env).length = is.length) (hst : (assignEach es X.env).findIdx? (·.1) = none) : PG X (.Tuple es k pos) (tgR X ca (.tup is)) :=
  PG.imp (pg_tup hc h hn hst) fun v σ H Q ⟨θ, Z, ρ, L, d, ρ', r, hd, e, q⟩ => by
    cases d with
    | tuple ds =>
      cases hd with
      | tup hq hds =>
        refine ⟨_, _, rfl, hq, ?_, θ, Z, ρ, L, ds, ρ', r, hds, e, q⟩
        have len : ∀ {is : List Nat} {ds : List D} {ρ : En}, setDs is ds ρ = some ρ' → ds.length = is.length := by
          intro is
          induction is with
          | nil =>
            intro ds ρ e
            cases ds with
            | nil => rfl
            | cons => cases e
          | cons i is ih =>
            intro ds ρ e
            cases ds with
            | nil => cases e
            | cons d ds =>
              unfold setDs at e
              split at e
              · rw [List.length_cons, List.length_cons, ih e]
              · cases e
        rw [hds.length]
        exact len e
    | _ => cases e

/-! ### what is walked -/
def signs (z : Str) : List D := z.cps.toList.map fun c => .str ⟨#[c]⟩
def zipD : List D → List D → List D
  | d :: ds, e :: es => .tuple [d, e] :: zipD ds es
  | _, _ => []
def enumD : Nat → List D → List D
  | _, [] => []
  | k, d :: ds => .tuple [.int (k : Nat), d] :: enumD (k + 1) ds
def rng (lo : Int) (n : Nat) : List D := (List.range n).map fun k => .int (lo + (k : Nat))
abbrev IS := En → Out (Option Nat × List D)
/-- where the items come from -/
inductive Src (G : Gx) (Z : Zs) (H : Hp) (ρ : En) (σ : L2.St) (L : List Addr) : It → List D → Option Nat → List Addr → Prop
  | frz {a : Addr} {xs : List V} {ds : List D} (z : Z a) (e : H a = some (.lst xs)) (h : DzA Z G.K H ds xs) : Src G Z H ρ σ L (Itl G.K a) ds none []
  | tup {a : Addr} {xs : List V} {ds : List D} (e : SqT G.K H a xs) (h : DzA Z G.K H ds xs) : Src G Z H ρ σ L (Itt G.K a) ds none []
  | slot {j : Nat} {p : Bool} {a : Addr} {ds : List D} (e : ρ[j]? = some (some (p, .lst ds))) (h : σ[j]? = some (some (.ref a))) : Src G Z H ρ σ L (Itl G.K a) ds (some j) []
  | aside {a : Addr} {ds : List D} {F : List Addr} (h : Ro G Z H (.lst ds) (.ref a) F) (nd : (F ++ L).Nodup) (dis : ∀ a ∈ F, ¬ Z a) : Src G Z H ρ σ L (Itl G.K a) ds none F
  | rng {lo : Int} {n : Nat} : Src G Z H ρ σ L (Itr lo n) (rng lo n) none []
  | str {z : Str} : Src G Z H ρ σ L (Its z) (signs z) none []
  | zip {a b : Addr} {xs ys : List V} {ds es : List D} (z : Z a) (e : H a = some (.lst xs)) (h : DzA Z G.K H ds xs) (e2 : SqT G.K H b ys) (h2 : DzA Z G.K H es ys) : Src G Z H ρ σ L (ZM.ItzM G.K a b) (zipD ds es) none []
  | enumT {a : Addr} {xs : List V} {ds : List D} (e : SqT G.K H a xs) (h : DzA Z G.K H ds xs) : Src G Z H ρ σ L (ZE.IteT G.K a) (enumD 0 ds) none []
  | dic {a : Addr} {ob : Obj} {kvs : List (Key × V)} {ds : List D} (e : H a = some (.frz ob (.dK kvs))) (h : DzA Z G.K H ds (kvs.map fun p => kV p.1)) : Src G Z H ρ σ L (Itk a ob kvs) ds none []
/-- the walk through the turns -/
structure Wlk (θ : Nat → V) (G : Gx) (chk : En → Prop) (J : It) (ds : List D) (Ok : Zs → Hp → En → List Addr → Prop) : Prop where
  go : ∀ {Z H ρ σ L M} (i : Nat), i < ds.length → Rep θ G Z H ρ σ L → Ok Z H ρ M → J.go i H
  stop : ∀ {Z H ρ σ L M}, Rep θ G Z H ρ σ L → Ok Z H ρ M → J.stop ds.length H
  yld : ∀ {Z H ρ σ L M} (i : Nat) (d : D) (x : V) (H' : Hp), ds[i]? = some d → Rep θ G Z H ρ σ L → Ok Z H ρ M → J.yld i H x H' → Same H H' ∧ Dz Z G.K H' d x
  step : ∀ {Z H ρ M Z' H' ρ' M'}, (∀ a ∈ M, Mut (H a)) → (∀ a ∈ M, ¬ Z a) → Ok Z H ρ M → Step Z M H Z' M' H' → M'.Nodup → chk ρ' → Ok Z' H' ρ' M'
def chkE : Option (Nat × List D) → En → Prop
  | none, _ => True
  | some (j, ds), ρ => ρ[j]? = some (some (true, .lst ds))
theorem ok_list {K : PySem.W.Frag} {a : Addr} {xs : List V} {ds : List D} (e : SqL K H a xs) (h : DzA Z K H ds xs) : (∀ i, i < ds.length → (Itl K a).go i H) ∧ (Itl K a).stop ds.length H ∧ ∀ i d x H', ds[i]? = some d → (Itl K a).yld i H x H' → H' = H ∧ Dz Z K H d x := by
  refine ⟨fun i hi => ?_, ⟨xs, e, Nat.le_of_eq h.length⟩, fun i d x H' hd y => ?_⟩
  · have : i < xs.length := by rw [h.length]; exact hi
    exact ⟨xs, xs[i], e, by simp [this]⟩
  · obtain ⟨v, hv, dv⟩ := h.get hd
    have := y.2 xs e
    rw [hv] at this
    cases this
    exact ⟨y.1, dv⟩
theorem ok_tup {K : PySem.W.Frag} {a : Addr} {xs : List V} {ds : List D} (e : SqT K H a xs) (h : DzA Z K H ds xs) : (∀ i, i < ds.length → (Itt K a).go i H) ∧ (Itt K a).stop ds.length H ∧ ∀ i d x H', ds[i]? = some d → (Itt K a).yld i H x H' → H' = H ∧ Dz Z K H d x := by
  refine ⟨fun i hi => ?_, ⟨xs, e, Nat.le_of_eq h.length⟩, fun i d x H' hd y => ?_⟩
  · have : i < xs.length := by rw [h.length]; exact hi
    exact ⟨xs, xs[i], e, by simp [this]⟩
  · obtain ⟨v, hv, dv⟩ := h.get hd
    have := y.2 xs e
    rw [hv] at this
    cases this
    exact ⟨y.1, dv⟩
theorem Rep.kp (r : Rep θ G Z H ρ σ L) (s : Step Z L H Z' L' H') : Kp Z G.K H Z' H' := s.kp r.sl.mut r.dis
theorem zipD_get : ∀ {ds es : List D} {i : Nat} {d : D}, (zipD ds es)[i]? = some d → ∃ a b, ds[i]? = some a ∧ es[i]? = some b ∧ d = .tuple [a, b]
  | [], _, _, _, h => by simp [zipD] at h
  | _ :: _, [], _, _, h => by simp [zipD] at h
  | a :: ds, b :: es, 0, d, h => by
    simp only [zipD, List.getElem?_cons_zero, Option.some.injEq] at h
    exact ⟨a, b, rfl, rfl, h.symm⟩
  | a :: ds, b :: es, i + 1, d, h => by
    simp only [zipD, List.getElem?_cons_succ] at h
    simpa using zipD_get h
theorem zipD_len : ∀ {ds es : List D}, (zipD ds es).length = min ds.length es.length
  | [], _ => by simp [zipD]
  | _ :: _, [] => by simp [zipD]
  | a :: ds, b :: es => by
    simp only [zipD, List.length_cons, zipD_len (ds := ds) (es := es)]
    omega
theorem ok_zip {K : PySem.W.Frag} {a b : Addr} {xs ys : List V} {ds es : List D} (e : SqL K H a xs) (h : DzA Z K H ds xs) (e2 : SqT K H b ys) (h2 : DzA Z K H es ys) : (∀ i, i < (zipD ds es).length → (ZM.ItzM K a b).go i H) ∧ (ZM.ItzM K a b).stop (zipD ds es).length H ∧
    ∀ i d x H', (zipD ds es)[i]? = some d → (ZM.ItzM K a b).yld i H x H' → Same H H' ∧ Dz Z K H' d x := by
  have l1 := h.length
  have l2 := h2.length
  refine ⟨fun i hi => ?_, ⟨xs, ys, e, e2, ?_⟩, fun i d x H' hd y => ?_⟩
  · rw [zipD_len] at hi
    have i1 : i < xs.length := by omega
    have i2 : i < ys.length := by omega
    exact ⟨xs, ys, xs[i], ys[i], e, e2, by simp [i1], by simp [i2]⟩
  · rw [zipD_len]
    omega
  · obtain ⟨p, q, hp, hq, rfl⟩ := zipD_get hd
    obtain ⟨v, hv, dv⟩ := h.get hp
    obtain ⟨w, hw, dw⟩ := h2.get hq
    obtain ⟨T, x', y', rfl, hn, rfl, gx, gy⟩ := y
    have := gx xs e
    rw [hv] at this
    cases this
    have := gy ys e2
    rw [hw] at this
    cases this
    have same : Same H (upd H T (.tup [v, w])) := same_new hn
    exact ⟨same, .tup (.inl (.inl upd_same)) ((DzA.cons dv (.cons dw .nil)).kp (same_kp same))⟩
theorem enumD_len : ∀ {k : Nat} {ds : List D}, (enumD k ds).length = ds.length
  | _, [] => rfl
  | k, _ :: ds => congrArg (· + 1) (enumD_len (k := k + 1) (ds := ds))
theorem enumD_get : ∀ {k : Nat} {ds : List D} {i : Nat} {d : D}, (enumD k ds)[i]? = some d → ∃ a, ds[i]? = some a ∧ d = .tuple [.int ((k + i : Nat) : Int), a]
  | _, [], _, _, h => by simp [enumD] at h
  | k, a :: ds, 0, d, h => by
    simp only [enumD, List.getElem?_cons_zero, Option.some.injEq] at h
    exact ⟨a, rfl, h.symm⟩
  | k, a :: ds, i + 1, d, h => by
    simp only [enumD, List.getElem?_cons_succ] at h
    obtain ⟨b, h1, h2⟩ := enumD_get h
    exact ⟨b, by simpa using h1, by rw [h2, show k + 1 + i = k + (i + 1) by omega]⟩
theorem ok_enumT {K : PySem.W.Frag} {a : Addr} {xs : List V} {ds : List D} (e : SqT K H a xs) (h : DzA Z K H ds xs) : (∀ i, i < (enumD 0 ds).length → (ZE.IteT K a).go i H) ∧ (ZE.IteT K a).stop (enumD 0 ds).length H ∧
    ∀ i d x H', (enumD 0 ds)[i]? = some d → (ZE.IteT K a).yld i H x H' → Same H H' ∧ Dz Z K H' d x := by
  have l1 := h.length
  refine ⟨fun i hi => ?_, ⟨xs, e, ?_⟩, fun i d x H' hd y => ?_⟩
  · rw [enumD_len] at hi
    have i1 : i < xs.length := by omega
    exact ⟨xs, xs[i], e, by simp [i1]⟩
  · rw [enumD_len]
    omega
  · obtain ⟨b, hb, rfl⟩ := enumD_get hd
    obtain ⟨v, hv, dv⟩ := h.get hb
    obtain ⟨T, x', rfl, hn, rfl, gx⟩ := y
    have := gx xs e
    rw [hv] at this
    cases this
    have same : Same H (upd H T (.tup [.int (i : Nat), v])) := same_new hn
    rw [Nat.zero_add]
    exact ⟨same, .tup (.inl (.inl upd_same)) ((DzA.cons (.int _) (.cons dv .nil)).kp (same_kp same))⟩
/-- the walks, but by a name -/
theorem Src.walk {J : It} {ds : List D} (s : Src G Z H ρ σ L J ds none F) : ∃ Ok, Wlk θ G (chkE none) J ds Ok ∧ Ok Z H ρ L := by
  generalize hj : (none : Option Nat) = jo at s
  cases s with
  | frz z e h =>
    rename_i a xs
    refine ⟨fun Z H ρ L => Z a ∧ H a = some (.lst xs) ∧ DzA Z G.K H ds xs, ⟨fun i hi r k => (ok_list (.inl (.inl k.2.1)) k.2.2).1 i hi, fun r k => (ok_list (.inl (.inl k.2.1)) k.2.2).2.1, fun i d x H' hd r k y => ?_, fun mu dz k s _ _ => ?_⟩, z, e, h⟩
    · obtain ⟨rfl, q⟩ := (ok_list (.inl (.inl k.2.1)) k.2.2).2.2 i d x H' hd y
      exact ⟨fun _ _ e => e, q⟩
    · have kp := s.kp (K := G.K) mu dz
      exact ⟨kp.z _ k.1, kp.r _ _ k.1 k.2.1, k.2.2.kp kp⟩
  | tup e h =>
    rename_i a xs
    refine ⟨fun Z H ρ L => SqT G.K H a xs ∧ DzA Z G.K H ds xs, ⟨fun i hi r k => (ok_tup k.1 k.2).1 i hi, fun r k => (ok_tup k.1 k.2).2.1, fun i d x H' hd r k y => ?_, fun mu dz k s _ _ => ?_⟩, e, h⟩
    · obtain ⟨rfl, q⟩ := (ok_tup k.1 k.2).2.2 i d x H' hd y
      exact ⟨fun _ _ e => e, q⟩
    · have kp := s.kp (K := G.K) mu dz
      exact ⟨kp.t _ _ k.1, k.2.kp kp⟩
  | slot => cases hj
  | aside h nd dis =>
    rename_i a
    refine ⟨fun Z H ρ L => Ro G Z H (.lst ds) (.ref a) F ∧ (F ++ L).Nodup ∧ ∀ a ∈ F, ¬ Z a, ⟨fun i hi r k => ?_, fun r k => ?_, fun i d x H' hd r k y => ?_, fun mu dz k s nM _ => ?_⟩, h, nd, dis⟩
    · obtain ⟨xs, e, q⟩ := k.1.lst_of
      exact (ok_list (.inl (.inl e)) q).1 i hi
    · obtain ⟨xs, e, q⟩ := k.1.lst_of
      exact (ok_list (.inl (.inl e)) q).2.1
    · obtain ⟨xs, e, q⟩ := k.1.lst_of
      obtain ⟨rfl, q⟩ := (ok_list (.inl (.inl e)) q).2.2 i d x H' hd y
      exact ⟨fun _ _ e => e, q⟩
    · exact k.1.aside (L' := []) mu dz k.2.1 k.2.2 s nM
  | rng =>
    rename_i lo n
    have hl : (Eng.rng lo n).length = n := by simp [Eng.rng]
    refine ⟨fun _ _ _ _ => True, ⟨fun i hi r k => ?_, fun r k => ?_, fun i d x H' hd r k y => ?_, fun _ _ _ _ _ _ => trivial⟩, trivial⟩
    · rw [hl] at hi; exact hi
    · rw [hl]; exact Nat.le_refl _
    · obtain ⟨rfl, rfl⟩ := y
      have hi : i < n := by
        have := (List.getElem?_eq_some_iff.mp hd).1
        rw [hl] at this; exact this
      have : d = .int (lo + (i : Nat)) := by
        unfold Eng.rng at hd
        rw [List.getElem?_map, List.getElem?_range hi] at hd
        cases hd
        rfl
      subst this
      exact ⟨fun _ _ e => e, .int _⟩
  | str =>
    rename_i z
    have hl : (signs z).length = z.cps.size := by simp [signs]
    refine ⟨fun _ _ _ _ => True, ⟨fun i hi r k => ?_, fun r k => ?_, fun i d x H' hd r k y => ?_, fun _ _ _ _ _ _ => trivial⟩, trivial⟩
    · rw [hl] at hi; exact hi
    · rw [hl]; exact Nat.le_refl _
    · obtain ⟨rfl, c, hc, rfl⟩ := y
      have : d = .str ⟨#[c]⟩ := by
        unfold signs at hd
        rw [List.getElem?_map] at hd
        have : z.cps.toList[i]? = some c := by rw [Array.getElem?_toList]; exact hc
        rw [this] at hd
        cases hd
        rfl
      subst this
      exact ⟨fun _ _ e => e, .str _⟩
  | enumT e h =>
    rename_i a xs ds
    refine ⟨fun Z H ρ L => SqT G.K H a xs ∧ DzA Z G.K H ds xs, ⟨fun i hi r k => (ok_enumT k.1 k.2).1 i hi, fun r k => (ok_enumT k.1 k.2).2.1, fun i d x H' hd r k y => (ok_enumT k.1 k.2).2.2 i d x H' hd y, fun mu dz k s _ _ => ?_⟩, e, h⟩
    have kp := s.kp (K := G.K) mu dz
    exact ⟨kp.t _ _ k.1, k.2.kp kp⟩
  | dic e h =>
    rename_i a ob kvs
    refine ⟨fun Z H ρ L => H a = some (.frz ob (.dK kvs)) ∧ DzA Z G.K H ds (kvs.map fun p => kV p.1), ⟨fun i hi r k => ?_, fun r k => ?_, fun i d x H' hd r k y => ?_, fun mu dz k s _ _ => ?_⟩, e, h⟩
    · refine ⟨k.1, ?_⟩
      have := k.2.length
      rw [List.length_map] at this
      omega
    · refine ⟨k.1, ?_⟩
      have := k.2.length
      rw [List.length_map] at this
      omega
    · obtain ⟨rfl, κ, v, hkv, rfl⟩ := y
      refine ⟨fun _ _ e => e, ?_⟩
      obtain ⟨v', hv', dv⟩ := k.2.get hd
      rw [List.getElem?_map, hkv] at hv'
      cases hv'
      exact dv
    · have kp := s.kp (K := G.K) mu dz
      exact ⟨kp.g _ _ _ k.1, k.2.kp kp⟩
  | zip z e h e2 h2 =>
    rename_i a b xs ys ds es
    refine ⟨fun Z H ρ L => Z a ∧ H a = some (.lst xs) ∧ DzA Z G.K H ds xs ∧ SqT G.K H b ys ∧ DzA Z G.K H es ys, ⟨fun i hi r k => (ok_zip (.inl (.inl k.2.1)) k.2.2.1 k.2.2.2.1 k.2.2.2.2).1 i hi, fun r k => (ok_zip (.inl (.inl k.2.1)) k.2.2.1 k.2.2.2.1 k.2.2.2.2).2.1, fun i d x H' hd r k y => (ok_zip (.inl (.inl k.2.1)) k.2.2.1 k.2.2.2.1 k.2.2.2.2).2.2 i d x H' hd y, fun mu dz k s _ _ => ?_⟩, z, e, h, e2, h2⟩
    have kp := s.kp (K := G.K) mu dz
    exact ⟨kp.z _ k.1, kp.r _ _ k.1 k.2.1, k.2.2.1.kp kp, kp.t _ _ k.2.2.2.1, k.2.2.2.2.kp kp⟩
/-- a walk by a name that is pinned meanwhile -/
theorem wlk_slot {j : Nat} {a : Addr} {ds : List D} (hθ : θ j = .ref a) : Wlk θ G (chkE (some (j, ds))) (Itl G.K a) ds (fun _ _ ρ _ => ρ[j]? = some (some (true, .lst ds))) := by
  have get : ∀ {Z H ρ σ L}, Rep θ G Z H ρ σ L → ρ[j]? = some (some (true, .lst ds)) → ∃ xs, H a = some (.lst xs) ∧ DzA Z G.K H ds xs := fun r e => by
    obtain ⟨v, F, h1, h2, _⟩ := r.sl.get e
    have := r.pn j _ e
    rw [h1, hθ] at this
    cases this
    exact h2.lst_of
  refine ⟨fun i hi r k => ?_, fun r k => ?_, fun i d x H' hd r k y => ?_, fun _ _ _ _ _ k => k⟩
  · obtain ⟨xs, e, q⟩ := get r k
    exact (ok_list (.inl (.inl e)) q).1 i hi
  · obtain ⟨xs, e, q⟩ := get r k
    exact (ok_list (.inl (.inl e)) q).2.1
  · obtain ⟨xs, e, q⟩ := get r k
    obtain ⟨rfl, q⟩ := (ok_list (.inl (.inl e)) q).2.2 i d x H' hd y
    exact ⟨fun _ _ e => e, q⟩

/-! ### for -/
open Classical in
noncomputable def forL (c : Option (Nat × List D)) (T : Tgt) (fg : List Nat) (b : SS) : List D → SS
  | [], ρ => .nx ρ
  | d :: ds, ρ => match T.put d ρ with
    | none => .stuck
    | some ρ1 => match b ρ1 with
      | .nx ρ2 => if chkE c (dropE fg ρ2) then forL c T fg b ds (dropE fg ρ2) else .stuck
      | .ct ρ2 => if chkE c (dropE fg ρ2) then forL c T fg b ds (dropE fg ρ2) else .stuck
      | .bk ρ2 => .nx (dropE fg ρ2)
      | o => o
theorem Wlk.for {c : Option (Nat × List D)} {T : Tgt} {fg : List Nat} {J : It} {ds : List D} {Ok : Zs → Hp → En → List Addr → Prop} (w : Wlk θ (gx X ca) (chkE c) J ds Ok) (r : Rep θ (gx X ca) Z H ρ σ L) (k : Ok Z H ρ L) (s : Step Z0 L0 H0 Z L H)
    (q : PoS X ca W θ Z0 L0 H0 Dn (forL c T fg b ds ρ)) :
    ∃ W' : Nat → Nat → L2.St → Hp → Prop, (∃ m, W' 0 m σ H) ∧ ∀ i m σ H, W' i m σ H →
      (J.stop i H ∧ Dn.nx σ H) ∨ (J.go i H ∧ ∃ N : L2.St → Hp → Prop, (∀ σ' H', N σ' H' → ∃ m', m' < m ∧ W' (i + 1) m' σ' H') ∧ ∀ x H', J.yld i H x H' → tgR X ca T x σ H' fun σ2 H2 => RdS X ca W b { Dn with nx := N, ct := N, bk := Dn.nx } σ2 H2) := by
  let inv : Nat → L2.St → Hp → Prop := fun i σ H => i ≤ ds.length ∧ ∃ Z ρ L, Rep θ (gx X ca) Z H ρ σ L ∧ Ok Z H ρ L ∧ Step Z0 L0 H0 Z L H ∧ PoS X ca W θ Z0 L0 H0 Dn (forL c T fg b (ds.drop i) ρ)
  refine ⟨fun i m σ H => m = ds.length - i ∧ inv i σ H, ⟨_, rfl, Nat.zero_le _, Z, ρ, L, r, k, s, q⟩, ?_⟩
  rintro i m σ H ⟨rfl, hi, Z, ρ, L, r, k, s, q⟩
  by_cases hlt : i < ds.length
  · refine .inr ⟨w.go i hlt r k, inv (i + 1), fun σ' H' p' => ⟨ds.length - (i + 1), by omega, rfl, p'⟩, fun x H' y => ?_⟩
    have hd : ds[i]? = some ds[i] := by simp [hlt]
    rw [List.drop_eq_getElem_cons hlt] at q
    obtain ⟨same, dz⟩ := w.yld i ds[i] x H' hd r k y
    unfold forL at q
    cases e1 : T.put ds[i] ρ with
    | none => rw [e1] at q; exact q.elim
    | some ρ1 =>
      rw [e1] at q
      simp only at q
      have s0 : Step Z L H Z L H' := ⟨fun a o e _ => same a o e, fun _ h => h, fun _ h => .inl h, fun _ h => .inl h⟩
      refine ⟨θ, Z, ρ, L, ds[i], ρ1, r.same same, dz, e1, fun σ1 L1 r1 sub _ => ⟨θ, Z, ρ1, L1, r1, ?_⟩⟩
      have s1 : Step Z0 L0 H0 Z L1 H' := (s.trans s0).sub sub
      have turn : ∀ ρ2 Z2 H2 L2 σ2, PoS X ca W θ Z0 L0 H0 Dn (open Classical in if chkE c (dropE fg ρ2) then forL c T fg b (ds.drop (i + 1)) (dropE fg ρ2) else .stuck) → Rep θ (gx X ca) Z2 H2 ρ2 σ2 L2 → Step Z L1 H' Z2 L2 H2 → inv (i + 1) σ2 H2 := fun ρ2 Z2 H2 L2 σ2 q r2 s2 => by
        obtain ⟨L3, r3, h3⟩ := r2.drop fg
        split at q
        · rename_i hc
          refine ⟨hlt, Z2, _, L3, r3, w.step r.sl.mut r.dis k (((s0.trans (Step.refl.sub sub)).trans s2).sub h3) r3.nd hc, (s1.trans s2).sub h3, q⟩
        · exact q.elim
      cases eb : b ρ1 with
      | stuck => rw [eb] at q; exact q
      | nx ρ2 => rw [eb] at q; exact fun Z2 H2 L2 σ2 r2 s2 => turn ρ2 Z2 H2 L2 σ2 q r2 s2
      | ct ρ2 => rw [eb] at q; exact fun Z2 H2 L2 σ2 r2 s2 => turn ρ2 Z2 H2 L2 σ2 q r2 s2
      | bk ρ2 =>
        rw [eb] at q
        intro Z2 H2 L2 σ2 r2 s2
        obtain ⟨L3, r3, h3⟩ := r2.drop fg
        exact q Z2 H2 L3 σ2 r3 ((s1.trans s2).sub h3)
      | rt o ρ2 => rw [eb] at q; exact fun Z2 H2 L2 F v σ2 r2 h2 s2 => q Z2 H2 L2 F v σ2 r2 h2 (s1.trans s2)
      | exc c ρ2 => rw [eb] at q; exact fun Z2 H2 L2 σ2 r2 s2 => q Z2 H2 L2 σ2 r2 (s1.trans s2)
  · have e : i = ds.length := by omega
    subst e
    rw [List.drop_length] at q
    exact .inl ⟨w.stop r k, q Z H L σ r s⟩
end
end Eng
set_option maxHeartbeats 1000000
/-! The engine, part 16: iterables read; for and while as statements. -/
namespace Eng
open PySem PySem.Spec L2
open PyProof.Rows hiding St

section
variable {X : Cx} {ca : Nat → Addr} {W : WX} {f g : ES} {as : AS} {G : Gx} {b : SS} {t : TS'} {it : IS}
variable {θ θ' : Nat → V} {Z Z1 Z0 Z' : Zs} {L L1 L0 L' F : List Addr} {H H1 H0 H' : Hp} {σ σ' : L2.St} {ρ ρ1 ρ' : En} {Dn : Ends}
/-! ### iterables -/
def PoI (X : Cx) (ca : Nat → Addr) (W : WX) (θ : Nat → V) (Z : Zs) (L : List Addr) (H : Hp) (σ : L2.St) (R : It → Hp → Prop) : Out (Option Nat × List D) → Prop
  | .ok (j, ds) ρ' => ∀ Z' H' L' F J, Rep θ (gx X ca) Z' H' ρ' σ L' → Step Z L H Z' (F ++ L') H' → Src (gx X ca) Z' H' ρ' σ L' J ds j F → ds.length ≤ sizeLine → R J H'
  | .exc c ρ' => ∀ Z' H' L', Rep θ (gx X ca) Z' H' ρ' σ L' → Step Z L H Z' L' H' → W (.ref (ca c)) none σ H'
  | .stuck => False
def RdI (X : Cx) (ca : Nat → Addr) (W : WX) (f : IS) : TI := fun σ H R => ∃ θ Z ρ L, Rep θ (gx X ca) Z H ρ σ L ∧ PoI X ca W θ Z L H σ R (f ρ)
def itemsD : D → Option (List D)
  | .list ds => some ds
  | .tuple ds => some ds
  | .str z => if z.length ≤ sizeLine then some (signs z) else none
  | .dict es => some (es.map (·.1))
  | _ => none
def itSeq (ρ : En) : Opd → Out (Option Nat × List D)
  | .tmp (.lst ds) => .ok (none, ds) ρ
  | .tmp (.val d) => match itemsD d with
    | some ds => .ok (none, ds) ρ
    | none => .stuck
  | .nm j => match ρ[j]? with
    | some (some (_, .lst ds)) => .ok (some j, ds) ρ
    | some (some (_, .val d)) => match itemsD d with
      | some ds => .ok (none, ds) ρ
      | none => .stuck
    | _ => .stuck
  | _ => .stuck
def iSeq (f : ES) : IS := fun ρ => (f ρ).bind fun p ρ1 => itSeq ρ1 p
/-- by values -/
inductive SrcV (K : PySem.W.Frag) (H : Hp) : V → It → Nat → Prop
  | lst {a : Addr} {xs : List V} (e : SqL K H a xs) : SrcV K H (.ref a) (Itl K a) xs.length
  | tup {a : Addr} {xs : List V} (e : SqT K H a xs) : SrcV K H (.ref a) (Itt K a) xs.length
  | str {z : Str} (h : z.length ≤ sizeLine) : SrcV K H (.str z) (Its z) z.length
  | dic {a : Addr} {ob : Obj} {kvs : List (Key × V)} (e : H a = some (.frz ob (.dK kvs))) : SrcV K H (.ref a) (Itk a ob kvs) kvs.length
theorem pi_any {tg e : Expr} {te : TE} (he : PE X e te) : PI X tg e (fun σ H R => te σ H fun x H1 => ∃ J n, SrcV X.K H1 x J n ∧ (n ≤ sizeLine → R J H1)) := by
  refine ⟨fun pins s σ H R I h => ?_⟩
  refine thn (he.run pins s σ H _ I h) fun v s1 ⟨x, H1, I1, r1, J, n, sr, q⟩ => ?_
  cases sr with
  | lst e =>
    cases r1
    obtain ⟨its, rv, pl, hz⟩ := I1.list e
    exact wpAny_pyIter_list pl.isList (pi_one (tk := s1.toks) I1 _ (turn_list _ _) ⟨_, Heap.get?_push_size _ rfl, rfl, rfl⟩ (q hz))
  | tup e =>
    cases r1
    obtain ⟨its, rv, pl, hz⟩ := I1.tuple e
    exact wpAny_pyIter_tuple pl (pi_one (tk := s1.toks) I1 _ (turn_tuple _ _) ⟨_, Heap.get?_push_size _ rfl, rfl, rfl⟩ (q hz))
  | str hz =>
    rename_i z
    obtain ⟨t, rfl⟩ := r1
    cases ha : z.cps.all (· < 128)
    · exact wpAny_pyIter_wide ha (pi_one (tk := s1.toks) I1 _ (turn_str _ z t "str_iterator" (.inr rfl)) ⟨_, Heap.get?_push_size _ rfl, rfl, rfl⟩ (q hz))
    · exact wpAny_pyIter_ascii ha (pi_one (tk := s1.toks) I1 _ (turn_str _ z t "str_ascii_iterator" (.inl rfl)) ⟨_, Heap.get?_push_size _ rfl, rfl, rfl⟩ (q hz))
  | dic hd =>
    cases r1
    have hz := (dk_rd I1.hok (.inr ⟨_, hd⟩)).1
    obtain ⟨hs, hgd, hx, es, ep, vs, hdt, hsz, kv, hm⟩ := I1.frzK hd
    refine iter_keys hs hgd hx hdt (pi_one (tk := s1.toks) I1 _ (turn_keys _ hdt) ⟨_, Heap.get?_push_size _ rfl, rfl, ?_⟩ (q hz))
    rw [hsz] <;> rfl
theorem PI.imp {tg e : Expr} {t t' : TI} (h : PI X tg e t) (i : ∀ σ H R, t' σ H R → t σ H R) : PI X tg e t' := ⟨fun pins s σ H R I q => h.run pins s σ H R I (i σ H R q)⟩
theorem src_val {d : D} {ds : List D} {v : V} (h : Dz Z G.K H d v) (e : itemsD d = some ds) : ∃ J n, SrcV G.K H v J n ∧ n = ds.length ∧ Src G Z H ρ σ L J ds none [] := by
  unfold itemsD at e
  split at e
  · cases e
    cases h with
    | lst z r h => exact ⟨_, _, .lst (.inl (.inl r)), h.length, .frz z r h⟩
  · cases e
    cases h with
    | tup r h => exact ⟨_, _, .tup r, h.length, .tup r h⟩
  · split at e
    · rename_i z hz
      cases e
      cases h
      exact ⟨_, _, .str hz, by simp [signs, Str.length], .str⟩
    · cases e
  · cases e
    cases h with
    | dic r nd hk hv => exact ⟨_, _, .dic r, by have := hk.length; simpa using this, .dic r hk⟩
  · cases e
theorem si_seq {tg e : Expr} (he : PE X e (RdE X ca W f)) : PI X tg e (RdI X ca W (iSeq f)) := PI.imp (pi_any he) fun σ H R ⟨θ, Z, ρ, L, r, q⟩ => by
  refine ⟨θ, Z, ρ, L, r, ?_⟩
  unfold iSeq at q
  cases e1 : f ρ with
  | stuck => rw [e1] at q; exact q
  | exc c ρ1 => rw [e1] at q; exact q
  | ok p ρ1 =>
    rw [e1] at q
    simp only [bind_ok] at q
    intro Z1 H1 L1 F v r1 h1 s1
    cases p with
    | tmp o =>
      cases o with
      | lst ds =>
        have ho := h1.one
        obtain ⟨a, xs, rfl, rfl, ea, dz⟩ := ho.single
        refine ⟨_, _, .lst (.inl (.inl ea)), fun hz => ?_⟩
        rw [dz.length] at hz
        exact q Z1 H1 L1 _ _ r1 s1 (.aside ho h1.nd h1.dis) hz
      | val d =>
        unfold itSeq at q
        simp only at q
        split at q
        · rename_i ds e2
          have ho := h1.one
          cases ho with
          | val hd =>
            obtain ⟨J, n, sv, rfl, sr⟩ := src_val (ρ := ρ1) (σ := σ) (L := L1) hd e2
            exact ⟨J, _, sv, fun hz => q Z1 H1 L1 [] J r1 (s1.sub fun a h => List.mem_append_right _ h) sr hz⟩
        · exact q.elim
      | _ => exact q.elim
    | nm j =>
      obtain ⟨rfl, hv⟩ := h1.nm
      unfold itSeq at q
      simp only at q
      split at q
      · rename_i pn ds e2
        obtain ⟨v', F', k1, k2, _⟩ := r1.sl.get e2
        rw [hv] at k1
        cases k1
        obtain ⟨a, xs, rfl, _, ea, dz⟩ := k2.single
        refine ⟨_, _, .lst (.inl (.inl ea)), fun hz => ?_⟩
        rw [dz.length] at hz
        exact q Z1 H1 L1 [] _ r1 s1 (.slot e2 hv) hz
      · rename_i pn d e2
        split at q
        · rename_i ds e3
          obtain ⟨v', F', k1, k2, _⟩ := r1.sl.get e2
          rw [hv] at k1
          cases k1
          cases k2 with
          | val hd =>
            obtain ⟨J, n, sv, rfl, sr⟩ := src_val (ρ := ρ1) (σ := σ) (L := L1) hd e3
            exact ⟨J, _, sv, fun hz => q Z1 H1 L1 [] J r1 s1 sr hz⟩
        · exact q.elim
      · exact q.elim
def iRng1 (as : AS) : IS := fun ρ => (as ρ).bind fun ps ρ1 => match looks ρ1 ps with
      | some [.val (.int j)] => if j ≤ 1000000 ∧ -(2 ^ 62) ≤ j then .ok (none, rng 0 j.toNat) ρ1 else .stuck
      | _ => .stuck
def iRng2 (as : AS) : IS := fun ρ => (as ρ).bind fun ps ρ1 => match looks ρ1 ps with
      | some [.val (.int i), .val (.int j)] => if -1000000 ≤ i ∧ i ≤ 1000000 ∧ -1000000 ≤ j ∧ j ≤ 1000000 then .ok (none, rng i (j - i).toNat) ρ1 else .stuck
      | _ => .stuck
theorem rng_len (lo : Int) (n : Nat) : (rng lo n).length = n := by simp [rng]
theorem million : (2000000 : Nat) ≤ sizeLine := by decide
theorem paired_one {α β : Type} {R : α → β → Prop} {a : α} {ys : List β} (h : Paired R [a] ys) : ∃ x, ys = [x] ∧ R a x := by
  cases h with
  | cons h1 t =>
    cases t
    exact ⟨_, rfl, h1⟩
theorem si_rng1 {tg a : Expr} {p pos : Pos} (hg : Gl X "range") (hm : X.mg "range" = none) (ha : PA X [a] (RdA X ca W as)) (hs : starEach [a] X.env = [(false, eval a X.env)]) : PI X tg (.Call (.Name "range" p) [a] [] pos) (RdI X ca W (iRng1 as)) := PI.imp (pi_range1 hg hm ha hs) fun σ H R ⟨θ, Z, ρ, L, r, q⟩ => by
  refine ⟨θ, Z, ρ, L, r, ?_⟩
  unfold iRng1 at q
  cases e1 : as ρ with
  | stuck => rw [e1] at q; exact q
  | exc c ρ1 => rw [e1] at q; exact q
  | ok ps ρ1 =>
    rw [e1] at q
    simp only [bind_ok] at q
    intro Z1 H1 L1 F vs r1 h1 s1
    split at q
    · rename_i j e2
      split at q
      · rename_i hj
        obtain ⟨x, rfl, hx⟩ := paired_one (h1.ok.looks r1 e2)
        cases rb_int hx
        exact ⟨j, rfl, hj.2, by omega, q Z1 H1 L1 [] _ r1 (s1.sub fun a h => List.mem_append_right _ h) .rng (by rw [rng_len]; have := million; omega)⟩
      · exact q.elim
    · exact q.elim
def iZip (f g : ES) : IS := fun ρ => (oAs [f, g] ρ).bind fun ps ρ1 => match gives ρ1 ps with
  | some ([.list ds, .tuple es], ρ2) => if (zipD ds es).length ≤ sizeLine then .ok (none, zipD ds es) ρ2 else .stuck
  | _ => .stuck
/-! ### pins -/
def unpin (j : Nat) (ρ : En) : En := match ρ[j]? with
  | some (some (_, o)) => ρ.set j (some (false, o))
  | _ => ρ
def unpS (j : Nat) : SOut → SOut
  | .nx ρ => .nx (unpin j ρ)
  | .bk ρ => .bk (unpin j ρ)
  | .ct ρ => .ct (unpin j ρ)
  | .rt o ρ => .rt o (unpin j ρ)
  | .exc c ρ => .exc c (unpin j ρ)
  | .stuck => .stuck
theorem RoS.congr : ∀ {ρ ρ' : En} {σ : L2.St} {L : List Addr}, RoS G Z H ρ σ L → ρ'.map (Option.map (·.2)) = ρ.map (Option.map (·.2)) → RoS G Z H ρ' σ L
  | _, [], _, _, .emp, _ => .emp
  | _, _ :: _, _, _, .emp, e => by cases e
  | _, [], _, _, .no t, e => by cases e
  | _, sl :: ρ', _, _, .no t, e => by
    simp only [List.map_cons, List.cons.injEq, Option.map_none, Option.map_eq_none_iff] at e
    obtain ⟨rfl, e⟩ := e
    exact .no (RoS.congr t e)
  | _, [], _, _, .yes h t, e => by cases e
  | _, sl :: ρ', _, _, .yes h t, e => by
    simp only [List.map_cons, List.cons.injEq, Option.map_some, Option.map_eq_some_iff] at e
    obtain ⟨⟨⟨p, o⟩, rfl, rfl⟩, e⟩ := e
    exact .yes h (RoS.congr t e)
theorem map_pin {j : Nat} {p p' : Bool} {o : O} {ρ : En} (e : ρ[j]? = some (some (p, o))) : (ρ.set j (some (p', o))).map (Option.map (·.2)) = ρ.map (Option.map (·.2)) := by
  rw [List.map_set]
  refine set_back ?_
  rw [List.getElem?_map, e]
  rfl
theorem unpin_map (j : Nat) (ρ : En) : (unpin j ρ).map (Option.map (·.2)) = ρ.map (Option.map (·.2)) := by
  unfold unpin
  split
  · rename_i p' o e
    exact map_pin e
  · rfl
theorem unpin_get {j i : Nat} {ρ : En} {o : O} (e : (unpin j ρ)[i]? = some (some (true, o))) : i ≠ j ∧ ρ[i]? = some (some (true, o)) := by
  unfold unpin at e
  split at e
  · rename_i p' o' e'
    by_cases h : i = j
    · subst h
      have li := (List.getElem?_eq_some_iff.mp e').1
      rw [List.getElem?_set_self li] at e
      cases e
    · rw [List.getElem?_set_ne (Ne.symm h)] at e
      exact ⟨h, e⟩
  · rename_i hn
    by_cases h : i = j
    · subst h
      exact absurd e (hn true o)
    · exact ⟨h, e⟩
/-- the pin is taken off -/
theorem Rep.unpin {j : Nat} (r : Rep θ' G Z H ρ σ L) (h : ∀ i, i ≠ j → θ' i = θ i) : Rep θ G Z H (Eng.unpin j ρ) σ L := by
  refine ⟨r.sl.congr (unpin_map j ρ), r.nd, r.dis, r.zd, fun i o e => ?_⟩
  obtain ⟨hi, e'⟩ := unpin_get e
  rw [r.pn i o e', h i hi]
/-- a pin is put on -/
theorem Rep.pinOn {j : Nat} {p : Bool} {o : O} {v : V} (r : Rep θ G Z H ρ σ L) (e : ρ[j]? = some (some (p, o))) (hv : σ[j]? = some (some v)) : Rep (fun i => if i = j then v else θ i) G Z H (ρ.set j (some (true, o))) σ L := by
  refine ⟨r.sl.congr (map_pin e), r.nd, r.dis, r.zd, fun i o' e' => ?_⟩
  by_cases h : i = j
  · subst h
    simp only [if_true]
    exact hv
  · rw [List.getElem?_set_ne (Ne.symm h)] at e'
    simp only [h, if_false]
    exact r.pn i o' e'
theorem PoS.unpin {j : Nat} {o : SOut} (q : PoS X ca W θ Z L H Dn (unpS j o)) (h : ∀ i, i ≠ j → θ' i = θ i) : PoS X ca W θ' Z L H Dn o := by
  cases o with
  | stuck => exact q
  | exc c ρ1 => exact fun Z' H' L' σ' r s => q Z' H' L' σ' (r.unpin h) s
  | nx ρ1 => exact fun Z' H' L' σ' r s => q Z' H' L' σ' (r.unpin h) s
  | bk ρ1 => exact fun Z' H' L' σ' r s => q Z' H' L' σ' (r.unpin h) s
  | ct ρ1 => exact fun Z' H' L' σ' r s => q Z' H' L' σ' (r.unpin h) s
  | rt o ρ1 => exact fun Z' H' L' F v σ' r hh s => q Z' H' L' F v σ' (r.unpin h) hh s

/-! ### for -/
noncomputable def forW (T : Tgt) (fg : List Nat) (b : SS) (x : Option Nat × List D) (ρ : En) : SOut := match x with
  | (none, ds) => forL none T fg b ds ρ
  | (some j, ds) => match ρ[j]? with
    | some (some (true, _)) => forL (some (j, ds)) T fg b ds ρ
    | some (some (false, o)) => unpS j (forL (some (j, ds)) T fg b ds (ρ.set j (some (true, o))))
    | _ => .stuck
noncomputable def sFor (it : IS) (T : Tgt) (fg : List Nat) (b : SS) : SS := fun ρ => (it ρ).bindS fun x ρ1 => forW T fg b x ρ1
theorem ss_for {tg iter : Expr} {body : List Stmt} {T : Tgt} {fg : List Nat} {pos : Pos} (hp : PassesOwn (model X.prog X.w) X.A X.env X.xe) (hc : X.calm = true) (hi : PI X tg iter (RdI X ca W it)) (hg : PG X tg (tgR X ca T)) (hb : PSs X body (RdS X ca W b))
    (hs : ∀ x, foldedSetIterable iter X.env x = pure x) : PS X (.For tg iter body [] pos) (RdS X ca W (sFor it T fg b)) :=
  PS.imp (ps_for hp hc hi hg hb hs) fun Dn σ H ⟨θ, Z, ρ, L, r, q⟩ => by
    refine ⟨θ, Z, ρ, L, r, ?_⟩
    unfold sFor at q
    cases e1 : it ρ with
    | stuck => rw [e1] at q; exact q
    | exc c ρ1 => rw [e1] at q; exact fun Z' H' L' r' s' => q Z' H' L' σ r' s'
    | ok x ρ1 =>
      rw [e1] at q
      obtain ⟨j, ds⟩ := x
      simp only [bindS_ok] at q
      intro Z1 H1 L1 F J r1 s1 sr hz
      cases j with
      | none =>
        obtain ⟨Ok, w, k⟩ := sr.walk (θ := θ)
        exact w.for r1 k (s1.sub fun a h => List.mem_append_right _ h) q
      | some j =>
        cases sr with
        | slot e h =>
          rename_i p a
          unfold forW at q
          simp only at q
          rw [e] at q
          cases p with
          | true =>
            simp only at q
            have hθ := r1.pn j _ e
            rw [h] at hθ
            exact (wlk_slot (Option.some.inj (Option.some.inj hθ)).symm).for r1 e s1 q
          | false =>
            simp only at q
            have r2 := r1.pinOn e h
            have q2 := PoS.unpin (θ' := fun i => if i = j then V.ref a else θ i) q fun i hi => by simp [hi]
            have lj := (List.getElem?_eq_some_iff.mp e).1
            exact (wlk_slot (θ := fun i => if i = j then V.ref a else θ i) (by simp)).for r2 (by rw [List.getElem?_set_self lj]) s1 q2

/-! ### while -/
def whileN (t : TS') (fg : List Nat) (b : SS) : Nat → SS
  | 0, _ => .stuck
  | n + 1, ρ => (t ρ).bindS fun k ρ1 => if k = true then match b ρ1 with
      | .nx ρ2 => whileN t fg b n (dropE fg ρ2)
      | .ct ρ2 => whileN t fg b n (dropE fg ρ2)
      | .bk ρ2 => .nx (dropE fg ρ2)
      | o => o
    else .nx ρ1
open Classical in
noncomputable def sWhile (t : TS') (fg : List Nat) (b : SS) : SS := fun ρ => if h : ∃ n, whileN t fg b n ρ ≠ .stuck then whileN t fg b (choose h) ρ else .stuck
theorem whileN_mono (t : TS') (fg : List Nat) (b : SS) : ∀ (n : Nat) (ρ : En), whileN t fg b n ρ ≠ .stuck → ∀ m, n ≤ m → whileN t fg b m ρ = whileN t fg b n ρ
  | 0, _, h, _, _ => absurd rfl h
  | n + 1, ρ, h, 0, hm => absurd hm (by omega)
  | n + 1, ρ, h, m + 1, hm => by
    unfold whileN at h ⊢
    cases e : t ρ with
    | stuck => rfl
    | exc c ρ1 => rfl
    | ok k ρ1 =>
      rw [e] at h
      cases k with
      | false => rfl
      | true =>
        simp only [bindS_ok, if_true] at h ⊢
        cases eb : b ρ1 with
        | nx ρ2 => rw [eb] at h; exact whileN_mono t fg b n _ h m (by omega)
        | ct ρ2 => rw [eb] at h; exact whileN_mono t fg b n _ h m (by omega)
        | _ => rfl
theorem sWhile_of {t : TS'} {fg : List Nat} {b : SS} {n : Nat} {ρ : En} {o : SOut} (e : whileN t fg b n ρ = o) (h : o ≠ .stuck) : sWhile t fg b ρ = o := by
  subst e
  have hx : ∃ n, whileN t fg b n ρ ≠ .stuck := ⟨n, h⟩
  unfold sWhile
  rw [dif_pos hx]
  rcases Nat.le_total n (Classical.choose hx) with hl | hl
  · exact whileN_mono t fg b n ρ h _ hl
  · exact (whileN_mono t fg b _ ρ (Classical.choose_spec hx) _ hl).symm
theorem sWhile_ex {t : TS'} {fg : List Nat} {b : SS} {ρ : En} (h : sWhile t fg b ρ ≠ .stuck) : ∃ n, whileN t fg b n ρ = sWhile t fg b ρ := by
  unfold sWhile at h ⊢
  split
  · exact ⟨_, rfl⟩
  · rename_i hn
    rw [dif_neg hn] at h
    exact absurd rfl h
/-- a turn is gone -/
theorem sWhile_turn {t : TS'} {fg : List Nat} {b : SS} {ρ ρ1 ρ2 : En} (h1 : t ρ = .ok true ρ1) (h2 : b ρ1 = .nx ρ2 ∨ b ρ1 = .ct ρ2) : sWhile t fg b ρ = sWhile t fg b (dropE fg ρ2) := by
  have step : ∀ n, whileN t fg b (n + 1) ρ = whileN t fg b n (dropE fg ρ2) := fun n => by
    rw [whileN, h1]
    simp only [bindS_ok, if_true]
    rcases h2 with h2 | h2 <;> rw [h2]
  by_cases h : sWhile t fg b (dropE fg ρ2) = .stuck
  · rw [h]
    refine Classical.byContradiction fun hn => ?_
    obtain ⟨n, e⟩ := sWhile_ex hn
    cases n with
    | zero => exact hn e.symm
    | succ n =>
      rw [step n] at e
      exact hn ((sWhile_of e hn).symm.trans h).symm.symm
  · obtain ⟨n, e⟩ := sWhile_ex h
    exact sWhile_of (n := n + 1) (by rw [step n, e]) h
theorem sWhile_done {t : TS'} {fg : List Nat} {b : SS} {ρ ρ1 : En} (h1 : t ρ = .ok false ρ1) : sWhile t fg b ρ = .nx ρ1 := sWhile_of (n := 1) (by rw [whileN, h1]; rfl) (by intro h; cases h)
theorem ss_while {c : Expr} {body : List Stmt} {fg : List Nat} {pos : Pos} (hp : PassesOwn (model X.prog X.w) X.A X.env X.xe) (hc : PT X c (RdT X ca W t)) (hb : PSs X body (RdS X ca W b)) : PS X (.While c body [] pos) (RdS X ca W (sWhile t fg b)) :=
  PS.imp (ps_while hp hc hb) fun Dn σ H ⟨θ, Z0, ρ0, L0, r0, q0⟩ => by
    obtain ⟨n0, e0⟩ := sWhile_ex (t := t) (fg := fg) (b := b) (ρ := ρ0) (fun h => by rw [h] at q0; exact q0)
    rw [← e0] at q0
    refine ⟨fun n σ H' => ∃ Z ρ L, Rep θ (gx X ca) Z H' ρ σ L ∧ Step Z0 L0 H Z L H' ∧ PoS X ca W θ Z0 L0 H Dn (whileN t fg b n ρ), ⟨n0, Z0, ρ0, L0, r0, Step.refl, q0⟩, ?_⟩
    rintro n σ H' ⟨Z, ρ, L, r, s, q⟩
    cases n with
    | zero => exact q.elim
    | succ n =>
      unfold whileN at q
      refine ⟨θ, Z, ρ, L, r, ?_⟩
      cases e : t ρ with
      | stuck => rw [e] at q; exact q
      | exc c ρ1 => rw [e] at q; exact fun Z' H' L' r' s' => q Z' H' L' σ r' (s.trans s')
      | ok k ρ1 =>
        rw [e] at q
        intro Z1 H1 L1 r1 s1
        cases k with
        | false =>
          simp only [bindS_ok, Bool.false_eq_true, if_false] at q ⊢
          exact q Z1 H1 L1 σ r1 (s.trans s1)
        | true =>
          simp only [bindS_ok, if_true] at q ⊢
          refine ⟨fun σ2 H2 => ∃ Z ρ L, Rep θ (gx X ca) Z H2 ρ σ2 L ∧ Step Z0 L0 H Z L H2 ∧ PoS X ca W θ Z0 L0 H Dn (whileN t fg b n ρ), fun σ' H' h => ⟨n, Nat.lt_succ_self n, h⟩, θ, Z1, ρ1, L1, r1, ?_⟩
          have s01 := s.trans s1
          have turn : ∀ ρ2 Z2 H2 L2 σ2, PoS X ca W θ Z0 L0 H Dn (whileN t fg b n (dropE fg ρ2)) → Rep θ (gx X ca) Z2 H2 ρ2 σ2 L2 → Step Z1 L1 H1 Z2 L2 H2 → ∃ Z ρ L, Rep θ (gx X ca) Z H2 ρ σ2 L ∧ Step Z0 L0 H Z L H2 ∧ PoS X ca W θ Z0 L0 H Dn (whileN t fg b n ρ) := fun ρ2 Z2 H2 L2 σ2 q r2 s2 => by
            obtain ⟨L3, r3, h3⟩ := r2.drop fg
            exact ⟨Z2, _, L3, r3, (s01.trans s2).sub h3, q⟩
          cases eb : b ρ1 with
          | stuck => rw [eb] at q; exact q
          | nx ρ2 => rw [eb] at q; exact fun Z2 H2 L2 σ2 r2 s2 => turn ρ2 Z2 H2 L2 σ2 q r2 s2
          | ct ρ2 => rw [eb] at q; exact fun Z2 H2 L2 σ2 r2 s2 => turn ρ2 Z2 H2 L2 σ2 q r2 s2
          | bk ρ2 =>
            rw [eb] at q
            intro Z2 H2 L2 σ2 r2 s2
            obtain ⟨L3, r3, h3⟩ := r2.drop fg
            exact q Z2 H2 L3 σ2 r3 ((s01.trans s2).sub h3)
          | rt o ρ2 => rw [eb] at q; exact fun Z2 H2 L2 F v σ2 r2 h2 s2 => q Z2 H2 L2 F v σ2 r2 h2 (s01.trans s2)
          | exc c ρ2 => rw [eb] at q; exact fun Z2 H2 L2 σ2 r2 s2 => q Z2 H2 L2 σ2 r2 (s01.trans s2)
end
end Eng
set_option maxHeartbeats 1000000
/-! The engine, part 17: a def as a function of objects; its calls. -/
namespace Eng
open PySem PySem.Spec L2
open PyProof.Rows hiding St

/-- around a body nothing is let out -/
theorem takesN0 {X : Cx} : L2N.Takes X (fun _ _ _ _ => False) := fun _ _ x => by
  obtain ⟨_, _, _, _, _, _, _, _, _, _, _, _, _, _, _, _, z⟩ := x
  exact z.elim
/-! ### a def's promise where no text is being told -/
structure EFn (P : Program) (w : World) (K : PySem.W.Frag) (mg : Str → Option Value) (base : Heap) (k : Nat) (f : Addr) (fd : FuncData) (ps : List Str) (sp : Sp) : Prop where
  len : ∀ vs H Q E, sp vs H Q E → vs.length = ps.length
  go : ∀ (A : Around) (outer : List Env) (s : Shared) (H : Hp) (args : Args) (us : List Value) (vs : List V) (Q : VK) (E : XK), A.guards = some [] → Room k A → Env0 P w K mg base A outer s H → BindsTo s fd args (ps.zip us) → Vals vs us → sp vs H Q E →
    codeAny (model P w) A (.call (.ref f) args) (CR (L2N.CX P w) outer P w H s Q E) s
theorem EFn.mono {P : Program} {w : World} {K : PySem.W.Frag} {mg : Str → Option Value} {base : Heap} {j k : Nat} {f : Addr} {fd : FuncData} {ps : List Str} {sp : Sp} (F : EFn P w K mg base j f fd ps sp) (h : j ≤ k) : EFn P w K mg base k f fd ps sp :=
  ⟨F.len, fun A outer s H args us vs Q E hg hr => F.go A outer s H args us vs Q E hg (hr.mono h)⟩
theorem EFn.imp {P : Program} {w : World} {K : PySem.W.Frag} {mg : Str → Option Value} {base : Heap} {k : Nat} {f : Addr} {fd : FuncData} {ps : List Str} {sp sp' : Sp} (F : EFn P w K mg base k f fd ps sp) (h : ∀ vs H Q E, sp' vs H Q E → sp vs H Q E) : EFn P w K mg base k f fd ps sp' :=
  ⟨fun vs H Q E q => F.len vs H Q E (h vs H Q E q), fun A outer s H args us vs Q E hg hr e b r q => F.go A outer s H args us vs Q E hg hr e b r (h vs H Q E q)⟩
theorem deeper_guards (A : Around) (env : Env) : (A.deeper env).guards = A.guards := by
  obtain ⟨_, _, _, _, _⟩ := A
  rfl
theorem efn_of {P : Program} {w : World} {K : PySem.W.Frag} {mg : Str → Option Value} {base : Heap} {x qual : Str} {st : Stmt} {f : Addr} {fd : FuncData} {N ps : List Str} {k : Nat} {sp : Sp} (F : Fun K x qual st f fd) (S : FnScope N ps (defScope st)) (len : ∀ vs H Q E, sp vs H Q E → vs.length = ps.length)
    (body : ∀ (cdv : Value) (A : Around) (outer : List Env) (s : Shared) (H : Hp) (vs : List V) (Q : VK) (E : XK), A.guards = some [] → Room k (A.deeper (envOfC qual (defScope st) s.heap.objs.size f cdv)) → sp vs H Q E →
      ∃ t, PSs (cxOf (L2N.CX P w) P w K mg base N qual (defScope st) f cdv A outer s H E) (defBody st) t ∧ t { nx := fun _ H' => Q .non H', rt := Q } (L2.start N vs) H) : EFn P w K mg base (k + 1) f fd ps sp := by
  obtain ⟨oc, od, kV, doc, pm, an, cdv, ct, osl, rfl, lk, cd⟩ := F.ex
  refine ⟨len, fun A outer s H args us vs Q E hg hr e0 hb rv hsp => ?_⟩
  have keepB : ∀ b o, base.get? b = some o → s.heap.get? b = some o := fun b o e => (e0.bs b o e).1
  have inK : K.In s.heap := e0.mod.kin.keeps keepB
  have kinds : ∀ y ∈ ps.zip us, (defScope st).names.lookup y.1 = some .local ∨ ((defScope st).names.lookup y.1 = some .cell ∧ ((cellsFrom (s.heap.objs.size + 1) (defScope st).names []).lookup y.1).isSome = true) := by
    rintro ⟨n, u⟩ hy
    exact (S.par n (List.of_mem_zip hy).1).imp id fun q => ⟨q, PySem.W.cellsFrom_some _ _ _ (.inl q)⟩
  refine codeAny_call_function hr.depth (inK f _ lk) rfl S.co S.gen rfl (PySem.W.codeRec_of inK cd) (hb _ _ _ _ ?_)
  refine wpAny_newFunctionEnv_cells S.kind kinds fun env he s1 x => ?_
  subst he
  refine ⟨(e0.mod.nolimit.keeps keepB).keeps x.toInCall.keep, codeAny_func ?_⟩
  obtain ⟨t, ht, q⟩ := body cdv A outer s H vs Q E hg (hr.deeper _) hsp
  have I0 := inv_start (CX := L2N.CX P w) (E := E) S hr.hd e0 (len _ _ _ _ hsp) rv x
  refine wpAny_mono (ht.run [] s1 (L2.start N vs) H _ I0 q) (fun fl s' h => ?_) fun e s' h => h
  cases fl with
  | ret u =>
    obtain ⟨v, σ', H', J, r, q⟩ := h
    exact ⟨v, H', J.os, J.bare, J.base, J.hok, r, q⟩
  | next =>
    obtain ⟨σ', H', J, q⟩ := h
    exact ⟨.non, H', J.os, J.bare, J.base, J.hok, rfl, q⟩
  | brk =>
    obtain ⟨_, _, _, q⟩ := h
    exact q.elim
  | cont =>
    obtain ⟨_, _, _, q⟩ := h
    exact q.elim
section
variable {X : Cx} {k : Nat} {f : Addr} {fd : FuncData} {ps : List Str} {sp : Sp} {x : Str} {p pos : Pos} {e : Expr} {es : List Expr} {t : TA} {W : WX}
theorem efn_run {pins : List (Addr × Obj)} {σ : L2.St} {H : Hp} {s : Shared} {Q : VK} {us : List Value} {vs : List V} (F : EFn X.prog X.w X.K X.mg X.base k f fd ps sp) (hg : X.A.guards = some []) (hr : Room k X.A) (hb : Binds X.K fd ps []) (tk : L2N.Takes X W)
    (I : Inv X pins σ H s) (r : Vals vs us) (h : sp vs H Q (WE W σ)) : wpAny (model X.prog X.w) X.A (call (.ref f) us) (EP X pins σ Q) X.xe s := by
  have b := hb s us I.kIn
  rw [List.append_nil] at b
  refine wpAny_call (codeAny_mono (F.go X.A X.stack s H ⟨us, []⟩ us vs Q (WE W σ) hg hr I.env0 (b (by rw [← r.length]; exact F.len vs H Q _ h)) r h) fun res s' q => ?_)
  cases res with
  | error e => exact L2N.passAt tk σ pins H s e s' I q
  | ok fl =>
    cases fl with
    | ret u => exact I.after q
    | next => exact q.elim
    | brk => exact q.elim
    | cont => exact q.elim
theorem pe_callE (F : EFn X.prog X.w X.K X.mg X.base k f fd ps sp) (hG : X.A.guards = some []) (hr : Room k X.A) (hg : Gl X x) (hm : X.mg x = some (.ref f)) (hk : PySem.W.keepIn X.K (.ref f) = true) (hb : Binds X.K fd ps []) (tk : L2N.Takes X W) (ha : PA X (e :: es) t)
    (hdb : (x == ("__debug__" : Str)) = false) (hs : ((e :: es).all notStar) = true) : PE X (.Call (.Name x p) (e :: es) [] pos) (fun σ H Q => t σ H fun vs H1 => sp vs H1 Q (WE W σ)) := by
  rw [List.all_cons, Bool.and_eq_true] at hs
  refine ⟨fun pins s σ H Q I h => wpAny_Call_Name_kw (ld_glob I hg hm ?_ hdb)⟩
  exact PySem.W.callWith_K (h₀ := X.base) I.ok.mod.kin hk (thn (ha.run pos pins s σ H _ I h) fun us s1 ⟨vs, H1, I1, r, q⟩ => ⟨I1.kIn, efn_run F hG hr hb tk I1 r q⟩) (star_cons hs.1) (star_plain hs.2)
end

/-! ### a def as a function of objects -/
inductive FOut where
  | ret (o : O) (fin : List O)
  | exc (c : Nat) (fin : List O)
  | stuck
abbrev FSem := List O → FOut
def O.own : O → Bool
  | .lst _ => true
  | .dic _ => true
  | .set _ => true
  | .ins _ _ => true
  | .exn _ => true
  | _ => false
inductive ArgsOk (G : Gx) (Z : Zs) (H : Hp) : List O → List V → List Addr → Prop
  | nil : ArgsOk G Z H [] [] []
  | cons {o : O} {v : V} {F F' : List Addr} {os : List O} {vs : List V} (h : Ro G Z H o v F) (t : ArgsOk G Z H os vs F') : ArgsOk G Z H (o :: os) (v :: vs) (F ++ F')
inductive FinOk (G : Gx) (Z : Zs) (H : Hp) : List O → List O → List V → List Addr → Prop
  | nil : FinOk G Z H [] [] [] []
  | val {o x : O} {v : V} {F' : List Addr} {os fin : List O} {vs : List V} (ho : o.own = false) (t : FinOk G Z H os fin vs F') : FinOk G Z H (o :: os) (x :: fin) (v :: vs) F'
  | own {o x : O} {v : V} {F F' : List Addr} {os fin : List O} {vs : List V} (ho : o.own = true) (h : Ro G Z H x v F) (t : FinOk G Z H os fin vs F') : FinOk G Z H (o :: os) (x :: fin) (v :: vs) (F ++ F')
def PoF (G : Gx) (Z : Zs) (F : List Addr) (H : Hp) (os : List O) (vs : List V) (Q : VK) (E : XK) : FOut → Prop
  | .ret o fin => ∀ Z' H' F' Fo v, FinOk G Z' H' os fin vs F' → Ro G Z' H' o v Fo → (Fo ++ F').Nodup → (∀ a ∈ Fo ++ F', ¬ Z' a) → (∀ a, Z' a → H' a ≠ none) → Step Z F H Z' (Fo ++ F') H' → Q v H'
  | .exc c fin => ∀ Z' H' F', FinOk G Z' H' os fin vs F' → F'.Nodup → (∀ a ∈ F', ¬ Z' a) → (∀ a, Z' a → H' a ≠ none) → Step Z F H Z' F' H' → E (.ref (G.ca c)) none H'
  | .stuck => False
/-- the promise: as the function tells -/
def spF (G : Gx) (n : Nat) (g : FSem) : Sp := fun vs H Q E => ∃ Z os F, vs.length = n ∧ ArgsOk G Z H os vs F ∧ F.Nodup ∧ (∀ a ∈ F, ¬ Z a) ∧ (∀ a, Z a → H a ≠ none) ∧ PoF G Z F H os vs Q E (g os)
def startE (n : Nat) (os : List O) : En := os.map (fun o => some (o.own, o)) ++ List.replicate (n - os.length) none
def fins : List O → En → Option (List O)
  | [], _ => some []
  | o :: os, sl :: ρ => if o.own = true then match sl with
      | some (true, x) => match fins os ρ with
        | some r => some (x :: r)
        | none => none
      | _ => none
    else match fins os ρ with
      | some r => some (o :: r)
      | none => none
  | _ :: _, [] => none
def runF (n : Nat) (b : SS) : FSem := fun os => match b (startE n os) with
  | .nx ρ => match fins os ρ with
    | some fin => .ret (.val .none) fin
    | none => .stuck
  | .rt o ρ => match fins os ρ with
    | some fin => .ret o fin
    | none => .stuck
  | .exc c ρ => match fins os ρ with
    | some fin => .exc c fin
    | none => .stuck
  | _ => .stuck
section
variable {G : Gx} {Z Z' : Zs} {H H' : Hp} {L F : List Addr} {os fin : List O} {vs : List V} {ρ : En} {σ : L2.St} {θ : Nat → V}
theorem ArgsOk.length : ∀ {os : List O} {vs : List V} {F : List Addr}, ArgsOk G Z H os vs F → vs.length = os.length
  | _, _, _, .nil => rfl
  | _, _, _, .cons _ t => by rw [List.length_cons, List.length_cons, ArgsOk.length t]
theorem start_ros (N : List Str) : ∀ {os : List O} {vs : List V} {F : List Addr}, ArgsOk G Z H os vs F → ∀ m, RoS G Z H (os.map (fun o => some (o.own, o)) ++ List.replicate m none) (vs.map some ++ List.replicate m none) F
  | _, _, _, .nil, 0 => .emp
  | _, _, _, .nil, m + 1 => by
    show RoS G Z H (none :: List.replicate m none) (none :: List.replicate m none) []
    exact .no (start_ros N .nil m)
  | _, _, _, .cons h t, m => by
    have := start_ros N t m
    simp only [List.map_cons, List.cons_append]
    exact .yes h this
theorem start_rep (N : List Str) (a : ArgsOk G Z H os vs F) (nd : F.Nodup) (dis : ∀ a ∈ F, ¬ Z a) (zd : ∀ a, Z a → H a ≠ none) : Rep (fun i => vs.getD i .non) G Z H (startE N.length os) (L2.start N vs) F := by
  unfold startE L2.start
  have hl := a.length
  refine ⟨by rw [hl]; exact start_ros N a _, nd, dis, zd, fun i o e => ?_⟩
  by_cases hi : i < os.length
  · have hv : i < vs.length := by omega
    rw [List.getElem?_append_left (by simpa using hv), List.getElem?_map]
    simp [hv]
  · rw [List.getElem?_append_right (by simpa using hi), List.getElem?_replicate] at e
    split at e <;> cases e
theorem fins_ok : ∀ {os : List O} {ρ : En} {fin : List O} {σ : L2.St} {L : List Addr} {vs : List V}, RoS G Z H ρ σ L → vs.length = os.length → fins os ρ = some fin → L.Nodup → (∀ a ∈ L, ¬ Z a) → (∀ i o, ρ[i]? = some (some (true, o)) → i < os.length → σ[i]? = some (vs[i]?)) →
    ∃ F', FinOk G Z H os fin vs F' ∧ F'.Nodup ∧ (∀ a ∈ F', a ∈ L)
  | [], ρ, fin, σ, L, vs, _, hl, e, _, _, _ => by
    cases vs with
    | cons => simp at hl
    | nil =>
      simp only [fins, Option.some.injEq] at e
      subst e
      exact ⟨[], .nil, List.nodup_nil, fun _ h => by cases h⟩
  | o :: os, ρ, fin, σ, L, [], _, hl, _, _, _, _ => by simp at hl
  | o :: os, ρ, fin, σ, L, v :: vs, r, hl, e, nd, dis, hp => by
    cases r with
    | emp => simp [fins] at e
    | no t =>
      unfold fins at e
      split at e
      · cases e
      · rename_i ho
        split at e
        · rename_i r' e'
          cases e
          obtain ⟨F', h1, h2, h3⟩ := fins_ok (vs := vs) t (by simpa using hl) e' nd dis fun i o hi hlt => by simpa using hp (i + 1) o (by simpa using hi) (by simpa using hlt)
          exact ⟨F', .val (by simpa using ho) h1, h2, h3⟩
        · cases e
    | yes h t =>
      rename_i p o' v' F0 L0
      have n := List.nodup_append.mp nd
      unfold fins at e
      split at e
      · rename_i ho
        cases p with
        | false => cases e
        | true =>
          simp only at e
          split at e
          · rename_i r' e'
            cases e
            obtain ⟨F', h1, h2, h3⟩ := fins_ok (vs := vs) t (by simpa using hl) e' n.2.1 (fun a ha => dis a (List.mem_append_right _ ha)) fun i o hi hlt => by simpa using hp (i + 1) o (by simpa using hi) (by simpa using hlt)
            have hv := hp 0 o' (by simp) (by simp)
            simp only [List.getElem?_cons_zero, Option.some.injEq] at hv
            subst hv
            refine ⟨_, .own ho h h1, List.nodup_append.mpr ⟨n.1, h2, fun a ha c hc => n.2.2 a ha c (h3 c hc)⟩, fun a ha => ?_⟩
            exact (List.mem_append.mp ha).elim (fun h => List.mem_append_left _ h) fun h => List.mem_append_right _ (h3 a h)
          · cases e
      · rename_i ho
        split at e
        · rename_i r' e'
          cases e
          obtain ⟨F', h1, h2, h3⟩ := fins_ok (vs := vs) t (by simpa using hl) e' n.2.1 (fun a ha => dis a (List.mem_append_right _ ha)) fun i o hi hlt => by simpa using hp (i + 1) o (by simpa using hi) (by simpa using hlt)
          exact ⟨F', .val (by simpa using ho) h1, h2, fun a ha => List.mem_append_right _ (h3 a ha)⟩
        · cases e
theorem fins_rep {N : List Str} (r : Rep (fun i => vs.getD i .non) G Z H ρ σ L) (hl : vs.length = os.length) (e : fins os ρ = some fin) : ∃ F', FinOk G Z H os fin vs F' ∧ F'.Nodup ∧ (∀ a ∈ F', a ∈ L) :=
  fins_ok r.sl hl e r.nd r.dis fun i o hi hlt => by
    have := r.pn i o hi
    rw [this]
    have hv : i < vs.length := by omega
    simp [hv]
end
/-- THE RULE: a def by its body's reading -/
theorem efn_body {P : Program} {w : World} {K : PySem.W.Frag} {mg : Str → Option Value} {base : Heap} {ca : Nat → Addr} {x qual : Str} {st : Stmt} {f : Addr} {fd : FuncData} {N ps : List Str} {k : Nat} {b : SS} (F : Fun K x qual st f fd) (S : FnScope N ps (defScope st))
    (body : ∀ (cdv : Value) (A : Around) (outer : List Env) (s : Shared) (H : Hp) (E : XK), A.guards = some [] → Room k (A.deeper (envOfC qual (defScope st) s.heap.objs.size f cdv)) →
      PSs (cxOf (L2N.CX P w) P w K mg base N qual (defScope st) f cdv A outer s H E) (defBody st) (RdS (cxOf (L2N.CX P w) P w K mg base N qual (defScope st) f cdv A outer s H E) ca (fun cls d _ H => E cls d H) b)) :
    EFn P w K mg base (k + 1) f fd ps (spF ⟨P, w, K, ca⟩ ps.length (runF N.length b)) := by
  refine efn_of F S (fun vs H Q E ⟨_, _, _, h, _⟩ => h) fun cdv A outer s H vs Q E hg hr ⟨Z, os, F0, hl, ha, nd, dis, zd, q⟩ => ⟨_, body cdv A outer s H E hg hr, fun i => vs.getD i .non, Z, startE N.length os, F0, start_rep N ha nd dis zd, ?_⟩
  have hlen := ha.length
  unfold runF at q
  cases e : b (startE N.length os) with
  | stuck => rw [e] at q; exact q
  | bk ρ => rw [e] at q; exact q.elim
  | ct ρ => rw [e] at q; exact q.elim
  | nx ρ =>
    rw [e] at q
    intro Z' H' L' σ' r s
    simp only at q
    split at q
    · rename_i fin e2
      obtain ⟨F', h1, h2, h3⟩ := fins_rep (N := N) r hlen e2
      exact q Z' H' F' [] .non h1 (.val .non) h2 (fun a ha => r.dis a (h3 a ha)) r.zd (s.sub h3)
    · exact q.elim
  | rt o ρ =>
    rw [e] at q
    intro Z' H' L' Fo v σ' r hh s
    simp only at q
    split at q
    · rename_i fin e2
      obtain ⟨F', h1, h2, h3⟩ := fins_rep (N := N) r hlen e2
      have n := List.nodup_append.mp hh.nd
      have sub : ∀ a ∈ Fo ++ F', a ∈ Fo ++ L' := fun a ha => (List.mem_append.mp ha).elim (fun h => List.mem_append_left _ h) fun h => List.mem_append_right _ (h3 a h)
      exact q Z' H' F' Fo v h1 hh.one (List.nodup_append.mpr ⟨n.1, h2, fun a ha c hc => n.2.2 a ha c (h3 c hc)⟩) (fun a ha => (List.mem_append.mp ha).elim (hh.dis a) fun h => r.dis a (h3 a h)) r.zd (s.sub sub)
    · exact q.elim
  | exc c ρ =>
    rw [e] at q
    intro Z' H' L' σ' r s
    simp only at q
    split at q
    · rename_i fin e2
      obtain ⟨F', h1, h2, h3⟩ := fins_rep (N := N) r hlen e2
      exact q Z' H' F' h1 h2 (fun a ha => r.dis a (h3 a ha)) r.zd (s.sub h3)
    · exact q.elim
end Eng
set_option maxHeartbeats 1000000
/-! The engine, part 18: calls read; raise; try. -/
namespace Eng
open PySem PySem.Spec L2
open PyProof.Rows hiding St

/-! ### arguments lifted out of their names -/
def lift1 (ρ : En) : Opd → Option (O × Option Bool × En)
  | .tmp o => some (o, none, ρ)
  | .nm i => match ρ[i]? with
    | some (some (p, o)) => if o.own = true then some (o, some p, ρ.set i none) else some (o, none, ρ)
    | _ => none
def lift (ρ : En) : List Opd → Option (List O × List (Option Bool) × En)
  | [] => some ([], [], ρ)
  | p :: ps => match lift1 ρ p with
    | some (o, b, ρ1) => match lift ρ1 ps with
      | some (os, bs, ρ2) => some (o :: os, b :: bs, ρ2)
      | none => none
    | none => none
def backs : List Opd → List (Option Bool) → List O → En → En
  | .nm i :: ps, some p :: bs, x :: fin, ρ => (backs ps bs fin ρ).set i (some (p, x))
  | _ :: ps, _ :: bs, _ :: fin, ρ => backs ps bs fin ρ
  | _, _, _, ρ => ρ
def callE (g : FSem) (ρ : En) (ps : List Opd) : Out Opd := match lift ρ ps with
  | some (os, bs, ρ1) => match g os with
    | .ret o fin => .ok (.tmp o) (backs ps bs fin ρ1)
    | .exc c fin => .exc c (backs ps bs fin ρ1)
    | .stuck => .stuck
  | none => .stuck
def oCall (g : FSem) (as : AS) : ES := fun ρ => (as ρ).bind fun ps ρ1 => callE g ρ1 ps
section
variable {X : Cx} {ca : Nat → Addr} {W : WX} {f g : ES} {as : AS} {G : Gx} {b : SS} {t : TS'} {it : IS}
variable {θ θ' : Nat → V} {Z Z1 Z0 Z' : Zs} {L L1 L0 L' F F0 : List Addr} {H H1 H0 H' : Hp} {σ σ' : L2.St} {ρ ρ1 ρ' : En} {Dn : Ends}
theorem lift1_none {p : Opd} {o : O} {bb : Option Bool} {i : Nat} (e : lift1 ρ p = some (o, bb, ρ1)) (h : ρ[i]? = some none) : ρ1[i]? = some none := by
  cases p with
  | tmp o' =>
    simp only [lift1, Option.some.injEq, Prod.mk.injEq] at e
    rw [← e.2.2]; exact h
  | nm j =>
    simp only [lift1] at e
    split at e
    · rename_i p' o' e'
      split at e
      · simp only [Option.some.injEq, Prod.mk.injEq] at e
        rw [← e.2.2]
        by_cases hj : j = i
        · subst hj; rw [h] at e'; cases e'
        · rw [List.getElem?_set_ne hj]; exact h
      · simp only [Option.some.injEq, Prod.mk.injEq] at e
        rw [← e.2.2]; exact h
    · cases e
theorem lift_none : ∀ {ps : List Opd} {os : List O} {bs : List (Option Bool)} {ρ ρ2 : En} {i : Nat}, lift ρ ps = some (os, bs, ρ2) → ρ[i]? = some none → ρ2[i]? = some none ∧ ∀ fin ρ3, ρ3[i]? = some none → (backs ps bs fin ρ3)[i]? = some none
  | [], _, _, ρ, ρ2, i, e, h => by
    simp only [lift, Option.some.injEq, Prod.mk.injEq] at e
    obtain ⟨rfl, rfl, rfl⟩ := e
    exact ⟨h, fun fin ρ3 h3 => by simpa [backs] using h3⟩
  | p :: ps, os, bs, ρ, ρ2, i, e, h => by
    unfold lift at e
    split at e
    · rename_i o bb ρ1 e1
      split at e
      · rename_i os' bs' ρ2' e2
        simp only [Option.some.injEq, Prod.mk.injEq] at e
        obtain ⟨rfl, rfl, rfl⟩ := e
        have h1 := lift1_none e1 h
        obtain ⟨k1, k2⟩ := lift_none e2 h1
        refine ⟨k1, fun fin ρ3 h3 => ?_⟩
        cases fin with
        | nil => cases p <;> cases bb <;> simpa [backs] using h3
        | cons x fin =>
          cases p with
          | tmp o' => cases bb <;> simpa [backs] using k2 fin ρ3 h3
          | nm j =>
            cases bb with
            | none => simpa [backs] using k2 fin ρ3 h3
            | some p' =>
              simp only [backs]
              by_cases hj : j = i
              · subst hj
                simp only [lift1, h] at e1
                cases e1
              · rw [List.getElem?_set_ne hj]
                exact k2 fin ρ3 h3
      · cases e
    · cases e
/-- the arguments as a callee gets them, and how they come back -/
theorem call_args : ∀ {ps : List Opd} {vs : List V} {F : List Addr} {ρ ρ2 : En} {L : List Addr} {os : List O} {bs : List (Option Bool)}, Rep θ G Z H ρ σ L → Held G Z H σ L ps vs F → lift ρ ps = some (os, bs, ρ2) →
    ∃ FA L2, Rep θ G Z H ρ2 σ L2 ∧ ArgsOk G Z H os vs FA ∧ (FA ++ L2).Nodup ∧ (∀ a ∈ FA, ¬ Z a) ∧ (∀ a, a ∈ FA ++ L2 → a ∈ F ++ L) ∧
      ∀ Z' H' fin F', Rep θ G Z' H' ρ2 σ L2 → FinOk G Z' H' os fin vs F' → (F' ++ L2).Nodup → (∀ a ∈ F', ¬ Z' a) → ∃ L3, Rep θ G Z' H' (backs ps bs fin ρ2) σ L3 ∧ ∀ a ∈ L3, a ∈ F' ++ L2
  | [], vs, F, ρ, ρ2, L, os, bs, r, h, e => by
    simp only [lift, Option.some.injEq, Prod.mk.injEq] at e
    obtain ⟨rfl, rfl, rfl⟩ := e
    have ho := h.ok
    cases ho
    exact ⟨[], L, r, .nil, r.nd, (fun _ q => by cases q), fun a ha => ha, fun Z' H' fin F' r' hf nd _ => by
      cases hf
      exact ⟨L, by simpa [backs] using r', fun a ha => ha⟩⟩
  | p :: ps, vs, F, ρ, ρ2, L, os, bs, r, h, e => by
    unfold lift at e
    split at e
    · rename_i o bb ρ1 e1
      split at e
      · rename_i os' bs' ρ2' e2
        simp only [Option.some.injEq, Prod.mk.injEq] at e
        obtain ⟨rfl, rfl, rfl⟩ := e
        have ho := h.ok
        cases vs with
        | nil => cases ho
        | cons v vs =>
          obtain ⟨F1, F2, rfl, o1, o2⟩ := ho.cons_split
          have nd := h.nd
          rw [List.append_assoc] at nd
          have n1 := List.nodup_append.mp nd
          have n2 := List.nodup_append.mp n1.2.1
          cases p with
          | tmp o' =>
            simp only [lift1, Option.some.injEq, Prod.mk.injEq] at e1
            obtain ⟨rfl, rfl, rfl⟩ := e1
            have h2 : Held G Z H σ L ps vs F2 := ⟨o2, n1.2.1, fun a ha => h.dis a (List.mem_append_right _ ha)⟩
            obtain ⟨FA, L2, r2, ha, ndA, disA, sub, bk⟩ := call_args r h2 e2
            have hr : Ro G Z H o' v F1 := by
              cases o1 with
              | tmp h5 t5 =>
                cases t5
                rw [List.append_nil]; exact h5
            have nA := List.nodup_append.mp ndA
            refine ⟨F1 ++ FA, L2, r2, .cons hr ha, ?_, fun a ha => (List.mem_append.mp ha).elim (fun q => h.dis a (List.mem_append_left _ q)) (disA a), fun a ha => ?_, fun Z' H' fin F' r' hf nd' dis' => ?_⟩
            · rw [List.append_assoc]
              refine List.nodup_append.mpr ⟨n1.1, ndA, fun a ha c hc q => ?_⟩
              subst q
              exact n1.2.2 a ha a (sub a hc) rfl
            · rw [List.append_assoc] at ha ⊢
              exact (List.mem_append.mp ha).elim (fun q => List.mem_append_left _ q) fun q => List.mem_append_right _ (sub a q)
            · cases hf with
              | val hv hf =>
                obtain ⟨L3, r3, s3⟩ := bk Z' H' _ _ r' hf nd' dis'
                exact ⟨L3, by simpa [backs] using r3, s3⟩
              | own hv hx hf =>
                rw [List.append_assoc] at nd'
                have m := List.nodup_append.mp nd'
                obtain ⟨L3, r3, s3⟩ := bk Z' H' _ _ r' hf m.2.1 (fun a ha => dis' a (List.mem_append_right _ ha))
                exact ⟨L3, by simpa [backs] using r3, fun a ha => by rw [List.append_assoc]; exact List.mem_append_right _ (s3 a ha)⟩
          | nm j =>
            have hj : F1 = [] ∧ σ[j]? = some (some v) := by
              cases o1 with
              | nm h5 t5 => cases t5; exact ⟨rfl, h5⟩
            obtain ⟨rfl, hv⟩ := hj
            simp only [lift1] at e1
            split at e1
            · rename_i pn ob eb
              split at e1
              · rename_i hown
                simp only [Option.some.injEq, Prod.mk.injEq] at e1
                obtain ⟨rfl, rfl, rfl⟩ := e1
                obtain ⟨Fi, Li, vi, k1, k2, k3, k4, k5, k6, k7⟩ := r.lift eb
                rw [hv] at k1
                cases k1
                have nn := List.nodup_append.mp n1.2.1
                have inL : ∀ a, a ∈ Li → a ∈ L := fun a ha => (k6 a).mp (List.mem_append_right _ ha)
                have h2 : Held G Z H σ Li ps vs F2 := ⟨o2, List.nodup_append.mpr ⟨nn.1, k3.nd, fun a ha c hc => nn.2.2 a ha c (inL c hc)⟩, fun a ha => h.dis a (by simpa using ha)⟩
                obtain ⟨FA, L2, r2, ha, ndA, disA, sub, bk⟩ := call_args k3 h2 e2
                have kk := List.nodup_append.mp k4
                have hne : ∀ a ∈ Fi, a ∉ FA ++ L2 := fun a ha hc => by
                  rcases List.mem_append.mp (sub a hc) with q | q
                  · exact nn.2.2 a q a ((k6 a).mp (List.mem_append_left _ ha)) rfl
                  · exact kk.2.2 a ha a q rfl
                refine ⟨Fi ++ FA, L2, r2, .cons k2 ha, ?_, fun a ha => (List.mem_append.mp ha).elim (k5 a) (disA a), fun a ha => ?_, fun Z' H' fin F' r' hf nd' dis' => ?_⟩
                · rw [List.append_assoc]
                  exact List.nodup_append.mpr ⟨kk.1, ndA, fun a ha c hc q => hne a ha (q ▸ hc)⟩
                · rw [List.append_assoc] at ha
                  rw [List.nil_append]
                  rcases List.mem_append.mp ha with q | q
                  · exact List.mem_append_right _ ((k6 a).mp (List.mem_append_left _ q))
                  · exact (List.mem_append.mp (sub a q)).elim (fun q => List.mem_append_left _ q) fun q => List.mem_append_right _ (inL a q)
                · cases hf with
                  | val hv' hf => rw [hown] at hv'; cases hv'
                  | own hv' hx hf =>
                    rw [List.append_assoc] at nd'
                    have m := List.nodup_append.mp nd'
                    obtain ⟨L3, r3, s3⟩ := bk Z' H' _ _ r' hf m.2.1 (fun a ha => dis' a (List.mem_append_right _ ha))
                    have lj := (List.getElem?_eq_some_iff.mp eb).1
                    have hn := (lift_none e2 (i := j) (by rw [List.getElem?_set_self lj]))
                    have hn2 := fun fin => hn.2 fin _ hn.1
                    obtain ⟨L4, r4, s4⟩ := r3.back (i := j) (p := pn) (hn2 _) hv hx (List.nodup_append.mpr ⟨m.1, r3.nd, fun a ha c hc q => m.2.2 a ha c (s3 c hc) q⟩) (fun a ha => dis' a (List.mem_append_left _ ha)) k7
                    refine ⟨L4, by simpa [backs] using r4, fun a ha => ?_⟩
                    rw [List.append_assoc]
                    exact (List.mem_append.mp ((s4 a).mp ha)).elim (fun q => List.mem_append_left _ q) fun q => List.mem_append_right _ (s3 a q)
              · rename_i hown
                simp only [Option.some.injEq, Prod.mk.injEq] at e1
                obtain ⟨rfl, rfl, rfl⟩ := e1
                have h2 : Held G Z H σ L ps vs F2 := ⟨o2, n1.2.1, fun a ha => h.dis a (by simpa using ha)⟩
                obtain ⟨FA, L2, r2, ha, ndA, disA, sub, bk⟩ := call_args r h2 e2
                obtain ⟨vi, Fi, k1, k2, _⟩ := r.sl.get eb
                rw [hv] at k1
                cases k1
                have hr : Ro G Z H ob v [] := by
                  cases k2 with
                  | val q => exact .val q
                  | scr q => exact .scr q
                  | _ => exact absurd rfl hown
                refine ⟨[] ++ FA, L2, r2, .cons hr ha, by simpa using ndA, fun a ha => disA a (by simpa using ha), fun a ha => sub a (by simpa using ha), fun Z' H' fin F' r' hf nd' dis' => ?_⟩
                cases hf with
                | val hv' hf =>
                  obtain ⟨L3, r3, s3⟩ := bk Z' H' _ _ r' hf nd' dis'
                  exact ⟨L3, by simpa [backs] using r3, s3⟩
                | own hv' hx hf => exact absurd hv' hown
            · cases e1
      · cases e
    · cases e
theorem Rep.aside (r : Rep θ G Z H ρ σ L) {F M : List Addr} (mu : ∀ a ∈ F, Mut (H a)) (nd : (F ++ L).Nodup) (dz : ∀ a ∈ F, ¬ Z a) (s : Step Z F H Z' M H') (zd : ∀ a, Z' a → H' a ≠ none) : Rep θ G Z' H' ρ σ L := by
  have n := List.nodup_append.mp nd
  have mL := r.sl.mut
  have nF : ∀ a ∈ L, a ∉ F := fun a ha hf => n.2.2 a hf a ha rfl
  refine ⟨r.sl.kp (s.kp mu dz) fun a ha u e => s.keep a u e (nF a ha), r.nd, fun a ha z => ?_, zd, r.pn⟩
  rcases s.znew a z with q | q | q
  · exact r.dis a ha q
  · exact nF a ha q
  · exact mut_some (mL a ha) q
theorem ArgsOk.mut : ∀ {os : List O} {vs : List V} {F : List Addr}, ArgsOk G Z H os vs F → ∀ a ∈ F, Mut (H a)
  | _, _, _, .nil, _, h => by cases h
  | _, _, _, .cons h t, a, ha => (List.mem_append.mp ha).elim (h.mut a) (ArgsOk.mut t a)
/-- a call's answer -/
theorem rd_call {fn : FSem} {n : Nat} {Q : VK} (q : RdE X ca W (oCall fn as) σ H Q) (hn : ∀ σ H Q, RdA X ca W as σ H Q → RdA X ca W as σ H fun vs H' => vs.length = n ∧ Q vs H') : RdA X ca W as σ H fun vs H1 => spF (gx X ca) n fn vs H1 Q (WE W σ) := by
  have key : RdA X ca W as σ H fun vs H1 => vs.length = n → spF (gx X ca) n fn vs H1 Q (WE W σ) := by
    obtain ⟨θ, Z, ρ, L, r, q⟩ := q
    refine ⟨θ, Z, ρ, L, r, ?_⟩
    unfold oCall at q
    cases e1 : as ρ with
    | stuck => rw [e1] at q; exact q
    | exc c ρ1 => rw [e1] at q; exact q
    | ok ps ρ1 =>
      rw [e1] at q
      simp only [bind_ok] at q
      intro Z1 H1 L1 F vs r1 h1 s1 hl
      unfold callE at q
      cases e2 : lift ρ1 ps with
      | none => rw [e2] at q; exact q.elim
      | some x =>
        obtain ⟨os, bs, ρ2⟩ := x
        rw [e2] at q
        simp only at q
        obtain ⟨FA, L2, r2, ha, ndA, disA, sub, bk⟩ := call_args r1 h1 e2
        have nA := List.nodup_append.mp ndA
        have muA := ha.mut
        refine ⟨Z1, os, FA, hl, ha, nA.1, disA, r2.zd, ?_⟩
        -- behind the call
        have beh : ∀ {Z' H' M}, Step Z1 FA H1 Z' M H' → M.Nodup → (∀ a, Z' a → H' a ≠ none) → Rep θ (gx X ca) Z' H' ρ2 σ L2 ∧ (M ++ L2).Nodup ∧ Step Z L H Z' (M ++ L2) H' := fun {Z' H' M} s nM zd => by
          have rr := r2.aside muA ndA disA s zd
          refine ⟨rr, List.nodup_append.mpr ⟨nM, r2.nd, fun a ha c hc q => ?_⟩, ?_⟩
          · subst q
            rcases s.lnew a ha with q | q
            · exact nA.2.2 a q a hc rfl
            · exact mut_some (r2.sl.mut a hc) q
          · have sA : Step Z L H Z1 (L2 ++ FA) H1 := s1.sub fun a ha => sub a ((List.mem_append.mp ha).elim (fun q => List.mem_append_right _ q) fun q => List.mem_append_left _ q)
            exact (sA.then s).sub fun a ha => (List.mem_append.mp ha).elim (fun q => List.mem_append_right _ q) fun q => List.mem_append_left _ q
        cases e3 : fn os with
        | stuck => rw [e3] at q; exact q
        | ret o fin =>
          rw [e3] at q
          intro Z' H' F' Fo v hf ho nd dis zd s
          have n := List.nodup_append.mp nd
          obtain ⟨rr, ndM, st⟩ := beh s nd zd
          rw [List.append_assoc] at ndM
          have m := List.nodup_append.mp ndM
          obtain ⟨L3, r3, s3⟩ := bk Z' H' fin F' rr hf m.2.1 fun a ha => dis a (List.mem_append_right _ ha)
          refine q Z' H' L3 Fo v r3 (.tmp ho (List.nodup_append.mpr ⟨n.1, r3.nd, fun a ha c hc => m.2.2 a ha c (s3 c hc)⟩) fun a ha => dis a (List.mem_append_left _ ha)) (st.sub fun a ha => ?_)
          rw [List.append_assoc]
          exact (List.mem_append.mp ha).elim (fun q => List.mem_append_left _ q) fun q => List.mem_append_right _ (s3 a q)
        | exc c fin =>
          rw [e3] at q
          intro Z' H' F' hf nd dis zd s
          obtain ⟨rr, ndM, st⟩ := beh s nd zd
          obtain ⟨L3, r3, s3⟩ := bk Z' H' fin F' rr hf ndM dis
          exact q Z' H' L3 r3 (st.sub s3)
  exact (hn _ _ _ key).mono fun vs H' ⟨h1, h2⟩ => h2 h1
theorem rdA_len : ∀ {fs : List ES} {σ : L2.St} {H : Hp} {Q : List V → Hp → Prop}, RdA X ca W (oAs fs) σ H Q → RdA X ca W (oAs fs) σ H fun vs H' => vs.length = fs.length ∧ Q vs H' := by
  intro fs σ H Q ⟨θ, Z, ρ, L, r, q⟩
  have len : ∀ {fs : List ES} {ρ ρ1 : En} {ps : List Opd}, oAs fs ρ = .ok ps ρ1 → ps.length = fs.length := by
    intro fs
    induction fs with
    | nil => intro ρ ρ1 ps e; cases e; rfl
    | cons f fs ih =>
      intro ρ ρ1 ps e
      unfold oAs at e
      cases e1 : f ρ with
      | stuck => rw [e1] at e; cases e
      | exc => rw [e1] at e; cases e
      | ok p ρ2 =>
        rw [e1] at e
        simp only [bind_ok] at e
        cases e2 : oAs fs ρ2 with
        | stuck => rw [e2] at e; cases e
        | exc => rw [e2] at e; cases e
        | ok ps' ρ3 =>
          rw [e2] at e
          cases e
          rw [List.length_cons, List.length_cons, ih e2]
  have olen : ∀ {ps : List Opd} {vs : List V} {H : Hp} {Z : Zs} {F : List Addr}, OpsOk (gx X ca) Z H σ ps vs F → vs.length = ps.length := by
    intro ps vs H Z F h
    induction h with
    | nil => rfl
    | tmp _ _ ih => rw [List.length_cons, List.length_cons, ih]
    | nm _ _ ih => rw [List.length_cons, List.length_cons, ih]
  refine ⟨θ, Z, ρ, L, r, ?_⟩
  cases e : oAs fs ρ with
  | stuck => rw [e] at q; exact q
  | exc c ρ1 => rw [e] at q; exact q
  | ok ps ρ1 =>
    rw [e] at q
    exact fun Z' H' L' F vs r' h' s' => ⟨(olen h'.ok).trans (len e), q Z' H' L' F vs r' h' s'⟩
theorem se_call {fn : FSem} {k : Nat} {fa : Addr} {fd : FuncData} {ps : List Str} {x : Str} {p pos : Pos} {e : Expr} {es : List Expr} {fs : List ES} (Fn : EFn X.prog X.w X.K X.mg X.base k fa fd ps (spF (gx X ca) fs.length fn)) (hG : X.A.guards = some []) (hr : Room k X.A) (hm : X.mg x = some (.ref fa)) (hk : PySem.W.keepIn X.K (.ref fa) = true)
    (hb : Binds X.K fd ps []) (tk : L2N.Takes X W) (hg : Gl X x) (ha : PA X (e :: es) (RdA X ca W (oAs fs))) (hdb : (x == ("__debug__" : Str)) = false) (hs : ((e :: es).all notStar) = true) : PE X (.Call (.Name x p) (e :: es) [] pos) (RdE X ca W (oCall fn (oAs fs))) :=
  PE.imp (pe_callE Fn hG hr hg hm hk hb tk ha hdb hs) fun σ H Q h => rd_call h fun _ _ _ h => rdA_len h

/-! ### raise -/
def sRaise (c : Nat) : SS := fun ρ => .exc c ρ
end
end Eng
set_option maxHeartbeats 1000000
/-! The engine, part 19: list comprehensions. -/
namespace Eng
open PySem PySem.Spec L2
open PyProof.Rows hiding St

/-- what is wanted between two turns of a comprehension -/
def lcC (c : Option (Nat × List D)) (own : List Nat) (ρ : En) : Prop := chkE c ρ ∧ ∀ i ∈ own, ρ[i]? = some none
open Classical in
noncomputable def lcL (c : Option (Nat × List D)) (T : Tgt) (t : TS') (f : ES) (own : List Nat) : List D → List D → En → Out (List D)
  | [], acc, ρ => .ok acc ρ
  | d :: ds, acc, ρ => match T.put d ρ with
    | none => .stuck
    | some ρ1 => match t ρ1 with
      | .ok b ρ2 => if b = true then match f ρ2 with
          | .ok p ρ3 => match give ρ3 p with
            | some (e, ρ4) => if lcC c own (dropE own ρ4) then lcL c T t f own ds (acc ++ [e]) (dropE own ρ4) else .stuck
            | none => .stuck
          | _ => .stuck
        else if lcC c own (dropE own ρ2) then lcL c T t f own ds acc (dropE own ρ2) else .stuck
      | _ => .stuck
/-- the names of the block hold what they held -/
def rest1 (ρ0 : En) (i : Nat) (ρ : En) : En := match ρ0[i]? with
  | some (some (false, .val d)) => ρ.set i (some (false, .val d))
  | _ => ρ
def restE (ρ0 : En) : List Nat → En → En
  | [], ρ => ρ
  | i :: is, ρ => match ρ[i]? with
    | some none => restE ρ0 is (rest1 ρ0 i ρ)
    | _ => restE ρ0 is ρ
open Classical in
noncomputable def lcW (c : Option (Nat × List D)) (T : Tgt) (t : TS') (f : ES) (own : List Nat) (ds : List D) (ρ : En) : Out (List D) :=
  if lcC c own (dropE own ρ) then match lcL c T t f own ds [] (dropE own ρ) with
    | .ok acc ρ2 => .ok acc (restE ρ own ρ2)
    | _ => .stuck
  else .stuck
noncomputable def lcE (T : Tgt) (t : TS') (f : ES) (own : List Nat) (x : Option Nat × List D) (ρ : En) : Out Opd := match x with
  | (none, ds) => (lcW none T t f own ds ρ).bind fun acc ρ2 => .ok (.tmp (.lst acc)) ρ2
  | (some j, ds) => match ρ[j]? with
    | some (some (true, _)) => (lcW (some (j, ds)) T t f own ds ρ).bind fun acc ρ2 => .ok (.tmp (.lst acc)) ρ2
    | some (some (false, o)) => (lcW (some (j, ds)) T t f own ds (ρ.set j (some (true, o)))).bind fun acc ρ2 => .ok (.tmp (.lst acc)) (unpin j ρ2)
    | _ => .stuck
noncomputable def oLc (it : IS) (T : Tgt) (t : TS') (f : ES) (own : List Nat) : ES := fun ρ => (it ρ).bind fun x ρ1 => lcE T t f own x ρ1
def tTrue : TS' := fun ρ => .ok true ρ
abbrev WF : WX := fun _ _ _ _ => False
section
variable {X : Cx} {ca : Nat → Addr} {W : WX} {f g : ES} {as : AS} {G : Gx} {b : SS} {t : TS'} {it : IS}
variable {θ θ' : Nat → V} {Z Z1 Z0 Z' : Zs} {L L1 L0 L' F F0 : List Addr} {H H1 H0 H' : Hp} {σ σ' : L2.St} {ρ ρ1 ρ' : En} {Dn : Ends}
theorem PTs.imp {es : List Expr} {t t' : TT} (h : PTs X es t) (i : ∀ σ H Q, t' σ H Q → t σ H Q) : PTs X es t' := ⟨fun pins s σ H Q I q => h.run pins s σ H Q I (i σ H Q q)⟩
theorem st_yes : PTs X [] (RdT X ca W tTrue) := PTs.imp pts_nil fun σ H Q ⟨θ, Z, ρ, L, r, q⟩ => q Z H L r Step.refl
theorem st_ifone {c : Expr} (h : PT X c (RdT X ca W t)) : PTs X [c] (RdT X ca W t) := pts_one h
theorem wipe_eq {own : List Nat} (h : Agr own σ σ') : wipe σ' own = wipe σ own := by
  refine List.ext_getElem? fun i => ?_
  by_cases hi : i ∈ own
  · have l1 : (wipe σ' own)[i]? = (wipe σ own)[i]? ∨ True := .inr trivial
    have key : ∀ {σ : L2.St}, (wipe σ own)[i]? = if i < σ.length then some none else none := fun {σ} => by
      cases e : (wipe σ own)[i]? with
      | none =>
        have := List.getElem?_eq_none_iff.mp e
        rw [wipe_length] at this
        rw [if_neg (by omega)]
      | some x =>
        have lt := (List.getElem?_eq_some_iff.mp e).1
        rw [wipe_length] at lt
        rw [if_pos lt]
        cases x with
        | none => rfl
        | some v => exact absurd hi (wipe_some e).2
    rw [key, key, h.1]
  · rw [wipe_out hi, wipe_out hi, h.2 i hi]
theorem RoS.agree : ∀ {ρ : En} {σ σ' : L2.St} {L : List Addr}, RoS G Z H ρ σ L → σ'.length = σ.length → (∀ (i : Nat) (po : Bool × O), ρ[i]? = some (some po) → σ'[i]? = σ[i]?) → RoS G Z H ρ σ' L
  | _, _, [], _, .emp, _, _ => .emp
  | _, _, _ :: _, _, .emp, hl, _ => by simp at hl
  | _, _, [], _, .no t, hl, _ => by simp at hl
  | _, _, y :: σ', _, .no t, hl, h => .no (RoS.agree t (by simpa using hl) fun i po e => by simpa using h (i + 1) po (by simpa using e))
  | _, _, [], _, .yes _ t, hl, _ => by simp at hl
  | _, _, y :: σ', _, .yes hr t, hl, h => by
    have h0 := h 0 _ rfl
    simp only [List.getElem?_cons_zero, Option.some.injEq] at h0
    subst h0
    exact .yes hr (RoS.agree t (by simpa using hl) fun i po e => by simpa using h (i + 1) po (by simpa using e))
theorem Rep.agree {own : List Nat} (r : Rep θ G Z H ρ σ L) (h : Agr own σ σ') (hn : ∀ i ∈ own, ρ[i]? = some none) : Rep θ G Z H ρ σ' L := by
  have key : ∀ (i : Nat) (po : Bool × O), ρ[i]? = some (some po) → σ'[i]? = σ[i]? := fun i po e => h.2 i fun hi => by
    rw [hn i hi] at e
    cases e
  exact ⟨r.sl.agree h.1 key, r.nd, r.dis, r.zd, fun i o e => by rw [key i _ e]; exact r.pn i o e⟩
theorem wipe_agr (own : List Nat) : Agr own σ (wipe σ own) := ⟨wipe_length _ _, fun i hi => wipe_out hi⟩
theorem Agr.symm {is : List Nat} (h : Agr is σ σ') : Agr is σ' σ := ⟨h.1.symm, fun i hi => (h.2 i hi).symm⟩
theorem Rep.upd {a : Addr} {u : HO} (r : Rep θ G Z H ρ σ L) (mu : Mut (H a)) (hL : a ∉ L) (nz : ¬ Z a) : Rep θ G Z (L2.upd H a u) ρ σ L :=
  ⟨r.sl.kp (kp_upd mu nz) fun b hb v e => by rw [upd_ne (show b ≠ a from fun q => hL (q ▸ hb))]; exact e, r.nd, r.dis, fun b z => by rw [upd_ne (show b ≠ a from fun q => nz (q ▸ z))]; exact r.zd b z, r.pn⟩
theorem Rep.rest {ρ0 : En} (hd : ∀ (i : Nat) (d : D), ρ0[i]? = some (some (false, .val d)) → ∃ v, σ[i]? = some (some v) ∧ Dz Z G.K H d v) : ∀ (own : List Nat) {ρ : En} {L : List Addr}, Rep θ G Z H ρ σ L → ∃ L', Rep θ G Z H (restE ρ0 own ρ) σ L' ∧ ∀ a, a ∈ L' → a ∈ L
  | [], _, L, r => ⟨L, r, fun _ h => h⟩
  | i :: is, ρ, L, r => by
    unfold restE
    split
    · rename_i e
      unfold rest1
      split
      · rename_i d e0
        obtain ⟨v, hv, dz⟩ := hd i d e0
        obtain ⟨L1, r1, h1⟩ := r.back (i := i) (p := false) (F := []) e hv (.val dz) r.nd (fun _ q => by cases q) (fun q => by cases q)
        obtain ⟨L2, r2, h2⟩ := Rep.rest hd is r1
        exact ⟨L2, r2, fun a ha => by simpa using (h1 a).mp (h2 a ha)⟩
      · exact Rep.rest hd is r
    · exact Rep.rest hd is r
/-- the turns of a comprehension -/
theorem lc_turns {c : Option (Nat × List D)} {T : Tgt} {own : List Nat} {J : It} {ds : List D} {Ok : Zs → Hp → En → List Addr → Prop} {accF : List D} {ρF : En} {Da : Addr} {Qd : Hp → Prop} (hT : ∀ i ∈ T.slots, i ∈ own) (w : Wlk θ (gx X ca) (chkE c) J ds Ok)
    (r : Rep θ (gx X ca) Z H ρ σ L) (k : Ok Z H ρ L) (hz : ds.length ≤ sizeLine) (hD : H Da = none) (e : lcW c T t f own ds ρ = .ok accF ρF)
    (fin : ∀ Z' H' L' xs, Rep θ (gx X ca) Z' H' ρF σ L' → H' Da = some (.lst xs) → DzA Z' X.K H' accF xs → Da ∉ L' → ¬ Z' Da → Step Z L H Z' (Da :: L') H' → Qd H') :
    ∃ W' : Nat → Nat → Hp → Prop, (∃ m, W' 0 m (L2.upd H Da (.lst []))) ∧ ∀ i m H, W' i m H → (J.stop i H ∧ Qd H) ∨ (J.go i H ∧ ∃ Nx : Hp → Prop, (∀ H', Nx H' → ∃ m', m' < m ∧ W' (i + 1) m' H') ∧ ∀ x H', J.yld i H x H' →
      tgR X ca T x (wipe σ own) H' fun σ2 H2 => wipe σ2 own = wipe σ own ∧ RdT X ca WF t σ2 H2 fun b H3 => if b = true then RdE X ca WF f σ2 H3 fun y H4 => ∃ acc, H4 Da = some (.lst acc) ∧ acc.length < sizeLine ∧ Nx (L2.upd H4 Da (.lst (acc ++ [y]))) else Nx H3) := by
  unfold lcW at e
  split at e
  · rename_i hc0
    cases eL : lcL c T t f own ds [] (dropE own ρ) with
    | stuck => rw [eL] at e; cases e
    | exc => rw [eL] at e; cases e
    | ok acc1 ρ2 =>
      rw [eL] at e
      simp only [Out.ok.injEq] at e
      obtain ⟨rfl, rfl⟩ := e
      -- the word between two turns
      let inv : Nat → Hp → Prop := fun i H2 => i ≤ ds.length ∧ ∃ Z2 ρ2' M2 acc xs, Rep θ (gx X ca) Z2 H2 ρ2' (wipe σ own) M2 ∧ (∀ i ∈ own, ρ2'[i]? = some none) ∧ Ok Z2 H2 ρ2' (Da :: M2) ∧ Da ∉ M2 ∧ (¬ Z2 Da) ∧ H2 Da = some (.lst xs) ∧ DzA Z2 X.K H2 acc xs ∧ acc.length ≤ i ∧
        Step Z L H Z2 (Da :: M2) H2 ∧ lcL c T t f own (ds.drop i) acc ρ2' = .ok acc1 ρ2
      refine ⟨fun i m H2 => m = ds.length - i ∧ inv i H2, ?_, ?_⟩
      · obtain ⟨L1, r1, h1⟩ := r.drop own
        have r2 : Rep θ (gx X ca) Z H (dropE own ρ) (wipe σ own) L1 := r1.agree (wipe_agr own) hc0.2
        have nDL : Da ∉ L := fun h => mut_some (r.sl.mut Da h) hD
        have nDZ : ¬ Z Da := fun h => r.zd Da h hD
        have same : Same H (L2.upd H Da (.lst [])) := same_new hD
        have s0 : Step Z L H Z (Da :: L1) (L2.upd H Da (.lst [])) := ⟨fun a o e _ => same a o e, fun _ h => h, fun _ h => .inl h, fun a ha => (List.mem_cons.mp ha).elim (fun h => .inr (h ▸ hD)) fun h => .inl (h1 a h)⟩
        have nd1 : (Da :: L1).Nodup := List.nodup_cons.mpr ⟨fun h => nDL (h1 Da h), r2.nd⟩
        exact ⟨_, rfl, Nat.zero_le _, Z, dropE own ρ, L1, [], [], r2.same same, hc0.2, w.step r.sl.mut r.dis k s0 nd1 hc0.1, fun h => nDL (h1 Da h), nDZ, upd_same, .nil, Nat.zero_le _, s0, eL⟩
      · rintro i m H2 ⟨rfl, hi, Z2, ρ3, M2, acc, xs, r2, hn, k2, nDL, nDZ, hDa, dz, hl, s2, e2⟩
        by_cases hlt : i < ds.length
        · refine .inr ⟨w.go i hlt r2 k2, inv (i + 1), fun H' p' => ⟨ds.length - (i + 1), by omega, rfl, p'⟩, fun x H3 y => ?_⟩
          have hd : ds[i]? = some ds[i] := by simp [hlt]
          rw [List.drop_eq_getElem_cons hlt] at e2
          obtain ⟨same, dx⟩ := w.yld i ds[i] x H3 hd r2 k2 y
          unfold lcL at e2
          cases e3 : T.put ds[i] ρ3 with
          | none => rw [e3] at e2; cases e2
          | some ρ4 =>
            rw [e3] at e2
            simp only at e2
            have r3 := r2.same same
            refine ⟨θ, Z2, ρ3, M2, ds[i], ρ4, r3, dx, e3, fun σ4 L4 r4 sub ag => ?_⟩
            have agO : Agr own (wipe σ own) σ4 := ag.mono hT
            have hw : wipe σ4 own = wipe σ own := by
              rw [wipe_eq agO, wipe_eq (wipe_agr own)]
            refine ⟨hw, θ, Z2, ρ4, L4, r4, ?_⟩
            have hDa3 : H3 Da = some (.lst xs) := same _ _ hDa
            have nD4 : Da ∉ L4 := fun h => nDL (sub Da h)
            have ro4 : Ro (gx X ca) Z2 H3 (.lst acc) (.ref Da) [Da] := .lst hDa3 (dz.kp (same_kp same))
            have nd4 : ([Da] ++ L4).Nodup := List.nodup_cons.mpr ⟨nD4, r4.nd⟩
            have s4 : Step Z2 M2 H2 Z2 L4 H3 := ⟨fun a o e _ => same a o e, fun _ h => h, fun _ h => .inl h, fun a ha => .inl (sub a ha)⟩
            -- a turn's end
            have turn : ∀ {Z5 H5 L5 ρ5 acc5 xs5 u}, Step Z2 M2 H2 Z5 L5 H5 → Rep θ (gx X ca) Z5 (L2.upd H5 Da u) ρ5 σ4 L5 → Da ∉ L5 → ¬ Z5 Da → u = .lst xs5 → DzA Z5 X.K (L2.upd H5 Da u) acc5 xs5 → acc5.length ≤ i + 1 →
                (open Classical in if lcC c own (dropE own ρ5) then lcL c T t f own (ds.drop (i + 1)) acc5 (dropE own ρ5) else .stuck) = .ok acc1 ρ2 → inv (i + 1) (L2.upd H5 Da u) := fun {Z5 H5 L5 ρ5 acc5 xs5 u} s5 r5 nD5 nZ5 hu dz5 hl5 e5 => by
              subst hu
              split at e5
              · rename_i hc5
                obtain ⟨L6, r6, h6⟩ := r5.drop own
                have r7 := r6.agree agO.symm hc5.2
                have st : Step Z2 (Da :: M2) H2 Z5 (Da :: L6) (L2.upd H5 Da (.lst xs5)) := ⟨fun a o e hna => by
                  rw [List.mem_cons, not_or] at hna
                  rw [upd_ne hna.1]
                  exact s5.keep a o e hna.2, s5.zmono, fun a z => (s5.znew a z).imp_right fun q => q.imp_left fun q => List.mem_cons_of_mem _ q, fun a ha => (List.mem_cons.mp ha).elim (fun q => .inl (by rw [q]; exact List.mem_cons_self)) fun q => (s5.lnew a (h6 a q)).imp_left fun q => List.mem_cons_of_mem _ q⟩
                have mu2 : ∀ a ∈ Da :: M2, Mut (H2 a) := fun a ha => (List.mem_cons.mp ha).elim (fun q => by rw [q, hDa]; trivial) (r2.sl.mut a)
                have dis2 : ∀ a ∈ Da :: M2, ¬ Z2 a := fun a ha => (List.mem_cons.mp ha).elim (fun q => q ▸ nDZ) (r2.dis a)
                exact ⟨hlt, Z5, _, L6, acc5, xs5, r7, hc5.2, w.step mu2 dis2 k2 st (List.nodup_cons.mpr ⟨fun h => nD5 (h6 Da h), r7.nd⟩) hc5.1, fun h => nD5 (h6 Da h), nZ5, upd_same, dz5, hl5, s2.trans st, e5⟩
              · cases e5
            cases e6 : t ρ4 with
            | stuck => rw [e6] at e2; cases e2
            | exc => rw [e6] at e2; cases e2
            | ok bb ρ5 =>
              rw [e6] at e2
              simp only at e2
              intro Z5 H5 L5 r5 s5
              obtain ⟨ro5, nd5, di5⟩ := ro4.aside (L' := []) r4.sl.mut r4.dis nd4 (fun a ha => by rw [List.mem_singleton] at ha; rw [ha]; exact nDZ) s5 r5.nd
              have nD5 : Da ∉ L5 := (List.nodup_cons.mp nd5).1
              cases bb with
              | false =>
                simp only [Bool.false_eq_true, if_false] at e2 ⊢
                obtain ⟨xs5, hx5, dz5⟩ := ro5.lst_of
                have same5 : L2.upd H5 Da (.lst xs5) = H5 := by
                  funext a
                  by_cases q : a = Da
                  · rw [q, upd_same, hx5]
                  · rw [upd_ne q]
                have := turn (u := .lst xs5) (s4.trans s5) (by rw [same5]; exact r5) nD5 (di5 Da List.mem_cons_self) rfl (by rw [same5]; exact dz5) (by omega) e2
                rw [same5] at this
                exact this
              | true =>
                simp only [if_true] at e2 ⊢
                refine ⟨θ, Z5, ρ5, L5, r5, ?_⟩
                cases e7 : f ρ5 with
                | stuck => rw [e7] at e2; cases e2
                | exc => rw [e7] at e2; cases e2
                | ok p ρ6 =>
                  rw [e7] at e2
                  simp only at e2
                  intro Z6 H6 L6 F6 v r6 h6 s6
                  obtain ⟨ro6, nd6, di6⟩ := ro5.aside (L' := []) r5.sl.mut r5.dis nd5 di5 s6 h6.nd
                  cases e8 : give ρ6 p with
                  | none => rw [e8] at e2; cases e2
                  | some y =>
                    obtain ⟨dy, ρ7⟩ := y
                    rw [e8] at e2
                    simp only at e2
                    obtain ⟨Z7, L7, r7, d7, s7⟩ := give_ok r6 h6 e8
                    obtain ⟨mu6, dz6⟩ := h6.mut r6
                    obtain ⟨ro7, nd7, di7⟩ := ro6.aside (L' := []) mu6 dz6 nd6 di6 s7 r7.nd
                    obtain ⟨xs7, hx7, dz7⟩ := ro7.lst_of
                    have nD7 : Da ∉ L7 := (List.nodup_cons.mp nd7).1
                    have nZ7 := di7 Da List.mem_cons_self
                    have mu7 : Mut (H6 Da) := by rw [hx7]; trivial
                    refine ⟨xs7, hx7, by rw [dz7.length]; omega, ?_⟩
                    exact turn (u := .lst (xs7 ++ [v])) (acc5 := acc ++ [dy]) (((s4.trans s5).trans s6).trans s7) (r7.upd mu7 nD7 nZ7) nD7 nZ7 rfl ((dz7.append (.cons d7 .nil)).kp (kp_upd mu7 nZ7)) (by simp; omega) e2
        · have ei : i = ds.length := by omega
          subst ei
          rw [List.drop_length] at e2
          simp only [lcL, Out.ok.injEq] at e2
          obtain ⟨rfl, rfl⟩ := e2
          refine .inl ⟨w.stop r2 k2, ?_⟩
          have r8 := r2.agree (wipe_agr own).symm hn
          have kp : Kp Z (gx X ca).K H Z2 H2 := s2.kp r.sl.mut r.dis
          obtain ⟨L9, r9, h9⟩ := Rep.rest (ρ0 := ρ) (fun i d e0 => by
            obtain ⟨v, F, q1, q2, _⟩ := r.sl.get e0
            cases q2 with
            | val q2 => exact ⟨v, q1, q2.kp kp⟩) own r8
          exact fin Z2 H2 L9 xs r9 hDa dz (fun h => nDL (h9 Da h)) nDZ (s2.sub fun a ha => (List.mem_cons.mp ha).elim (fun q => by rw [q]; exact List.mem_cons_self) fun q => List.mem_cons_of_mem _ (h9 a q))
  · cases e
theorem rd_lc {T : Tgt} {own : List Nat} {Q : VK} (hT : ∀ i ∈ T.slots, i ∈ own) (q : RdE X ca W (oLc it T t f own) σ H Q) : tLc (RdI X ca W it) (tgR X ca T) (RdT X ca WF t) (RdE X ca WF f) own σ H Q := by
  obtain ⟨θ, Z, ρ, L, r, q⟩ := q
  refine ⟨θ, Z, ρ, L, r, ?_⟩
  unfold oLc at q
  cases e1 : it ρ with
  | stuck => rw [e1] at q; exact q
  | exc c ρ1 => rw [e1] at q; exact q
  | ok x ρ1 =>
    obtain ⟨j, ds⟩ := x
    rw [e1] at q
    simp only [bind_ok] at q
    intro Z1 H1 L1 F J r1 s1 sr hz Da hD
    have done : ∀ {Z' H' L' xs acc ρ2} (θ2 : Nat → V), PoE X ca W θ Z L H σ Q (.ok (.tmp (.lst acc)) ρ2) → Rep θ (gx X ca) Z' H' ρ2 σ L' → H' Da = some (.lst xs) → DzA Z' X.K H' acc xs → Da ∉ L' → ¬ Z' Da → Step Z1 L1 H1 Z' (Da :: L') H' → Q (.ref Da) H' := fun {Z' H' L' xs acc ρ2} θ2 q r2 h2 dz nL nZ s2 =>
      q Z' H' L' [Da] _ r2 (.tmp (.lst h2 dz) (List.nodup_cons.mpr ⟨nL, r2.nd⟩) (fun a ha => by rw [List.mem_singleton] at ha; rw [ha]; exact nZ)) ((s1.sub fun a h => List.mem_append_right _ h).trans s2)
    unfold lcE at q
    cases j with
    | none =>
      simp only at q
      obtain ⟨Ok, w, k⟩ := sr.walk (θ := θ)
      cases e2 : lcW none T t f own ds ρ1 with
      | stuck => rw [e2] at q; exact q.elim
      | exc c ρ2 =>
        unfold lcW at e2
        split at e2
        · split at e2 <;> cases e2
        · cases e2
      | ok acc ρ2 =>
        rw [e2] at q
        exact lc_turns hT w r1 k hz hD e2 fun Z' H' L' xs r2 h2 dz nL nZ s2 => done θ q r2 h2 dz nL nZ s2
    | some j =>
      cases sr with
      | slot e h =>
        rename_i p a
        simp only at q
        rw [e] at q
        cases p with
        | true =>
          simp only at q
          have hθ := r1.pn j _ e
          rw [h] at hθ
          cases e2 : lcW (some (j, ds)) T t f own ds ρ1 with
          | stuck => rw [e2] at q; exact q.elim
          | exc c ρ2 =>
            unfold lcW at e2
            split at e2
            · split at e2 <;> cases e2
            · cases e2
          | ok acc ρ2 =>
            rw [e2] at q
            exact lc_turns hT (wlk_slot (Option.some.inj (Option.some.inj hθ)).symm) r1 e hz hD e2 fun Z' H' L' xs r2 h2 dz nL nZ s2 => done θ q r2 h2 dz nL nZ s2
        | false =>
          simp only at q
          have r2 := r1.pinOn e h
          have lj := (List.getElem?_eq_some_iff.mp e).1
          cases e2 : lcW (some (j, ds)) T t f own ds (ρ1.set j (some (true, .lst ds))) with
          | stuck => rw [e2] at q; exact q.elim
          | exc c ρ2 =>
            unfold lcW at e2
            split at e2
            · split at e2 <;> cases e2
            · cases e2
          | ok acc ρ2 =>
            rw [e2] at q
            exact lc_turns hT (wlk_slot (θ := fun i => if i = j then V.ref a else θ i) (by simp)) r2 (by rw [List.getElem?_set_self lj]) hz hD e2 fun Z' H' L' xs r3 h3 dz nL nZ s3 => done θ q (r3.unpin fun i hi => by simp [hi]) h3 dz nL nZ s3
theorem se_lc {elt tg iter : Expr} {ifs : List Expr} {scope : Scope} {own : List (Str × Nat)} {T : Tgt} {pos : Pos} (hT : ∀ i ∈ T.slots, i ∈ own.map (·.2)) (hc : X.calm = true) (hN : X.N.Nodup) (hi : PI X tg iter (RdI X ca W it)) (ok : BlkOk X.N X.env.scope scope own)
    (hg : ∀ (s : Shared) (H : Hp) (C : Addr) (cl : List (Str × Addr)) (fp : List Addr), PG (X.blk s H scope (compEnvC scope cl C X.env) fp) tg (tgR (X.blk s H scope (compEnvC scope cl C X.env) fp) ca T))
    (ht : ∀ (s : Shared) (H : Hp) (C : Addr) (cl : List (Str × Addr)) (fp : List Addr), PTs (X.blk s H scope (compEnvC scope cl C X.env) fp) ifs (RdT (X.blk s H scope (compEnvC scope cl C X.env) fp) ca WF t))
    (he : ∀ (s : Shared) (H : Hp) (C : Addr) (cl : List (Str × Addr)) (fp : List Addr), PE (X.blk s H scope (compEnvC scope cl C X.env) fp) elt (RdE (X.blk s H scope (compEnvC scope cl C X.env) fp) ca WF f)) (hs : ∀ x, foldedSetIterable iter X.env x = pure x) :
    PE X (.ListComp elt [⟨tg, iter, ifs, 0⟩] scope pos) (RdE X ca W (oLc it T t f (own.map (·.2)))) :=
  PE.imp (pe_lc hc hN hi ok hg ht he hs) fun σ H Q q => rd_lc hT q
theorem ss_setLc {i : Nat} {y : Str} {py : Pos} {elt tg iter : Expr} {ifs : List Expr} {scope : Scope} {own : List (Str × Nat)} {T : Tgt} {pos spos : Pos} (hT : ∀ i ∈ T.slots, i ∈ own.map (·.2)) (hc : X.calm = true) (hN : X.N.Nodup) (hy : X.N[i]? = some y) (hyl : X.env.scope.names.lookup y = some .local)
    (hsw : swapsWith (.ListComp elt [⟨tg, iter, ifs, 0⟩] scope pos) (some (.Name y py)) spos.line X.env = pure true) (hi : PI X tg iter (RdI X ca W it)) (ok : BlkOk X.N X.env.scope scope own)
    (hg : ∀ (s : Shared) (H : Hp) (C : Addr) (cl : List (Str × Addr)) (fp : List Addr), PG (X.blk s H scope (compEnvC scope cl C X.env) fp) tg (tgR (X.blk s H scope (compEnvC scope cl C X.env) fp) ca T))
    (ht : ∀ (s : Shared) (H : Hp) (C : Addr) (cl : List (Str × Addr)) (fp : List Addr), PTs (X.blk s H scope (compEnvC scope cl C X.env) fp) ifs (RdT (X.blk s H scope (compEnvC scope cl C X.env) fp) ca WF t))
    (he : ∀ (s : Shared) (H : Hp) (C : Addr) (cl : List (Str × Addr)) (fp : List Addr), PE (X.blk s H scope (compEnvC scope cl C X.env) fp) elt (RdE (X.blk s H scope (compEnvC scope cl C X.env) fp) ca WF f)) (hs : ∀ x, foldedSetIterable iter X.env x = pure x) :
    PS X (.Assign [.Name y py] (.ListComp elt [⟨tg, iter, ifs, 0⟩] scope pos) spos) (RdS X ca W (sAsg i (oLc it T t f (own.map (·.2))))) :=
  PS.imp (ps_setLc hc hN hy hyl hsw hi ok hg ht he hs) fun Dn σ H ⟨θ, Z, ρ, L, r, q⟩ => rd_lc hT (rd_ES r q fun p ρ1 Z1 H1 L1 F v q r1 h1 s1 => stoE_ok r1 h1 s1 q)
end
end Eng
set_option maxHeartbeats 1000000
/-! The engine, part 20: chained comparisons, isinstance, repr, callees by name. -/
namespace Eng
open PySem PySem.Spec L2
open PyProof.Rows hiding St

section
variable {X : Cx} {ca : Nat → Addr} {W : WX} {f g h : ES} {as : AS} {G : Gx} {b : SS} {t : TS'} {it : IS}
variable {θ θ' : Nat → V} {Z Z1 Z0 Z' : Zs} {L L1 L0 L' F F0 : List Addr} {H H1 H0 H' : Hp} {σ σ' : L2.St} {ρ ρ1 ρ' : En} {Dn : Ends}
/-! ### a < b < c -/
def oChain (s1 s2 : O → O → Option O) (f g h : ES) : ES := fun ρ => (f ρ).bind fun p ρ1 => (g ρ1).bind fun q ρ2 => match looks ρ2 [p, q] with
  | some [x, y] => match s1 x y with
    | some (.val (.bool k)) => if k = true then (h ρ2).bind fun r ρ3 => match looks ρ3 [q, r] with
        | some [y', z] => put ρ3 (s2 y' z)
        | _ => .stuck
      else .ok (.tmp (.val (.bool false))) ρ2
    | _ => .stuck
  | _ => .stuck
/-! ### isinstance -/
def kindO : O → Option String
  | .val .none => some "NoneType"
  | .val (.bool _) => some "bool"
  | .val (.int _) => some "int"
  | .val (.str _) => some "str"
  | .val (.list _) => some "list"
  | .val (.tuple _) => some "tuple"
  | .lst _ => some "list"
  | _ => none
def isiB (k T : String) : Bool := k == T || (k == "bool" && T == "int")
def kinds5 : List String := ["bool", "int", "str", "list", "tuple"]
def kinds6 : List String := "NoneType" :: kinds5
def isiS (T : String) (o : O) : Option O := (kindO o).map fun k => .val (.bool (isiB k T))
theorem isi_table {K : PySem.W.Frag} : ∀ k ∈ kinds6, ∀ T ∈ kinds5, PySem.W.kitOne K (.type k) (.type T) = some (isiB k T) := by
  have h : (kinds6.all fun k => kinds5.all fun T => decide (kitB k T = some (isiB k T))) = true := by decide +kernel
  intro k hk T hT
  exact kit_ty (of_decide_eq_true (List.all_eq_true.mp (List.all_eq_true.mp h k hk) T hT))
theorem kind_tup {K : PySem.W.Frag} {a : Addr} {xs : List V} (r : SqT K H a xs) : TyX K H (.ref a) (.type "tuple") := by
  rcases r with (r | ⟨o, r⟩) | ⟨o, its, n, r, hc, _⟩
  · exact .base (.tup r)
  · exact .fTuple r
  · exact .kTuple r hc
theorem kind_ty {o : O} {k : String} {v : V} (hr : Rb G Z H o v) (e : kindO o = some k) : k ∈ kinds6 ∧ TyX G.K H v (.type k) := by
  obtain ⟨F, hr⟩ := hr
  cases hr with
  | val h =>
    cases h with
    | non => cases e; exact ⟨by decide, .base .non⟩
    | bl => cases e; exact ⟨by decide, .base (.bl _)⟩
    | int => cases e; exact ⟨by decide, .base (.int _)⟩
    | str => cases e; exact ⟨by decide, .base (.str _)⟩
    | lst z r h => cases e; exact ⟨by decide, .base (.lst r)⟩
    | tup r h => cases e; exact ⟨by decide, kind_tup r⟩
    | dic => cases e
  | lst e1 h1 => cases e; exact ⟨by decide, .base (.lst e1)⟩
  | _ => cases e
theorem se_isi {e : Expr} {T : String} {x : Str} {p p2 pos : Pos} (hT : T ∈ kinds5) (he : PE X e (RdE X ca W f)) (hg : Gl X "isinstance") (hm : X.mg "isinstance" = none) (hg2 : Gl X x) (hm2 : X.mg x = none) (hv : bootBuiltins x = some (.type T)) (hn : x ≠ "__name__") (hd : (x == ("__debug__" : Str)) = false) (hs : notStar e = true) :
    PE X (.Call (.Name "isinstance" p) [e, .Name x p2] [] pos) (RdE X ca W (o1 (isiS T) f)) := by
  have h1 : PA X [e, .Name x p2] (tCons (RdE X ca W f) (tCons (tC (.ty T)) tNil)) := pa_cons he (pa_cons (pe_bltn hg2 hm2 hv rfl hn hd) pa_nil (star_cons rfl)) (star_cons hs)
  refine PE.imp (pe_callB (call_isi (X := X)) hg hm (by decide +kernel) h1 (by decide) (by decide) (star_cons hs) (star_plain (by rfl))) fun σ H Q q => (rd_o1 q).mono fun v H1 h => ?_
  obtain ⟨Z, a, o, zd, ha, e1, q⟩ := rsem1 h
  unfold isiS at e1
  cases e2 : kindO a with
  | none => rw [e2] at e1; cases e1
  | some k =>
    rw [e2] at e1
    cases e1
    obtain ⟨hk, ty⟩ := kind_ty ha e2
    exact ⟨v, .ty T, .type k, .type T, isiB k T, rfl, .ty T, ty, isi_table k hk T hT, q _ _ [] (Al.val (.bl _))⟩

/-! ### repr -/
def reprS (o : O) : Option O := match o.view? with
  | some d => if d.showable = true ∧ d.hasDict = false ∧ d.depth ≤ 32 ∧ d.shown.length ≤ sizeLine then some (.val (.str d.shown)) else none
  | none => none
end
end Eng
set_option maxHeartbeats 1000000
/-! The engine, part 21: rules as the printer names them. -/
namespace Eng
open PySem PySem.Spec L2
open PyProof.Rows hiding St

/-- a def that may be called by its name -/
structure Callee (P : Program) (w : World) (K : PySem.W.Frag) (mg : Str → Option Value) (base : Heap) (ca : Nat → Addr) (k : Nat) (x : Str) (n : Nat) (g : FSem) : Prop where
  ex : ∃ f fd ps, ps.length = n ∧ EFn P w K mg base k f fd ps (spF ⟨P, w, K, ca⟩ n g) ∧ mg x = some (.ref f) ∧ PySem.W.keepIn K (.ref f) = true ∧ Binds K fd ps []
theorem Callee.mono {P : Program} {w : World} {K : PySem.W.Frag} {mg : Str → Option Value} {base : Heap} {ca : Nat → Addr} {j k : Nat} {x : Str} {n : Nat} {g : FSem} (c : Callee P w K mg base ca j x n g) (h : j ≤ k) : Callee P w K mg base ca k x n g := by
  obtain ⟨f, fd, ps, h1, h2, h3⟩ := c.ex
  exact ⟨f, fd, ps, h1, h2.mono h, h3⟩
/-- the names of the built-ins are the built-ins' own -/
structure Blt (mg : Str → Option Value) : Prop where
  len : mg "len" = none
  range : mg "range" = none
  sorted : mg "sorted" = none
  set : mg "set" = none
  tuple : mg "tuple" = none
  list : mg "list" = none
  all : mg "all" = none
  any : mg "any" = none
  sum : mg "sum" = none
  max : mg "max" = none
  min : mg "min" = none
  str : mg "str" = none
  int : mg "int" = none
  dict : mg "dict" = none
  repr : mg "repr" = none
  isi : mg "isinstance" = none
  zip : mg "zip" = none
  enum : mg "enumerate" = none
  rev : mg "reversed" = none
  bool : mg "bool" = none
theorem bb_len : bootBuiltins "len" = some (.builtin "len") := by decide +kernel
theorem bb_sorted : bootBuiltins "sorted" = some (.builtin "sorted") := by decide +kernel
theorem bb_all : bootBuiltins "all" = some (.builtin "all") := by decide +kernel
theorem bb_list : bootBuiltins "list" = some (.type "list") := by decide +kernel
theorem bb_tuple : bootBuiltins "tuple" = some (.type "tuple") := by decide +kernel
theorem bb_str : bootBuiltins "str" = some (.type "str") := by decide +kernel
theorem bb_int : bootBuiltins "int" = some (.type "int") := by decide +kernel
theorem bb_bool : bootBuiltins "bool" = some (.type "bool") := by decide +kernel
theorem hu65 {k : Nat} {A : Around} (hr : Room k A) : A.units + 65 < cLine := by have := hr.un; omega
theorem hu64 {k : Nat} {A : Around} (hr : Room k A) : A.units + 64 < cLine := by have := hr.un; omega
section
variable {X : Cx} {ca : Nat → Addr} {W : WX} {f g h : ES} {fs : AS} {p pos apos px : Pos} {e : Expr} {es : List Expr} {k i : Nat} {x : Str}
theorem se_n (i : Nat) {x : Str} (hN : X.N[i]? = some x) (hv : Vis X.env.scope x) (hd : (x == ("__debug__" : Str)) = false) (hcd : (x == ("__classdict__" : Str)) = false) : PE X (.Name x pos) (RdE X ca W (oNm i)) := se_name hN hv hd hcd
theorem sa_c {gs : List ES} (hs : notStar e = true) (ha : PE X e (RdE X ca W f)) (hr : PA X es (RdA X ca W (oAs gs))) : PA X (e :: es) (RdA X ca W (oAs (f :: gs))) := sa_cons ha hr (star_cons hs)
theorem se_c {fn : FSem} {gs : List ES} {n : Nat} (C : Callee X.prog X.w X.K X.mg X.base ca k x n fn) (hG : X.A.guards = some []) (hr : Room k X.A) (tk : L2N.Takes X W) (hn : gs.length = n) (hg : Gl X x) (hdb : (x == ("__debug__" : Str)) = false) (hs : ((e :: es).all notStar) = true) (ha : PA X (e :: es) (RdA X ca W (oAs gs))) :
    PE X (.Call (.Name x p) (e :: es) [] pos) (RdE X ca W (oCall fn (oAs gs))) := by
  obtain ⟨fa, fd, ps, h1, h2, h3, h4, h5⟩ := C.ex
  subst hn
  exact se_call (k := k) h2 hG hr h3 h4 h5 tk hg ha hdb hs
theorem se_len (B : Blt X.mg) (hg : Gl X "len") (hs : notStar e = true) (he : PE X e (RdE X ca W f)) : PE X (.Call (.Name "len" p) [e] [] pos) (RdE X ca W (o1 lenS f)) := se_callB c_len hg B.len bb_len (sa_c hs he sa_nil) (by decide) (by decide) (by simp [hs])
theorem se_all (hc : X.calm = true) (B : Blt X.mg) (hg : Gl X "all") (hs : notStar e = true) (he : PE X e (RdE X ca W f)) : PE X (.Call (.Name "all" p) [e] [] pos) (RdE X ca W (o1 allS f)) := se_callB (c_all hc) hg B.all bb_all (sa_c hs he sa_nil) (by decide) (by decide) (by simp [hs])
theorem se_sorted (hc : X.calm = true) (hr : Room k X.A) (B : Blt X.mg) (hg : Gl X "sorted") (hs : notStar e = true) (he : PE X e (RdE X ca W f)) : PE X (.Call (.Name "sorted" p) [e] [] pos) (RdE X ca W (o1 sortS f)) := se_callB (c_sorted hc (hu65 hr)) hg B.sorted bb_sorted (sa_c hs he sa_nil) (by decide) (by decide) (by simp [hs])
theorem se_list (B : Blt X.mg) (hg : Gl X "list") (hs : notStar e = true) (he : PE X e (RdE X ca W f)) : PE X (.Call (.Name "list" p) [e] [] pos) (RdE X ca W (o1 listS f)) := se_callTy c_list hg B.list bb_list (sa_c hs he sa_nil) (by decide) (by decide) (by simp [hs])
theorem se_tuple (B : Blt X.mg) (hg : Gl X "tuple") (hs : notStar e = true) (he : PE X e (RdE X ca W f)) : PE X (.Call (.Name "tuple" p) [e] [] pos) (RdE X ca W (o1 tupleS f)) := se_callTy c_tuple hg B.tuple bb_tuple (sa_c hs he sa_nil) (by decide) (by decide) (by simp [hs])
theorem se_strC (B : Blt X.mg) (hg : Gl X "str") (hs : notStar e = true) (he : PE X e (RdE X ca W f)) : PE X (.Call (.Name "str" p) [e] [] pos) (RdE X ca W (o1 strS f)) := se_callTy c_str hg B.str bb_str (sa_c hs he sa_nil) (by decide) (by decide) (by simp [hs])
/-! ### methods -/
theorem se_app {e : Expr} {j : Nat} (hN : X.N[j]? = some x) (hv : Vis X.env.scope x) (hd : (x == ("__debug__" : Str)) = false) (hcd : (x == ("__classdict__" : Str)) = false) (he : PE X e (RdE X ca W f)) (hs : notStar e = true)
    (hbase : attributeBase (.Name x px) "append" X.env (eval (.Name x px) X.env) = eval (.Name x px) X.env) (hline : (apos.endLine == pos.line) = true)
    (hfew : ((backTo pos (starEach [e] X.env)).all (fun x => !x.1) && (backToKw pos (keywordEach [] X.env)).all (fun x => x.1.isSome) && decide ([e].length + ([] : List Keyword).length + (if ([] : List Keyword).isEmpty then 0 else 1) < 30)) = true) :
    PE X (.Call (.Attribute (.Name x px) "append" apos) [e] [] pos) (RdE X ca W (oMutA appS j (oAs [f]))) :=
  PE.imp (pe_bm PySem.F.plainAttrs_list PySem.F.slot_list_append PySem.F.type_list_append mt_append (se_n j hN hv hd hcd) (sa_c hs he sa_nil) hbase hfew hline (star_cons hs) (star_plain rfl)) fun σ H Q q => rd_mut (fun o ds x e => by
    unfold appS at e
    split at e
    · rfl
    · cases e) mut_app q
theorem se_ext {e : Expr} {j : Nat} (hN : X.N[j]? = some x) (hv : Vis X.env.scope x) (hd : (x == ("__debug__" : Str)) = false) (hcd : (x == ("__classdict__" : Str)) = false) (he : PE X e (RdE X ca W f)) (hs : notStar e = true)
    (hbase : attributeBase (.Name x px) "extend" X.env (eval (.Name x px) X.env) = eval (.Name x px) X.env) (hline : (apos.endLine == pos.line) = true)
    (hfew : ((backTo pos (starEach [e] X.env)).all (fun x => !x.1) && (backToKw pos (keywordEach [] X.env)).all (fun x => x.1.isSome) && decide ([e].length + ([] : List Keyword).length + (if ([] : List Keyword).isEmpty then 0 else 1) < 30)) = true) :
    PE X (.Call (.Attribute (.Name x px) "extend" apos) [e] [] pos) (RdE X ca W (oExt j f)) :=
  PE.imp (pe_bm PySem.F.plainAttrs_list PySem.F.slot_list_extend PySem.F.type_list_extend mt_extA (se_n j hN hv hd hcd) (sa_c hs he sa_nil) hbase hfew hline (star_cons hs) (star_plain rfl)) fun σ H Q q => rd_ext q
theorem se_popAt {e : Expr} {j : Nat} (hN : X.N[j]? = some x) (hv : Vis X.env.scope x) (hd : (x == ("__debug__" : Str)) = false) (hcd : (x == ("__classdict__" : Str)) = false) (he : PE X e (RdE X ca W f)) (hs : notStar e = true)
    (hbase : attributeBase (.Name x px) "pop" X.env (eval (.Name x px) X.env) = eval (.Name x px) X.env) (hline : (apos.endLine == pos.line) = true)
    (hfew : ((backTo pos (starEach [e] X.env)).all (fun x => !x.1) && (backToKw pos (keywordEach [] X.env)).all (fun x => x.1.isSome) && decide ([e].length + ([] : List Keyword).length + (if ([] : List Keyword).isEmpty then 0 else 1) < 30)) = true) :
    PE X (.Call (.Attribute (.Name x px) "pop" apos) [e] [] pos) (RdE X ca W (oMutA popAtS j (oAs [f]))) :=
  PE.imp (pe_bm PySem.F.plainAttrs_list PySem.F.slot_list_pop PySem.F.type_list_pop mt_popAt (se_n j hN hv hd hcd) (sa_c hs he sa_nil) hbase hfew hline (star_cons hs) (star_plain rfl)) fun σ H Q q => rd_mut (fun o ds x e => by
    unfold popAtS at e
    split at e
    · rfl
    · cases e) mut_popAt q
theorem se_pop {j : Nat} (hN : X.N[j]? = some x) (hv : Vis X.env.scope x) (hd : (x == ("__debug__" : Str)) = false) (hcd : (x == ("__classdict__" : Str)) = false)
    (hbase : attributeBase (.Name x px) "pop" X.env (eval (.Name x px) X.env) = eval (.Name x px) X.env) (hline : (apos.endLine == pos.line) = true) :
    PE X (.Call (.Attribute (.Name x px) "pop" apos) [] [] pos) (RdE X ca W (oMut0 popS j)) :=
  PE.imp (pe_bm0 PySem.F.plainAttrs_list PySem.F.slot_list_pop PySem.F.type_list_pop mt_pop (se_n j hN hv hd hcd) hbase hline) fun σ H Q q => rd_mut0 (fun o x e => by
    unfold popS at e
    split at e
    · rfl
    · cases e) mut_pop q
/-! ### set(xs) -/
def setC (o : O) : Option O := o.seq?.bind fun ds => (asStrs ds).bind fun ys => if ys.length + 1 < scanBound then some (.set (metT ys)) else none
/-! ### a, b = e -/
def sUnp (T : Tgt) (f : ES) : SS := fun ρ => (f ρ).bindS fun p ρ1 => match give ρ1 p with
  | some (d, ρ2) => match T.put d ρ2 with
    | some ρ3 => .nx ρ3
    | none => .stuck
  | none => .stuck
end
end Eng
set_option maxHeartbeats 1000000
/-! The engine, part 22: the end of a law. -/
namespace Eng
open PySem PySem.Spec L2
open PyProof.Rows hiding St

/-- the law's def is called with the script -/
theorem law_run {P : Program} {w : World} {K : PySem.W.Frag} {mg mb : Str → Option Value} {ca : Nat → Addr} {k : Nat} {fa a : Addr} {fd : FuncData} {x : Str} {g : FSem} {s1 : Shared} {us : List Value} {ns : List Int} {fin : List O}
    (inK : K.In s1.heap) (nG : s1.heap.Ns mainGlobals mg) (nB : s1.heap.Ns builtinsNs mb) (bB : ∀ y : Str, y ≠ "__name__" → mb y = bootBuiltins y) (lim : s1.heap.NoLimit) (gens : s1.gens = #[])
    (at_ : s1.heap.get? a = some { cls := .type "list", data := .seq us.toArray }) (hints : IntsAre us ns) (few : ns.length ≤ sizeLine) (room : Room k callerA)
    (F : ∀ base : Heap, K.In base → base.Ns mainGlobals mg → EFn P w K mg base k fa fd [x] (spF ⟨P, w, K, ca⟩ 1 g)) (binds : ∀ (s : Shared) (u : Value), BindsTo s fd ⟨[u], []⟩ [(x, u)]) (ans : g [.scr ns] = .ret (.val (.bool true)) fin) :
    codeAny (model P w) callerA (.call (.ref fa) ⟨[.ref a], []⟩) (fun r s' => r = .ok (.ret (.bool true)) ∧ OldK s1.heap s'.heap ∧ s'.os = s1.os ∧ AllBare s'.gens) s1 := by
  have rel := vals_ints hints
  have lenU := hints.length
  let ob : Obj := { cls := .type "list", data := .seq us.toArray }
  let H : Hp := fun b => if b = a ∧ K.lookup a = none then some (.frz ob (.lst (ns.map V.int))) else none
  have only : ∀ b u, H b = some u → b = a ∧ K.lookup a = none ∧ u = .frz ob (.lst (ns.map V.int)) := fun b u e => by
    by_cases hb : b = a ∧ K.lookup a = none
    · have e2 : (if b = a ∧ K.lookup a = none then some (HO.frz ob (.lst (ns.map V.int))) else none) = some u := e
      rw [if_pos hb] at e2
      cases e2
      exact ⟨hb.1, hb.2, rfl⟩
    · have e2 : (if b = a ∧ K.lookup a = none then some (HO.frz ob (.lst (ns.map V.int))) else none) = some u := e
      rw [if_neg hb] at e2
      cases e2
  have free : ∀ b, (b = a → K.lookup a ≠ none) → H b = none := fun b hb => by
    cases q : H b with
    | none => rfl
    | some u => exact absurd (only b u q).2.1 (hb (only b u q).1)
  have scr : SqS K H a ns := by
    cases q : K.lookup a with
    | none => exact .inl ⟨ob, if_pos ⟨rfl, q⟩⟩
    | some o =>
      have e := inK a o q
      rw [at_] at e
      cases e
      exact .inr ⟨_, us.toArray, _, q, rfl, rfl, rfl, by rw [List.size_toArray, lenU]; exact few, by simpa using rel⟩
  have hok : HOk P w H s1.heap := fun b u e => by
    obtain ⟨rfl, _, rfl⟩ := only b u e
    exact ⟨at_, by rw [List.length_map]; exact few, us, _, rel, at_⟩
  have notD : ∀ {b : Addr} {o : Obj} {es : Array DictEntry} {ep : Nat}, s1.heap.get? b = some o → o.data = .dict es ep → H b = none := fun {b o es ep} e d => free b fun hb => by
    subst hb
    rw [at_] at e
    cases e
    cases d
  have nsB : ∀ {b : Addr} {m : Str → Option Value}, s1.heap.Ns b m → (hidT s1.heap H).Ns b m := fun {b m} ⟨o, es, ep, e, d, r⟩ => ⟨o, es, ep, hidT_get e (notD e d), d, r⟩
  have inB : K.In (hidT s1.heap H) := fun b o e => hidT_get (inK b o e) (free b fun hb => by rw [← hb, e]; intro q; cases q)
  have md : Mod K mg (hidT s1.heap H) := ⟨inB, nsB nG, ⟨mb, nsB nB, bB⟩, let ⟨mc, h1, h2⟩ := lim; ⟨mc, nsB h1, h2⟩⟩
  have env0 : Env0 P w K mg (hidT s1.heap H) callerA [] s1 H := ⟨rfl, md, fun b o e => of_hidT e, Nat.le_of_eq (hidT_size s1.heap H), trivial, fun b hb => absurd (show b ∈ ([] : List Addr) from hb) (by simp), hok, .of_eq gens⟩
  have sp : spF ⟨P, w, K, ca⟩ 1 g [.ref a] H (fun v _ => v = .bl true) (fun _ _ _ => False) := by
    refine ⟨fun _ => False, [.scr ns], [] ++ [], rfl, .cons (.scr scr) .nil, List.nodup_nil, fun _ h => by simp at h, fun _ h => h.elim, ?_⟩
    rw [ans]
    intro Z' H' F' Fo v _ ro _ _ _ _
    cases ro with
    | val hd => cases hd; rfl
  refine codeAny_mono ((F _ inB (nsB nG)).go callerA [] s1 H ⟨[.ref a], []⟩ [.ref a] [.ref a] _ _ rfl room env0 (binds s1 (.ref a)) (.cons rfl .nil) sp) fun r s' h => ?_
  cases r with
  | error e =>
    obtain ⟨_, _, _, _, _, _, _, _, _, _, _, _, z⟩ := h
    exact z.elim
  | ok fl =>
    cases fl with
    | next => exact h.elim
    | brk => exact h.elim
    | cont => exact h.elim
    | ret u =>
      obtain ⟨v, H', os, bare, un, hok', rv, q⟩ := h
      have q2 : v = .bl true := q
      subst q2
      have ru : u = Value.bool true := rv
      subst ru
      refine ⟨rfl, OldK.of_keep fun b o e => ?_, os, bare⟩
      cases qb : H b with
      | none => exact un.keep b o e qb (fun z => absurd (show b ∈ ([] : List Addr) from z) (by simp)) (by simp)
      | some u =>
        obtain ⟨_, _, rfl⟩ := only b u qb
        obtain ⟨k1, _⟩ := hok b _ qb
        obtain ⟨k2, _⟩ := hok' b _ (un.frzs b ob _ qb)
        rw [e] at k1
        cases k1
        exact k2
theorem _root_.L2.Fun.binds1 {K : PySem.W.Frag} {x qual p : Str} {st : Stmt} {f : Addr} {fd : FuncData} (F : Fun K x qual st f fd)
    (h : ∀ (kV doc pm : Value) (an : Option Addr) (cdv ct : Value) (us : List Value), us.length = 1 → bindArgs (PySem.W.fnOf x qual (defArgs st) (defBody st) (defScope st) .none kV doc pm an cdv ct) ⟨us, []⟩ = pure ([p].zip us)) : ∀ (s : Shared) (u : Value), BindsTo s fd ⟨[u], []⟩ [(p, u)] := fun s u => by
  obtain ⟨oc, od, kV, doc, pm, an, cdv, ct, osl, rfl, lk, cd⟩ := F.ex
  exact .of_eq (h kV doc pm an cdv ct [u] rfl)
/-- the end: from the head's facts to the law's walk -/
theorem walk_law {l : PySem.W.OpenLaw} {n k : Nat} {q : Program} {loose : List Str} {XP : (Str → Option Value) → Heap → Prop} {YP : World → Heap → Prop} {d : DefRec} {x : Str} {g : FSem} (hn : l.most = some n) (hn2 : n ≤ sizeLine) (hdf : d.params.defaults = []) (hr : Room k callerA)
    (F : ∀ (w : World) (mg : Str → Option Value) (fa : Addr) (h : Heap), YP w h → h.Ns mainGlobals mg → mg d.name = some (.ref fa) →
      ∃ (K : PySem.W.Frag) (fd : FuncData) (ca : Nat → Addr), K.In h ∧ (∀ (s : Shared) (u : Value), BindsTo s fd ⟨[u], []⟩ [(x, u)]) ∧ ∀ base : Heap, K.In base → base.Ns mainGlobals mg → EFn l.prog w K mg base k fa fd [x] (spF ⟨l.prog, w, K, ca⟩ 1 g))
    (ans : ∀ ns : List Int, ns.length ≤ n → ∃ fin, g [.scr ns] = .ret (.val (.bool true)) fin) : PySem.W.WalkO q loose XP YP l.row.toRowW d [] (fun f vs => PySem.call f vs) := by
  refine Att.attach_callB hn hdf fun w s0 s1 mg mb fa o pm cd doc a us ns G Y ho hd hcd hmg hobj hints hlen hbits hg => ?_
  obtain ⟨K, fd, ca, inK, hb, hF⟩ := F w mg fa _ Y G.T.g hmg
  obtain ⟨fin, e⟩ := ans ns hlen
  exact law_run inK G.T.g G.T.b G.T.builtins G.T.nolimit hg hobj hints (Nat.le_trans hlen hn2) hr hF hb e
end Eng
set_option maxHeartbeats 1000000
/-! The engine, part 23: x[::-1]. -/
namespace HT
open PySem PySem.Spec PyProof.Rows
section
variable {prog : Program} {w : World} {A : Around} {E : Value → Shared → Prop} {s : Shared}
end
end HT
namespace Eng
open PySem PySem.Spec L2
open PyProof.Rows hiding St
section
variable {X : Cx} {ca : Nat → Addr} {W : WX} {f : ES}
def revO : O → Option O
  | .val (.tuple ds) => some (.val (.tuple ds.reverse))
  | .lst ds => some (.lst ds.reverse)
  | .val (.list ds) => some (.lst ds.reverse)
  | _ => none
/-! ### is True -/
def isB : O → O → Option O
  | .val (.bool a), .val (.bool b) => some (.val (.bool (decide (a = b))))
  | _, _ => none
def isnotB : O → O → Option O
  | .val (.bool a), .val (.bool b) => some (.val (.bool (!decide (a = b))))
  | _, _ => none
end
end Eng
set_option maxHeartbeats 1000000
/-! The engine, part 24: list(reversed(x)), tuple(reversed(x)), x a list. -/
namespace RL
open PySem PySem.Spec PyProof.Rows RT
section
variable {prog : Program} {w : World} {A : Around} {E : Value → Shared → Prop} {s : Shared} {R : Result → Shared → Prop} {it l S : Addr} {items : Array Value}
/-- the items of a reversed list, put behind an empty list at S -/
theorem ext_rev (c₀ : Nat) (hh : A.handled = none) (hit : s.heap.IsRevIter it l ((items.size : Int) - 1)) (hl : s.heap.IsList l items) (hne : l ≠ it) (hn : items.size ≤ sizeLine) (hSi : S ≠ it) (hSl : S ≠ l)
    (hS : s.heap.get? S = some { cls := .type "list", data := .seq #[] c₀ })
    (hR : ∀ h' tk acc' c', (∀ b o, b ≠ S → b ≠ it → s.heap.get? b = some o → h'.get? b = some o) → h'.get? S = some { cls := .type "list", dict := none, data := .seq acc' c', slots := #[] } →
      ItemsOf (fun i v => items[items.size - 1 - i]? = some v) acc' items.size → R (.ok (.ret .none)) { s with heap := h', toks := tk }) :
    wpAny (model prog w) A.in1 (Builtin.List.listExtendWith (.ref S) (.ref it) .none)
      (fun fin s' => match fin with | .done f => R (.ok f) s' | .again c' => c'.quiet = true ∧ codeAny (model prog w) A c' R s') (fun e s' => R (.error e) s') s := by
  have Wk := (Walks.listRev (prog := prog) (w := w) (A := A.in1) hh it l hne items).toS
  have hSf : S ∉ [it, l] := by simp only [List.mem_cons, List.not_mem_nil, or_false, not_or]; exact ⟨hSi, hSl⟩
  have hT : s.TypeIs (.ref it) "list_reverseiterator" := hit.typeIs
  have h1 : Builtin.List.listSameRef (.ref S) (.ref it) = false := by simp [Builtin.List.listSameRef, hSi]
  unfold Builtin.List.listExtendWith
  refine wpAny_bind (wpAny_typeOf hT ?_)
  rw [if_neg (by rw [h1]; decide)]
  refine wpAny_bind (wpAny_pyIter_revIter hit ?_)
  refine wpAny_bind (wpAny_holding ?_)
  unfold Builtin.List.listLengthHint
  refine wpAny_bind (wpAny_specialOf hT nolen_lri ?_)
  show wpAny _ A.in1 (specialOf (Value.ref it) (Str.ofString "__length_hint__") >>= _) _ _ _
  refine wpAny_bind (wpAny_specialOf hT hint_lri ?_)
  generalize hid : ("list_reverseiterator.__length_hint__" : String) = id0
  wp_delta
  rw [show splitId id0 = some ("list_reverseiterator", "__length_hint__") from by subst hid; decide +kernel]
  subst hid
  refine wpAny_bind (wpAny_isInstance (b := true) hT (by rw [isSubtype_type]; kernel_rfl) ?_)
  refine wpAny_pure ?_
  rw [if_neg (by decide)]
  have e0 : ((items.size : Nat) : Int) - 1 - ((0 : Nat) : Int) = (items.size : Int) - 1 := by omega
  refine wpAny_pure ⟨plainId_quiet F.plain_extend_loop _, codeAny_extend_loopS Wk hn _ hSf _ items.size 0 _ _ _ rfl (Nat.zero_le _) ⟨Nat.zero_le _, by rw [e0]; exact hit, hl⟩ hS (ItemsOf.nil _) fun s' acc' c' hm hS' hacc => ?_⟩
  rw [Moved.eq_with hm]
  refine hR s'.heap s'.toks acc' c' (fun b o hb hb2 e => hm.heap b o (fun hmem => ?_) e) hS' hacc
  rcases List.mem_cons.mp hmem with e' | hmem
  · exact hb e'
  · exact hb2 (List.mem_singleton.mp hmem)
theorem call_list_rev {Q : Value → Shared → Prop} (hh : A.handled = none) (hit : s.heap.IsRevIter it l ((items.size : Int) - 1)) (hl : s.heap.IsList l items) (hne : l ≠ it) (hn : items.size ≤ sizeLine)
    (hQ : ∀ h' tk acc' c', (∀ b o, b ≠ it → s.heap.get? b = some o → h'.get? b = some o) →
      h'.get? s.heap.objs.size = some { cls := .type "list", dict := none, data := .seq acc' c', slots := #[] } → ItemsOf (fun i v => items[items.size - 1 - i]? = some v) acc' items.size → Q (.ref s.heap.objs.size) { s with heap := h', toks := tk }) :
    wpAny (model prog w) A (call (.type "list") [.ref it]) Q E s := by
  obtain ⟨oi, hoi, _⟩ := id hit
  obtain ⟨ol, hol, _⟩ := id hl
  have hSi : s.heap.objs.size ≠ it := Nat.ne_of_gt (Heap.lt_size hoi)
  have hSl : s.heap.objs.size ≠ l := Nat.ne_of_gt (Heap.lt_size hol)
  refine callType_codes (Q₁ := fun obj s₁ => obj = .ref s.heap.objs.size ∧ s₁ = { s with heap := s.heap.push { cls := .type "list", data := .seq #[] } }) F.called_list (F.typeCall_list_1 _) F.entry_list_init
    (code_list_new _ ⟨rfl, rfl⟩) fun obj s₁ h₁ => ?_
  obtain ⟨rfl, rfl⟩ := h₁
  have hS : (s.heap.push { cls := .type "list", data := .seq #[] }).get? s.heap.objs.size = some { cls := .type "list", data := .seq #[] } := Heap.get?_push_size _ rfl
  refine ⟨⟨_, hS, rfl⟩, F.args_list_init_2 _ _, ?_⟩
  show wpAny (model prog w) A.in1.in1 (do let old ← Builtin.List.listItems (.ref s.heap.objs.size); Builtin.List.listUpdate (.ref s.heap.objs.size) (fun _ => #[]); letGo old.toList.reverse; Builtin.List.listExtendWith (.ref s.heap.objs.size) (.ref it) .none) _ _ _
  refine wpAny_bind ?_
  unfold Builtin.List.listItems
  refine wpAny_bind (wpAny_seqItems hS rfl (wpAny_pure ?_))
  show wpAny _ _ (updateSeq s.heap.objs.size (fun _ => #[]) >>= fun _ => letGo (#[] : Array Value).toList.reverse >>= fun _ => Builtin.List.listExtendWith (.ref s.heap.objs.size) (.ref it) .none) _ _ _
  refine wpAny_bind (wpAny_updateSeq hS rfl ?_)
  have hS₂ := Heap.get?_update_self (Obj.mapSeq (fun _ => (#[] : Array Value))) hS rfl
  have oth : ∀ b o, b ≠ s.heap.objs.size → s.heap.get? b = some o → ((s.heap.push { cls := .type "list", data := .seq #[] }).update s.heap.objs.size (Obj.mapSeq (fun _ => (#[] : Array Value)))).get? b = some o :=
    fun b o hb e => (Heap.get?_update_other _ _ (Ne.symm hb)).trans (Heap.get?_push_of_some _ e)
  refine wpAny_bind (wpAny_letGo ?_)
  refine ext_rev (A := A.in1) (s := { s with heap := (s.heap.push { cls := .type "list", data := .seq #[] }).update s.heap.objs.size (Obj.mapSeq (fun _ => (#[] : Array Value))) }) _ hh (hit.at fun o e => oth it o (Ne.symm hSi) e) (hl.at fun o e => oth l o (Ne.symm hSl) e) hne hn hSi hSl hS₂ fun h' tk acc' c' hk hS' hacc => ?_
  exact ⟨rfl, hQ h' tk acc' c' (fun b o hb e => hk b o (Nat.ne_of_lt (Heap.lt_size e)) hb (oth b o (Nat.ne_of_lt (Heap.lt_size e)) e)) hS' hacc⟩
end
end RL
namespace Eng
open PySem PySem.Spec L2
open PyProof.Rows hiding St
section
variable {X : Cx} {ca : Nat → Addr} {W : WX} {f : ES}
def tListRev (K : PySem.W.Frag) (te : TE) : TE := fun σ H Q => te σ H fun v H1 => ∃ (a : Addr) (xs : List V), v = .ref a ∧ SqL K H1 a xs ∧ ∀ q, H1 q = none → Q (.ref q) (upd H1 q (.lst xs.reverse))
theorem pe_listRev {e : Expr} {te : TE} {p p2 pos pos2 : Pos} (hc : X.calm = true) (hg : Gl X "list") (hm : X.mg "list" = none) (hg2 : Gl X "reversed") (hm2 : X.mg "reversed" = none) (he : PE X e te)
    (hs : starEach [e] X.env = (false, eval e X.env) :: starEach [] X.env := by rfl)
    (hs2 : starEach [.Call (.Name "reversed" p2) [e] [] pos2] X.env = (false, eval (.Call (.Name "reversed" p2) [e] [] pos2) X.env) :: starEach [] X.env := by rfl) :
    PE X (.Call (.Name "list" p) [.Call (.Name "reversed" p2) [e] [] pos2] [] pos) (tListRev X.K te) := by
  refine ⟨fun pins s σ H Q I h => ?_⟩
  refine Call_ (ld_blt I hg hm boot_list (PyProof.Rows.callWith_type1 (args_cons (Call_ (ld_blt I hg2 hm2 PyProof.Rows.boot_reversed (PyProof.Rows.callWith_type1 (args_cons (thn (he.run pins s σ H _ I h) fun u s1 ⟨v, H1, I1, r1, q1⟩ => args_nil ?_) hs) hs rfl))) hs2) hs2 rfl))
  obtain ⟨a, xs, ev, hq, q⟩ := q1
  subst ev
  obtain rfl : u = Value.ref a := r1
  obtain ⟨its, rv, p', hz⟩ := I1.list hq
  refine call_reversed_list p'.isList (args_nil ?_)
  have k0 : ∀ b o, s1.heap.get? b = some o → (s1.heap.push (revObj a ((its.toArray.size : Int) - 1))).get? b = some o := fun b o e => Heap.get?_push_of_some _ e
  have I2 : Inv X pins σ H1 { s1 with heap := s1.heap.push (revObj a ((its.toArray.size : Int) - 1)) } := I1.kept (t' := s1.toks) k0
  have fp := I1.fpOk (H' := H1) (b := s1.heap.objs.size) (Nat.le_refl _) (I1.hok.fresh (Nat.le_refl _))
  have hl := p'.isList
  obtain ⟨ol, hol, _⟩ := id hl
  have hne : a ≠ s1.heap.objs.size := Nat.ne_of_lt (Heap.lt_size hol)
  have hn : its.toArray.size ≤ sizeLine := by rw [List.size_toArray, ← rv.length]; exact hz
  refine RL.call_list_rev (s := { s1 with heap := s1.heap.push (revObj a ((its.toArray.size : Int) - 1)) }) (I1.ok.hd hc) ⟨_, Heap.get?_push_size _ rfl, rfl, rfl⟩ (hl.push _) hne hn fun h' tk acc c' hk hS hi => ?_
  have ok : ObjOk X.prog X.w (upd H1 (s1.heap.push (revObj a ((its.toArray.size : Int) - 1))).objs.size (.lst xs.reverse)) h' (s1.heap.push (revObj a ((its.toArray.size : Int) - 1))).objs.size (.lst xs.reverse) := by
    refine ⟨by rw [List.length_reverse]; exact hz, acc.toList, c', RT.vals_rev rv hi, ?_⟩
    rw [Array.toArray_toList]
    exact hS
  have I3 := I2.turnedNew (t' := tk) (ch := [s1.heap.objs.size]) (fun b o hb e => hk b o (fun z => hb (by rw [z]; exact List.mem_singleton.mpr rfl)) e) (fun b hb => by rw [List.mem_singleton.mp hb]; exact fp) (Nat.le_refl _) ok
  exact ⟨.ref _, _, I3, rfl, q _ (I2.hok.fresh (Nat.le_refl _))⟩
def listRevS (o : O) : Option O := o.list?.map fun ds => .lst ds.reverse
theorem se_listRev {e : Expr} {p p2 pos pos2 : Pos} (hc : X.calm = true) (B : Blt X.mg) (hr : X.mg "reversed" = none) (hg : Gl X "list") (hg2 : Gl X "reversed") (he : PE X e (RdE X ca W f))
    (hs : starEach [e] X.env = (false, eval e X.env) :: starEach [] X.env := by rfl)
    (hs2 : starEach [.Call (.Name "reversed" p2) [e] [] pos2] X.env = (false, eval (.Call (.Name "reversed" p2) [e] [] pos2) X.env) :: starEach [] X.env := by rfl) :
    PE X (.Call (.Name "list" p) [.Call (.Name "reversed" p2) [e] [] pos2] [] pos) (RdE X ca W (o1 listRevS f)) := PE.imp (pe_listRev hc hg B.list hg2 hr he hs hs2) fun σ H Q h => (rd_o1 h).mono fun x H1 h => by
  obtain ⟨Z, a, o, zd, ha, e, q⟩ := rsem1 h
  unfold listRevS at e
  cases e1 : a.list? with
  | none => rw [e1] at e; cases e
  | some ds =>
    rw [e1] at e
    cases e
    obtain ⟨p, xs, rfl, hp, hd⟩ := rb_list ha e1
    exact ⟨p, xs, rfl, .inl (.inl hp), fun a' na => q _ _ _ (Al.lst hd.reverse na)⟩
end
end Eng
set_option maxHeartbeats 1000000
/-! The engine, part 25: a call that is never met. -/
namespace Eng
open PySem PySem.Spec L2
open PyProof.Rows hiding St
theorem callee_stuck {P : Program} {w : World} {K : PySem.W.Frag} {mg : Str → Option Value} {base : Heap} {ca : Nat → Addr} {k : Nat} {x : Str} {n : Nat} {f : Addr} {fd : FuncData} {ps : List Str} (hl : ps.length = n)
    (hk : PySem.W.keepIn K (.ref f) = true) (hb : Binds K fd ps []) (hm : mg x = some (.ref f)) : Callee P w K mg base ca k x n (fun _ => .stuck) :=
  ⟨f, fd, ps, hl, ⟨fun vs H Q E ⟨_, _, _, h, _⟩ => by omega, fun A outer s H args us vs Q E hg hr e b r ⟨Z, os, F, h1, h2, h3, h4, h5, q⟩ => q.elim⟩, hm, hk, hb⟩
end Eng
set_option maxHeartbeats 1000000
/-! The engine, part 26: try .. except C as n, the exception kept as an object. -/
namespace Eng
open PySem PySem.Spec L2
open PyProof.Rows hiding St
section
variable {X : Cx} {pins : List (Addr × Obj)} {σ : L2.St} {H : Hp} {s : Shared}
end
section
variable {X : Cx} {x n : Str} {c : Value} {i : Nat} {body suite : List Stmt} {b₀ : Stmt} {np pos pos' : Pos} {tb : WX → TS} {ts : Addr → Addr → TS} {Wout : WX}
end
end Eng
set_option maxHeartbeats 1000000
/-! The engine, part 27: the program's exceptions: what is known of their classes; isinstance; try. -/
namespace Eng
open PySem PySem.Spec L2
open PyProof.Rows hiding St
/-- the classes by their numbers -/
def clN : Nat → Str
  | 0 => "PrimerError" | 1 => "NoText" | 2 => "Unfit" | 3 => "Unknown" | 4 => "Unlearnt" | 5 => "TooMany" | 6 => "Lacking" | 7 => "NoRow" | 8 => "NoDeed" | 9 => "Shelf" | _ => "Desk"
structure Xf (K : PySem.W.Frag) (mg : Str → Option Value) (ca : Nat → Addr) (cl : List Nat) : Prop where
  g : ∀ c ∈ cl, mg (clN c) = some (.ref (ca c))
  x : ∀ c ∈ cl, PySem.W.excIn K (ca c) [.type "ValueError", .type "Exception", .type "BaseException", .type "object"] "ValueError.__new__" = true ∧ PySem.W.keepIn K (.ref (ca c)) = true ∧ PySem.W.subIn K (.ref (ca c)) (.type "BaseException") = some true ∧ PySem.W.typeIn K (.ref (ca c)) = some (.type "type")
  e : ∀ c ∈ cl, ExcC K (ca c)
  m : ∀ c ∈ cl, ∀ j ∈ cl, PySem.W.exmOne K (.ref (ca c)) (.ref (ca j)) = some (j == 0 || c == j)
  k : ∀ c ∈ cl, ∀ j ∈ cl, PySem.W.kitOne K (.ref (ca c)) (.ref (ca j)) = some (j == 0 || c == j)
  v : ∀ c ∈ cl, PySem.W.kitOne K (.ref (ca c)) (.type "ValueError") = some true
  n : mg "ValueError" = none
section
variable {X : Cx} {ca : Nat → Addr} {W : WX} {f : ES} {cl : List Nat}
variable {e : Expr} {p p2 pos : Pos} {x : Str}
end

/-! ### try -/
/-- the name of an except clause goes -/
def gone (i : Nat) : SOut → SOut
  | .nx ρ => .nx (ρ.set i none)
  | .bk ρ => .bk (ρ.set i none)
  | .ct ρ => .ct (ρ.set i none)
  | .rt o ρ => .rt o ρ
  | _ => .stuck
section
variable {X : Cx} {ca : Nat → Addr} {W : WX} {b s : SS} {cl : List Nat} {i j : Nat} {θ : Nat → V} {G : Gx} {Z : Zs} {H : Hp} {σ : L2.St} {L : List Addr} {ρ : En}
variable {x n : Str} {body suite : List Stmt} {b₀ : Stmt} {np pos pos' : Pos}
end
end Eng
set_option maxHeartbeats 1000000
/-! The engine, part 28: xs.index(y), xs.count(y), xs.insert(i, y), dict(pairs), d.pop(k). -/
namespace Eng
open PySem PySem.Spec L2
open PyProof.Rows hiding St
/-! ### methods that only read -/
/-- a method of a list that reads: the list's operand, one argument -/
def oRd (sem : O → O → Option O) (f g : ES) : ES := fun ρ => (f ρ).bind fun p ρ1 => match look ρ1 p with
  | some o0 => if o0.list?.isSome = true then (g ρ1).bind fun q ρ2 => match looks ρ2 [p, q] with
      | some os => put ρ2 (two sem os)
      | none => .stuck
    else .stuck
  | none => .stuck
section
variable {X : Cx} {ca : Nat → Addr} {W : WX} {f g : ES} {σ : L2.St} {H : Hp}
variable {o e : Expr} {apos pos : Pos} {k : Nat}
mutual
theorem plain_nd : ∀ d : D, d.plain = true → d.hasDict = false
  | .none, _ => by simp [PyData.hasDict]
  | .bool _, _ => by simp [PyData.hasDict]
  | .int _, _ => by simp [PyData.hasDict]
  | .str _, _ => by simp [PyData.hasDict]
  | .list ds, h => by simpa [PyData.hasDict] using plainAll_nd ds (by simpa [PyData.plain] using h)
  | .tuple ds, h => by simpa [PyData.hasDict] using plainAll_nd ds (by simpa [PyData.plain] using h)
  | .dict _, h => by simp [PyData.plain] at h
theorem plainAll_nd : ∀ ds : List D, PyData.plainAll ds = true → PyData.hasDictAll ds = false
  | [], _ => by simp [PyData.hasDictAll]
  | d :: ds, h => by
    have h2 : d.plain = true ∧ PyData.plainAll ds = true := by simpa [PyData.plainAll] using h
    simp [PyData.hasDictAll, plain_nd d h2.1, plainAll_nd ds h2.2]
end
/-! ### xs.insert(i, y) -/
/-! ### dict(pairs) -/
/-! ### d.pop(k) -/
end
end Eng
set_option maxHeartbeats 1000000
/-! The engine, part 29: raise by the classes' facts; these facts at the head. -/
namespace Eng
open PySem PySem.Spec L2
open PyProof.Rows hiding St
section
variable {X : Cx} {ca : Nat → Addr} {W : WX} {cl : List Nat}
end
/-- a class of exceptions, looked at -/
def excB (K : PySem.W.Frag) (C : Addr) : Bool :=
  He.eqO (PySem.W.findIn K (.ref C) "__getattribute__") (some (some (.builtin "BaseException.__getattribute__"))) && (He.eqO (PySem.W.findIn K (.ref C) "__getattr__") (some none) && (decide (PySem.W.subIn K (.ref C) (.type "BaseException") = some true) &&
    (PySem.W.hasDictIn K C && (He.eqO (PySem.W.findIn K (.ref C) "__class__") (some (some (.builtin "object.__class__"))) && (He.eqO (PySem.W.specialIn K (.builtin "object.__class__") "__get__") (some (some (.builtin "getset_descriptor.__get__"))) &&
      (decide (PySem.W.takesIn K (.builtin "object.__class__") = some true) && decide (PySem.W.mroIn K C (.type "object") = some true)))))))
theorem excB_ok {K : PySem.W.Frag} {C : Addr} (h : excB K C = true) : ExcC K C := by
  unfold excB at h
  obtain ⟨h1, h⟩ := He.ba h
  obtain ⟨h2, h⟩ := He.ba h
  obtain ⟨h3, h⟩ := He.ba h
  obtain ⟨h4, h⟩ := He.ba h
  obtain ⟨h5, h⟩ := He.ba h
  obtain ⟨h6, h⟩ := He.ba h
  obtain ⟨h7, h8⟩ := He.ba h
  exact ⟨He.eqO_ok h1, He.eqO_ok h2, of_decide_eq_true h3, h4, He.eqO_ok h5, He.eqO_ok h6, of_decide_eq_true h7, of_decide_eq_true h8⟩
def caOf (K : PySem.W.Frag) (c : Nat) : Addr := He.ga K (clN c)
def veL : List Value := [.type "ValueError", .type "Exception", .type "BaseException", .type "object"]
def oneB (K : PySem.W.Frag) (C : Addr) : Bool := PySem.W.excIn K C veL "ValueError.__new__" && (PySem.W.keepIn K (.ref C) && (decide (PySem.W.subIn K (.ref C) (.type "BaseException") = some true) && decide (PySem.W.typeIn K (.ref C) = some (.type "type"))))
def clB (cl : List Nat) (K : PySem.W.Frag) : Bool :=
  (cl.all fun c => He.eqO (PySem.W.nsIn K mainGlobals (clN c)) (some (some (.ref (caOf K c)))) && (oneB K (caOf K c) && (excB K (caOf K c) && (decide (PySem.W.kitOne K (.ref (caOf K c)) (.type "ValueError") = some true) &&
    cl.all fun j => decide (PySem.W.exmOne K (.ref (caOf K c)) (.ref (caOf K j)) = some (j == 0 || c == j)) && decide (PySem.W.kitOne K (.ref (caOf K c)) (.ref (caOf K j)) = some (j == 0 || c == j)))))) &&
  He.eqO (PySem.W.nsIn K mainGlobals "ValueError") (some none)
theorem clB_ok {cl : List Nat} {K : PySem.W.Frag} {h : Heap} {mg : Str → Option Value} (X : K.In h) (G : h.Ns mainGlobals mg) (b : clB cl K = true) : Xf K mg (caOf K) cl := by
  unfold clB at b
  obtain ⟨b1, b2⟩ := He.ba b
  have all : ∀ c ∈ cl, He.eqO (PySem.W.nsIn K mainGlobals (clN c)) (some (some (.ref (caOf K c)))) = true ∧ oneB K (caOf K c) = true ∧ excB K (caOf K c) = true ∧ PySem.W.kitOne K (.ref (caOf K c)) (.type "ValueError") = some true ∧
      ∀ j ∈ cl, PySem.W.exmOne K (.ref (caOf K c)) (.ref (caOf K j)) = some (j == 0 || c == j) ∧ PySem.W.kitOne K (.ref (caOf K c)) (.ref (caOf K j)) = some (j == 0 || c == j) := fun c hc => by
    obtain ⟨g1, g⟩ := He.ba (List.all_eq_true.mp b1 c hc)
    obtain ⟨g2, g⟩ := He.ba g
    obtain ⟨g3, g⟩ := He.ba g
    obtain ⟨g4, g5⟩ := He.ba g
    exact ⟨g1, g2, g3, of_decide_eq_true g4, fun j hj => by
      obtain ⟨k1, k2⟩ := He.ba (List.all_eq_true.mp g5 j hj)
      exact ⟨of_decide_eq_true k1, of_decide_eq_true k2⟩⟩
  exact
    { g := fun c hc => PySem.W.mg_of X G (He.eqO_ok (all c hc).1)
      x := fun c hc => by
        have := (all c hc).2.1
        unfold oneB at this
        obtain ⟨c1, c⟩ := He.ba this
        obtain ⟨c2, c⟩ := He.ba c
        obtain ⟨c3, c4⟩ := He.ba c
        exact ⟨c1, c2, of_decide_eq_true c3, of_decide_eq_true c4⟩
      e := fun c hc => excB_ok (all c hc).2.2.1
      m := fun c hc j hj => ((all c hc).2.2.2.2 j hj).1
      k := fun c hc j hj => ((all c hc).2.2.2.2 j hj).2
      v := fun c hc => (all c hc).2.2.2.1
      n := PySem.W.mg_none_of X G (He.eqO_ok b2) }
/-! ### a hook with one more look -/
def obsM (n : Nat) (fa : List He.Fa) (fn : List He.FnD) (ex : PySem.W.Frag → Bool) (g : Addr → Option Obj) : He.Al × Bool := (He.obsG n fa fn g, ex (He.frG g (He.asG g n)))
def SaysM (fa : List He.Fa) (fn : List He.FnD) (ex : PySem.W.Frag → Bool) (K : PySem.W.Frag) : Prop := He.SaysE fa fn K ∧ ex K = true
def hookM (n : Nat) (fa : List He.Fa) (fn : List He.FnD) (ex : PySem.W.Frag → Bool) : PySem.W.Hook where
  α := He.Al × Bool
  obs := fun s => obsM n fa fn ex s.heap.get?
  val := fun _ => (He.valE fn, true)
  says := fun _ h => ∃ K : PySem.W.Frag, K.In h ∧ SaysM fa fn ex K
  of := fun _ _ e => ⟨_, He.frG_in, (Prod.mk.inj e).1, (Prod.mk.inj e).2⟩
  keeps := fun _ _ _ ⟨K, hK, c⟩ k => ⟨K, PySem.W.Frag.In.keeps hK k, c⟩
theorem obsM_eq {n : Nat} {fa : List He.Fa} {fn : List He.FnD} {ex : PySem.W.Frag → Bool} {g : Addr → Option Obj} {s : Shared} (h : ∀ a, g a = s.heap.get? a) : obsM n fa fn ex g = (hookM n fa fn ex).obs s := by
  have e : g = s.heap.get? := funext h
  rw [e]
  rfl
end Eng
set_option maxHeartbeats 1000000
/-! The engine, part 30: list(reversed(t)), tuple(reversed(t)), t a tuple. -/
namespace RL
open PySem PySem.Spec PyProof.Rows RT
section
variable {prog : Program} {w : World} {A : Around} {E : Value → Shared → Prop} {s : Shared} {R : Result → Shared → Prop} {it t S : Addr} {items : Array Value}
end
end RL
namespace Eng
open PySem PySem.Spec L2
open PyProof.Rows hiding St
section
variable {X : Cx} {ca : Nat → Addr} {W : WX} {f : ES}
/-- the items of a tuple, reversed -/
def listRvT : O → Option O
  | .val (.tuple ds) => some (.lst ds.reverse)
  | _ => none
def tupRvT : O → Option O
  | .val (.tuple ds) => some (.val (.tuple ds.reverse))
  | _ => none
end
end Eng
/-! The engine, part 31: a thing that a call tells anew, read, and then changed within. -/
namespace Eng
open PySem PySem.Spec L2
open PyProof.Rows hiding St

/-! ### data without lists -/
mutual
def lfD : D → Bool
  | .list _ => false
  | .tuple ds => lfA ds
  | .dict _ => false
  | _ => true
def lfA : List D → Bool
  | [] => true
  | d :: ds => lfD d && lfA ds
end
/-- what is kept of tuples, of the script -/
structure Tk (K : PySem.W.Frag) (H H' : Hp) : Prop where
  t : ∀ a xs, SqT K H a xs → SqT K H' a xs
  f : ∀ a ns, SqS K H a ns → SqS K H' a ns
section
variable {Z Z' : Zs} {K : PySem.W.Frag} {H H' : Hp} {G : Gx}
mutual
theorem Dz.free (k : Tk K H H') : ∀ {d : D} {v : V}, lfD d = true → Dz Z K H d v → Dz Z' K H' d v
  | .none, _, _, h => by cases h; exact .non
  | .bool _, _, _, h => by cases h; exact .bl _
  | .int _, _, _, h => by cases h; exact .int _
  | .str _, _, _, h => by cases h; exact .str _
  | .list _, _, e, h => by simp [lfD] at e
  | .tuple ds, _, e, h => by
    cases h with
    | tup r h => exact .tup (k.t _ _ r) (DzA.free k (by simpa [lfD] using e) h)
  | .dict _, _, e, h => by simp [lfD] at e
theorem DzA.free (k : Tk K H H') : ∀ {ds : List D} {vs : List V}, lfA ds = true → DzA Z K H ds vs → DzA Z' K H' ds vs
  | [], _, _, h => by cases h; exact .nil
  | d :: ds, _, e, h => by
    cases h with
    | cons h t =>
      have e2 : lfD d = true ∧ lfA ds = true := by simpa [lfA] using e
      exact .cons (Dz.free k e2.1 h) (DzA.free k e2.2 t)
end
def lfO : O → Bool
  | .val d => lfD d
  | .scr _ => true
  | .lst ds => lfA ds
  | .set _ => true
  | .dic es => lfA (es.map (·.1)) && lfA (es.map (·.2))
  | _ => false
theorem Ro.free {F : List Addr} {v : V} (k : Tk G.K H H') : ∀ {o : O}, lfO o = true → Ro G Z H o v F → (∀ a ∈ F, ∀ u, H a = some u → H' a = some u) → Ro G Z' H' o v F := by
  intro o e h hf
  cases h with
  | val h => exact .val (h.free k (by simpa [lfO] using e))
  | scr h => exact .scr (k.f _ _ h)
  | set e1 => exact .set (hf _ (by simp) _ e1)
  | lst e1 h => exact .lst (hf _ (by simp) _ e1) (h.free k (by simpa [lfO] using e))
  | dic e1 hk hv nd =>
    rename_i a kvs es
    have e2 : lfA (es.map (·.1)) = true ∧ lfA (es.map (·.2)) = true := by simpa [lfO] using e
    exact .dic (hf _ (by simp) _ e1) (hk.free k e2.1) (hv.free k e2.2) nd
  | dct e1 hx nd ne =>
    rename_i a xs es
    have e2 : lfA (es.map (·.1)) = true ∧ lfA (es.map (·.2)) = true := by simpa [lfO] using e
    have key : ∀ {xs : List (NestedKey × Addr × Value)} {es : List (D × D)}, Paired (NEnt Z G.K H) xs es → lfA (es.map (·.1)) = true → lfA (es.map (·.2)) = true → Paired (NEnt Z' G.K H') xs es := by
      intro xs es p
      induction p with
      | nil => intro _ _; exact .nil
      | cons h t ih =>
        intro a1 a2
        simp only [List.map_cons, lfA, Bool.and_eq_true] at a1 a2
        obtain ⟨h1, h2, h3, w, h4, h5⟩ := h
        exact .cons ⟨h1, h2, h3.free k a1.1, w, h4, h5.free k a2.1⟩ (ih a1.2 a2.2)
    exact .dct (hf _ (by simp) _ e1) (key hx e2.1 e2.2) nd ne
  | ins => simp [lfO] at e
  | exn => simp [lfO] at e
/-- slot by slot -/
theorem RoS.slots : ∀ {ρ : En} {σ : L2.St} {L : List Addr}, RoS G Z H ρ σ L → (∀ (j : Nat) (p : Bool) (o : O) (v : V) (F : List Addr), ρ[j]? = some (some (p, o)) → σ[j]? = some (some v) → Ro G Z H o v F → (∀ a ∈ F, a ∈ L) → Ro G Z' H' o v F) → RoS G Z' H' ρ σ L
  | _, _, _, .emp, _ => .emp
  | _, _, _, .no t, h => .no (RoS.slots t fun j p o v F e1 e2 h1 h2 => h (j + 1) p o v F (by simpa using e1) (by simpa using e2) h1 h2)
  | _, _, _, .yes h1 t, h => .yes (h 0 _ _ _ _ rfl rfl h1 fun a ha => List.mem_append_left _ ha) (RoS.slots t fun j p o v F e1 e2 h1 h2 => h (j + 1) p o v F (by simpa using e1) (by simpa using e2) h1 fun a ha => List.mem_append_right _ (h2 a ha))
end

/-! ### the slots that are known without lists -/
def strip1 : Sl → Sl
  | some (p, .val d) => if lfD d = true then some (p, .val d) else none
  | some (p, .scr ns) => some (p, .scr ns)
  | _ => none
def strip (ρ : En) : En := ρ.map strip1
section
variable {X : Cx} {ca : Nat → Addr} {W : WX} {G : Gx} {f : ES} {mid rest : SS}
variable {θ θ' : Nat → V} {Z Z' Z0 : Zs} {L L' L0 F : List Addr} {H H' H0 : Hp} {σ σ' : L2.St} {ρ ρ' : En} {Dn : Ends}
theorem RoS.strip : ∀ {ρ : En} {σ : L2.St} {L : List Addr}, RoS G Z H ρ σ L → RoS G (fun _ => False) H (Eng.strip ρ) σ []
  | _, _, _, .emp => .emp
  | _, _, _, .no t => .no (RoS.strip t)
  | _, _, _, .yes (p := p) (o := o) h t => by
    have t' := RoS.strip t
    have tk : Tk G.K H H := ⟨fun _ _ h => h, fun _ _ h => h⟩
    show RoS G _ H (strip1 (some (p, o)) :: Eng.strip _) _ []
    cases h with
    | val h =>
      unfold strip1
      simp only
      split
      · rename_i e
        exact .yes (F := []) (.val (h.free tk e)) t'
      · exact .no t'
    | scr h => exact .yes (F := []) (.scr h) t'
    | _ => exact .no t'
theorem strip_get {j : Nat} {p : Bool} {o : O} (e : (Eng.strip ρ)[j]? = some (some (p, o))) : ρ[j]? = some (some (p, o)) := by
  unfold Eng.strip at e
  rw [List.getElem?_map] at e
  cases q : ρ[j]? with
  | none => rw [q] at e; cases e
  | some sl =>
    rw [q] at e
    simp only [Option.map_some, Option.some.injEq] at e
    cases sl with
    | none => cases e
    | some po =>
      obtain ⟨p', o'⟩ := po
      cases o' with
      | val d =>
        simp only [strip1] at e
        split at e
        · exact congrArg some e
        · cases e
      | scr ns => exact congrArg some e
      | _ => cases e
theorem Rep.strip (r : Rep θ G Z H ρ σ L) : Rep θ G (fun _ => False) H (Eng.strip ρ) σ [] :=
  ⟨r.sl.strip, List.nodup_nil, fun _ h => (by cases h), fun _ h => h.elim, fun i o e => r.pn i o (strip_get e)⟩
/-! ### pins -/
def pinsE : List Nat → En → Option En
  | [], ρ => some ρ
  | j :: js, ρ => match ρ[j]? with
    | some (some (_, .val d)) => pinsE js (ρ.set j (some (true, .val d)))
    | _ => none
def unpins : List Nat → SOut → SOut
  | [], o => o
  | j :: js, o => unpS j (unpins js o)
theorem pins_ok : ∀ {js : List Nat} {θ : Nat → V} {ρ ρ' : En}, pinsE js ρ = some ρ' → Rep θ (gx X ca) Z H ρ σ L →
    ∃ θ', Rep θ' (gx X ca) Z H ρ' σ L ∧ ∀ {Z0 : Zs} {L0 : List Addr} {H0 : Hp} {Dn : Ends} {o : SOut}, PoS X ca W θ Z0 L0 H0 Dn (unpins js o) → PoS X ca W θ' Z0 L0 H0 Dn o
  | [], θ, _, _, e, r => by
    cases e
    exact ⟨θ, r, fun q => q⟩
  | j :: js, θ, ρ, ρ', e, r => by
    unfold pinsE at e
    split at e
    · rename_i p d e1
      obtain ⟨v, F, h1, _, _⟩ := r.sl.get e1
      have r1 := r.pinOn e1 h1
      obtain ⟨θ', r2, h2⟩ := pins_ok e r1
      exact ⟨θ', r2, fun q => h2 (PoS.unpin q fun i hi => by simp [hi])⟩
    · cases e

/-! ### a block's first part, then what is told of the rest -/
def PoK (X : Cx) (ca : Nat → Addr) (W : WX) (θ : Nat → V) (Z : Zs) (L : List Addr) (H : Hp) (D : Ends) (K : L2.St → Hp → Prop) (T : En → Zs → List Addr → L2.St → Hp → Prop) : SOut → Prop
  | .nx ρ' => ∀ Z' H' L' σ', Rep θ (gx X ca) Z' H' ρ' σ' L' → Step Z L H Z' L' H' → K σ' H'
  | o => PoS X ca W θ Z L H D o
def TKr (X : Cx) (ca : Nat → Addr) (W : WX) (a : SS) (t : TS) : TS := fun D σ H => ∃ θ Z ρ L, Rep θ (gx X ca) Z H ρ σ L ∧ PoK X ca W θ Z L H D (t D) (fun _ _ _ _ _ => True) (a ρ)
theorem PoK.step {D : Ends} {K : L2.St → Hp → Prop} {T : En → Zs → List Addr → L2.St → Hp → Prop} {o : SOut} {Z1 : Zs} {L1 : List Addr} {H1 : Hp} (q : PoK X ca W θ Z L H D K T o) (s : Step Z L H Z1 L1 H1) : PoK X ca W θ Z1 L1 H1 D K T o := by
  cases o with
  | nx ρ1 => exact fun Z' H' L' σ' r s' => q Z' H' L' σ' r (s.trans s')
  | stuck => exact (show PoS X ca W θ Z L H D .stuck from q).step s
  | exc c ρ1 => exact (show PoS X ca W θ Z L H D (.exc c ρ1) from q).step s
  | bk ρ1 => exact (show PoS X ca W θ Z L H D (.bk ρ1) from q).step s
  | ct ρ1 => exact (show PoS X ca W θ Z L H D (.ct ρ1) from q).step s
  | rt o ρ1 => exact (show PoS X ca W θ Z L H D (.rt o ρ1) from q).step s
theorem ty_nil {sts : List Stmt} {t : TS} (h : PSs X sts t) : PSs X sts (TKr X ca W sNil t) := PSs.imp h fun D σ H ⟨θ, Z, ρ, L, r, q⟩ => q Z H L σ r Step.refl
theorem ty_cons {st : Stmt} {sts : List Stmt} {t : TS} {a b : SS} (h1 : PS X st (RdS X ca W a)) (h2 : PSs X sts (TKr X ca W b t)) : PSs X (st :: sts) (TKr X ca W (sSeq a b) t) := PSs.imp (pss_cons h1 h2) fun D σ H ⟨θ, Z, ρ, L, r, q⟩ => by
  refine ⟨θ, Z, ρ, L, r, ?_⟩
  unfold sSeq at q
  cases e : a ρ with
  | nx ρ1 =>
    rw [e] at q
    exact fun Z1 H1 L1 σ1 r1 s1 => ⟨θ, Z1, ρ1, L1, r1, PoK.step q s1⟩
  | rt o ρ1 => rw [e] at q; exact q
  | bk ρ1 => rw [e] at q; exact q
  | ct ρ1 => rw [e] at q; exact q
  | exc c ρ1 => rw [e] at q; exact q
  | stuck => rw [e] at q; exact q

/-! ### thawed -/
/-- what stands is changed at lists of T alone -/
def Chg (T : Zs) (H H' : Hp) : Prop := ∀ a o, H a = some o → ¬ (T a ∧ ∃ xs, o = .lst xs) → H' a = some o
theorem Chg.refl {T : Zs} : Chg T H H := fun _ _ e _ => e
theorem Chg.upd {T : Zs} {l : Addr} {xs : List V} {u : HO} (hl : T l) (e : H l = some (.lst xs)) : Chg T H (upd H l u) := fun a o ea hn => by
  have : a ≠ l := fun q => by
    subst q
    rw [e] at ea
    cases ea
    exact hn ⟨hl, _, rfl⟩
  rw [upd_ne this]
  exact ea
theorem Chg.tk {T : Zs} {K : PySem.W.Frag} (c : Chg T H H') : Tk K H H' where
  t := fun a xs r => by
    rcases r with (r | ⟨o, r⟩) | r
    · exact .inl (.inl (c _ _ r fun ⟨_, xs, e⟩ => by cases e))
    · exact .inl (.inr ⟨o, c _ _ r fun ⟨_, xs, e⟩ => by cases e⟩)
    · exact .inr r
  f := fun a ns r => by
    rcases r with ⟨o, r⟩ | r
    · exact .inl ⟨o, c _ _ r fun ⟨_, xs, e⟩ => by cases e⟩
    · exact .inr r
/-- slots are forgotten -/
def noneE : List Nat → En → En
  | [], ρ => ρ
  | i :: is, ρ => noneE is (ρ.set i none)
theorem noneE_get : ∀ {is : List Nat} {ρ : En} {j : Nat} {x : Bool × O}, (noneE is ρ)[j]? = some (some x) → ρ[j]? = some (some x) ∧ j ∉ is
  | [], ρ, j, x, e => ⟨e, by simp⟩
  | i :: is, ρ, j, x, e => by
    obtain ⟨h1, h2⟩ := noneE_get (is := is) (ρ := ρ.set i none) e
    by_cases q : i = j
    · subst q
      by_cases hl : i < ρ.length
      · rw [List.getElem?_set_self hl] at h1; cases h1
      · rw [List.getElem?_eq_none (by simp; omega)] at h1; cases h1
    · rw [List.getElem?_set_ne q] at h1
      exact ⟨h1, by simp [h2, Ne.symm q]⟩
theorem Rep.noneE : ∀ {is : List Nat} {ρ : En} {L : List Addr}, Rep θ G Z H ρ σ L → ∃ L', Rep θ G Z H (Eng.noneE is ρ) σ L' ∧ ∀ a ∈ L', a ∈ L
  | [], _, L, r => ⟨L, r, fun _ h => h⟩
  | i :: is, ρ, L, r => by
    unfold Eng.noneE
    have one : ∃ L', Rep θ G Z H (ρ.set i none) σ L' ∧ ∀ a ∈ L', a ∈ L := by
      cases e : ρ[i]? with
      | none => exact ⟨L, by rw [List.set_eq_of_length_le (by rw [List.getElem?_eq_none_iff] at e; exact e)]; exact r, fun _ h => h⟩
      | some sl =>
        cases sl with
        | none =>
          have : ρ.set i none = ρ := by
            apply List.ext_getElem? fun k => ?_
            by_cases q : i = k
            · subst q; rw [List.getElem?_set_self (List.getElem?_eq_some_iff.mp e).1, e]
            · rw [List.getElem?_set_ne q]
          exact ⟨L, by rw [this]; exact r, fun _ h => h⟩
        | some po =>
          obtain ⟨p, o⟩ := po
          obtain ⟨F, L', v, _, _, r', _, _, h, _⟩ := r.lift e
          exact ⟨L', r', fun a ha => (h a).mp (List.mem_append_right _ ha)⟩
    obtain ⟨L1, r1, h1⟩ := one
    obtain ⟨L2, r2, h2⟩ := Rep.noneE (is := is) r1
    exact ⟨L2, r2, fun a ha => h1 a (h2 a ha)⟩
/-- the rest, once what is young has been changed -/
theorem thaw_ok {T Z3 : Zs} {H3 H4 : Hp} {L3 : List Addr} {ρ3 : En} {σ3 σ4 : L2.St} {js rs : List Nat} (r0 : Rep θ G Z0 H0 ρ σ L0) (s : Step Z0 L0 H0 Z3 L3 H3) (r3 : Rep θ' G Z3 H3 ρ3 σ3 L3) (hT : ∀ a, T a → H0 a = none ∧ Z3 a) (hc : Chg T H3 H4) (ag : Agr rs σ3 σ4)
    (sl : ∀ j p o, j ∉ rs → ρ3[j]? = some (some (p, o)) → lfO o = true ∨ (∃ p' d, o = .val d ∧ ρ[j]? = some (some (p', .val d)) ∧ σ3[j]? = σ[j]?)) :
    ∃ L4, Rep θ' G (fun a => Z3 a ∧ ¬ T a) H4 (Eng.noneE rs ρ3) σ4 L4 ∧ Step Z0 L0 H0 (fun a => Z3 a ∧ ¬ T a) L4 H4 := by
  obtain ⟨L4, r4, sub⟩ := r3.noneE (is := rs)
  have k3 : Kp Z0 G.K H0 Z3 H3 := s.kp r0.sl.mut r0.dis
  have tk34 : Tk G.K H3 H4 := hc.tk
  have nT : ∀ a u, H0 a = some u → ¬ T a := fun a u e h => by rw [(hT a h).1] at e; cases e
  have own : ∀ a ∈ L4, ∀ u, H3 a = some u → H4 a = some u := fun a ha u e => hc a u e fun ⟨h, _⟩ => r3.dis a (sub a ha) (hT a h).2
  have k4 : Kp Z0 G.K H0 (fun a => Z3 a ∧ ¬ T a) H4 := ⟨fun a z => ⟨k3.z a z, fun h => r0.zd a z (hT a h).1⟩, fun a xs z e => hc a _ (k3.r a xs z e) fun ⟨h, _⟩ => r0.zd a z (hT a h).1, fun a xs h => tk34.t a xs (k3.t a xs h), fun a ns h => tk34.f a ns (k3.f a ns h), fun a ob u h => hc a _ (k3.g a ob u h) fun ⟨_, xs, q⟩ => by cases q⟩
  have S1 : RoS G (fun a => Z3 a ∧ ¬ T a) H4 (Eng.noneE rs ρ3) σ3 L4 := r4.sl.slots fun j p o v F e1 e2 h1 h2 => by
    obtain ⟨e1, hj⟩ := noneE_get e1
    rcases sl j p o hj e1 with h | ⟨p', d, rfl, e3, e4⟩
    · exact h1.free tk34 h fun a ha u e => own a (h2 a ha) u e
    · obtain ⟨v', F', h5, h6, _⟩ := r0.sl.get e3
      rw [e4, h5] at e2
      cases e2
      cases h1
      cases h6 with
      | val h6 => exact .val (h6.kp k4)
  refine ⟨L4, ⟨S1.agree ag.1 fun j x e => ag.2 j (noneE_get e).2, r4.nd, fun a ha z => r4.dis a ha z.1, fun a z e => ?_, fun i o e => ?_⟩, ?_⟩
  · cases q : H3 a with
    | none => exact r3.zd a z.1 q
    | some u => rw [hc a u q fun ⟨h, _⟩ => z.2 h] at e; cases e
  · obtain ⟨e1, hj⟩ := noneE_get e
    rw [ag.2 i hj]
    exact r3.pn i o e1
  · exact ⟨fun a o e hn => hc a o (s.keep a o e hn) fun ⟨h, _⟩ => nT a o e h, k4.z, fun a z => s.znew a z.1, fun a ha => s.lnew a (sub a ha)⟩
end
end Eng
/-! The engine, part 32: x = f(..), looked at, then changed within (its own lists are new). -/
namespace Eng
open PySem PySem.Spec L2
open PyProof.Rows hiding St

def yngD : Opd → Option (List D)
  | .tmp (.lst ds) => some ds
  | .tmp (.val (.list ds)) => some ds
  | _ => none
def okY (is js : List Nat) (ρ2 ρ3 : En) : Prop := (∀ j, j ∈ is → j < ρ3.length) ∧ (∀ j, j ∈ js → ρ3[j]? = ρ2[j]?) ∧ ∀ j p o, j ∉ is → j ∉ js → ρ3[j]? = some (some (p, o)) → lfO o = true
open Classical in
noncomputable def sYng (i : Nat) (js rs : List Nat) (f : ES) (mid : SS) (th : List D → Prop) (rest : SS) : SS := fun ρ => match f (strip ρ) with
  | .ok p _ => match yngD p with
    | some ds => match setE i (.val (.list ds)) ρ with
      | some ρ1 => match pinsE (i :: js) ρ1 with
        | some ρ2 => unpins (i :: js) (match mid ρ2 with
          | .nx ρ3 => if i ∉ js ∧ okY (i :: rs) (i :: js) ρ2 ρ3 ∧ th ds then rest (noneE (i :: rs) ρ3) else .stuck
          | .rt o ρ3 => .rt o ρ3
          | .exc c ρ3 => .exc c ρ3
          | _ => .stuck)
        | none => .stuck
      | none => .stuck
    | none => .stuck
  | _ => .stuck
section
variable {X : Cx} {ca : Nat → Addr} {W : WX} {G : Gx} {f : ES} {mid rest : SS}
variable {θ θ' : Nat → V} {Z Z' Z0 : Zs} {L L' L0 F : List Addr} {H H' H0 : Hp} {σ σ' : L2.St} {ρ ρ' : En} {Dn : Ends}
/-- what the changing statements ask -/
def ThOk (X : Cx) (ca : Nat → Addr) (W : WX) (i : Nat) (rs : List Nat) (th : List D → Prop) (rest : SS) (tt : TS) : Prop :=
  ∀ (ds : List D) (v : V) (T : Zs) (σ : L2.St) (H : Hp) (Dn : Ends), th ds → (∀ r ∈ i :: rs, r < σ.length) → σ[i]? = some (some v) → Dz T X.K H (.list ds) v → (∀ σ4 H4, Agr (i :: rs) σ σ4 → Chg T H H4 → RdS X ca W rest Dn σ4 H4) → tt Dn σ H
theorem pinsE_get : ∀ {js : List Nat} {ρ ρ' : En}, pinsE js ρ = some ρ' → (∀ j ∈ js, ∃ d, ρ'[j]? = some (some (true, .val d)) ∧ ∃ p, ρ[j]? = some (some (p, .val d)))
  | [], _, _, _, _, h => by cases h
  | k :: js, ρ, ρ', e, j, hj => by
    unfold pinsE at e
    split at e
    · rename_i p d e1
      have kl := (List.getElem?_eq_some_iff.mp e1).1
      have ih := pinsE_get e
      have stay : ∀ {js : List Nat} {ρ ρ' : En}, pinsE js ρ = some ρ' → ρ[k]? = some (some (true, .val d)) → ρ'[k]? = some (some (true, .val d)) := by
        intro js
        induction js with
        | nil => intro ρ ρ' e h; cases e; exact h
        | cons m js ih =>
          intro ρ ρ' e h
          unfold pinsE at e
          split at e
          · rename_i p' d' e2
            refine ih e ?_
            by_cases q : m = k
            · subst q
              rw [e2] at h
              cases h
              rw [List.getElem?_set_self (List.getElem?_eq_some_iff.mp e2).1]
            · rw [List.getElem?_set_ne q]; exact h
          · cases e
      by_cases q : j = k
      · subst q
        exact ⟨d, stay e (List.getElem?_set_self kl), p, e1⟩
      · have hj' : j ∈ js := (List.mem_cons.mp hj).resolve_left q
        obtain ⟨d', h1, p', h2⟩ := ih j hj'
        rw [List.getElem?_set_ne (Ne.symm q)] at h2
        exact ⟨d', h1, p', h2⟩
    · cases e
theorem kp_sub {T Z2 : Zs} {K : PySem.W.Frag} (k : Kp Z K H Z2 H') (h : ∀ a, T a → Z a) : Kp T K H T H' := ⟨fun _ h => h, fun a xs z e => k.r a xs (h a z) e, k.t, k.f, k.g⟩
theorem kp_up {Z2 : Zs} {K : PySem.W.Frag} (h : ∀ a, Z a → Z2 a) : Kp Z K H Z2 H := ⟨h, fun _ _ _ e => e, fun _ _ e => e, fun _ _ e => e, fun _ _ _ e => e⟩
theorem ss_young {e : Expr} {x : Str} {pos pos' : Pos} {sts : List Stmt} {tt : TS} {i : Nat} {js rs : List Nat} {th : List D → Prop} (hN : X.N.Nodup) (hi : X.N[i]? = some x) (hx : Loc X.env.scope x) (he : PE X e (RdE X ca W f)) (hs : swapsWith e (some (.Name x pos')) pos.line X.env = pure false)
    (hf : X.fn x = true ∨ X.env.scope.names.lookup x = some .local) (hm : PSs X sts (TKr X ca W mid tt)) (hth : ThOk X ca W i rs th rest tt) :
    PSs X (.Assign [.Name x pos'] e pos :: sts) (RdS X ca W (sYng i js rs f mid th rest)) := PSs.imp (pss_cons (ps_set hN hi hx he hs hf) hm) fun Dn σ H ⟨θ, Z, ρ, L, r, q⟩ => by
  refine ⟨θ, fun _ => False, strip ρ, [], r.strip, ?_⟩
  unfold sYng at q
  cases ef : f (strip ρ) with
  | stuck => rw [ef] at q; exact q.elim
  | exc c ρ1 => rw [ef] at q; exact q.elim
  | ok p ρs =>
    rw [ef] at q
    simp only at q
    cases ey : yngD p with
    | none => rw [ey] at q; exact q.elim
    | some ds =>
      rw [ey] at q
      simp only at q
      cases es : setE i (.val (.list ds)) ρ with
      | none => rw [es] at q; exact q.elim
      | some ρ1 =>
        rw [es] at q
        simp only at q
        cases ep : pinsE (i :: js) ρ1 with
        | none => rw [ep] at q; exact q.elim
        | some ρ2 =>
          rw [ep] at q
          simp only at q
          intro Z1 H1 L1 F v r1 h1 s1
          have same : Same H H1 := fun a o e => s1.keep a o e (fun h => by cases h)
          have new1 : ∀ a ∈ F ++ L1, H a = none := fun a ha => (s1.lnew a ha).resolve_left fun h => by cases h
          have newZ : ∀ a, Z1 a → H a = none := fun a z => by
            rcases s1.znew a z with h | h | h
            · exact h.elim
            · cases h
            · exact h
          -- what is young
          obtain ⟨T, hT, hTs, dz⟩ : ∃ T : Zs, (∀ a, T a → H a = none) ∧ (∀ a, T a → H1 a ≠ none) ∧ Dz T X.K H1 (.list ds) v := by
            unfold yngD at ey
            split at ey
            · cases ey
              obtain ⟨a, xs, rfl⟩ : ∃ (a : Addr) (_ : List V), v = .ref a := by cases h1.one with | lst => exact ⟨_, [], rfl⟩
              have h2 := h1.one
              cases h2 with
              | lst e1 d1 =>
                rename_i xs
                refine ⟨fun b => Z1 b ∨ b = a, ?_, ?_, .lst (.inr rfl) e1 (d1.kp (kp_up fun _ h => .inl h))⟩
                · rintro b (h | rfl)
                  · exact newZ b h
                  · exact new1 b (by simp)
                · rintro b (h | rfl)
                  · exact r1.zd b h
                  · rw [e1]; simp
            · cases ey
              have h2 := h1.one
              cases h2 with
              | val d1 => exact ⟨Z1, newZ, r1.zd, d1⟩
            · cases ey
          have rH : Rep θ (gx X ca) Z H1 ρ σ L := r.same same
          have nTL : ∀ a ∈ L, ¬ T a := fun a ha h => by
            have := r.sl.mut a ha
            rw [hT a h] at this
            exact this
          have r2 : Rep θ (gx X ca) (fun a => Z a ∨ T a) H1 ρ σ L := ⟨rH.sl.kp (kp_up fun _ h => .inl h) fun _ _ _ e => e, r.nd, fun a ha z => z.elim (r.dis a ha) (nTL a ha), fun a z => z.elim (rH.zd a) (hTs a), r.pn⟩
          have dz2 : Dz (fun a => Z a ∨ T a) X.K H1 (.list ds) v := dz.kp (kp_up fun _ h => .inr h)
          obtain ⟨L2, r3, sub2⟩ := setE_val r2 dz2 es
          obtain ⟨θ', r4, un⟩ := pins_ok ep r3
          have sA : Step Z L H (fun a => Z a ∨ T a) L2 H1 := ⟨fun a o e _ => same a o e, fun a z => .inl z, fun a z => z.elim .inl fun h => .inr (.inr (hT a h)), fun a ha => .inl (sub2 a ha)⟩
          have q1 := un q
          refine ⟨θ', _, ρ2, L2, r4, ?_⟩
          cases em : mid ρ2 with
          | stuck => rw [em] at q1; exact q1.elim
          | bk ρ3 => rw [em] at q1; exact q1.elim
          | ct ρ3 => rw [em] at q1; exact q1.elim
          | rt o ρ3 => rw [em] at q1; exact q1.step sA
          | exc c ρ3 => rw [em] at q1; exact q1.step sA
          | nx ρ3 =>
            rw [em] at q1
            simp only at q1
            split at q1
            · rename_i hok
              obtain ⟨hij, hok, hthd⟩ := hok
              intro Z3 H3 L3 σ3 r5 s5
              have k5 : Kp (fun a => Z a ∨ T a) X.K H1 Z3 H3 := s5.kp r4.sl.mut r4.dis
              have dz3 : Dz T X.K H3 (.list ds) v := dz.kp (kp_sub k5 fun _ h => .inr h)
              have pin : ∀ j ∈ i :: js, σ3[j]? = (σ.set i (some v))[j]? := fun j hj => by
                obtain ⟨d, g1, _⟩ := pinsE_get ep j hj
                have g2 : ρ3[j]? = some (some (true, .val d)) := by rw [hok.2.1 j hj]; exact g1
                rw [r5.pn j _ g2, r4.pn j _ g1]
              have il : i < σ.length := by
                obtain ⟨d, _, p', g1⟩ := pinsE_get ep i List.mem_cons_self
                have := (List.getElem?_eq_some_iff.mp g1).1
                rw [r3.sl.length, List.length_set] at this
                exact this
              have hv : σ3[i]? = some (some v) := by rw [pin i List.mem_cons_self, List.getElem?_set_self il]
              refine hth ds v T σ3 H3 Dn hthd (fun j hj => by rw [← r5.sl.length]; exact hok.1 j hj) hv dz3 fun σ4 H4 ag hc => ?_
              have set1 : ∀ j, j ≠ i → ρ1[j]? = ρ[j]? := fun j hj => by
                unfold setE at es
                split at es
                · cases es
                · cases es; exact List.getElem?_set_ne (Ne.symm hj)
                · cases es
              obtain ⟨L4, r6, s6⟩ := thaw_ok (θ := θ) (θ' := θ') (js := js) (rs := i :: rs) r (sA.trans s5) r5 (fun a h => ⟨hT a h, k5.z a (.inr h)⟩) hc ag fun j p o hj e => by
                by_cases hjs : j ∈ js
                · right
                  obtain ⟨d, g1, p', g2⟩ := pinsE_get ep j (List.mem_cons_of_mem _ hjs)
                  have hji : j ≠ i := fun h => hij (h ▸ hjs)
                  rw [hok.2.1 j (List.mem_cons_of_mem _ hjs), g1] at e
                  cases e
                  rw [set1 j hji] at g2
                  refine ⟨p', d, rfl, g2, ?_⟩
                  rw [pin j (List.mem_cons_of_mem _ hjs), List.getElem?_set_ne (Ne.symm hji)]
                · left
                  exact hok.2.2 j p o hj (fun h => (List.mem_cons.mp h).elim (fun h => hj (h ▸ List.mem_cons_self)) hjs) e
              exact ⟨θ', _, _, L4, r6, q1.step s6⟩
            · exact q1.elim
end
end Eng
/-! The engine, part 33: the changing statements: x.clear(); x.append(["a"]), x[0].append("b"); for y in x: y.clear(). -/
namespace Eng
open PySem PySem.Spec L2
open PyProof.Rows hiding St
section
variable {X : Cx} {ca : Nat → Addr} {W : WX} {rest : SS}
theorem Agr.rfl' {is : List Nat} {σ : L2.St} : Agr is σ σ := ⟨rfl, fun _ _ => rfl⟩
theorem DzA.nth {T : Zs} {K : PySem.W.Frag} {H : Hp} : ∀ {ds : List D} {vs : List V} {n : Nat} {x : V}, DzA T K H ds vs → vs[n]? = some x → ∃ d, d ∈ ds ∧ Dz T K H d x
  | _, _, _, _, .nil, e => by simp at e
  | _, _, 0, _, .cons h1 _, e => by
    simp at e
    subst e
    exact ⟨_, List.mem_cons_self, h1⟩
  | _, _, n + 1, _, .cons _ t, e => by
    obtain ⟨d, h1, h2⟩ := DzA.nth (n := n) t (by simpa using e)
    exact ⟨d, List.mem_cons_of_mem _ h1, h2⟩
/-! ### x.clear() -/
def ttClr (X : Cx) (ca : Nat → Addr) (W : WX) (i : Nat) (rest : SS) : TS := tSeq (tDrop (tBM0 X.K "list" rClear (tVar i))) (RdS X ca W rest)
theorem sy_clr {x : Str} {i : Nat} {px apos pos pos' : Pos} {sts : List Stmt} (hN : X.N[i]? = some x) (hv : Vis X.env.scope x) (hd : (x == ("__debug__" : Str)) = false) (hcd : (x == ("__classdict__" : Str)) = false)
    (hbase : attributeBase (.Name x px) "clear" X.env (eval (.Name x px) X.env) = eval (.Name x px) X.env) (hline : (apos.endLine == pos.line) = true) (hs : swapsWith (.Call (.Attribute (.Name x px) "clear" apos) [] [] pos) none pos'.line X.env = pure false)
    (hr : PSs X sts (RdS X ca W rest)) : PSs X (.Expr (.Call (.Attribute (.Name x px) "clear" apos) [] [] pos) pos' :: sts) (ttClr X ca W i rest) :=
  pss_cons (ps_expr (pe_bm0 PySem.F.plainAttrs_list PySem.F.slot_list_clear PySem.F.type_list_clear mt_clear (pe_var hN hv hd hcd) hbase hline) hs) hr
/-! ### x.append([a]); x[0].append(b) -/
/-! ### for y in x: y.clear(); x.clear() -/
def ttEach (X : Cx) (ca : Nat → Addr) (W : WX) (i r : Nat) (rest : SS) : TS :=
  tSeq (tFor (fun σ H R => tVar i σ H fun x H1 => ∃ J n, SrcV X.K H1 x J n ∧ (n ≤ sizeLine → R J H1)) (gName r) (tDrop (tBM0 X.K "list" rClear (tVar r)))) (ttClr X ca W i rest)
def thEach (ds : List D) : Prop := ds.length < 1000 ∧ ∀ d ∈ ds, ∃ ws : List Str, d = .list (ws.map .str)
theorem th_each {i r : Nat} (hir : i ≠ r) : ThOk X ca W i [r] thEach rest (ttEach X ca W i r rest) := fun ds v T σ H Dn hth hlen hv dz k => by
  cases dz with
  | lst z rr h =>
    rename_i l xs
    have z1000 : (1000 : Nat) < sizeLine := by decide
    have xl : xs.length < 1000 := by rw [h.length]; exact hth.1
    have item : ∀ n x, xs[n]? = some x → ∃ (a : Addr) (ys : List V), x = V.ref a ∧ T a ∧ H a = some (.lst ys) ∧ a ≠ l := fun n x e => by
      obtain ⟨d, hd, dd⟩ := h.nth e
      obtain ⟨ws, rfl⟩ := hth.2 d hd
      cases dd with
      | lst z1 r1 h1 =>
        refine ⟨_, _, rfl, z1, r1, fun q => ?_⟩
        subst q
        rw [rr] at r1
        cases r1
        have := h1.strs
        subst this
        rw [List.getElem?_map] at e
        cases q : ws[n]? with
        | none => rw [q] at e; cases e
        | some w => rw [q] at e; cases e
    refine ⟨_, hv, _, _, .lst (.inl (.inl rr)), fun hz => ?_⟩
    refine ⟨fun n m σ' H' => n + m = xs.length ∧ Agr (i :: [r]) σ σ' ∧ σ'[i]? = σ[i]? ∧ Chg T H H' ∧ H' l = some (.lst xs) ∧ (∀ a, T a → (∃ ys, H a = some (.lst ys)) → ∃ ys, H' a = some (.lst ys)) ∧ σ'.length = σ.length,
      ⟨xs.length, by simp, Agr.rfl', rfl, Chg.refl, rr, fun _ _ h => h, rfl⟩, fun n m σ' H' ⟨w1, w2, w3, w4, w5, w6, w7⟩ => ?_⟩
    cases m with
    | zero =>
      left
      refine ⟨⟨xs, .inl (.inl w5), by omega⟩, ?_⟩
      refine ⟨.ref l, by rw [w3]; exact hv, .inl ⟨rfl, _, .inl (.inl w5)⟩, l, xs, rfl, rfl, w5, k σ' _ w2 fun c o e hn => ?_⟩
      have n1 : c ≠ l := fun q => by
        subst q
        rw [rr] at e
        cases e
        exact hn ⟨z, _, rfl⟩
      rw [upd_ne n1]
      exact w4 c o e hn
    | succ m =>
      right
      have hn : n < xs.length := by omega
      obtain ⟨a, ys, ea, Ta, ha, hal⟩ := item n xs[n] (List.getElem?_eq_getElem hn)
      refine ⟨⟨xs, xs[n], .inl (.inl w5), List.getElem?_eq_getElem hn⟩, fun σ2 H2 => n + 1 + m = xs.length ∧ Agr (i :: [r]) σ σ2 ∧ σ2[i]? = σ[i]? ∧ Chg T H H2 ∧ H2 l = some (.lst xs) ∧ (∀ a, T a → (∃ ys, H a = some (.lst ys)) → ∃ ys, H2 a = some (.lst ys)) ∧ σ2.length = σ.length, fun σ2 H2 h => ⟨m, Nat.lt_succ_self m, h⟩, fun x H2 hy => ?_⟩
      obtain ⟨rfl, hx⟩ := hy
      have ex := hx xs (.inl (.inl w5))
      rw [List.getElem?_eq_getElem hn, ea] at ex
      cases ex
      obtain ⟨ys', ha'⟩ := w6 a Ta ⟨ys, ha⟩
      -- the turn's name
      have go : ∀ (hr : r < σ'.length), tDrop (tBM0 X.K "list" rClear (tVar r)) { Dn with nx := fun σ2 H2 => n + 1 + m = xs.length ∧ Agr (i :: [r]) σ σ2 ∧ σ2[i]? = σ[i]? ∧ Chg T H H2 ∧ H2 l = some (.lst xs) ∧ (∀ a, T a → (∃ ys, H a = some (.lst ys)) → ∃ ys, H2 a = some (.lst ys)) ∧ σ2.length = σ.length } (σ'.set r (some (.ref a))) H2 := fun hr => by
        refine ⟨.ref a, List.getElem?_set_self hr, .inl ⟨rfl, _, .inl (.inl ha')⟩, a, ys', rfl, rfl, ha', by omega, w2.trans (Agr.set (by simp)), by rw [List.getElem?_set_ne (Ne.symm hir)]; exact w3, fun c o e hn => ?_, by rw [upd_ne (Ne.symm hal)]; exact w5, fun b hb hys => ?_, by rw [List.length_set]; exact w7⟩
        · have n1 : c ≠ a := fun q => by
            subst q
            rw [ha] at e
            cases e
            exact hn ⟨Ta, _, rfl⟩
          rw [upd_ne n1]
          exact w4 c o e hn
        · by_cases q : b = a
          · subst q; exact ⟨[], upd_same⟩
          · rw [upd_ne q]; exact w6 b hb hys
      exact go (by rw [w7]; exact hlen r (by simp))
end
end Eng
/-! The engine, part 34: f(..).append(y); list(d.values()). -/
namespace Eng
open PySem PySem.Spec L2
open PyProof.Rows hiding St
section
variable {X : Cx} {ca : Nat → Addr} {W : WX} {rest : SS} {f g : ES}
theorem sy_each {x y : Str} {i r : Nat} {px py p1 ap cp sp pos : Pos} {sts : List Stmt} (hp : PassesOwn (model X.prog X.w) X.A X.env X.xe) (hc : X.calm = true) (hN : X.N[i]? = some x) (hv : Vis X.env.scope x) (hd : (x == ("__debug__" : Str)) = false) (hcd : (x == ("__classdict__" : Str)) = false)
    (hNd : X.N.Nodup) (hNr : X.N[r]? = some y) (hy : Loc X.env.scope y) (hfy : X.fn y = true ∨ X.env.scope.names.lookup y = some .local) (hvy : Vis X.env.scope y) (hdy : (y == ("__debug__" : Str)) = false) (hcdy : (y == ("__classdict__" : Str)) = false)
    (hb1 : attributeBase (.Name y py) "clear" X.env (eval (.Name y py) X.env) = eval (.Name y py) X.env) (hl1 : (ap.endLine == cp.line) = true) (hs1 : swapsWith (.Call (.Attribute (.Name y py) "clear" ap) [] [] cp) none sp.line X.env = pure false)
    (hfo : ∀ z, foldedSetIterable (.Name x px) X.env z = pure z) (hr : PSs X sts (ttClr X ca W i rest)) :
    PSs X (.For (.Name y p1) (.Name x px) [.Expr (.Call (.Attribute (.Name y py) "clear" ap) [] [] cp) sp] [] pos :: sts) (ttEach X ca W i r rest) :=
  pss_cons (ps_for hp hc (pi_any (pe_var hN hv hd hcd)) (pg_name hNd hNr hy hfy) (pss_one (ps_expr (pe_bm0 PySem.F.plainAttrs_list PySem.F.slot_list_clear PySem.F.type_list_clear mt_clear (pe_var hNr hvy hdy hcdy) hb1 hl1) hs1)) hfo) hr
/-! ### f(..).append(y) -/
def oAppT (f g : ES) : ES := fun ρ => (f ρ).bind fun p ρ1 => match p with
  | .tmp (.lst ds) => (g ρ1).bind fun p2 ρ2 => match give ρ2 p2 with
    | some (_, ρ3) => if ds.length < sizeLine then .ok (.tmp (.val .none)) ρ3 else .stuck
    | none => .stuck
  | _ => .stuck
/-! ### list(d.values()) -/
end
end Eng
/-! The engine, part 35: names frozen, names dropped, ahead of statements. -/
namespace Eng
open PySem PySem.Spec L2
open PyProof.Rows hiding St
section
variable {X : Cx} {ca : Nat → Addr} {W : WX} {b : SS} {sts : List Stmt}
def sFrz (j : Nat) (b : SS) : SS := fun ρ => b (frz ρ j)
def sDrp (is : List Nat) (b : SS) : SS := fun ρ => b (dropE is ρ)
theorem ss_frz {j : Nat} (h : PSs X sts (RdS X ca W b)) : PSs X sts (RdS X ca W (sFrz j b)) := PSs.imp h fun D σ H ⟨θ, Z, ρ, L, r, q⟩ => by
  cases e : ρ[j]? with
  | none => exact ⟨θ, Z, ρ, L, r, by unfold sFrz frz at q; rw [e] at q; exact q⟩
  | some sl =>
    cases sl with
    | none => exact ⟨θ, Z, ρ, L, r, by unfold sFrz frz at q; rw [e] at q; exact q⟩
    | some po =>
      obtain ⟨p, o⟩ := po
      cases o with
      | lst ds =>
        obtain ⟨Z', L', v', q1, q2, q3, q4, _⟩ := r.frz e
        unfold sFrz at q
        rw [frz_eq e] at q
        exact ⟨θ, Z', _, L', q2, PoS.step q (by simpa using q4)⟩
      | _ => exact ⟨θ, Z, ρ, L, r, by unfold sFrz frz at q; rw [e] at q; exact q⟩
theorem ss_drp {is : List Nat} (h : PSs X sts (RdS X ca W b)) : PSs X sts (RdS X ca W (sDrp is b)) := PSs.imp h fun D σ H ⟨θ, Z, ρ, L, r, q⟩ => by
  obtain ⟨L', r', h'⟩ := r.drop is
  exact ⟨θ, Z, _, L', r', PoS.step q (Step.refl.sub h')⟩
end
end Eng
set_option maxHeartbeats 1000000
/-! The engine, part 36: xs * k, xs a list. -/
namespace Eng
open PySem PySem.Spec L2
open PyProof.Rows hiding St
section
variable {X : Cx} {ca : Nat → Addr}
end
end Eng
set_option maxHeartbeats 1000000
/-! The engine, part 37: objects of own classes: fields read and stored. -/
namespace Eng
open PySem PySem.Spec L2
open PyProof.Rows hiding St
def fput (f : Str) (o : O) : List (Str × O) → List (Str × O)
  | [] => [(f, o)]
  | (g, x) :: r => if g = f then (g, o) :: r else (g, x) :: fput f o r
section
variable {G : Gx} {Z Z' : Zs} {H H' : Hp} {m : Str}
theorem look_cons {α : Type} (m n : Str) (x : α) (l : List (Str × α)) : ((n, x) :: l).lookup m = if n = m then some x else l.lookup m := by
  by_cases e : n = m
  · subst e; simp [List.lookup]
  · have : (m == n) = false := by simpa using fun q => e q.symm
    simp [List.lookup, this, e]
theorem RoF.look : ∀ {fs : List (Str × O)} {vs : List (Str × V)} {F : List Addr}, RoF G Z H fs vs F → (fs.lookup m = none → vs.lookup m = none) ∧ ∀ o, fs.lookup m = some o → ∃ v F', vs.lookup m = some v ∧ Ro G Z H o v F' ∧ ∀ a ∈ F', a ∈ F
  | _, _, _, .nil => ⟨fun _ => rfl, fun _ e => by cases e⟩
  | _, _, _, .cons (n := n) (o := o0) (v := v0) (fs := fs) (vs := vs) h t => by
    obtain ⟨i1, i2⟩ := RoF.look t
    rw [look_cons, look_cons]
    by_cases e : n = m
    · rw [if_pos e, if_pos e]
      exact ⟨fun q => (by cases q), fun o q => by cases q; exact ⟨_, _, rfl, h, fun a ha => List.mem_append_left _ ha⟩⟩
    · rw [if_neg e, if_neg e]
      refine ⟨i1, fun o q => ?_⟩
      obtain ⟨v, F', a1, a2, a3⟩ := i2 o q
      exact ⟨v, F', a1, a2, fun a ha => List.mem_append_right _ (a3 a ha)⟩
theorem RoF.length : ∀ {fs : List (Str × O)} {vs : List (Str × V)} {F : List Addr}, RoF G Z H fs vs F → vs.length = fs.length
  | _, _, _, .nil => rfl
  | _, _, _, .cons _ t => by rw [List.length_cons, List.length_cons, RoF.length t]
/-- a field is stored -/
theorem RoF.put {o : O} {y : V} {Fo : List Addr} (kp : Kp Z G.K H Z' H') (ho : Ro G Z' H' o y Fo) : ∀ {fs : List (Str × O)} {vs : List (Str × V)} {F : List Addr}, RoF G Z H fs vs F → (∀ a ∈ F, ∀ u, H a = some u → H' a = some u) →
    ∃ F', RoF G Z' H' (fput m o fs) (putF m y vs) F' ∧ (∀ a ∈ F', a ∈ Fo ∨ a ∈ F) ∧ ((Fo ++ F).Nodup → F'.Nodup)
  | _, _, _, .nil, _ => ⟨Fo ++ [], .cons ho .nil, fun a ha => by simpa using ha, fun nd => by simpa using nd⟩
  | _, _, _, .cons (n := n) (o := o0) (v := v0) (fs := fs) (vs := vs) (F := F1) (F' := F2) h t, hk => by
    show ∃ F', RoF G Z' H' (if n = m then (n, o) :: fs else (n, o0) :: fput m o fs) (if n = m then (n, y) :: vs else (n, v0) :: putF m y vs) F' ∧ _
    by_cases e : n = m
    · rw [if_pos e, if_pos e]
      refine ⟨Fo ++ F2, .cons ho (t.kp kp fun a ha => hk a (List.mem_append_right _ ha)), fun a ha => ?_, fun nd => ?_⟩
      · exact (List.mem_append.mp ha).elim .inl fun q => .inr (List.mem_append_right _ q)
      · have n1 := List.nodup_append.mp nd
        have n2 := List.nodup_append.mp n1.2.1
        exact List.nodup_append.mpr ⟨n1.1, n2.2.1, fun a ha b hb => n1.2.2 a ha b (List.mem_append_right _ hb)⟩
    · rw [if_neg e, if_neg e]
      obtain ⟨F', r, sub, ndp⟩ := RoF.put kp ho t fun a ha => hk a (List.mem_append_right _ ha)
      refine ⟨F1 ++ F', .cons (h.kp kp fun a ha => hk a (List.mem_append_left _ ha)) r, fun a ha => ?_, fun nd => ?_⟩
      · rcases List.mem_append.mp ha with q | q
        · exact .inr (List.mem_append_left _ q)
        · exact (sub a q).elim .inl fun q => .inr (List.mem_append_right _ q)
      · have n1 := List.nodup_append.mp nd
        have n2 := List.nodup_append.mp n1.2.1
        have n3 : (Fo ++ F2).Nodup := List.nodup_append.mpr ⟨n1.1, n2.2.1, fun a ha b hb => n1.2.2 a ha b (List.mem_append_right _ hb)⟩
        refine List.nodup_append.mpr ⟨n2.1, ndp n3, fun a ha b hb q => ?_⟩
        subst q
        rcases sub a hb with q | q
        · exact n1.2.2 a q a (List.mem_append_left _ ha) rfl
        · exact n2.2.2 a ha a q rfl
end
section
variable {X : Cx} {ca : Nat → Addr} {W : WX} {c i : Nat} {m x : Str} {p pos pos' : Pos} {g : ES} {value : Expr}
end
end Eng
set_option maxHeartbeats 1000000
/-! The engine, part 38: fields stored. -/
namespace Eng
open PySem PySem.Spec L2
open PyProof.Rows hiding St
section
variable {X : Cx} {ca : Nat → Addr} {W : WX} {c i : Nat} {m x : Str} {p pos pos' : Pos} {g : ES} {value : Expr}
variable {θ : Nat → V} {G : Gx} {Z : Zs} {H : Hp} {ρ : En} {σ : L2.St} {L : List Addr}
end
end Eng
set_option maxHeartbeats 1000000
/-! The engine, part 39: methods called. -/
namespace Eng
open PySem PySem.Spec L2
open PyProof.Rows hiding St
section
variable {X : Cx} {ca : Nat → Addr} {W : WX} {as : AS} {θ : Nat → V} {Z : Zs} {L : List Addr} {H : Hp} {σ : L2.St} {ρ : En}
end
/-- a method of a class -/
structure CalleeM (P : Program) (w : World) (K : PySem.W.Frag) (mg : Str → Option Value) (base : Heap) (ca : Nat → Addr) (k c : Nat) (m : Str) (n : Nat) (g : FSem) : Prop where
  ex : ∃ f fd ps, ps.length = n ∧ EFn P w K mg base k f fd ps (spF ⟨P, w, K, ca⟩ n g) ∧ Meth K (ca c) m f ∧ Binds K fd ps []
theorem CalleeM.mono {P : Program} {w : World} {K : PySem.W.Frag} {mg : Str → Option Value} {base : Heap} {ca : Nat → Addr} {j k c : Nat} {m : Str} {n : Nat} {g : FSem} (C : CalleeM P w K mg base ca j c m n g) (h : j ≤ k) : CalleeM P w K mg base ca k c m n g := by
  obtain ⟨f, fd, ps, h1, h2, h3⟩ := C.ex
  exact ⟨f, fd, ps, h1, h2.mono h, h3⟩
section
variable {X : Cx} {ca : Nat → Addr} {W : WX} {c i k n : Nat} {m x : Str} {p pos apos : Pos} {fn : FSem} {gs : List ES} {e : Expr} {es : List Expr}
end
end Eng
set_option maxHeartbeats 1000000
/-! The engine, part 40: objects made. -/
namespace Eng
open PySem PySem.Spec L2
open PyProof.Rows hiding St
/-- a class that can be made without arguments -/
structure CalleeN (P : Program) (w : World) (K : PySem.W.Frag) (mg : Str → Option Value) (base : Heap) (ca : Nat → Addr) (k c : Nat) (g : FSem) : Prop where
  ex : ∃ f fd ps, ps.length = 1 ∧ EFn P w K mg base k f fd ps (spF ⟨P, w, K, ca⟩ 1 g) ∧ Mk K (ca c) f ∧ Binds K fd ps [] ∧ mg (clN c) = some (.ref (ca c))
theorem CalleeN.mono {P : Program} {w : World} {K : PySem.W.Frag} {mg : Str → Option Value} {base : Heap} {ca : Nat → Addr} {j k c : Nat} {g : FSem} (C : CalleeN P w K mg base ca j c g) (h : j ≤ k) : CalleeN P w K mg base ca k c g := by
  obtain ⟨f, fd, ps, h1, h2, h3⟩ := C.ex
  exact ⟨f, fd, ps, h1, h2.mono h, h3⟩
section
variable {X : Cx} {ca : Nat → Addr} {W : WX} {c k : Nat} {x : Str} {p pos : Pos} {fn : FSem}
end
end Eng
set_option maxHeartbeats 1000000
/-! The engine, part 41: a field that is a list. -/
namespace Eng
open PySem PySem.Spec L2
open PyProof.Rows hiding St
section
variable {G : Gx} {Z : Zs} {H : Hp} {m : Str} {ds : List D}
end
section
variable {X : Cx} {ca : Nat → Addr} {W : WX} {c i : Nat} {m m2 x : Str} {p p1 p2 pos : Pos} {θ : Nat → V} {G : Gx} {Z : Zs} {H : Hp} {ρ : En} {σ : L2.St} {L : List Addr}
/-! ### rules -/
end
end Eng
set_option maxHeartbeats 1000000
/-! The engine, part 42: an empty list field as a test; a class's own makers. -/
namespace Eng
open PySem PySem.Spec L2
open PyProof.Rows hiding St
section
variable {X : Cx} {ca : Nat → Addr} {W : WX} {c i : Nat} {m x : Str} {p p1 p2 pos : Pos}
end
end Eng
set_option maxHeartbeats 1000000
/-! The engine, part 43: a method called on the object in an object's only field. -/
namespace Eng
open PySem PySem.Spec L2
open PyProof.Rows hiding St
section
variable {X : Cx} {ca : Nat → Addr} {W : WX} {c c2 i k n : Nat} {m mm x : Str} {p pos apos fpos : Pos} {fn : FSem} {gs : List ES} {e : Expr} {es : List Expr}
end
end Eng
set_option maxHeartbeats 1000000
/-! The engine, part 44: a module's constant that is a tuple of texts. -/
namespace Eng
open PySem PySem.Spec L2
open PyProof.Rows hiding St
end Eng
set_option maxHeartbeats 1000000
/-! The engine, part 45: a def called while an exception is handled. -/
namespace Eng
open PySem PySem.Spec L2
open PyProof.Rows hiding St
structure EFnH (P : Program) (w : World) (K : PySem.W.Frag) (mg : Str → Option Value) (base : Heap) (k : Nat) (f : Addr) (fd : FuncData) (ps : List Str) (sp : Sp) : Prop where
  len : ∀ vs H Q E, sp vs H Q E → vs.length = ps.length
  go : ∀ (A : Around) (outer : List Env) (s : Shared) (H : Hp) (args : Args) (us : List Value) (vs : List V) (Q : VK) (E : XK), A.guards = some [] → L2H.RoomH k A → Env0 P w K mg base A outer s H → BindsTo s fd args (ps.zip us) → Vals vs us → sp vs H Q E →
    codeAny (model P w) A (.call (.ref f) args) (CR (L2N.CX P w) outer P w H s Q E) s
theorem EFnH.mono {P : Program} {w : World} {K : PySem.W.Frag} {mg : Str → Option Value} {base : Heap} {j k : Nat} {f : Addr} {fd : FuncData} {ps : List Str} {sp : Sp} (F : EFnH P w K mg base j f fd ps sp) (h : j ≤ k) : EFnH P w K mg base k f fd ps sp :=
  ⟨F.len, fun A outer s H args us vs Q E hg hr => F.go A outer s H args us vs Q E hg (hr.mono h)⟩
section
variable {X : Cx} {k : Nat} {f : Addr} {fd : FuncData} {ps : List Str} {sp : Sp} {x : Str} {p pos : Pos} {e : Expr} {es : List Expr} {t : TA} {W : WX}
end
structure CalleeH (P : Program) (w : World) (K : PySem.W.Frag) (mg : Str → Option Value) (base : Heap) (ca : Nat → Addr) (k : Nat) (x : Str) (n : Nat) (g : FSem) : Prop where
  ex : ∃ f fd ps, ps.length = n ∧ EFnH P w K mg base k f fd ps (spF ⟨P, w, K, ca⟩ n g) ∧ mg x = some (.ref f) ∧ PySem.W.keepIn K (.ref f) = true ∧ Binds K fd ps []
theorem CalleeH.mono {P : Program} {w : World} {K : PySem.W.Frag} {mg : Str → Option Value} {base : Heap} {ca : Nat → Addr} {j k : Nat} {x : Str} {n : Nat} {g : FSem} (c : CalleeH P w K mg base ca j x n g) (h : j ≤ k) : CalleeH P w K mg base ca k x n g := by
  obtain ⟨f, fd, ps, h1, h2, h3⟩ := c.ex
  exact ⟨f, fd, ps, h1, h2.mono h, h3⟩
section
variable {X : Cx} {ca : Nat → Addr} {W : WX} {p pos : Pos} {e : Expr} {es : List Expr} {k : Nat} {x : Str}
end
end Eng
set_option maxHeartbeats 1000000
/-! The engine, part 46: xs[:1:-1]. -/
namespace Eng
open PySem PySem.Spec L2
open PyProof.Rows hiding St
section
variable {X : Cx} {ca : Nat → Addr} {W : WX} {f : ES}
end
end Eng
set_option maxHeartbeats 1000000
/-! The engine, part 47: a list comprehension that lets an exception out. -/
namespace Eng
open PySem PySem.Spec L2
open PyProof.Rows hiding St
section
variable {M : Model} {A : Around} {E : Value → Shared → Prop} {s : Shared}
end
/-! ### heaps but for one thing -/
section
variable {X : Cx} {pins : List (Addr × Obj)} {σ : L2.St} {H3 : Hp} {s3 : Shared} {scope : Scope} {cl : List (Str × Addr)} {fp : List Addr} {Q : Value → Shared → Prop} {D : Addr} {Wo : WX}
end
end Eng
set_option maxHeartbeats 1000000
/-! The engine, part 48: the comprehension's walk, with exceptions. -/
namespace Eng
open PySem PySem.Spec L2
open PyProof.Rows hiding St
section
variable {X : Cx}
end
end Eng
set_option maxHeartbeats 1000000
/-! The engine, part 49: list comprehensions whose element may raise. -/
namespace Eng
open PySem PySem.Spec L2
open PyProof.Rows hiding St
section
variable {X : Cx} {ca : Nat → Addr} {W : WX} {f g : ES} {as : AS} {G : Gx} {b : SS} {t : TS'} {it : IS}
variable {θ θ' : Nat → V} {Z Z1 Z0 Z' : Zs} {L L1 L0 L' F F0 : List Addr} {H H1 H0 H' : Hp} {σ σ' : L2.St} {ρ ρ1 ρ' : En} {Dn : Ends}
end
end Eng
set_option maxHeartbeats 3200000
/-! The engine, part 50: sorted(set(xs)), xs a list of ints. -/
namespace Eng
open PySem PySem.Spec L2
open PyProof.Rows hiding St
section
variable {P : Program} {w : World} {A : Around} {E : Value → Shared → Prop} {s : Shared}
end
section
variable {X : Cx} {ca : Nat → Addr} {W : WX} {f : ES}
end
end Eng
set_option maxHeartbeats 1000000
/-! The engine, part 51: a list comprehension within an except suite. -/
namespace Eng
open PySem PySem.Spec L2
open PyProof.Rows hiding St
/-- the exception that is handled is told -/
def HotH (X : Cx) (H : Hp) : Prop := ∃ a C, X.A.handled = some (.ref a) ∧ H a = some (.ext (ExT a C))
theorem HotH.at {X : Cx} {pins : List (Addr × Obj)} {σ : L2.St} {H : Hp} {s : Shared} (h : HotH X H) (I : Inv X pins σ H s) : ∃ x1, HotX.HotAt X.A x1 s.heap := by
  obtain ⟨a, C, hh, e⟩ := h
  obtain ⟨⟨o, e1, _, _, vs, e2, e3⟩, _⟩ := I.hok a _ e
  exact ⟨a, hh, o, vs, e1, e2, e3⟩
section
variable {prog : Program} {w : World} {A : Around} {E : Value → Shared → Prop} {s : Shared}
end
/-! ### a walk where an exception is handled -/
structure TurnX (P : Program) (w : World) (K : PySem.W.Frag) (tg : Expr) (J : It) (fp : List Addr) (it : Addr) (tn : Nat → Heap → Prop) : Prop where
  mem : it ∈ fp
  obj : ∀ i h, tn i h → ∀ b ∈ fp, ∃ o, h.get? b = some o ∧ ∀ v, o.data ≠ .cell v
  keep : ∀ i h h', tn i h → (∀ b ∈ fp, ∀ o, h.get? b = some o → h'.get? b = some o) → tn i h'
  item : ∀ (X : Cx), X.prog = P → X.w = w → X.K = K → ∀ (i : Nat) (pins : List (Addr × Obj)) (s : Shared) (σ : L2.St) (H : Hp) (E : Value → Shared → Prop), Inv X pins σ H s → (∀ b ∈ fp, FpOk X pins H b) → tn i s.heap → J.go i H →
    wpAny (model P w) X.A (pyNext (.ref it)) (fun r s1 => ∃ u, r = some u ∧
      wpAny (model P w) X.A (letOwnedTupleGo tg (.ref it) u) (fun _ s2 => ∃ x H', Inv X pins σ H' s2 ∧ RelV x u ∧ J.yld i H x H' ∧ tn (i + 1) s2.heap ∧ ∀ b ∈ fp, H' b = none) E s1) E s
  done : ∀ (X : Cx), X.prog = P → X.w = w → X.K = K → ∀ (i : Nat) (pins : List (Addr × Obj)) (s : Shared) (σ : L2.St) (H : Hp) (E : Value → Shared → Prop), Inv X pins σ H s → (∀ b ∈ fp, FpOk X pins H b) → tn i s.heap → HotH X H → J.stop i H →
    wpAny (model P w) X.A (pyNext (.ref it)) (fun r s1 => r = none ∧ Inv X pins σ H s1) E s
  self : ∀ (A : Around) (i : Nat) (s : Shared) (Q : Value → Shared → Prop) (E : Value → Shared → Prop), tn i s.heap → Q (.ref it) s → wpAny (model P w) A (pyIter (.ref it)) Q E s
def PIEX (X : Cx) (pins : List (Addr × Obj)) (σ : L2.St) (tg : Expr) (R : It → Hp → Prop) (itv : Value) (s2 : Shared) : Prop :=
  ∃ (it : Addr) (fp : List Addr) (tn : Nat → Heap → Prop) (J : It) (H' : Hp), itv = .ref it ∧ Inv X pins σ H' s2 ∧ TurnX X.prog X.w X.K tg J fp it tn ∧ tn 0 s2.heap ∧ (∀ b ∈ fp, FpOk X pins H' b) ∧ R J H'
structure PIX (X : Cx) (tg iter : Expr) (wi : TI) : Prop where
  run : ∀ (pins : List (Addr × Obj)) (s : Shared) (σ : L2.St) (H : Hp) (R : It → Hp → Prop), Inv X pins σ H s → wi σ H R →
    wpAny (model X.prog X.w) X.A (eval iter X.env) (fun v s1 => wpAny (model X.prog X.w) X.A (pyIter v) (PIEX X pins σ tg R) X.xe s1) X.xe s
section
variable {X : Cx}
end
end Eng
set_option maxHeartbeats 1000000
/-! The engine, part 52: what holds within an except suite: the exception in a pinned slot. -/
namespace Eng
open PySem PySem.Spec L2
open PyProof.Rows hiding St
section
variable (X : Cx) (ca : Nat → Addr) (W : WX) (a : Addr) (i : Nat)
def RdEh (f : ES) : TE := fun σ H Q => ∃ θ Z ρ L, θ i = .ref a ∧ Rep θ (gx X ca) Z H ρ σ L ∧ PoE X ca W θ Z L H σ Q (f ρ)
end
section
variable {X : Cx} {ca : Nat → Addr} {W : WX} {a : Addr} {i : Nat} {f g : ES} {b c : SS} {t u : TS'} {σ : L2.St} {H : Hp} {pos p : Pos} {e : Expr} {st : Stmt} {sts rest : List Stmt}
/-! ### blocks -/
/-! ### tests -/
theorem RdEh.mono {Q Q' : VK} (h : RdEh X ca W a i f σ H Q) (k : ∀ v H, Q v H → Q' v H) : RdEh X ca W a i f σ H Q' := by
  obtain ⟨θ, Z, ρ, L, hθ, r, q⟩ := h
  refine ⟨θ, Z, ρ, L, hθ, r, ?_⟩
  cases e : f ρ with
  | stuck => rw [e] at q; exact q
  | exc c ρ1 => rw [e] at q; exact q
  | ok p ρ1 => rw [e] at q; exact fun Z1 H1 L1 F v r1 h1 s1 => k _ _ (q Z1 H1 L1 F v r1 h1 s1)
/-! ### the comprehension -/
end

/-! ### try -/
section
variable {X : Cx} {ca : Nat → Addr} {W : WX} {b s : SS} {cl : List Nat} {i j : Nat} {θ θ' : Nat → V} {G : Gx} {Z : Zs} {H : Hp} {σ : L2.St} {L : List Addr} {ρ : En}
variable {x n : Str} {body suite : List Stmt} {b₀ : Stmt} {np pos pos' : Pos}
end
end Eng
/-! The engine, part 53: the hook's look through a tree, for a head in pieces. -/
namespace Eng
open PySem PySem.Spec L2
open PyProof.Rows hiding St
end Eng
set_option maxHeartbeats 1000000
/-! The engine, part 54: a dict is frozen. -/
namespace Eng
open PySem PySem.Spec L2
open PyProof.Rows hiding St
def plK (es : List (D × D)) : Bool := es.all fun e => (keyOf e.1).isSome
def oFrzD (f : ES) : ES := fun ρ => (f ρ).bind fun p ρ1 => match p with
  | .tmp (.dic es) => if plK es = true then .ok (.tmp (.val (.dict es))) ρ1 else .stuck
  | _ => .stuck
def sFrzD (j : Nat) (b : SS) : SS := fun ρ => match ρ[j]? with
  | some (some (p, .dic es)) => if plK es = true then b (ρ.set j (some (p, .val (.dict es)))) else .stuck
  | _ => .stuck
theorem pe_lockD {X : Cx} {e : Expr} {te : TE} (he : PE X e te) : PE X e (fun σ H Q => te σ H fun v H1 => ∃ a kvs, v = .ref a ∧ H1 a = some (.dK kvs) ∧ ∀ ob, Q v (upd H1 a (.frz ob (.dK kvs)))) :=
  ⟨fun pins s σ H Q I h => thn (he.run pins s σ H _ I h) fun u s1 ⟨x, H1, I1, rx, a, kvs, ex, hd, q⟩ => by
    obtain ⟨ob, I2⟩ := I1.lock hd trivial
    exact ⟨x, _, I2, rx, q ob⟩⟩
theorem pss_lockD {X : Cx} {sts : List Stmt} {t : TS} (h : PSs X sts t) : PSs X sts (fun D σ H => ∃ a kvs, H a = some (.dK kvs) ∧ ∀ ob, t D σ (upd H a (.frz ob (.dK kvs)))) :=
  ⟨fun pins s σ H D I ⟨a, kvs, hd, q⟩ => by
    obtain ⟨ob, I2⟩ := I.lock hd trivial
    exact h.run pins s σ _ D I2 (q ob)⟩
section
variable {X : Cx} {ca : Nat → Addr} {W : WX} {f : ES} {b : SS} {G : Gx} {Z : Zs} {H : Hp} {σ : L2.St} {L F : List Addr} {ρ : En} {θ : Nat → V}
theorem ro_plK {es : List (D × D)} {v : V} (h : Ro G Z H (.dic es) v F) (c : plK es = true) : ∃ a kvs, v = .ref a ∧ F = [a] ∧ H a = some (.dK kvs) ∧ DzA Z G.K H (es.map (·.1)) (kvs.map fun p => kV p.1) ∧ DzA Z G.K H (es.map (·.2)) (kvs.map (·.2)) ∧ (kvs.map (·.1)).Nodup := by
  cases h with
  | dic e hk hv nd => exact ⟨_, _, rfl, rfl, e, hk, hv, nd⟩
  | dct e hx nd ne => exact absurd (all_nkey hx c) ne
theorem se_frzD {e : Expr} (he : PE X e (RdE X ca W f)) : PE X e (RdE X ca W (oFrzD f)) := PE.imp (pe_lockD he) fun σ H Q ⟨θ, Z, ρ, L, r, q⟩ => by
  refine ⟨θ, Z, ρ, L, r, ?_⟩
  unfold oFrzD at q
  cases e1 : f ρ with
  | stuck => rw [e1] at q; exact q
  | exc c ρ1 => rw [e1] at q; exact q
  | ok p ρ1 =>
    rw [e1] at q
    simp only [bind_ok] at q
    split at q
    · rename_i es
      split at q
      · rename_i hc
        intro Z1 H1 L1 F v r1 h1 s1
        have ho := h1.one
        obtain ⟨a, kvs, rfl, rfl, hd, hk, hv, nd⟩ := ro_plK ho hc
        refine ⟨a, kvs, rfl, hd, fun ob => ?_⟩
        have n := List.nodup_append.mp h1.nd
        have mu : Mut (H1 a) := by rw [hd]; trivial
        have nL : a ∉ L1 := fun h => n.2.2 a (by simp) a h rfl
        have nZ : ¬ Z1 a := h1.dis a (by simp)
        have r2 := r1.upd (u := .frz ob (.dK kvs)) mu nL nZ
        have kp : Kp Z1 (gx X ca).K H1 Z1 (upd H1 a (.frz ob (.dK kvs))) := kp_upd mu nZ
        have hz : Dz Z1 (gx X ca).K (upd H1 a (.frz ob (.dK kvs))) (.dict es) (.ref a) := .dic upd_same nd (hk.kp kp) (hv.kp kp)
        refine q Z1 _ L1 [] _ r2 (.tmp (.val hz) r2.nd (fun _ h => by cases h)) ?_
        have kk : ∀ b o, H b = some o → b ∉ L → upd H1 a (.frz ob (.dK kvs)) b = some o := fun b o e hn => by
          rw [upd_ne]
          · exact s1.keep b o e hn
          · intro z
            subst z
            rcases s1.lnew b (by simp) with q | q
            · exact hn q
            · rw [e] at q
              cases q
        exact ⟨kk, s1.zmono, s1.znew, fun b hb => s1.lnew b (List.mem_append_right _ (by simpa using hb))⟩
      · exact q.elim
    · exact q.elim
theorem ss_frzD {j : Nat} {sts : List Stmt} (h : PSs X sts (RdS X ca W b)) : PSs X sts (RdS X ca W (sFrzD j b)) := PSs.imp (pss_lockD h) fun D σ H ⟨θ, Z, ρ, L, r, q⟩ => by
  unfold sFrzD at q
  split at q
  · rename_i p es e
    split at q
    · rename_i hc
      obtain ⟨F, L', v, hv, ho, r', hnd, hdis, hmem, hp⟩ := r.lift e
      obtain ⟨a, kvs, rfl, rfl, hd, hk, hvs, nd⟩ := ro_plK ho hc
      refine ⟨a, kvs, hd, fun ob => ?_⟩
      have n := List.nodup_append.mp hnd
      have mu : Mut (H a) := by rw [hd]; trivial
      have nL : a ∉ L' := fun h => n.2.2 a (by simp) a h rfl
      have nZ : ¬ Z a := hdis a (by simp)
      have r2 := r'.upd (u := .frz ob (.dK kvs)) mu nL nZ
      have kp : Kp Z (gx X ca).K H Z (upd H a (.frz ob (.dK kvs))) := kp_upd mu nZ
      have hz : Dz Z (gx X ca).K (upd H a (.frz ob (.dK kvs))) (.dict es) (.ref a) := .dic upd_same nd (hk.kp kp) (hvs.kp kp)
      have lj := (List.getElem?_eq_some_iff.mp e).1
      obtain ⟨L2, r3, hm⟩ := r2.back (i := j) (p := p) (o := .val (.dict es)) (F := []) (by rw [List.getElem?_set_self lj]) hv (.val hz) r2.nd (fun _ h => by cases h) hp
      rw [List.set_set] at r3
      refine ⟨θ, Z, _, L2, r3, PoS.step q ?_⟩
      have kk : ∀ b o, H b = some o → b ∉ L → upd H a (.frz ob (.dK kvs)) b = some o := fun b o e hn => by
        rw [upd_ne]
        · exact e
        · intro z
          subst z
          exact hn ((hmem b).mp (by simp))
      exact ⟨kk, fun _ z => z, fun _ z => .inl z, fun b hb => .inl ((hmem b).mp (List.mem_append_right _ (by simpa using (hm b).mp hb)))⟩
    · exact q.elim
  · exact q.elim
end
end Eng
/-! The readings of the program's and the laws' defs (printed by wip/gen.py). -/
namespace Eng
open PySem PySem.Spec L2
open PyProof.Rows hiding St
/-- words_of(book): 0 book 1 met 2 word 3 told 4 one -/
noncomputable def w_words_of_2 : SS :=
  (sPut 1 (oNm 4) (oC (.bool true)))
noncomputable def w_words_of_1 : SS :=
  (sSeq (sPut 1 (oNm 2) (oC (.bool true)))
    (sFor (iSeq (oNm 3)) (.nm 4) [4]
      w_words_of_2))
noncomputable def b_words_of : SS :=
  (sSeq (sAsg 1 (oDic0))
  (sSeq (sFor (iSeq (oNm 0)) (.tup [2, 3]) [2, 3, 4]
    w_words_of_1)
  (sRet (o1 sortS (oNm 1)))))
noncomputable def f_words_of : FSem := runF 5 b_words_of
/-- _law_source(_law_left, _law_k): 0 _law_left 1 _law_k 2 _law_cell -/
noncomputable def b_l_source : SS :=
  (sSeq (sIf (tV (o2 eqS (o1 lenS (oNm 0)) (oC (.int 0))))
    (sRet (oLst (oAs [oNm 1, oC (.int 0), oC (.int 1)])))
    sNil)
  (sSeq (sAsg 2 (oMut0 popS 0))
  (sRet (oLst (oAs [o2 fdivS (oNm 2) (oC (.int 2)), oC (.int 0), o2 modS (oNm 2) (oC (.int 2))])))))
noncomputable def f_l_source : FSem := runF 3 b_l_source
/-- _law_draw(_law_source_here, _law_many): 0 _law_source_here 1 _law_many 2 _law_turn 3 _law_mixed 4 _law_number -/
noncomputable def b_l_draw : SS :=
  (sSeq (sPut 0 (oC (.int 1)) (o2 addS (o2 ixS (oNm 0) (oC (.int 1))) (oC (.int 1))))
  (sSeq (sIf (tV (o2 eqS (o2 ixS (oNm 0) (oC (.int 2))) (oC (.int 0))))
    (sSeq (sAsg 4 (o2 modS (o2 ixS (oNm 0) (oC (.int 0))) (oNm 1)))
    (sSeq (sPut 0 (oC (.int 0)) (o2 fdivS (o2 ixS (oNm 0) (oC (.int 0))) (oNm 1)))
    (sRet (oNm 4))))
    sNil)
  (sSeq (sAsg 2 (o2 ixS (oNm 0) (oC (.int 1))))
  (sSeq (sAsg 3 (o2 addS (o2 addS (o2 mulS (o2 addS (o2 modS (o2 ixS (oNm 0) (oC (.int 0))) (o2 powS (oC (.int 10)) (oC (.int 15)))) (oC (.int 1))) (oC (.int 48271))) (o2 mulS (o2 mulS (oNm 2) (oNm 2)) (oC (.int 16807)))) (o2 mulS (oNm 2) (oC (.int 7919)))))
  (sRet (o2 modS (o2 modS (o2 mulS (o2 modS (oNm 3) (oC (.int 2147483647))) (oC (.int 69621))) (oC (.int 2147483629))) (oNm 1)))))))
noncomputable def f_l_draw : FSem := runF 5 b_l_draw
/-- _law_words(_law_source_here): 0 _law_source_here 1 _law_letters 2 _law_many 3 _law_base 4 _law_way 5 _law_size 6 _law_first 7 _law_words_here 8 _law_k 9 _law_word 10 _law_sense -/
noncomputable def c_l_words_2_1 : ES :=
  oLc (iRng1 (oAs [oC (.int 8)])) (.nm 8) (tTrue) (o2 ixS (oNm 1) (oCall f_l_draw (oAs [oNm 0, oC (.int 26)]))) [8]
noncomputable def w_l_words_2_1 : SS :=
  (sSeq (sAsg 9 (oSl (oNm 3) oNoPart (oPart (o2 addS (oC (.int 1)) (o2 modS (oNm 8) (oC (.int 8)))))))
    (sSeq (sAsg 10 (o2 addS (oC (.int 1)) (o2 fdivS (oNm 8) (oC (.int 8)))))
    (sSeq (sIf (tV (o2 eqS (oNm 4) (oC (.int 1))))
      (sSeq (sAsg 9 (oSl (oNm 3) oNoPart (oPart (oNm 5))))
      (sAsg 10 (o2 addS (oC (.int 1)) (oNm 8))))
      sNil)
    (sSeq (sIf (tV (o2 gtS (oNm 4) (oC (.int 1))))
      (sSeq (sAsg 9 (o2 addS (o2 ixS (oNm 1) (o2 modS (o2 addS (oNm 6) (o2 mulS (oC (.int 7)) (oNm 8))) (oC (.int 26)))) (oSl (oNm 3) (oPart (oC (.int 1))) (oPart (oNm 5)))))
      (sAsg 10 (oC (.int 1))))
      sNil)
    (sSeq (sIf (tV (o2 eqS (oNm 4) (oC (.int 3))))
      (sAsg 10 (o2 addS (oC (.int 1)) (oCall f_l_draw (oAs [oNm 0, oC (.int 99)]))))
      sNil)
    (sExpr (oMutA appS 7 (oAs [oIf (tV (o2 eqS (oNm 10) (oC (.int 1)))) (oNm 9) (o2 addS (o2 addS (oNm 9) (oC (.str "/"))) (o1 strS (oNm 10)))]))))))))
noncomputable def b_l_words_2 : SS :=
  (sSeq (sAsg 1 (oC (.str "abcdefghijklmnopqrstuvwxyz")))
  (sSeq (sAsg 2 (o2 addS (oC (.int 1)) (oCall f_l_draw (oAs [oNm 0, o2 ixS (oLst (oAs [oC (.int 8), oC (.int 16), oC (.int 24)])) (oCall f_l_draw (oAs [oNm 0, oC (.int 3)]))]))))
  (sSeq (sAsg 3 (oM1 joinS (oC (.str "")) (c_l_words_2_1)))
  (sSeq (sAsg 4 (oCall f_l_draw (oAs [oNm 0, oC (.int 4)])))
  (sSeq (sAsg 5 (o2 addS (oC (.int 1)) (oCall f_l_draw (oAs [oNm 0, oC (.int 8)]))))
  (sSeq (sAsg 6 (oCall f_l_draw (oAs [oNm 0, oC (.int 26)])))
  (sSeq (sAsg 7 (oLst (oAs [])))
  (sSeq (sFor (iRng1 (oAs [oNm 2])) (.nm 8) [8, 9, 10]
    w_l_words_2_1)
  (sRet (oNm 7))))))))))
noncomputable def f_l_words_2 : FSem := runF 11 b_l_words_2
/-- _law_row(_law_source_here, _law_words_here, _law_at, _law_below): 0 _law_source_here 1 _law_words_here 2 _law_at 3 _law_below 4 _law_told 5 _law_k 6 _law_one -/
noncomputable def w_l_row_1 : SS :=
  (sSeq (sAsg 6 (o2 ixS (oNm 1) (oCall f_l_draw (oAs [oNm 0, o1 lenS (oNm 1)]))))
    (sSeq (sIf (tAndC (tV (oNm 3)) (tV (o2 gtS (oNm 2) (oC (.int 0)))))
      (sAsg 6 (o2 ixS (oNm 1) (oCall f_l_draw (oAs [oNm 0, oNm 2]))))
      sNil)
    (sIf (tV (o2 notinS (oNm 6) (oNm 4)))
      (sExpr (oMutA appS 4 (oAs [oNm 6])))
      sNil)))
noncomputable def b_l_row : SS :=
  (sSeq (sAsg 4 (oLst (oAs [])))
  (sSeq (sFor (iRng1 (oAs [o2 ixS (oLst (oAs [oC (.int 0), oC (.int 1), oC (.int 1), oC (.int 2), oC (.int 2), oC (.int 3), oC (.int 8), oC (.int 2)])) (oCall f_l_draw (oAs [oNm 0, oC (.int 8)]))])) (.nm 5) [5, 6]
    w_l_row_1)
  (sRet (oTup (oAs [o2 ixS (oNm 1) (oNm 2), o1 tupleS (oNm 4)])))))
noncomputable def f_l_row : FSem := runF 7 b_l_row
/-- _law_lay(_law_rows, _law_row_here): 0 _law_rows 1 _law_row_here 2 _law_other -/
noncomputable def w_l_lay_1 : SS :=
  (sIf (tAndC (tV (o2 eqS (o2 ixS (oNm 2) (oC (.int 0))) (o2 ixS (oNm 1) (oC (.int 0))))) (tV (o2 eqS (o1 sortS (o2 ixS (oNm 2) (oC (.int 1)))) (o1 sortS (o2 ixS (oNm 1) (oC (.int 1)))))))
      (sRetN)
      sNil)
noncomputable def b_l_lay : SS :=
  (sSeq (sFor (iSeq (oNm 0)) (.nm 2) [2]
    w_l_lay_1)
  (sExpr (oMutA appS 0 (oAs [oNm 1]))))
noncomputable def f_l_lay : FSem := runF 3 b_l_lay
/-- _law_book(_law_left, _law_source_here, _law_words_here): 0 _law_left 1 _law_source_here 2 _law_words_here 3 _law_rows 4 _law_way 5 _law_k 6 _law_at 7 _law_more -/
noncomputable def w_l_book_2_1 : SS :=
  (sSeq (sAsg 6 (oCall f_l_draw (oAs [oNm 1, o1 lenS (oNm 2)])))
    (sSeq (sIf (tV (o2 eqS (oNm 4) (oC (.int 3))))
      (sAsg 6 (o2 modS (oNm 5) (o1 lenS (oNm 2))))
      sNil)
    (sExpr (oCall f_l_lay (oAs [oNm 3, oCall f_l_row (oAs [oNm 1, oNm 2, oNm 6, o2 gtS (oNm 4) (oC (.int 1))])])))))
noncomputable def t_l_book_2_2 : TS' :=
  tAndC (tV (o2 gtS (o1 lenS (oNm 0)) (oC (.int 0)))) (tV (o2 ltS (o1 lenS (oNm 3)) (oC (.int 60))))
noncomputable def w_l_book_2_2 : SS :=
  (sSeq (sAsg 7 (oCall f_l_source (oAs [oNm 0, oC (.int 0)])))
    (sExpr (oCall f_l_lay (oAs [oNm 3, oCall f_l_row (oAs [oNm 7, oNm 2, oCall f_l_draw (oAs [oNm 7, o1 lenS (oNm 2)]), o2 eqS (oNm 4) (oC (.int 2))])]))))
noncomputable def b_l_book_2 : SS :=
  (sSeq (sAsg 3 (oLst (oAs [])))
  (sSeq (sAsg 4 (oCall f_l_draw (oAs [oNm 1, oC (.int 4)])))
  (sSeq (sFor (iRng1 (oAs [oCall f_l_draw (oAs [oNm 1, oC (.int 25)])])) (.nm 5) [5, 6]
    w_l_book_2_1)
  (sSeq (sWhile (t_l_book_2_2) [7]
    w_l_book_2_2)
  (sRet (o1 tupleS (oNm 3)))))))
noncomputable def f_l_book_2 : FSem := runF 8 b_l_book_2
/-- _law_all(_law_book_here): 0 _law_book_here 1 _law_met 2 _law_word 3 _law_told 4 _law_one -/
noncomputable def w_l_all_2 : SS :=
  (sPut 1 (oNm 4) (oC (.bool true)))
noncomputable def w_l_all_1 : SS :=
  (sSeq (sPut 1 (oNm 2) (oC (.bool true)))
    (sFor (iSeq (oNm 3)) (.nm 4) [4]
      w_l_all_2))
noncomputable def b_l_all : SS :=
  (sSeq (sAsg 1 (oDic0))
  (sSeq (sFor (iSeq (oNm 0)) (.tup [2, 3]) [2, 3, 4]
    w_l_all_1)
  (sRet (o1 sortS (oNm 1)))))
noncomputable def f_l_all : FSem := runF 5 b_l_all
/-- _law_widened(_law_source_here, _law_book_here): 0 _law_source_here 1 _law_book_here 2 _law_share 3 _law_heads 4 _law_pool 5 _law_more 6 _law_k 7 _law_word 8 _law_row_here -/
noncomputable def c_l_widened_3_1 : ES :=
  oLc (iSeq (oNm 1)) (.nm 8) (tV (o2 eqS (o2 ixS (oNm 8) (oC (.int 1))) (oTup (oAs [])))) (o2 ixS (oNm 8) (oC (.int 0))) [8]
noncomputable def w_l_widened_3_1 : SS :=
  (sSeq (sAsg 7 (oMutA popAtS 4 (oAs [oCall f_l_draw (oAs [oNm 0, o1 lenS (oNm 4)])])))
    (sIf (tAndC (tV (o2 notinS (oNm 7) (oNm 3))) (tV (o2 eqS (oCall f_l_draw (oAs [oNm 0, oNm 2])) (oC (.int 0)))))
      (sExpr (oMutA appS 5 (oAs [oTup (oAs [oNm 7, oTup (oAs [])])])))
      sNil))
noncomputable def b_l_widened_3 : SS :=
  (sSeq (sIf (tV (o2 neS (oCall f_l_draw (oAs [oNm 0, oC (.int 8)])) (oC (.int 1))))
    (sRet (oNm 1))
    sNil)
  (sSeq (sAsg 2 (o2 addS (oC (.int 1)) (oCall f_l_draw (oAs [oNm 0, oC (.int 2)]))))
  (sSeq (sAsg 3 (c_l_widened_3_1))
  (sSeq (sAsg 4 (oCall f_l_all (oAs [oNm 1])))
  (sSeq (sAsg 5 (oLst (oAs [])))
  (sSeq (sFor (iRng1 (oAs [o1 lenS (oNm 4)])) (.nm 6) [6, 7]
    w_l_widened_3_1)
  (sRet (o2 addS (oNm 1) (o1 tupleS (oNm 5))))))))))
noncomputable def f_l_widened_3 : FSem := runF 9 b_l_widened_3
/-- straight(book): 0 book 1 found 2 word 3 told -/
noncomputable def w_straight_1 : SS :=
  (sPut 1 (oNm 2) (oLst (oAs [])))
noncomputable def w_straight_2 : SS :=
  (sPut 1 (oNm 2) (o2 addS (o2 ixS (oNm 1) (oNm 2)) (o1 listS (oNm 3))))
noncomputable def b_straight : SS :=
  (sSeq (sAsg 1 (oDic0))
  (sSeq (sFor (iSeq (oCall f_words_of (oAs [oNm 0]))) (.nm 2) [2]
    w_straight_1)
  (sSeq (sFor (iSeq (oNm 0)) (.tup [2, 3]) [2, 3]
    w_straight_2)
  (sRet (oNm 1)))))
noncomputable def f_straight : FSem := runF 4 b_straight
/-- met_from(found, word): 0 found 1 word 2 met 3 fresh 4 one -/
noncomputable def t_met_from_1 : TS' :=
  tV (o2 gtS (o1 lenS (oNm 3)) (oC (.int 0)))
noncomputable def w_met_from_1 : SS :=
  (sSeq (sAsg 4 (oMut0 popS 3))
    (sIf (tV (o2 notinS (oNm 4) (oNm 2)))
      (sSeq (sPut 2 (oNm 4) (oC (.bool true)))
      (sExpr (oExt 3 (o2 ixS (oNm 0) (oNm 4)))))
      sNil))
noncomputable def b_met_from : SS :=
  (sSeq (sAsg 2 (oDic0))
  (sSeq (sAsg 3 (o1 listS (o2 ixS (oNm 0) (oNm 1))))
  (sSeq (sWhile (t_met_from_1) [4]
    w_met_from_1)
  (sRet (oNm 2)))))
noncomputable def f_met_from : FSem := runF 5 b_met_from
/-- _law_beneath(_law_book_here, _law_word): 0 _law_book_here 1 _law_word 2 _law_met 3 _law_grew 4 _law_head 5 _law_told 6 _law_one -/
noncomputable def w_l_beneath_3 : SS :=
  (sIf (tV (o2 notinS (oNm 6) (oNm 2)))
            (sSeq (sPut 2 (oNm 6) (oC (.bool true)))
            (sAsg 3 (oC (.bool true))))
            sNil)
noncomputable def w_l_beneath_2 : SS :=
  (sIf (tOrC (tV (o2 eqS (oNm 4) (oNm 1))) (tV (o2 inS (oNm 4) (oNm 2))))
        (sFor (iSeq (oNm 5)) (.nm 6) [6]
          w_l_beneath_3)
        sNil)
noncomputable def t_l_beneath_1 : TS' :=
  tV (oNm 3)
noncomputable def w_l_beneath_1 : SS :=
  (sSeq (sAsg 3 (oC (.bool false)))
    (sFor (iSeq (oNm 0)) (.tup [4, 5]) [4, 5, 6]
      w_l_beneath_2))
/-- _law_beneath(_law_book_here, _law_word): 0 _law_book_here 1 _law_word 2 _law_met 3 _law_grew 4 _law_head 5 _law_told 6 _law_one -/
noncomputable def w_l_beneath_2_3 : SS :=
  (sIf (tV (o2 notinS (oNm 6) (oNm 2)))
            (sSeq (sPut 2 (oNm 6) (oC (.bool true)))
            (sAsg 3 (oC (.bool true))))
            sNil)
noncomputable def w_l_beneath_2_2 : SS :=
  (sIf (tOrC (tV (o2 eqS (oNm 4) (oNm 1))) (tV (o2 inS (oNm 4) (oNm 2))))
        (sFor (iSeq (oNm 5)) (.nm 6) [6]
          w_l_beneath_2_3)
        sNil)
noncomputable def t_l_beneath_2_1 : TS' :=
  tV (oNm 3)
noncomputable def w_l_beneath_2_1 : SS :=
  (sSeq (sAsg 3 (oC (.bool false)))
    (sFor (iSeq (oNm 0)) (.tup [4, 5]) [4, 5, 6]
      w_l_beneath_2_2))
noncomputable def b_l_beneath_2 : SS :=
  (sSeq (sAsg 2 (oDic0))
  (sSeq (sAsg 3 (oC (.bool true)))
  (sSeq (sWhile (t_l_beneath_2_1) [4, 5, 6]
    w_l_beneath_2_1)
  (sRet (oNm 2)))))
noncomputable def f_l_beneath_2 : FSem := runF 7 b_l_beneath_2
end Eng
/-! The readings of the program's and the laws' defs (printed by wip/gen.py). -/
namespace Eng
open PySem PySem.Spec L2
open PyProof.Rows hiding St
/-- _law_same, told to a depth of 4 -/
noncomputable def f_l_same_d0 : FSem := fun _ => .stuck
noncomputable def c_l_same_d1_1 : ES :=
  oLc (iRng1 (oAs [o1 lenS (oNm 1)])) (.nm 2) (tTrue) (oCall f_l_same_d0 (oAs [o2 ixS (oNm 0) (oNm 2), o2 ixS (oNm 1) (oNm 2)])) [2]
noncomputable def c_l_same_d1_2 : ES :=
  oLc (iRng1 (oAs [o1 lenS (oNm 1)])) (.nm 2) (tTrue) (oCall f_l_same_d0 (oAs [o2 ixS (oNm 0) (oNm 2), o2 ixS (oNm 1) (oNm 2)])) [2]
noncomputable def b_l_same_d1 : SS :=
  (sSeq (sIf (tV (o1 (isiS "tuple") (oNm 1)))
    (sSeq (sIf (tOrC (tNotC (tV (o1 (isiS "tuple") (oNm 0)))) (tV (o2 neS (o1 lenS (oNm 0)) (o1 lenS (oNm 1)))))
      (sRet (oC (.bool false)))
      sNil)
    (sRet (o1 allS (c_l_same_d1_1))))
    sNil)
  (sSeq (sIf (tV (o1 (isiS "list") (oNm 1)))
    (sSeq (sIf (tOrC (tNotC (tV (o1 (isiS "list") (oNm 0)))) (tV (o2 neS (o1 lenS (oNm 0)) (o1 lenS (oNm 1)))))
      (sRet (oC (.bool false)))
      sNil)
    (sRet (o1 allS (c_l_same_d1_2))))
    sNil)
  (sSeq (sIf (tV (o2 isS (oNm 1) (oC .none)))
    (sRet (o2 isS (oNm 0) (oC .none)))
    sNil)
  (sSeq (sIf (tV (o1 (isiS "str") (oNm 1)))
    (sRet (oAnd (o1 (isiS "str") (oNm 0)) (o2 eqS (oNm 0) (oNm 1))))
    sNil)
  (sRet (oAnd (o1 (isiS "int") (oNm 0)) (oAnd (oNot (o1 (isiS "bool") (oNm 0))) (o2 eqS (oNm 0) (oNm 1)))))))))
noncomputable def f_l_same_d1 : FSem := runF 3 b_l_same_d1
noncomputable def c_l_same_d2_1 : ES :=
  oLc (iRng1 (oAs [o1 lenS (oNm 1)])) (.nm 2) (tTrue) (oCall f_l_same_d1 (oAs [o2 ixS (oNm 0) (oNm 2), o2 ixS (oNm 1) (oNm 2)])) [2]
noncomputable def c_l_same_d2_2 : ES :=
  oLc (iRng1 (oAs [o1 lenS (oNm 1)])) (.nm 2) (tTrue) (oCall f_l_same_d1 (oAs [o2 ixS (oNm 0) (oNm 2), o2 ixS (oNm 1) (oNm 2)])) [2]
noncomputable def b_l_same_d2 : SS :=
  (sSeq (sIf (tV (o1 (isiS "tuple") (oNm 1)))
    (sSeq (sIf (tOrC (tNotC (tV (o1 (isiS "tuple") (oNm 0)))) (tV (o2 neS (o1 lenS (oNm 0)) (o1 lenS (oNm 1)))))
      (sRet (oC (.bool false)))
      sNil)
    (sRet (o1 allS (c_l_same_d2_1))))
    sNil)
  (sSeq (sIf (tV (o1 (isiS "list") (oNm 1)))
    (sSeq (sIf (tOrC (tNotC (tV (o1 (isiS "list") (oNm 0)))) (tV (o2 neS (o1 lenS (oNm 0)) (o1 lenS (oNm 1)))))
      (sRet (oC (.bool false)))
      sNil)
    (sRet (o1 allS (c_l_same_d2_2))))
    sNil)
  (sSeq (sIf (tV (o2 isS (oNm 1) (oC .none)))
    (sRet (o2 isS (oNm 0) (oC .none)))
    sNil)
  (sSeq (sIf (tV (o1 (isiS "str") (oNm 1)))
    (sRet (oAnd (o1 (isiS "str") (oNm 0)) (o2 eqS (oNm 0) (oNm 1))))
    sNil)
  (sRet (oAnd (o1 (isiS "int") (oNm 0)) (oAnd (oNot (o1 (isiS "bool") (oNm 0))) (o2 eqS (oNm 0) (oNm 1)))))))))
noncomputable def f_l_same_d2 : FSem := runF 3 b_l_same_d2
noncomputable def c_l_same_d3_1 : ES :=
  oLc (iRng1 (oAs [o1 lenS (oNm 1)])) (.nm 2) (tTrue) (oCall f_l_same_d2 (oAs [o2 ixS (oNm 0) (oNm 2), o2 ixS (oNm 1) (oNm 2)])) [2]
noncomputable def c_l_same_d3_2 : ES :=
  oLc (iRng1 (oAs [o1 lenS (oNm 1)])) (.nm 2) (tTrue) (oCall f_l_same_d2 (oAs [o2 ixS (oNm 0) (oNm 2), o2 ixS (oNm 1) (oNm 2)])) [2]
noncomputable def b_l_same_d3 : SS :=
  (sSeq (sIf (tV (o1 (isiS "tuple") (oNm 1)))
    (sSeq (sIf (tOrC (tNotC (tV (o1 (isiS "tuple") (oNm 0)))) (tV (o2 neS (o1 lenS (oNm 0)) (o1 lenS (oNm 1)))))
      (sRet (oC (.bool false)))
      sNil)
    (sRet (o1 allS (c_l_same_d3_1))))
    sNil)
  (sSeq (sIf (tV (o1 (isiS "list") (oNm 1)))
    (sSeq (sIf (tOrC (tNotC (tV (o1 (isiS "list") (oNm 0)))) (tV (o2 neS (o1 lenS (oNm 0)) (o1 lenS (oNm 1)))))
      (sRet (oC (.bool false)))
      sNil)
    (sRet (o1 allS (c_l_same_d3_2))))
    sNil)
  (sSeq (sIf (tV (o2 isS (oNm 1) (oC .none)))
    (sRet (o2 isS (oNm 0) (oC .none)))
    sNil)
  (sSeq (sIf (tV (o1 (isiS "str") (oNm 1)))
    (sRet (oAnd (o1 (isiS "str") (oNm 0)) (o2 eqS (oNm 0) (oNm 1))))
    sNil)
  (sRet (oAnd (o1 (isiS "int") (oNm 0)) (oAnd (oNot (o1 (isiS "bool") (oNm 0))) (o2 eqS (oNm 0) (oNm 1)))))))))
noncomputable def f_l_same_d3 : FSem := runF 3 b_l_same_d3
noncomputable def c_l_same_d4_1 : ES :=
  oLc (iRng1 (oAs [o1 lenS (oNm 1)])) (.nm 2) (tTrue) (oCall f_l_same_d3 (oAs [o2 ixS (oNm 0) (oNm 2), o2 ixS (oNm 1) (oNm 2)])) [2]
noncomputable def c_l_same_d4_2 : ES :=
  oLc (iRng1 (oAs [o1 lenS (oNm 1)])) (.nm 2) (tTrue) (oCall f_l_same_d3 (oAs [o2 ixS (oNm 0) (oNm 2), o2 ixS (oNm 1) (oNm 2)])) [2]
noncomputable def b_l_same_d4 : SS :=
  (sSeq (sIf (tV (o1 (isiS "tuple") (oNm 1)))
    (sSeq (sIf (tOrC (tNotC (tV (o1 (isiS "tuple") (oNm 0)))) (tV (o2 neS (o1 lenS (oNm 0)) (o1 lenS (oNm 1)))))
      (sRet (oC (.bool false)))
      sNil)
    (sRet (o1 allS (c_l_same_d4_1))))
    sNil)
  (sSeq (sIf (tV (o1 (isiS "list") (oNm 1)))
    (sSeq (sIf (tOrC (tNotC (tV (o1 (isiS "list") (oNm 0)))) (tV (o2 neS (o1 lenS (oNm 0)) (o1 lenS (oNm 1)))))
      (sRet (oC (.bool false)))
      sNil)
    (sRet (o1 allS (c_l_same_d4_2))))
    sNil)
  (sSeq (sIf (tV (o2 isS (oNm 1) (oC .none)))
    (sRet (o2 isS (oNm 0) (oC .none)))
    sNil)
  (sSeq (sIf (tV (o1 (isiS "str") (oNm 1)))
    (sRet (oAnd (o1 (isiS "str") (oNm 0)) (o2 eqS (oNm 0) (oNm 1))))
    sNil)
  (sRet (oAnd (o1 (isiS "int") (oNm 0)) (oAnd (oNot (o1 (isiS "bool") (oNm 0))) (o2 eqS (oNm 0) (oNm 1)))))))))
noncomputable def f_l_same_d4 : FSem := runF 3 b_l_same_d4
noncomputable def f_l_same : FSem := f_l_same_d4
end Eng
/-! The readings of the program's and the laws' defs (printed by wip/gen.py). -/
namespace Eng
open PySem PySem.Spec L2
open PyProof.Rows hiding St
end Eng
/-! The readings of the program's and the laws' defs (printed by wip/gen.py). -/
namespace Eng
open PySem PySem.Spec L2
open PyProof.Rows hiding St
end Eng
/-! The readings of the program's and the laws' defs (printed by wip/gen.py). -/
namespace Eng
open PySem PySem.Spec L2
open PyProof.Rows hiding St
end Eng
/-! The readings of the program's and the laws' defs (printed by wip/gen.py). -/
namespace Eng
open PySem PySem.Spec L2
open PyProof.Rows hiding St
end Eng
/-! The readings of the program's and the laws' defs (printed by wip/gen.py). -/
namespace Eng
open PySem PySem.Spec L2
open PyProof.Rows hiding St
end Eng
/-! The readings of the program's and the laws' defs (printed by wip/gen.py). -/
namespace Eng
open PySem PySem.Spec L2
open PyProof.Rows hiding St
end Eng
/-! The readings of the program's and the laws' defs (printed by wip/gen.py). -/
namespace Eng
open PySem PySem.Spec L2
open PyProof.Rows hiding St
end Eng
/-! The readings of the program's and the laws' defs (printed by wip/gen.py). -/
namespace Eng
open PySem PySem.Spec L2
open PyProof.Rows hiding St
end Eng
/-! The readings of the program's and the laws' defs (printed by wip/gen.py). -/
namespace Eng
open PySem PySem.Spec L2
open PyProof.Rows hiding St
end Eng
/-! The readings of the program's and the laws' defs (printed by wip/gen.py). -/
namespace Eng
open PySem PySem.Spec L2
open PyProof.Rows hiding St
/-- rings(book): 0 book 1 found 2 beneath 3 word 4 told 5 taken 6 ring 7 one -/
noncomputable def w_rings_2_1 : SS :=
  (sPut 2 (oNm 3) (oFrzD (oCall f_met_from (oAs [oNm 1, oNm 3]))))
noncomputable def c_rings_2_1 : ES :=
  oLc (iSeq (o1 sortS (o2 ixS (oNm 2) (oNm 3)))) (.nm 7) (tV (o2 inS (oNm 3) (o2 ixS (oNm 2) (oNm 7)))) (oNm 7) [7]
noncomputable def w_rings_2_3 : SS :=
  (sPut 5 (oNm 7) (oC (.bool true)))
noncomputable def w_rings_2_2 : SS :=
  (sIf (tAndC (tV (o2 inS (oNm 3) (o2 ixS (oNm 2) (oNm 3)))) (tV (o2 notinS (oNm 3) (oNm 5))))
      (sSeq (sAsg 6 (c_rings_2_1))
      (sSeq (sFor (iSeq (oNm 6)) (.nm 7) [7]
        w_rings_2_3)
      (sExpr (oMutA appS 4 (oAs [oNm 6])))))
      sNil)
noncomputable def b_rings_2 : SS :=
  (sSeq (sAsg 1 (oCall f_straight (oAs [oNm 0])))
  (sSeq (sAsg 2 (oDic0))
  (sFrzD 1 (sSeq (sFor (iSeq (oNm 1)) (.nm 3) [3]
    w_rings_2_1)
  (sSeq (sAsg 4 (oLst (oAs [])))
  (sSeq (sAsg 5 (oDic0))
  (sSeq (sFor (iSeq (o1 sortS (oNm 1))) (.nm 3) [3, 6, 7]
    w_rings_2_2)
  (sRet (oNm 4)))))))))
noncomputable def f_rings_2 : FSem := runF 8 b_rings_2
/-- law(_law_script): 0 _law_script 1 _law_left 2 _law_source_here 3 _law_book_here 4 _law_beneath_here 5 _law_word 6 _law_due 7 _law_turn 8 _law_found 9 _law_ring 10 _law_one -/
noncomputable def w_law_86_1 : SS :=
  (sPut 4 (oNm 5) (oFrzD (oCall f_l_beneath_2 (oAs [oNm 3, oNm 5]))))
noncomputable def c_law_86_1 : ES :=
  oLc (iSeq (o2 ixS (oNm 4) (oNm 5))) (.nm 10) (tV (o2 inS (oNm 5) (o2 ixS (oNm 4) (oNm 10)))) (oNm 10) [10]
noncomputable def w_law_86_2 : SS :=
  (sIf (tV (o2 inS (oNm 5) (o2 ixS (oNm 4) (oNm 5))))
      (sSeq (sAsg 9 (o1 sortS (c_law_86_1)))
      (sIf (tV (o2 notinS (oNm 9) (oNm 6)))
        (sExpr (oMutA appS 6 (oAs [oNm 9])))
        sNil))
      sNil)
noncomputable def w_law_86_3 : SS :=
  sFrz 6 (sDrp [4] (sYng 8 [6] [9] (oCall f_rings_2 (oAs [oNm 3]))
    (sSeq (sIf (tNotC (tV (oCall f_l_same (oAs [oNm 8, o1 sortS (oNm 6)]))))
      (sRet (oC (.bool false)))
      sNil)
    sNil)
    thEach
    sNil))
noncomputable def b_law_86 : SS :=
  (sSeq (sAsg 1 (o1 listRevS (oSl (oNm 0) oNoPart (oPart (oC (.int 200))))))
  (sSeq (sAsg 2 (oCall f_l_source (oAs [oNm 1, oC (.int 1)])))
  (sSeq (sAsg 3 (oCall f_l_widened_3 (oAs [oNm 2, oCall f_l_book_2 (oAs [oNm 1, oNm 2, oCall f_l_words_2 (oAs [oNm 2])])])))
  (sSeq (sAsg 4 (oDic0))
  (sSeq (sFor (iSeq (oCall f_l_all (oAs [oNm 3]))) (.nm 5) [5]
    w_law_86_1)
  (sSeq (sAsg 6 (oLst (oAs [])))
  (sFrzD 4 (sSeq (sFor (iSeq (oNm 4)) (.nm 5) [5, 9]
    w_law_86_2)
  (sSeq (sFor (iRng1 (oAs [oC (.int 2)])) (.nm 7) [7, 8, 9]
    w_law_86_3)
  (sRet (oC (.bool true))))))))))))
noncomputable def f_law_86 : FSem := runF 11 b_law_86
end Eng
/-! The readings evaluated: one equation a combinator. -/
namespace Eng
open PySem PySem.Spec L2
open PyProof.Rows hiding St

section
variable {ρ : En} {f g h : ES} {fs : List ES} {b c : SS} {t u : TS'} {i : Nat} {o : O} {d : D} {p q : Opd} {sem sem2 : O → O → Option O} {s1 : O → Option O}
@[simp] theorem slotO_zero (p : Bool) (o : O) : slotO (some (p, o) :: ρ) 0 = some o := rfl
@[simp] theorem slotO_zero' : slotO (none :: ρ) 0 = none := rfl
@[simp] theorem slotO_succ (x : Sl) : slotO (x :: ρ) (i + 1) = slotO ρ i := by simp [slotO]
@[simp] theorem look_tmp : look ρ (.tmp o) = some o := rfl
@[simp] theorem look_nm : look ρ (.nm i) = slotO ρ i := rfl
@[simp] theorem put_some : put ρ (some o) = .ok (.tmp o) ρ := rfl
@[simp] theorem put_none : put ρ none = .stuck := rfl
@[simp] theorem oNm_ap : oNm i ρ = match slotO ρ i with | some _ => .ok (.nm i) ρ | none => .stuck := rfl
@[simp] theorem oC_ap : oC d ρ = .ok (.tmp (.val d)) ρ := rfl
@[simp] theorem oAs_nil : oAs [] ρ = .ok [] ρ := rfl
@[simp] theorem oAs_cons : oAs (f :: fs) ρ = (f ρ).bind fun p ρ1 => (oAs fs ρ1).bind fun ps ρ2 => .ok (p :: ps) ρ2 := rfl
@[simp] theorem looks_nil : looks ρ [] = some [] := rfl
@[simp] theorem looks_cons (ps : List Opd) : looks ρ (p :: ps) = match look ρ p, looks ρ ps with | some o, some os => some (o :: os) | _, _ => none := rfl
def bin2 (sem : O → O → Option O) (ρ : En) (p q : Opd) : Out Opd := match look ρ p, look ρ q with
  | some a, some b => put ρ (sem a b)
  | _, _ => .stuck
@[simp] theorem o2_ap : o2 sem f g ρ = (f ρ).bind fun p ρ1 => (g ρ1).bind fun q ρ2 => bin2 sem ρ2 p q := by
  unfold o2 oF
  simp only [oAs_cons, oAs_nil]
  cases f ρ with
  | ok p ρ1 =>
    simp only [bind_ok]
    cases g ρ1 with
    | ok q ρ2 =>
      simp only [bind_ok, looks_cons, looks_nil, bin2]
      cases look ρ2 p <;> cases look ρ2 q <;> rfl
    | _ => rfl
  | _ => rfl
@[simp] theorem bin2_ap : bin2 sem ρ p q = match look ρ p, look ρ q with | some a, some b => put ρ (sem a b) | _, _ => .stuck := rfl
@[simp] theorem o1_ap : o1 s1 f ρ = (f ρ).bind fun p ρ1 => match look ρ1 p with | some a => put ρ1 (s1 a) | none => .stuck := by
  unfold o1 oF
  simp only [oAs_cons, oAs_nil]
  cases f ρ with
  | ok p ρ1 =>
    simp only [bind_ok, looks_cons, looks_nil]
    cases look ρ1 p <;> rfl
  | _ => rfl
@[simp] theorem oChain_ap : oChain sem sem2 f g h ρ = (f ρ).bind fun p ρ1 => (g ρ1).bind fun q ρ2 => match look ρ2 p, look ρ2 q with
    | some x, some y => match sem x y with
      | some (.val (.bool k)) => if k = true then (h ρ2).bind fun r ρ3 => bin2 sem2 ρ3 q r else .ok (.tmp (.val (.bool false))) ρ2
      | _ => .stuck
    | _, _ => .stuck := by
  unfold oChain
  cases f ρ with
  | ok p ρ1 =>
    simp only [bind_ok]
    cases g ρ1 with
    | ok q ρ2 =>
      simp only [bind_ok, looks_cons, looks_nil]
      cases look ρ2 p with
      | none => cases look ρ2 q <;> rfl
      | some x =>
        cases look ρ2 q with
        | none => rfl
        | some y =>
          simp only
          cases sem x y with
          | none => rfl
          | some o =>
            cases o with
            | val d =>
              cases d with
              | bool k =>
                simp only
                split
                · cases h ρ2 with
                  | ok r ρ3 =>
                    simp only [bind_ok, bin2]
                    cases look ρ3 q <;> cases look ρ3 r <;> rfl
                  | _ => rfl
                · rfl
              | _ => rfl
            | _ => rfl
    | _ => rfl
  | _ => rfl
@[simp] theorem tV_ap : tV f ρ = (f ρ).bind fun p ρ1 => match look ρ1 p with | some (.val (.bool b)) => .ok b ρ1 | _ => .stuck := rfl
@[simp] theorem tNotC_ap : tNotC t ρ = (t ρ).bind fun b ρ1 => .ok (!b) ρ1 := rfl
@[simp] theorem tAndC_ap : tAndC t u ρ = (t ρ).bind fun b ρ1 => if b = true then u ρ1 else .ok false ρ1 := rfl
@[simp] theorem tOrC_ap : tOrC t u ρ = (t ρ).bind fun b ρ1 => if b = true then .ok true ρ1 else u ρ1 := rfl
@[simp] theorem tTrue_ap : tTrue ρ = .ok true ρ := rfl
@[simp] theorem oNot_ap : oNot f ρ = (tV f ρ).bind fun b ρ1 => .ok (.tmp (.val (.bool (!b)))) ρ1 := by
  unfold oNot oT tNotC
  cases tV f ρ <;> rfl
@[simp] theorem oAnd_ap : oAnd f g ρ = (tV f ρ).bind fun b ρ1 => if b = true then g ρ1 else .ok (.tmp (.val (.bool false))) ρ1 := rfl
@[simp] theorem oOr_ap : oOr f g ρ = (tV f ρ).bind fun b ρ1 => if b = true then .ok (.tmp (.val (.bool true))) ρ1 else g ρ1 := rfl
@[simp] theorem oIf_ap : oIf t f g ρ = (t ρ).bind fun b ρ1 => if b = true then f ρ1 else g ρ1 := rfl
@[simp] theorem oSl_ap (lo hi : OS) : oSl f lo hi ρ = (f ρ).bind fun p ρ1 => (lo ρ1).bind fun l ρ2 => (hi ρ2).bind fun h ρ3 => match look ρ3 p with | some o => put ρ3 (slS l h o) | none => .stuck := rfl
@[simp] theorem oNoPart_ap : oNoPart ρ = .ok none ρ := rfl
@[simp] theorem oPart_ap : oPart f ρ = (f ρ).bind fun p ρ1 => match look ρ1 p with | some (.val (.int i)) => .ok (some i) ρ1 | _ => .stuck := rfl
@[simp] theorem oM1_ap (s : Str → O → Option O) : oM1 s f g ρ = (f ρ).bind fun p ρ1 => match look ρ1 p with | some (.val (.str a)) => (g ρ1).bind fun p2 ρ2 => (match look ρ2 p2 with | some o => put ρ2 (s a o) | none => .stuck) | _ => .stuck := rfl
@[simp] theorem oDic0_ap : oDic0 ρ = .ok (.tmp (.dic [])) ρ := rfl
@[simp] theorem take_tmp : take ρ (.tmp o) = some (o, ρ) := rfl
@[simp] theorem take_nm : take ρ (.nm i) = match slotO ρ i with | some (.val d) => some (.val d, ρ) | some (.scr ns) => some (.scr ns, ρ) | some (.lst ds) => some (.val (.list ds), frz ρ i) | _ => none := rfl
@[simp] theorem give_ap : give ρ p = match take ρ p with | some (.val d, ρ') => some (d, ρ') | some (.lst ds, ρ') => some (.list ds, ρ') | _ => none := rfl
@[simp] theorem gives_nil : gives ρ [] = some ([], ρ) := rfl
@[simp] theorem gives_cons (ps : List Opd) : gives ρ (p :: ps) = match give ρ p with | some (d, ρ1) => (match gives ρ1 ps with | some (ds, ρ2) => some (d :: ds, ρ2) | none => none) | none => none := rfl
@[simp] theorem frz_zero (p : Bool) (ds : List D) : frz (some (p, .lst ds) :: ρ) 0 = some (p, .val (.list ds)) :: ρ := by simp [frz]
@[simp] theorem frz_succ (x : Sl) : frz (x :: ρ) (i + 1) = x :: frz ρ i := by
  unfold frz
  simp only [List.getElem?_cons_succ]
  cases ρ[i]? with
  | none => rfl
  | some sl =>
    cases sl with
    | none => rfl
    | some po =>
      obtain ⟨p, o⟩ := po
      cases o <;> rfl
@[simp] theorem oLst_ap (as : AS) : oLst as ρ = (as ρ).bind fun ps ρ1 => match gives ρ1 ps with | some (ds, ρ2) => put ρ2 (if ds.length ≤ 1000 then some (.lst ds) else none) | none => .stuck := rfl
@[simp] theorem oTup_ap (as : AS) : oTup as ρ = (as ρ).bind fun ps ρ1 => match gives ρ1 ps with | some (ds, ρ2) => put ρ2 (if ds.length ≤ 1000 then some (.val (.tuple ds)) else none) | none => .stuck := rfl
/-! ### statements -/
@[simp] theorem sNil_ap : sNil ρ = .nx ρ := rfl
@[simp] theorem sSeq_ap : sSeq b c ρ = (b ρ).then c := rfl
@[simp] theorem sExpr_ap : sExpr f ρ = (f ρ).bindS fun _ ρ1 => .nx ρ1 := rfl
@[simp] theorem sIf_ap : sIf t b c ρ = (t ρ).bindS fun k ρ1 => if k = true then b ρ1 else c ρ1 := rfl
@[simp] theorem sBreak_ap : sBreak ρ = .bk ρ := rfl
@[simp] theorem sCont_ap : sCont ρ = .ct ρ := rfl
@[simp] theorem giveUp_tmp : giveUp ρ (.tmp o) = some (o, ρ) := rfl
@[simp] theorem giveUp_nm : giveUp ρ (.nm i) = match ρ[i]? with
    | some (some (_, .val d)) => some (.val d, ρ)
    | some (some (_, .scr ns)) => some (.scr ns, ρ)
    | some (some (false, o)) => some (o, ρ.set i none)
    | some (some (true, .lst ds)) => some (.val (.list ds), frz ρ i)
    | _ => none := rfl
@[simp] theorem sRet_ap : sRet f ρ = (f ρ).bindS fun p ρ1 => match giveUp ρ1 p with | some (o, ρ2) => .rt o ρ2 | none => .stuck := rfl
@[simp] theorem sRetN_ap : sRetN ρ = .rt (.val .none) ρ := rfl
@[simp] theorem sRaise_ap (c : Nat) : sRaise c ρ = .exc c ρ := rfl
@[simp] theorem setE_zero (o o' : O) : setE 0 o (some (false, o') :: ρ) = some (some (false, o) :: ρ) := by simp [setE]
@[simp] theorem setE_zero' (o : O) : setE 0 o (none :: ρ) = some (some (false, o) :: ρ) := by simp [setE]
@[simp] theorem setE_succ (o : O) (x : Sl) : setE (i + 1) o (x :: ρ) = (setE i o ρ).map (x :: ·) := by
  unfold setE
  simp only [List.getElem?_cons_succ]
  split <;> simp_all
@[simp] theorem takeM_ap : takeM ρ p = match take ρ p with | some x => some x | none => giveUp ρ p := rfl
@[simp] theorem stoE_ap : stoE i ρ p = match takeM ρ p with | some (o, ρ1) => (match setE i o ρ1 with | some ρ2 => .nx ρ2 | none => .stuck) | none => .stuck := rfl
@[simp] theorem sAsg_ap : sAsg i f ρ = (f ρ).bindS fun p ρ1 => stoE i ρ1 p := rfl
@[simp] theorem putAtE_ap (pd pk : Opd) : putAtE i ρ pd pk = match give ρ pd with
    | some (d, ρ1) => match give ρ1 pk with
      | some (k, ρ2) => match ρ2[i]? with
        | some (some (p, o)) => match setS o k d with
          | some o' => .nx (ρ2.set i (some (p, o')))
          | none => .stuck
        | _ => .stuck
      | none => .stuck
    | none => .stuck := rfl
@[simp] theorem sPut_ap : sPut i f g ρ = (g ρ).bindS fun pd ρ1 => match slotO ρ1 i with | some _ => (f ρ1).bindS fun pk ρ2 => putAtE i ρ2 pd pk | none => .stuck := rfl
@[simp] theorem sUnp_ap (T : Tgt) : sUnp T f ρ = (f ρ).bindS fun p ρ1 => match give ρ1 p with | some (d, ρ2) => (match T.put d ρ2 with | some ρ3 => .nx ρ3 | none => .stuck) | none => .stuck := rfl
@[simp] theorem Tgt_nm : (Tgt.nm i).put d ρ = setE i (.val d) ρ := rfl
@[simp] theorem Tgt_tup (is : List Nat) (ds : List D) : (Tgt.tup is).put (.tuple ds) ρ = setDs is ds ρ := rfl
@[simp] theorem setDs_nil : setDs [] [] ρ = some ρ := rfl
@[simp] theorem setDs_cons (is : List Nat) (ds : List D) : setDs (i :: is) (d :: ds) ρ = match setE i (.val d) ρ with | some ρ1 => setDs is ds ρ1 | none => none := rfl
@[simp] theorem mutE_ap (s : O → Option (O × D)) : mutE s i ρ = match ρ[i]? with | some (some (p, o)) => (match s o with | some (o', res) => .ok (.tmp (.val res)) (ρ.set i (some (p, o'))) | none => .stuck) | _ => .stuck := rfl
@[simp] theorem oMutA_ap (s : O → List D → Option (O × D)) (as : AS) : oMutA s i as ρ = match slotO ρ i with
    | some o0 => if isLstO o0 = true then (as ρ).bind fun ps ρ1 => (match gives ρ1 ps with | some (ds, ρ2) => mutE (fun o => s o ds) i ρ2 | none => .stuck) else .stuck
    | none => .stuck := rfl
@[simp] theorem oMut0_ap (s : O → Option (O × D)) : oMut0 s i ρ = match slotO ρ i with | some o0 => if isLstO o0 = true then mutE s i ρ else .stuck | none => .stuck := rfl
@[simp] theorem isLst_lst (ds : List D) : isLstO (.lst ds) = true := rfl
@[simp] theorem oExt_ap : oExt i f ρ = match slotO ρ i with
    | some o0 => if isLstO o0 = true then (f ρ).bind fun p ρ1 => (match look ρ1 p with
        | some o1 => match o1.seq? with
          | some zs => mutE (fun o => match o with
            | .lst ds => if ds.length + zs.length ≤ sizeLine then some (.lst (ds ++ zs), .none) else none
            | _ => none) i ρ1
          | none => .stuck
        | none => .stuck)
      else .stuck
    | none => .stuck := rfl
/-! ### loops -/
@[simp] theorem sFor_ap (it : IS) (T : Tgt) (fg : List Nat) : sFor it T fg b ρ = (it ρ).bindS fun x ρ1 => forW T fg b x ρ1 := rfl
@[simp] theorem forW_none (T : Tgt) (fg : List Nat) (ds : List D) : forW T fg b (none, ds) ρ = forL none T fg b ds ρ := rfl
@[simp] theorem iSeq_ap : iSeq f ρ = (f ρ).bind fun p ρ1 => itSeq ρ1 p := rfl
@[simp] theorem itSeq_lst (ds : List D) : itSeq ρ (.tmp (.lst ds)) = .ok (none, ds) ρ := rfl
@[simp] theorem itSeq_val : itSeq ρ (.tmp (.val d)) = match itemsD d with | some ds => .ok (none, ds) ρ | none => .stuck := rfl
@[simp] theorem itSeq_nm : itSeq ρ (.nm i) = match ρ[i]? with
    | some (some (_, .lst ds)) => .ok (some i, ds) ρ
    | some (some (_, .val d)) => match itemsD d with
      | some ds => .ok (none, ds) ρ
      | none => .stuck
    | _ => .stuck := rfl
@[simp] theorem itemsD_list (ds : List D) : itemsD (.list ds) = some ds := rfl
@[simp] theorem itemsD_tuple (ds : List D) : itemsD (.tuple ds) = some ds := rfl
@[simp] theorem iRng1_ap (as : AS) : iRng1 as ρ = (as ρ).bind fun ps ρ1 => match looks ρ1 ps with
      | some [.val (.int j)] => if j ≤ 1000000 ∧ -(2 ^ 62) ≤ j then .ok (none, rng 0 j.toNat) ρ1 else .stuck
      | _ => .stuck := rfl
@[simp] theorem iRng2_ap (as : AS) : iRng2 as ρ = (as ρ).bind fun ps ρ1 => match looks ρ1 ps with
      | some [.val (.int i), .val (.int j)] => if -1000000 ≤ i ∧ i ≤ 1000000 ∧ -1000000 ≤ j ∧ j ≤ 1000000 then .ok (none, rng i (j - i).toNat) ρ1 else .stuck
      | _ => .stuck := rfl
@[simp] theorem oLc_ap (it : IS) (T : Tgt) (own : List Nat) : oLc it T t f own ρ = (it ρ).bind fun x ρ1 => lcE T t f own x ρ1 := rfl
@[simp] theorem lcE_none (T : Tgt) (own : List Nat) (ds : List D) : lcE T t f own (none, ds) ρ = (lcW none T t f own ds ρ).bind fun acc ρ2 => .ok (.tmp (.lst acc)) ρ2 := rfl
@[simp] theorem dropE_nil : dropE [] ρ = ρ := rfl
@[simp] theorem dropE_cons (is : List Nat) : dropE (i :: is) ρ = dropE is (dropE1 i ρ) := rfl
@[simp] theorem dropE1_zero : dropE1 0 (some (false, o) :: ρ) = none :: ρ := rfl
@[simp] theorem dropE1_zero' : dropE1 0 (none :: ρ) = none :: ρ := rfl
@[simp] theorem dropE1_zeroT : dropE1 0 (some (true, o) :: ρ) = some (true, o) :: ρ := rfl
@[simp] theorem dropE1_succ (x : Sl) : dropE1 (i + 1) (x :: ρ) = x :: dropE1 i ρ := by
  unfold dropE1
  simp only [List.getElem?_cons_succ]
  split <;> simp_all
@[simp] theorem chkE_none : chkE none ρ = True := rfl
@[simp] theorem chkE_some (ds : List D) : chkE (some (i, ds)) ρ = (ρ[i]? = some (some (true, .lst ds))) := rfl
/-! ### calls -/
@[simp] theorem oCall_ap (fn : FSem) (as : AS) : oCall fn as ρ = (as ρ).bind fun ps ρ1 => callE fn ρ1 ps := rfl
@[simp] theorem callE_ap (fn : FSem) (ps : List Opd) : callE fn ρ ps = match lift ρ ps with
    | some (os, bs, ρ1) => match fn os with
      | .ret o fin => .ok (.tmp o) (backs ps bs fin ρ1)
      | .exc c fin => .exc c (backs ps bs fin ρ1)
      | .stuck => .stuck
    | none => .stuck := rfl
@[simp] theorem lift_nil : lift ρ [] = some ([], [], ρ) := rfl
@[simp] theorem lift_cons (ps : List Opd) : lift ρ (p :: ps) = match lift1 ρ p with
    | some (o, b, ρ1) => match lift ρ1 ps with
      | some (os, bs, ρ2) => some (o :: os, b :: bs, ρ2)
      | none => none
    | none => none := rfl
@[simp] theorem lift1_tmp : lift1 ρ (.tmp o) = some (o, none, ρ) := rfl
@[simp] theorem lift1_nm : lift1 ρ (.nm i) = match ρ[i]? with | some (some (p, o)) => if o.own = true then some (o, some p, ρ.set i none) else some (o, none, ρ) | _ => none := rfl
@[simp] theorem backs_nil (bs : List (Option Bool)) (fin : List O) : backs [] bs fin ρ = ρ := by cases bs <;> cases fin <;> rfl
@[simp] theorem backs_tmp (ps : List Opd) (b : Option Bool) (bs : List (Option Bool)) (x : O) (fin : List O) : backs (.tmp o :: ps) (b :: bs) (x :: fin) ρ = backs ps bs fin ρ := by cases b <;> rfl
@[simp] theorem backs_nm (ps : List Opd) (bs : List (Option Bool)) (x : O) (fin : List O) : backs (.nm i :: ps) (none :: bs) (x :: fin) ρ = backs ps bs fin ρ := rfl
@[simp] theorem backs_nmS (ps : List Opd) (p : Bool) (bs : List (Option Bool)) (x : O) (fin : List O) : backs (.nm i :: ps) (some p :: bs) (x :: fin) ρ = (backs ps bs fin ρ).set i (some (p, x)) := rfl
@[simp] theorem own_val : (O.val d).own = false := rfl
@[simp] theorem own_scr (ns : List Int) : (O.scr ns).own = false := rfl
@[simp] theorem own_lst (ds : List D) : (O.lst ds).own = true := rfl
@[simp] theorem own_dic (es : List (D × D)) : (O.dic es).own = true := rfl
@[simp] theorem own_set (xs : List Str) : (O.set xs).own = true := rfl
@[simp] theorem own_ins (c : Nat) (fs : List (Str × O)) : (O.ins c fs).own = true := rfl
theorem runF_ap (n : Nat) (os : List O) : runF n b os = match b (startE n os) with
  | .nx ρ => (match fins os ρ with | some fin => .ret (.val .none) fin | none => .stuck)
  | .rt o ρ => (match fins os ρ with | some fin => .ret o fin | none => .stuck)
  | .exc c ρ => (match fins os ρ with | some fin => .exc c fin | none => .stuck)
  | _ => .stuck := rfl
@[simp] theorem startE_ap (n : Nat) (os : List O) : startE n os = os.map (fun o => some (o.own, o)) ++ List.replicate (n - os.length) none := rfl
@[simp] theorem fins_nil : fins [] ρ = some [] := rfl
@[simp] theorem fins_val (os : List O) (sl : Sl) : fins (.val d :: os) (sl :: ρ) = match fins os ρ with | some r => some (.val d :: r) | none => none := rfl
@[simp] theorem fins_scr (ns : List Int) (os : List O) (sl : Sl) : fins (.scr ns :: os) (sl :: ρ) = match fins os ρ with | some r => some (.scr ns :: r) | none => none := rfl
@[simp] theorem fins_lst (ds : List D) (x : O) (os : List O) : fins (.lst ds :: os) (some (true, x) :: ρ) = match fins os ρ with | some r => some (x :: r) | none => none := rfl
@[simp] theorem fins_dic (es : List (D × D)) (x : O) (os : List O) : fins (.dic es :: os) (some (true, x) :: ρ) = match fins os ρ with | some r => some (x :: r) | none => none := rfl
/-! ### operations on data -/
@[simp] theorem addS_int (i j : Int) : addS (.val (.int i)) (.val (.int j)) = some (.val (.int (i + j))) := rfl
@[simp] theorem addS_str (x y : Str) : addS (.val (.str x)) (.val (.str y)) = if x.length + y.length ≤ sizeLine then some (.val (.str (x ++ y))) else none := rfl
@[simp] theorem addS_tup (x y : List D) : addS (.val (.tuple x)) (.val (.tuple y)) = if x.length + y.length ≤ sizeLine then some (.val (.tuple (x ++ y))) else none := rfl
@[simp] theorem addS_ll (x y : List D) : addS (.lst x) (.lst y) = if x.length + y.length ≤ sizeLine then some (.lst (x ++ y)) else none := rfl
@[simp] theorem addS_lv (x y : List D) : addS (.lst x) (.val (.list y)) = if x.length + y.length ≤ sizeLine then some (.lst (x ++ y)) else none := rfl
@[simp] theorem addS_vl (x y : List D) : addS (.val (.list x)) (.lst y) = if x.length + y.length ≤ sizeLine then some (.lst (x ++ y)) else none := rfl
@[simp] theorem addS_vv (x y : List D) : addS (.val (.list x)) (.val (.list y)) = if x.length + y.length ≤ sizeLine then some (.lst (x ++ y)) else none := rfl
@[simp] theorem subS_int (i j : Int) : subS (.val (.int i)) (.val (.int j)) = some (.val (.int (i - j))) := by simp [subS, intS]
@[simp] theorem mulS_int (i j : Int) : mulS (.val (.int i)) (.val (.int j)) = if (-(2 ^ 64) < i ∧ i < 2 ^ 64) ∨ (-(2 ^ 64) < j ∧ j < 2 ^ 64) then some (.val (.int (i * j))) else none := rfl
@[simp] theorem fdivS_int (i j : Int) : fdivS (.val (.int i)) (.val (.int j)) = if 0 < j ∧ j < 1073741824 then some (.val (.int (i / j))) else none := rfl
@[simp] theorem modS_int (i j : Int) : modS (.val (.int i)) (.val (.int j)) = if 0 < j then some (.val (.int (i % j))) else none := rfl
@[simp] theorem powS_int (i j : Int) : powS (.val (.int i)) (.val (.int j)) = if 0 ≤ j ∧ j ≤ 1000000 ∧ i.natAbs < 2 ^ 64 then some (.val (.int (i ^ j.toNat))) else none := rfl
@[simp] theorem negS_int (i : Int) : negS (.val (.int i)) = some (.val (.int (-i))) := rfl
@[simp] theorem ltS_int (i j : Int) : ltS (.val (.int i)) (.val (.int j)) = some (.val (.bool (decide (i < j)))) := rfl
@[simp] theorem leS_int (i j : Int) : leS (.val (.int i)) (.val (.int j)) = some (.val (.bool (decide (i ≤ j)))) := rfl
@[simp] theorem gtS_int (i j : Int) : gtS (.val (.int i)) (.val (.int j)) = some (.val (.bool (decide (j < i)))) := rfl
@[simp] theorem geS_int (i j : Int) : geS (.val (.int i)) (.val (.int j)) = some (.val (.bool (decide (j ≤ i)))) := rfl
@[simp] theorem leS_str (i j : Str) : leS (.val (.str i)) (.val (.str j)) = some (.val (.bool (!decide (j.cps.toList < i.cps.toList)))) := rfl
@[simp] theorem view_lst (ds : List D) : (O.lst ds).view? = some (.list ds) := rfl
@[simp] theorem view_val : (O.val d).view? = some d := rfl
@[simp] theorem seq_lst (ds : List D) : (O.lst ds).seq? = some ds := rfl
@[simp] theorem seq_list (ds : List D) : (O.val (.list ds)).seq? = some ds := rfl
@[simp] theorem seq_tup (ds : List D) : (O.val (.tuple ds)).seq? = some ds := rfl
@[simp] theorem list_lst (ds : List D) : (O.lst ds).list? = some ds := rfl
@[simp] theorem list_list (ds : List D) : (O.val (.list ds)).list? = some ds := rfl
@[simp] theorem eqS_int (i j : Int) : eqS (.val (.int i)) (.val (.int j)) = some (.val (.bool (i == j))) := by simp [eqS, eqD?, isStrD, SeqAt.shaped, PyData.eqv, PyData.canLay0, PyData.depth]
@[simp] theorem neS_int (i j : Int) : neS (.val (.int i)) (.val (.int j)) = some (.val (.bool (!(i == j)))) := by simp [neS, eqD?, isStrD, SeqAt.shaped, PyData.eqv, PyData.canLay0, PyData.depth]
@[simp] theorem eqS_str (i j : Str) : eqS (.val (.str i)) (.val (.str j)) = some (.val (.bool (i == j))) := by simp [eqS, eqD?, isStrD, PyData.eqv]
@[simp] theorem neS_str (i j : Str) : neS (.val (.str i)) (.val (.str j)) = some (.val (.bool (!(i == j)))) := by simp [neS, eqD?, isStrD, PyData.eqv]
@[simp] theorem eqS_bool (i j : Bool) : eqS (.val (.bool i)) (.val (.bool j)) = some (.val (.bool (i == j))) := by simp [eqS, eqD?, isStrD, SeqAt.shaped, PyData.eqv, PyData.canLay0, PyData.depth]
@[simp] theorem neS_bool (i j : Bool) : neS (.val (.bool i)) (.val (.bool j)) = some (.val (.bool (!(i == j)))) := by simp [neS, eqD?, isStrD, SeqAt.shaped, PyData.eqv, PyData.canLay0, PyData.depth]
@[simp] theorem lenS_str (z : Str) : lenS (.val (.str z)) = if z.length ≤ sizeLine then some (.val (.int z.length)) else none := rfl
@[simp] theorem lenS_list (ds : List D) : lenS (.val (.list ds)) = some (.val (.int ds.length)) := rfl
@[simp] theorem lenS_tup (ds : List D) : lenS (.val (.tuple ds)) = some (.val (.int ds.length)) := rfl
@[simp] theorem lenS_lst (ds : List D) : lenS (.lst ds) = some (.val (.int ds.length)) := rfl
@[simp] theorem lenS_scr (ns : List Int) : lenS (.scr ns) = some (.val (.int ns.length)) := rfl
@[simp] theorem listS_ap : listS o = o.seq?.map .lst := rfl
@[simp] theorem tupleS_ap : tupleS o = o.seq?.map fun ds => .val (.tuple ds) := rfl
@[simp] theorem allS_ap : allS o = o.list?.bind fun ds => (asBools ds).map fun bs => .val (.bool (bs.all id)) := rfl
@[simp] theorem anyS_ap : anyS o = o.list?.bind fun ds => (asBools ds).map fun bs => .val (.bool (bs.any id)) := rfl
@[simp] theorem sumS_ap : sumS o = o.list?.bind fun ds => (asInts ds).map fun bs => .val (.int bs.sum) := rfl
@[simp] theorem ixS_scr (ns : List Int) (i : Int) : ixS (.scr ns) (.val (.int i)) = (atI ns i).map fun n => .val (.int n) := rfl
@[simp] theorem ixS_lst (ds : List D) (i : Int) : ixS (.lst ds) (.val (.int i)) = (atI ds i).map .val := rfl
@[simp] theorem ixS_list (ds : List D) (i : Int) : ixS (.val (.list ds)) (.val (.int i)) = (atI ds i).map .val := rfl
@[simp] theorem ixS_tup (ds : List D) (i : Int) : ixS (.val (.tuple ds)) (.val (.int i)) = (atI ds i).map .val := rfl
@[simp] theorem ixS_str (z : Str) (i : Int) : ixS (.val (.str z)) (.val (.int i)) = if z.length ≤ sizeLine then (atI z.cps.toList i).map fun c => .val (.str ⟨#[c]⟩) else none := rfl
@[simp] theorem appS_ap (ds : List D) : appS (.lst ds) [d] = if ds.length < sizeLine then some (.lst (ds ++ [d]), .none) else none := rfl
@[simp] theorem strS_int (i : Int) : strS (.val (.int i)) = if i.natAbs.log2 < 1920 then some (.val (.str (Str.ofString (toString i)))) else none := rfl
theorem atI_nat' {α : Type} (xs : List α) (i : Int) (h : 0 ≤ i) (h2 : i < xs.length) : atI xs i = xs[i.toNat]? := by
  unfold atI ixN
  rw [if_pos h, if_pos h2]
  rfl
end
end Eng
/-! Loops and comprehensions over typed items. -/
namespace Eng
open PySem PySem.Spec L2
open PyProof.Rows hiding St

/-! ### one turn of a for -/
def turn (T : Tgt) (fg : List Nat) (b : SS) (d : D) (ρ : En) : SOut := match T.put d ρ with
  | none => .stuck
  | some ρ1 => match b ρ1 with
    | .nx ρ2 => .nx (dropE fg ρ2)
    | .ct ρ2 => .nx (dropE fg ρ2)
    | .bk ρ2 => .bk (dropE fg ρ2)
    | o => o
theorem turn_ap (T : Tgt) (fg : List Nat) (b : SS) (d : D) (ρ : En) : turn T fg b d ρ = match T.put d ρ with
  | none => .stuck
  | some ρ1 => match b ρ1 with
    | .nx ρ2 => .nx (dropE fg ρ2)
    | .ct ρ2 => .nx (dropE fg ρ2)
    | .bk ρ2 => .bk (dropE fg ρ2)
    | o => o := rfl
theorem forL_turn (T : Tgt) (fg : List Nat) (b : SS) (d : D) (ds : List D) (ρ : En) : forL none T fg b (d :: ds) ρ = match turn T fg b d ρ with
  | .nx ρ2 => forL none T fg b ds ρ2
  | .bk ρ2 => .nx ρ2
  | o => o := by
  unfold turn
  rw [forL]
  cases T.put d ρ with
  | none => rfl
  | some ρ1 =>
    simp only
    cases b ρ1 <;> simp [chkE]
/-- a for that runs through: the state by its word -/
theorem forL_map {α σ : Type} {f : α → D} {T : Tgt} {fg : List Nat} {b : SS} (enc : σ → En) (step : σ → α → σ) (I : σ → Prop) : ∀ (xs : List α) (s : σ), I s → (∀ s x, x ∈ xs → I s → turn T fg b (f x) (enc s) = .nx (enc (step s x)) ∧ I (step s x)) →
    forL none T fg b (xs.map f) (enc s) = .nx (enc (xs.foldl step s)) ∧ I (xs.foldl step s)
  | [], s, hs, _ => ⟨rfl, hs⟩
  | x :: xs, s, hs, h => by
    obtain ⟨h1, h2⟩ := h s x List.mem_cons_self hs
    rw [List.map_cons, forL_turn, h1]
    exact forL_map enc step I xs (step s x) h2 fun s y hy => h s y (List.mem_cons_of_mem _ hy)
theorem forW_nm {T : Tgt} {fg : List Nat} {b : SS} {j : Nat} {ds : List D} {ρ : En} {o : O} (h : ρ[j]? = some (some (false, o))) : forW T fg b (some j, ds) ρ = unpS j (forL (some (j, ds)) T fg b ds (ρ.set j (some (true, o)))) := by
  simp [forW, h]
@[simp] theorem unpS_nx (j : Nat) (ρ : En) : unpS j (.nx ρ) = .nx (unpin j ρ) := rfl
@[simp] theorem unpin_zero (p : Bool) (o : O) (ρ : En) : unpin 0 (some (p, o) :: ρ) = some (false, o) :: ρ := rfl
@[simp] theorem unpin_succ (j : Nat) (x : Sl) (ρ : En) : unpin (j + 1) (x :: ρ) = x :: unpin j ρ := by
  unfold unpin
  simp only [List.getElem?_cons_succ]
  split <;> simp_all

/-! ### one turn of a comprehension -/
def lturn (T : Tgt) (t : TS') (f : ES) (own : List Nat) (d : D) (ρ : En) : Out (Option D) := match T.put d ρ with
  | none => .stuck
  | some ρ1 => match t ρ1 with
    | .ok b ρ2 => if b = true then match f ρ2 with
        | .ok p ρ3 => match give ρ3 p with
          | some (e, ρ4) => .ok (some e) (dropE own ρ4)
          | none => .stuck
        | _ => .stuck
      else .ok none (dropE own ρ2)
    | _ => .stuck
theorem lturn_ap (T : Tgt) (t : TS') (f : ES) (own : List Nat) (d : D) (ρ : En) : lturn T t f own d ρ = match T.put d ρ with
  | none => .stuck
  | some ρ1 => match t ρ1 with
    | .ok b ρ2 => if b = true then match f ρ2 with
        | .ok p ρ3 => match give ρ3 p with
          | some (e, ρ4) => .ok (some e) (dropE own ρ4)
          | none => .stuck
        | _ => .stuck
      else .ok none (dropE own ρ2)
    | _ => .stuck := rfl
theorem lcL_turn {c : Option (Nat × List D)} {T : Tgt} {t : TS'} {f : ES} {own : List Nat} {d : D} {ds acc : List D} {ρ ρ' : En} {r : Option D} (h : lturn T t f own d ρ = .ok r ρ') (hc : lcC c own ρ') : lcL c T t f own (d :: ds) acc ρ = lcL c T t f own ds (acc ++ r.toList) ρ' := by
  unfold lturn at h
  rw [lcL]
  cases e1 : T.put d ρ with
  | none => rw [e1] at h; cases h
  | some ρ1 =>
    rw [e1] at h
    simp only at h ⊢
    cases e2 : t ρ1 with
    | ok b ρ2 =>
      rw [e2] at h
      simp only at h ⊢
      cases b with
      | false =>
        simp only [Bool.false_eq_true, if_false, Out.ok.injEq] at h ⊢
        obtain ⟨rfl, rfl⟩ := h
        rw [if_pos hc]
        simp
      | true =>
        simp only [if_true] at h ⊢
        cases e3 : f ρ2 with
        | ok p ρ3 =>
          rw [e3] at h
          simp only at h ⊢
          cases e4 : give ρ3 p with
          | none => rw [e4] at h; cases h
          | some x =>
            obtain ⟨e, ρ4⟩ := x
            rw [e4] at h
            simp only [Out.ok.injEq] at h ⊢
            obtain ⟨rfl, rfl⟩ := h
            rw [if_pos hc]
            rfl
        | _ => rw [e3] at h; cases h
    | _ => rw [e2] at h; cases h
theorem lcL_map {α : Type} {f : α → D} {c : Option (Nat × List D)} {T : Tgt} {t : TS'} {g : ES} {own : List Nat} {ρ : En} (r : α → Option D) (hc : lcC c own ρ) : ∀ (xs : List α) (acc : List D), (∀ x ∈ xs, lturn T t g own (f x) ρ = .ok (r x) ρ) → lcL c T t g own (xs.map f) acc ρ = .ok (acc ++ xs.filterMap r) ρ
  | [], acc, _ => by simp [lcL]
  | x :: xs, acc, h => by
    rw [List.map_cons, lcL_turn (h x List.mem_cons_self) hc, lcL_map r hc xs _ fun y hy => h y (List.mem_cons_of_mem _ hy), List.filterMap_cons]
    cases r x <;> simp
theorem lcW_map {α : Type} {f : α → D} {c : Option (Nat × List D)} {T : Tgt} {t : TS'} {g : ES} {own : List Nat} {ρ : En} (r : α → Option D) (xs : List α) (hc : lcC c own (dropE own ρ)) (h : ∀ x ∈ xs, lturn T t g own (f x) (dropE own ρ) = .ok (r x) (dropE own ρ)) :
    lcW c T t g own (xs.map f) ρ = .ok (xs.filterMap r) (restE ρ own (dropE own ρ)) := by
  unfold lcW
  rw [if_pos hc, lcL_map r hc xs [] h]
  simp
theorem fm_map {α β : Type} (e : α → β) (xs : List α) : xs.filterMap (fun x => some (e x)) = xs.map e := by
  induction xs with
  | nil => rfl
  | cons x xs ih => simp [ih]
theorem fm_filter {α β : Type} (c : α → Bool) (e : α → β) (xs : List α) : xs.filterMap (fun x => if c x = true then some (e x) else none) = (xs.filter c).map e := by
  induction xs with
  | nil => rfl
  | cons x xs ih =>
    rw [List.filterMap_cons, List.filter_cons]
    cases c x <;> simp [ih]
/-- [e for x in xs] -/
theorem lc_all {α : Type} {f : α → D} {c : Option (Nat × List D)} {T : Tgt} {t : TS'} {g : ES} {own : List Nat} {ρ : En} (e : α → D) (xs : List α) (hc : lcC c own (dropE own ρ)) (h : ∀ x ∈ xs, lturn T t g own (f x) (dropE own ρ) = .ok (some (e x)) (dropE own ρ)) :
    lcW c T t g own (xs.map f) ρ = .ok (xs.map e) (restE ρ own (dropE own ρ)) := by
  rw [lcW_map (fun x => some (e x)) xs hc h, fm_map]
/-- [e for x in xs if c] -/
theorem lc_if {α : Type} {f : α → D} {c : Option (Nat × List D)} {T : Tgt} {t : TS'} {g : ES} {own : List Nat} {ρ : En} (k : α → Bool) (e : α → D) (xs : List α) (hc : lcC c own (dropE own ρ)) (h : ∀ x ∈ xs, lturn T t g own (f x) (dropE own ρ) = .ok (if k x = true then some (e x) else none) (dropE own ρ)) :
    lcW c T t g own (xs.map f) ρ = .ok ((xs.filter k).map e) (restE ρ own (dropE own ρ)) := by
  rw [lcW_map (fun x => if k x = true then some (e x) else none) xs hc h, fm_filter]
@[simp] theorem restE_nil (ρ0 ρ : En) : restE ρ0 [] ρ = ρ := rfl
@[simp] theorem restE_cons (ρ0 : En) (i : Nat) (is : List Nat) (ρ : En) : restE ρ0 (i :: is) ρ = match ρ[i]? with | some none => restE ρ0 is (rest1 ρ0 i ρ) | _ => restE ρ0 is ρ := rfl
@[simp] theorem rest1_ap (ρ0 : En) (i : Nat) (ρ : En) : rest1 ρ0 i ρ = match ρ0[i]? with | some (some (false, .val d)) => ρ.set i (some (false, .val d)) | _ => ρ := rfl
@[simp] theorem lcC_ap (c : Option (Nat × List D)) (own : List Nat) (ρ : En) : lcC c own ρ = (chkE c ρ ∧ ∀ i ∈ own, ρ[i]? = some none) := rfl
end Eng
/-! Loops that may hand back; further operations. -/
namespace Eng
open PySem PySem.Spec L2
open PyProof.Rows hiding St
@[simp] theorem isB_ap (a b : Bool) : isB (.val (.bool a)) (.val (.bool b)) = some (.val (.bool (decide (a = b)))) := rfl
@[simp] theorem isnotB_ap (a b : Bool) : isnotB (.val (.bool a)) (.val (.bool b)) = some (.val (.bool (!decide (a = b)))) := rfl
@[simp] theorem revO_tup (ds : List D) : revO (.val (.tuple ds)) = some (.val (.tuple ds.reverse)) := rfl
@[simp] theorem revO_lst (ds : List D) : revO (.lst ds) = some (.lst ds.reverse) := rfl
@[simp] theorem revO_list (ds : List D) : revO (.val (.list ds)) = some (.lst ds.reverse) := rfl
@[simp] theorem maxS_int (i j : Int) : maxS (.val (.int i)) (.val (.int j)) = some (.val (.int (if j > i then j else i))) := rfl
@[simp] theorem minS_int (i j : Int) : minS (.val (.int i)) (.val (.int j)) = some (.val (.int (if j < i then j else i))) := rfl
@[simp] theorem setS_lst (ds : List D) (i : Int) (d : D) : setS (.lst ds) (.int i) d = match ixN ds.length i with | some j => some (.lst (ds.set j d)) | none => none := rfl
theorem forLc_turn {c : Option (Nat × List D)} {T : Tgt} {fg : List Nat} {b : SS} {d : D} {ds : List D} {ρ ρ2 : En} (h : turn T fg b d ρ = .nx ρ2) (hc : chkE c ρ2) : forL c T fg b (d :: ds) ρ = forL c T fg b ds ρ2 := by
  unfold turn at h
  rw [forL]
  cases e : T.put d ρ with
  | none => rw [e] at h; cases h
  | some ρ1 =>
    rw [e] at h
    simp only at h ⊢
    cases eb : b ρ1 with
    | nx ρ3 => rw [eb] at h; cases h; simp [hc]
    | ct ρ3 => rw [eb] at h; cases h; simp [hc]
    | _ => rw [eb] at h; cases h
theorem forLc_ret {c : Option (Nat × List D)} {T : Tgt} {fg : List Nat} {b : SS} {d : D} {ds : List D} {ρ ρ2 : En} {o : O} (h : turn T fg b d ρ = .rt o ρ2) : forL c T fg b (d :: ds) ρ = .rt o ρ2 := by
  unfold turn at h
  rw [forL]
  cases e : T.put d ρ with
  | none => rw [e] at h; cases h
  | some ρ1 =>
    rw [e] at h
    simp only at h ⊢
    cases eb : b ρ1 with
    | rt o' ρ3 => rw [eb] at h; cases h; rfl
    | _ => rw [eb] at h; cases h
/-- a loop all of whose turns go on, over a list that may stand in a name -/
theorem forLc_map {α σ : Type} {f : α → D} {T : Tgt} {fg : List Nat} {b : SS} (c : Option (Nat × List D)) (enc : σ → En) (step : σ → α → σ) (I : σ → Prop) (hc : ∀ s, chkE c (enc s)) : ∀ (xs : List α) (s : σ), I s →
    (∀ s x, x ∈ xs → I s → turn T fg b (f x) (enc s) = .nx (enc (step s x)) ∧ I (step s x)) → forL c T fg b (xs.map f) (enc s) = .nx (enc (xs.foldl step s)) ∧ I (xs.foldl step s)
  | [], s, hs, _ => ⟨rfl, hs⟩
  | x :: xs, s, hs, h => by
    obtain ⟨h1, h2⟩ := h s x List.mem_cons_self hs
    rw [List.map_cons, forLc_turn h1 (hc _), List.foldl_cons]
    exact forLc_map c enc step I hc xs (step s x) h2 fun s y hy => h s y (List.mem_cons_of_mem _ hy)
end Eng
/-! Texts, lists of texts, rows, books: the readings over typed things. -/
namespace Eng
open PySem PySem.Spec L2
open PyProof.Rows hiding St

abbrev Row := Str × List Str
def eW (ws : List Str) : D := .tuple (ws.map PyData.str)
def eRow (r : Row) : D := .tuple [.str r.1, eW r.2]
def eBk (b : List Row) : D := .tuple (b.map eRow)
def kd (ws : List Str) : List (D × D) := ws.map fun w => (.str w, .bool true)
def sortT (ws : List Str) : List Str := ws.mergeSort leT

theorem any_strs (ws : List Str) (x : Str) : ((ws.map PyData.str).any fun y => PyData.eqv y (.str x)) = decide (x ∈ ws) := by
  induction ws with
  | nil => rfl
  | cons w ws ih =>
    rw [List.map_cons, List.any_cons, ih, eqv_str]
    by_cases h : x = w
    · simp [h]
    · have : ¬ w = x := fun e => h e.symm
      simp [h, this]
theorem all_strs (ws : List Str) : (ws.map PyData.str).all isStrD = true := by
  simp [isStrD]
theorem hasS_strs (x : Str) (ws : List Str) (o : O) (h : o.seq? = some (ws.map PyData.str)) (hd : ∀ es, o ≠ .dic es) (hs : ∀ z, o ≠ .val (.str z)) : hasS (.val (.str x)) o = some (decide (x ∈ ws)) := by
  unfold hasS
  split
  · exact absurd rfl (hd _)
  · exact absurd rfl (hs _)
  · cases h
  · simp only [view_val, h, isStrD, all_strs, Bool.and_self, Bool.true_or, if_true, any_strs]
@[simp] theorem inS_lst (x : Str) (ws : List Str) : inS (.val (.str x)) (.lst (ws.map PyData.str)) = some (.val (.bool (decide (x ∈ ws)))) := by
  unfold inS
  rw [hasS_strs x ws _ rfl (by simp) (by simp)]
  rfl
@[simp] theorem inS_tup (x : Str) (ws : List Str) : inS (.val (.str x)) (.val (.tuple (ws.map PyData.str))) = some (.val (.bool (decide (x ∈ ws)))) := by
  unfold inS
  rw [hasS_strs x ws _ rfl (by simp) (by simp)]
  rfl
@[simp] theorem inS_list (x : Str) (ws : List Str) : inS (.val (.str x)) (.val (.list (ws.map PyData.str))) = some (.val (.bool (decide (x ∈ ws)))) := by
  unfold inS
  rw [hasS_strs x ws _ rfl (by simp) (by simp)]
  rfl
@[simp] theorem notinS_lst (x : Str) (ws : List Str) : notinS (.val (.str x)) (.lst (ws.map PyData.str)) = some (.val (.bool (!decide (x ∈ ws)))) := by
  unfold notinS
  rw [hasS_strs x ws _ rfl (by simp) (by simp)]
  rfl
@[simp] theorem notinS_tup (x : Str) (ws : List Str) : notinS (.val (.str x)) (.val (.tuple (ws.map PyData.str))) = some (.val (.bool (!decide (x ∈ ws)))) := by
  unfold notinS
  rw [hasS_strs x ws _ rfl (by simp) (by simp)]
  rfl
@[simp] theorem notinS_list (x : Str) (ws : List Str) : notinS (.val (.str x)) (.val (.list (ws.map PyData.str))) = some (.val (.bool (!decide (x ∈ ws)))) := by
  unfold notinS
  rw [hasS_strs x ws _ rfl (by simp) (by simp)]
  rfl
@[simp] theorem hasS_nil (x : Str) : inS (.val (.str x)) (.lst []) = some (.val (.bool false)) := inS_lst x []
@[simp] theorem notinS_nil (x : Str) : notinS (.val (.str x)) (.lst []) = some (.val (.bool true)) := notinS_lst x []
/-! ### dicts whose keys are texts -/
/-- a dict with text keys -/
def sd {β : Type} (f : β → D) (es : List (Str × β)) : List (D × D) := es.map fun e => (.str e.1, f e.2)
theorem dOk_sd {β : Type} (f : β → D) (es : List (Str × β)) (x : Str) : dOk (sd f es) (.str x) = true := by
  simp [dOk, sd, keyOf]
theorem dhas_sd {β : Type} (f : β → D) (es : List (Str × β)) (x : Str) : dhas (sd f es) (.str x) = decide (x ∈ es.map (·.1)) := by
  unfold dhas sd
  rw [List.any_map, ← any_strs, List.map_map, List.any_map]
  rfl
theorem dOk_kd (ws : List Str) (x : Str) : dOk (kd ws) (.str x) = true := by
  simp [dOk, kd, keyOf]
theorem dhas_kd (ws : List Str) (x : Str) : dhas (kd ws) (.str x) = decide (x ∈ ws) := by
  unfold dhas kd
  rw [List.any_map, ← any_strs, List.any_map]
  rfl
theorem dput_kd (ws : List Str) (x : Str) : dput (kd ws) (.str x) (.bool true) = kd (addT ws x) := by
  unfold dput addT
  rw [dhas_kd]
  by_cases h : x ∈ ws
  · simp only [h, decide_true, if_true]
    unfold kd
    rw [List.map_map]
    refine List.map_congr_left fun w hw => ?_
    simp only [Function.comp]
    split <;> rfl
  · simp only [h, decide_false, Bool.false_eq_true, if_false]
    unfold kd
    rw [List.map_append]
    rfl
@[simp] theorem inS_kd (x : Str) (ws : List Str) : inS (.val (.str x)) (.dic (kd ws)) = some (.val (.bool (decide (x ∈ ws)))) := by
  unfold inS hasS
  simp only [dOk_kd, dhas_kd, if_true]
  rfl
@[simp] theorem notinS_kd (x : Str) (ws : List Str) : notinS (.val (.str x)) (.dic (kd ws)) = some (.val (.bool (!decide (x ∈ ws)))) := by
  unfold notinS hasS
  simp only [dOk_kd, dhas_kd, if_true]
  rfl
theorem len_kd (ws : List Str) : (kd ws).length = ws.length := by simp [kd]
@[simp] theorem setS_kd (x : Str) (ws : List Str) : setS (.dic (kd ws)) (.str x) (.bool true) = if ws.length < sizeLine then some (.dic (kd (addT ws x))) else none := by
  unfold setS
  simp only [dOk_kd, dput_kd, len_kd, true_and]
theorem kd_nil : kd [] = [] := rfl
/-! ### sorted texts -/
theorem sortOk_strs (ws : List Str) : sortOk (ws.map PyData.str) = decide (ws.length ≤ sizeLine) := by
  unfold sortOk
  have h1 : ((ws.map PyData.str).all fun d => (ws.map PyData.str).all fun e => PySem.W.alike d e) = true := by
    simp [PySem.W.alike]
  have h2 : ((ws.map PyData.str).all noTup) = true := by simp [noTup]
  have h3 : ((ws.map PyData.str).all fun d => decide (d.depth ≤ 32)) = true := by simp [PyData.depth]
  rw [h1, h2, h3]
  simp
theorem sortS_seq (o : O) (ws : List Str) (h : o.seq? = some (ws.map PyData.str)) (hd : ∀ es, o ≠ .dic es) (hs : ∀ z, o ≠ .set z) : sortS o = if ws.length ≤ sizeLine then some (.lst ((sortT ws).map PyData.str)) else none := by
  unfold sortS
  split
  · exact absurd rfl (hd _)
  · exact absurd rfl (hs _)
  · cases h
  · rw [h]
    simp only [sortOk_strs, sortD_strs, decide_eq_true_eq]
    rfl
@[simp] theorem sortS_lst (ws : List Str) : sortS (.lst (ws.map PyData.str)) = if ws.length ≤ sizeLine then some (.lst ((sortT ws).map PyData.str)) else none := sortS_seq _ ws rfl (by simp) (by simp)
@[simp] theorem sortS_list (ws : List Str) : sortS (.val (.list (ws.map PyData.str))) = if ws.length ≤ sizeLine then some (.lst ((sortT ws).map PyData.str)) else none := sortS_seq _ ws rfl (by simp) (by simp)
@[simp] theorem sortS_tup (ws : List Str) : sortS (.val (.tuple (ws.map PyData.str))) = if ws.length ≤ sizeLine then some (.lst ((sortT ws).map PyData.str)) else none := sortS_seq _ ws rfl (by simp) (by simp)
@[simp] theorem sortS_set (ws : List Str) : sortS (.set ws) = if ws.length ≤ sizeLine then some (.lst ((sortT ws).map PyData.str)) else none := by
  unfold sortS
  simp only [sortOk_strs, sortD_strs, decide_eq_true_eq]
  rfl
theorem sortT_nil : sortT [] = [] := by simp [sortT]
@[simp] theorem sortS_nil : sortS (.lst []) = some (.lst []) := by
  have := sortS_lst []
  simpa [sortT_nil] using this
@[simp] theorem sortS_sd {β : Type} (f : β → D) (es : List (Str × β)) : sortS (.dic (sd f es)) = if es.length ≤ sizeLine then some (.lst ((sortT (es.map (·.1))).map PyData.str)) else none := by
  unfold sortS
  have h : (sd f es).map (·.1) = (es.map (·.1)).map PyData.str := by simp [sd]
  have h1 : ((sd f es).all fun e => (keyOf e.1).isSome) = true := by simp [sd, keyOf]
  simp only [h, h1, Bool.true_and, sortOk_strs, sortD_strs, decide_eq_true_eq, List.length_map]
  rfl
@[simp] theorem sortS_kd (ws : List Str) : sortS (.dic (kd ws)) = if ws.length ≤ sizeLine then some (.lst ((sortT ws).map PyData.str)) else none := by
  unfold sortS
  have h : (kd ws).map (·.1) = ws.map PyData.str := by simp [kd]
  have h1 : ((kd ws).all fun e => (keyOf e.1).isSome) = true := by simp [kd, keyOf]
  simp only [h, h1, Bool.true_and, sortOk_strs, sortD_strs, decide_eq_true_eq]
  rfl
theorem mem_sortT {ws : List Str} {x : Str} : x ∈ sortT ws ↔ x ∈ ws := (List.mergeSort_perm ws leT).mem_iff
theorem len_sortT (ws : List Str) : (sortT ws).length = ws.length := List.length_mergeSort ws
theorem sortT_nodup {ws : List Str} (h : ws.Nodup) : (sortT ws).Nodup := (List.mergeSort_perm ws leT).nodup_iff.mpr h
/-- two lists without doubles and with the same members are sorted alike -/
theorem sortT_ext {xs ys : List Str} (hx : xs.Nodup) (hy : ys.Nodup) (h : ∀ w, w ∈ xs ↔ w ∈ ys) : sortT xs = sortT ys := by
  have p : xs.Perm ys := (List.perm_ext_iff_of_nodup hx hy).mpr h
  exact one_order leT_anti (((List.mergeSort_perm xs leT).trans p).trans (List.mergeSort_perm ys leT).symm) (sortT_pairwise xs) (sortT_pairwise ys)
/-! ### sets -/
theorem setC_seq (o : O) (ws : List Str) (h : o.seq? = some (ws.map PyData.str)) : setC o = if ws.length + 1 < scanBound then some (.set (metT ws)) else none := by
  unfold setC
  rw [h]
  simp only [Option.bind_some, asStrs_map]
@[simp] theorem setC_lst (ws : List Str) : setC (.lst (ws.map PyData.str)) = if ws.length + 1 < scanBound then some (.set (metT ws)) else none := setC_seq _ ws rfl
@[simp] theorem setC_list (ws : List Str) : setC (.val (.list (ws.map PyData.str))) = if ws.length + 1 < scanBound then some (.set (metT ws)) else none := setC_seq _ ws rfl
@[simp] theorem setC_tup (ws : List Str) : setC (.val (.tuple (ws.map PyData.str))) = if ws.length + 1 < scanBound then some (.set (metT ws)) else none := setC_seq _ ws rfl
@[simp] theorem lenS_set (ws : List Str) : lenS (.set ws) = some (.val (.int ws.length)) := rfl
theorem len_addT (xs : List Str) (k : Str) : (addT xs k).length ≤ xs.length + 1 := by
  unfold addT
  split <;> simp
theorem len_foldT : ∀ (ys xs : List Str), (ys.foldl addT xs).length ≤ xs.length + ys.length
  | [], xs => by simp
  | y :: ys, xs => by
    have h1 := len_foldT ys (addT xs y)
    have h2 := len_addT xs y
    simp only [List.foldl_cons, List.length_cons]
    omega
theorem len_metT (ys : List Str) : (metT ys).length ≤ ys.length := by
  have := len_foldT ys []
  simpa [metT] using this
/-! ### loops -/
theorem forL_ix {α : Type} {f : α → D} {T : Tgt} {fg : List Nat} {b : SS} (I : List α → En → Prop) (ys : List α) (hs : ∀ done x rest ρ, ys = done ++ x :: rest → I done ρ → ∃ ρ', turn T fg b (f x) ρ = .nx ρ' ∧ I (done ++ [x]) ρ') : ∀ (xs done : List α) (ρ : En), ys = done ++ xs → I done ρ →
    ∃ ρ', forL none T fg b (xs.map f) ρ = .nx ρ' ∧ I ys ρ'
  | [], done, ρ, hy, h => ⟨ρ, rfl, by simpa [hy] using h⟩
  | x :: xs, done, ρ, hy, h => by
    obtain ⟨ρ1, h1, h2⟩ := hs done x xs ρ hy h
    obtain ⟨ρ2, h3, h4⟩ := forL_ix I ys hs xs (done ++ [x]) ρ1 (by simpa using hy) h2
    exact ⟨ρ2, by rw [List.map_cons, forL_turn, h1]; exact h3, h4⟩
/-- a for over items: what holds after so many of them -/
theorem forL_all {α : Type} {f : α → D} {T : Tgt} {fg : List Nat} {b : SS} (I : List α → En → Prop) (xs : List α) (ρ : En) (h0 : I [] ρ) (hs : ∀ done x rest ρ, xs = done ++ x :: rest → I done ρ → ∃ ρ', turn T fg b (f x) ρ = .nx ρ' ∧ I (done ++ [x]) ρ') :
    ∃ ρ', forL none T fg b (xs.map f) ρ = .nx ρ' ∧ I xs ρ' := forL_ix I xs hs xs [] ρ rfl h0
theorem forL_rng_ix {lo : Int} {T : Tgt} {fg : List Nat} {b : SS} (I : Nat → En → Prop) (n : Nat) (hs : ∀ k ρ, k < n → I k ρ → ∃ ρ', turn T fg b (.int (lo + (k : Nat))) ρ = .nx ρ' ∧ I (k + 1) ρ') : ∀ (m k : Nat) (ρ : En), k + m = n → I k ρ →
    ∃ ρ', forL none T fg b ((List.range' k m).map fun k => .int (lo + (k : Nat))) ρ = .nx ρ' ∧ I n ρ'
  | 0, k, ρ, hy, h => ⟨ρ, rfl, by simpa [← hy] using h⟩
  | m + 1, k, ρ, hy, h => by
    obtain ⟨ρ1, h1, h2⟩ := hs k ρ (by omega) h
    obtain ⟨ρ2, h3, h4⟩ := forL_rng_ix I n hs m (k + 1) ρ1 (by omega) h2
    exact ⟨ρ2, by rw [List.range'_succ, List.map_cons, forL_turn, h1]; exact h3, h4⟩
/-- for k in range(..): what holds after k turns -/
theorem forL_rng {lo : Int} {T : Tgt} {fg : List Nat} {b : SS} (I : Nat → En → Prop) (n : Nat) (ρ : En) (h0 : I 0 ρ) (hs : ∀ k ρ, k < n → I k ρ → ∃ ρ', turn T fg b (.int (lo + (k : Nat))) ρ = .nx ρ' ∧ I (k + 1) ρ') :
    ∃ ρ', forL none T fg b (rng lo n) ρ = .nx ρ' ∧ I n ρ' := by
  have := forL_rng_ix I n hs n 0 ρ (by omega) h0
  unfold rng
  rw [List.range_eq_range']
  exact this
@[simp] theorem lcE_some (T : Tgt) (t : TS') (f : ES) (own : List Nat) (j : Nat) (ds : List D) (ρ : En) : lcE T t f own (some j, ds) ρ = match ρ[j]? with
    | some (some (true, _)) => (lcW (some (j, ds)) T t f own ds ρ).bind fun acc ρ2 => .ok (.tmp (.lst acc)) ρ2
    | some (some (false, o)) => (lcW (some (j, ds)) T t f own ds (ρ.set j (some (true, o)))).bind fun acc ρ2 => .ok (.tmp (.lst acc)) (unpin j ρ2)
    | _ => .stuck := rfl
@[simp] theorem forW_some (T : Tgt) (fg : List Nat) (b : SS) (j : Nat) (ds : List D) (ρ : En) : forW T fg b (some j, ds) ρ = match ρ[j]? with
    | some (some (true, _)) => forL (some (j, ds)) T fg b ds ρ
    | some (some (false, o)) => unpS j (forL (some (j, ds)) T fg b ds (ρ.set j (some (true, o))))
    | _ => .stuck := rfl
@[simp] theorem atI_zero {α : Type} (x : α) (xs : List α) : atI (x :: xs) 0 = some x := by
  rw [atI_nat' _ _ (by omega) (by simp)]
  rfl
@[simp] theorem atI_one {α : Type} (x y : α) (xs : List α) : atI (x :: y :: xs) 1 = some y := by
  rw [atI_nat' _ _ (by omega) (by simp; omega)]
  rfl
@[simp] theorem slS_str (z : Str) (lo hi : Option Int) : slS lo hi (.val (.str z)) = if z.length ≤ sizeLine then some (.val (.str (cutS z lo hi))) else none := rfl
@[simp] theorem slS_tup (ds : List D) (lo hi : Option Int) : slS lo hi (.val (.tuple ds)) = some (.val (.tuple (cutA ds lo hi))) := rfl
@[simp] theorem slS_lst (ds : List D) (lo hi : Option Int) : slS lo hi (.lst ds) = some (.lst (cutA ds lo hi)) := rfl
@[simp] theorem slS_list (ds : List D) (lo hi : Option Int) : slS lo hi (.val (.list ds)) = some (.lst (cutA ds lo hi)) := rfl
/-! ### the end of a def -/
def finO (os : List O) (so : SOut) : FOut := match so with
  | .nx ρ => (match fins os ρ with | some fin => .ret (.val .none) fin | none => .stuck)
  | .rt o ρ => (match fins os ρ with | some fin => .ret o fin | none => .stuck)
  | .exc c ρ => (match fins os ρ with | some fin => .exc c fin | none => .stuck)
  | _ => .stuck
theorem runF_fin (n : Nat) (b : SS) (os : List O) : runF n b os = finO os (b (startE n os)) := rfl
@[simp] theorem finO_nx (os : List O) (ρ : En) : finO os (.nx ρ) = (match fins os ρ with | some fin => .ret (.val .none) fin | none => .stuck) := rfl
@[simp] theorem finO_rt (os : List O) (o : O) (ρ : En) : finO os (.rt o ρ) = (match fins os ρ with | some fin => .ret o fin | none => .stuck) := rfl
@[simp] theorem finO_exc (os : List O) (c : Nat) (ρ : En) : finO os (.exc c ρ) = (match fins os ρ with | some fin => .exc c fin | none => .stuck) := rfl
end Eng
/-! The laws' makers of books: what they tell. -/
namespace Eng
open PySem PySem.Spec L2 SX
open PyProof.Rows hiding St
/-- the draws of a cell -/
def Dr (n : Nat) (ds : List Int) : Prop := ds.length = n ∧ ∀ d ∈ ds, 0 ≤ d ∧ d < 4096
def dat (ds : List Int) (i : Int) : Int := ds[i.toNat]?.getD 0
theorem Dr.at {n : Nat} {ds : List Int} (h : Dr n ds) (i : Int) (h0 : 0 ≤ i) (h1 : i < n) : atI (ds.map PyData.int) i = some (.int (dat ds i)) ∧ 0 ≤ dat ds i ∧ dat ds i < 4096 := by
  have hl : i.toNat < ds.length := by have := h.1; omega
  have e : dat ds i = ds[i.toNat] := by simp [dat, hl]
  rw [e]
  refine ⟨?_, h.2 _ (List.getElem_mem hl)⟩
  rw [atI_map, atI_nat' _ _ h0 (by have := h.1; omega), List.getElem?_eq_getElem hl]
  rfl
/-! ### words -/
/-- one to eight small letters -/
def Stem (l : List Nat) : Prop := 1 ≤ l.length ∧ l.length ≤ 8 ∧ ∀ c ∈ l, 97 ≤ c ∧ c ≤ 122
/-- a word: a stem, alone or with a number from 2 to 99 -/
def WW (w : Str) : Prop := ∃ l, Stem l ∧ (w = S l ∨ ∃ n : Nat, 2 ≤ n ∧ n ≤ 99 ∧ w = S (l ++ 47 :: TL.numL n))
theorem numL_len {n : Nat} (h : n ≤ 99) : (TL.numL n).length ≤ 2 := by
  by_cases h' : n < 10
  · rw [TL.numL_lt h']; simp
  · rw [TL.numL_step (by omega), TL.numL_lt (by omega)]; simp
theorem slash : (Str.ofString "/") = S [47] := by decide +kernel
theorem abc : (Str.ofString "abcdefghijklmnopqrstuvwxyz") = S ((List.range 26).map (97 + ·)) := by decide +kernel
theorem nostr : (Str.ofString "") = S [] := by decide +kernel
theorem Stem.no47 {l : List Nat} (h : Stem l) : 47 ∉ l := fun hm => by have := h.2.2 _ hm; omega
theorem num_no47 (n : Nat) : 47 ∉ TL.numL n := fun hm => by
  have := TL.numL_digits n 47 hm
  revert this
  decide
theorem WW.len {w : Str} (h : WW w) : w.length ≤ 11 ∧ 1 ≤ w.length := by
  obtain ⟨l, hl, rfl | ⟨n, h2, h9, rfl⟩⟩ := h
  · rw [S_len]; exact ⟨Nat.le_trans hl.2.1 (by decide), hl.1⟩
  · have := numL_len h9
    have := hl.1
    have := hl.2.1
    rw [S_len, List.length_append, List.length_cons]
    omega
theorem split_stem {l : List Nat} (h : Stem l) : Txt.split (S l) (Str.ofString "/") = [S l] := by
  rw [slash, split_S (by simp) (by decide), TL.spl_last1 h.no47]
  rfl
theorem split_sense {l : List Nat} (h : Stem l) (n : Nat) : Txt.split (S (l ++ 47 :: TL.numL n)) (Str.ofString "/") = [S l, S (TL.numL n)] := by
  have e := TL.spl_part1 (S := []) (p := l) (rest := TL.numL n) (acc := []) h.no47
  have e2 := TL.spl_last1 (S := []) (acc := []) (num_no47 n)
  rw [slash, split_S (by simp) (by decide)]
  rw [show l ++ 47 :: TL.numL n = l ++ ([47] ++ TL.numL n) by simp, e, e2]
  rfl
theorem WW.split {w : Str} (h : WW w) : ∃ l r, Stem l ∧ Txt.split w (Str.ofString "/") = S l :: r := by
  obtain ⟨l, hl, rfl | ⟨n, h2, h9, rfl⟩⟩ := h
  · exact ⟨l, [], hl, split_stem hl⟩
  · exact ⟨l, [S (TL.numL n)], hl, split_sense hl n⟩
theorem abc_at {i : Int} (h0 : 0 ≤ i) (h1 : i < 26) : atI (Str.ofString "abcdefghijklmnopqrstuvwxyz").cps.toList i = some (97 + i.toNat) := by
  have e : (Str.ofString "abcdefghijklmnopqrstuvwxyz").cps.toList = (List.range 26).map (97 + ·) := by rw [abc]
  rw [e, atI_nat' _ _ h0 (by simpa using h1), List.getElem?_map, List.getElem?_range (by omega)]
  rfl
theorem abc_len : (Str.ofString "abcdefghijklmnopqrstuvwxyz").length = 26 := by rw [abc, S_len]; rfl
theorem joinL_ones : ∀ l : List Nat, TL.joinL [] (l.map fun c => [c]) = l
  | [] => rfl
  | [c] => rfl
  | c :: d :: l => by
    have := joinL_ones (d :: l)
    simp only [List.map_cons] at this ⊢
    rw [TL.joinL, this]
    rfl
theorem join_ones (l : List Nat) : Txt.join (Str.ofString "") (l.map fun c => S [c]) = S l := by
  have := join_S [] (l.map fun c => [c])
  rw [List.map_map, joinL_ones] at this
  rw [nostr]
  exact this
theorem sub_len {α : Type} [DecidableEq α] : ∀ {xs ys : List α}, xs.Nodup → (∀ x ∈ xs, x ∈ ys) → xs.length ≤ ys.length
  | [], _, _, _ => Nat.zero_le _
  | x :: xs, ys, h, hs => by
    have hx : x ∈ ys := hs x List.mem_cons_self
    have h1 := List.nodup_cons.mp h
    have := sub_len (xs := xs) (ys := ys.erase x) h1.2 fun y hy => (List.mem_erase_of_ne fun (e : y = x) => h1.1 (e ▸ hy)).mpr (hs y (List.mem_cons_of_mem _ hy))
    rw [List.length_erase_of_mem hx] at this
    have := List.length_pos_of_mem hx
    simp only [List.length_cons]
    omega
theorem cat_slash (l : List Nat) (n : Nat) : S l ++ Str.ofString "/" ++ S (TL.numL n) = S (l ++ 47 :: TL.numL n) := by
  rw [slash, S_cat, S_cat]
  simp
theorem sum_ones {α : Type} : ∀ xs : List α, (xs.map fun _ => 1).sum = xs.length
  | [] => rfl
  | x :: xs => by
    rw [List.map_cons, List.sum_cons, sum_ones xs, List.length_cons]
    omega
end Eng
/-! The laws' makers of books, II: names, told words, books. -/
namespace Eng
open PySem PySem.Spec L2 SX
open PyProof.Rows hiding St
theorem small {n m : Nat} (h : n ≤ m) (hm : m < sizeLine := by decide) : n < sizeLine := Nat.lt_of_le_of_lt h hm
/-- words told: nought to eight of these, no two alike -/
def Td (ns ws : List Str) : Prop := ws.length ≤ 8 ∧ ws.Nodup ∧ ∀ w ∈ ws, w ∈ ns
theorem at_strs {ns : List Str} {i : Int} (h0 : 0 ≤ i) (h1 : i < ns.length) : ∃ w, atI (ns.map PyData.str) i = some (.str w) ∧ w ∈ ns := by
  have hl : i.toNat < ns.length := by omega
  refine ⟨ns[i.toNat], ?_, List.getElem_mem hl⟩
  rw [atI_map, atI_nat' _ _ h0 h1, List.getElem?_eq_getElem hl]
  rfl
end Eng
/-! The laws' makers of books, III: rows as keys, books. -/
namespace Eng
open PySem PySem.Spec L2 SX
open PyProof.Rows hiding St
theorem eqvAll_strs (a b : List Str) : PyData.eqvAll (a.map PyData.str) (b.map PyData.str) = decide (a = b) := by
  induction a generalizing b with
  | nil => cases b <;> simp [PyData.eqvAll]
  | cons x a ih =>
    cases b with
    | nil => simp [PyData.eqvAll]
    | cons y b =>
      simp only [List.map_cons, PyData.eqvAll, PyData.eqv, ih]
      by_cases h : x = y
      · by_cases h2 : a = b <;> simp [h, h2]
      · simp [h]
theorem eqv_eW (a b : List Str) : PyData.eqv (eW a) (eW b) = decide (a = b) := by
  simp only [eW, PyData.eqv, eqvAll_strs]
theorem eqv_row (r s : Row) : PyData.eqv (eRow r) (eRow s) = decide (r = s) := by
  obtain ⟨x, a⟩ := r
  obtain ⟨y, b⟩ := s
  simp only [eRow, PyData.eqv, PyData.eqvAll, eqv_eW]
  by_cases h : x = y
  · by_cases h2 : a = b <;> simp [h, h2]
  · simp [h]
theorem nkeys_strs (ws : List Str) : nkey.nkeys (ws.map PyData.str) = some (ws.map NestedKey.text) := by
  induction ws with
  | nil => rfl
  | cons w ws ih => simp [nkey.nkeys, nkey, ih]
theorem depth_texts (ws : List Str) : NestedKey.depthAll (ws.map NestedKey.text) = 0 := by
  induction ws with
  | nil => simp [NestedKey.depthAll]
  | cons w ws ih => simp [NestedKey.depthAll, NestedKey.depth, ih]
theorem nkey_row (r : Row) : (nkOf (eRow r)).isSome = true := by
  obtain ⟨x, a⟩ := r
  unfold nkOf
  simp [eRow, eW, nkey, nkey.nkeys, nkeys_strs, NestedKey.depth, NestedKey.depthAll, depth_texts]
/-- a dict whose keys are rows -/
def rd (rs : List Row) : List (D × D) := rs.map fun r => (eRow r, .bool true)
def addR (rs : List Row) (r : Row) : List Row := if r ∈ rs then rs else rs ++ [r]
theorem dOk_rd (rs : List Row) (r : Row) : dOk (rd rs) (eRow r) = true := by
  simp [dOk, rd, nkey_row]
theorem dhas_rd (rs : List Row) (r : Row) : dhas (rd rs) (eRow r) = decide (r ∈ rs) := by
  unfold dhas rd
  rw [List.any_map]
  induction rs with
  | nil => simp
  | cons s rs ih =>
    rw [List.any_cons, ih]
    simp only [Function.comp, eqv_row]
    by_cases h : s = r
    · simp [h]
    · have : ¬ r = s := fun e => h e.symm
      simp [h, this]
theorem dput_rd (rs : List Row) (r : Row) : dput (rd rs) (eRow r) (.bool true) = rd (addR rs r) := by
  unfold dput addR
  rw [dhas_rd]
  by_cases h : r ∈ rs
  · simp only [h, decide_true, if_true]
    unfold rd
    rw [List.map_map]
    refine List.map_congr_left fun w hw => ?_
    simp only [Function.comp]
    split <;> rfl
  · simp only [h, decide_false, Bool.false_eq_true, if_false]
    unfold rd
    rw [List.map_append]
    rfl
@[simp] theorem inS_rd (r : Row) (rs : List Row) : inS (.val (eRow r)) (.dic (rd rs)) = some (.val (.bool (decide (r ∈ rs)))) := by
  unfold inS hasS
  simp only [dOk_rd, dhas_rd, if_true]
  rfl
@[simp] theorem notinS_rd (r : Row) (rs : List Row) : notinS (.val (eRow r)) (.dic (rd rs)) = some (.val (.bool (!decide (r ∈ rs)))) := by
  unfold notinS hasS
  simp only [dOk_rd, dhas_rd, if_true]
  rfl
theorem len_rd (rs : List Row) : (rd rs).length = rs.length := by simp [rd]
@[simp] theorem setS_rd (r : Row) (rs : List Row) : setS (.dic (rd rs)) (eRow r) (.bool true) = if rs.length < sizeLine then some (.dic (rd (addR rs r))) else none := by
  unfold setS
  simp only [dOk_rd, dput_rd, len_rd, true_and]
@[simp] theorem ixS_row0 (r : Row) : ixS (.val (eRow r)) (.val (.int 0)) = some (.val (.str r.1)) := by
  simp [eRow]
@[simp] theorem ixS_row1 (r : Row) : ixS (.val (eRow r)) (.val (.int 1)) = some (.val (eW r.2)) := by
  simp [eRow]
@[simp] theorem seq_eW (ws : List Str) : (O.val (eW ws)).seq? = some (ws.map .str) := rfl
@[simp] theorem itemsD_eW (ws : List Str) : itemsD (eW ws) = some (ws.map .str) := rfl
@[simp] theorem sortS_eW (ws : List Str) : sortS (.val (eW ws)) = if ws.length ≤ sizeLine then some (.lst ((sortT ws).map PyData.str)) else none := sortS_tup ws
@[simp] theorem inS_eW (x : Str) (ws : List Str) : inS (.val (.str x)) (.val (eW ws)) = some (.val (.bool (decide (x ∈ ws)))) := inS_tup x ws
@[simp] theorem notinS_eW (x : Str) (ws : List Str) : notinS (.val (.str x)) (.val (eW ws)) = some (.val (.bool (!decide (x ∈ ws)))) := notinS_tup x ws
@[simp] theorem lenS_eW (ws : List Str) : lenS (.val (eW ws)) = some (.val (.int ws.length)) := by simp [eW]
/-- the row with its words told sorted -/
def keyR (r : Row) : Row := (r.1, sortT r.2)
/-- a row of a book over these words -/
def Rw (ns : List Str) (r : Row) : Prop := r.1 ∈ ns ∧ Td ns r.2
/-- a book: at most so many rows, no two alike, over these words -/
structure Bk (ns : List Str) (n : Nat) (b : List Row) : Prop where
  len : b.length ≤ n
  row : ∀ r ∈ b, Rw ns r
  key : (b.map keyR).Nodup
theorem Bk.mono {ns : List Str} {n m : Nat} {b : List Row} (h : Bk ns n b) (hn : n ≤ m) : Bk ns m b := ⟨Nat.le_trans h.len hn, h.row, h.key⟩
end Eng
/-! Rounds. -/
namespace Eng
open PySem PySem.Spec L2 SX
open PyProof.Rows hiding St
/-- a book that the defs are asked about -/
structure Bo (b : List Row) : Prop where
  len : b.length ≤ 200
  row : ∀ r ∈ b, WW r.1 ∧ r.2.length ≤ 20 ∧ ∀ w ∈ r.2, WW w
theorem Bk.bo {ns : List Str} {n : Nat} {b : List Row} (h : Bk ns n b) (hn : n ≤ 200) (hw : ∀ w ∈ ns, WW w) : Bo b :=
  ⟨Nat.le_trans h.len hn, fun r hr => by
    have := h.row r hr
    exact ⟨hw _ this.1, Nat.le_trans this.2.1 (by decide), fun w h2 => hw _ (this.2.2.2 w h2)⟩⟩
@[simp] theorem itemsD_eBk (b : List Row) : itemsD (eBk b) = some (b.map eRow) := rfl
@[simp] theorem lenS_eBk (b : List Row) : lenS (.val (eBk b)) = some (.val (.int b.length)) := by simp [eBk]
@[simp] theorem Tgt_row (i j : Nat) (r : Row) (ρ : En) : (Tgt.tup [i, j]).put (eRow r) ρ = setDs [i, j] [.str r.1, eW r.2] ρ := rfl
@[simp] theorem own_eRow (r : Row) : (O.val (eRow r)).own = false := rfl
theorem allS_map {α : Type} (f : α → Bool) (xs : List α) : allS (.lst (xs.map fun x => PyData.bool (f x))) = some (.val (.bool (xs.all f))) := by
  have : (xs.map fun x => PyData.bool (f x)) = (xs.map f).map PyData.bool := by rw [List.map_map]; rfl
  rw [this]
  simp only [allS_ap, list_lst, Option.bind_some, asBools_map, Option.map_some]
  rw [List.all_map]
  rfl
theorem WW.ok {w : Str} (h : WW w) : PyData.strOk w = true := by
  have key : ∀ l : List Nat, (∀ c ∈ l, c < 200) → PyData.strOk (S l) = true := fun l hl => by
    unfold PyData.strOk
    rw [← Array.all_toList]
    simp only [List.all_eq_true, decide_eq_true_eq]
    intro c hc
    have := hl c hc
    omega
  obtain ⟨l, hl, rfl | ⟨n, h2, h9, rfl⟩⟩ := h
  · exact key l fun c hc => by have := hl.2.2 c hc; omega
  · refine key _ fun c hc => ?_
    rcases List.mem_append.mp hc with h | h
    · have := hl.2.2 c h; omega
    · rcases List.mem_cons.mp h with rfl | h
      · omega
      · have := TL.numL_digits n c h
        omega
theorem canAll_strs {ws : List Str} (h : ∀ w ∈ ws, WW w) : PyData.canLayAll0 (ws.map PyData.str) = true := by
  induction ws with
  | nil => rfl
  | cons w ws ih =>
    simp only [List.map_cons, PyData.canLayAll0, PyData.canLay0, Bool.and_eq_true]
    exact ⟨(h w List.mem_cons_self).ok, ih fun v hv => h v (List.mem_cons_of_mem _ hv)⟩
theorem depthAll_strs (ws : List Str) : PyData.depthAll (ws.map PyData.str) = 0 := by
  induction ws with
  | nil => rfl
  | cons w ws ih => simp [PyData.depthAll, PyData.depth, ih]
theorem shaped_tup {ws : List Str} (h : ∀ w ∈ ws, WW w) : SeqAt.shaped (.tuple (ws.map PyData.str)) = true := by
  unfold SeqAt.shaped
  simp [PyData.canLay0, canAll_strs h, PyData.depth, depthAll_strs]
theorem shaped_list {ws : List Str} (h : ∀ w ∈ ws, WW w) : SeqAt.shaped (.list (ws.map PyData.str)) = true := by
  unfold SeqAt.shaped
  simp [PyData.canLay0, canAll_strs h, PyData.depth, depthAll_strs]
theorem eqS_tups {a b : List Str} (ha : ∀ w ∈ a, WW w) (hb : ∀ w ∈ b, WW w) : eqS (.val (.tuple (a.map PyData.str))) (.val (.tuple (b.map PyData.str))) = some (.val (.bool (decide (a = b)))) := by
  simp only [eqS, view_val, eqD?, shaped_tup ha, shaped_tup hb, Bool.and_self, Bool.or_true, if_true, PyData.eqv, eqvAll_strs, Option.map_some]
theorem eqS_lsts {a b : List Str} (ha : ∀ w ∈ a, WW w) (hb : ∀ w ∈ b, WW w) : eqS (.lst (a.map PyData.str)) (.lst (b.map PyData.str)) = some (.val (.bool (decide (a = b)))) := by
  simp only [eqS, view_lst, eqD?, shaped_list ha, shaped_list hb, Bool.and_self, Bool.or_true, if_true, PyData.eqv, eqvAll_strs, Option.map_some]
/-! ### rounds, plainly -/
/-- the row's word is new, and what is told is known -/
def rdy (k : List Str) (r : Row) : Bool := !decide (r.1 ∈ k) && r.2.all fun w => decide (w ∈ k)
def heads (b : List Row) : List Str := b.map (·.1)
/-- the words that come next -/
def frs (b : List Row) (k : List Str) : List Str := sortT (metT (heads (b.filter (rdy k))))
def rndF (b : List Row) : Nat → List Str → List (List Str)
  | 0, _ => []
  | n + 1, k => if frs b k = [] then [] else frs b k :: rndF b n (k ++ frs b k)
/-- the rounds of a book -/
def rnd (b : List Row) : List (List Str) := rndF b (b.length + 1) []
theorem frs_mem {b : List Row} {k : List Str} {w : Str} : w ∈ frs b k ↔ ∃ r ∈ b, r.1 = w ∧ rdy k r = true := by
  unfold frs heads
  rw [mem_sortT, mem_metT, List.mem_map]
  constructor
  · rintro ⟨r, hr, rfl⟩
    rw [List.mem_filter] at hr
    exact ⟨r, hr.1, rfl, hr.2⟩
  · rintro ⟨r, hr, rfl, h⟩
    exact ⟨r, List.mem_filter.mpr ⟨hr, h⟩, rfl⟩
/-- rows whose word is not known: fewer and fewer -/
def left (b : List Row) (k : List Str) : Nat := (b.filter fun r => !decide (r.1 ∈ k)).length
end Eng
/-! Rounds: the defs. -/
namespace Eng
open PySem PySem.Spec L2 SX
open PyProof.Rows hiding St
theorem metT_snoc (xs : List Str) (x : Str) : metT (xs ++ [x]) = addT (metT xs) x := by
  unfold metT
  rw [List.foldl_append]
  rfl
/-- words that are heads of rows, none twice: what is known -/
def Kn (b : List Row) (k : List Str) : Prop := k.Nodup ∧ ∀ w ∈ k, w ∈ heads b
theorem Kn.len {b : List Row} {k : List Str} (h : Kn b k) : k.length ≤ b.length := by
  have := sub_len h.1 h.2
  unfold heads at this
  rwa [List.length_map] at this
theorem Kn.nil (b : List Row) : Kn b [] := ⟨List.nodup_nil, by simp⟩
theorem Kn.add {b : List Row} {k : List Str} {w : Str} (h : Kn b k) (hw : w ∈ heads b) : Kn b (addT k w) := ⟨addT_nodup h.1, fun v hv => by
  rcases mem_addT.mp hv with h1 | rfl
  · exact h.2 v h1
  · exact hw⟩
def eL (ws : List Str) : D := .list (ws.map PyData.str)
@[simp] theorem itemsD_eL (ws : List Str) : itemsD (eL ws) = some (ws.map .str) := rfl
@[simp] theorem list_eL (ws : List Str) : PyData.list (ws.map PyData.str) = eL ws := rfl
end Eng
/-! The law's rounds; learnt; order. -/
namespace Eng
open PySem PySem.Spec L2 SX
open PyProof.Rows hiding St
/-! ### what the rounds are -/
end Eng
/-! Orders. -/
namespace Eng
open PySem PySem.Spec L2 SX
open PyProof.Rows hiding St
theorem ixS_eBk {b : List Row} {i : Nat} {r : Row} (h : b[i]? = some r) : ixS (.val (eBk b)) (.val (.int (i : Int))) = some (.val (eRow r)) := by
  have hl : i < b.length := (List.getElem?_eq_some_iff.mp h).1
  have : atI (b.map eRow) (i : Int) = some (eRow r) := by
    rw [atI_map, atI_nat' _ _ (by omega) (by omega)]
    simp [h]
  simp [eBk, this]
/-- a step: a word, the place of a row -/
abbrev Stp := Str × Nat
theorem addT_new {k : List Str} {w : Str} (h : w ∉ k) : addT k w = k ++ [w] := by
  unfold addT
  rw [if_neg h]
/-! ### steps walked -/
def Walk (b : List Row) : List Str → List Stp → Prop
  | _, [] => True
  | k, (w, n) :: st => w ∉ k ∧ (∃ r, b[n]? = some r ∧ r.1 = w ∧ ∀ v ∈ r.2, v ∈ k) ∧ Walk b (k ++ [w]) st
theorem Walk.at {b : List Row} : ∀ {done : List Stp} {k : List Str} {w : Str} {n : Nat} {rest : List Stp}, Walk b k (done ++ (w, n) :: rest) → w ∉ k ++ done.map (·.1) ∧ ∃ r, b[n]? = some r ∧ r.1 = w ∧ ∀ v ∈ r.2, v ∈ k ++ done.map (·.1)
  | [], k, w, n, rest, h => by
    obtain ⟨r, h2, h3, h4⟩ := h.2.1
    exact ⟨by simpa using h.1, r, h2, h3, by simpa using h4⟩
  | (v, m) :: done, k, w, n, rest, h => by
    have := Walk.at (done := done) h.2.2
    simpa using this
end Eng
/-! Words of books, rows of words, wider books. -/
namespace Eng
open PySem PySem.Spec L2 SX
open PyProof.Rows hiding St
/-- all words that stand in a book, as they stand -/
def wl (b : List Row) : List Str := (b.map fun r => r.1 :: r.2).flatten
/-- all words of a book, sorted -/
def wds (b : List Row) : List Str := sortT (metT (wl b))
theorem wl_len : ∀ {b : List Row}, (∀ r ∈ b, r.2.length ≤ 20) → (wl b).length ≤ b.length * 21
  | [], _ => by simp [wl]
  | r :: b, h => by
    have h1 := h r List.mem_cons_self
    have h2 := wl_len (b := b) fun s hs => h s (List.mem_cons_of_mem _ hs)
    simp only [wl, List.map_cons, List.flatten_cons, List.length_append, List.length_cons] at h2 ⊢
    omega
theorem wl_app (a b : List Row) : wl (a ++ b) = wl a ++ wl b := by simp [wl]
theorem Bo.wl_len {b : List Row} (h : Bo b) : (wl b).length ≤ 4200 := by
  have h1 := Eng.wl_len (b := b) fun r hr => (h.row r hr).2.1
  have := h.len
  omega
theorem Bo.sub {b done rest : List Row} (h : Bo b) (e : b = done ++ rest) : Bo done := ⟨by
  have := h.len
  rw [e] at this
  simp at this
  omega, fun r hr => h.row r (by rw [e]; exact List.mem_append.mpr (.inl hr))⟩
theorem words_of_eq (b : List Row) (hb : Bo b) : f_words_of [.val (eBk b)] = .ret (.lst ((wds b).map .str)) [.val (eBk b)] := by
  obtain ⟨ρ', e, rfl⟩ := forL_all (f := eRow) (T := .tup [2, 3]) (fg := [2, 3, 4]) (b := w_words_of_1)
    (fun done ρ => ρ = [some (false, .val (eBk b)), some (false, .dic (kd (metT (wl done)))), none, none, none]) b
    [some (false, .val (eBk b)), some (false, .dic (kd [])), none, none, none] rfl (by
    rintro done r rest ρ hd rfl
    have hd1 := (hb.sub (rest := r :: rest) hd).wl_len
    have hr := (hb.row r (by rw [hd]; simp)).2.1
    obtain ⟨ρ2, e, rfl⟩ := forL_all (f := PyData.str) (T := .nm 4) (fg := [4]) (b := w_words_of_2)
      (fun d2 ρ => ρ = [some (false, .val (eBk b)), some (false, .dic (kd (metT (wl done ++ r.1 :: d2)))), some (false, .val (.str r.1)), some (false, .val (eW r.2)), none]) r.2
      [some (false, .val (eBk b)), some (false, .dic (kd (metT (wl done ++ [r.1])))), some (false, .val (.str r.1)), some (false, .val (eW r.2)), none] rfl (by
      rintro d2 x r2 ρ hd2 rfl
      refine ⟨_, ?_, rfl⟩
      have z : (metT (wl done ++ r.1 :: d2)).length < sizeLine := by
        have h1 := len_metT (wl done ++ r.1 :: d2)
        have h2 : d2.length ≤ r.2.length := by rw [hd2]; simp
        rw [List.length_append, List.length_cons] at h1
        exact small (m := 5000) (by omega)
      have q : wl done ++ r.1 :: (d2 ++ [x]) = (wl done ++ r.1 :: d2) ++ [x] := by simp
      rw [q, metT_snoc]
      simp [-List.map_map, turn_ap, w_words_of_2, z])
    refine ⟨_, ?_, rfl⟩
    have z : (metT (wl done)).length < sizeLine := small (m := 5000) (Nat.le_trans (len_metT _) (by omega))
    have q : wl (done ++ [r]) = wl done ++ r.1 :: r.2 := by rw [wl_app]; simp [wl]
    rw [q]
    rw [metT_snoc] at e
    simp [-List.map_map, turn_ap, w_words_of_1, z, e])
  have z : (metT (wl b)).length ≤ sizeLine := Nat.le_of_lt (small (m := 5000) (Nat.le_trans (len_metT _) (by have := hb.wl_len; omega)))
  simp [-List.map_map, f_words_of, b_words_of, runF_ap]
  rw [← kd_nil, e]
  simp [-List.map_map, z, wds]
theorem wds_mem {b : List Row} {w : Str} : w ∈ wds b ↔ ∃ r ∈ b, w = r.1 ∨ w ∈ r.2 := by
  unfold wds wl
  rw [mem_sortT, mem_metT, List.mem_flatten]
  constructor
  · rintro ⟨l, hl, hw⟩
    obtain ⟨r, hr, rfl⟩ := List.mem_map.mp hl
    exact ⟨r, hr, List.mem_cons.mp hw⟩
  · rintro ⟨r, hr, h⟩
    exact ⟨_, List.mem_map_of_mem hr, List.mem_cons.mpr h⟩
theorem wds_nodup (b : List Row) : (wds b).Nodup := sortT_nodup (metT_nodup _)
theorem wds_WW {b : List Row} (hb : Bo b) : ∀ w ∈ wds b, WW w := fun w h => by
  obtain ⟨r, hr, rfl | h⟩ := wds_mem.mp h
  · exact (hb.row r hr).1
  · exact (hb.row r hr).2.2 w h
/-- the places of a word's rows -/
def hd? (b : List Row) (w : Str) (i : Nat) : Bool := match b[i]? with
  | some r => decide (r.1 = w)
  | none => false
def plcs (b : List Row) (w : Str) : List Nat := (List.range b.length).filter (hd? b w)
/-! ### rows in books -/
end Eng
/-! Data within all lines: repr, ==. -/
namespace Eng
open PySem PySem.Spec L2 SX
open PyProof.Rows hiding St
/-- data that lies within the lines: at most so deep, at most so heavy -/
structure Gd (d : D) (k W : Nat) : Prop where
  lay : d.canLay0 = true
  shw : d.showable = true
  shrt : d.intsShort 13 = true
  deep : d.depth ≤ k
  heavy : d.weight ≤ W
theorem Gd.mono {d : D} {k k' W W' : Nat} (h : Gd d k W) (hk : k ≤ k') (hW : W ≤ W') : Gd d k' W' := ⟨h.lay, h.shw, h.shrt, Nat.le_trans h.deep hk, Nat.le_trans h.heavy hW⟩
theorem Gd.str {x : Str} (h : PyData.strOk x = true) {n : Nat} (hl : x.length ≤ n) : Gd (.str x) 0 n := ⟨by simpa [PyData.canLay0] using h, by simp [PyData.showable], by simp [PyData.intsShort], by simp [PyData.depth], by simpa [PyData.weight, Str.length] using hl⟩
theorem WW.gd {w : Str} (h : WW w) : Gd (.str w) 0 11 := .str h.ok h.len.1
theorem Gd.bool (b : Bool) : Gd (.bool b) 0 0 := ⟨by simp [PyData.canLay0], by simp [PyData.showable], by simp [PyData.intsShort], by simp [PyData.depth], by simp [PyData.weight]⟩
theorem log2_le {n : Nat} (h : n < 1000000000000) : n.log2 ≤ 40 := by
  by_cases h0 : n = 0
  · subst h0; decide
  · have := (Nat.log2_lt h0 (k := 41)).mpr (by omega)
    omega
theorem Gd.int {i : Int} (h0 : 0 ≤ i) (h : i < 1000000000000) : Gd (.int i) 0 41 := by
  have hl := log2_le (n := i.natAbs) (by omega)
  refine ⟨by simp [PyData.canLay0], ?_, ?_, by simp [PyData.depth], ?_⟩
  · simp only [PyData.showable, decide_eq_true_eq]
    omega
  · simp only [PyData.intsShort, decide_eq_true_eq]
    have : (Str.ofString (toString i)).length ≤ 12 := toString_length_le h0 (by decide) (by show i < 1000000000000; exact h)
    have e : PyData.shown (.int i) = Str.ofString (toString i) := by rw [PyData.shown]
    rw [e]
    omega
  · simp only [PyData.weight]
    split <;> omega
theorem Gd.all {xs : List D} {k W : Nat} (h : ∀ x ∈ xs, Gd x k W) : PyData.canLayAll0 xs = true ∧ PyData.showableAll xs = true ∧ PyData.intsShortAll 13 xs = true ∧ PyData.depthAll xs ≤ k ∧ PyData.weightAll xs ≤ xs.length * (W + 1) := by
  induction xs with
  | nil => exact ⟨rfl, rfl, rfl, Nat.zero_le _, by simp [PyData.weightAll]⟩
  | cons x xs ih =>
    have g := h x List.mem_cons_self
    obtain ⟨i1, i2, i3, i4, i5⟩ := ih fun y hy => h y (List.mem_cons_of_mem _ hy)
    have := g.heavy
    refine ⟨by simp [PyData.canLayAll0, g.lay, i1], by simp [PyData.showableAll, g.shw, i2], by simp [PyData.intsShortAll, g.shrt, i3], ?_, ?_⟩
    · simp only [PyData.depthAll]
      exact Nat.max_le.mpr ⟨g.deep, i4⟩
    · simp only [PyData.weightAll, List.length_cons, Nat.add_mul]
      omega
theorem Gd.list {xs : List D} {k W : Nat} (h : ∀ x ∈ xs, Gd x k W) : Gd (.list xs) (k + 1) (xs.length * (W + 1)) := by
  obtain ⟨i1, i2, i3, i4, i5⟩ := Gd.all h
  exact ⟨by simpa [PyData.canLay0] using i1, by simpa [PyData.showable] using i2, by simpa [PyData.intsShort] using i3, by simpa [PyData.depth] using i4, by simpa [PyData.weight] using i5⟩
theorem Gd.tup {xs : List D} {k W : Nat} (h : ∀ x ∈ xs, Gd x k W) : Gd (.tuple xs) (k + 1) (xs.length * (W + 1)) := by
  obtain ⟨i1, i2, i3, i4, i5⟩ := Gd.all h
  exact ⟨by simpa [PyData.canLay0] using i1, by simpa [PyData.showable] using i2, by simpa [PyData.intsShort] using i3, by simpa [PyData.depth] using i4, by simpa [PyData.weight] using i5⟩
theorem Gd.map {α : Type} {f : α → D} {xs : List α} {k W : Nat} (h : ∀ x ∈ xs, Gd (f x) k W) : ∀ y ∈ xs.map f, Gd y k W := fun y hy => by
  obtain ⟨x, hx, rfl⟩ := List.mem_map.mp hy
  exact h x hx
theorem Gd.shaped {d : D} {k W : Nat} (h : Gd d k W) (hk : k ≤ 64) : SeqAt.shaped d = true := by
  unfold SeqAt.shaped
  have := h.deep
  simp [h.lay]
  omega
theorem Gd.repr {o : O} {d : D} {k W : Nat} (ho : o.view? = some d) (h : Gd d k W) (hk : k ≤ 32) (hW : W ≤ 1048576) : reprS o = some (.val (.str d.shown)) := by
  have h1 : d.layable0 = true := by
    unfold PyData.layable0
    have := h.deep
    have := h.heavy
    simp [h.lay]
    omega
  have h2 := shown_le13 h1 h.shrt
  have h3 : d.shown.length ≤ sizeLine := Nat.le_trans h2 (by decide)
  unfold reprS
  rw [ho]
  have := h.deep
  simp only
  rw [if_pos ⟨h.shw, PyData.hasDict_of_canLay d h.lay, by omega, h3⟩]
theorem Gd.ne {a b : O} {d : D} {k W : Nat} (ha : a.view? = some d) (hb : b.view? = some d) (h : Gd d k W) (hk : k ≤ 64) : neS a b = some (.val (.bool false)) := by
  unfold neS
  rw [ha, hb]
  simp [eqD?, h.shaped hk, SeqAt.eqv_refl d h.lay]
theorem Gd.strs {ws : List Str} (h : ∀ w ∈ ws, WW w) : Gd (.list (ws.map PyData.str)) 1 (ws.length * 12) := by
  have := Gd.list (xs := ws.map PyData.str) (k := 0) (W := 11) (Gd.map fun w hw => (h w hw).gd)
  rwa [List.length_map] at this
theorem Gd.eW {ws : List Str} (h : ∀ w ∈ ws, WW w) : Gd (eW ws) 1 (ws.length * 12) := by
  have := Gd.tup (xs := ws.map PyData.str) (k := 0) (W := 11) (Gd.map fun w hw => (h w hw).gd)
  rwa [List.length_map] at this
theorem Gd.row {r : Row} (h : WW r.1 ∧ r.2.length ≤ 20 ∧ ∀ w ∈ r.2, WW w) : Gd (eRow r) 2 500 := by
  have h1 := Gd.eW h.2.2
  have h2 := h.1.gd
  have := Gd.tup (xs := [.str r.1, Eng.eW r.2]) (k := 1) (W := 240) (by
    intro x hx
    simp only [List.mem_cons, List.not_mem_nil, or_false] at hx
    rcases hx with rfl | rfl
    · exact h2.mono (by omega) (by omega)
    · exact h1.mono (by omega) (by have := h.2.1; omega))
  exact this.mono (Nat.le_refl _) (by simp)
end Eng
/-! Wider books. -/
namespace Eng
open PySem PySem.Spec L2 SX
open PyProof.Rows hiding St
/-- all words told in a book -/
def tw (b : List Row) : List Str := (b.map (·.2)).flatten
theorem tw_len {b : List Row} {k : Nat} (h : ∀ r ∈ b, r.2.length ≤ k) : (tw b).length ≤ b.length * k := by
  induction b with
  | nil => simp [tw]
  | cons r b ih =>
    have h1 := h r List.mem_cons_self
    have h2 := ih fun s hs => h s (List.mem_cons_of_mem _ hs)
    simp only [tw, List.map_cons, List.flatten_cons, List.length_append, List.length_cons, Nat.add_mul] at h2 ⊢
    omega
theorem mem_tw {b : List Row} {w : Str} : w ∈ tw b ↔ ∃ r ∈ b, w ∈ r.2 := by
  unfold tw
  rw [List.mem_flatten]
  constructor
  · rintro ⟨l, hl, hw⟩
    obtain ⟨r, hr, rfl⟩ := List.mem_map.mp hl
    exact ⟨r, hr, hw⟩
  · rintro ⟨r, hr, hw⟩
    exact ⟨_, List.mem_map_of_mem hr, hw⟩
theorem mem_heads {b : List Row} {w : Str} : w ∈ heads b ↔ ∃ r ∈ b, r.1 = w := by
  unfold heads
  rw [List.mem_map]
/-- heads and then words told: the same words -/
theorem wds_ht (b : List Row) : sortT (metT (heads b ++ tw b)) = wds b := by
  refine sortT_ext (metT_nodup _) (metT_nodup _) fun w => ?_
  rw [mem_metT, mem_metT, List.mem_append, mem_heads, mem_tw]
  have := @wds_mem b w
  unfold wds at this
  rw [mem_sortT, mem_metT] at this
  rw [this]
  constructor
  · rintro (⟨r, hr, rfl⟩ | ⟨r, hr, h⟩)
    · exact ⟨r, hr, .inl rfl⟩
    · exact ⟨r, hr, .inr h⟩
  · rintro ⟨r, hr, rfl | h⟩
    · exact .inl ⟨r, hr, rfl⟩
    · exact .inr ⟨r, hr, h⟩
/-- a book with few words -/
structure Bf (b : List Row) : Prop where
  bo : Bo b
  few : (heads b).length + (tw b).length ≤ 2000
theorem Bk.bf {ns : List Str} {n : Nat} {b : List Row} (h : Bk ns n b) (hn : n ≤ 100) (hw : ∀ w ∈ ns, WW w) : Bf b := ⟨h.bo (by omega) hw, by
  have h1 := tw_len (b := b) (k := 8) fun r hr => (h.row r hr).2.1
  have h2 := h.len
  simp only [heads, List.length_map]
  omega⟩
theorem addS_bk (a m : List Row) : addS (.val (eBk a)) (.val (.tuple (m.map eRow))) = if a.length + m.length ≤ sizeLine then some (.val (eBk (a ++ m))) else none := by
  simp [eBk]
end Eng
/-! Orders that may be none. -/
namespace Eng
open PySem PySem.Spec L2 SX
open PyProof.Rows hiding St
/-- a step that may be none: a word, a whole number -/
abbrev SI := Str × Int
/-- the row at a place, where it is one -/
def at? (b : List Row) (i : Int) : Option Row := if 0 ≤ i then b[i.toNat]? else none
theorem at_some {b : List Row} {i : Int} {r : Row} (h : at? b i = some r) : 0 ≤ i ∧ i < b.length ∧ ixS (.val (eBk b)) (.val (.int i)) = some (.val (eRow r)) ∧ r ∈ b := by
  unfold at? at h
  split at h
  · rename_i h0
    have hl := (List.getElem?_eq_some_iff.mp h).1
    refine ⟨h0, by omega, ?_, List.mem_of_getElem? h⟩
    have := ixS_eBk h
    rwa [Int.toNat_of_nonneg h0] at this
  · cases h
/-- one step of an order -/
def stO (b : List Row) (k : List Str) (p : SI) : Option (List Str) := if p.1 ∈ k then none else match at? b p.2 with
  | some r => if r.1 = p.1 ∧ (r.2.all fun v => decide (v ∈ k)) = true then some (k ++ [p.1]) else none
  | none => none
theorem stO_some {b : List Row} {k k' : List Str} {p : SI} (h : stO b k p = some k') : p.1 ∉ k ∧ k' = k ++ [p.1] ∧ ∃ r, at? b p.2 = some r ∧ r.1 = p.1 ∧ (r.2.all fun v => decide (v ∈ k)) = true := by
  unfold stO at h
  split at h
  · cases h
  · rename_i hn
    split at h
    · rename_i r e
      split at h
      · rename_i hc
        cases h
        exact ⟨hn, rfl, r, e, hc⟩
      · cases h
    · cases h
theorem Kn.st {b : List Row} {k k' : List Str} {p : SI} (hk : Kn b k) (h : stO b k p = some k') : Kn b k' := by
  obtain ⟨h1, rfl, r, h2, h3, _⟩ := stO_some h
  have := hk.add (w := p.1) (mem_heads.mpr ⟨r, (at_some h2).2.2.2, h3⟩)
  rwa [addT_new h1] at this
end Eng
/-! What is learnt; knots. -/
namespace Eng
open PySem PySem.Spec L2 SX
open PyProof.Rows hiding St
/-! ### closures -/
/-- what is learnt, as it is learnt -/
def cls (b : List Row) : List Str := (rnd b).flatten
/-- by what is closed all that is learnt is had -/
theorem rndF_min {b : List Row} {S : Str → Prop} (hS : ∀ r ∈ b, (∀ v ∈ r.2, S v) → S r.1) : ∀ {n : Nat} {k : List Str}, (∀ v ∈ k, S v) → ∀ v ∈ k ++ (rndF b n k).flatten, S v
  | 0, k, h => by simpa [rndF] using h
  | n + 1, k, h => by
    unfold rndF
    split
    · simpa using h
    · have h2 : ∀ v ∈ k ++ frs b k, S v := fun v hv => by
        rcases List.mem_append.mp hv with h1 | h1
        · exact h v h1
        · obtain ⟨r, hr, rfl, q⟩ := frs_mem.mp h1
          unfold rdy at q
          simp only [Bool.and_eq_true, List.all_eq_true, decide_eq_true_eq] at q
          exact hS r hr fun u hu => h u (q.2 u hu)
      have := rndF_min hS (n := n) h2
      simpa using this
theorem cls_min {b : List Row} {S : Str → Prop} (hS : ∀ r ∈ b, (∀ v ∈ r.2, S v) → S r.1) {w : Str} (h : w ∈ cls b) : S w := by
  have := rndF_min hS (n := b.length + 1) (k := []) (by simp)
  exact this w (by simpa [cls, rnd] using h)
/-! ### what is held back -/
theorem sortT_filter_wds (b : List Row) (p : Str → Bool) : ((wds b).filter p).Pairwise fun x y => leT x y = true := (sortT_pairwise _).filter _
/-- words that hold one another back -/
def Hs (b : List Row) (S : List Str) : Prop := ∀ w ∈ S, ∀ r ∈ b, r.1 = w → ∃ v ∈ r.2, v ∈ S
theorem Hs.not {b : List Row} {S : List Str} (h : Hs b S) {w : Str} (hw : w ∈ S) : w ∉ cls b := fun hc => by
  have := cls_min (S := fun v => v ∉ S) (b := b) (fun r hr hv hs => by
    obtain ⟨v, h1, h2⟩ := h r.1 hs r hr rfl
    exact hv v h1 h2) hc
  exact this hw
def bk1 (b : List Row) (S : List Str) (i : Nat) : Str := (((b[i]?.getD (Str.ofString "", [])).2.filter fun v => decide (v ∈ S)).head?).getD (Str.ofString "")
/-- for each row of a word the first word told that is held -/
def blk (b : List Row) (w : Str) (S : List Str) : List Str := (plcs b w).map (bk1 b S)
end Eng
/-! The law's words; its knots of given words. -/
namespace Eng
open PySem PySem.Spec L2 SX
open PyProof.Rows hiding St
def zipI : Option (List D × En) → Out (Option Nat × List D)
  | some ([.list ds, .tuple es], ρ2) => if (zipD ds es).length ≤ sizeLine then .ok (none, zipD ds es) ρ2 else .stuck
  | _ => .stuck
@[simp] theorem iZip_ap (f g : ES) (ρ : En) : iZip f g ρ = (oAs [f, g] ρ).bind fun ps ρ1 => zipI (gives ρ1 ps) := rfl
@[simp] theorem zipI_tup (ds es : List D) (ρ : En) : zipI (some ([.list ds, .tuple es], ρ)) = if (zipD ds es).length ≤ sizeLine then .ok (none, zipD ds es) ρ else .stuck := rfl
@[simp] theorem zipI_eW (ds : List D) (ws : List Str) (ρ : En) : zipI (some ([.list ds, eW ws], ρ)) = if (zipD ds (ws.map PyData.str)).length ≤ sizeLine then .ok (none, zipD ds (ws.map PyData.str)) ρ else .stuck := rfl
theorem wds_few {b : List Row} (h : Bf b) : (wds b).length ≤ 2000 := by
  rw [← wds_ht, len_sortT]
  have := len_metT (heads b ++ tw b)
  have := h.few
  rw [List.length_append] at *
  omega
theorem hd_map (b : List Row) : (b.map fun r : Row => PyData.str r.1) = (heads b).map .str := by
  unfold heads
  rw [List.map_map]
  rfl
/-! ### the greatest knot of given words -/
def okH (b : List Row) (S : List Str) (w : Str) : Bool := (b.filter fun r => decide (r.1 = w)).all fun r => r.2.any fun v => decide (v ∈ S)
def hst (b : List Row) (S : List Str) : List Str := S.filter (okH b S)
theorem sorted_ext {xs ys : List Str} (hx : xs.Nodup) (hy : ys.Nodup) (sx : xs.Pairwise fun x y => leT x y = true) (sy : ys.Pairwise fun x y => leT x y = true) (h : ∀ w, w ∈ xs ↔ w ∈ ys) : xs = ys :=
  one_order leT_anti ((List.perm_ext_iff_of_nodup hx hy).mpr h) sx sy
end Eng
/-! What is a knot. -/
namespace Eng
open PySem PySem.Spec L2 SX
open PyProof.Rows hiding St
theorem forLc_find {α : Type} {f : α → D} {T : Tgt} {fg : List Nat} {b : SS} {ρ : En} (c : Option (Nat × List D)) (hc : chkE c ρ) (p : α → Bool) (r : α → SOut) (hr : ∀ x, p x = true → ∃ o ρ', r x = .rt o ρ') : ∀ (xs : List α), (∀ x ∈ xs, turn T fg b (f x) ρ = if p x = true then r x else .nx ρ) →
    forL c T fg b (xs.map f) ρ = match xs.find? p with | some x => r x | none => .nx ρ
  | [], _ => rfl
  | x :: xs, h => by
    have h1 := h x List.mem_cons_self
    rw [List.map_cons, List.find?_cons]
    cases hp : p x with
    | true =>
      rw [hp] at h1
      simp only [if_true] at h1 ⊢
      obtain ⟨o, ρ', e⟩ := hr x hp
      rw [e] at h1 ⊢
      exact forLc_ret h1
    | false =>
      rw [hp] at h1
      simp only [Bool.false_eq_true, if_false] at h1
      rw [forLc_turn h1 hc]
      exact forLc_find c hc p r hr xs fun y hy => h y (List.mem_cons_of_mem _ hy)
end Eng
/-! Prices, plainly; dicts from texts to whole numbers. -/
namespace Eng
open PySem PySem.Spec L2 SX
open PyProof.Rows hiding St
/-- a dict of prices -/
abbrev Cs := List (Str × Int)
def eCs (C : Cs) : List (D × D) := sd PyData.int C
def cget (C : Cs) (w : Str) : Option Int := (C.find? fun e => decide (e.1 = w)).map (·.2)
def cput (C : Cs) (w : Str) (v : Int) : Cs := if w ∈ C.map (·.1) then C.map (fun e => if e.1 = w then (e.1, v) else e) else C ++ [(w, v)]
theorem eqv_s (x y : Str) : PyData.eqv (.str x) (.str y) = decide (x = y) := by
  rw [eqv_str]
  by_cases h : x = y <;> simp [h]
theorem dget_cs (C : Cs) (w : Str) : dget (eCs C) (.str w) = (cget C w).map PyData.int := by
  unfold dget eCs sd cget
  rw [List.find?_map]
  have : ((fun e : D × D => PyData.eqv e.1 (.str w)) ∘ fun e : Str × Int => ((.str e.1, .int e.2) : D × D)) = fun e : Str × Int => decide (e.1 = w) := by
    funext e
    exact eqv_s _ _
  rw [this]
  cases C.find? fun e => decide (e.1 = w) <;> rfl
theorem dput_cs (C : Cs) (w : Str) (v : Int) : dput (eCs C) (.str w) (.int v) = eCs (cput C w v) := by
  unfold dput cput
  have h := dhas_sd PyData.int C w
  unfold eCs
  rw [h]
  by_cases hm : w ∈ C.map (·.1)
  · simp only [hm, decide_true, if_true]
    unfold sd
    rw [List.map_map, List.map_map]
    refine List.map_congr_left fun e _ => ?_
    simp only [Function.comp, eqv_s]
    by_cases hw : e.1 = w <;> simp [hw]
  · simp only [hm, decide_false, Bool.false_eq_true, if_false]
    unfold sd
    rw [List.map_append]
    rfl
theorem len_cs (C : Cs) : (eCs C).length = C.length := by simp [eCs, sd]
@[simp] theorem inS_cs (x : Str) (C : Cs) : inS (.val (.str x)) (.dic (eCs C)) = some (.val (.bool (decide (x ∈ C.map (·.1))))) := by
  unfold inS hasS eCs
  simp only [dOk_sd, dhas_sd, if_true]
  rfl
@[simp] theorem notinS_cs (x : Str) (C : Cs) : notinS (.val (.str x)) (.dic (eCs C)) = some (.val (.bool (!decide (x ∈ C.map (·.1))))) := by
  unfold notinS hasS eCs
  simp only [dOk_sd, dhas_sd, if_true]
  rfl
@[simp] theorem ixS_cs (x : Str) (C : Cs) : ixS (.dic (eCs C)) (.val (.str x)) = (cget C x).map fun i => .val (.int i) := by
  show (if dOk (eCs C) (.str x) = true then (dget (eCs C) (.str x)).map O.val else none) = _
  have h : dOk (eCs C) (.str x) = true := dOk_sd _ _ _
  rw [if_pos h, dget_cs, Option.map_map]
  rfl
@[simp] theorem setS_cs (x : Str) (v : Int) (C : Cs) : setS (.dic (eCs C)) (.str x) (.int v) = if C.length < sizeLine then some (.dic (eCs (cput C x v))) else none := by
  unfold setS
  have h : dOk (eCs C) (.str x) = true := dOk_sd _ _ _
  simp only [h, dput_cs, len_cs, true_and]
@[simp] theorem sortS_cs (C : Cs) : sortS (.dic (eCs C)) = if C.length ≤ sizeLine then some (.lst ((sortT (C.map (·.1))).map PyData.str)) else none := sortS_sd PyData.int C
theorem cget_none {C : Cs} {w : Str} : cget C w = none ↔ w ∉ C.map (·.1) := by
  unfold cget
  rw [Option.map_eq_none_iff, List.find?_eq_none]
  simp only [decide_eq_true_eq, List.mem_map, not_exists, not_and]
theorem cget_mem {C : Cs} {w : Str} {v : Int} (h : cget C w = some v) : w ∈ C.map (·.1) := Classical.byContradiction fun hn => by
  rw [cget_none.mpr hn] at h
  cases h
theorem cget_some {C : Cs} {w : Str} (h : w ∈ C.map (·.1)) : ∃ v, cget C w = some v := by
  cases e : cget C w with
  | some v => exact ⟨v, rfl⟩
  | none => exact absurd h (cget_none.mp e)
theorem cget_cons (e : Str × Int) (C : Cs) (w : Str) : cget (e :: C) w = if e.1 = w then some e.2 else cget C w := by
  unfold cget
  rw [List.find?_cons]
  by_cases h : e.1 = w <;> simp [h]
theorem cget_app (C : Cs) (w v : Str) (x : Int) : cget (C ++ [(w, x)]) v = match cget C v with | some y => some y | none => if w = v then some x else none := by
  induction C with
  | nil => rw [List.nil_append, cget_cons]; rfl
  | cons e C ih =>
    rw [List.cons_append, cget_cons, cget_cons, ih]
    by_cases h : e.1 = v <;> simp [h]
theorem cget_map (C : Cs) (w v : Str) (x : Int) : cget (C.map fun e => if e.1 = w then (e.1, x) else e) v = if v = w ∧ w ∈ C.map (·.1) then some x else cget C v := by
  induction C with
  | nil => simp [cget]
  | cons e C ih =>
    rw [List.map_cons, cget_cons, cget_cons, ih]
    by_cases h1 : e.1 = w
    · by_cases h2 : v = w
      · subst h2; simp [h1]
      · have h3 : ¬ e.1 = v := fun q => h2 (q.symm.trans h1)
        have h4 : ¬ w = v := fun q => h2 q.symm
        simp [h1, h2, h3, h4]
    · by_cases h2 : v = w
      · subst h2
        have h3 : ¬ v = e.1 := fun q => h1 q.symm
        have h4 : (v ∈ (e :: C).map (·.1)) ↔ v ∈ C.map (·.1) := by
          rw [List.map_cons, List.mem_cons]
          exact ⟨fun h => h.resolve_left h3, .inr⟩
        simp only [h1, if_false, h4]
      · by_cases h3 : e.1 = v <;> simp [h1, h2, h3]
theorem cget_put (C : Cs) (w v : Str) (x : Int) : cget (cput C w x) v = if v = w then some x else cget C v := by
  unfold cput
  split
  · rename_i h
    rw [cget_map]
    by_cases hv : v = w <;> simp [hv, h]
  · rename_i h
    rw [cget_app]
    by_cases hv : v = w
    · subst hv
      rw [cget_none.mpr h]
    · have : ¬ w = v := fun q => hv q.symm
      simp only [this, hv, if_false]
      cases cget C v <;> rfl
theorem cput_keys (C : Cs) (w : Str) (x : Int) : (cput C w x).map (·.1) = addT (C.map (·.1)) w := by
  unfold cput addT
  split
  · rw [List.map_map]
    refine List.map_congr_left fun e _ => ?_
    simp only [Function.comp]
    split <;> rfl
  · rw [List.map_append]
    rfl
/-! ### prices by a row -/
def pby (C : Cs) (ws : List Str) : Option Int := ws.foldlM (fun L w => (cget C w).map (L + ·)) 1
theorem pby_go (C : Cs) : ∀ (ws : List Str) (L : Int), ws.foldlM (fun L w => (cget C w).map (L + ·)) L = if (ws.all fun w => decide (w ∈ C.map (·.1))) = true then some (L + (ws.map fun w => (cget C w).getD 0).sum) else none
  | [], L => by simp
  | w :: ws, L => by
    rw [List.foldlM_cons]
    cases e : cget C w with
    | none =>
      have := cget_none.mp e
      simp only [List.all_cons, this, decide_false, Bool.false_and, Bool.false_eq_true, if_false, Option.map_none]
      rfl
    | some v =>
      have := cget_mem e
      show (ws.foldlM (fun L w => (cget C w).map (L + ·)) (L + v)) = _
      rw [pby_go C ws (L + v)]
      simp only [List.all_cons, this, decide_true, Bool.true_and, List.map_cons, e, Option.getD_some, List.sum_cons]
      split
      · rw [Int.add_assoc]
      · rfl
theorem pby_all (C : Cs) (ws : List Str) : pby C ws = if (ws.all fun w => decide (w ∈ C.map (·.1))) = true then some (1 + (ws.map fun w => (cget C w).getD 0).sum) else none := pby_go C ws 1
/-- one row's turn -/
def stC (s : Cs × Bool) (r : Row) : Cs × Bool := match pby s.1 r.2 with
  | none => s
  | some L => match cget s.1 r.1 with
    | none => (cput s.1 r.1 L, true)
    | some c => if L < c then (cput s.1 r.1 L, true) else s
def passC (b : List Row) (C : Cs) : Cs × Bool := b.foldl stC (C, false)
def itC (b : List Row) : Nat → Cs → Option Cs
  | 0, _ => none
  | n + 1, C => if (passC b C).2 = true then itC b n (passC b C).1 else some (passC b C).1
/-- what holds of the prices all the time -/
structure Iv (b : List Row) (C : Cs) : Prop where
  kn : Kn b (C.map (·.1))
  pos : ∀ w c, cget C w = some c → 1 ≤ c
  row : ∀ w c, cget C w = some c → ∃ r ∈ b, r.1 = w ∧ ∃ L, pby C r.2 = some L ∧ L ≤ c
theorem sum_le {α : Type} {f g : α → Int} : ∀ {xs : List α}, (∀ x ∈ xs, f x ≤ g x) → (xs.map f).sum ≤ (xs.map g).sum
  | [], _ => Int.le_refl _
  | x :: xs, h => by
    have h1 := h x List.mem_cons_self
    have h2 := sum_le fun y hy => h y (List.mem_cons_of_mem _ hy)
    simp only [List.map_cons, List.sum_cons]
    omega
theorem sum_pos {α : Type} {f : α → Int} : ∀ {xs : List α}, (∀ x ∈ xs, 0 ≤ f x) → 0 ≤ (xs.map f).sum
  | [], _ => Int.le_refl _
  | x :: xs, h => by
    have h1 := h x List.mem_cons_self
    have h2 := sum_pos fun y hy => h y (List.mem_cons_of_mem _ hy)
    simp only [List.map_cons, List.sum_cons]
    omega
theorem pby_some {C : Cs} {ws : List Str} {L : Int} (h : pby C ws = some L) : (∀ w ∈ ws, w ∈ C.map (·.1)) ∧ L = 1 + (ws.map fun w => (cget C w).getD 0).sum := by
  rw [pby_all] at h
  split at h
  · rename_i h1
    cases h
    exact ⟨fun w hw => of_decide_eq_true (List.all_eq_true.mp h1 w hw), rfl⟩
  · cases h
theorem pby_of {C : Cs} {ws : List Str} (h : ∀ w ∈ ws, w ∈ C.map (·.1)) : pby C ws = some (1 + (ws.map fun w => (cget C w).getD 0).sum) := by
  rw [pby_all, if_pos (List.all_eq_true.mpr fun w hw => decide_eq_true (h w hw))]
/-- lower prices all over -/
theorem pby_mono {C E : Cs} (h : ∀ w c, cget C w = some c → ∃ d, cget E w = some d ∧ d ≤ c) {ws : List Str} {L : Int} (hp : pby C ws = some L) : ∃ M, pby E ws = some M ∧ M ≤ L := by
  obtain ⟨h1, rfl⟩ := pby_some hp
  have hE : ∀ w ∈ ws, w ∈ E.map (·.1) := fun w hw => by
    obtain ⟨c, hc⟩ := cget_some (h1 w hw)
    obtain ⟨d, hd, _⟩ := h w c hc
    exact cget_mem hd
  refine ⟨_, pby_of hE, ?_⟩
  have := sum_le (f := fun w => (cget E w).getD 0) (g := fun w => (cget C w).getD 0) (xs := ws) (fun w hw => by
    obtain ⟨c, hc⟩ := cget_some (h1 w hw)
    obtain ⟨d, hd, hle⟩ := h w c hc
    rw [hc, hd]
    exact hle)
  omega
theorem Iv.put {b : List Row} {C : Cs} (h : Iv b C) {r : Row} (hr : r ∈ b) {L : Int} (hp : pby C r.2 = some L) (hlt : ∀ c, cget C r.1 = some c → L < c) : Iv b (cput C r.1 L) := by
  have hL : 1 ≤ L := by
    obtain ⟨h1, rfl⟩ := pby_some hp
    have := sum_pos (f := fun w => (cget C w).getD 0) (xs := r.2) (fun w hw => by
      obtain ⟨c, hc⟩ := cget_some (h1 w hw)
      rw [hc]
      have := h.pos w c hc
      show 0 ≤ c
      omega)
    omega
  have low : ∀ w c, cget C w = some c → ∃ d, cget (cput C r.1 L) w = some d ∧ d ≤ c := fun w c hc => by
    rw [cget_put]
    by_cases hw : w = r.1
    · subst hw
      exact ⟨L, by simp, Int.le_of_lt (hlt c hc)⟩
    · exact ⟨c, by simp [hw, hc], Int.le_refl _⟩
  refine ⟨?_, fun w c hc => ?_, fun w c hc => ?_⟩
  · rw [cput_keys]
    exact h.kn.add (List.mem_map_of_mem hr)
  · rw [cget_put] at hc
    split at hc
    · cases hc; exact hL
    · exact h.pos w c hc
  · rw [cget_put] at hc
    split at hc
    · rename_i hw
      cases hc
      obtain ⟨M, hM, hle⟩ := pby_mono low hp
      exact ⟨r, hr, hw.symm, M, hM, hle⟩
    · obtain ⟨r', hr', e, M, hM, hle⟩ := h.row w c hc
      obtain ⟨M', hM', hle'⟩ := pby_mono low hM
      exact ⟨r', hr', e, M', hM', by omega⟩
/-- how much may fall yet -/
def mea (b : List Row) (C : Cs) : Nat × Nat := (b.length - (C.map (·.1)).length, (C.map fun e => e.2.toNat).sum)
theorem sum_put : ∀ (C : Cs) (w : Str) (L c : Int), (C.map (·.1)).Nodup → cget C w = some c → 0 ≤ L → L < c → ((C.map fun e => if e.1 = w then (e.1, L) else e).map fun e => e.2.toNat).sum < (C.map fun e => e.2.toNat).sum
  | [], _, _, _, _, h, _, _ => by simp [cget] at h
  | e :: C, w, L, c, nd, h, h0, hlt => by
    rw [cget_cons] at h
    rw [List.map_cons] at nd
    have nd := List.nodup_cons.mp nd
    by_cases hw : e.1 = w
    · rw [if_pos hw] at h
      cases h
      have same : (C.map fun e => if e.1 = w then (e.1, L) else e) = C := by
        have : (C.map fun e => if e.1 = w then (e.1, L) else e) = C.map id := List.map_congr_left fun x hx => by
          have : ¬ x.1 = w := fun q => nd.1 (by rw [hw, ← q]; exact List.mem_map_of_mem hx)
          simp [this]
        rw [this, List.map_id]
      simp only [List.map_cons, hw, if_true, same, List.sum_cons]
      omega
    · rw [if_neg hw] at h
      have := sum_put C w L c nd.2 h h0 hlt
      simp only [List.map_cons, hw, if_false, List.sum_cons]
      omega
theorem stC_iv {b : List Row} {C : Cs} {f : Bool} (h : Iv b C) {r : Row} (hr : r ∈ b) : Iv b (stC (C, f) r).1 ∧ ((stC (C, f) r) = (C, f) ∨ ((stC (C, f) r).2 = true ∧ Prod.Lex Nat.lt Nat.lt (mea b (stC (C, f) r).1) (mea b C))) := by
  unfold stC
  cases hp : pby C r.2 with
  | none => exact ⟨h, .inl rfl⟩
  | some L =>
    simp only
    have hL : 0 ≤ L := by
      obtain ⟨h1, rfl⟩ := pby_some hp
      have := sum_pos (f := fun w => (cget C w).getD 0) (xs := r.2) (fun w hw => by
        obtain ⟨c, hc⟩ := cget_some (h1 w hw)
        rw [hc]
        have := h.pos w c hc
        show 0 ≤ c
        omega)
      omega
    cases hc : cget C r.1 with
    | none =>
      simp only
      refine ⟨h.put hr hp (fun c q => by rw [hc] at q; cases q), .inr ⟨trivial, ?_⟩⟩
      refine Prod.Lex.left _ _ ?_
      have hn := cget_none.mp hc
      have h2 := (h.kn.add (w := r.1) (List.mem_map_of_mem hr)).len
      rw [addT_new hn, List.length_append, List.length_singleton] at h2
      rw [cput_keys, addT_new hn, List.length_append, List.length_singleton]
      show b.length - ((C.map (·.1)).length + 1) < b.length - (C.map (·.1)).length
      omega
    | some c =>
      simp only
      split
      · rename_i hlt
        refine ⟨h.put hr hp (fun c' q => by rw [hc] at q; cases q; exact hlt), .inr ⟨by first | rfl | trivial, ?_⟩⟩
        unfold mea
        rw [cput_keys]
        have hm := cget_mem hc
        have e1 : addT (C.map (·.1)) r.1 = C.map (·.1) := by unfold addT; rw [if_pos hm]
        rw [e1]
        refine Prod.Lex.right _ ?_
        unfold cput
        rw [if_pos hm]
        exact sum_put C r.1 L c h.kn.1 hc hL hlt
      · exact ⟨h, .inl rfl⟩
theorem lex_trans {a c d : Nat × Nat} (h1 : Prod.Lex Nat.lt Nat.lt a c) (h2 : Prod.Lex Nat.lt Nat.lt c d) : Prod.Lex Nat.lt Nat.lt a d := by
  rw [Prod.lex_def] at *
  have : ∀ x y, Nat.lt x y ↔ x < y := fun _ _ => Iff.rfl
  simp only [this] at *
  omega
theorem fold_iv {b : List Row} : ∀ (rs : List Row) (C : Cs) (f : Bool), (∀ r ∈ rs, r ∈ b) → Iv b C → Iv b (rs.foldl stC (C, f)).1 ∧ ((rs.foldl stC (C, f)) = (C, f) ∨ ((rs.foldl stC (C, f)).2 = true ∧ Prod.Lex Nat.lt Nat.lt (mea b (rs.foldl stC (C, f)).1) (mea b C)))
  | [], C, f, _, h => ⟨h, .inl rfl⟩
  | r :: rs, C, f, hs, h => by
    obtain ⟨h1, h2⟩ := stC_iv (f := f) h (hs r List.mem_cons_self)
    rw [List.foldl_cons]
    obtain ⟨C1, f1, hst⟩ : ∃ C1 f1, stC (C, f) r = (C1, f1) := ⟨_, _, rfl⟩
    rw [hst] at h1 h2 ⊢
    obtain ⟨h3, h4⟩ := fold_iv rs C1 f1 (fun x hx => hs x (List.mem_cons_of_mem _ hx)) h1
    refine ⟨h3, ?_⟩
    rcases h2 with h2 | ⟨h2, h2'⟩
    · cases h2
      exact h4
    · rcases h4 with h4 | ⟨h4, h4'⟩
      · rw [h4]
        exact .inr ⟨h2, h2'⟩
      · exact .inr ⟨h4, lex_trans h4' h2'⟩
end Eng
/-! Prices: the defs. -/
namespace Eng
open PySem PySem.Spec L2 SX
open PyProof.Rows hiding St
theorem Iv.nil (b : List Row) : Iv b [] := ⟨Kn.nil b, by simp [cget], by simp [cget]⟩
theorem passC_iv {b : List Row} {C : Cs} (h : Iv b C) : Iv b (passC b C).1 ∧ (passC b C = (C, false) ∨ ((passC b C).2 = true ∧ Prod.Lex Nat.lt Nat.lt (mea b (passC b C).1) (mea b C))) := fold_iv b C false (fun _ h => h) h
theorem it_ex (b : List Row) (C : Cs) (h : Iv b C) : ∃ n C', itC b n C = some C' ∧ Iv b C' ∧ passC b C' = (C', false) := by
  have wf : WellFounded (InvImage (Prod.Lex Nat.lt Nat.lt) (mea b)) := InvImage.wf _ (Prod.lex Nat.lt_wfRel Nat.lt_wfRel).wf
  induction C using wf.induction with
  | _ C ih =>
    obtain ⟨h1, h2⟩ := passC_iv h
    rcases h2 with h2 | ⟨h2, h3⟩
    · refine ⟨1, C, ?_, h, h2⟩
      unfold itC
      rw [h2]
      rfl
    · obtain ⟨n, C', e1, e2, e3⟩ := ih _ h3 h1
      refine ⟨n + 1, C', ?_, e2, e3⟩
      unfold itC
      rw [if_pos h2]
      exact e1
theorem Iv.len {b : List Row} {C : Cs} (h : Iv b C) (hb : Bo b) : C.length ≤ 200 := by
  have h1 := h.kn.len
  rw [List.length_map] at h1
  exact Nat.le_trans h1 hb.len
/-- the prices of a book -/
noncomputable def csts (b : List Row) : Cs := Classical.choose (Classical.choose_spec (it_ex b [] (Iv.nil b)))
/-! ### the law's prices -/
/-! ### where nothing falls any more -/
end Eng
/-! The other maker of books: draws, words. -/
namespace Eng
open PySem PySem.Spec L2 SX
open PyProof.Rows hiding St
/-- a source of draws: drawn from so many times at most -/
def Sc (T : Nat) (s : List Int) : Prop := ∃ a t c, s = [a, t, c] ∧ 0 ≤ t ∧ t ≤ T
theorem Sc.mono {T U : Nat} {s : List Int} (h : Sc T s) (hT : T ≤ U) : Sc U s := by
  obtain ⟨a, t, c, e, h1, h2⟩ := h
  exact ⟨a, t, c, e, h1, by omega⟩
theorem l_source_ex (lf : List Int) (k : Int) : ∃ (s lf' : List Int), f_l_source [.lst (lf.map .int), .val (.int k)] = .ret (.lst (s.map .int)) [.lst (lf'.map .int), .val (.int k)] ∧ Sc 0 s ∧ lf'.length = lf.length - 1 := by
  by_cases h : lf = []
  · subst h
    exact ⟨[k, 0, 1], [], by simp [f_l_source, b_l_source, runF_ap], ⟨_, _, _, rfl, by omega, by omega⟩, rfl⟩
  · obtain ⟨ys, y, rfl⟩ : ∃ ys y, lf = ys ++ [y] := ⟨_, _, (List.dropLast_concat_getLast h).symm⟩
    refine ⟨[y / 2, 0, y % 2], ys, ?_, ⟨_, _, _, rfl, by omega, by omega⟩, by simp⟩
    have h0 : ¬ ((ys.length : Int) + 1 = 0) := by omega
    have hp : popS (.lst ((ys ++ [y]).map PyData.int)) = some (.lst (ys.map .int), .int y) := by
      unfold popS
      simp
    simp at hp
    simp [f_l_source, b_l_source, runF_ap, h0, hp]
theorem at3 (a t c : Int) : atI [PyData.int a, .int t, .int c] 0 = some (.int a) ∧ atI [PyData.int a, .int t, .int c] 1 = some (.int t) ∧ atI [PyData.int a, .int t, .int c] 2 = some (.int c) := ⟨rfl, rfl, rfl⟩
theorem ix3 : ixN 3 0 = some 0 ∧ ixN 3 1 = some 1 ∧ ixN 3 2 = some 2 := ⟨rfl, rfl, rfl⟩
theorem l_draw_ex (T : Nat) (s : List Int) (n : Int) (hs : Sc T s) (hT : T < 1000000) (h0 : 0 < n) (h1 : n < 1000000) : ∃ (s' : List Int) (r : Int), f_l_draw [.lst (s.map .int), .val (.int n)] = .ret (.val (.int r)) [.lst (s'.map .int), .val (.int n)] ∧ Sc (T + 1) s' ∧ 0 ≤ r ∧ r < n := by
  obtain ⟨a, t, c, rfl, h2, h3⟩ := hs
  obtain ⟨g0, g1, g2⟩ := at3 a t c
  obtain ⟨i0, i1, i2⟩ := ix3
  obtain ⟨g3, g4, g5⟩ := at3 a (t + 1) c
  have m1 := Int.emod_nonneg a (show n ≠ 0 by omega)
  have m2 := Int.emod_lt_of_pos a h0
  have b1 : n < 1073741824 := by omega
  by_cases hc : c = 0
  · subst hc
    refine ⟨[a / n, t + 1, 0], a % n, ?_, ⟨_, _, _, rfl, by omega, by omega⟩, m1, m2⟩
    simp [f_l_draw, b_l_draw, runF_ap, g0, g1, g2, i0, i1, i2, g3, g4, g5, h0, b1]
  · obtain ⟨x, hx⟩ : ∃ x, x = ((a % 1000000000000000 + 1) * 48271 + (t + 1) * (t + 1) * 16807 + (t + 1) * 7919) % 2147483647 * 69621 % 2147483629 := ⟨_, rfl⟩
    refine ⟨[a, t + 1, c], x % n, ?_, ⟨_, _, _, rfl, by omega, by omega⟩, Int.emod_nonneg _ (by omega), Int.emod_lt_of_pos _ h0⟩
    have b2 : -18446744073709551616 < t + 1 := by omega
    have b3 : t + 1 < 18446744073709551616 := by omega
    simp [f_l_draw, b_l_draw, runF_ap, g0, g1, g2, i0, i1, i2, g3, g4, g5, hc, b2, b3, h0, hx]
end Eng
/-! The other maker of books, II: words. -/
namespace Eng
open PySem PySem.Spec L2 SX
open PyProof.Rows hiding St
theorem cutS_S (l : List Nat) (lo hi : Option Int) : cutS (S l) lo hi = S (cutA l lo hi) := by
  unfold cutS cutA
  rw [S_len]
theorem mem_cut {α : Type} {xs : List α} {lo hi : Option Int} {x : α} (h : x ∈ cutA xs lo hi) : x ∈ xs := List.mem_of_mem_drop (List.mem_of_mem_take h)
theorem cut_to_len {α : Type} (xs : List α) (n : Nat) : (cutA xs none (some (n : Int))).length = min n xs.length := by
  unfold cutA
  rw [HT.sIx_nat, HT.sIx_none, List.drop_zero, List.length_take]
  omega
theorem cut_mid_len {α : Type} (xs : List α) (m n : Nat) : (cutA xs (some (m : Int)) (some (n : Int))).length ≤ n - m := by
  unfold cutA
  rw [HT.sIx_nat, HT.sIx_nat, List.length_take, List.length_drop]
  omega
def Low (l : List Nat) : Prop := ∀ c ∈ l, 97 ≤ c ∧ c ≤ 122
/-- eight drawn letters -/
theorem letters8 : ∀ (ks : List Nat) (acc : List D) (T : Nat) (s : List Int) (x2 : Sl), Sc T s → T + ks.length < 1000000 → ∃ (cs : List Nat) (s' : List Int), cs.length = ks.length ∧ Low cs ∧ Sc (T + ks.length) s' ∧
    lcL none (.nm 8) tTrue (o2 ixS (oNm 1) (oCall f_l_draw (oAs [oNm 0, oC (.int 26)]))) [8] (ks.map fun k => .int (0 + (k : Nat))) acc [some (true, .lst (s.map .int)), some (false, .val (.str (Str.ofString "abcdefghijklmnopqrstuvwxyz"))), x2, none, none, none, none, none, none, none, none] =
      .ok (acc ++ (cs.map fun c => S [c]).map .str) [some (true, .lst (s'.map .int)), some (false, .val (.str (Str.ofString "abcdefghijklmnopqrstuvwxyz"))), x2, none, none, none, none, none, none, none, none]
  | [], acc, T, s, x2, hs, hT => ⟨[], s, rfl, by simp [Low], by simpa using hs, by simp [lcL]⟩
  | k :: ks, acc, T, s, x2, hs, hT => by
    simp only [List.length_cons] at hT
    obtain ⟨s1, r, e1, hs1, r0, r1⟩ := l_draw_ex T s 26 hs (by omega) (by omega) (by omega)
    have a := abc_at r0 r1
    have l : (Str.ofString "abcdefghijklmnopqrstuvwxyz").length ≤ sizeLine := by rw [abc_len]; decide
    have t : lturn (.nm 8) tTrue (o2 ixS (oNm 1) (oCall f_l_draw (oAs [oNm 0, oC (.int 26)]))) [8] (.int (0 + (k : Nat))) [some (true, .lst (s.map .int)), some (false, .val (.str (Str.ofString "abcdefghijklmnopqrstuvwxyz"))), x2, none, none, none, none, none, none, none, none] =
        .ok (some (.str (S [97 + r.toNat]))) [some (true, .lst (s1.map .int)), some (false, .val (.str (Str.ofString "abcdefghijklmnopqrstuvwxyz"))), x2, none, none, none, none, none, none, none, none] := by
      simp [-List.map_map, lturn_ap, e1, a, l, S]
    obtain ⟨cs, s2, c1, c2, c3, c4⟩ := letters8 ks (acc ++ [.str (S [97 + r.toNat])]) (T + 1) s1 x2 hs1 (by omega)
    refine ⟨(97 + r.toNat) :: cs, s2, by simp [c1], ?_, by simp only [List.length_cons]; exact c3.mono (by omega), ?_⟩
    · intro c hc
      rcases List.mem_cons.mp hc with rfl | h
      · omega
      · exact c2 c h
    · rw [List.map_cons, lcL_turn t (by simp)]
      simp only [Option.toList_some]
      rw [c4]
      simp
theorem pow_log (n : Int) (h0 : 0 ≤ n) (h : n < 1000) : n.natAbs.log2 < 1920 := by
  by_cases hz : n.natAbs = 0
  · rw [hz]; decide
  · exact Nat.lt_of_lt_of_le ((Nat.log2_lt hz).mpr (show n.natAbs < 2 ^ 10 by omega)) (by decide)
/-- the word's last statement -/
noncomputable def w_word : SS := (sExpr (oMutA appS 7 (oAs [oIf (tV (o2 eqS (oNm 10) (oC (.int 1)))) (oNm 9) (o2 addS (o2 addS (oNm 9) (oC (.str "/"))) (o1 strS (oNm 10)))])))
theorem word_put (x0 x1 x2 x3 x4 x5 x6 x8 : Sl) (ws : List Str) (l : List Nat) (n : Nat) (hl : Stem l) (h1 : 1 ≤ n) (h2 : n ≤ 99) (z : ws.length < 1000) : ∃ w, WW w ∧ w_word [x0, x1, x2, x3, x4, x5, x6, some (false, .lst (ws.map .str)), x8, some (false, .val (.str (S l))), some (false, .val (.int (n : Int)))] =
    .nx [x0, x1, x2, x3, x4, x5, x6, some (false, .lst ((ws ++ [w]).map .str)), x8, some (false, .val (.str (S l))), some (false, .val (.int (n : Int)))] := by
  have z1 : ws.length < sizeLine := small (m := 1000) (by omega)
  by_cases h : n = 1
  · subst h
    exact ⟨S l, ⟨l, hl, .inl rfl⟩, by simp [-List.map_map, w_word, z1]⟩
  · have hn : ¬ (n : Int) = 1 := by omega
    have g4 : (S l).length + (Str.ofString "/").length ≤ sizeLine := by rw [S_len, slash, S_len]; exact Nat.le_trans (show l.length + 1 ≤ 9 by have := hl.2.1; omega) (by decide)
    have g5 := pow_log (n : Int) (by omega) (by omega)
    simp only [Int.natAbs_natCast] at g5
    have g6 : Str.ofString (Int.repr (n : Int)) = S (TL.numL n) := num_S n
    have g7 : (S l ++ Str.ofString "/").length + (S (TL.numL n)).length ≤ sizeLine := by
      rw [slash, S_cat, S_len, S_len, List.length_append]
      exact Nat.le_trans (show l.length + [47].length + (TL.numL n).length ≤ 11 by have := hl.2.1; have := numL_len h2; simp; omega) (by decide)
    refine ⟨S l ++ Str.ofString "/" ++ S (TL.numL n), ?_, by simp [-List.map_map, w_word, z1, hn, g4, g5, g6, g7]⟩
    rw [cat_slash]
    exact ⟨l, hl, .inr ⟨n, by omega, h2, rfl⟩⟩
theorem w_l_words_2_1_eq : w_l_words_2_1 = (sSeq (sAsg 9 (oSl (oNm 3) oNoPart (oPart (o2 addS (oC (.int 1)) (o2 modS (oNm 8) (oC (.int 8)))))))
  (sSeq (sAsg 10 (o2 addS (oC (.int 1)) (o2 fdivS (oNm 8) (oC (.int 8)))))
  (sSeq (sIf (tV (o2 eqS (oNm 4) (oC (.int 1))))
      (sSeq (sAsg 9 (oSl (oNm 3) oNoPart (oPart (oNm 5))))
      (sAsg 10 (o2 addS (oC (.int 1)) (oNm 8))))
      sNil)
  (sSeq (sIf (tV (o2 gtS (oNm 4) (oC (.int 1))))
      (sSeq (sAsg 9 (o2 addS (o2 ixS (oNm 1) (o2 modS (o2 addS (oNm 6) (o2 mulS (oC (.int 7)) (oNm 8))) (oC (.int 26)))) (oSl (oNm 3) (oPart (oC (.int 1))) (oPart (oNm 5)))))
      (sAsg 10 (oC (.int 1))))
      sNil)
  (sSeq (sIf (tV (o2 eqS (oNm 4) (oC (.int 3))))
      (sAsg 10 (o2 addS (oC (.int 1)) (oCall f_l_draw (oAs [oNm 0, oC (.int 99)]))))
      sNil)
  w_word))))) := rfl

theorem word_turn (T : Nat) (s : List Int) (l0 : List Nat) (way : Int) (size first : Nat) (x2 : Sl) (ws : List Str) (k : Nat) (hs : Sc T s) (hT : T < 900000) (h0 : l0.length = 8) (hl : Low l0) (hsz : 1 ≤ size ∧ size ≤ 8) (hf : first < 26) (hk : k < 24) (hw0 : 0 ≤ way) (hw4 : way < 4) (z : ws.length < 1000) :
    ∃ (s' : List Int) (w : Str), Sc (T + 1) s' ∧ WW w ∧ turn (.nm 8) [8, 9, 10] w_l_words_2_1 (.int (0 + (k : Nat))) [some (true, .lst (s.map .int)), some (false, .val (.str (Str.ofString "abcdefghijklmnopqrstuvwxyz"))), x2, some (false, .val (.str (S l0))), some (false, .val (.int way)), some (false, .val (.int (size : Int))), some (false, .val (.int (first : Int))), some (false, .lst (ws.map .str)), none, none, none] =
      .nx [some (true, .lst (s'.map .int)), some (false, .val (.str (Str.ofString "abcdefghijklmnopqrstuvwxyz"))), x2, some (false, .val (.str (S l0))), some (false, .val (.int way)), some (false, .val (.int (size : Int))), some (false, .val (.int (first : Int))), some (false, .lst ((ws ++ [w]).map .str)), none, none, none] := by
  have lz : (S l0).length ≤ sizeLine := by rw [S_len, h0]; decide
  have la : (Str.ofString "abcdefghijklmnopqrstuvwxyz").length ≤ sizeLine := by rw [abc_len]; decide
  have stem_to : ∀ n : Nat, 1 ≤ n → Stem (cutA l0 none (some (n : Int))) := fun n h => ⟨by rw [cut_to_len]; omega, by rw [cut_to_len]; omega, fun c hc => hl c (mem_cut hc)⟩
  obtain ⟨q, hq, hq1⟩ : ∃ q : Nat, (q : Int) = 1 + (k : Int) % 8 ∧ 1 ≤ q := ⟨(1 + (k : Int) % 8).toNat, by omega, by omega⟩
  obtain ⟨n0, hn0, hn01⟩ : ∃ n : Nat, (n : Int) = 1 + (k : Int) / 8 ∧ 1 ≤ n ∧ n ≤ 99 := ⟨(1 + (k : Int) / 8).toNat, by omega, by omega⟩
  have hway : way = 0 ∨ way = 1 ∨ way = 2 ∨ way = 3 := by omega
  rcases hway with rfl | rfl | rfl | rfl
  · obtain ⟨w, hw, e⟩ := word_put (some (true, .lst (s.map .int))) (some (false, .val (.str (Str.ofString "abcdefghijklmnopqrstuvwxyz")))) x2 (some (false, .val (.str (S l0)))) (some (false, .val (.int 0))) (some (false, .val (.int (size : Int)))) (some (false, .val (.int (first : Int)))) (some (false, .val (.int (k : Int)))) ws _ n0 (stem_to q hq1) hn01.1 hn01.2 z
    refine ⟨s, w, hs.mono (by omega), hw, ?_⟩
    rw [hq, hn0] at e
    simp [-List.map_map, -List.map_append, turn_ap, w_l_words_2_1_eq, lz, cutS_S, e]
  · obtain ⟨w, hw, e⟩ := word_put (some (true, .lst (s.map .int))) (some (false, .val (.str (Str.ofString "abcdefghijklmnopqrstuvwxyz")))) x2 (some (false, .val (.str (S l0)))) (some (false, .val (.int 1))) (some (false, .val (.int (size : Int)))) (some (false, .val (.int (first : Int)))) (some (false, .val (.int (k : Int)))) ws _ (1 + k) (stem_to size hsz.1) (by omega) (by omega) z
    refine ⟨s, w, hs.mono (by omega), hw, ?_⟩
    rw [show ((1 + k : Nat) : Int) = 1 + (k : Int) by omega] at e
    simp [-List.map_map, -List.map_append, turn_ap, w_l_words_2_1_eq, lz, cutS_S, e]
  all_goals
    obtain ⟨j, hj, hj1⟩ : ∃ j : Nat, (j : Int) = ((first : Int) + 7 * (k : Int)) % 26 ∧ j < 26 := ⟨(((first : Int) + 7 * (k : Int)) % 26).toNat, by omega, by omega⟩
    have ab := abc_at (i := ((first : Int) + 7 * (k : Int)) % 26) (by omega) (by omega)
    rw [← hj] at ab
    simp only [Int.toNat_natCast] at ab
    have cm := cut_mid_len l0 1 size
    have cat : S [97 + j] ++ S (cutA l0 (some ((1 : Nat) : Int)) (some (size : Int))) = S ((97 + j) :: cutA l0 (some ((1 : Nat) : Int)) (some (size : Int))) := by rw [S_cat]; rfl
    have st : Stem ((97 + j) :: cutA l0 (some ((1 : Nat) : Int)) (some (size : Int))) := ⟨by simp, by simp only [List.length_cons]; omega, fun c hc => by
      rcases List.mem_cons.mp hc with rfl | h
      · omega
      · exact hl c (mem_cut h)⟩
    have zc : (S [97 + j]).length + (S (cutA l0 (some ((1 : Nat) : Int)) (some (size : Int)))).length ≤ sizeLine := by rw [S_len, S_len]; exact Nat.le_trans (show _ ≤ 9 by simp only [List.length_singleton]; omega) (by decide)
    have one : ((1 : Nat) : Int) = 1 := rfl
    rw [one] at cat st zc
  · obtain ⟨w, hw, e⟩ := word_put (some (true, .lst (s.map .int))) (some (false, .val (.str (Str.ofString "abcdefghijklmnopqrstuvwxyz")))) x2 (some (false, .val (.str (S l0)))) (some (false, .val (.int 2))) (some (false, .val (.int (size : Int)))) (some (false, .val (.int (first : Int)))) (some (false, .val (.int (k : Int)))) ws _ 1 st (by omega) (by omega) z
    refine ⟨s, w, hs.mono (by omega), hw, ?_⟩
    rw [one] at e
    have zc' := zc
    have ab' := ab
    have cat' := cat
    unfold S at ab' zc' cat'
    simp [-List.map_map, -List.map_append, turn_ap, w_l_words_2_1_eq, lz, la, cutS_S, ← hj, ab, zc', cat', e]
  · obtain ⟨s1, r, e1, hs1, r0, r1⟩ := l_draw_ex T s 99 hs (by omega) (by omega) (by omega)
    obtain ⟨n, hn, hn1⟩ : ∃ n : Nat, (n : Int) = 1 + r ∧ 1 ≤ n ∧ n ≤ 99 := ⟨(1 + r).toNat, by omega, by omega⟩
    obtain ⟨w, hw, e⟩ := word_put (some (true, .lst (s1.map .int))) (some (false, .val (.str (Str.ofString "abcdefghijklmnopqrstuvwxyz")))) x2 (some (false, .val (.str (S l0)))) (some (false, .val (.int 3))) (some (false, .val (.int (size : Int)))) (some (false, .val (.int (first : Int)))) (some (false, .val (.int (k : Int)))) ws _ n st hn1.1 hn1.2 z
    refine ⟨s1, w, hs1, hw, ?_⟩
    rw [hn] at e
    have zc' := zc
    have ab' := ab
    have cat' := cat
    unfold S at ab' zc' cat'
    simp [-List.map_map, -List.map_append, turn_ap, w_l_words_2_1_eq, lz, la, cutS_S, ← hj, ab, zc', cat', e1, e]
theorem l_words_2_ex (s : List Int) (T : Nat) (hs : Sc T s) (hT : T < 100000) : ∃ (s' : List Int) (ws : List Str), f_l_words_2 [.lst (s.map .int)] = .ret (.lst (ws.map .str)) [.lst (s'.map .int)] ∧ Sc (T + 100) s' ∧ 1 ≤ ws.length ∧ ws.length ≤ 24 ∧ ∀ w ∈ ws, WW w := by
  obtain ⟨s1, r1, e1, hs1, r10, r11⟩ := l_draw_ex T s 3 hs (by omega) (by omega) (by omega)
  obtain ⟨n, hn, hn8⟩ : ∃ n : Nat, atI [PyData.int 8, .int 16, .int 24] r1 = some (.int (n : Int)) ∧ 8 ≤ n ∧ n ≤ 24 := by
    have h3 : r1 = 0 ∨ r1 = 1 ∨ r1 = 2 := by omega
    rcases h3 with rfl | rfl | rfl
    · exact ⟨8, rfl, by omega, by omega⟩
    · exact ⟨16, rfl, by omega, by omega⟩
    · exact ⟨24, rfl, by omega, by omega⟩
  obtain ⟨s2, r2, e2, hs2, r20, r21⟩ := l_draw_ex (T + 1) s1 (n : Int) hs1 (by omega) (by omega) (by omega)
  obtain ⟨cs, s3, c1, c2, hs3, c4⟩ := letters8 (List.range 8) [] (T + 1 + 1) s2 (some (false, .val (.int (1 + r2)))) hs2 (by simp; omega)
  rw [List.length_range] at c1 hs3
  obtain ⟨s4, way, e4, hs4, w0, w4⟩ := l_draw_ex (T + 1 + 1 + 8) s3 4 hs3 (by omega) (by omega) (by omega)
  obtain ⟨s5, r5, e5, hs5, r50, r51⟩ := l_draw_ex (T + 1 + 1 + 8 + 1) s4 8 hs4 (by omega) (by omega) (by omega)
  obtain ⟨s6, r6, e6, hs6, r60, r61⟩ := l_draw_ex (T + 1 + 1 + 8 + 1 + 1) s5 26 hs5 (by omega) (by omega) (by omega)
  obtain ⟨m, hm, hm1⟩ : ∃ m : Nat, (m : Int) = 1 + r2 ∧ 1 ≤ m ∧ m ≤ 24 := ⟨(1 + r2).toNat, by omega, by omega⟩
  obtain ⟨size, hz, hz1⟩ : ∃ m : Nat, (m : Int) = 1 + r5 ∧ 1 ≤ m ∧ m ≤ 8 := ⟨(1 + r5).toNat, by omega, by omega⟩
  obtain ⟨first, hfi, hfi1⟩ : ∃ m : Nat, (m : Int) = r6 ∧ m < 26 := ⟨r6.toNat, by omega, by omega⟩
  obtain ⟨ρ', e7, s7, ws, hs7, hl7, hw7, rfl⟩ := forL_rng (lo := 0) (T := .nm 8) (fg := [8, 9, 10]) (b := w_l_words_2_1)
    (fun k ρ => ∃ (s' : List Int) (ws : List Str), Sc (T + 13 + k) s' ∧ ws.length = k ∧ (∀ w ∈ ws, WW w) ∧ ρ = [some (true, .lst (s'.map .int)), some (false, .val (.str (Str.ofString "abcdefghijklmnopqrstuvwxyz"))), some (false, .val (.int (m : Int))), some (false, .val (.str (S cs))), some (false, .val (.int way)), some (false, .val (.int (size : Int))), some (false, .val (.int (first : Int))), some (false, .lst (ws.map .str)), none, none, none]) m
    [some (true, .lst (s6.map .int)), some (false, .val (.str (Str.ofString "abcdefghijklmnopqrstuvwxyz"))), some (false, .val (.int (m : Int))), some (false, .val (.str (S cs))), some (false, .val (.int way)), some (false, .val (.int (size : Int))), some (false, .val (.int (first : Int))), some (false, .lst []), none, none, none]
    ⟨s6, [], hs6.mono (by omega), rfl, by simp, rfl⟩ (by
    rintro k ρ hk ⟨s', ws, hs', hl, hw, rfl⟩
    obtain ⟨s8, w, hs8, hw8, e8⟩ := word_turn (T + 13 + k) s' cs way size first (some (false, .val (.int (m : Int)))) ws k hs' (by omega) c1 c2 hz1 hfi1 (by omega) w0 w4 (by omega)
    exact ⟨_, e8, s8, ws ++ [w], hs8.mono (by omega), by simp [hl], fun v hv => by
      rcases List.mem_append.mp hv with h | h
      · exact hw v h
      · rw [List.mem_singleton.mp h]; exact hw8, rfl⟩)
  refine ⟨s7, ws, ?_, hs7.mono (by omega), by omega, by omega, hw7⟩
  have jc := join_ones cs
  have js : ((cs.map fun c => S [c]).map (·.length)).sum + (cs.map fun c => S [c]).length * (Str.ofString "").length ≤ 16777216 := by
    rw [nostr, S_len, List.map_map]
    have : (List.map ((fun x : Str => x.length) ∘ fun c => S [c]) cs) = cs.map fun _ => 1 := List.map_congr_left fun k _ => by simp [S_len]
    rw [this, sum_ones]
    simp
    omega
  have jj : joinS (Str.ofString "") (.lst ((cs.map fun c => S [c]).map .str)) = some (.val (.str (S cs))) := by
    unfold joinS
    simp only [seq_lst, Option.bind_some, asStrs_map]
    rw [if_pos js, jc]
  have lw : lcW none (.nm 8) tTrue (o2 ixS (oNm 1) (oCall f_l_draw (oAs [oNm 0, oC (.int 26)]))) [8] (rng 0 8) [some (true, .lst (s2.map .int)), some (false, .val (.str (Str.ofString "abcdefghijklmnopqrstuvwxyz"))), some (false, .val (.int (1 + r2))), none, none, none, none, none, none, none, none] =
      .ok ((cs.map fun c => S [c]).map .str) [some (true, .lst (s3.map .int)), some (false, .val (.str (Str.ofString "abcdefghijklmnopqrstuvwxyz"))), some (false, .val (.int (1 + r2))), none, none, none, none, none, none, none, none] := by
    unfold lcW rng
    rw [if_pos (by simp)]
    simp only [dropE_cons, dropE_nil, dropE1_succ, dropE1_zero']
    rw [c4]
    simp [-List.map_map]
  have hb1 : 1 + r2 ≤ 1000000 := by omega
  have hb2 : (-4611686018427387904 : Int) ≤ 1 + r2 := by omega
  have hmt : (1 + r2).toNat = m := by omega
  rw [hm, hz, hfi] at e7
  simp [-List.map_map, f_l_words_2, b_l_words_2, runF_ap, e1, hn, e2, c_l_words_2_1, lw, jj, e4, e5, e6, hb1, hb2, hmt, e7]
end Eng
/-! The other maker of books, III: rows, books. -/
namespace Eng
open PySem PySem.Spec L2 SX
open PyProof.Rows hiding St
theorem many_at (i : Int) (h0 : 0 ≤ i) (h1 : i < 8) : ∃ n : Nat, n ≤ 8 ∧ atI [PyData.int 0, .int 1, .int 1, .int 2, .int 2, .int 3, .int 8, .int 2] i = some (.int (n : Int)) := by
  have h : i = 0 ∨ i = 1 ∨ i = 2 ∨ i = 3 ∨ i = 4 ∨ i = 5 ∨ i = 6 ∨ i = 7 := by omega
  rcases h with rfl | rfl | rfl | rfl | rfl | rfl | rfl | rfl
  · exact ⟨0, by omega, rfl⟩
  · exact ⟨1, by omega, rfl⟩
  · exact ⟨1, by omega, rfl⟩
  · exact ⟨2, by omega, rfl⟩
  · exact ⟨2, by omega, rfl⟩
  · exact ⟨3, by omega, rfl⟩
  · exact ⟨8, by omega, rfl⟩
  · exact ⟨2, by omega, rfl⟩
/-- a row over these words -/
def Rg (ns : List Str) (r : Row) : Prop := r.1 ∈ ns ∧ r.2.length ≤ 8 ∧ ∀ w ∈ r.2, w ∈ ns
theorem l_row_ex (T : Nat) (s : List Int) (ns : List Str) (i : Int) (bl : Bool) (hs : Sc T s) (hT : T < 800000) (hn : ns ≠ []) (hl : ns.length ≤ 1000) (h0 : 0 ≤ i) (h1 : i < ns.length) :
    ∃ (s' : List Int) (r : Row), f_l_row [.lst (s.map .int), .lst (ns.map .str), .val (.int i), .val (.bool bl)] = .ret (.val (eRow r)) [.lst (s'.map .int), .lst (ns.map .str), .val (.int i), .val (.bool bl)] ∧ Sc (T + 17) s' ∧ Rg ns r := by
  have hp : 0 < ns.length := List.length_pos_iff.mpr hn
  obtain ⟨s1, r1, e1, hs1, r10, r11⟩ := l_draw_ex T s 8 hs (by omega) (by omega) (by omega)
  obtain ⟨n, hn8, hat⟩ := many_at r1 r10 r11
  obtain ⟨w0, ew0, hw0⟩ := at_strs (ns := ns) h0 h1
  obtain ⟨ρ', e, s2, ws, hs2, hwl, hw, rfl⟩ := forL_rng (lo := 0) (T := .nm 5) (fg := [5, 6]) (b := w_l_row_1)
    (fun k ρ => ∃ (s' : List Int) (ws : List Str), Sc (T + 1 + 2 * k) s' ∧ ws.length ≤ k ∧ (∀ w ∈ ws, w ∈ ns) ∧ ρ = [some (true, .lst (s'.map .int)), some (true, .lst (ns.map .str)), some (false, .val (.int i)), some (false, .val (.bool bl)), some (false, .lst (ws.map .str)), none, none]) n
    [some (true, .lst (s1.map .int)), some (true, .lst (ns.map .str)), some (false, .val (.int i)), some (false, .val (.bool bl)), some (false, .lst []), none, none] ⟨s1, [], hs1.mono (by omega), by simp, by simp, rfl⟩ (by
    rintro k ρ hk ⟨s', ws, hs', hwl, hw, rfl⟩
    obtain ⟨s3, r3, e3, hs3, r30, r31⟩ := l_draw_ex (T + 1 + 2 * k) s' ns.length hs' (by omega) (by omega) (by omega)
    obtain ⟨w3, ew3, hw3⟩ := at_strs (ns := ns) r30 r31
    have zz : ws.length < sizeLine := small (m := 100) (by omega)
    -- the word that is put, or not
    have fin : ∀ (s5 : List Int) (w : Str), w ∈ ns → Sc (T + 1 + 2 * (k + 1)) s5 → turn (.nm 5) [5, 6] w_l_row_1 (.int (0 + (k : Nat))) [some (true, .lst (s'.map .int)), some (true, .lst (ns.map .str)), some (false, .val (.int i)), some (false, .val (.bool bl)), some (false, .lst (ws.map .str)), none, none] =
        .nx [some (true, .lst (s5.map .int)), some (true, .lst (ns.map .str)), some (false, .val (.int i)), some (false, .val (.bool bl)), some (false, .lst ((if w ∈ ws then ws else ws ++ [w]).map .str)), none, none] →
        ∃ ρ', turn (.nm 5) [5, 6] w_l_row_1 (.int (0 + (k : Nat))) [some (true, .lst (s'.map .int)), some (true, .lst (ns.map .str)), some (false, .val (.int i)), some (false, .val (.bool bl)), some (false, .lst (ws.map .str)), none, none] = .nx ρ' ∧
          ∃ (s' : List Int) (ws : List Str), Sc (T + 1 + 2 * (k + 1)) s' ∧ ws.length ≤ k + 1 ∧ (∀ w ∈ ws, w ∈ ns) ∧ ρ' = [some (true, .lst (s'.map .int)), some (true, .lst (ns.map .str)), some (false, .val (.int i)), some (false, .val (.bool bl)), some (false, .lst (ws.map .str)), none, none] := fun s5 w hwn hs5 ht => by
      refine ⟨_, ht, s5, _, hs5, ?_, ?_, rfl⟩
      · split
        · omega
        · simp; omega
      · intro v hv
        split at hv
        · exact hw v hv
        · rcases List.mem_append.mp hv with h | h
          · exact hw v h
          · rw [List.mem_singleton.mp h]; exact hwn
    by_cases hbl : bl = true ∧ 0 < i
    · obtain ⟨rfl, hi⟩ := hbl
      obtain ⟨s4, r4, e4, hs4, r40, r41⟩ := l_draw_ex (T + 1 + 2 * k + 1) s3 i hs3 (by omega) hi (by omega)
      obtain ⟨w4, ew4, hw4⟩ := at_strs (ns := ns) (i := r4) r40 (by omega)
      refine fin s4 w4 hw4 (hs4.mono (by omega)) ?_
      by_cases hin : w4 ∈ ws <;> simp [-List.map_map, turn_ap, w_l_row_1, e3, ew3, hi, e4, ew4, hin, zz]
    · refine fin s3 w3 hw3 (hs3.mono (by omega)) ?_
      have hb : bl = false ∨ ¬ 0 < i := by
        cases bl with
        | false => exact .inl rfl
        | true => exact .inr fun h => hbl ⟨rfl, h⟩
      rcases hb with rfl | hb
      · by_cases hin : w3 ∈ ws <;> simp [-List.map_map, turn_ap, w_l_row_1, e3, ew3, hin, zz]
      · cases bl <;> by_cases hin : w3 ∈ ws <;> simp [-List.map_map, turn_ap, w_l_row_1, e3, ew3, hb, hin, zz])
  refine ⟨s2, (w0, ws), ?_, hs2.mono (by omega), hw0, show ws.length ≤ 8 by omega, hw⟩
  have hb : (n : Int) ≤ 1000000 := by omega
  have hb' : (-4611686018427387904 : Int) ≤ n := by omega
  simp [-List.map_map, f_l_row, b_l_row, runF_ap, e1, hat, hb, hb', e, ew0, eRow, eW]
/-- a row is laid behind others, where none is alike -/
def layR (b : List Row) (r : Row) : List Row := if (b.find? fun x => decide (x.1 = r.1) && decide (sortT x.2 = sortT r.2)).isSome then b else b ++ [r]
theorem l_lay_eq (b : List Row) (r : Row) (hb : Bo b) (hr : WW r.1 ∧ r.2.length ≤ 20 ∧ ∀ w ∈ r.2, WW w) : f_l_lay [.lst (b.map eRow), .val (eRow r)] = .ret (.val .none) [.lst ((layR b r).map eRow), .val (eRow r)] := by
  have hrs := hr.2.2
  have z0 : r.2.length ≤ sizeLine := Nat.le_of_lt (small (m := 100) (by omega))
  have e := forLc_find (f := eRow) (T := .nm 2) (fg := [2]) (b := w_l_lay_1) (ρ := [some (true, .lst (b.map eRow)), some (false, .val (eRow r)), none]) (some (0, b.map eRow)) (by simp)
    (fun x => decide (x.1 = r.1) && decide (sortT x.2 = sortT r.2)) (fun x => .rt (.val .none) [some (true, .lst (b.map eRow)), some (false, .val (eRow r)), some (false, .val (eRow x))]) (fun x _ => ⟨_, _, rfl⟩) b (by
    intro x hx
    have hxr := hb.row x hx
    have z1 : x.2.length ≤ sizeLine := Nat.le_of_lt (small (m := 100) (by omega))
    have q := eqS_lsts (a := sortT x.2) (b := sortT r.2) (fun w h => hxr.2.2 w (mem_sortT.mp h)) (fun w h => hrs w (mem_sortT.mp h))
    by_cases h1 : x.1 = r.1
    · by_cases h2 : sortT x.2 = sortT r.2
      · rw [decide_eq_true h2, h2] at q
        simp [-List.map_map, turn_ap, w_l_lay_1, h1, z0, z1, q, h2]
      · rw [decide_eq_false h2] at q
        simp [-List.map_map, turn_ap, w_l_lay_1, h1, z0, z1, q, h2]
    · simp [-List.map_map, turn_ap, w_l_lay_1, h1])
  have z2 : b.length < sizeLine := small (m := 200) hb.len
  unfold layR
  cases h : b.find? fun x => decide (x.1 = r.1) && decide (sortT x.2 = sortT r.2) with
  | some x =>
    rw [h] at e
    simp [-List.map_map, f_l_lay, b_l_lay, runF_ap, e]
  | none =>
    rw [h] at e
    simp [-List.map_map, f_l_lay, b_l_lay, runF_ap, e, z2]
theorem layR_len (b : List Row) (r : Row) : (layR b r).length ≤ b.length + 1 := by
  unfold layR
  split <;> simp
theorem layR_mem {b : List Row} {r x : Row} (h : x ∈ layR b r) : x ∈ b ∨ x = r := by
  unfold layR at h
  split at h
  · exact .inl h
  · exact (List.mem_append.mp h).imp id fun q => List.mem_singleton.mp q
/-- a book of such rows -/
structure Bg (ns : List Str) (n : Nat) (b : List Row) : Prop where
  len : b.length ≤ n
  row : ∀ r ∈ b, Rg ns r
theorem Bg.bo {ns : List Str} {n : Nat} {b : List Row} (h : Bg ns n b) (hn : n ≤ 200) (hw : ∀ w ∈ ns, WW w) : Bo b := ⟨Nat.le_trans h.len hn, fun r hr => by
  have := h.row r hr
  exact ⟨hw _ this.1, by have := this.2.1; omega, fun w h2 => hw _ (this.2.2 w h2)⟩⟩
theorem Bg.lay {ns : List Str} {n : Nat} {b : List Row} {r : Row} (h : Bg ns n b) (hr : Rg ns r) : Bg ns (n + 1) (layR b r) := ⟨Nat.le_trans (layR_len b r) (by have := h.len; omega), fun x hx => by
  rcases layR_mem hx with q | rfl
  · exact h.row x q
  · exact hr⟩
theorem Bg.mono {ns : List Str} {n m : Nat} {b : List Row} (h : Bg ns n b) (hn : n ≤ m) : Bg ns m b := ⟨Nat.le_trans h.len hn, h.row⟩
theorem book_while (ns : List Str) (hn : ns ≠ []) (hl : ns.length ≤ 1000) (hw : ∀ w ∈ ns, WW w) (x1 : Sl) (way : Int) : ∀ (n : Nat) (lf : List Int) (b : List Row), lf.length < n → Bg ns 61 b → ∃ (lf' : List Int) (b' : List Row), Bg ns 61 b' ∧
    sWhile t_l_book_2_2 [7] w_l_book_2_2 [some (true, .lst (lf.map .int)), x1, some (true, .lst (ns.map .str)), some (false, .lst (b.map eRow)), some (false, .val (.int way)), none, none, none] =
      .nx [some (true, .lst (lf'.map .int)), x1, some (true, .lst (ns.map .str)), some (false, .lst (b'.map eRow)), some (false, .val (.int way)), none, none, none]
  | 0, _, _, h, _ => absurd h (Nat.not_lt_zero _)
  | n + 1, lf, b, h, hb => by
    by_cases hc : lf ≠ [] ∧ b.length < 60
    · obtain ⟨h1, h2⟩ := hc
      have hp : 0 < lf.length := List.length_pos_iff.mpr h1
      have hp2 : (0 : Int) < lf.length := by omega
      have h2' : (b.length : Int) < 60 := by omega
      have hnp : 0 < ns.length := List.length_pos_iff.mpr hn
      obtain ⟨s, lf1, e1, hs, hl1⟩ := l_source_ex lf 0
      obtain ⟨s1, r1, e2, hs1, r10, r11⟩ := l_draw_ex 0 s ns.length hs (by omega) (by omega) (by omega)
      obtain ⟨s2, r, e3, hs2, hr⟩ := l_row_ex 1 s1 ns r1 (decide (way = 2)) (by simpa using hs1) (by omega) hn hl r10 r11
      have hbo := hb.bo (by omega) hw
      have e4 := l_lay_eq b r hbo ⟨hw _ hr.1, by have := hr.2.1; omega, fun w h => hw _ (hr.2.2 w h)⟩
      have hb2 : Bg ns 61 (layR b r) := ⟨Nat.le_trans (layR_len b r) (by omega), (hb.lay hr).row⟩
      obtain ⟨lf', b', hb', ih⟩ := book_while ns hn hl hw x1 way n lf1 (layR b r) (by omega) hb2
      refine ⟨lf', b', hb', ?_⟩
      have e0 : (way == 2) = decide (way = 2) := by by_cases h : way = 2 <;> simp [h]
      have te : t_l_book_2_2 [some (true, .lst (lf.map .int)), x1, some (true, .lst (ns.map .str)), some (false, .lst (b.map eRow)), some (false, .val (.int way)), none, none, none] = .ok true [some (true, .lst (lf.map .int)), x1, some (true, .lst (ns.map .str)), some (false, .lst (b.map eRow)), some (false, .val (.int way)), none, none, none] := by
        simp [-List.map_map, t_l_book_2_2, hp, h2', h2]
      have be : w_l_book_2_2 [some (true, .lst (lf.map .int)), x1, some (true, .lst (ns.map .str)), some (false, .lst (b.map eRow)), some (false, .val (.int way)), none, none, none] = .nx [some (true, .lst (lf1.map .int)), x1, some (true, .lst (ns.map .str)), some (false, .lst ((layR b r).map eRow)), some (false, .val (.int way)), none, none, some (false, .lst (s2.map .int))] := by
        simp [-List.map_map, w_l_book_2_2, e1, e2, e0, e3, e4]
      rw [sWhile_turn te (.inl be)]
      exact ih
    · refine ⟨lf, b, hb, ?_⟩
      have te : t_l_book_2_2 [some (true, .lst (lf.map .int)), x1, some (true, .lst (ns.map .str)), some (false, .lst (b.map eRow)), some (false, .val (.int way)), none, none, none] = .ok false [some (true, .lst (lf.map .int)), x1, some (true, .lst (ns.map .str)), some (false, .lst (b.map eRow)), some (false, .val (.int way)), none, none, none] := by
        by_cases h1 : lf = []
        · subst h1
          simp [-List.map_map, t_l_book_2_2]
        · have hp : 0 < lf.length := List.length_pos_iff.mpr h1
          have h2 : ¬ b.length < 60 := fun q => hc ⟨h1, q⟩
          have h2' : ¬ (b.length : Int) < 60 := by omega
          simp [-List.map_map, t_l_book_2_2, hp, h2', h2]
      exact sWhile_done te
theorem l_book_2_ex (T : Nat) (lf s : List Int) (ns : List Str) (hs : Sc T s) (hT : T < 100000) (hn : ns ≠ []) (hl : ns.length ≤ 1000) (hw : ∀ w ∈ ns, WW w) : ∃ (lf' s' : List Int) (b : List Row), f_l_book_2 [.lst (lf.map .int), .lst (s.map .int), .lst (ns.map .str)] = .ret (.val (eBk b)) [.lst (lf'.map .int), .lst (s'.map .int), .lst (ns.map .str)] ∧ Sc (T + 1000) s' ∧ Bg ns 61 b := by
  have hnp : 0 < ns.length := List.length_pos_iff.mpr hn
  have hnp' : (0 : Int) < ns.length := by omega
  obtain ⟨s1, way, e1, hs1, w0, w4⟩ := l_draw_ex T s 4 hs (by omega) (by omega) (by omega)
  obtain ⟨s2, m, e2, hs2, m0, m1⟩ := l_draw_ex (T + 1) s1 25 hs1 (by omega) (by omega) (by omega)
  obtain ⟨k, hk, hk1⟩ : ∃ k : Nat, (k : Int) = m ∧ k < 25 := ⟨m.toNat, by omega, by omega⟩
  obtain ⟨ρ', e3, s3, b3, hs3, hb3, rfl⟩ := forL_rng (lo := 0) (T := .nm 5) (fg := [5, 6]) (b := w_l_book_2_1)
    (fun j ρ => ∃ (s' : List Int) (b : List Row), Sc (T + 2 + 18 * j) s' ∧ Bg ns j b ∧ ρ = [some (true, .lst (lf.map .int)), some (true, .lst (s'.map .int)), some (true, .lst (ns.map .str)), some (false, .lst (b.map eRow)), some (false, .val (.int way)), none, none, none]) k
    [some (true, .lst (lf.map .int)), some (true, .lst (s2.map .int)), some (true, .lst (ns.map .str)), some (false, .lst []), some (false, .val (.int way)), none, none, none] ⟨s2, [], hs2.mono (by omega), ⟨by simp, by simp⟩, rfl⟩ (by
    rintro j ρ hj ⟨s', b, hs', hb, rfl⟩
    obtain ⟨s4, a, e4, hs4, a0, a1⟩ := l_draw_ex (T + 2 + 18 * j) s' ns.length hs' (by omega) (by omega) (by omega)
    have hbo := hb.bo (by omega) hw
    have step : ∀ i : Int, 0 ≤ i → i < ns.length → (∀ x6 : Sl, True) → ∃ (s5 : List Int) (r : Row), f_l_row [.lst (s4.map .int), .lst (ns.map .str), .val (.int i), .val (.bool (decide (1 < way)))] = .ret (.val (eRow r)) [.lst (s5.map .int), .lst (ns.map .str), .val (.int i), .val (.bool (decide (1 < way)))] ∧ Sc (T + 2 + 18 * (j + 1)) s5 ∧ Rg ns r ∧ f_l_lay [.lst (b.map eRow), .val (eRow r)] = .ret (.val .none) [.lst ((layR b r).map eRow), .val (eRow r)] := fun i h0 h1 _ => by
      obtain ⟨s5, r, e5, hs5, hr⟩ := l_row_ex (T + 2 + 18 * j + 1) s4 ns i (decide (1 < way)) hs4 (by omega) hn hl h0 h1
      exact ⟨s5, r, e5, hs5.mono (by omega), hr, l_lay_eq b r hbo ⟨hw _ hr.1, by have := hr.2.1; omega, fun w h => hw _ (hr.2.2 w h)⟩⟩
    by_cases h3 : way = 3
    · subst h3
      have q1 := Int.emod_nonneg (j : Int) (show (ns.length : Int) ≠ 0 by omega)
      have q2 := Int.emod_lt_of_pos (j : Int) hnp'
      obtain ⟨s5, r, e5, hs5, hr, e6⟩ := step ((j : Int) % ns.length) q1 q2 (fun _ => trivial)
      simp at e5
      refine ⟨_, ?_, s5, layR b r, hs5, hb.lay hr, rfl⟩
      simp [-List.map_map, turn_ap, w_l_book_2_1, e4, hnp, hnp', e5, e6]
    · obtain ⟨s5, r, e5, hs5, hr, e6⟩ := step a a0 a1 (fun _ => trivial)
      refine ⟨_, ?_, s5, layR b r, hs5, hb.lay hr, rfl⟩
      simp [-List.map_map, turn_ap, w_l_book_2_1, e4, h3, e5, e6])
  obtain ⟨lf', b', hb', e7⟩ := book_while ns hn hl hw (some (true, .lst (s3.map .int))) way (lf.length + 1) lf b3 (by omega) (hb3.mono (by omega))
  refine ⟨lf', s3, b', ?_, hs3.mono (by omega), hb'⟩
  have hb1 : m ≤ 1000000 := by omega
  have hb2 : (-4611686018427387904 : Int) ≤ m := by omega
  have hmt : m.toNat = k := by omega
  simp [-List.map_map, f_l_book_2, b_l_book_2, runF_ap, e1, e2, hb1, hb2, hmt, e3, e7, eBk]
end Eng
/-! The other maker of books, IV: wider books. -/
namespace Eng
open PySem PySem.Spec L2 SX
open PyProof.Rows hiding St
theorem l_all_eq (b : List Row) (hb : Bo b) : f_l_all [.val (eBk b)] = .ret (.lst ((wds b).map .str)) [.val (eBk b)] := words_of_eq b hb
theorem Bg.wds_sub {ns : List Str} {n : Nat} {b : List Row} (h : Bg ns n b) {w : Str} (hw : w ∈ wds b) : w ∈ ns := by
  obtain ⟨r, hr, rfl | q⟩ := wds_mem.mp hw
  · exact (h.row r hr).1
  · exact (h.row r hr).2.2 w q
theorem erase_map {α β : Type} (f : α → β) : ∀ (xs : List α) (i : Nat), (xs.map f).eraseIdx i = (xs.eraseIdx i).map f
  | [], _ => rfl
  | _ :: _, 0 => rfl
  | x :: xs, i + 1 => by simp [erase_map f xs i]
theorem pop_at (ws : List Str) (i : Int) (h0 : 0 ≤ i) (h1 : i < ws.length) : ∃ w, w ∈ ws ∧ popAtS (.lst (ws.map PyData.str)) [.int i] = some (.lst ((ws.eraseIdx i.toNat).map PyData.str), .str w) ∧ (ws.eraseIdx i.toNat).length = ws.length - 1 ∨ (1000000 : Int) < ws.length := by
  by_cases hz : (1000000 : Int) < ws.length
  · exact ⟨Str.ofString "", .inr hz⟩
  · have hl : i.toNat < ws.length := by omega
    refine ⟨ws[i.toNat], .inl ⟨List.getElem_mem hl, ?_, ?_⟩⟩
    · unfold popAtS
      simp only
      rw [if_pos ⟨h0, by omega⟩, List.getElem?_map, List.getElem?_eq_getElem hl]
      have e : (ws.map PyData.str).eraseIdx i.toNat = (ws.eraseIdx i.toNat).map PyData.str := erase_map ..
      simp only [Option.map_some]
      rw [e]
    · rw [List.length_eraseIdx]
      simp [hl]
/-- the pictured words -/
def pcd (b : List Row) : List Str := heads (b.filter fun r => decide (r.2 = []))
theorem l_widened_3_ex (T : Nat) (s : List Int) (ns : List Str) (b : List Row) (hs : Sc T s) (hT : T < 200000) (hl : ns.length ≤ 24) (hw : ∀ w ∈ ns, WW w) (hb : Bg ns 61 b) : ∃ (s' : List Int) (b' : List Row), f_l_widened_3 [.lst (s.map .int), .val (eBk b)] = .ret (.val (eBk b')) [.lst (s'.map .int), .val (eBk b)] ∧ Sc (T + 100) s' ∧ Bg ns 85 b' := by
  have hbo := hb.bo (by omega) hw
  obtain ⟨s1, r1, e1, hs1, r10, r11⟩ := l_draw_ex T s 8 hs (by omega) (by omega) (by omega)
  by_cases h1 : r1 = 1
  · subst h1
    obtain ⟨s2, r2, e2, hs2, r20, r21⟩ := l_draw_ex (T + 1) s1 2 hs1 (by omega) (by omega) (by omega)
    have hN : (wds b).length ≤ 24 := Nat.le_trans (sub_len (wds_nodup b) fun w h => hb.wds_sub h) hl
    have c1 := lc_if (f := eRow) (c := none) (T := .nm 8) (t := (tV (o2 eqS (o2 ixS (oNm 8) (oC (.int 1))) (oTup (oAs []))))) (g := o2 ixS (oNm 8) (oC (.int 0))) (own := [8])
      (ρ := [some (true, .lst (s2.map .int)), some (false, .val (eBk b)), some (false, .val (.int (1 + r2))), none, none, none, none, none, none])
      (fun r => decide (r.2 = [])) (fun r => .str r.1) b (by simp) (by
      intro r hr
      have q := eqS_tups (a := r.2) (b := []) (hbo.row r hr).2.2 (by simp)
      simp at q
      have q' : eqS (.val (eW r.2)) (.val (.tuple [])) = some (.val (.bool (decide (r.2 = [])))) := q
      cases h : decide (r.2 = []) <;> simp only [h] at q' <;> simp [-List.map_map, lturn_ap, q'])
    rw [hd_map] at c1
    simp [-List.map_map] at c1
    obtain ⟨ρ', e3, s3, pool, more, hs3, hpl, hpw, hml, hmr, rfl⟩ := forL_rng (lo := 0) (T := .nm 6) (fg := [6, 7]) (b := w_l_widened_3_1)
      (fun k ρ => ∃ (s' : List Int) (pool : List Str) (more : List Row), Sc (T + 2 + 2 * k) s' ∧ pool.length + k = (wds b).length ∧ (∀ w ∈ pool, w ∈ wds b) ∧ more.length ≤ k ∧ (∀ r ∈ more, r.1 ∈ ns ∧ r.2 = []) ∧
        ρ = [some (true, .lst (s'.map .int)), some (false, .val (eBk b)), some (false, .val (.int (1 + r2))), some (false, .lst ((pcd b).map .str)), some (false, .lst (pool.map .str)), some (false, .lst (more.map eRow)), none, none, none]) (wds b).length
      [some (true, .lst (s2.map .int)), some (false, .val (eBk b)), some (false, .val (.int (1 + r2))), some (false, .lst ((pcd b).map .str)), some (false, .lst ((wds b).map .str)), some (false, .lst []), none, none, none] ⟨s2, wds b, [], hs2.mono (by omega), rfl, fun _ h => h, by simp, by simp, rfl⟩ (by
      rintro k ρ hk ⟨s', pool, more, hs', hpl, hpw, hml, hmr, rfl⟩
      obtain ⟨s4, a, e4, hs4, a0, a1⟩ := l_draw_ex (T + 2 + 2 * k) s' pool.length hs' (by omega) (by omega) (by omega)
      obtain ⟨w, hp⟩ := pop_at pool a a0 a1
      rcases hp with ⟨hwp, hp, hpl2⟩ | hp
      · have hsub : ∀ v ∈ pool.eraseIdx a.toNat, v ∈ wds b := fun v hv => hpw v (List.mem_of_mem_eraseIdx hv)
        have z : more.length < sizeLine := small (m := 200) (by omega)
        have er : PyData.tuple [.str w, .tuple []] = eRow (w, []) := rfl
        by_cases hin : w ∈ pcd b
        · refine ⟨_, ?_, s4, pool.eraseIdx a.toNat, more, hs4.mono (by omega), by omega, hsub, by omega, hmr, rfl⟩
          simp [-List.map_map, turn_ap, w_l_widened_3_1, e4, hp, hin]
        · obtain ⟨s5, r5, e5, hs5, r50, r51⟩ := l_draw_ex (T + 2 + 2 * k + 1) s4 (1 + r2) hs4 (by omega) (by omega) (by omega)
          by_cases h5 : r5 = 0
          · subst h5
            refine ⟨_, ?_, s5, pool.eraseIdx a.toNat, more ++ [(w, [])], hs5.mono (by omega), by omega, hsub, by simp; omega, ?_, rfl⟩
            · simp [-List.map_map, turn_ap, w_l_widened_3_1, e4, hp, hin, e5, z, er]
            · intro r hr
              rcases List.mem_append.mp hr with q | q
              · exact hmr r q
              · rw [List.mem_singleton.mp q]
                exact ⟨hb.wds_sub (hpw w hwp), rfl⟩
          · refine ⟨_, ?_, s5, pool.eraseIdx a.toNat, more, hs5.mono (by omega), by omega, hsub, by omega, hmr, rfl⟩
            simp [-List.map_map, turn_ap, w_l_widened_3_1, e4, hp, hin, e5, h5]
      · omega)
    have hbl := hb.len
    refine ⟨s3, b ++ more, ?_, hs3.mono (by omega), ⟨by simp; omega, fun r hr => ?_⟩⟩
    · have z3 : b.length + more.length ≤ sizeLine := Nat.le_of_lt (small (m := 200) (by omega))
      have z4 : ((wds b).length : Int) ≤ 1000000 := by omega
      have z5 : (-4611686018427387904 : Int) ≤ (wds b).length := by omega
      have ep : heads (b.filter fun r => decide (r.2 = [])) = pcd b := rfl
      rw [ep] at c1
      simp [-List.map_map, f_l_widened_3, b_l_widened_3, runF_ap, e1, e2, c_l_widened_3_1, c1, l_all_eq b hbo, z4, z5, e3, addS_bk, z3]
    · rcases List.mem_append.mp hr with q | q
      · exact hb.row r q
      · obtain ⟨q1, q2⟩ := hmr r q
        exact ⟨q1, by simp [q2], by simp [q2]⟩
  · exact ⟨s1, b, by simp [-List.map_map, f_l_widened_3, b_l_widened_3, runF_ap, e1, h1], hs1.mono (by omega), hb.mono (by omega)⟩
/-- a book with few words, of such rows -/
theorem Bg.bf {ns : List Str} {n : Nat} {b : List Row} (h : Bg ns n b) (hn : n ≤ 100) (hw : ∀ w ∈ ns, WW w) : Bf b := ⟨h.bo (by omega) hw, by
  have h1 := tw_len (b := b) (k := 8) fun r hr => (h.row r hr).2.1
  have h2 := h.len
  simp only [heads, List.length_map]
  omega⟩
end Eng
/-! Law k13. -/
namespace Eng
open PySem PySem.Spec L2 SX
open PyProof.Rows hiding St
/-! ### steps that are drawn -/
theorem cutA_map {α β : Type} (f : α → β) (xs : List α) (lo hi : Option Int) : cutA (xs.map f) lo hi = (cutA xs lo hi).map f := by
  unfold cutA
  rw [List.length_map, ← List.map_drop, ← List.map_take]
end Eng
/-! Law k22. -/
namespace Eng
open PySem PySem.Spec L2 SX
open PyProof.Rows hiding St
@[simp] theorem slS_scr (ns : List Int) (lo hi : Option Int) : slS lo hi (.scr ns) = some (.lst (cutA (ns.map PyData.int) lo hi)) := rfl
@[simp] theorem listRevS_lst (ds : List D) : listRevS (.lst ds) = some (.lst ds.reverse) := rfl
/-- the books of the laws k21 to k46 -/
theorem books_ex (ns : List Int) : ∃ (lf lf1 s1 s2 lf2 s3 s4 : List Int) (ws : List Str) (b1 b : List Row), (cutA (ns.map PyData.int) none (some 200)).reverse = lf.map .int ∧ f_l_source [.lst (lf.map .int), .val (.int 1)] = .ret (.lst (s1.map .int)) [.lst (lf1.map .int), .val (.int 1)] ∧
    f_l_words_2 [.lst (s1.map .int)] = .ret (.lst (ws.map .str)) [.lst (s2.map .int)] ∧ f_l_book_2 [.lst (lf1.map .int), .lst (s2.map .int), .lst (ws.map .str)] = .ret (.val (eBk b1)) [.lst (lf2.map .int), .lst (s3.map .int), .lst (ws.map .str)] ∧
    f_l_widened_3 [.lst (s3.map .int), .val (eBk b1)] = .ret (.val (eBk b)) [.lst (s4.map .int), .val (eBk b1)] ∧ Bg ws 85 b ∧ 1 ≤ ws.length ∧ ws.length ≤ 24 ∧ ∀ w ∈ ws, WW w := by
  have e0 : (cutA (ns.map PyData.int) none (some 200)).reverse = (cutA ns none (some 200)).reverse.map .int := by rw [cutA_map, List.map_reverse]
  obtain ⟨s1, lf1, e1, h1, _⟩ := l_source_ex (cutA ns none (some 200)).reverse 1
  obtain ⟨s2, ws, e2, h2, w1, w24, hw⟩ := l_words_2_ex s1 0 h1 (by omega)
  have hne : ws ≠ [] := fun h => by rw [h] at w1; simp at w1
  obtain ⟨lf2, s3, b1, e3, h3, hb1⟩ := l_book_2_ex 100 lf1 s2 ws (by simpa using h2) (by omega) hne (by omega) hw
  obtain ⟨s4, b, e4, h4, hb⟩ := l_widened_3_ex 1100 s3 ws b1 (by simpa using h3) (by omega) w24 hw hb1
  exact ⟨_, lf1, s1, s2, lf2, s3, s4, ws, b1, b, e0, e1, e2, e3, e4, hb, w1, w24, hw⟩
/-! ### best rows -/
structure Ib (b : List Row) (n : Nat) (B : Cs) : Prop where
  kn : Kn b (B.map (·.1))
  val : ∀ w i, cget B w = some i → ∃ k : Nat, i = (k : Int) ∧ k < n ∧ ∃ r, b[k]? = some r ∧ r.1 = w ∧ ∃ c, cget (csts b) w = some c ∧ pby (csts b) r.2 = some c
  all : ∀ k r, k < n → b[k]? = some r → ∀ c, cget (csts b) r.1 = some c → pby (csts b) r.2 = some c → r.1 ∈ B.map (·.1)
end Eng
/-! Law k21. -/
namespace Eng
open PySem PySem.Spec L2 SX
open PyProof.Rows hiding St
noncomputable def cSm (g : FSem) : ES :=
  oLc (iRng1 (oAs [o1 lenS (oNm 1)])) (.nm 2) (tTrue) (oCall g (oAs [o2 ixS (oNm 0) (oNm 2), o2 ixS (oNm 1) (oNm 2)])) [2]
noncomputable def bSm (g : FSem) : SS :=
  (sSeq (sIf (tV (o1 (isiS "tuple") (oNm 1)))
    (sSeq (sIf (tOrC (tNotC (tV (o1 (isiS "tuple") (oNm 0)))) (tV (o2 neS (o1 lenS (oNm 0)) (o1 lenS (oNm 1)))))
      (sRet (oC (.bool false)))
      sNil)
    (sRet (o1 allS (cSm g))))
    sNil)
  (sSeq (sIf (tV (o1 (isiS "list") (oNm 1)))
    (sSeq (sIf (tOrC (tNotC (tV (o1 (isiS "list") (oNm 0)))) (tV (o2 neS (o1 lenS (oNm 0)) (o1 lenS (oNm 1)))))
      (sRet (oC (.bool false)))
      sNil)
    (sRet (o1 allS (cSm g))))
    sNil)
  (sSeq (sIf (tV (o2 isS (oNm 1) (oC .none)))
    (sRet (o2 isS (oNm 0) (oC .none)))
    sNil)
  (sSeq (sIf (tV (o1 (isiS "str") (oNm 1)))
    (sRet (oAnd (o1 (isiS "str") (oNm 0)) (o2 eqS (oNm 0) (oNm 1))))
    sNil)
  (sRet (oAnd (o1 (isiS "int") (oNm 0)) (oAnd (oNot (o1 (isiS "bool") (oNm 0))) (o2 eqS (oNm 0) (oNm 1)))))))))
def Sm (g : FSem) (o : O) : Prop := g [o, o] = .ret (.val (.bool true)) [o, o]
theorem sm_str (g : FSem) (x : Str) : Sm (runF 3 (bSm g)) (.val (.str x)) := by
  have k1 : isiS "tuple" (.val (.str x)) = some (.val (.bool false)) := rfl
  have k2 : isiS "list" (.val (.str x)) = some (.val (.bool false)) := rfl
  have k3 : isiS "str" (.val (.str x)) = some (.val (.bool true)) := rfl
  have k4 : isS (.val (.str x)) (.val .none) = some (.val (.bool false)) := rfl
  simp [Sm, bSm, runF_ap, k1, k2, k3, k4]
theorem allS_tt (n : Nat) : allS (.lst ((List.range n).map fun _ => PyData.bool true)) = some (.val (.bool true)) := by
  have h := allS_map (fun _ : Nat => true) (List.range n)
  rw [h]
  simp
end Eng
/-! Law k14. -/
namespace Eng
open PySem PySem.Spec L2 SX
open PyProof.Rows hiding St
/-- the words told in a word's rows -/
def tolds (b : List Row) (w : Str) : List (List Str) := (b.filter fun r => decide (r.1 = w)).map (·.2)
theorem Bf.rev {b : List Row} (h : Bf b) : Bf b.reverse := ⟨⟨by rw [List.length_reverse]; exact h.bo.len, fun r hr => h.bo.row r (List.mem_reverse.mp hr)⟩, by
  have h1 : (heads b.reverse).length = (heads b).length := by simp [heads]
  have h2 : (tw b.reverse).length = (tw b).length := by
    unfold tw
    rw [List.map_reverse, List.length_flatten, List.length_flatten, List.map_reverse, List.sum_reverse]
  have := h.few
  omega⟩
end Eng
/-! Dicts from texts to anything; which words lean on which. -/
namespace Eng
open PySem PySem.Spec L2 SX
open PyProof.Rows hiding St
theorem sq_nx {a c : SS} {ρ ρ1 : En} (h : a ρ = .nx ρ1) : sSeq a c ρ = c ρ1 := by simp [h]
section
variable {β : Type} (f : β → D)
def gget (C : List (Str × β)) (w : Str) : Option β := (C.find? fun e => decide (e.1 = w)).map (·.2)
def gput (C : List (Str × β)) (w : Str) (v : β) : List (Str × β) := if w ∈ C.map (·.1) then C.map (fun e => if e.1 = w then (e.1, v) else e) else C ++ [(w, v)]
theorem dget_sd (C : List (Str × β)) (w : Str) : dget (sd f C) (.str w) = (gget C w).map f := by
  unfold dget sd gget
  rw [List.find?_map]
  have : ((fun e : D × D => PyData.eqv e.1 (.str w)) ∘ fun e : Str × β => ((.str e.1, f e.2) : D × D)) = fun e : Str × β => decide (e.1 = w) := by
    funext e
    exact eqv_s _ _
  rw [this]
  cases C.find? fun e => decide (e.1 = w) <;> rfl
theorem dput_sd (C : List (Str × β)) (w : Str) (v : β) : dput (sd f C) (.str w) (f v) = sd f (gput C w v) := by
  unfold dput gput
  rw [dhas_sd f C w]
  by_cases hm : w ∈ C.map (·.1)
  · simp only [hm, decide_true, if_true]
    unfold sd
    rw [List.map_map, List.map_map]
    refine List.map_congr_left fun e _ => ?_
    simp only [Function.comp, eqv_s]
    by_cases hw : e.1 = w <;> simp [hw]
  · simp only [hm, decide_false, Bool.false_eq_true, if_false]
    unfold sd
    rw [List.map_append]
    rfl
theorem len_sd (C : List (Str × β)) : (sd f C).length = C.length := by simp [sd]
theorem ixS_sd (x : Str) (C : List (Str × β)) : ixS (.dic (sd f C)) (.val (.str x)) = (gget C x).map fun i => .val (f i) := by
  show (if dOk (sd f C) (.str x) = true then (dget (sd f C) (.str x)).map O.val else none) = _
  rw [if_pos (dOk_sd _ _ _), dget_sd, Option.map_map]
  rfl
theorem setS_sd (x : Str) (v : β) (C : List (Str × β)) : setS (.dic (sd f C)) (.str x) (f v) = if C.length < sizeLine then some (.dic (sd f (gput C x v))) else none := by
  unfold setS
  simp only [dOk_sd, dput_sd, len_sd, true_and]
end
section
variable {β : Type}
theorem gget_none {C : List (Str × β)} {w : Str} : gget C w = none ↔ w ∉ C.map (·.1) := by
  unfold gget
  rw [Option.map_eq_none_iff, List.find?_eq_none]
  simp only [decide_eq_true_eq, List.mem_map, not_exists, not_and]
theorem gget_cons (e : Str × β) (C : List (Str × β)) (w : Str) : gget (e :: C) w = if e.1 = w then some e.2 else gget C w := by
  unfold gget
  rw [List.find?_cons]
  by_cases h : e.1 = w <;> simp [h]
theorem gget_app (C : List (Str × β)) (w v : Str) (x : β) : gget (C ++ [(w, x)]) v = match gget C v with | some y => some y | none => if w = v then some x else none := by
  induction C with
  | nil => rw [List.nil_append, gget_cons]; rfl
  | cons e C ih =>
    rw [List.cons_append, gget_cons, gget_cons, ih]
    by_cases h : e.1 = v <;> simp [h]
theorem gget_map (C : List (Str × β)) (w v : Str) (x : β) : gget (C.map fun e => if e.1 = w then (e.1, x) else e) v = if v = w ∧ w ∈ C.map (·.1) then some x else gget C v := by
  induction C with
  | nil => simp [gget]
  | cons e C ih =>
    rw [List.map_cons, gget_cons, gget_cons, ih]
    by_cases h1 : e.1 = w
    · by_cases h2 : v = w
      · subst h2; simp [h1]
      · have h3 : ¬ e.1 = v := fun q => h2 (q.symm.trans h1)
        have h4 : ¬ w = v := fun q => h2 q.symm
        simp [h1, h2, h3, h4]
    · by_cases h2 : v = w
      · subst h2
        have h3 : ¬ v = e.1 := fun q => h1 q.symm
        have h4 : (v ∈ (e :: C).map (·.1)) ↔ v ∈ C.map (·.1) := by
          rw [List.map_cons, List.mem_cons]
          exact ⟨fun h => h.resolve_left h3, .inr⟩
        simp only [h1, if_false, h4]
      · by_cases h3 : e.1 = v <;> simp [h1, h2, h3]
theorem gget_put (C : List (Str × β)) (w v : Str) (x : β) : gget (gput C w x) v = if v = w then some x else gget C v := by
  unfold gput
  split
  · rename_i h
    rw [gget_map]
    by_cases hv : v = w <;> simp [hv, h]
  · rename_i h
    rw [gget_app]
    by_cases hv : v = w
    · subst hv
      simp [gget_none.mpr h]
    · have h2 : ¬ w = v := fun q => hv q.symm
      cases gget C v <;> simp [hv, h2]
theorem gput_keys (C : List (Str × β)) (w : Str) (x : β) : (gput C w x).map (·.1) = addT (C.map (·.1)) w := by
  unfold gput addT
  by_cases h : w ∈ C.map (·.1)
  · simp only [h, if_true]
    rw [List.map_map]
    refine List.map_congr_left fun e _ => ?_
    by_cases hw : e.1 = w <;> simp [hw]
  · simp only [h, if_false, List.map_append, List.map_cons, List.map_nil]
end
theorem addT_old {k : List Str} {w : Str} (h : w ∈ k) : addT k w = k := by unfold addT; rw [if_pos h]
/-! ### straight -/
/-- the words told in a word's rows -/
def tl (b : List Row) (w : Str) : List Str := (tolds b w).flatten
theorem tl_mem {b : List Row} {w v : Str} : v ∈ tl b w ↔ ∃ r ∈ b, r.1 = w ∧ v ∈ r.2 := by
  unfold tl tolds
  simp only [List.mem_flatten, List.mem_map, List.mem_filter, decide_eq_true_eq]
  constructor
  · rintro ⟨l, ⟨r, ⟨h1, h2⟩, rfl⟩, h3⟩
    exact ⟨r, h1, h2, h3⟩
  · rintro ⟨r, h1, h2, h3⟩
    exact ⟨r.2, ⟨r, ⟨h1, h2⟩, rfl⟩, h3⟩
theorem tl_snoc (b : List Row) (r : Row) (w : Str) : tl (b ++ [r]) w = tl b w ++ if r.1 = w then r.2 else [] := by
  unfold tl tolds
  rw [List.filter_append, List.map_append, List.flatten_append]
  by_cases h : r.1 = w <;> simp [h]
theorem tl_len (b : List Row) (w : Str) : (tl b w).length ≤ (tw b).length := by
  unfold tl tolds tw
  induction b with
  | nil => simp
  | cons r b ih =>
    rw [List.filter_cons]
    split
    · simp only [List.map_cons, List.flatten_cons, List.length_append]
      omega
    · simp only [List.map_cons, List.flatten_cons, List.length_append]
      omega
abbrev Ld := List (Str × List Str)
/-- all words, each with the words told in its rows -/
structure Sg (ks : List Str) (b : List Row) (C : Ld) : Prop where
  keys : C.map (·.1) = ks
  get : ∀ w ∈ ks, gget C w = some (tl b w)
theorem keys_len {ks : List Str} {b : List Row} {C : Ld} (h : Sg ks b C) : C.length = ks.length := by
  rw [← h.keys, List.length_map]
theorem straight_ex (b : List Row) (hB : Bf b) : ∃ C, Sg (wds b) b C ∧ f_straight [.val (eBk b)] = .ret (.dic (sd eL C)) [.val (eBk b)] := by
  have hb := hB.bo
  have hW := wds_few hB
  have hnd := wds_nodup b
  obtain ⟨ρ1, e1, C1, ⟨k1, g1⟩, rfl⟩ := forL_all (f := PyData.str) (T := .nm 2) (fg := [2]) (b := w_straight_1)
    (fun done ρ => ∃ C : Ld, (C.map (·.1) = done ∧ ∀ w ∈ done, gget C w = some []) ∧ ρ = [some (false, .val (eBk b)), some (false, .dic (sd eL C)), none, none]) (wds b)
    [some (false, .val (eBk b)), some (false, .dic []), none, none] ⟨[], ⟨rfl, by simp⟩, rfl⟩ (by
    rintro done w rest ρ he ⟨C, ⟨hk, hg⟩, rfl⟩
    have hw : w ∉ done := fun h => by
      rw [he] at hnd
      exact (List.nodup_append.mp hnd).2.2 w h w (by simp) rfl
    have z : C.length < sizeLine := small (m := 2000) (by
      have h1 := congrArg List.length hk
      have h2 := congrArg List.length he
      simp at h1 h2
      omega)
    have q := setS_sd eL w [] C
    rw [if_pos z] at q
    have q : setS (.dic (sd eL C)) (.str w) (.list []) = _ := q
    refine ⟨_, ?_, gput C w [], ⟨?_, fun v hv => ?_⟩, rfl⟩
    · simp [-List.map_map, turn_ap, w_straight_1, q]
    · rw [gput_keys, hk, addT_new hw]
    · rw [gget_put]
      split
      · rfl
      · rename_i hvw
        exact hg v ((List.mem_append.mp hv).resolve_right fun h => hvw (List.mem_singleton.mp h)))
  obtain ⟨ρ2, e2, C2, ⟨k2, g2⟩, rfl⟩ := forL_all (f := eRow) (T := .tup [2, 3]) (fg := [2, 3]) (b := w_straight_2)
    (fun done ρ => ∃ C : Ld, (C.map (·.1) = wds b ∧ ∀ w ∈ wds b, gget C w = some (tl done w)) ∧ ρ = [some (false, .val (eBk b)), some (false, .dic (sd eL C)), none, none]) b
    [some (false, .val (eBk b)), some (false, .dic (sd eL C1)), none, none] ⟨C1, ⟨k1, fun w hw => by rw [g1 w hw]; rfl⟩, rfl⟩ (by
    rintro done r rest ρ he ⟨C, ⟨hk, hg⟩, rfl⟩
    have hr : r ∈ b := by rw [he]; simp
    have hrw : r.1 ∈ wds b := wds_mem.mpr ⟨r, hr, .inl rfl⟩
    have z : C.length < sizeLine := small (m := 2000) (by
      have h1 := congrArg List.length hk
      simp at h1
      omega)
    have z2 : (tl done r.1).length + r.2.length ≤ sizeLine := Nat.le_of_lt (small (m := 3000) (by
      have h1 := tl_len done r.1
      have h2 : (tw done).length ≤ (tw b).length := by rw [he]; unfold tw; simp
      have h3 := hB.few
      have h4 := (hb.row r hr).2.1
      omega))
    have i1 := ixS_sd eL r.1 C
    rw [hg _ hrw] at i1
    have q := setS_sd eL r.1 (tl done r.1 ++ r.2) C
    rw [if_pos z] at q
    have ad : addS (.val (eL (tl done r.1))) (.lst (r.2.map .str)) = some (.lst ((tl done r.1 ++ r.2).map .str)) := by
      unfold eL
      rw [addS_vl, List.length_map, List.length_map, if_pos z2, List.map_append]
    refine ⟨_, ?_, gput C r.1 (tl done r.1 ++ r.2), ⟨?_, fun v hv => ?_⟩, rfl⟩
    · simp only [Option.map_some] at i1
      simp [-List.map_map, -List.map_append, turn_ap, w_straight_2, i1, ad, q]
    · rw [gput_keys, hk]
      exact addT_old hrw
    · rw [gget_put, tl_snoc]
      split
      · rename_i hvw
        rw [hvw, if_pos rfl]
      · rename_i hvw
        rw [if_neg fun h => hvw h.symm, List.append_nil]
        exact hg v hv)
  refine ⟨C2, ⟨k2, g2⟩, ?_⟩
  simp [-List.map_map, f_straight, b_straight, runF_ap, words_of_eq b hb, e1, e2]
end Eng
/-! Which words lean on which, II. -/
namespace Eng
open PySem PySem.Spec L2 SX
open PyProof.Rows hiding St
/-- w leans on v, straight or through others -/
inductive Rc (b : List Row) (w : Str) : Str → Prop
  | st {r : Row} {v : Str} (hr : r ∈ b) (h : r.1 = w) (hv : v ∈ r.2) : Rc b w v
  | go {r : Row} {v : Str} (hr : r ∈ b) (h : Rc b w r.1) (hv : v ∈ r.2) : Rc b w v
theorem Rc.wds {b : List Row} {w v : Str} (h : Rc b w v) : v ∈ wds b := by
  cases h with
  | st hr _ hv => exact wds_mem.mpr ⟨_, hr, .inr hv⟩
  | go hr _ hv => exact wds_mem.mpr ⟨_, hr, .inr hv⟩
theorem Rc.tl {b : List Row} {w u v : Str} (h : Rc b w u) (hv : v ∈ tl b u) : Rc b w v := by
  obtain ⟨r, hr, e, hv⟩ := tl_mem.mp hv
  exact .go hr (e ▸ h) hv
theorem Rc.tl0 {b : List Row} {w v : Str} (hv : v ∈ Eng.tl b w) : Rc b w v := by
  obtain ⟨r, hr, e, hv⟩ := tl_mem.mp hv
  exact .st hr e hv
@[simp] theorem seq_eL (ws : List Str) : (O.val (eL ws)).seq? = some (ws.map .str) := rfl
/-- on the way from w -/
structure Mt (b : List Row) (w : Str) (met fresh : List Str) : Prop where
  nd : met.Nodup
  m : ∀ v ∈ met, Rc b w v
  f : ∀ v ∈ fresh, Rc b w v
  a : ∀ v ∈ Eng.tl b w, v ∈ met ∨ v ∈ fresh
  c : ∀ u ∈ met, ∀ v ∈ Eng.tl b u, v ∈ met ∨ v ∈ fresh
  z : fresh.length ≤ 2000 * (met.length + 1)
theorem Mt.len {b : List Row} {w : Str} {met fresh : List Str} (h : Mt b w met fresh) (hW : (wds b).length ≤ 2000) : met.length ≤ 2000 :=
  Nat.le_trans (sub_len h.nd fun v hv => (h.m v hv).wds) hW
end Eng
/-! Which words lean on which, III: under, over; the law's; the kinds of refusals. -/
namespace Eng
open PySem PySem.Spec L2 SX
open PyProof.Rows hiding St
theorem fold_gr {α : Type} (st : List Str × Bool → α → List Str × Bool) (J : List Str → Prop) : ∀ (xs : List α), (∀ k f x, x ∈ xs → J k → J (st (k, f) x).1 ∧ (st (k, f) x = (k, f) ∨ ((st (k, f) x).2 = true ∧ k.length < (st (k, f) x).1.length))) → ∀ k f, J k →
    J (xs.foldl st (k, f)).1 ∧ (xs.foldl st (k, f) = (k, f) ∨ ((xs.foldl st (k, f)).2 = true ∧ k.length < (xs.foldl st (k, f)).1.length)) ∧ (xs.foldl st (k, false) = (k, false) → ∀ x ∈ xs, st (k, false) x = (k, false))
  | [], _, k, f, h => ⟨h, .inl rfl, fun _ x hx => by cases hx⟩
  | x :: xs, hs, k, f, h => by
    have hs' := fun k f y (hy : y ∈ xs) => hs k f y (List.mem_cons_of_mem _ hy)
    refine ⟨?_, ?_, fun e y hy => ?_⟩
    · rw [List.foldl_cons]
      obtain ⟨h1, _⟩ := hs k f x List.mem_cons_self h
      exact (fold_gr st J xs hs' _ _ h1).1
    · rw [List.foldl_cons]
      obtain ⟨h1, h2⟩ := hs k f x List.mem_cons_self h
      obtain ⟨k', f', e'⟩ : ∃ k' f', st (k, f) x = (k', f') := ⟨_, _, rfl⟩
      rw [e'] at h1 h2 ⊢
      have h3 := (fold_gr st J xs hs' k' f' h1).2.1
      rcases h2 with h2 | ⟨h2, h2'⟩
      · cases h2
        exact h3
      · simp only at h2 h2'
        rcases h3 with h3 | ⟨h3, h3'⟩
        · rw [h3]
          exact .inr ⟨h2, h2'⟩
        · exact .inr ⟨h3, by omega⟩
    · rw [List.foldl_cons] at e
      obtain ⟨h1, h2⟩ := hs k false x List.mem_cons_self h
      have hx : st (k, false) x = (k, false) := by
        rcases h2 with h2 | ⟨h2, h2'⟩
        · exact h2
        · obtain ⟨k', f', e'⟩ : ∃ k' f', st (k, false) x = (k', f') := ⟨_, _, rfl⟩
          rw [e'] at h1 h2 h2' e
          simp only at h2 h2' h1
          rcases (fold_gr st J xs hs' k' f' h1).2.1 with h3 | ⟨h3, _⟩
          · rw [h3] at e
            cases e
            cases h2
          · rw [e] at h3
            cases h3
      rcases List.mem_cons.mp hy with rfl | hy
      · exact hx
      · rw [hx] at e
        exact (fold_gr st J xs hs' k false h).2.2 e y hy
/-! ### the law's words beneath -/
def stB1 (s : List Str × Bool) (v : Str) : List Str × Bool := if v ∈ s.1 then s else (s.1 ++ [v], true)
def stB2 (w : Str) (s : List Str × Bool) (r : Row) : List Str × Bool := if r.1 = w ∨ r.1 ∈ s.1 then r.2.foldl stB1 s else s
def Jb (b : List Row) (w : Str) (k : List Str) : Prop := k.Nodup ∧ ∀ v ∈ k, Rc b w v
theorem Jb.len {b : List Row} {w : Str} {k : List Str} (h : Jb b w k) (hW : (wds b).length ≤ 2000) : k.length ≤ 2000 := Nat.le_trans (sub_len h.1 fun v hv => (h.2 v hv).wds) hW
theorem stB1_j {b : List Row} {w : Str} {k : List Str} {f : Bool} (h : Jb b w k) {v : Str} (hv : Rc b w v) : Jb b w (stB1 (k, f) v).1 ∧ (stB1 (k, f) v = (k, f) ∨ ((stB1 (k, f) v).2 = true ∧ k.length < (stB1 (k, f) v).1.length)) := by
  unfold stB1
  simp only
  split
  · exact ⟨h, .inl rfl⟩
  · rename_i hn
    refine ⟨⟨?_, fun u hu => ?_⟩, .inr ⟨rfl, by simp⟩⟩
    · rw [List.nodup_append]
      refine ⟨h.1, by simp, fun x hx y hy e => hn ?_⟩
      rw [List.mem_singleton] at hy
      rw [← hy, ← e]; exact hx
    · rcases List.mem_append.mp hu with q | q
      · exact h.2 u q
      · rw [List.mem_singleton.mp q]; exact hv
theorem stB2_j {b : List Row} {w : Str} {k : List Str} {f : Bool} (h : Jb b w k) {r : Row} (hr : r ∈ b) : Jb b w (stB2 w (k, f) r).1 ∧ (stB2 w (k, f) r = (k, f) ∨ ((stB2 w (k, f) r).2 = true ∧ k.length < (stB2 w (k, f) r).1.length)) := by
  unfold stB2
  split
  · rename_i hc
    have hv : ∀ v ∈ r.2, Rc b w v := fun v hv => hc.elim (fun e => .st hr e hv) fun hm => .go hr (h.2 _ hm) hv
    obtain ⟨h1, h2, _⟩ := fold_gr stB1 (Jb b w) r.2 (fun k f v hv' hk => stB1_j hk (hv v hv')) k f h
    exact ⟨h1, h2⟩
  · exact ⟨h, .inl rfl⟩
def passB (b : List Row) (w : Str) (k : List Str) : List Str × Bool := b.foldl (stB2 w) (k, false)
theorem passB_end {b : List Row} {w : Str} {k : List Str} (h : Jb b w k) (e : passB b w k = (k, false)) {v : Str} (hv : Rc b w v) : v ∈ k := by
  have st := (fold_gr (stB2 w) (Jb b w) b (fun k f r hr hk => stB2_j hk hr) k false h).2.2 e
  have cl : ∀ r ∈ b, (r.1 = w ∨ r.1 ∈ k) → ∀ v ∈ r.2, v ∈ k := fun r hr hc v hv => by
    have e1 := st r hr
    unfold stB2 at e1
    rw [if_pos hc] at e1
    have hRc : ∀ v ∈ r.2, Rc b w v := fun v hv => hc.elim (fun e => .st hr e hv) fun hm => .go hr (h.2 _ hm) hv
    have e2 := (fold_gr stB1 (Jb b w) r.2 (fun k f v hv' hk => stB1_j hk (hRc v hv')) k false h).2.2 e1 v hv
    unfold stB1 at e2
    simp only at e2
    split at e2
    · rename_i hin
      exact hin
    · have := congrArg (fun p : List Str × Bool => p.2) e2
      cases this
  induction hv with
  | st hr e hv => exact cl _ hr (.inl e) _ hv
  | go hr _ hv ih => exact cl _ hr (.inr ih) _ hv
theorem bw_row (b : List Row) (hW : (wds b).length ≤ 2000) (x0 : Sl) (w : Str) (s : List Str × Bool) (hs : Jb b w s.1) (r : Row) (hr : r ∈ b) : turn (.tup [4, 5]) [4, 5, 6] w_l_beneath_2 (eRow r) [x0, some (false, .val (.str w)), some (false, .dic (kd s.1)), some (false, .val (.bool s.2)), none, none, none] =
    .nx [x0, some (false, .val (.str w)), some (false, .dic (kd (stB2 w s r).1)), some (false, .val (.bool (stB2 w s r).2)), none, none, none] := by
  obtain ⟨k, f⟩ := s
  have tp : ∀ ρ : En, (Tgt.tup [4, 5]).put (eRow r) ρ = setDs [4, 5] [.str r.1, eW r.2] ρ := fun ρ => rfl
  by_cases hc : r.1 = w ∨ r.1 ∈ k
  · have hRc : ∀ v ∈ r.2, Rc b w v := fun v hv => hc.elim (fun e => .st hr e hv) fun hm => .go hr (hs.2 _ hm) hv
    obtain ⟨e, _⟩ := forL_map (f := PyData.str) (T := .nm 6) (fg := [6]) (b := w_l_beneath_3)
      (fun s : List Str × Bool => [x0, some (false, .val (.str w)), some (false, .dic (kd s.1)), some (false, .val (.bool s.2)), some (false, .val (.str r.1)), some (false, .val (eW r.2)), none]) stB1 (fun s => Jb b w s.1) r.2 (k, f) hs (fun s v hv hs => by
      obtain ⟨k, f⟩ := s
      have z : k.length < sizeLine := small (m := 2000) (hs.len hW)
      refine ⟨?_, (stB1_j hs (hRc v hv)).1⟩
      unfold stB1
      by_cases h1 : v ∈ k
      · simp [-List.map_map, turn_ap, w_l_beneath_3, h1]
      · simp [-List.map_map, turn_ap, w_l_beneath_3, h1, z, addT_new h1])
    have es : stB2 w (k, f) r = r.2.foldl stB1 (k, f) := by unfold stB2; rw [if_pos hc]
    rw [es]
    by_cases h1 : r.1 = w
    · simp [-List.map_map, turn_ap, tp, w_l_beneath_2, h1] at e ⊢
      simp [e]
    · have h2 := hc.resolve_left h1
      simp [-List.map_map, turn_ap, tp, w_l_beneath_2, h1, h2, e]
  · have es : stB2 w (k, f) r = (k, f) := by unfold stB2; rw [if_neg hc]
    rw [es]
    rw [not_or] at hc
    simp [-List.map_map, turn_ap, tp, w_l_beneath_2, hc.1, hc.2]
theorem bw_while (b : List Row) (hW : (wds b).length ≤ 2000) (w : Str) : ∀ (n : Nat) (k : List Str), Jb b w k → 2001 - k.length < n → ∃ ks : List Str, ks.Nodup ∧ (∀ v, v ∈ ks ↔ Rc b w v) ∧
    sWhile t_l_beneath_1 [4, 5, 6] w_l_beneath_1 [some (false, .val (eBk b)), some (false, .val (.str w)), some (false, .dic (kd k)), some (false, .val (.bool true)), none, none, none] = .nx [some (false, .val (eBk b)), some (false, .val (.str w)), some (false, .dic (kd ks)), some (false, .val (.bool false)), none, none, none]
  | 0, _, _, h => by omega
  | n + 1, k, hk, h => by
    have hl := hk.len hW
    obtain ⟨e, _⟩ := forL_map (f := eRow) (T := .tup [4, 5]) (fg := [4, 5, 6]) (b := w_l_beneath_2)
      (fun s : List Str × Bool => [some (false, .val (eBk b)), some (false, .val (.str w)), some (false, .dic (kd s.1)), some (false, .val (.bool s.2)), none, none, none]) (stB2 w) (fun s => Jb b w s.1) b (k, false) hk (fun s r hr hs => ⟨bw_row b hW _ w s hs r hr, (stB2_j hs hr).1⟩)
    obtain ⟨h1, h2, _⟩ := fold_gr (stB2 w) (Jb b w) b (fun k f r hr hk => stB2_j hk hr) k false hk
    have body : w_l_beneath_1 [some (false, .val (eBk b)), some (false, .val (.str w)), some (false, .dic (kd k)), some (false, .val (.bool true)), none, none, none] =
        .nx [some (false, .val (eBk b)), some (false, .val (.str w)), some (false, .dic (kd (passB b w k).1)), some (false, .val (.bool (passB b w k).2)), none, none, none] := by
      simp [-List.map_map, w_l_beneath_1, e, passB]
    rw [sWhile_turn (ρ1 := [some (false, .val (eBk b)), some (false, .val (.str w)), some (false, .dic (kd k)), some (false, .val (.bool true)), none, none, none]) (by simp [t_l_beneath_1]) (.inl body)]
    have h1 : Jb b w (passB b w k).1 := h1
    have h2 : passB b w k = (k, false) ∨ ((passB b w k).2 = true ∧ k.length < (passB b w k).1.length) := h2
    rcases h2 with h2 | ⟨h2, h3⟩
    · refine ⟨k, hk.1, fun v => ⟨hk.2 v, passB_end hk h2⟩, ?_⟩
      rw [h2]
      simp only [dropE_cons, dropE_nil, dropE1_succ, dropE1_zero']
      rw [sWhile_done (ρ1 := [some (false, .val (eBk b)), some (false, .val (.str w)), some (false, .dic (kd k)), some (false, .val (.bool false)), none, none, none]) (by simp [t_l_beneath_1])]
    · have hl' := h1.len hW
      obtain ⟨ks, g1, g2, g3⟩ := bw_while b hW w n _ h1 (by omega)
      refine ⟨ks, g1, g2, ?_⟩
      rw [h2]
      simpa using g3
/-- the words beneath a word, sorted; those over it -/
noncomputable def bth (b : List Row) (w : Str) : List Str := (wds b).filter fun v => @decide (Rc b w v) (Classical.propDecidable _)
theorem bth_mem {b : List Row} {w v : Str} : v ∈ bth b w ↔ Rc b w v := by
  unfold bth
  rw [List.mem_filter]
  simp only [decide_eq_true_eq]
  exact ⟨fun h => h.2, fun h => ⟨h.wds, h⟩⟩
theorem bth_sorted {b : List Row} {w : Str} {ks : List Str} (h1 : ks.Nodup) (h2 : ∀ v, v ∈ ks ↔ Rc b w v) : sortT ks = bth b w :=
  sorted_ext (sortT_nodup h1) ((wds_nodup b).sublist List.filter_sublist) (sortT_pairwise ks) (sortT_filter_wds b _) fun v => by rw [mem_sortT, h2, bth_mem]
theorem sortT_wds (b : List Row) : sortT (wds b) = wds b := by
  have h := sortT_ext (xs := wds b) (ys := metT (wl b)) (wds_nodup b) (metT_nodup _) (fun w => by unfold wds; rw [mem_sortT])
  rw [h]
  rfl
/-! ### the kinds of refusals -/
@[simp] theorem own_exn (c : Nat) : (O.exn c).own = true := rfl
@[simp] theorem fins_exn (c : Nat) (x : O) (os : List O) (ρ : En) : fins (.exn c :: os) (some (true, x) :: ρ) = match fins os ρ with | some r => some (x :: r) | none => none := rfl
@[simp] theorem gone_nx (i : Nat) (ρ : En) : gone i (.nx ρ) = .nx (ρ.set i none) := rfl
@[simp] theorem oRd_ap (sem : O → O → Option O) (f g : ES) (ρ : En) : oRd sem f g ρ = (f ρ).bind fun p ρ1 => match look ρ1 p with
  | some o0 => if o0.list?.isSome = true then (g ρ1).bind fun q ρ2 => match looks ρ2 [p, q] with
      | some os => put ρ2 (two sem os)
      | none => .stuck
    else .stuck
  | none => .stuck := rfl
@[simp] theorem isS_exn (c : Nat) : isS (.exn c) (.val .none) = some (.val (.bool false)) := rfl
@[simp] theorem isS_non : isS (.val .none) (.val .none) = some (.val (.bool true)) := rfl
@[simp] theorem isS_lst (ds : List D) : isS (.lst ds) (.val .none) = some (.val (.bool false)) := rfl
end Eng
/-! Law k31. -/
namespace Eng
open PySem PySem.Spec L2 SX
open PyProof.Rows hiding St
theorem sm_lists {g : FSem} {ds : List D} {a c : O} (ha : a = .lst ds ∨ a = .val (.list ds)) (hc : c = .lst ds ∨ c = .val (.list ds)) (hl : ds.length ≤ 5000) (h : ∀ d ∈ ds, Sm g (.val d)) : runF 3 (bSm g) [a, c] = .ret (.val (.bool true)) [a, c] := by
  have q : ∀ k, k < ds.length → ∃ x, atI ds (k : Int) = some x ∧ g [.val x, .val x] = .ret (.val (.bool true)) [.val x, .val x] := fun k hk => ⟨ds[k], by rw [atI_nat' ds k (by omega) (by omega)]; simp [hk], h ds[k] (List.getElem_mem hk)⟩
  have a1 := allS_tt ds.length
  have z1 : (ds.length : Int) ≤ 1000000 := by omega
  have z2 : (-4611686018427387904 : Int) ≤ ds.length := by omega
  have t1 : isiS "tuple" (.lst ds) = some (.val (.bool false)) := rfl
  have t2 : isiS "list" (.lst ds) = some (.val (.bool true)) := rfl
  have t3 : isiS "tuple" (.val (.list ds)) = some (.val (.bool false)) := rfl
  have t4 : isiS "list" (.val (.list ds)) = some (.val (.bool true)) := rfl
  rcases ha with rfl | rfl <;> rcases hc with rfl | rfl
  all_goals
    first
    | (have c1 := lc_all (f := fun i : Nat => PyData.int (0 + (i : Nat))) (c := none) (T := .nm 2) (t := tTrue) (g := (oCall g (oAs [o2 ixS (oNm 0) (oNm 2), o2 ixS (oNm 1) (oNm 2)]))) (own := [2])
        (ρ := [some (true, .lst ds), some (true, .lst ds), none]) (fun _ => .bool true) (List.range ds.length) (by simp) (by
        intro k hk
        have hk' := List.mem_range.mp hk
        obtain ⟨x, q', s'⟩ := q k hk'
        simp [-List.map_map, lturn_ap, q', s'])
       simp [-List.map_map] at c1
       simp [-List.map_map, -allS_ap, bSm, cSm, runF_ap, t1, t2, z1, z2, rng, c1, a1]; done)
    | (have c1 := lc_all (f := fun i : Nat => PyData.int (0 + (i : Nat))) (c := none) (T := .nm 2) (t := tTrue) (g := (oCall g (oAs [o2 ixS (oNm 0) (oNm 2), o2 ixS (oNm 1) (oNm 2)]))) (own := [2])
        (ρ := [some (true, .lst ds), some (false, .val (.list ds)), none]) (fun _ => .bool true) (List.range ds.length) (by simp) (by
        intro k hk
        have hk' := List.mem_range.mp hk
        obtain ⟨x, q', s'⟩ := q k hk'
        simp [-List.map_map, lturn_ap, q', s'])
       simp [-List.map_map] at c1
       simp [-List.map_map, -allS_ap, bSm, cSm, runF_ap, t1, t2, t3, t4, z1, z2, rng, c1, a1]; done)
    | (have c1 := lc_all (f := fun i : Nat => PyData.int (0 + (i : Nat))) (c := none) (T := .nm 2) (t := tTrue) (g := (oCall g (oAs [o2 ixS (oNm 0) (oNm 2), o2 ixS (oNm 1) (oNm 2)]))) (own := [2])
        (ρ := [some (false, .val (.list ds)), some (true, .lst ds), none]) (fun _ => .bool true) (List.range ds.length) (by simp) (by
        intro k hk
        have hk' := List.mem_range.mp hk
        obtain ⟨x, q', s'⟩ := q k hk'
        simp [-List.map_map, lturn_ap, q', s'])
       simp [-List.map_map] at c1
       simp [-List.map_map, -allS_ap, bSm, cSm, runF_ap, t1, t2, t3, t4, z1, z2, rng, c1, a1]; done)
    | (have c1 := lc_all (f := fun i : Nat => PyData.int (0 + (i : Nat))) (c := none) (T := .nm 2) (t := tTrue) (g := (oCall g (oAs [o2 ixS (oNm 0) (oNm 2), o2 ixS (oNm 1) (oNm 2)]))) (own := [2])
        (ρ := [some (false, .val (.list ds)), some (false, .val (.list ds)), none]) (fun _ => .bool true) (List.range ds.length) (by simp) (by
        intro k hk
        have hk' := List.mem_range.mp hk
        obtain ⟨x, q', s'⟩ := q k hk'
        simp [-List.map_map, lturn_ap, q', s'])
       simp [-List.map_map] at c1
       simp [-List.map_map, -allS_ap, bSm, cSm, runF_ap, t1, t2, t3, t4, z1, z2, rng, c1, a1]; done)
end Eng
/-! What is told anew: the reading evaluated. -/
namespace Eng
open PySem PySem.Spec L2 SX
open PyProof.Rows hiding St
theorem lfA_map {α : Type} {f : α → D} {xs : List α} (h : ∀ x ∈ xs, lfD (f x) = true) : lfA (xs.map f) = true := by
  induction xs with
  | nil => simp [lfA]
  | cons x xs ih =>
    rw [List.map_cons, lfA, h x List.mem_cons_self, ih fun y hy => h y (List.mem_cons_of_mem _ hy)]
    rfl
@[simp] theorem lfD_str (x : Str) : lfD (.str x) = true := by simp [lfD]
@[simp] theorem lfD_int (x : Int) : lfD (.int x) = true := by simp [lfD]
@[simp] theorem lfD_bool (x : Bool) : lfD (.bool x) = true := by simp [lfD]
@[simp] theorem lfD_none : lfD .none = true := by simp [lfD]
@[simp] theorem lfA_strs (xs : List Str) : lfA (xs.map PyData.str) = true := lfA_map fun _ _ => lfD_str _
@[simp] theorem lfA_ints (xs : List Int) : lfA (xs.map PyData.int) = true := lfA_map fun _ _ => lfD_int _
@[simp] theorem lfD_eW (xs : List Str) : lfD (eW xs) = true := by unfold eW; rw [lfD]; exact lfA_strs xs
@[simp] theorem lfD_eRow (r : Row) : lfD (eRow r) = true := by unfold eRow; simp [lfD, lfA]
@[simp] theorem lfD_eBk (b : List Row) : lfD (eBk b) = true := by unfold eBk; rw [lfD]; exact lfA_map fun _ _ => lfD_eRow _
@[simp] theorem lfO_val (d : D) : lfO (.val d) = lfD d := rfl
@[simp] theorem lfO_scr (ns : List Int) : lfO (.scr ns) = true := rfl
@[simp] theorem lfO_lst (ds : List D) : lfO (.lst ds) = lfA ds := rfl
/-- every slot is without lists, but those told -/
def okL (is js : List Nat) : Nat → En → Prop
  | _, [] => True
  | k, sl :: ρ => (k ∈ is ∨ k ∈ js ∨ match sl with | some po => lfO po.2 = true | none => True) ∧ okL is js (k + 1) ρ
theorem okL_ok {is js : List Nat} : ∀ {ρ : En} {k j : Nat} {p : Bool} {o : O}, okL is js k ρ → k + j ∉ is → k + j ∉ js → ρ[j]? = some (some (p, o)) → lfO o = true
  | [], _, _, _, _, _, _, _, e => by simp at e
  | sl :: ρ, k, 0, p, o, h, h1, h2, e => by
    simp only [List.getElem?_cons_zero, Option.some.injEq] at e
    subst e
    rcases h.1 with q | q | q
    · exact absurd q h1
    · exact absurd q h2
    · exact q
  | sl :: ρ, k, j + 1, p, o, h, h1, h2, e => okL_ok (k := k + 1) (j := j) h.2 (by rw [show k + 1 + j = k + (j + 1) by omega]; exact h1) (by rw [show k + 1 + j = k + (j + 1) by omega]; exact h2) (by simpa using e)
theorem sYng_nx {i : Nat} {js rs : List Nat} {f : ES} {mid rest : SS} {th : List D → Prop} {ρ ρs ρ1 ρ2 ρ3 : En} {p : Opd} {ds : List D} (hf : f (strip ρ) = .ok p ρs) (hy : yngD p = some ds) (hs : setE i (.val (.list ds)) ρ = some ρ1) (hp : pinsE (i :: js) ρ1 = some ρ2)
    (hm : mid ρ2 = .nx ρ3) (hij : i ∉ js) (hl : ∀ j ∈ i :: rs, j < ρ3.length) (hj : ∀ j ∈ i :: js, ρ3[j]? = ρ2[j]?) (ho : okL (i :: rs) (i :: js) 0 ρ3) (ht : th ds) : sYng i js rs f mid th rest ρ = unpins (i :: js) (rest (noneE (i :: rs) ρ3)) := by
  unfold sYng
  simp only [hf, hy, hs, hp, hm]
  rw [if_pos ⟨hij, ⟨hl, hj, fun j p o h1 h2 e => okL_ok (k := 0) (j := j) ho (by rw [Nat.zero_add]; exact h1) (by rw [Nat.zero_add]; exact h2) e⟩, ht⟩]
@[simp] theorem strip_nil : strip [] = [] := rfl
@[simp] theorem strip_cons (sl : Sl) (ρ : En) : strip (sl :: ρ) = strip1 sl :: strip ρ := rfl
@[simp] theorem strip1_none : strip1 none = none := rfl
@[simp] theorem strip1_val (p : Bool) (d : D) : strip1 (some (p, .val d)) = if lfD d = true then some (p, .val d) else none := rfl
@[simp] theorem strip1_scr (p : Bool) (ns : List Int) : strip1 (some (p, .scr ns)) = some (p, .scr ns) := rfl
@[simp] theorem strip1_lst (p : Bool) (ds : List D) : strip1 (some (p, .lst ds)) = none := rfl
@[simp] theorem strip1_dic (p : Bool) (ds : List (D × D)) : strip1 (some (p, .dic ds)) = none := rfl
@[simp] theorem pinsE_nil (ρ : En) : pinsE [] ρ = some ρ := rfl
theorem pinsE_cons {j : Nat} {js : List Nat} {ρ : En} {p : Bool} {d : D} (h : ρ[j]? = some (some (p, .val d))) : pinsE (j :: js) ρ = pinsE js (ρ.set j (some (true, .val d))) := by
  rw [pinsE]
  simp only [h]
@[simp] theorem unpins_nil (o : SOut) : unpins [] o = o := rfl
@[simp] theorem unpins_cons (j : Nat) (js : List Nat) (o : SOut) : unpins (j :: js) o = unpS j (unpins js o) := rfl
@[simp] theorem unpS_rt (j : Nat) (o : O) (ρ : En) : unpS j (.rt o ρ) = .rt o (unpin j ρ) := rfl
@[simp] theorem unpin_zero_none (ρ : En) : unpin 0 (none :: ρ) = none :: ρ := rfl
@[simp] theorem noneE_nil (ρ : En) : noneE [] ρ = ρ := rfl
@[simp] theorem noneE_cons (i : Nat) (is : List Nat) (ρ : En) : noneE (i :: is) ρ = noneE is (ρ.set i none) := rfl
@[simp] theorem sFrz_ap (j : Nat) (b : SS) (ρ : En) : sFrz j b ρ = b (frz ρ j) := rfl
@[simp] theorem sDrp_ap (is : List Nat) (b : SS) (ρ : En) : sDrp is b ρ = b (dropE is ρ) := rfl
@[simp] theorem oAppT_ap (f g : ES) (ρ : En) : oAppT f g ρ = (f ρ).bind fun p ρ1 => match p with
  | .tmp (.lst ds) => (g ρ1).bind fun p2 ρ2 => match give ρ2 p2 with
    | some (_, ρ3) => if ds.length < sizeLine then .ok (.tmp (.val .none)) ρ3 else .stuck
    | none => .stuck
  | _ => .stuck := rfl
@[simp] theorem listRvT_tup (ds : List D) : listRvT (.val (.tuple ds)) = some (.lst ds.reverse) := rfl
@[simp] theorem tupRvT_tup (ds : List D) : tupRvT (.val (.tuple ds)) = some (.val (.tuple ds.reverse)) := rfl
end Eng
/-! Law k32: rings, in plain words; frozen dicts. -/
namespace Eng
open PySem PySem.Spec L2 SX
open PyProof.Rows hiding St
noncomputable def rgp (b : List Row) (w v : Str) : Bool := @decide (Rc b w v ∧ Rc b v w) (Classical.propDecidable _)
theorem rgp_iff {b : List Row} {w v : Str} : rgp b w v = true ↔ Rc b w v ∧ Rc b v w := by
  unfold rgp
  exact @decide_eq_true_iff _ (Classical.propDecidable _)
/-- the words that lean on w, and w on them -/
noncomputable def rg (b : List Row) (w : Str) : List Str := (wds b).filter (rgp b w)
theorem rg_mem {b : List Row} {w v : Str} : v ∈ rg b w ↔ Rc b w v ∧ Rc b v w := by
  unfold rg
  rw [List.mem_filter, rgp_iff]
  exact ⟨fun h => h.2, fun h => ⟨h.1.wds, h⟩⟩
theorem Rc.trans {b : List Row} {u v w : Str} (h : Rc b u v) (h2 : Rc b v w) : Rc b u w := by
  induction h2 with
  | st hr e hv => exact .go hr (e ▸ h) hv
  | go hr _ hv ih => exact .go hr ih hv
theorem rg_eq {b : List Row} {w v : Str} (h : v ∈ rg b w) : rg b v = rg b w := by
  obtain ⟨h1, h2⟩ := rg_mem.mp h
  unfold rg
  refine List.filter_congr fun u _ => ?_
  refine Bool.eq_iff_iff.mpr ?_
  rw [rgp_iff, rgp_iff]
  exact ⟨fun q => ⟨h1.trans q.1, q.2.trans h2⟩, fun q => ⟨h2.trans q.1, q.2.trans h1⟩⟩
open Classical in
noncomputable def stG (b : List Row) (T : List (List Str)) (w : Str) : List (List Str) := if Rc b w w ∧ rg b w ∉ T then T ++ [rg b w] else T
noncomputable def rgT (b : List Row) (ws : List Str) : List (List Str) := ws.foldl (stG b) []
theorem rgT_snoc (b : List Row) (ws : List Str) (w : Str) : rgT b (ws ++ [w]) = stG b (rgT b ws) w := by
  unfold rgT
  rw [List.foldl_append]
  rfl
/-- what is told after some of the words -/
structure RgI (b : List Row) (done : List Str) (T : List (List Str)) : Prop where
  all : ∀ w ∈ done, Rc b w w → rg b w ∈ T
  hs : ∃ hs : List Str, hs.Sublist done ∧ T = hs.map (rg b) ∧ ∀ h ∈ hs, Rc b h h ∧ ∃ t, rg b h = h :: t
theorem rg_head {b : List Row} {w : Str} {done rest : List Str} (hd : wds b = done ++ w :: rest) (hw : Rc b w w) (hn : ∀ u ∈ done, ¬ (Rc b w u ∧ Rc b u w)) : ∃ t, rg b w = w :: t := by
  unfold rg
  rw [hd, List.filter_append]
  have h1 : done.filter (rgp b w) = [] := List.filter_eq_nil_iff.mpr fun u hu => by
    rw [rgp_iff]
    exact hn u hu
  rw [h1, List.nil_append, List.filter_cons_of_pos (rgp_iff.mpr ⟨hw, hw⟩)]
  exact ⟨_, rfl⟩
theorem RgI.step {b : List Row} {done rest : List Str} {w : Str} {T : List (List Str)} (h : RgI b done T) (hd : wds b = done ++ w :: rest) : RgI b (done ++ [w]) (stG b T w) := by
  unfold stG
  obtain ⟨hs, h1, h2, h3⟩ := h.hs
  by_cases hc : Rc b w w ∧ rg b w ∉ T
  · rw [if_pos hc]
    refine ⟨fun u hu hr => ?_, hs ++ [w], List.Sublist.append h1 (List.Sublist.refl _), by rw [List.map_append, h2]; rfl, fun u hu => ?_⟩
    · rcases List.mem_append.mp hu with q | q
      · exact List.mem_append_left _ (h.all u q hr)
      · rw [List.mem_singleton.mp q]
        simp
    · rcases List.mem_append.mp hu with q | q
      · exact h3 u q
      · rw [List.mem_singleton.mp q]
        refine ⟨hc.1, rg_head hd hc.1 fun v hv hr => hc.2 ?_⟩
        have := h.all v hv (hr.2.trans hr.1)
        rwa [rg_eq (rg_mem.mpr hr)] at this
  · rw [if_neg hc]
    refine ⟨fun u hu hr => ?_, hs, h1.trans (List.sublist_append_left _ _), h2, h3⟩
    rcases List.mem_append.mp hu with q | q
    · exact h.all u q hr
    · rw [List.mem_singleton.mp q] at hr ⊢
      exact Classical.byContradiction fun n => hc ⟨hr, n⟩
theorem RgI.nil (b : List Row) : RgI b [] [] := ⟨by simp, [], by simp, rfl, by simp⟩
theorem rgT_I {b : List Row} : ∀ (rest done : List Str) (T : List (List Str)), wds b = done ++ rest → RgI b done T → RgI b (wds b) (rest.foldl (stG b) T)
  | [], done, T, hd, h => by
    rw [List.append_nil] at hd
    rw [hd]
    exact h
  | w :: rest, done, T, hd, h => by
    rw [List.foldl_cons]
    exact rgT_I rest (done ++ [w]) _ (by rw [hd]; simp) (h.step hd)
theorem rgT_all (b : List Row) : RgI b (wds b) (rgT b (wds b)) := rgT_I (wds b) [] [] rfl (RgI.nil b)
/-! ### sorted lists of texts -/
theorem alike_eL (a b : List Str) : PySem.W.alike (eL a) (eL b) = true := by
  have : ∀ a b : List Str, PySem.W.alikeAll (a.map PyData.str) (b.map PyData.str) = true := by
    intro a
    induction a with
    | nil => intro b; cases b <;> simp [PySem.W.alikeAll]
    | cons x a ih =>
      intro b
      cases b with
      | nil => simp [PySem.W.alikeAll]
      | cons y b => simp [PySem.W.alikeAll, PySem.W.alike, ih]
  show PySem.W.alike (.list (a.map .str)) (.list (b.map .str)) = true
  simp [PySem.W.alike, this]
theorem depth_eL (a : List Str) : (eL a).depth ≤ 32 := by
  have := depthAll_strs a
  show (PyData.list (a.map .str)).depth ≤ 32
  simp [PyData.depth, this]
theorem le_eL {x y : Str} {a b : List Str} (h : x ≠ y) (hl : leT x y = true) : PySem.W.dataLe false (fun d => d) (eL (x :: a)) (eL (y :: b)) = true := by
  have e0 := congrFun (congrFun (PySem.W.dataLe_str (fun x : Str => x)) x) y
  have e1 : PySem.W.dataLe false (fun x : Str => PyData.str x) x y = true := by rw [e0]; exact hl
  rw [PySem.W.dataLe_eq] at e1 ⊢
  simp only [cond_false] at e1 ⊢
  unfold eL
  rw [List.map_cons, List.map_cons, PySem.W.dataLt_list, PySem.W.dataLt_cons (by simp [PySem.W.alike])]
  have e : PyData.eqv (.str y) (.str x) = false := by rw [eqv_s]; simp [Ne.symm h]
  rw [e]
  simpa using e1
theorem sort_rings (b : List Row) (z : (wds b).length ≤ 2000) {o : O} (ho : o = .lst ((rgT b (wds b)).map eL) ∨ o = .val (.list ((rgT b (wds b)).map eL))) : sortS o = some (.lst ((rgT b (wds b)).map eL)) := by
  obtain ⟨hs, h1, h2, h3⟩ := (rgT_all b).hs
  have hl : (rgT b (wds b)).length ≤ 2000 := by
    rw [h2, List.length_map]
    exact Nat.le_trans h1.length_le z
  generalize rgT b (wds b) = T at *
  have hsrt : sortD (T.map eL) = T.map eL := by
    unfold sortD
    refine List.mergeSort_of_pairwise ?_
    rw [h2, List.map_map, List.pairwise_map]
    have p1 : hs.Pairwise fun x y => x ≠ y := (wds_nodup b).sublist h1
    have p2 : hs.Pairwise fun x y => leT x y = true := by
      have : (wds b).Pairwise fun x y => leT x y = true := by
        have := sortT_filter_wds b fun _ => true
        rwa [List.filter_eq_self.mpr (by simp)] at this
      exact this.sublist h1
    refine (p1.and p2).imp_of_mem fun {x y} hx hy h => ?_
    obtain ⟨_, t1, e1⟩ := h3 x hx
    obtain ⟨_, t2, e2⟩ := h3 y hy
    simp only [Function.comp, e1, e2]
    exact le_eL h.1 h.2
  have ok : sortOk (T.map eL) = true := by
    unfold sortOk
    have k1 : ((T.map eL).all fun d => (T.map eL).all fun e => PySem.W.alike d e) = true := by simp [alike_eL]
    have k0 : ∀ x, noTup (eL x) = true := fun _ => rfl
    have k2 : ((T.map eL).all noTup) = true := by simp [k0]
    have k3 : ((T.map eL).all fun d => decide (d.depth ≤ 32)) = true := by simp [depth_eL]
    have k4 : T.length ≤ sizeLine := Nat.le_of_lt (small (m := 2001) (by omega))
    rw [k1, k2, k3]
    simp [k4]
  rcases ho with rfl | rfl
  · unfold sortS
    simp only [seq_lst]
    rw [if_pos ok, hsrt]
  · show (if sortOk (T.map eL) = true then some (O.lst (sortD (T.map eL))) else none) = _
    rw [if_pos ok, hsrt]
/-! ### frozen dicts -/
theorem plK_sd {β : Type} (f : β → D) (C : List (Str × β)) : ((sd f C).all fun e => (keyOf e.1).isSome) = true := by simp [sd, keyOf]
theorem plK_kd (ks : List Str) : ((kd ks).all fun e => (keyOf e.1).isSome) = true := by simp [kd, keyOf]
theorem ixF_sd {β : Type} (f : β → D) (x : Str) (C : List (Str × β)) : ixS (.val (.dict (sd f C))) (.val (.str x)) = (gget C x).map fun i => .val (f i) := by
  show (if (((sd f C).all fun e => (keyOf e.1).isSome) && (keyOf (.str x)).isSome) = true then (dget (sd f C) (.str x)).map O.val else none) = _
  have k : (keyOf (PyData.str x)).isSome = true := rfl
  rw [plK_sd, k, Bool.and_self, if_pos rfl, dget_sd, Option.map_map]
  rfl
theorem inF_kd (x : Str) (ks : List Str) : inS (.val (.str x)) (.val (.dict (kd ks))) = some (.val (.bool (decide (x ∈ ks)))) := by
  have h : hasS (.val (.str x)) (.val (.dict (kd ks))) = some (decide (x ∈ ks)) := by
    show (if (((kd ks).all fun e => (keyOf e.1).isSome) && (keyOf (.str x)).isSome) = true then some (dhas (kd ks) (.str x)) else none) = _
    have k : (keyOf (PyData.str x)).isSome = true := rfl
    rw [plK_kd, k, Bool.and_self, if_pos rfl, dhas_kd]
  unfold inS
  rw [h]
  rfl
theorem sortF_kd (ks : List Str) (z : ks.length ≤ sizeLine) : sortS (.val (.dict (kd ks))) = some (.lst ((sortT ks).map PyData.str)) := by
  have h := sortS_kd ks
  rw [if_pos z] at h
  exact h
theorem sortF_sd {β : Type} (f : β → D) (C : List (Str × β)) (z : C.length ≤ sizeLine) : sortS (.val (.dict (sd f C))) = some (.lst ((sortT (C.map (·.1))).map PyData.str)) := by
  have h := sortS_sd f C
  rw [if_pos z] at h
  exact h
theorem itemsF_kd (ks : List Str) : itemsD (.dict (kd ks)) = some (ks.map .str) := by
  show some ((kd ks).map (·.1)) = _
  simp [kd]
theorem itemsF_sd {β : Type} (f : β → D) (C : List (Str × β)) : itemsD (.dict (sd f C)) = some ((C.map (·.1)).map .str) := by
  show some ((sd f C).map (·.1)) = _
  simp [sd]
def eD (ks : List Str) : D := .dict (kd ks)
/-- all words so far, each with the words met from it -/
structure Bt (b : List Row) (done : List Str) (B : Ld) : Prop where
  keys : B.map (·.1) = done
  get : ∀ w ∈ done, ∃ ks, gget B w = some ks ∧ ks.Nodup ∧ ∀ v, v ∈ ks ↔ Rc b w v
theorem Bt.nil (b : List Row) : Bt b [] [] := ⟨rfl, by simp⟩
theorem Bt.put {b : List Row} {done : List Str} {B : Ld} (h : Bt b done B) {w : Str} (hw : w ∉ done) {ks : List Str} (h1 : ks.Nodup) (h2 : ∀ v, v ∈ ks ↔ Rc b w v) : Bt b (done ++ [w]) (gput B w ks) := by
  refine ⟨by rw [gput_keys, h.keys, addT_new hw], fun v hv => ?_⟩
  rw [gget_put]
  by_cases e : v = w
  · rw [if_pos e, e]
    exact ⟨ks, rfl, h1, h2⟩
  · rw [if_neg e]
    exact h.get v ((List.mem_append.mp hv).resolve_right fun q => e (List.mem_singleton.mp q))
theorem Bt.len {b : List Row} {done : List Str} {B : Ld} (h : Bt b done B) : B.length = done.length := by rw [← h.keys, List.length_map]
theorem taken_iff {b : List Row} {done : List Str} {T : List (List Str)} (h : RgI b done T) {w : Str} (hw : Rc b w w) : (∃ x ∈ T, w ∈ x) ↔ rg b w ∈ T := by
  constructor
  · rintro ⟨x, hx, hwx⟩
    obtain ⟨hs, h1, h2, h3⟩ := h.hs
    have hx' := hx
    rw [h2] at hx'
    obtain ⟨u, hu, rfl⟩ := List.mem_map.mp hx'
    rw [rg_eq hwx]
    exact hx
  · intro hm
    exact ⟨_, hm, rg_mem.mpr ⟨hw, hw⟩⟩
end Eng
/-! Law k32: rings as the program tells them. -/
namespace Eng
open PySem PySem.Spec L2 SX
open PyProof.Rows hiding St
theorem metF_while (b : List Row) (hB : Bf b) (C : Ld) (hC : Sg (wds b) b C) (w : Str) : ∀ (n : Nat) (met fresh : List Str), Mt b w met fresh → (2001 - met.length) * 4001 + fresh.length < n → ∃ ks : List Str, ks.Nodup ∧ (∀ v, v ∈ ks ↔ Rc b w v) ∧
    sWhile t_met_from_1 [4] w_met_from_1 [some (false, .val (.dict (sd eL C))), some (false, .val (.str w)), some (false, .dic (kd met)), some (false, .lst (fresh.map .str)), none] =
      .nx [some (false, .val (.dict (sd eL C))), some (false, .val (.str w)), some (false, .dic (kd ks)), some (false, .lst []), none]
  | 0, _, _, _, h => by omega
  | n + 1, met, fresh, hm, h => by
    have hW := wds_few hB
    have hT := hB.few
    have hml := hm.len hW
    rcases List.eq_nil_or_concat fresh with rfl | ⟨L, v, rfl⟩
    · refine ⟨met, hm.nd, fun v => ⟨hm.m v, fun hv => ?_⟩, ?_⟩
      · induction hv with
        | st hr e hv => exact (hm.a _ (tl_mem.mpr ⟨_, hr, e, hv⟩)).resolve_right (by simp)
        | go hr _ hv ih => exact (hm.c _ ih _ (tl_mem.mpr ⟨_, hr, rfl, hv⟩)).resolve_right (by simp)
      · rw [sWhile_done (ρ1 := [some (false, .val (.dict (sd eL C))), some (false, .val (.str w)), some (false, .dic (kd met)), some (false, .lst []), none]) (by simp [t_met_from_1])]
    · have hv : Rc b w v := hm.f v (by simp)
      have hvw := hv.wds
      have pp : popS (.lst (L.map PyData.str ++ [.str v])) = some (.lst (L.map .str), .str v) := by simp [popS]
      have hz := hm.z
      simp only [List.concat_eq_append, List.length_append, List.length_cons, List.length_nil] at hz h
      by_cases hin : v ∈ met
      · have hm' : Mt b w met L := ⟨hm.nd, hm.m, fun u hu => hm.f u (by simp [hu]), fun u hu => by
          rcases hm.a u hu with q | q
          · exact .inl q
          · simp only [List.concat_eq_append, List.mem_append, List.mem_singleton] at q
            exact q.elim .inr fun e => .inl (e ▸ hin), fun x hx u hu => by
          rcases hm.c x hx u hu with q | q
          · exact .inl q
          · simp only [List.concat_eq_append, List.mem_append, List.mem_singleton] at q
            exact q.elim .inr fun e => .inl (e ▸ hin), by omega⟩
        obtain ⟨ks, k1, k2, k3⟩ := metF_while b hB C hC w n met L hm' (by omega)
        refine ⟨ks, k1, k2, ?_⟩
        rw [sWhile_turn (ρ1 := [some (false, .val (.dict (sd eL C))), some (false, .val (.str w)), some (false, .dic (kd met)), some (false, .lst ((L.concat v).map .str)), none])
          (ρ2 := [some (false, .val (.dict (sd eL C))), some (false, .val (.str w)), some (false, .dic (kd met)), some (false, .lst (L.map .str)), some (false, .val (.str v))]) (by simp [-List.map_map, t_met_from_1]) (.inl (by
          simp [-List.map_map, w_met_from_1, pp, hin]))]
        simpa using k3
      · have t1 := tl_len b v
        have t2 : (tw b).length ≤ 2000 := by omega
        have hm' : Mt b w (met ++ [v]) (L ++ Eng.tl b v) := by
          refine ⟨?_, fun u hu => ?_, fun u hu => ?_, fun u hu => ?_, fun x hx u hu => ?_, ?_⟩
          · rw [List.nodup_append]
            refine ⟨hm.nd, by simp, fun x hx y hy e => hin ?_⟩
            rw [List.mem_singleton] at hy
            rw [← hy, ← e]; exact hx
          · rcases List.mem_append.mp hu with q | q
            · exact hm.m u q
            · rw [List.mem_singleton.mp q]; exact hv
          · rcases List.mem_append.mp hu with q | q
            · exact hm.f u (by simp [q])
            · exact hv.tl q
          · rcases hm.a u hu with q | q
            · exact .inl (by simp [q])
            · simp only [List.concat_eq_append, List.mem_append, List.mem_singleton] at q
              exact q.elim (fun q => .inr (by simp [q])) fun e => .inl (by simp [e])
          · rcases List.mem_append.mp hx with hx | hx
            · rcases hm.c x hx u hu with q | q
              · exact .inl (by simp [q])
              · simp only [List.concat_eq_append, List.mem_append, List.mem_singleton] at q
                exact q.elim (fun q => .inr (by simp [q])) fun e => .inl (by simp [e])
            · rw [List.mem_singleton.mp hx] at hu
              exact .inr (by simp [hu])
          · simp only [List.length_append, List.length_cons, List.length_nil]
            omega
        have hml' := hm'.len hW
        simp only [List.length_append, List.length_cons, List.length_nil] at hml'
        obtain ⟨ks, k1, k2, k3⟩ := metF_while b hB C hC w n (met ++ [v]) (L ++ Eng.tl b v) hm' (by simp only [List.length_append, List.length_cons, List.length_nil]; omega)
        refine ⟨ks, k1, k2, ?_⟩
        have i1 := ixF_sd eL v C
        rw [hC.get v hvw] at i1
        simp only [Option.map_some] at i1
        have z1 : met.length < sizeLine := small (m := 2000) (by omega)
        have z2 : L.length + (Eng.tl b v).length ≤ sizeLine := by
          have : L.length + (Eng.tl b v).length ≤ 4006000 := by omega
          exact Nat.le_trans this (by decide)
        have ad := addT_new hin
        rw [sWhile_turn (ρ1 := [some (false, .val (.dict (sd eL C))), some (false, .val (.str w)), some (false, .dic (kd met)), some (false, .lst ((L.concat v).map .str)), none])
          (ρ2 := [some (false, .val (.dict (sd eL C))), some (false, .val (.str w)), some (false, .dic (kd (met ++ [v]))), some (false, .lst ((L ++ Eng.tl b v).map .str)), some (false, .val (.str v))]) (by simp [-List.map_map, t_met_from_1]) (.inl (by
          simp [-List.map_map, w_met_from_1, pp, hin, z1, z2, ad, i1]))]
        simpa using k3
theorem met_fromF_ex (b : List Row) (hB : Bf b) (C : Ld) (hC : Sg (wds b) b C) (w : Str) (hw : w ∈ wds b) : ∃ ks : List Str, ks.Nodup ∧ (∀ v, v ∈ ks ↔ Rc b w v) ∧
    f_met_from [.val (.dict (sd eL C)), .val (.str w)] = .ret (.dic (kd ks)) [.val (.dict (sd eL C)), .val (.str w)] := by
  have t1 := tl_len b w
  have hT := hB.few
  obtain ⟨ks, k1, k2, e⟩ := metF_while b hB C hC w _ [] (Eng.tl b w) ⟨by simp, by simp, fun v hv => Rc.tl0 hv, fun v hv => .inr hv, by simp, by simp; omega⟩ (Nat.lt_succ_self _)
  refine ⟨ks, k1, k2, ?_⟩
  have i1 := ixF_sd eL w C
  rw [hC.get w hw] at i1
  simp only [Option.map_some] at i1
  rw [kd_nil] at e
  simp [-List.map_map, f_met_from, b_met_from, runF_ap, i1, e]
theorem l_beneath_2_ex (b : List Row) (hB : Bf b) (w : Str) : ∃ ks : List Str, ks.Nodup ∧ (∀ v, v ∈ ks ↔ Rc b w v) ∧ f_l_beneath_2 [.val (eBk b), .val (.str w)] = .ret (.dic (kd ks)) [.val (eBk b), .val (.str w)] := by
  have hW := wds_few hB
  obtain ⟨ks, h1, h2, e⟩ := bw_while b hW w 2002 [] ⟨by simp, by simp⟩ (by simp)
  rw [kd_nil] at e
  have e2 : sWhile t_l_beneath_2_1 [4, 5, 6] w_l_beneath_2_1 [some (false, .val (eBk b)), some (false, .val (.str w)), some (false, .dic []), some (false, .val (.bool true)), none, none, none] = .nx [some (false, .val (eBk b)), some (false, .val (.str w)), some (false, .dic (kd ks)), some (false, .val (.bool false)), none, none, none] := e
  exact ⟨ks, h1, h2, by simp [-List.map_map, f_l_beneath_2, b_l_beneath_2, runF_ap, e2]⟩
theorem Rc.few {b : List Row} (hB : Bf b) {w : Str} {ks : List Str} (h1 : ks.Nodup) (h2 : ∀ v, v ∈ ks ↔ Rc b w v) : ks.length ≤ 2000 := (show Jb b w ks from ⟨h1, fun v hv => (h2 v).mp hv⟩).len (wds_few hB)
theorem rg_bth (b : List Row) (w : Str) (p : Str → Bool) (hp : ∀ v, Rc b w v → (p v = true ↔ Rc b v w)) : (bth b w).filter p = rg b w := by
  unfold bth rg
  rw [List.filter_filter]
  refine List.filter_congr fun v _ => ?_
  refine Bool.eq_iff_iff.mpr ?_
  rw [rgp_iff, Bool.and_eq_true]
  constructor
  · rintro ⟨h1, h2⟩
    have h2 : Rc b w v := @of_decide_eq_true _ (Classical.propDecidable _) h2
    exact ⟨h2, (hp v h2).mp h1⟩
  · rintro ⟨h1, h2⟩
    exact ⟨(hp v h1).mpr h2, @decide_eq_true _ (Classical.propDecidable _) h1⟩
/-- what is taken when these rings are told -/
structure TkR (b : List Row) (T : List (List Str)) (K : List Str) : Prop where
  nd : K.Nodup
  m : ∀ v, v ∈ K ↔ ∃ x ∈ T, v ∈ x
  w : ∀ v ∈ K, v ∈ wds b
theorem fold_addT (xs : List Str) : ∀ K : List Str, K.Nodup → (xs.foldl addT K).Nodup ∧ ∀ v, v ∈ xs.foldl addT K ↔ v ∈ K ∨ v ∈ xs := by
  induction xs with
  | nil => exact fun K h => ⟨h, by simp⟩
  | cons x xs ih =>
    intro K h
    rw [List.foldl_cons]
    have hn : (addT K x).Nodup := by
      unfold addT
      split
      · exact h
      · rename_i hx
        rw [List.nodup_append]
        exact ⟨h, by simp, fun a ha c hc e => hx (by rw [List.mem_singleton] at hc; rw [← hc, ← e]; exact ha)⟩
    obtain ⟨h1, h2⟩ := ih (addT K x) hn
    refine ⟨h1, fun v => ?_⟩
    rw [h2, mem_addT, List.mem_cons, or_assoc]
theorem TkR.put {b : List Row} {T : List (List Str)} {K : List Str} (h : TkR b T K) (w : Str) : TkR b (T ++ [rg b w]) ((rg b w).foldl addT K) := by
  obtain ⟨h1, h2⟩ := fold_addT (rg b w) K h.nd
  refine ⟨h1, fun v => ?_, fun v hv => ?_⟩
  · rw [h2, h.m]
    constructor
    · rintro (⟨x, hx, hv⟩ | hv)
      · exact ⟨x, List.mem_append_left _ hx, hv⟩
      · exact ⟨_, by simp, hv⟩
    · rintro ⟨x, hx, hv⟩
      rcases List.mem_append.mp hx with q | q
      · exact .inl ⟨x, q, hv⟩
      · rw [List.mem_singleton.mp q] at hv
        exact .inr hv
  · rcases (h2 v).mp hv with q | q
    · exact h.w v q
    · exact (rg_mem.mp q).1.wds
theorem rg_len {b : List Row} (hB : Bf b) (w : Str) : (rg b w).length ≤ 2000 := Nat.le_trans (List.length_filter_le _ _) (wds_few hB)
/-- one word's turn -/
theorem rings_turn (b : List Row) (hB : Bf b) (x1 : Sl) (Bn : Ld) (hBn : Bt b (wds b) Bn) (done rest : List Str) (w : Str) (hd : wds b = done ++ w :: rest) (T : List (List Str)) (hT : RgI b done T) (hTl : T.length ≤ 2000) (K : List Str) (hK : TkR b T K) :
    ∃ K', TkR b (stG b T w) K' ∧ turn (.nm 3) [3, 6, 7] w_rings_2_2 (.str w) [some (false, .val (eBk b)), x1, some (false, .dic (sd eD Bn)), none, some (false, .lst (T.map eL)), some (false, .dic (kd K)), none, none] =
      .nx [some (false, .val (eBk b)), x1, some (false, .dic (sd eD Bn)), none, some (false, .lst ((stG b T w).map eL)), some (false, .dic (kd K')), none, none] := by
  have hW := wds_few hB
  have hw : w ∈ wds b := by rw [hd]; simp
  obtain ⟨ks, k1, k2, k3⟩ := hBn.get w hw
  have kf := Rc.few hB k2 k3
  have zk : ks.length ≤ sizeLine := Nat.le_of_lt (small (m := 2000) kf)
  have ix : ixS (.dic (sd eD Bn)) (.val (.str w)) = some (.val (.dict (kd ks))) := by
    rw [ixS_sd, k1]
    rfl
  have i1 := inF_kd w ks
  by_cases hr : Rc b w w
  · have hwk := (k3 w).mpr hr
    rw [decide_eq_true hwk] at i1
    by_cases ht : rg b w ∈ T
    · have hwK : w ∈ K := (hK.m w).mpr ((taken_iff hT hr).mpr ht)
      have es : stG b T w = T := by unfold stG; rw [if_neg fun h => h.2 ht]
      rw [es]
      exact ⟨K, hK, by simp [-List.map_map, -List.mem_map, turn_ap, w_rings_2_2, ix, i1, hwK]⟩
    · have hwK : w ∉ K := fun h => ht ((taken_iff hT hr).mp ((hK.m w).mp h))
      have es : stG b T w = T ++ [rg b w] := by unfold stG; rw [if_pos ⟨hr, ht⟩]
      rw [es]
      refine ⟨_, hK.put w, ?_⟩
      have so := sortF_kd ks zk
      rw [bth_sorted k2 k3] at so
      have c1 := lc_if (f := PyData.str) (c := none) (T := .nm 7) (t := (tV (o2 inS (oNm 3) (o2 ixS (oNm 2) (oNm 7))))) (g := oNm 7) (own := [7])
        (ρ := [some (false, .val (eBk b)), x1, some (false, .dic (sd eD Bn)), some (false, .val (.str w)), some (false, .lst (T.map eL)), some (false, .dic (kd K)), none, none])
        (fun v => @decide (Rc b v w) (Classical.propDecidable _)) PyData.str (bth b w) (by simp) (by
        intro v hv
        obtain ⟨ks', q1, q2, q3⟩ := hBn.get v (bth_mem.mp hv).wds
        have ix' : ixS (.dic (sd eD Bn)) (.val (.str v)) = some (.val (.dict (kd ks'))) := by
          rw [ixS_sd, q1]
          rfl
        have i2 := inF_kd w ks'
        by_cases h : Rc b v w
        · rw [decide_eq_true ((q3 w).mpr h)] at i2
          simp [-List.map_map, lturn_ap, ix', i2, h]
        · rw [decide_eq_false fun q => h ((q3 w).mp q)] at i2
          simp [-List.map_map, lturn_ap, ix', i2, h])
      rw [rg_bth b w _ fun v _ => @decide_eq_true_iff _ (Classical.propDecidable _)] at c1
      simp [-List.map_map] at c1
      obtain ⟨e2, _⟩ := forLc_map (f := PyData.str) (T := .nm 7) (fg := [7]) (b := w_rings_2_3) (some (6, (rg b w).map .str))
        (fun K : List Str => [some (false, .val (eBk b)), x1, some (false, .dic (sd eD Bn)), some (false, .val (.str w)), some (false, .lst (T.map eL)), some (false, .dic (kd K)), some (true, .lst ((rg b w).map .str)), none]) addT (fun K => K.Nodup ∧ ∀ v ∈ K, v ∈ wds b) (by intro s; rfl) (rg b w) K ⟨hK.nd, hK.w⟩ (by
        rintro K v hv ⟨n1, n2⟩
        have z : K.length < sizeLine := small (m := 2000) (Nat.le_trans (sub_len n1 n2) hW)
        refine ⟨by simp [-List.map_map, turn_ap, w_rings_2_3, z], ?_⟩
        obtain ⟨f1, f2⟩ := fold_addT [v] K n1
        exact ⟨f1, fun u hu => ((f2 u).mp hu).elim (n2 u) fun q => by rw [List.mem_singleton.mp q]; exact (rg_mem.mp hv).1.wds⟩)
      have z4 : T.length < sizeLine := small (m := 2001) (by omega)
      have em : (T ++ [rg b w]).map eL = T.map eL ++ [.list ((rg b w).map .str)] := by
        rw [List.map_append]
        rfl
      rw [em]
      have kc : c_rings_2_1 [some (false, .val (eBk b)), x1, some (false, .dic (sd eD Bn)), some (false, .val (.str w)), some (false, .lst (T.map eL)), some (false, .dic (kd K)), none, none] = .ok (.tmp (.lst ((rg b w).map .str))) [some (false, .val (eBk b)), x1, some (false, .dic (sd eD Bn)), some (false, .val (.str w)), some (false, .lst (T.map eL)), some (false, .dic (kd K)), none, none] := by
        rw [c_rings_2_1]
        simp [-List.map_map, ix, so, c1]
      simp [-List.map_map, -List.mem_map, turn_ap, w_rings_2_2, ix, i1, hwK, kc, forW_nm, e2, z4]
  · have hwk : w ∉ ks := fun h => hr ((k3 w).mp h)
    rw [decide_eq_false hwk] at i1
    have es : stG b T w = T := by unfold stG; rw [if_neg fun h => hr h.1]
    rw [es]
    exact ⟨K, hK, by simp [-List.map_map, -List.mem_map, turn_ap, w_rings_2_2, ix, i1]⟩
theorem stG_len (b : List Row) (T : List (List Str)) (w : Str) : (stG b T w).length ≤ T.length + 1 := by
  unfold stG
  split
  · simp
  · omega
theorem rings_2_eq (b : List Row) (hB : Bf b) : f_rings_2 [.val (eBk b)] = .ret (.lst ((rgT b (wds b)).map eL)) [.val (eBk b)] := by
  have hW := wds_few hB
  have hnd := wds_nodup b
  obtain ⟨C, hC, e1⟩ := straight_ex b hB
  have lC := keys_len hC
  have zC : C.length ≤ sizeLine := Nat.le_of_lt (small (m := 2000) (by omega))
  have it := itemsF_sd eL C
  rw [hC.keys] at it
  have so := sortF_sd eL C zC
  rw [hC.keys, sortT_wds] at so
  have fz : ∀ X : SS, sFrzD 1 X [some (false, .val (eBk b)), some (false, .dic (sd eL C)), some (false, .dic []), none, none, none, none, none] = X [some (false, .val (eBk b)), some (false, .val (.dict (sd eL C))), some (false, .dic []), none, none, none, none, none] := fun X => by
    show (if plK (sd eL C) = true then _ else _) = _
    have pk : plK (sd eL C) = true := plK_sd eL C
    rw [if_pos pk]
    rfl
  obtain ⟨ρ1, g1, Bn, hBn, rfl⟩ := forL_all (f := PyData.str) (T := .nm 3) (fg := [3]) (b := w_rings_2_1)
    (fun done ρ => ∃ Bn : Ld, Bt b done Bn ∧ ρ = [some (false, .val (eBk b)), some (false, .val (.dict (sd eL C))), some (false, .dic (sd eD Bn)), none, none, none, none, none]) (wds b)
    [some (false, .val (eBk b)), some (false, .val (.dict (sd eL C))), some (false, .dic []), none, none, none, none, none] ⟨[], Bt.nil b, rfl⟩ (by
    rintro done w rest ρ he ⟨Bn, hBn, rfl⟩
    have hw : w ∉ done := fun h => by
      rw [he] at hnd
      exact (List.nodup_append.mp hnd).2.2 w h w (by simp) rfl
    obtain ⟨ks, k1, k2, e2⟩ := met_fromF_ex b hB C hC w (by rw [he]; simp)
    have pk : plK (kd ks) = true := plK_kd ks
    have z : Bn.length < sizeLine := small (m := 2000) (by
      have h1 := hBn.len
      have h2 := congrArg List.length he
      simp at h2
      omega)
    have q := setS_sd eD w ks Bn
    rw [if_pos z] at q
    have q : setS (.dic (sd eD Bn)) (.str w) (.dict (kd ks)) = _ := q
    exact ⟨_, by simp [-List.map_map, turn_ap, w_rings_2_1, oFrzD, e2, pk, q], _, hBn.put hw k1 k2, rfl⟩)
  obtain ⟨ρ2, g2, T, K, hT, hK, hTl, hTe, rfl⟩ := forL_all (f := PyData.str) (T := .nm 3) (fg := [3, 6, 7]) (b := w_rings_2_2)
    (fun done ρ => ∃ (T : List (List Str)) (K : List Str), RgI b done T ∧ TkR b T K ∧ T.length ≤ done.length ∧ T = rgT b done ∧ ρ = [some (false, .val (eBk b)), some (false, .val (.dict (sd eL C))), some (false, .dic (sd eD Bn)), none, some (false, .lst (T.map eL)), some (false, .dic (kd K)), none, none]) (wds b)
    [some (false, .val (eBk b)), some (false, .val (.dict (sd eL C))), some (false, .dic (sd eD Bn)), none, some (false, .lst []), some (false, .dic []), none, none] ⟨[], [], RgI.nil b, ⟨by simp, by simp, by simp⟩, by simp, rfl, rfl⟩ (by
    rintro done w rest ρ he ⟨T, K, hT, hK, hTl, hTe, rfl⟩
    have h2 := congrArg List.length he
    simp at h2
    obtain ⟨K', hK', e2⟩ := rings_turn b hB (some (false, .val (.dict (sd eL C)))) Bn hBn done rest w he T hT (by omega) K hK
    exact ⟨_, e2, _, K', hT.step he, hK', by have := stG_len b T w; rw [List.length_append, List.length_singleton]; omega, by rw [rgT_snoc, hTe], rfl⟩)
  have s0 : startE 8 [.val (eBk b)] = [some (false, .val (eBk b)), none, none, none, none, none, none, none] := rfl
  have p1 : (sAsg 1 (oCall f_straight (oAs [oNm 0]))) [some (false, .val (eBk b)), none, none, none, none, none, none, none] = .nx [some (false, .val (eBk b)), some (false, .dic (sd eL C)), none, none, none, none, none, none] := by
    simp [-List.map_map, e1]
  have p2 : (sAsg 2 (oDic0)) [some (false, .val (eBk b)), some (false, .dic (sd eL C)), none, none, none, none, none, none] = .nx [some (false, .val (eBk b)), some (false, .dic (sd eL C)), some (false, .dic []), none, none, none, none, none] := by
    simp [-List.map_map]
  have p3 : (sFor (iSeq (oNm 1)) (.nm 3) [3] w_rings_2_1) [some (false, .val (eBk b)), some (false, .val (.dict (sd eL C))), some (false, .dic []), none, none, none, none, none] = .nx [some (false, .val (eBk b)), some (false, .val (.dict (sd eL C))), some (false, .dic (sd eD Bn)), none, none, none, none, none] := by
    simp [-List.map_map, it, g1]
  have p6 : (sFor (iSeq (o1 sortS (oNm 1))) (.nm 3) [3, 6, 7] w_rings_2_2) [some (false, .val (eBk b)), some (false, .val (.dict (sd eL C))), some (false, .dic (sd eD Bn)), none, some (false, .lst []), some (false, .dic []), none, none] = .nx [some (false, .val (eBk b)), some (false, .val (.dict (sd eL C))), some (false, .dic (sd eD Bn)), none, some (false, .lst (T.map eL)), some (false, .dic (kd K)), none, none] := by
    simp [-List.map_map, so, g2]
  rw [f_rings_2, runF_fin, s0, b_rings_2, sq_nx p1, sq_nx p2, fz, sq_nx p3, ← hTe]
  have p4 : (sAsg 4 (oLst (oAs []))) [some (false, .val (eBk b)), some (false, .val (.dict (sd eL C))), some (false, .dic (sd eD Bn)), none, none, none, none, none] = .nx [some (false, .val (eBk b)), some (false, .val (.dict (sd eL C))), some (false, .dic (sd eD Bn)), none, some (false, .lst []), none, none, none] := by
    simp [-List.map_map]
  have p5 : (sAsg 5 (oDic0)) [some (false, .val (eBk b)), some (false, .val (.dict (sd eL C))), some (false, .dic (sd eD Bn)), none, some (false, .lst []), none, none, none] = .nx [some (false, .val (eBk b)), some (false, .val (.dict (sd eL C))), some (false, .dic (sd eD Bn)), none, some (false, .lst []), some (false, .dic []), none, none] := by
    simp [-List.map_map]
  rw [sq_nx p4, sq_nx p5, sq_nx p6]
  simp [-List.map_map]
end Eng
/-! Law k32. -/
namespace Eng
open PySem PySem.Spec L2 SX
open PyProof.Rows hiding St
theorem frz_val (p : Bool) (d : D) (ρ : En) : frz (some (p, .val d) :: ρ) 0 = some (p, .val d) :: ρ := by simp [frz]
theorem shaped_lists {T : List (List Str)} (h : ∀ x ∈ T, ∀ w ∈ x, WW w) : SeqAt.shaped (.list (T.map eL)) = true := by
  have h1 : PyData.canLayAll0 (T.map eL) = true := by
    induction T with
    | nil => rfl
    | cons x T ih =>
      rw [List.map_cons]
      simp only [PyData.canLayAll0, Bool.and_eq_true]
      exact ⟨(Bool.and_eq_true_iff.mp (shaped_list (h x (by simp)))).1, ih fun y hy => h y (by simp [hy])⟩
  have h2 : PyData.depthAll (T.map eL) ≤ 32 := by
    clear h1 h
    induction T with
    | nil => simp [PyData.depthAll]
    | cons x T ih =>
      rw [List.map_cons]
      have := depth_eL x
      simp only [PyData.depthAll]
      omega
  unfold SeqAt.shaped
  simp [PyData.canLay0, h1, PyData.depth]
  omega
theorem notin_lists {x : List Str} {T : List (List Str)} (hx : ∀ w ∈ x, WW w) (h : ∀ x ∈ T, ∀ w ∈ x, WW w) : notinS (.lst (x.map .str)) (.lst (T.map eL)) = some (.val (.bool (!decide (x ∈ T)))) := by
  have s1 := shaped_list hx
  have s2 := shaped_lists h
  have an : ((T.map eL).any fun y => PyData.eqv y (.list (x.map .str))) = decide (x ∈ T) := by
    clear s2 h
    induction T with
    | nil => rfl
    | cons y T ih =>
      rw [List.map_cons, List.any_cons, ih]
      have : PyData.eqv (eL y) (.list (x.map .str)) = decide (y = x) := by
        show PyData.eqv (.list (y.map .str)) (.list (x.map .str)) = _
        simp only [PyData.eqv, eqvAll_strs]
      rw [this]
      by_cases e : y = x
      · simp [e]
      · have e2 : ¬ x = y := fun q => e q.symm
        simp [e, e2]
  have hh : hasS (.lst (x.map .str)) (.lst (T.map eL)) = some (decide (x ∈ T)) := by
    unfold hasS
    simp only [view_lst, seq_lst, s1, s2, Bool.and_self, Bool.or_true, if_true, an]
  unfold notinS
  rw [hh]
  rfl
theorem rg_WW {b : List Row} (hb : Bo b) {w v : Str} (h : v ∈ rg b w) : WW v := wds_WW hb v (rg_mem.mp h).1.wds
theorem T_WW {b : List Row} (hb : Bo b) {done : List Str} {T : List (List Str)} (h : RgI b done T) : ∀ x ∈ T, ∀ v ∈ x, WW v := by
  intro x hx v hv
  obtain ⟨hs, _, h2, _⟩ := h.hs
  rw [h2] at hx
  obtain ⟨u, _, rfl⟩ := List.mem_map.mp hx
  exact rg_WW hb hv
theorem same_lists (T : List (List Str)) (hl : T.length ≤ 2000) (hx : ∀ x ∈ T, x.length ≤ 2000) : f_l_same [.val (.list (T.map eL)), .lst (T.map eL)] = .ret (.val (.bool true)) [.val (.list (T.map eL)), .lst (T.map eL)] :=
  sm_lists (g := f_l_same_d3) (.inr rfl) (.inl rfl) (by rw [List.length_map]; omega) fun d hd => by
    obtain ⟨x, hx', rfl⟩ := List.mem_map.mp hd
    exact sm_lists (g := f_l_same_d2) (ds := x.map .str) (.inr rfl) (.inr rfl) (by rw [List.length_map]; have := hx x hx'; omega) fun d hd => by
      obtain ⟨w, _, rfl⟩ := List.mem_map.mp hd
      exact sm_str f_l_same_d1 w

theorem due_turn (b : List Row) (hB : Bf b) (x0 x1 x2 : Sl) (Bn : Ld) (hBn : Bt b (wds b) Bn) (done : List Str) (w : Str) (hw : w ∈ wds b) (T : List (List Str)) (hT : RgI b done T) (hTl : T.length ≤ 2000) :
    turn (.nm 5) [5, 9] w_law_86_2 (.str w) [x0, x1, x2, some (false, .val (eBk b)), some (false, .val (.dict (sd eD Bn))), none, some (false, .lst (T.map eL)), none, none, none, none] = .nx [x0, x1, x2, some (false, .val (eBk b)), some (false, .val (.dict (sd eD Bn))), none, some (false, .lst ((stG b T w).map eL)), none, none, none, none] := by
  have hb := hB.bo
  obtain ⟨ks, k1, k2, k3⟩ := hBn.get w hw
  have kf := Rc.few hB k2 k3
  have ix : ixS (.val (.dict (sd eD Bn))) (.val (.str w)) = some (.val (.dict (kd ks))) := by
    rw [ixF_sd, k1]
    rfl
  have i1 := inF_kd w ks
  by_cases hr : Rc b w w
  · rw [decide_eq_true ((k3 w).mpr hr)] at i1
    have it := itemsF_kd ks
    have c1 := lc_if (f := PyData.str) (c := none) (T := .nm 10) (t := (tV (o2 inS (oNm 5) (o2 ixS (oNm 4) (oNm 10))))) (g := oNm 10) (own := [10])
      (ρ := [x0, x1, x2, some (false, .val (eBk b)), some (false, .val (.dict (sd eD Bn))), some (false, .val (.str w)), some (false, .lst (T.map eL)), none, none, none, none])
      (rgp b w) PyData.str ks (by simp) (by
      intro v hv
      have hwv := (k3 v).mp hv
      obtain ⟨ks', q1, q2, q3⟩ := hBn.get v hwv.wds
      have ix' : ixS (.val (.dict (sd eD Bn))) (.val (.str v)) = some (.val (.dict (kd ks'))) := by
        rw [ixF_sd, q1]
        rfl
      have i2 := inF_kd w ks'
      by_cases h : Rc b v w
      · have hp : rgp b w v = true := rgp_iff.mpr ⟨hwv, h⟩
        rw [decide_eq_true ((q3 w).mpr h)] at i2
        simp [-List.map_map, lturn_ap, ix', i2, hp]
      · have hp : rgp b w v = false := by
          cases e : rgp b w v with
          | false => rfl
          | true => exact absurd (rgp_iff.mp e).2 h
        rw [decide_eq_false fun q => h ((q3 w).mp q)] at i2
        simp [-List.map_map, lturn_ap, ix', i2, hp])
    simp [-List.map_map] at c1
    have es : sortT (ks.filter (rgp b w)) = rg b w := sorted_ext (sortT_nodup (k2.filter _)) ((wds_nodup b).filter _) (sortT_pairwise _) (sortT_filter_wds b _) fun v => by
      rw [mem_sortT, List.mem_filter, k3, rg_mem, rgp_iff]
      exact ⟨fun h => h.2, fun h => ⟨h.1, h⟩⟩
    have zs : (ks.filter (rgp b w)).length ≤ sizeLine := Nat.le_of_lt (small (m := 2000) (Nat.le_trans (List.length_filter_le _ _) kf))
    have so := sortS_lst (ks.filter (rgp b w))
    rw [if_pos zs, es] at so
    have kc : c_law_86_1 [x0, x1, x2, some (false, .val (eBk b)), some (false, .val (.dict (sd eD Bn))), some (false, .val (.str w)), some (false, .lst (T.map eL)), none, none, none, none] = .ok (.tmp (.lst ((ks.filter (rgp b w)).map .str))) [x0, x1, x2, some (false, .val (eBk b)), some (false, .val (.dict (sd eD Bn))), some (false, .val (.str w)), some (false, .lst (T.map eL)), none, none, none, none] := by
      rw [c_law_86_1]
      simp [-List.map_map, ix, it, c1]
    have ni := notin_lists (x := rg b w) (T := T) (fun v hv => rg_WW hb hv) (T_WW hb hT)
    by_cases ht : rg b w ∈ T
    · rw [decide_eq_true ht] at ni
      have e : stG b T w = T := by unfold stG; rw [if_neg fun h => h.2 ht]
      rw [e]
      simp [-List.map_map, -List.mem_map, -sortS_lst, turn_ap, w_law_86_2, ix, i1, kc, so, ni]
    · rw [decide_eq_false ht] at ni
      have e : stG b T w = T ++ [rg b w] := by unfold stG; rw [if_pos ⟨hr, ht⟩]
      have z4 : T.length < sizeLine := small (m := 2001) (by omega)
      have em : (T ++ [rg b w]).map eL = T.map eL ++ [.list ((rg b w).map .str)] := by
        rw [List.map_append]
        rfl
      rw [e, em]
      simp [-List.map_map, -List.mem_map, -sortS_lst, turn_ap, w_law_86_2, ix, i1, kc, so, ni, z4]
  · rw [decide_eq_false fun h => hr ((k3 w).mp h)] at i1
    have e : stG b T w = T := by unfold stG; rw [if_neg fun h => hr h.1]
    rw [e]
    simp [-List.map_map, -List.mem_map, turn_ap, w_law_86_2, ix, i1]
theorem last_turn (ns lf2 s4 : List Int) (b : List Row) (hB : Bf b) (hv : (wds b).length ≤ 900) (x4 : Sl) (h4 : ∀ ρ : En, dropE1 0 (x4 :: ρ) = none :: ρ) (o6 : O) (h6 : o6 = .lst ((rgT b (wds b)).map eL) ∨ o6 = .val (.list ((rgT b (wds b)).map eL))) (kk : Int) :
    turn (.nm 7) [7, 8, 9] w_law_86_3 (.int kk) [some (false, .scr ns), some (false, .lst (lf2.map .int)), some (false, .lst (s4.map .int)), some (false, .val (eBk b)), x4, none, some (false, o6), none, none, none, none] = .nx [some (false, .scr ns), some (false, .lst (lf2.map .int)), some (false, .lst (s4.map .int)), some (false, .val (eBk b)), none, none, some (false, .val (.list ((rgT b (wds b)).map eL))), none, none, none, none] := by
  have rq := rings_2_eq b hB
  have hTl : (rgT b (wds b)).length ≤ 900 := by
    obtain ⟨hs, h1, h2, _⟩ := (rgT_all b).hs
    rw [h2, List.length_map]
    exact Nat.le_trans h1.length_le hv
  have hxl : ∀ x ∈ rgT b (wds b), x.length ≤ 2000 := fun x hx => by
    obtain ⟨hs, h1, h2, _⟩ := (rgT_all b).hs
    rw [h2] at hx
    obtain ⟨u, _, rfl⟩ := List.mem_map.mp hx
    exact rg_len hB u
  have so := sort_rings b (by omega) (.inr rfl)
  have sm := same_lists (rgT b (wds b)) (by omega) hxl
  generalize rgT b (wds b) = T at *
  have fr : frz [some (false, .scr ns), some (false, .lst (lf2.map .int)), some (false, .lst (s4.map .int)), some (false, .val (eBk b)), x4, none, some (false, o6), some (false, .val (.int kk)), none, none, none] 6 = [some (false, .scr ns), some (false, .lst (lf2.map .int)), some (false, .lst (s4.map .int)), some (false, .val (eBk b)), x4, none, some (false, .val (.list (T.map eL))), some (false, .val (.int kk)), none, none, none] := by
    rcases h6 with rfl | rfl <;> simp only [frz_succ, frz_zero, frz_val]
  have fm : (oCall f_rings_2 (oAs [oNm 3])) (strip [some (false, .scr ns), some (false, .lst (lf2.map .int)), some (false, .lst (s4.map .int)), some (false, .val (eBk b)), none, none, some (false, .val (.list (T.map eL))), some (false, .val (.int kk)), none, none, none]) = .ok (.tmp (.lst (T.map eL))) (strip [some (false, .scr ns), some (false, .lst (lf2.map .int)), some (false, .lst (s4.map .int)), some (false, .val (eBk b)), none, none, some (false, .val (.list (T.map eL))), some (false, .val (.int kk)), none, none, none]) := by
    simp [-List.map_map, rq]
  have mm : (sSeq (sIf (tNotC (tV (oCall f_l_same (oAs [oNm 8, o1 sortS (oNm 6)])))) (sRet (oC (.bool false))) sNil) sNil) [some (false, .scr ns), some (false, .lst (lf2.map .int)), some (false, .lst (s4.map .int)), some (false, .val (eBk b)), none, none, some (true, .val (.list (T.map eL))), some (false, .val (.int kk)), some (true, .val (.list (T.map eL))), none, none] = .nx [some (false, .scr ns), some (false, .lst (lf2.map .int)), some (false, .lst (s4.map .int)), some (false, .val (eBk b)), none, none, some (true, .val (.list (T.map eL))), some (false, .val (.int kk)), some (true, .val (.list (T.map eL))), none, none] := by
    simp [-List.map_map, so, sm]
  have yq := sYng_nx (i := 8) (js := [6]) (rs := [9]) (rest := sNil) (th := thEach) (ρ := [some (false, .scr ns), some (false, .lst (lf2.map .int)), some (false, .lst (s4.map .int)), some (false, .val (eBk b)), none, none, some (false, .val (.list (T.map eL))), some (false, .val (.int kk)), none, none, none]) (ρ1 := [some (false, .scr ns), some (false, .lst (lf2.map .int)), some (false, .lst (s4.map .int)), some (false, .val (eBk b)), none, none, some (false, .val (.list (T.map eL))), some (false, .val (.int kk)), some (false, .val (.list (T.map eL))), none, none]) (ρ2 := [some (false, .scr ns), some (false, .lst (lf2.map .int)), some (false, .lst (s4.map .int)), some (false, .val (eBk b)), none, none, some (true, .val (.list (T.map eL))), some (false, .val (.int kk)), some (true, .val (.list (T.map eL))), none, none]) (ρ3 := [some (false, .scr ns), some (false, .lst (lf2.map .int)), some (false, .lst (s4.map .int)), some (false, .val (eBk b)), none, none, some (true, .val (.list (T.map eL))), some (false, .val (.int kk)), some (true, .val (.list (T.map eL))), none, none]) fm rfl (by simp) (by rw [pinsE_cons (d := .list (T.map eL)) (by rfl), pinsE_cons (d := .list (T.map eL)) (by rfl)]; rfl) mm (by simp) (by simp) (by simp) (by simp [okL]) ⟨by rw [List.length_map]; omega, by
    intro d hd
    obtain ⟨x, hx, rfl⟩ := List.mem_map.mp hd
    exact ⟨x, rfl⟩⟩
  have t0 : ∀ ρ : En, (Tgt.nm 7).put (.int kk) ρ = setE 7 (.val (.int kk)) ρ := fun ρ => rfl
  rw [turn_ap, t0]
  simp only [setE_succ, setE_zero', Option.map_some]
  rw [w_law_86_3, sFrz_ap, fr, sDrp_ap]
  simp only [dropE_cons, dropE_nil, dropE1_succ, h4]
  rw [yq]
  simp [-List.map_map]

theorem answer32 (ns : List Int) : ∃ fin, f_law_86 [.scr ns] = .ret (.val (.bool true)) fin := by
  obtain ⟨lf, lf1, s1, s2, lf2, s3, s4, ws, b1, b, e0, e1, e2, e3, e4, hBg, w1, w24, hw⟩ := books_ex ns
  have hB : Bf b := hBg.bf (by omega) hw
  have hb := hB.bo
  have hv : (wds b).length ≤ 900 := by
    have := sub_len (wds_nodup b) fun w h => hBg.wds_sub h
    omega
  have hnd := wds_nodup b
  have la := l_all_eq b hb
  obtain ⟨ρ1, g1, Bn, hBn, rfl⟩ := forL_all (f := PyData.str) (T := .nm 5) (fg := [5]) (b := w_law_86_1)
    (fun done ρ => ∃ Bn : Ld, Bt b done Bn ∧ ρ = [some (false, .scr ns), some (false, .lst (lf2.map .int)), some (false, .lst (s4.map .int)), some (false, .val (eBk b)), some (false, .dic (sd eD Bn)), none, none, none, none, none, none]) (wds b)
    [some (false, .scr ns), some (false, .lst (lf2.map .int)), some (false, .lst (s4.map .int)), some (false, .val (eBk b)), some (false, .dic []), none, none, none, none, none, none] ⟨[], Bt.nil b, rfl⟩ (by
    rintro done w rest ρ he ⟨Bn, hBn, rfl⟩
    have hw : w ∉ done := fun h => by
      rw [he] at hnd
      exact (List.nodup_append.mp hnd).2.2 w h w (by simp) rfl
    obtain ⟨ks, k1, k2, e2⟩ := l_beneath_2_ex b hB w
    have pk : plK (kd ks) = true := plK_kd ks
    have z : Bn.length < sizeLine := small (m := 2000) (by
      have h1 := hBn.len
      have h2 := congrArg List.length he
      simp at h2
      omega)
    have q := setS_sd eD w ks Bn
    rw [if_pos z] at q
    have q : setS (.dic (sd eD Bn)) (.str w) (.dict (kd ks)) = _ := q
    exact ⟨_, by simp [-List.map_map, turn_ap, w_law_86_1, oFrzD, e2, pk, q], _, hBn.put hw k1 k2, rfl⟩)
  obtain ⟨ρ2, g2, T, hT, hTl, hTe, rfl⟩ := forL_all (f := PyData.str) (T := .nm 5) (fg := [5, 9]) (b := w_law_86_2)
    (fun done ρ => ∃ T : List (List Str), RgI b done T ∧ T.length ≤ done.length ∧ T = rgT b done ∧ ρ = [some (false, .scr ns), some (false, .lst (lf2.map .int)), some (false, .lst (s4.map .int)), some (false, .val (eBk b)), some (false, .val (.dict (sd eD Bn))), none, some (false, .lst (T.map eL)), none, none, none, none]) (wds b)
    [some (false, .scr ns), some (false, .lst (lf2.map .int)), some (false, .lst (s4.map .int)), some (false, .val (eBk b)), some (false, .val (.dict (sd eD Bn))), none, some (false, .lst []), none, none, none, none] ⟨[], RgI.nil b, by simp, rfl, rfl⟩ (by
    rintro done w rest ρ he ⟨T, hT, hTl, hTe, rfl⟩
    have h2 := congrArg List.length he
    simp at h2
    exact ⟨_, due_turn b hB _ _ _ Bn hBn done w (by rw [he]; simp) T hT (by omega), _, hT.step he, by have := stG_len b T w; rw [List.length_append, List.length_singleton]; omega, by rw [rgT_snoc, hTe], rfl⟩)
  have it := itemsF_sd eD Bn
  rw [hBn.keys] at it
  subst hTe
  have fl : forL none (.nm 7) [7, 8, 9] w_law_86_3 (rng 0 2) [some (false, .scr ns), some (false, .lst (lf2.map .int)), some (false, .lst (s4.map .int)), some (false, .val (eBk b)), some (false, .val (.dict (sd eD Bn))), none, some (false, .lst ((rgT b (wds b)).map eL)), none, none, none, none] = .nx [some (false, .scr ns), some (false, .lst (lf2.map .int)), some (false, .lst (s4.map .int)), some (false, .val (eBk b)), none, none, some (false, .val (.list ((rgT b (wds b)).map eL))), none, none, none, none] := by
    have t1 := last_turn ns lf2 s4 b hB hv (some (false, .val (.dict (sd eD Bn)))) (fun ρ => by simp) _ (.inl rfl) 0
    have t2 := last_turn ns lf2 s4 b hB hv none (fun ρ => by simp) _ (.inr rfl) 1
    show forL none (.nm 7) [7, 8, 9] w_law_86_3 [.int 0, .int 1] _ = _
    rw [forLc_turn (c := none) t1 trivial, forLc_turn (c := none) t2 trivial]
    rfl
  have fz : ∀ X : SS, sFrzD 4 X [some (false, .scr ns), some (false, .lst (lf2.map .int)), some (false, .lst (s4.map .int)), some (false, .val (eBk b)), some (false, .dic (sd eD Bn)), none, some (false, .lst []), none, none, none, none] = X [some (false, .scr ns), some (false, .lst (lf2.map .int)), some (false, .lst (s4.map .int)), some (false, .val (eBk b)), some (false, .val (.dict (sd eD Bn))), none, some (false, .lst []), none, none, none, none] := fun X => by
    have pk : plK (sd eD Bn) = true := plK_sd eD Bn
    show (if plK (sd eD Bn) = true then _ else _) = _
    rw [if_pos pk]
    rfl
  have s0 : startE 11 [.scr ns] = [some (false, .scr ns), none, none, none, none, none, none, none, none, none, none] := rfl
  have p1 : (sAsg 1 (o1 listRevS (oSl (oNm 0) oNoPart (oPart (oC (.int 200)))))) [some (false, .scr ns), none, none, none, none, none, none, none, none, none, none] = .nx [some (false, .scr ns), some (false, .lst (lf.map .int)), none, none, none, none, none, none, none, none, none] := by
    simp [-List.map_map, e0]
  have p2 : (sAsg 2 (oCall f_l_source (oAs [oNm 1, oC (.int 1)]))) [some (false, .scr ns), some (false, .lst (lf.map .int)), none, none, none, none, none, none, none, none, none] = .nx [some (false, .scr ns), some (false, .lst (lf1.map .int)), some (false, .lst (s1.map .int)), none, none, none, none, none, none, none, none] := by
    simp [-List.map_map, e1]
  have p3 : (sAsg 3 (oCall f_l_widened_3 (oAs [oNm 2, oCall f_l_book_2 (oAs [oNm 1, oNm 2, oCall f_l_words_2 (oAs [oNm 2])])]))) [some (false, .scr ns), some (false, .lst (lf1.map .int)), some (false, .lst (s1.map .int)), none, none, none, none, none, none, none, none] = .nx [some (false, .scr ns), some (false, .lst (lf2.map .int)), some (false, .lst (s4.map .int)), some (false, .val (eBk b)), none, none, none, none, none, none, none] := by
    simp [-List.map_map, e2, e3, e4]
  have p4 : (sAsg 4 (oDic0)) [some (false, .scr ns), some (false, .lst (lf2.map .int)), some (false, .lst (s4.map .int)), some (false, .val (eBk b)), none, none, none, none, none, none, none] = .nx [some (false, .scr ns), some (false, .lst (lf2.map .int)), some (false, .lst (s4.map .int)), some (false, .val (eBk b)), some (false, .dic []), none, none, none, none, none, none] := by
    simp [-List.map_map]
  have p5 : (sFor (iSeq (oCall f_l_all (oAs [oNm 3]))) (.nm 5) [5] w_law_86_1) [some (false, .scr ns), some (false, .lst (lf2.map .int)), some (false, .lst (s4.map .int)), some (false, .val (eBk b)), some (false, .dic []), none, none, none, none, none, none] = .nx [some (false, .scr ns), some (false, .lst (lf2.map .int)), some (false, .lst (s4.map .int)), some (false, .val (eBk b)), some (false, .dic (sd eD Bn)), none, none, none, none, none, none] := by
    simp [-List.map_map, la, g1]
  have p6 : (sAsg 6 (oLst (oAs []))) [some (false, .scr ns), some (false, .lst (lf2.map .int)), some (false, .lst (s4.map .int)), some (false, .val (eBk b)), some (false, .dic (sd eD Bn)), none, none, none, none, none, none] = .nx [some (false, .scr ns), some (false, .lst (lf2.map .int)), some (false, .lst (s4.map .int)), some (false, .val (eBk b)), some (false, .dic (sd eD Bn)), none, some (false, .lst []), none, none, none, none] := by
    simp [-List.map_map]
  have p7 : (sFor (iSeq (oNm 4)) (.nm 5) [5, 9] w_law_86_2) [some (false, .scr ns), some (false, .lst (lf2.map .int)), some (false, .lst (s4.map .int)), some (false, .val (eBk b)), some (false, .val (.dict (sd eD Bn))), none, some (false, .lst []), none, none, none, none] = .nx [some (false, .scr ns), some (false, .lst (lf2.map .int)), some (false, .lst (s4.map .int)), some (false, .val (eBk b)), some (false, .val (.dict (sd eD Bn))), none, some (false, .lst ((rgT b (wds b)).map eL)), none, none, none, none] := by
    simp [-List.map_map, it, g2]
  have p8 : (sFor (iRng1 (oAs [oC (.int 2)])) (.nm 7) [7, 8, 9] w_law_86_3) [some (false, .scr ns), some (false, .lst (lf2.map .int)), some (false, .lst (s4.map .int)), some (false, .val (eBk b)), some (false, .val (.dict (sd eD Bn))), none, some (false, .lst ((rgT b (wds b)).map eL)), none, none, none, none] = .nx [some (false, .scr ns), some (false, .lst (lf2.map .int)), some (false, .lst (s4.map .int)), some (false, .val (eBk b)), none, none, some (false, .val (.list ((rgT b (wds b)).map eL))), none, none, none, none] := by
    simp [-List.map_map, fl]
  refine ⟨[.scr ns], ?_⟩
  rw [f_law_86, runF_fin, s0, b_law_86, sq_nx p1, sq_nx p2, sq_nx p3, sq_nx p4, sq_nx p5, sq_nx p6, fz, sq_nx p7, sq_nx p8]
  simp [-List.map_map]
end Eng
set_option maxHeartbeats 4000000
namespace Eng
open PySem PySem.Spec L2
open PyProof.Rows hiding St
def top (i : Nat) : Stmt := PySem.Challenge.pw_primer_k32_rings.main.body.getD i (.Pass ⟨0, 0, 0, 0⟩)
def mth (i j : Nat) : Stmt := match top i with
  | .ClassDef _ _ _ body .. => body.getD j (.Pass ⟨0, 0, 0, 0⟩)
  | s => s
section
variable {P : Program} {w : World} {K : PySem.W.Frag} {mg : Str → Option Value} {base : Heap} {ca : Nat → Addr}

theorem sc__law_all : FnScope ["_law_book_here", "_law_met", "_law_word", "_law_told", "_law_one"] ["_law_book_here"] (defScope (top 13)) := ⟨rfl, rfl, rfl, by decide +kernel, rfl, by decide +kernel, by decide +kernel⟩
theorem ok__law_all {f : Addr} {fd : FuncData} (F : Fun K "_law_all" "_law_all" (top 13) f fd) (hm : mg "_law_all" = some (.ref f)) (hB : Blt mg) : Callee P w K mg base ca 1 "_law_all" 1 f_l_all := by
  refine ⟨f, fd, ["_law_book_here"], rfl, efn_body (N := ["_law_book_here", "_law_met", "_law_word", "_law_told", "_law_one"]) (b := b_l_all) F sc__law_all fun cdv A outer s H E hg hr => ?_, hm, F.kp, F.binds fun _ _ _ _ _ _ us hl => match us, hl with | [_], _ => rfl⟩
  have hG : (cxOf (L2N.CX P w) P w K mg base ["_law_book_here", "_law_met", "_law_word", "_law_told", "_law_one"] "_law_all" (defScope (top 13)) f cdv A outer s H E).A.guards = some [] := by
    rw [← hg]; exact deeper_guards _ _
  have tk : L2N.Takes (cxOf (L2N.CX P w) P w K mg base ["_law_book_here", "_law_met", "_law_word", "_law_told", "_law_one"] "_law_all" (defScope (top 13)) f cdv A outer s H E) (fun cls d _ H => E cls d H) := L2N.takes_of rfl rfl rfl rfl
  have nd := sc__law_all.nd
  have hp : PassesOwn _ _ _ (cxOf (L2N.CX P w) P w K mg base ["_law_book_here", "_law_met", "_law_word", "_law_told", "_law_one"] "_law_all" (defScope (top 13)) f cdv A outer s H E).xe := passes_of rfl
  exact (ss_cons (ss_asg (i := 1) nd rfl (by first | exact .inl rfl | exact .inr rfl) se_dic0 rfl (by first | exact .inl rfl | exact .inr rfl))
  (ss_cons (ss_for (fg := [2, 3, 4]) hp rfl (si_seq (se_n 0 rfl (by first | exact .inl rfl | exact .inr (.inl rfl) | exact .inr (.inr rfl)) rfl rfl)) (sg_tup rfl (sg_cons (pg_name (i := 2) nd rfl (by first | exact .inl rfl | exact .inr rfl) (by first | exact .inl rfl | exact .inr rfl)) (sg_cons (pg_name (i := 3) nd rfl (by first | exact .inl rfl | exact .inr rfl) (by first | exact .inl rfl | exact .inr rfl)) sg_nil rfl) rfl) rfl rfl)
    (ss_cons (ss_put (i := 1) (hu65 hr) rfl (by first | exact .inl rfl | exact .inr (.inl rfl) | exact .inr (.inr rfl)) rfl rfl (se_n 2 rfl (by first | exact .inl rfl | exact .inr (.inl rfl) | exact .inr (.inr rfl)) rfl rfl) se_bl rfl rfl rfl (fun _ => rfl))
    (ss_one (ss_for (fg := [4]) hp rfl (si_seq (se_n 3 rfl (by first | exact .inl rfl | exact .inr (.inl rfl) | exact .inr (.inr rfl)) rfl rfl)) (sg_name (i := 4) nd rfl (by first | exact .inl rfl | exact .inr rfl) (by first | exact .inl rfl | exact .inr rfl))
      (ss_one (ss_put (i := 1) (hu65 hr) rfl (by first | exact .inl rfl | exact .inr (.inl rfl) | exact .inr (.inr rfl)) rfl rfl (se_n 4 rfl (by first | exact .inl rfl | exact .inr (.inl rfl) | exact .inr (.inr rfl)) rfl rfl) se_bl rfl rfl rfl (fun _ => rfl))) (fun _ => rfl)))) (fun _ => rfl))
  (ss_one (ss_ret (se_sorted rfl hr hB rfl rfl (se_n 1 rfl (by first | exact .inl rfl | exact .inr (.inl rfl) | exact .inr (.inr rfl)) rfl rfl))))))
theorem sc__law_beneath : FnScope ["_law_book_here", "_law_word", "_law_met", "_law_grew", "_law_head", "_law_told", "_law_one"] ["_law_book_here", "_law_word"] (defScope (top 15)) := ⟨rfl, rfl, rfl, by decide +kernel, rfl, by decide +kernel, by decide +kernel⟩
theorem ok__law_beneath {f : Addr} {fd : FuncData} (F : Fun K "_law_beneath" "_law_beneath" (top 15) f fd) (hm : mg "_law_beneath" = some (.ref f)) (hB : Blt mg) : Callee P w K mg base ca 1 "_law_beneath" 2 f_l_beneath_2 := by
  refine ⟨f, fd, ["_law_book_here", "_law_word"], rfl, efn_body (N := ["_law_book_here", "_law_word", "_law_met", "_law_grew", "_law_head", "_law_told", "_law_one"]) (b := b_l_beneath_2) F sc__law_beneath fun cdv A outer s H E hg hr => ?_, hm, F.kp, F.binds fun _ _ _ _ _ _ us hl => match us, hl with | [_, _], _ => rfl⟩
  have hG : (cxOf (L2N.CX P w) P w K mg base ["_law_book_here", "_law_word", "_law_met", "_law_grew", "_law_head", "_law_told", "_law_one"] "_law_beneath" (defScope (top 15)) f cdv A outer s H E).A.guards = some [] := by
    rw [← hg]; exact deeper_guards _ _
  have tk : L2N.Takes (cxOf (L2N.CX P w) P w K mg base ["_law_book_here", "_law_word", "_law_met", "_law_grew", "_law_head", "_law_told", "_law_one"] "_law_beneath" (defScope (top 15)) f cdv A outer s H E) (fun cls d _ H => E cls d H) := L2N.takes_of rfl rfl rfl rfl
  have nd := sc__law_beneath.nd
  have hp : PassesOwn _ _ _ (cxOf (L2N.CX P w) P w K mg base ["_law_book_here", "_law_word", "_law_met", "_law_grew", "_law_head", "_law_told", "_law_one"] "_law_beneath" (defScope (top 15)) f cdv A outer s H E).xe := passes_of rfl
  exact (ss_cons (ss_asg (i := 2) nd rfl (by first | exact .inl rfl | exact .inr rfl) se_dic0 rfl (by first | exact .inl rfl | exact .inr rfl))
  (ss_cons (ss_asg (i := 3) nd rfl (by first | exact .inl rfl | exact .inr rfl) se_bl rfl (by first | exact .inl rfl | exact .inr rfl))
  (ss_cons (ss_while (fg := [4, 5, 6]) hp (st_val (se_n 3 rfl (by first | exact .inl rfl | exact .inr (.inl rfl) | exact .inr (.inr rfl)) rfl rfl) (fun _ => rfl))
    (ss_cons (ss_asg (i := 3) nd rfl (by first | exact .inl rfl | exact .inr rfl) se_bl rfl (by first | exact .inl rfl | exact .inr rfl))
    (ss_one (ss_for (fg := [4, 5, 6]) hp rfl (si_seq (se_n 0 rfl (by first | exact .inl rfl | exact .inr (.inl rfl) | exact .inr (.inr rfl)) rfl rfl)) (sg_tup rfl (sg_cons (pg_name (i := 4) nd rfl (by first | exact .inl rfl | exact .inr rfl) (by first | exact .inl rfl | exact .inr rfl)) (sg_cons (pg_name (i := 5) nd rfl (by first | exact .inl rfl | exact .inr rfl) (by first | exact .inl rfl | exact .inr rfl)) sg_nil rfl) rfl) rfl rfl)
      (ss_one (ss_if (PW.pt (st_or (st_cmp (bin_eq (hu64 hr)) (se_n 4 rfl (by first | exact .inl rfl | exact .inr (.inl rfl) | exact .inr (.inr rfl)) rfl rfl) (se_n 1 rfl (by first | exact .inl rfl | exact .inr (.inl rfl) | exact .inr (.inr rfl)) rfl rfl) rfl) (st_or1 (st_cmp (bin_in (hu65 hr)) (se_n 4 rfl (by first | exact .inl rfl | exact .inr (.inl rfl) | exact .inr (.inr rfl)) rfl rfl) (se_n 2 rfl (by first | exact .inl rfl | exact .inr (.inl rfl) | exact .inr (.inr rfl)) rfl rfl) rfl))))
        (ss_one (ss_for (fg := [6]) hp rfl (si_seq (se_n 5 rfl (by first | exact .inl rfl | exact .inr (.inl rfl) | exact .inr (.inr rfl)) rfl rfl)) (sg_name (i := 6) nd rfl (by first | exact .inl rfl | exact .inr rfl) (by first | exact .inl rfl | exact .inr rfl))
          (ss_one (ss_if (st_cmp (bin_notin (hu65 hr)) (se_n 6 rfl (by first | exact .inl rfl | exact .inr (.inl rfl) | exact .inr (.inr rfl)) rfl rfl) (se_n 2 rfl (by first | exact .inl rfl | exact .inr (.inl rfl) | exact .inr (.inr rfl)) rfl rfl) rfl)
            (ss_cons (ss_put (i := 2) (hu65 hr) rfl (by first | exact .inl rfl | exact .inr (.inl rfl) | exact .inr (.inr rfl)) rfl rfl (se_n 6 rfl (by first | exact .inl rfl | exact .inr (.inl rfl) | exact .inr (.inr rfl)) rfl rfl) se_bl rfl rfl rfl (fun _ => rfl))
            (ss_one (ss_asg (i := 3) nd rfl (by first | exact .inl rfl | exact .inr rfl) se_bl rfl (by first | exact .inl rfl | exact .inr rfl))))
            ss_nil)) (fun _ => rfl)))
        ss_nil)) (fun _ => rfl)))))
  (ss_one (ss_ret (se_n 2 rfl (by first | exact .inl rfl | exact .inr (.inl rfl) | exact .inr (.inr rfl)) rfl rfl))))))
theorem sc__law_draw : FnScope ["_law_source_here", "_law_many", "_law_turn", "_law_mixed", "_law_number"] ["_law_source_here", "_law_many"] (defScope (top 8)) := ⟨rfl, rfl, rfl, by decide +kernel, rfl, by decide +kernel, by decide +kernel⟩
theorem ok__law_draw {f : Addr} {fd : FuncData} (F : Fun K "_law_draw" "_law_draw" (top 8) f fd) (hm : mg "_law_draw" = some (.ref f)) (hB : Blt mg) : Callee P w K mg base ca 1 "_law_draw" 2 f_l_draw := by
  refine ⟨f, fd, ["_law_source_here", "_law_many"], rfl, efn_body (N := ["_law_source_here", "_law_many", "_law_turn", "_law_mixed", "_law_number"]) (b := b_l_draw) F sc__law_draw fun cdv A outer s H E hg hr => ?_, hm, F.kp, F.binds fun _ _ _ _ _ _ us hl => match us, hl with | [_, _], _ => rfl⟩
  have hG : (cxOf (L2N.CX P w) P w K mg base ["_law_source_here", "_law_many", "_law_turn", "_law_mixed", "_law_number"] "_law_draw" (defScope (top 8)) f cdv A outer s H E).A.guards = some [] := by
    rw [← hg]; exact deeper_guards _ _
  have tk : L2N.Takes (cxOf (L2N.CX P w) P w K mg base ["_law_source_here", "_law_many", "_law_turn", "_law_mixed", "_law_number"] "_law_draw" (defScope (top 8)) f cdv A outer s H E) (fun cls d _ H => E cls d H) := L2N.takes_of rfl rfl rfl rfl
  have nd := sc__law_draw.nd
  have hp : PassesOwn _ _ _ (cxOf (L2N.CX P w) P w K mg base ["_law_source_here", "_law_many", "_law_turn", "_law_mixed", "_law_number"] "_law_draw" (defScope (top 8)) f cdv A outer s H E).xe := passes_of rfl
  exact (ss_cons (ss_put (i := 0) (hu65 hr) rfl (by first | exact .inl rfl | exact .inr (.inl rfl) | exact .inr (.inr rfl)) rfl rfl se_int (se_bin bin_add (se_ix (hu65 hr) (se_n 0 rfl (by first | exact .inl rfl | exact .inr (.inl rfl) | exact .inr (.inr rfl)) rfl rfl) se_int (fun _ _ => rfl)) se_int) rfl rfl rfl (fun _ => rfl))
  (ss_cons (ss_if (st_cmp (bin_eq (hu64 hr)) (se_ix (hu65 hr) (se_n 0 rfl (by first | exact .inl rfl | exact .inr (.inl rfl) | exact .inr (.inr rfl)) rfl rfl) se_int (fun _ _ => rfl)) se_int rfl)
    (ss_cons (ss_asg (i := 4) nd rfl (by first | exact .inl rfl | exact .inr rfl) (se_bin bin_mod (se_ix (hu65 hr) (se_n 0 rfl (by first | exact .inl rfl | exact .inr (.inl rfl) | exact .inr (.inr rfl)) rfl rfl) se_int (fun _ _ => rfl)) (se_n 1 rfl (by first | exact .inl rfl | exact .inr (.inl rfl) | exact .inr (.inr rfl)) rfl rfl)) rfl (by first | exact .inl rfl | exact .inr rfl))
    (ss_cons (ss_put (i := 0) (hu65 hr) rfl (by first | exact .inl rfl | exact .inr (.inl rfl) | exact .inr (.inr rfl)) rfl rfl se_int (se_bin bin_fdiv (se_ix (hu65 hr) (se_n 0 rfl (by first | exact .inl rfl | exact .inr (.inl rfl) | exact .inr (.inr rfl)) rfl rfl) se_int (fun _ _ => rfl)) (se_n 1 rfl (by first | exact .inl rfl | exact .inr (.inl rfl) | exact .inr (.inr rfl)) rfl rfl)) rfl rfl rfl (fun _ => rfl))
    (ss_one (ss_ret (se_n 4 rfl (by first | exact .inl rfl | exact .inr (.inl rfl) | exact .inr (.inr rfl)) rfl rfl)))))
    ss_nil)
  (ss_cons (ss_asg (i := 2) nd rfl (by first | exact .inl rfl | exact .inr rfl) (se_ix (hu65 hr) (se_n 0 rfl (by first | exact .inl rfl | exact .inr (.inl rfl) | exact .inr (.inr rfl)) rfl rfl) se_int (fun _ _ => rfl)) rfl (by first | exact .inl rfl | exact .inr rfl))
  (ss_cons (ss_asg (i := 3) nd rfl (by first | exact .inl rfl | exact .inr rfl) (se_bin bin_add (se_bin bin_add (se_bin bin_mul (se_bin bin_add (se_bin bin_mod (se_ix (hu65 hr) (se_n 0 rfl (by first | exact .inl rfl | exact .inr (.inl rfl) | exact .inr (.inr rfl)) rfl rfl) se_int (fun _ _ => rfl)) (se_bin bin_pow se_int se_int)) se_int) se_int) (se_bin bin_mul (se_bin bin_mul (se_n 2 rfl (by first | exact .inl rfl | exact .inr (.inl rfl) | exact .inr (.inr rfl)) rfl rfl) (se_n 2 rfl (by first | exact .inl rfl | exact .inr (.inl rfl) | exact .inr (.inr rfl)) rfl rfl)) se_int)) (se_bin bin_mul (se_n 2 rfl (by first | exact .inl rfl | exact .inr (.inl rfl) | exact .inr (.inr rfl)) rfl rfl) se_int)) rfl (by first | exact .inl rfl | exact .inr rfl))
  (ss_one (ss_ret (se_bin bin_mod (se_bin bin_mod (se_bin bin_mul (se_bin bin_mod (se_n 3 rfl (by first | exact .inl rfl | exact .inr (.inl rfl) | exact .inr (.inr rfl)) rfl rfl) se_int) se_int) se_int) (se_n 1 rfl (by first | exact .inl rfl | exact .inr (.inl rfl) | exact .inr (.inr rfl)) rfl rfl))))))))
theorem sc__law_lay : FnScope ["_law_rows", "_law_row_here", "_law_other"] ["_law_rows", "_law_row_here"] (defScope (top 11)) := ⟨rfl, rfl, rfl, by decide +kernel, rfl, by decide +kernel, by decide +kernel⟩
theorem ok__law_lay {f : Addr} {fd : FuncData} (F : Fun K "_law_lay" "_law_lay" (top 11) f fd) (hm : mg "_law_lay" = some (.ref f)) (hB : Blt mg) : Callee P w K mg base ca 1 "_law_lay" 2 f_l_lay := by
  refine ⟨f, fd, ["_law_rows", "_law_row_here"], rfl, efn_body (N := ["_law_rows", "_law_row_here", "_law_other"]) (b := b_l_lay) F sc__law_lay fun cdv A outer s H E hg hr => ?_, hm, F.kp, F.binds fun _ _ _ _ _ _ us hl => match us, hl with | [_, _], _ => rfl⟩
  have hG : (cxOf (L2N.CX P w) P w K mg base ["_law_rows", "_law_row_here", "_law_other"] "_law_lay" (defScope (top 11)) f cdv A outer s H E).A.guards = some [] := by
    rw [← hg]; exact deeper_guards _ _
  have tk : L2N.Takes (cxOf (L2N.CX P w) P w K mg base ["_law_rows", "_law_row_here", "_law_other"] "_law_lay" (defScope (top 11)) f cdv A outer s H E) (fun cls d _ H => E cls d H) := L2N.takes_of rfl rfl rfl rfl
  have nd := sc__law_lay.nd
  have hp : PassesOwn _ _ _ (cxOf (L2N.CX P w) P w K mg base ["_law_rows", "_law_row_here", "_law_other"] "_law_lay" (defScope (top 11)) f cdv A outer s H E).xe := passes_of rfl
  exact (ss_cons (ss_for (fg := [2]) hp rfl (si_seq (se_n 0 rfl (by first | exact .inl rfl | exact .inr (.inl rfl) | exact .inr (.inr rfl)) rfl rfl)) (sg_name (i := 2) nd rfl (by first | exact .inl rfl | exact .inr rfl) (by first | exact .inl rfl | exact .inr rfl))
    (ss_one (ss_if (PW.pt (st_and (st_cmp (bin_eq (hu64 hr)) (se_ix (hu65 hr) (se_n 2 rfl (by first | exact .inl rfl | exact .inr (.inl rfl) | exact .inr (.inr rfl)) rfl rfl) se_int (fun _ _ => rfl)) (se_ix (hu65 hr) (se_n 1 rfl (by first | exact .inl rfl | exact .inr (.inl rfl) | exact .inr (.inr rfl)) rfl rfl) se_int (fun _ _ => rfl)) rfl) (st_and1 (st_cmp (bin_eq (hu64 hr)) (se_sorted rfl hr hB rfl rfl (se_ix (hu65 hr) (se_n 2 rfl (by first | exact .inl rfl | exact .inr (.inl rfl) | exact .inr (.inr rfl)) rfl rfl) se_int (fun _ _ => rfl))) (se_sorted rfl hr hB rfl rfl (se_ix (hu65 hr) (se_n 1 rfl (by first | exact .inl rfl | exact .inr (.inl rfl) | exact .inr (.inr rfl)) rfl rfl) se_int (fun _ _ => rfl))) rfl))))
      (ss_one ss_retN)
      ss_nil)) (fun _ => rfl))
  (ss_one (ss_expr (se_app (j := 0) rfl (by first | exact .inl rfl | exact .inr (.inl rfl) | exact .inr (.inr rfl)) rfl rfl (se_n 1 rfl (by first | exact .inl rfl | exact .inr (.inl rfl) | exact .inr (.inr rfl)) rfl rfl) rfl rfl rfl rfl) rfl)))
theorem sc__law_row : FnScope ["_law_source_here", "_law_words_here", "_law_at", "_law_below", "_law_told", "_law_k", "_law_one"] ["_law_source_here", "_law_words_here", "_law_at", "_law_below"] (defScope (top 10)) := ⟨rfl, rfl, rfl, by decide +kernel, rfl, by decide +kernel, by decide +kernel⟩
theorem ok__law_row {f : Addr} {fd : FuncData} (F : Fun K "_law_row" "_law_row" (top 10) f fd) (hm : mg "_law_row" = some (.ref f)) (hB : Blt mg) (c__law_draw : Callee P w K mg base ca 1 "_law_draw" 2 f_l_draw) : Callee P w K mg base ca 2 "_law_row" 4 f_l_row := by
  refine ⟨f, fd, ["_law_source_here", "_law_words_here", "_law_at", "_law_below"], rfl, efn_body (N := ["_law_source_here", "_law_words_here", "_law_at", "_law_below", "_law_told", "_law_k", "_law_one"]) (b := b_l_row) F sc__law_row fun cdv A outer s H E hg hr => ?_, hm, F.kp, F.binds fun _ _ _ _ _ _ us hl => match us, hl with | [_, _, _, _], _ => rfl⟩
  have hG : (cxOf (L2N.CX P w) P w K mg base ["_law_source_here", "_law_words_here", "_law_at", "_law_below", "_law_told", "_law_k", "_law_one"] "_law_row" (defScope (top 10)) f cdv A outer s H E).A.guards = some [] := by
    rw [← hg]; exact deeper_guards _ _
  have tk : L2N.Takes (cxOf (L2N.CX P w) P w K mg base ["_law_source_here", "_law_words_here", "_law_at", "_law_below", "_law_told", "_law_k", "_law_one"] "_law_row" (defScope (top 10)) f cdv A outer s H E) (fun cls d _ H => E cls d H) := L2N.takes_of rfl rfl rfl rfl
  have nd := sc__law_row.nd
  have hp : PassesOwn _ _ _ (cxOf (L2N.CX P w) P w K mg base ["_law_source_here", "_law_words_here", "_law_at", "_law_below", "_law_told", "_law_k", "_law_one"] "_law_row" (defScope (top 10)) f cdv A outer s H E).xe := passes_of rfl
  exact (ss_cons (ss_asg (i := 4) nd rfl (by first | exact .inl rfl | exact .inr rfl) (se_lst sa_nil) rfl (by first | exact .inl rfl | exact .inr rfl))
  (ss_cons (ss_for (fg := [5, 6]) hp rfl (si_rng1 rfl hB.range (sa_c rfl (se_ix (hu65 hr) (se_lst (sa_c rfl se_int (sa_c rfl se_int (sa_c rfl se_int (sa_c rfl se_int (sa_c rfl se_int (sa_c rfl se_int (sa_c rfl se_int (sa_c rfl se_int sa_nil))))))))) (se_c c__law_draw hG hr tk rfl rfl rfl rfl (sa_c rfl (se_n 0 rfl (by first | exact .inl rfl | exact .inr (.inl rfl) | exact .inr (.inr rfl)) rfl rfl) (sa_c rfl se_int sa_nil))) (fun _ _ => rfl)) sa_nil) rfl) (sg_name (i := 5) nd rfl (by first | exact .inl rfl | exact .inr rfl) (by first | exact .inl rfl | exact .inr rfl))
    (ss_cons (ss_asg (i := 6) nd rfl (by first | exact .inl rfl | exact .inr rfl) (se_ix (hu65 hr) (se_n 1 rfl (by first | exact .inl rfl | exact .inr (.inl rfl) | exact .inr (.inr rfl)) rfl rfl) (se_c c__law_draw hG hr tk rfl rfl rfl rfl (sa_c rfl (se_n 0 rfl (by first | exact .inl rfl | exact .inr (.inl rfl) | exact .inr (.inr rfl)) rfl rfl) (sa_c rfl (se_len hB rfl rfl (se_n 1 rfl (by first | exact .inl rfl | exact .inr (.inl rfl) | exact .inr (.inr rfl)) rfl rfl)) sa_nil))) (fun _ _ => rfl)) rfl (by first | exact .inl rfl | exact .inr rfl))
    (ss_cons (ss_if (PW.pt (st_and (st_val (se_n 3 rfl (by first | exact .inl rfl | exact .inr (.inl rfl) | exact .inr (.inr rfl)) rfl rfl) (fun _ => rfl)) (st_and1 (st_cmp bin_gt (se_n 2 rfl (by first | exact .inl rfl | exact .inr (.inl rfl) | exact .inr (.inr rfl)) rfl rfl) se_int rfl))))
      (ss_one (ss_asg (i := 6) nd rfl (by first | exact .inl rfl | exact .inr rfl) (se_ix (hu65 hr) (se_n 1 rfl (by first | exact .inl rfl | exact .inr (.inl rfl) | exact .inr (.inr rfl)) rfl rfl) (se_c c__law_draw hG hr tk rfl rfl rfl rfl (sa_c rfl (se_n 0 rfl (by first | exact .inl rfl | exact .inr (.inl rfl) | exact .inr (.inr rfl)) rfl rfl) (sa_c rfl (se_n 2 rfl (by first | exact .inl rfl | exact .inr (.inl rfl) | exact .inr (.inr rfl)) rfl rfl) sa_nil))) (fun _ _ => rfl)) rfl (by first | exact .inl rfl | exact .inr rfl)))
      ss_nil)
    (ss_one (ss_if (st_cmp (bin_notin (hu65 hr)) (se_n 6 rfl (by first | exact .inl rfl | exact .inr (.inl rfl) | exact .inr (.inr rfl)) rfl rfl) (se_n 4 rfl (by first | exact .inl rfl | exact .inr (.inl rfl) | exact .inr (.inr rfl)) rfl rfl) rfl)
      (ss_one (ss_expr (se_app (j := 4) rfl (by first | exact .inl rfl | exact .inr (.inl rfl) | exact .inr (.inr rfl)) rfl rfl (se_n 6 rfl (by first | exact .inl rfl | exact .inr (.inl rfl) | exact .inr (.inr rfl)) rfl rfl) rfl rfl rfl rfl) rfl))
      ss_nil)))) (fun _ => rfl))
  (ss_one (ss_ret (se_tup (sa_c rfl (se_ix (hu65 hr) (se_n 1 rfl (by first | exact .inl rfl | exact .inr (.inl rfl) | exact .inr (.inr rfl)) rfl rfl) (se_n 2 rfl (by first | exact .inl rfl | exact .inr (.inl rfl) | exact .inr (.inr rfl)) rfl rfl) (fun _ _ => rfl)) (sa_c rfl (se_tuple hB rfl rfl (se_n 4 rfl (by first | exact .inl rfl | exact .inr (.inl rfl) | exact .inr (.inr rfl)) rfl rfl)) sa_nil)))))))
theorem sc__law_source : FnScope ["_law_left", "_law_k", "_law_cell"] ["_law_left", "_law_k"] (defScope (top 7)) := ⟨rfl, rfl, rfl, by decide +kernel, rfl, by decide +kernel, by decide +kernel⟩
theorem ok__law_source {f : Addr} {fd : FuncData} (F : Fun K "_law_source" "_law_source" (top 7) f fd) (hm : mg "_law_source" = some (.ref f)) (hB : Blt mg) : Callee P w K mg base ca 1 "_law_source" 2 f_l_source := by
  refine ⟨f, fd, ["_law_left", "_law_k"], rfl, efn_body (N := ["_law_left", "_law_k", "_law_cell"]) (b := b_l_source) F sc__law_source fun cdv A outer s H E hg hr => ?_, hm, F.kp, F.binds fun _ _ _ _ _ _ us hl => match us, hl with | [_, _], _ => rfl⟩
  have hG : (cxOf (L2N.CX P w) P w K mg base ["_law_left", "_law_k", "_law_cell"] "_law_source" (defScope (top 7)) f cdv A outer s H E).A.guards = some [] := by
    rw [← hg]; exact deeper_guards _ _
  have tk : L2N.Takes (cxOf (L2N.CX P w) P w K mg base ["_law_left", "_law_k", "_law_cell"] "_law_source" (defScope (top 7)) f cdv A outer s H E) (fun cls d _ H => E cls d H) := L2N.takes_of rfl rfl rfl rfl
  have nd := sc__law_source.nd
  have hp : PassesOwn _ _ _ (cxOf (L2N.CX P w) P w K mg base ["_law_left", "_law_k", "_law_cell"] "_law_source" (defScope (top 7)) f cdv A outer s H E).xe := passes_of rfl
  exact (ss_cons (ss_if (st_cmp (bin_eq (hu64 hr)) (se_len hB rfl rfl (se_n 0 rfl (by first | exact .inl rfl | exact .inr (.inl rfl) | exact .inr (.inr rfl)) rfl rfl)) se_int rfl)
    (ss_one (ss_ret (se_lst (sa_c rfl (se_n 1 rfl (by first | exact .inl rfl | exact .inr (.inl rfl) | exact .inr (.inr rfl)) rfl rfl) (sa_c rfl se_int (sa_c rfl se_int sa_nil))))))
    ss_nil)
  (ss_cons (ss_asg (i := 2) nd rfl (by first | exact .inl rfl | exact .inr rfl) (se_pop (j := 0) rfl (by first | exact .inl rfl | exact .inr (.inl rfl) | exact .inr (.inr rfl)) rfl rfl rfl rfl) rfl (by first | exact .inl rfl | exact .inr rfl))
  (ss_one (ss_ret (se_lst (sa_c rfl (se_bin bin_fdiv (se_n 2 rfl (by first | exact .inl rfl | exact .inr (.inl rfl) | exact .inr (.inr rfl)) rfl rfl) se_int) (sa_c rfl se_int (sa_c rfl (se_bin bin_mod (se_n 2 rfl (by first | exact .inl rfl | exact .inr (.inl rfl) | exact .inr (.inr rfl)) rfl rfl) se_int) sa_nil))))))))
theorem sc__law_book : FnScope ["_law_left", "_law_source_here", "_law_words_here", "_law_rows", "_law_way", "_law_k", "_law_at", "_law_more"] ["_law_left", "_law_source_here", "_law_words_here"] (defScope (top 12)) := ⟨rfl, rfl, rfl, by decide +kernel, rfl, by decide +kernel, by decide +kernel⟩
theorem ok__law_book {f : Addr} {fd : FuncData} (F : Fun K "_law_book" "_law_book" (top 12) f fd) (hm : mg "_law_book" = some (.ref f)) (hB : Blt mg) (c__law_draw : Callee P w K mg base ca 2 "_law_draw" 2 f_l_draw) (c__law_lay : Callee P w K mg base ca 2 "_law_lay" 2 f_l_lay) (c__law_row : Callee P w K mg base ca 2 "_law_row" 4 f_l_row) (c__law_source : Callee P w K mg base ca 2 "_law_source" 2 f_l_source) : Callee P w K mg base ca 3 "_law_book" 3 f_l_book_2 := by
  refine ⟨f, fd, ["_law_left", "_law_source_here", "_law_words_here"], rfl, efn_body (N := ["_law_left", "_law_source_here", "_law_words_here", "_law_rows", "_law_way", "_law_k", "_law_at", "_law_more"]) (b := b_l_book_2) F sc__law_book fun cdv A outer s H E hg hr => ?_, hm, F.kp, F.binds fun _ _ _ _ _ _ us hl => match us, hl with | [_, _, _], _ => rfl⟩
  have hG : (cxOf (L2N.CX P w) P w K mg base ["_law_left", "_law_source_here", "_law_words_here", "_law_rows", "_law_way", "_law_k", "_law_at", "_law_more"] "_law_book" (defScope (top 12)) f cdv A outer s H E).A.guards = some [] := by
    rw [← hg]; exact deeper_guards _ _
  have tk : L2N.Takes (cxOf (L2N.CX P w) P w K mg base ["_law_left", "_law_source_here", "_law_words_here", "_law_rows", "_law_way", "_law_k", "_law_at", "_law_more"] "_law_book" (defScope (top 12)) f cdv A outer s H E) (fun cls d _ H => E cls d H) := L2N.takes_of rfl rfl rfl rfl
  have nd := sc__law_book.nd
  have hp : PassesOwn _ _ _ (cxOf (L2N.CX P w) P w K mg base ["_law_left", "_law_source_here", "_law_words_here", "_law_rows", "_law_way", "_law_k", "_law_at", "_law_more"] "_law_book" (defScope (top 12)) f cdv A outer s H E).xe := passes_of rfl
  exact (ss_cons (ss_asg (i := 3) nd rfl (by first | exact .inl rfl | exact .inr rfl) (se_lst sa_nil) rfl (by first | exact .inl rfl | exact .inr rfl))
  (ss_cons (ss_asg (i := 4) nd rfl (by first | exact .inl rfl | exact .inr rfl) (se_c c__law_draw hG hr tk rfl rfl rfl rfl (sa_c rfl (se_n 1 rfl (by first | exact .inl rfl | exact .inr (.inl rfl) | exact .inr (.inr rfl)) rfl rfl) (sa_c rfl se_int sa_nil))) rfl (by first | exact .inl rfl | exact .inr rfl))
  (ss_cons (ss_for (fg := [5, 6]) hp rfl (si_rng1 rfl hB.range (sa_c rfl (se_c c__law_draw hG hr tk rfl rfl rfl rfl (sa_c rfl (se_n 1 rfl (by first | exact .inl rfl | exact .inr (.inl rfl) | exact .inr (.inr rfl)) rfl rfl) (sa_c rfl se_int sa_nil))) sa_nil) rfl) (sg_name (i := 5) nd rfl (by first | exact .inl rfl | exact .inr rfl) (by first | exact .inl rfl | exact .inr rfl))
    (ss_cons (ss_asg (i := 6) nd rfl (by first | exact .inl rfl | exact .inr rfl) (se_c c__law_draw hG hr tk rfl rfl rfl rfl (sa_c rfl (se_n 1 rfl (by first | exact .inl rfl | exact .inr (.inl rfl) | exact .inr (.inr rfl)) rfl rfl) (sa_c rfl (se_len hB rfl rfl (se_n 2 rfl (by first | exact .inl rfl | exact .inr (.inl rfl) | exact .inr (.inr rfl)) rfl rfl)) sa_nil))) rfl (by first | exact .inl rfl | exact .inr rfl))
    (ss_cons (ss_if (st_cmp (bin_eq (hu64 hr)) (se_n 4 rfl (by first | exact .inl rfl | exact .inr (.inl rfl) | exact .inr (.inr rfl)) rfl rfl) se_int rfl)
      (ss_one (ss_asg (i := 6) nd rfl (by first | exact .inl rfl | exact .inr rfl) (se_bin bin_mod (se_n 5 rfl (by first | exact .inl rfl | exact .inr (.inl rfl) | exact .inr (.inr rfl)) rfl rfl) (se_len hB rfl rfl (se_n 2 rfl (by first | exact .inl rfl | exact .inr (.inl rfl) | exact .inr (.inr rfl)) rfl rfl))) rfl (by first | exact .inl rfl | exact .inr rfl)))
      ss_nil)
    (ss_one (ss_expr (se_c c__law_lay hG hr tk rfl rfl rfl rfl (sa_c rfl (se_n 3 rfl (by first | exact .inl rfl | exact .inr (.inl rfl) | exact .inr (.inr rfl)) rfl rfl) (sa_c rfl (se_c c__law_row hG hr tk rfl rfl rfl rfl (sa_c rfl (se_n 1 rfl (by first | exact .inl rfl | exact .inr (.inl rfl) | exact .inr (.inr rfl)) rfl rfl) (sa_c rfl (se_n 2 rfl (by first | exact .inl rfl | exact .inr (.inl rfl) | exact .inr (.inr rfl)) rfl rfl) (sa_c rfl (se_n 6 rfl (by first | exact .inl rfl | exact .inr (.inl rfl) | exact .inr (.inr rfl)) rfl rfl) (sa_c rfl (se_cmp bin_gt (se_n 4 rfl (by first | exact .inl rfl | exact .inr (.inl rfl) | exact .inr (.inr rfl)) rfl rfl) se_int rfl) sa_nil))))) sa_nil))) rfl)))) (fun _ => rfl))
  (ss_cons (ss_while (fg := [7]) hp (PW.pt (st_and (st_cmp bin_gt (se_len hB rfl rfl (se_n 0 rfl (by first | exact .inl rfl | exact .inr (.inl rfl) | exact .inr (.inr rfl)) rfl rfl)) se_int rfl) (st_and1 (st_cmp bin_lt (se_len hB rfl rfl (se_n 3 rfl (by first | exact .inl rfl | exact .inr (.inl rfl) | exact .inr (.inr rfl)) rfl rfl)) se_int rfl))))
    (ss_cons (ss_asg (i := 7) nd rfl (by first | exact .inl rfl | exact .inr rfl) (se_c c__law_source hG hr tk rfl rfl rfl rfl (sa_c rfl (se_n 0 rfl (by first | exact .inl rfl | exact .inr (.inl rfl) | exact .inr (.inr rfl)) rfl rfl) (sa_c rfl se_int sa_nil))) rfl (by first | exact .inl rfl | exact .inr rfl))
    (ss_one (ss_expr (se_c c__law_lay hG hr tk rfl rfl rfl rfl (sa_c rfl (se_n 3 rfl (by first | exact .inl rfl | exact .inr (.inl rfl) | exact .inr (.inr rfl)) rfl rfl) (sa_c rfl (se_c c__law_row hG hr tk rfl rfl rfl rfl (sa_c rfl (se_n 7 rfl (by first | exact .inl rfl | exact .inr (.inl rfl) | exact .inr (.inr rfl)) rfl rfl) (sa_c rfl (se_n 2 rfl (by first | exact .inl rfl | exact .inr (.inl rfl) | exact .inr (.inr rfl)) rfl rfl) (sa_c rfl (se_c c__law_draw hG hr tk rfl rfl rfl rfl (sa_c rfl (se_n 7 rfl (by first | exact .inl rfl | exact .inr (.inl rfl) | exact .inr (.inr rfl)) rfl rfl) (sa_c rfl (se_len hB rfl rfl (se_n 2 rfl (by first | exact .inl rfl | exact .inr (.inl rfl) | exact .inr (.inr rfl)) rfl rfl)) sa_nil))) (sa_c rfl (se_cmp (bin_eq (hu64 hr)) (se_n 4 rfl (by first | exact .inl rfl | exact .inr (.inl rfl) | exact .inr (.inr rfl)) rfl rfl) se_int rfl) sa_nil))))) sa_nil))) rfl))))
  (ss_one (ss_ret (se_tuple hB rfl rfl (se_n 3 rfl (by first | exact .inl rfl | exact .inr (.inl rfl) | exact .inr (.inr rfl)) rfl rfl))))))))
theorem sc__law_same : FnScope ["_law_found", "_law_due", "_law_k"] ["_law_found", "_law_due"] (defScope (top 14)) := ⟨rfl, rfl, rfl, by decide +kernel, rfl, by decide +kernel, by decide +kernel⟩
theorem ok__law_same_d1 {f : Addr} {fd : FuncData} (F : Fun K "_law_same" "_law_same" (top 14) f fd) (hm : mg "_law_same" = some (.ref f)) (hB : Blt mg) (c__law_same : Callee P w K mg base ca 1 "_law_same" 2 f_l_same_d0) : Callee P w K mg base ca 2 "_law_same" 2 f_l_same_d1 := by
  refine ⟨f, fd, ["_law_found", "_law_due"], rfl, efn_body (N := ["_law_found", "_law_due", "_law_k"]) (b := b_l_same_d1) F sc__law_same fun cdv A outer s H E hg hr => ?_, hm, F.kp, F.binds fun _ _ _ _ _ _ us hl => match us, hl with | [_, _], _ => rfl⟩
  have hG : (cxOf (L2N.CX P w) P w K mg base ["_law_found", "_law_due", "_law_k"] "_law_same" (defScope (top 14)) f cdv A outer s H E).A.guards = some [] := by
    rw [← hg]; exact deeper_guards _ _
  have tk : L2N.Takes (cxOf (L2N.CX P w) P w K mg base ["_law_found", "_law_due", "_law_k"] "_law_same" (defScope (top 14)) f cdv A outer s H E) (fun cls d _ H => E cls d H) := L2N.takes_of rfl rfl rfl rfl
  have nd := sc__law_same.nd
  have hp : PassesOwn _ _ _ (cxOf (L2N.CX P w) P w K mg base ["_law_found", "_law_due", "_law_k"] "_law_same" (defScope (top 14)) f cdv A outer s H E).xe := passes_of rfl
  exact (ss_cons (ss_if (st_val (se_isi (by decide) (se_n 1 rfl (by first | exact .inl rfl | exact .inr (.inl rfl) | exact .inr (.inr rfl)) rfl rfl) rfl hB.isi rfl hB.tuple bb_tuple (by decide) rfl rfl) (fun _ => rfl))
    (ss_cons (ss_if (PW.pt (st_or (st_not (st_val (se_isi (by decide) (se_n 0 rfl (by first | exact .inl rfl | exact .inr (.inl rfl) | exact .inr (.inr rfl)) rfl rfl) rfl hB.isi rfl hB.tuple bb_tuple (by decide) rfl rfl) (fun _ => rfl))) (st_or1 (st_cmp (bin_ne (hu64 hr)) (se_len hB rfl rfl (se_n 0 rfl (by first | exact .inl rfl | exact .inr (.inl rfl) | exact .inr (.inr rfl)) rfl rfl)) (se_len hB rfl rfl (se_n 1 rfl (by first | exact .inl rfl | exact .inr (.inl rfl) | exact .inr (.inr rfl)) rfl rfl)) rfl))))
      (ss_one (ss_ret se_bl))
      ss_nil)
    (ss_one (ss_ret (se_all rfl hB rfl rfl (se_lc (own := [("_law_k", 2)]) (by decide) rfl nd (si_rng1 rfl hB.range (sa_c rfl (se_len hB rfl rfl (se_n 1 rfl (by first | exact .inl rfl | exact .inr (.inl rfl) | exact .inr (.inr rfl)) rfl rfl)) sa_nil) rfl) (by exact blkOk_by (by kernel_rfl)) (fun _ _ _ _ _ => (sg_name (i := 2) nd rfl (by first | exact .inl rfl | exact .inr rfl) (by first | exact .inl rfl | exact .inr rfl))) (fun _ _ _ _ _ => st_yes) (fun _ _ _ _ _ => (se_c c__law_same hG hr takesN0 rfl rfl rfl rfl (sa_c rfl (se_ix (hu65 hr) (se_n 0 rfl (by first | exact .inl rfl | exact .inr (.inl rfl) | exact .inr (.inr rfl)) rfl rfl) (se_n 2 rfl (by first | exact .inl rfl | exact .inr (.inl rfl) | exact .inr (.inr rfl)) rfl rfl) (fun _ _ => rfl)) (sa_c rfl (se_ix (hu65 hr) (se_n 1 rfl (by first | exact .inl rfl | exact .inr (.inl rfl) | exact .inr (.inr rfl)) rfl rfl) (se_n 2 rfl (by first | exact .inl rfl | exact .inr (.inl rfl) | exact .inr (.inr rfl)) rfl rfl) (fun _ _ => rfl)) sa_nil)))) (fun _ => rfl))))))
    ss_nil)
  (ss_cons (ss_if (st_val (se_isi (by decide) (se_n 1 rfl (by first | exact .inl rfl | exact .inr (.inl rfl) | exact .inr (.inr rfl)) rfl rfl) rfl hB.isi rfl hB.list bb_list (by decide) rfl rfl) (fun _ => rfl))
    (ss_cons (ss_if (PW.pt (st_or (st_not (st_val (se_isi (by decide) (se_n 0 rfl (by first | exact .inl rfl | exact .inr (.inl rfl) | exact .inr (.inr rfl)) rfl rfl) rfl hB.isi rfl hB.list bb_list (by decide) rfl rfl) (fun _ => rfl))) (st_or1 (st_cmp (bin_ne (hu64 hr)) (se_len hB rfl rfl (se_n 0 rfl (by first | exact .inl rfl | exact .inr (.inl rfl) | exact .inr (.inr rfl)) rfl rfl)) (se_len hB rfl rfl (se_n 1 rfl (by first | exact .inl rfl | exact .inr (.inl rfl) | exact .inr (.inr rfl)) rfl rfl)) rfl))))
      (ss_one (ss_ret se_bl))
      ss_nil)
    (ss_one (ss_ret (se_all rfl hB rfl rfl (se_lc (own := [("_law_k", 2)]) (by decide) rfl nd (si_rng1 rfl hB.range (sa_c rfl (se_len hB rfl rfl (se_n 1 rfl (by first | exact .inl rfl | exact .inr (.inl rfl) | exact .inr (.inr rfl)) rfl rfl)) sa_nil) rfl) (by exact blkOk_by (by kernel_rfl)) (fun _ _ _ _ _ => (sg_name (i := 2) nd rfl (by first | exact .inl rfl | exact .inr rfl) (by first | exact .inl rfl | exact .inr rfl))) (fun _ _ _ _ _ => st_yes) (fun _ _ _ _ _ => (se_c c__law_same hG hr takesN0 rfl rfl rfl rfl (sa_c rfl (se_ix (hu65 hr) (se_n 0 rfl (by first | exact .inl rfl | exact .inr (.inl rfl) | exact .inr (.inr rfl)) rfl rfl) (se_n 2 rfl (by first | exact .inl rfl | exact .inr (.inl rfl) | exact .inr (.inr rfl)) rfl rfl) (fun _ _ => rfl)) (sa_c rfl (se_ix (hu65 hr) (se_n 1 rfl (by first | exact .inl rfl | exact .inr (.inl rfl) | exact .inr (.inr rfl)) rfl rfl) (se_n 2 rfl (by first | exact .inl rfl | exact .inr (.inl rfl) | exact .inr (.inr rfl)) rfl rfl) (fun _ _ => rfl)) sa_nil)))) (fun _ => rfl))))))
    ss_nil)
  (ss_cons (ss_if (st_cmp bin_is (se_n 1 rfl (by first | exact .inl rfl | exact .inr (.inl rfl) | exact .inr (.inr rfl)) rfl rfl) se_non rfl)
    (ss_one (ss_ret (se_cmp bin_is (se_n 0 rfl (by first | exact .inl rfl | exact .inr (.inl rfl) | exact .inr (.inr rfl)) rfl rfl) se_non rfl)))
    ss_nil)
  (ss_cons (ss_if (st_val (se_isi (by decide) (se_n 1 rfl (by first | exact .inl rfl | exact .inr (.inl rfl) | exact .inr (.inr rfl)) rfl rfl) rfl hB.isi rfl hB.str bb_str (by decide) rfl rfl) (fun _ => rfl))
    (ss_one (ss_ret (se_and (se_isi (by decide) (se_n 0 rfl (by first | exact .inl rfl | exact .inr (.inl rfl) | exact .inr (.inr rfl)) rfl rfl) rfl hB.isi rfl hB.str bb_str (by decide) rfl rfl) (se_one (se_cmp (bin_eq (hu64 hr)) (se_n 0 rfl (by first | exact .inl rfl | exact .inr (.inl rfl) | exact .inr (.inr rfl)) rfl rfl) (se_n 1 rfl (by first | exact .inl rfl | exact .inr (.inl rfl) | exact .inr (.inr rfl)) rfl rfl) rfl)))))
    ss_nil)
  (ss_one (ss_ret (se_and (se_isi (by decide) (se_n 0 rfl (by first | exact .inl rfl | exact .inr (.inl rfl) | exact .inr (.inr rfl)) rfl rfl) rfl hB.isi rfl hB.int bb_int (by decide) rfl rfl) (se_and (se_not (se_isi (by decide) (se_n 0 rfl (by first | exact .inl rfl | exact .inr (.inl rfl) | exact .inr (.inr rfl)) rfl rfl) rfl hB.isi rfl hB.bool bb_bool (by decide) rfl rfl)) (se_one (se_cmp (bin_eq (hu64 hr)) (se_n 0 rfl (by first | exact .inl rfl | exact .inr (.inl rfl) | exact .inr (.inr rfl)) rfl rfl) (se_n 1 rfl (by first | exact .inl rfl | exact .inr (.inl rfl) | exact .inr (.inr rfl)) rfl rfl) rfl))))))))))
theorem ok__law_same_d2 {f : Addr} {fd : FuncData} (F : Fun K "_law_same" "_law_same" (top 14) f fd) (hm : mg "_law_same" = some (.ref f)) (hB : Blt mg) (c__law_same : Callee P w K mg base ca 2 "_law_same" 2 f_l_same_d1) : Callee P w K mg base ca 3 "_law_same" 2 f_l_same_d2 := by
  refine ⟨f, fd, ["_law_found", "_law_due"], rfl, efn_body (N := ["_law_found", "_law_due", "_law_k"]) (b := b_l_same_d2) F sc__law_same fun cdv A outer s H E hg hr => ?_, hm, F.kp, F.binds fun _ _ _ _ _ _ us hl => match us, hl with | [_, _], _ => rfl⟩
  have hG : (cxOf (L2N.CX P w) P w K mg base ["_law_found", "_law_due", "_law_k"] "_law_same" (defScope (top 14)) f cdv A outer s H E).A.guards = some [] := by
    rw [← hg]; exact deeper_guards _ _
  have tk : L2N.Takes (cxOf (L2N.CX P w) P w K mg base ["_law_found", "_law_due", "_law_k"] "_law_same" (defScope (top 14)) f cdv A outer s H E) (fun cls d _ H => E cls d H) := L2N.takes_of rfl rfl rfl rfl
  have nd := sc__law_same.nd
  have hp : PassesOwn _ _ _ (cxOf (L2N.CX P w) P w K mg base ["_law_found", "_law_due", "_law_k"] "_law_same" (defScope (top 14)) f cdv A outer s H E).xe := passes_of rfl
  exact (ss_cons (ss_if (st_val (se_isi (by decide) (se_n 1 rfl (by first | exact .inl rfl | exact .inr (.inl rfl) | exact .inr (.inr rfl)) rfl rfl) rfl hB.isi rfl hB.tuple bb_tuple (by decide) rfl rfl) (fun _ => rfl))
    (ss_cons (ss_if (PW.pt (st_or (st_not (st_val (se_isi (by decide) (se_n 0 rfl (by first | exact .inl rfl | exact .inr (.inl rfl) | exact .inr (.inr rfl)) rfl rfl) rfl hB.isi rfl hB.tuple bb_tuple (by decide) rfl rfl) (fun _ => rfl))) (st_or1 (st_cmp (bin_ne (hu64 hr)) (se_len hB rfl rfl (se_n 0 rfl (by first | exact .inl rfl | exact .inr (.inl rfl) | exact .inr (.inr rfl)) rfl rfl)) (se_len hB rfl rfl (se_n 1 rfl (by first | exact .inl rfl | exact .inr (.inl rfl) | exact .inr (.inr rfl)) rfl rfl)) rfl))))
      (ss_one (ss_ret se_bl))
      ss_nil)
    (ss_one (ss_ret (se_all rfl hB rfl rfl (se_lc (own := [("_law_k", 2)]) (by decide) rfl nd (si_rng1 rfl hB.range (sa_c rfl (se_len hB rfl rfl (se_n 1 rfl (by first | exact .inl rfl | exact .inr (.inl rfl) | exact .inr (.inr rfl)) rfl rfl)) sa_nil) rfl) (by exact blkOk_by (by kernel_rfl)) (fun _ _ _ _ _ => (sg_name (i := 2) nd rfl (by first | exact .inl rfl | exact .inr rfl) (by first | exact .inl rfl | exact .inr rfl))) (fun _ _ _ _ _ => st_yes) (fun _ _ _ _ _ => (se_c c__law_same hG hr takesN0 rfl rfl rfl rfl (sa_c rfl (se_ix (hu65 hr) (se_n 0 rfl (by first | exact .inl rfl | exact .inr (.inl rfl) | exact .inr (.inr rfl)) rfl rfl) (se_n 2 rfl (by first | exact .inl rfl | exact .inr (.inl rfl) | exact .inr (.inr rfl)) rfl rfl) (fun _ _ => rfl)) (sa_c rfl (se_ix (hu65 hr) (se_n 1 rfl (by first | exact .inl rfl | exact .inr (.inl rfl) | exact .inr (.inr rfl)) rfl rfl) (se_n 2 rfl (by first | exact .inl rfl | exact .inr (.inl rfl) | exact .inr (.inr rfl)) rfl rfl) (fun _ _ => rfl)) sa_nil)))) (fun _ => rfl))))))
    ss_nil)
  (ss_cons (ss_if (st_val (se_isi (by decide) (se_n 1 rfl (by first | exact .inl rfl | exact .inr (.inl rfl) | exact .inr (.inr rfl)) rfl rfl) rfl hB.isi rfl hB.list bb_list (by decide) rfl rfl) (fun _ => rfl))
    (ss_cons (ss_if (PW.pt (st_or (st_not (st_val (se_isi (by decide) (se_n 0 rfl (by first | exact .inl rfl | exact .inr (.inl rfl) | exact .inr (.inr rfl)) rfl rfl) rfl hB.isi rfl hB.list bb_list (by decide) rfl rfl) (fun _ => rfl))) (st_or1 (st_cmp (bin_ne (hu64 hr)) (se_len hB rfl rfl (se_n 0 rfl (by first | exact .inl rfl | exact .inr (.inl rfl) | exact .inr (.inr rfl)) rfl rfl)) (se_len hB rfl rfl (se_n 1 rfl (by first | exact .inl rfl | exact .inr (.inl rfl) | exact .inr (.inr rfl)) rfl rfl)) rfl))))
      (ss_one (ss_ret se_bl))
      ss_nil)
    (ss_one (ss_ret (se_all rfl hB rfl rfl (se_lc (own := [("_law_k", 2)]) (by decide) rfl nd (si_rng1 rfl hB.range (sa_c rfl (se_len hB rfl rfl (se_n 1 rfl (by first | exact .inl rfl | exact .inr (.inl rfl) | exact .inr (.inr rfl)) rfl rfl)) sa_nil) rfl) (by exact blkOk_by (by kernel_rfl)) (fun _ _ _ _ _ => (sg_name (i := 2) nd rfl (by first | exact .inl rfl | exact .inr rfl) (by first | exact .inl rfl | exact .inr rfl))) (fun _ _ _ _ _ => st_yes) (fun _ _ _ _ _ => (se_c c__law_same hG hr takesN0 rfl rfl rfl rfl (sa_c rfl (se_ix (hu65 hr) (se_n 0 rfl (by first | exact .inl rfl | exact .inr (.inl rfl) | exact .inr (.inr rfl)) rfl rfl) (se_n 2 rfl (by first | exact .inl rfl | exact .inr (.inl rfl) | exact .inr (.inr rfl)) rfl rfl) (fun _ _ => rfl)) (sa_c rfl (se_ix (hu65 hr) (se_n 1 rfl (by first | exact .inl rfl | exact .inr (.inl rfl) | exact .inr (.inr rfl)) rfl rfl) (se_n 2 rfl (by first | exact .inl rfl | exact .inr (.inl rfl) | exact .inr (.inr rfl)) rfl rfl) (fun _ _ => rfl)) sa_nil)))) (fun _ => rfl))))))
    ss_nil)
  (ss_cons (ss_if (st_cmp bin_is (se_n 1 rfl (by first | exact .inl rfl | exact .inr (.inl rfl) | exact .inr (.inr rfl)) rfl rfl) se_non rfl)
    (ss_one (ss_ret (se_cmp bin_is (se_n 0 rfl (by first | exact .inl rfl | exact .inr (.inl rfl) | exact .inr (.inr rfl)) rfl rfl) se_non rfl)))
    ss_nil)
  (ss_cons (ss_if (st_val (se_isi (by decide) (se_n 1 rfl (by first | exact .inl rfl | exact .inr (.inl rfl) | exact .inr (.inr rfl)) rfl rfl) rfl hB.isi rfl hB.str bb_str (by decide) rfl rfl) (fun _ => rfl))
    (ss_one (ss_ret (se_and (se_isi (by decide) (se_n 0 rfl (by first | exact .inl rfl | exact .inr (.inl rfl) | exact .inr (.inr rfl)) rfl rfl) rfl hB.isi rfl hB.str bb_str (by decide) rfl rfl) (se_one (se_cmp (bin_eq (hu64 hr)) (se_n 0 rfl (by first | exact .inl rfl | exact .inr (.inl rfl) | exact .inr (.inr rfl)) rfl rfl) (se_n 1 rfl (by first | exact .inl rfl | exact .inr (.inl rfl) | exact .inr (.inr rfl)) rfl rfl) rfl)))))
    ss_nil)
  (ss_one (ss_ret (se_and (se_isi (by decide) (se_n 0 rfl (by first | exact .inl rfl | exact .inr (.inl rfl) | exact .inr (.inr rfl)) rfl rfl) rfl hB.isi rfl hB.int bb_int (by decide) rfl rfl) (se_and (se_not (se_isi (by decide) (se_n 0 rfl (by first | exact .inl rfl | exact .inr (.inl rfl) | exact .inr (.inr rfl)) rfl rfl) rfl hB.isi rfl hB.bool bb_bool (by decide) rfl rfl)) (se_one (se_cmp (bin_eq (hu64 hr)) (se_n 0 rfl (by first | exact .inl rfl | exact .inr (.inl rfl) | exact .inr (.inr rfl)) rfl rfl) (se_n 1 rfl (by first | exact .inl rfl | exact .inr (.inl rfl) | exact .inr (.inr rfl)) rfl rfl) rfl))))))))))
theorem ok__law_same_d3 {f : Addr} {fd : FuncData} (F : Fun K "_law_same" "_law_same" (top 14) f fd) (hm : mg "_law_same" = some (.ref f)) (hB : Blt mg) (c__law_same : Callee P w K mg base ca 3 "_law_same" 2 f_l_same_d2) : Callee P w K mg base ca 4 "_law_same" 2 f_l_same_d3 := by
  refine ⟨f, fd, ["_law_found", "_law_due"], rfl, efn_body (N := ["_law_found", "_law_due", "_law_k"]) (b := b_l_same_d3) F sc__law_same fun cdv A outer s H E hg hr => ?_, hm, F.kp, F.binds fun _ _ _ _ _ _ us hl => match us, hl with | [_, _], _ => rfl⟩
  have hG : (cxOf (L2N.CX P w) P w K mg base ["_law_found", "_law_due", "_law_k"] "_law_same" (defScope (top 14)) f cdv A outer s H E).A.guards = some [] := by
    rw [← hg]; exact deeper_guards _ _
  have tk : L2N.Takes (cxOf (L2N.CX P w) P w K mg base ["_law_found", "_law_due", "_law_k"] "_law_same" (defScope (top 14)) f cdv A outer s H E) (fun cls d _ H => E cls d H) := L2N.takes_of rfl rfl rfl rfl
  have nd := sc__law_same.nd
  have hp : PassesOwn _ _ _ (cxOf (L2N.CX P w) P w K mg base ["_law_found", "_law_due", "_law_k"] "_law_same" (defScope (top 14)) f cdv A outer s H E).xe := passes_of rfl
  exact (ss_cons (ss_if (st_val (se_isi (by decide) (se_n 1 rfl (by first | exact .inl rfl | exact .inr (.inl rfl) | exact .inr (.inr rfl)) rfl rfl) rfl hB.isi rfl hB.tuple bb_tuple (by decide) rfl rfl) (fun _ => rfl))
    (ss_cons (ss_if (PW.pt (st_or (st_not (st_val (se_isi (by decide) (se_n 0 rfl (by first | exact .inl rfl | exact .inr (.inl rfl) | exact .inr (.inr rfl)) rfl rfl) rfl hB.isi rfl hB.tuple bb_tuple (by decide) rfl rfl) (fun _ => rfl))) (st_or1 (st_cmp (bin_ne (hu64 hr)) (se_len hB rfl rfl (se_n 0 rfl (by first | exact .inl rfl | exact .inr (.inl rfl) | exact .inr (.inr rfl)) rfl rfl)) (se_len hB rfl rfl (se_n 1 rfl (by first | exact .inl rfl | exact .inr (.inl rfl) | exact .inr (.inr rfl)) rfl rfl)) rfl))))
      (ss_one (ss_ret se_bl))
      ss_nil)
    (ss_one (ss_ret (se_all rfl hB rfl rfl (se_lc (own := [("_law_k", 2)]) (by decide) rfl nd (si_rng1 rfl hB.range (sa_c rfl (se_len hB rfl rfl (se_n 1 rfl (by first | exact .inl rfl | exact .inr (.inl rfl) | exact .inr (.inr rfl)) rfl rfl)) sa_nil) rfl) (by exact blkOk_by (by kernel_rfl)) (fun _ _ _ _ _ => (sg_name (i := 2) nd rfl (by first | exact .inl rfl | exact .inr rfl) (by first | exact .inl rfl | exact .inr rfl))) (fun _ _ _ _ _ => st_yes) (fun _ _ _ _ _ => (se_c c__law_same hG hr takesN0 rfl rfl rfl rfl (sa_c rfl (se_ix (hu65 hr) (se_n 0 rfl (by first | exact .inl rfl | exact .inr (.inl rfl) | exact .inr (.inr rfl)) rfl rfl) (se_n 2 rfl (by first | exact .inl rfl | exact .inr (.inl rfl) | exact .inr (.inr rfl)) rfl rfl) (fun _ _ => rfl)) (sa_c rfl (se_ix (hu65 hr) (se_n 1 rfl (by first | exact .inl rfl | exact .inr (.inl rfl) | exact .inr (.inr rfl)) rfl rfl) (se_n 2 rfl (by first | exact .inl rfl | exact .inr (.inl rfl) | exact .inr (.inr rfl)) rfl rfl) (fun _ _ => rfl)) sa_nil)))) (fun _ => rfl))))))
    ss_nil)
  (ss_cons (ss_if (st_val (se_isi (by decide) (se_n 1 rfl (by first | exact .inl rfl | exact .inr (.inl rfl) | exact .inr (.inr rfl)) rfl rfl) rfl hB.isi rfl hB.list bb_list (by decide) rfl rfl) (fun _ => rfl))
    (ss_cons (ss_if (PW.pt (st_or (st_not (st_val (se_isi (by decide) (se_n 0 rfl (by first | exact .inl rfl | exact .inr (.inl rfl) | exact .inr (.inr rfl)) rfl rfl) rfl hB.isi rfl hB.list bb_list (by decide) rfl rfl) (fun _ => rfl))) (st_or1 (st_cmp (bin_ne (hu64 hr)) (se_len hB rfl rfl (se_n 0 rfl (by first | exact .inl rfl | exact .inr (.inl rfl) | exact .inr (.inr rfl)) rfl rfl)) (se_len hB rfl rfl (se_n 1 rfl (by first | exact .inl rfl | exact .inr (.inl rfl) | exact .inr (.inr rfl)) rfl rfl)) rfl))))
      (ss_one (ss_ret se_bl))
      ss_nil)
    (ss_one (ss_ret (se_all rfl hB rfl rfl (se_lc (own := [("_law_k", 2)]) (by decide) rfl nd (si_rng1 rfl hB.range (sa_c rfl (se_len hB rfl rfl (se_n 1 rfl (by first | exact .inl rfl | exact .inr (.inl rfl) | exact .inr (.inr rfl)) rfl rfl)) sa_nil) rfl) (by exact blkOk_by (by kernel_rfl)) (fun _ _ _ _ _ => (sg_name (i := 2) nd rfl (by first | exact .inl rfl | exact .inr rfl) (by first | exact .inl rfl | exact .inr rfl))) (fun _ _ _ _ _ => st_yes) (fun _ _ _ _ _ => (se_c c__law_same hG hr takesN0 rfl rfl rfl rfl (sa_c rfl (se_ix (hu65 hr) (se_n 0 rfl (by first | exact .inl rfl | exact .inr (.inl rfl) | exact .inr (.inr rfl)) rfl rfl) (se_n 2 rfl (by first | exact .inl rfl | exact .inr (.inl rfl) | exact .inr (.inr rfl)) rfl rfl) (fun _ _ => rfl)) (sa_c rfl (se_ix (hu65 hr) (se_n 1 rfl (by first | exact .inl rfl | exact .inr (.inl rfl) | exact .inr (.inr rfl)) rfl rfl) (se_n 2 rfl (by first | exact .inl rfl | exact .inr (.inl rfl) | exact .inr (.inr rfl)) rfl rfl) (fun _ _ => rfl)) sa_nil)))) (fun _ => rfl))))))
    ss_nil)
  (ss_cons (ss_if (st_cmp bin_is (se_n 1 rfl (by first | exact .inl rfl | exact .inr (.inl rfl) | exact .inr (.inr rfl)) rfl rfl) se_non rfl)
    (ss_one (ss_ret (se_cmp bin_is (se_n 0 rfl (by first | exact .inl rfl | exact .inr (.inl rfl) | exact .inr (.inr rfl)) rfl rfl) se_non rfl)))
    ss_nil)
  (ss_cons (ss_if (st_val (se_isi (by decide) (se_n 1 rfl (by first | exact .inl rfl | exact .inr (.inl rfl) | exact .inr (.inr rfl)) rfl rfl) rfl hB.isi rfl hB.str bb_str (by decide) rfl rfl) (fun _ => rfl))
    (ss_one (ss_ret (se_and (se_isi (by decide) (se_n 0 rfl (by first | exact .inl rfl | exact .inr (.inl rfl) | exact .inr (.inr rfl)) rfl rfl) rfl hB.isi rfl hB.str bb_str (by decide) rfl rfl) (se_one (se_cmp (bin_eq (hu64 hr)) (se_n 0 rfl (by first | exact .inl rfl | exact .inr (.inl rfl) | exact .inr (.inr rfl)) rfl rfl) (se_n 1 rfl (by first | exact .inl rfl | exact .inr (.inl rfl) | exact .inr (.inr rfl)) rfl rfl) rfl)))))
    ss_nil)
  (ss_one (ss_ret (se_and (se_isi (by decide) (se_n 0 rfl (by first | exact .inl rfl | exact .inr (.inl rfl) | exact .inr (.inr rfl)) rfl rfl) rfl hB.isi rfl hB.int bb_int (by decide) rfl rfl) (se_and (se_not (se_isi (by decide) (se_n 0 rfl (by first | exact .inl rfl | exact .inr (.inl rfl) | exact .inr (.inr rfl)) rfl rfl) rfl hB.isi rfl hB.bool bb_bool (by decide) rfl rfl)) (se_one (se_cmp (bin_eq (hu64 hr)) (se_n 0 rfl (by first | exact .inl rfl | exact .inr (.inl rfl) | exact .inr (.inr rfl)) rfl rfl) (se_n 1 rfl (by first | exact .inl rfl | exact .inr (.inl rfl) | exact .inr (.inr rfl)) rfl rfl) rfl))))))))))
theorem ok__law_same_d4 {f : Addr} {fd : FuncData} (F : Fun K "_law_same" "_law_same" (top 14) f fd) (hm : mg "_law_same" = some (.ref f)) (hB : Blt mg) (c__law_same : Callee P w K mg base ca 4 "_law_same" 2 f_l_same_d3) : Callee P w K mg base ca 5 "_law_same" 2 f_l_same_d4 := by
  refine ⟨f, fd, ["_law_found", "_law_due"], rfl, efn_body (N := ["_law_found", "_law_due", "_law_k"]) (b := b_l_same_d4) F sc__law_same fun cdv A outer s H E hg hr => ?_, hm, F.kp, F.binds fun _ _ _ _ _ _ us hl => match us, hl with | [_, _], _ => rfl⟩
  have hG : (cxOf (L2N.CX P w) P w K mg base ["_law_found", "_law_due", "_law_k"] "_law_same" (defScope (top 14)) f cdv A outer s H E).A.guards = some [] := by
    rw [← hg]; exact deeper_guards _ _
  have tk : L2N.Takes (cxOf (L2N.CX P w) P w K mg base ["_law_found", "_law_due", "_law_k"] "_law_same" (defScope (top 14)) f cdv A outer s H E) (fun cls d _ H => E cls d H) := L2N.takes_of rfl rfl rfl rfl
  have nd := sc__law_same.nd
  have hp : PassesOwn _ _ _ (cxOf (L2N.CX P w) P w K mg base ["_law_found", "_law_due", "_law_k"] "_law_same" (defScope (top 14)) f cdv A outer s H E).xe := passes_of rfl
  exact (ss_cons (ss_if (st_val (se_isi (by decide) (se_n 1 rfl (by first | exact .inl rfl | exact .inr (.inl rfl) | exact .inr (.inr rfl)) rfl rfl) rfl hB.isi rfl hB.tuple bb_tuple (by decide) rfl rfl) (fun _ => rfl))
    (ss_cons (ss_if (PW.pt (st_or (st_not (st_val (se_isi (by decide) (se_n 0 rfl (by first | exact .inl rfl | exact .inr (.inl rfl) | exact .inr (.inr rfl)) rfl rfl) rfl hB.isi rfl hB.tuple bb_tuple (by decide) rfl rfl) (fun _ => rfl))) (st_or1 (st_cmp (bin_ne (hu64 hr)) (se_len hB rfl rfl (se_n 0 rfl (by first | exact .inl rfl | exact .inr (.inl rfl) | exact .inr (.inr rfl)) rfl rfl)) (se_len hB rfl rfl (se_n 1 rfl (by first | exact .inl rfl | exact .inr (.inl rfl) | exact .inr (.inr rfl)) rfl rfl)) rfl))))
      (ss_one (ss_ret se_bl))
      ss_nil)
    (ss_one (ss_ret (se_all rfl hB rfl rfl (se_lc (own := [("_law_k", 2)]) (by decide) rfl nd (si_rng1 rfl hB.range (sa_c rfl (se_len hB rfl rfl (se_n 1 rfl (by first | exact .inl rfl | exact .inr (.inl rfl) | exact .inr (.inr rfl)) rfl rfl)) sa_nil) rfl) (by exact blkOk_by (by kernel_rfl)) (fun _ _ _ _ _ => (sg_name (i := 2) nd rfl (by first | exact .inl rfl | exact .inr rfl) (by first | exact .inl rfl | exact .inr rfl))) (fun _ _ _ _ _ => st_yes) (fun _ _ _ _ _ => (se_c c__law_same hG hr takesN0 rfl rfl rfl rfl (sa_c rfl (se_ix (hu65 hr) (se_n 0 rfl (by first | exact .inl rfl | exact .inr (.inl rfl) | exact .inr (.inr rfl)) rfl rfl) (se_n 2 rfl (by first | exact .inl rfl | exact .inr (.inl rfl) | exact .inr (.inr rfl)) rfl rfl) (fun _ _ => rfl)) (sa_c rfl (se_ix (hu65 hr) (se_n 1 rfl (by first | exact .inl rfl | exact .inr (.inl rfl) | exact .inr (.inr rfl)) rfl rfl) (se_n 2 rfl (by first | exact .inl rfl | exact .inr (.inl rfl) | exact .inr (.inr rfl)) rfl rfl) (fun _ _ => rfl)) sa_nil)))) (fun _ => rfl))))))
    ss_nil)
  (ss_cons (ss_if (st_val (se_isi (by decide) (se_n 1 rfl (by first | exact .inl rfl | exact .inr (.inl rfl) | exact .inr (.inr rfl)) rfl rfl) rfl hB.isi rfl hB.list bb_list (by decide) rfl rfl) (fun _ => rfl))
    (ss_cons (ss_if (PW.pt (st_or (st_not (st_val (se_isi (by decide) (se_n 0 rfl (by first | exact .inl rfl | exact .inr (.inl rfl) | exact .inr (.inr rfl)) rfl rfl) rfl hB.isi rfl hB.list bb_list (by decide) rfl rfl) (fun _ => rfl))) (st_or1 (st_cmp (bin_ne (hu64 hr)) (se_len hB rfl rfl (se_n 0 rfl (by first | exact .inl rfl | exact .inr (.inl rfl) | exact .inr (.inr rfl)) rfl rfl)) (se_len hB rfl rfl (se_n 1 rfl (by first | exact .inl rfl | exact .inr (.inl rfl) | exact .inr (.inr rfl)) rfl rfl)) rfl))))
      (ss_one (ss_ret se_bl))
      ss_nil)
    (ss_one (ss_ret (se_all rfl hB rfl rfl (se_lc (own := [("_law_k", 2)]) (by decide) rfl nd (si_rng1 rfl hB.range (sa_c rfl (se_len hB rfl rfl (se_n 1 rfl (by first | exact .inl rfl | exact .inr (.inl rfl) | exact .inr (.inr rfl)) rfl rfl)) sa_nil) rfl) (by exact blkOk_by (by kernel_rfl)) (fun _ _ _ _ _ => (sg_name (i := 2) nd rfl (by first | exact .inl rfl | exact .inr rfl) (by first | exact .inl rfl | exact .inr rfl))) (fun _ _ _ _ _ => st_yes) (fun _ _ _ _ _ => (se_c c__law_same hG hr takesN0 rfl rfl rfl rfl (sa_c rfl (se_ix (hu65 hr) (se_n 0 rfl (by first | exact .inl rfl | exact .inr (.inl rfl) | exact .inr (.inr rfl)) rfl rfl) (se_n 2 rfl (by first | exact .inl rfl | exact .inr (.inl rfl) | exact .inr (.inr rfl)) rfl rfl) (fun _ _ => rfl)) (sa_c rfl (se_ix (hu65 hr) (se_n 1 rfl (by first | exact .inl rfl | exact .inr (.inl rfl) | exact .inr (.inr rfl)) rfl rfl) (se_n 2 rfl (by first | exact .inl rfl | exact .inr (.inl rfl) | exact .inr (.inr rfl)) rfl rfl) (fun _ _ => rfl)) sa_nil)))) (fun _ => rfl))))))
    ss_nil)
  (ss_cons (ss_if (st_cmp bin_is (se_n 1 rfl (by first | exact .inl rfl | exact .inr (.inl rfl) | exact .inr (.inr rfl)) rfl rfl) se_non rfl)
    (ss_one (ss_ret (se_cmp bin_is (se_n 0 rfl (by first | exact .inl rfl | exact .inr (.inl rfl) | exact .inr (.inr rfl)) rfl rfl) se_non rfl)))
    ss_nil)
  (ss_cons (ss_if (st_val (se_isi (by decide) (se_n 1 rfl (by first | exact .inl rfl | exact .inr (.inl rfl) | exact .inr (.inr rfl)) rfl rfl) rfl hB.isi rfl hB.str bb_str (by decide) rfl rfl) (fun _ => rfl))
    (ss_one (ss_ret (se_and (se_isi (by decide) (se_n 0 rfl (by first | exact .inl rfl | exact .inr (.inl rfl) | exact .inr (.inr rfl)) rfl rfl) rfl hB.isi rfl hB.str bb_str (by decide) rfl rfl) (se_one (se_cmp (bin_eq (hu64 hr)) (se_n 0 rfl (by first | exact .inl rfl | exact .inr (.inl rfl) | exact .inr (.inr rfl)) rfl rfl) (se_n 1 rfl (by first | exact .inl rfl | exact .inr (.inl rfl) | exact .inr (.inr rfl)) rfl rfl) rfl)))))
    ss_nil)
  (ss_one (ss_ret (se_and (se_isi (by decide) (se_n 0 rfl (by first | exact .inl rfl | exact .inr (.inl rfl) | exact .inr (.inr rfl)) rfl rfl) rfl hB.isi rfl hB.int bb_int (by decide) rfl rfl) (se_and (se_not (se_isi (by decide) (se_n 0 rfl (by first | exact .inl rfl | exact .inr (.inl rfl) | exact .inr (.inr rfl)) rfl rfl) rfl hB.isi rfl hB.bool bb_bool (by decide) rfl rfl)) (se_one (se_cmp (bin_eq (hu64 hr)) (se_n 0 rfl (by first | exact .inl rfl | exact .inr (.inl rfl) | exact .inr (.inr rfl)) rfl rfl) (se_n 1 rfl (by first | exact .inl rfl | exact .inr (.inl rfl) | exact .inr (.inr rfl)) rfl rfl) rfl))))))))))
theorem sc__law_widened : FnScope ["_law_source_here", "_law_book_here", "_law_share", "_law_heads", "_law_pool", "_law_more", "_law_k", "_law_word", "_law_row_here"] ["_law_source_here", "_law_book_here"] (defScope (top 16)) := ⟨rfl, rfl, rfl, by decide +kernel, rfl, by decide +kernel, by decide +kernel⟩
theorem ok__law_widened {f : Addr} {fd : FuncData} (F : Fun K "_law_widened" "_law_widened" (top 16) f fd) (hm : mg "_law_widened" = some (.ref f)) (hB : Blt mg) (c__law_draw : Callee P w K mg base ca 1 "_law_draw" 2 f_l_draw) (c__law_all : Callee P w K mg base ca 1 "_law_all" 1 f_l_all) : Callee P w K mg base ca 2 "_law_widened" 2 f_l_widened_3 := by
  refine ⟨f, fd, ["_law_source_here", "_law_book_here"], rfl, efn_body (N := ["_law_source_here", "_law_book_here", "_law_share", "_law_heads", "_law_pool", "_law_more", "_law_k", "_law_word", "_law_row_here"]) (b := b_l_widened_3) F sc__law_widened fun cdv A outer s H E hg hr => ?_, hm, F.kp, F.binds fun _ _ _ _ _ _ us hl => match us, hl with | [_, _], _ => rfl⟩
  have hG : (cxOf (L2N.CX P w) P w K mg base ["_law_source_here", "_law_book_here", "_law_share", "_law_heads", "_law_pool", "_law_more", "_law_k", "_law_word", "_law_row_here"] "_law_widened" (defScope (top 16)) f cdv A outer s H E).A.guards = some [] := by
    rw [← hg]; exact deeper_guards _ _
  have tk : L2N.Takes (cxOf (L2N.CX P w) P w K mg base ["_law_source_here", "_law_book_here", "_law_share", "_law_heads", "_law_pool", "_law_more", "_law_k", "_law_word", "_law_row_here"] "_law_widened" (defScope (top 16)) f cdv A outer s H E) (fun cls d _ H => E cls d H) := L2N.takes_of rfl rfl rfl rfl
  have nd := sc__law_widened.nd
  have hp : PassesOwn _ _ _ (cxOf (L2N.CX P w) P w K mg base ["_law_source_here", "_law_book_here", "_law_share", "_law_heads", "_law_pool", "_law_more", "_law_k", "_law_word", "_law_row_here"] "_law_widened" (defScope (top 16)) f cdv A outer s H E).xe := passes_of rfl
  exact (ss_cons (ss_if (st_cmp (bin_ne (hu64 hr)) (se_c c__law_draw hG hr tk rfl rfl rfl rfl (sa_c rfl (se_n 0 rfl (by first | exact .inl rfl | exact .inr (.inl rfl) | exact .inr (.inr rfl)) rfl rfl) (sa_c rfl se_int sa_nil))) se_int rfl)
    (ss_one (ss_ret (se_n 1 rfl (by first | exact .inl rfl | exact .inr (.inl rfl) | exact .inr (.inr rfl)) rfl rfl)))
    ss_nil)
  (ss_cons (ss_asg (i := 2) nd rfl (by first | exact .inl rfl | exact .inr rfl) (se_bin bin_add se_int (se_c c__law_draw hG hr tk rfl rfl rfl rfl (sa_c rfl (se_n 0 rfl (by first | exact .inl rfl | exact .inr (.inl rfl) | exact .inr (.inr rfl)) rfl rfl) (sa_c rfl se_int sa_nil)))) rfl (by first | exact .inl rfl | exact .inr rfl))
  (ss_cons (ss_setLc (i := 3) (own := [("_law_row_here", 8)]) (by decide) rfl nd rfl rfl (sw_true rfl rfl rfl (by decide +kernel)) (si_seq (se_n 1 rfl (by first | exact .inl rfl | exact .inr (.inl rfl) | exact .inr (.inr rfl)) rfl rfl)) (by exact blkOk_by (by kernel_rfl)) (fun _ _ _ _ _ => (sg_name (i := 8) nd rfl (by first | exact .inl rfl | exact .inr rfl) (by first | exact .inl rfl | exact .inr rfl))) (fun _ _ _ _ _ => (st_ifone (st_cmp (bin_eq (hu64 hr)) (se_ix (hu65 hr) (se_n 8 rfl (by first | exact .inl rfl | exact .inr (.inl rfl) | exact .inr (.inr rfl)) rfl rfl) se_int (fun _ _ => rfl)) (se_tup sa_nil) rfl))) (fun _ _ _ _ _ => (se_ix (hu65 hr) (se_n 8 rfl (by first | exact .inl rfl | exact .inr (.inl rfl) | exact .inr (.inr rfl)) rfl rfl) se_int (fun _ _ => rfl))) (fun _ => rfl))
  (ss_cons (ss_asg (i := 4) nd rfl (by first | exact .inl rfl | exact .inr rfl) (se_c c__law_all hG hr tk rfl rfl rfl rfl (sa_c rfl (se_n 1 rfl (by first | exact .inl rfl | exact .inr (.inl rfl) | exact .inr (.inr rfl)) rfl rfl) sa_nil)) rfl (by first | exact .inl rfl | exact .inr rfl))
  (ss_cons (ss_asg (i := 5) nd rfl (by first | exact .inl rfl | exact .inr rfl) (se_lst sa_nil) rfl (by first | exact .inl rfl | exact .inr rfl))
  (ss_cons (ss_for (fg := [6, 7]) hp rfl (si_rng1 rfl hB.range (sa_c rfl (se_len hB rfl rfl (se_n 4 rfl (by first | exact .inl rfl | exact .inr (.inl rfl) | exact .inr (.inr rfl)) rfl rfl)) sa_nil) rfl) (sg_name (i := 6) nd rfl (by first | exact .inl rfl | exact .inr rfl) (by first | exact .inl rfl | exact .inr rfl))
    (ss_cons (ss_asg (i := 7) nd rfl (by first | exact .inl rfl | exact .inr rfl) (se_popAt (j := 4) rfl (by first | exact .inl rfl | exact .inr (.inl rfl) | exact .inr (.inr rfl)) rfl rfl (se_c c__law_draw hG hr tk rfl rfl rfl rfl (sa_c rfl (se_n 0 rfl (by first | exact .inl rfl | exact .inr (.inl rfl) | exact .inr (.inr rfl)) rfl rfl) (sa_c rfl (se_len hB rfl rfl (se_n 4 rfl (by first | exact .inl rfl | exact .inr (.inl rfl) | exact .inr (.inr rfl)) rfl rfl)) sa_nil))) rfl rfl rfl rfl) rfl (by first | exact .inl rfl | exact .inr rfl))
    (ss_one (ss_if (PW.pt (st_and (st_cmp (bin_notin (hu65 hr)) (se_n 7 rfl (by first | exact .inl rfl | exact .inr (.inl rfl) | exact .inr (.inr rfl)) rfl rfl) (se_n 3 rfl (by first | exact .inl rfl | exact .inr (.inl rfl) | exact .inr (.inr rfl)) rfl rfl) rfl) (st_and1 (st_cmp (bin_eq (hu64 hr)) (se_c c__law_draw hG hr tk rfl rfl rfl rfl (sa_c rfl (se_n 0 rfl (by first | exact .inl rfl | exact .inr (.inl rfl) | exact .inr (.inr rfl)) rfl rfl) (sa_c rfl (se_n 2 rfl (by first | exact .inl rfl | exact .inr (.inl rfl) | exact .inr (.inr rfl)) rfl rfl) sa_nil))) se_int rfl))))
      (ss_one (ss_expr (se_app (j := 5) rfl (by first | exact .inl rfl | exact .inr (.inl rfl) | exact .inr (.inr rfl)) rfl rfl (se_tup (sa_c rfl (se_n 7 rfl (by first | exact .inl rfl | exact .inr (.inl rfl) | exact .inr (.inr rfl)) rfl rfl) (sa_c rfl (se_tup sa_nil) sa_nil))) rfl rfl rfl rfl) rfl))
      ss_nil))) (fun _ => rfl))
  (ss_one (ss_ret (se_bin bin_add (se_n 1 rfl (by first | exact .inl rfl | exact .inr (.inl rfl) | exact .inr (.inr rfl)) rfl rfl) (se_tuple hB rfl rfl (se_n 5 rfl (by first | exact .inl rfl | exact .inr (.inl rfl) | exact .inr (.inr rfl)) rfl rfl)))))))))))
theorem sc__law_words : FnScope ["_law_source_here", "_law_letters", "_law_many", "_law_base", "_law_way", "_law_size", "_law_first", "_law_words_here", "_law_k", "_law_word", "_law_sense"] ["_law_source_here"] (defScope (top 9)) := ⟨rfl, rfl, rfl, by decide +kernel, rfl, by decide +kernel, by decide +kernel⟩
theorem ok__law_words {f : Addr} {fd : FuncData} (F : Fun K "_law_words" "_law_words" (top 9) f fd) (hm : mg "_law_words" = some (.ref f)) (hB : Blt mg) (c__law_draw : Callee P w K mg base ca 1 "_law_draw" 2 f_l_draw) : Callee P w K mg base ca 2 "_law_words" 1 f_l_words_2 := by
  refine ⟨f, fd, ["_law_source_here"], rfl, efn_body (N := ["_law_source_here", "_law_letters", "_law_many", "_law_base", "_law_way", "_law_size", "_law_first", "_law_words_here", "_law_k", "_law_word", "_law_sense"]) (b := b_l_words_2) F sc__law_words fun cdv A outer s H E hg hr => ?_, hm, F.kp, F.binds fun _ _ _ _ _ _ us hl => match us, hl with | [_], _ => rfl⟩
  have hG : (cxOf (L2N.CX P w) P w K mg base ["_law_source_here", "_law_letters", "_law_many", "_law_base", "_law_way", "_law_size", "_law_first", "_law_words_here", "_law_k", "_law_word", "_law_sense"] "_law_words" (defScope (top 9)) f cdv A outer s H E).A.guards = some [] := by
    rw [← hg]; exact deeper_guards _ _
  have tk : L2N.Takes (cxOf (L2N.CX P w) P w K mg base ["_law_source_here", "_law_letters", "_law_many", "_law_base", "_law_way", "_law_size", "_law_first", "_law_words_here", "_law_k", "_law_word", "_law_sense"] "_law_words" (defScope (top 9)) f cdv A outer s H E) (fun cls d _ H => E cls d H) := L2N.takes_of rfl rfl rfl rfl
  have nd := sc__law_words.nd
  have hp : PassesOwn _ _ _ (cxOf (L2N.CX P w) P w K mg base ["_law_source_here", "_law_letters", "_law_many", "_law_base", "_law_way", "_law_size", "_law_first", "_law_words_here", "_law_k", "_law_word", "_law_sense"] "_law_words" (defScope (top 9)) f cdv A outer s H E).xe := passes_of rfl
  exact (ss_cons (ss_asg (i := 1) nd rfl (by first | exact .inl rfl | exact .inr rfl) se_str rfl (by first | exact .inl rfl | exact .inr rfl))
  (ss_cons (ss_asg (i := 2) nd rfl (by first | exact .inl rfl | exact .inr rfl) (se_bin bin_add se_int (se_c c__law_draw hG hr tk rfl rfl rfl rfl (sa_c rfl (se_n 0 rfl (by first | exact .inl rfl | exact .inr (.inl rfl) | exact .inr (.inr rfl)) rfl rfl) (sa_c rfl (se_ix (hu65 hr) (se_lst (sa_c rfl se_int (sa_c rfl se_int (sa_c rfl se_int sa_nil)))) (se_c c__law_draw hG hr tk rfl rfl rfl rfl (sa_c rfl (se_n 0 rfl (by first | exact .inl rfl | exact .inr (.inl rfl) | exact .inr (.inr rfl)) rfl rfl) (sa_c rfl se_int sa_nil))) (fun _ _ => rfl)) sa_nil)))) rfl (by first | exact .inl rfl | exact .inr rfl))
  (ss_cons (ss_asg (i := 3) nd rfl (by first | exact .inl rfl | exact .inr rfl) (se_join se_str (se_lc (own := [("_law_k", 8)]) (by decide) rfl nd (si_rng1 rfl hB.range (sa_c rfl se_int sa_nil) rfl) (by exact blkOk_by (by kernel_rfl)) (fun _ _ _ _ _ => (sg_name (i := 8) nd rfl (by first | exact .inl rfl | exact .inr rfl) (by first | exact .inl rfl | exact .inr rfl))) (fun _ _ _ _ _ => st_yes) (fun _ _ _ _ _ => (se_ix (hu65 hr) (se_n 1 rfl (by first | exact .inl rfl | exact .inr (.inl rfl) | exact .inr (.inr rfl)) rfl rfl) (se_c c__law_draw hG hr takesN0 rfl rfl rfl rfl (sa_c rfl (se_n 0 rfl (by first | exact .inl rfl | exact .inr (.inl rfl) | exact .inr (.inr rfl)) rfl rfl) (sa_c rfl se_int sa_nil))) (fun _ _ => rfl))) (fun _ => rfl)) rfl rfl rfl) rfl (by first | exact .inl rfl | exact .inr rfl))
  (ss_cons (ss_asg (i := 4) nd rfl (by first | exact .inl rfl | exact .inr rfl) (se_c c__law_draw hG hr tk rfl rfl rfl rfl (sa_c rfl (se_n 0 rfl (by first | exact .inl rfl | exact .inr (.inl rfl) | exact .inr (.inr rfl)) rfl rfl) (sa_c rfl se_int sa_nil))) rfl (by first | exact .inl rfl | exact .inr rfl))
  (ss_cons (ss_asg (i := 5) nd rfl (by first | exact .inl rfl | exact .inr rfl) (se_bin bin_add se_int (se_c c__law_draw hG hr tk rfl rfl rfl rfl (sa_c rfl (se_n 0 rfl (by first | exact .inl rfl | exact .inr (.inl rfl) | exact .inr (.inr rfl)) rfl rfl) (sa_c rfl se_int sa_nil)))) rfl (by first | exact .inl rfl | exact .inr rfl))
  (ss_cons (ss_asg (i := 6) nd rfl (by first | exact .inl rfl | exact .inr rfl) (se_c c__law_draw hG hr tk rfl rfl rfl rfl (sa_c rfl (se_n 0 rfl (by first | exact .inl rfl | exact .inr (.inl rfl) | exact .inr (.inr rfl)) rfl rfl) (sa_c rfl se_int sa_nil))) rfl (by first | exact .inl rfl | exact .inr rfl))
  (ss_cons (ss_asg (i := 7) nd rfl (by first | exact .inl rfl | exact .inr rfl) (se_lst sa_nil) rfl (by first | exact .inl rfl | exact .inr rfl))
  (ss_cons (ss_for (fg := [8, 9, 10]) hp rfl (si_rng1 rfl hB.range (sa_c rfl (se_n 2 rfl (by first | exact .inl rfl | exact .inr (.inl rfl) | exact .inr (.inr rfl)) rfl rfl) sa_nil) rfl) (sg_name (i := 8) nd rfl (by first | exact .inl rfl | exact .inr rfl) (by first | exact .inl rfl | exact .inr rfl))
    (ss_cons (ss_asg (i := 9) nd rfl (by first | exact .inl rfl | exact .inr rfl) (se_slice (se_n 3 rfl (by first | exact .inl rfl | exact .inr (.inl rfl) | exact .inr (.inr rfl)) rfl rfl) so_none (so_some (se_bin bin_add se_int (se_bin bin_mod (se_n 8 rfl (by first | exact .inl rfl | exact .inr (.inl rfl) | exact .inr (.inr rfl)) rfl rfl) se_int)))) rfl (by first | exact .inl rfl | exact .inr rfl))
    (ss_cons (ss_asg (i := 10) nd rfl (by first | exact .inl rfl | exact .inr rfl) (se_bin bin_add se_int (se_bin bin_fdiv (se_n 8 rfl (by first | exact .inl rfl | exact .inr (.inl rfl) | exact .inr (.inr rfl)) rfl rfl) se_int)) rfl (by first | exact .inl rfl | exact .inr rfl))
    (ss_cons (ss_if (st_cmp (bin_eq (hu64 hr)) (se_n 4 rfl (by first | exact .inl rfl | exact .inr (.inl rfl) | exact .inr (.inr rfl)) rfl rfl) se_int rfl)
      (ss_cons (ss_asg (i := 9) nd rfl (by first | exact .inl rfl | exact .inr rfl) (se_slice (se_n 3 rfl (by first | exact .inl rfl | exact .inr (.inl rfl) | exact .inr (.inr rfl)) rfl rfl) so_none (so_some (se_n 5 rfl (by first | exact .inl rfl | exact .inr (.inl rfl) | exact .inr (.inr rfl)) rfl rfl))) rfl (by first | exact .inl rfl | exact .inr rfl))
      (ss_one (ss_asg (i := 10) nd rfl (by first | exact .inl rfl | exact .inr rfl) (se_bin bin_add se_int (se_n 8 rfl (by first | exact .inl rfl | exact .inr (.inl rfl) | exact .inr (.inr rfl)) rfl rfl)) rfl (by first | exact .inl rfl | exact .inr rfl))))
      ss_nil)
    (ss_cons (ss_if (st_cmp bin_gt (se_n 4 rfl (by first | exact .inl rfl | exact .inr (.inl rfl) | exact .inr (.inr rfl)) rfl rfl) se_int rfl)
      (ss_cons (ss_asg (i := 9) nd rfl (by first | exact .inl rfl | exact .inr rfl) (se_bin bin_add (se_ix (hu65 hr) (se_n 1 rfl (by first | exact .inl rfl | exact .inr (.inl rfl) | exact .inr (.inr rfl)) rfl rfl) (se_bin bin_mod (se_bin bin_add (se_n 6 rfl (by first | exact .inl rfl | exact .inr (.inl rfl) | exact .inr (.inr rfl)) rfl rfl) (se_bin bin_mul se_int (se_n 8 rfl (by first | exact .inl rfl | exact .inr (.inl rfl) | exact .inr (.inr rfl)) rfl rfl))) se_int) (fun _ _ => rfl)) (se_slice (se_n 3 rfl (by first | exact .inl rfl | exact .inr (.inl rfl) | exact .inr (.inr rfl)) rfl rfl) (so_some se_int) (so_some (se_n 5 rfl (by first | exact .inl rfl | exact .inr (.inl rfl) | exact .inr (.inr rfl)) rfl rfl)))) rfl (by first | exact .inl rfl | exact .inr rfl))
      (ss_one (ss_asg (i := 10) nd rfl (by first | exact .inl rfl | exact .inr rfl) se_int rfl (by first | exact .inl rfl | exact .inr rfl))))
      ss_nil)
    (ss_cons (ss_if (st_cmp (bin_eq (hu64 hr)) (se_n 4 rfl (by first | exact .inl rfl | exact .inr (.inl rfl) | exact .inr (.inr rfl)) rfl rfl) se_int rfl)
      (ss_one (ss_asg (i := 10) nd rfl (by first | exact .inl rfl | exact .inr rfl) (se_bin bin_add se_int (se_c c__law_draw hG hr tk rfl rfl rfl rfl (sa_c rfl (se_n 0 rfl (by first | exact .inl rfl | exact .inr (.inl rfl) | exact .inr (.inr rfl)) rfl rfl) (sa_c rfl se_int sa_nil)))) rfl (by first | exact .inl rfl | exact .inr rfl)))
      ss_nil)
    (ss_one (ss_expr (se_app (j := 7) rfl (by first | exact .inl rfl | exact .inr (.inl rfl) | exact .inr (.inr rfl)) rfl rfl (se_if (st_cmp (bin_eq (hu64 hr)) (se_n 10 rfl (by first | exact .inl rfl | exact .inr (.inl rfl) | exact .inr (.inr rfl)) rfl rfl) se_int rfl) (se_n 9 rfl (by first | exact .inl rfl | exact .inr (.inl rfl) | exact .inr (.inr rfl)) rfl rfl) (se_bin bin_add (se_bin bin_add (se_n 9 rfl (by first | exact .inl rfl | exact .inr (.inl rfl) | exact .inr (.inr rfl)) rfl rfl) se_str) (se_strC hB rfl rfl (se_n 10 rfl (by first | exact .inl rfl | exact .inr (.inl rfl) | exact .inr (.inr rfl)) rfl rfl)))) rfl rfl rfl rfl) rfl))))))) (fun _ => rfl))
  (ss_one (ss_ret (se_n 7 rfl (by first | exact .inl rfl | exact .inr (.inl rfl) | exact .inr (.inr rfl)) rfl rfl)))))))))))
theorem sc_met_from : FnScope ["found", "word", "met", "fresh", "one"] ["found", "word"] (defScope (top 4)) := ⟨rfl, rfl, rfl, by decide +kernel, rfl, by decide +kernel, by decide +kernel⟩
theorem ok_met_from {f : Addr} {fd : FuncData} (F : Fun K "met_from" "met_from" (top 4) f fd) (hm : mg "met_from" = some (.ref f)) (hB : Blt mg) : Callee P w K mg base ca 1 "met_from" 2 f_met_from := by
  refine ⟨f, fd, ["found", "word"], rfl, efn_body (N := ["found", "word", "met", "fresh", "one"]) (b := b_met_from) F sc_met_from fun cdv A outer s H E hg hr => ?_, hm, F.kp, F.binds fun _ _ _ _ _ _ us hl => match us, hl with | [_, _], _ => rfl⟩
  have hG : (cxOf (L2N.CX P w) P w K mg base ["found", "word", "met", "fresh", "one"] "met_from" (defScope (top 4)) f cdv A outer s H E).A.guards = some [] := by
    rw [← hg]; exact deeper_guards _ _
  have tk : L2N.Takes (cxOf (L2N.CX P w) P w K mg base ["found", "word", "met", "fresh", "one"] "met_from" (defScope (top 4)) f cdv A outer s H E) (fun cls d _ H => E cls d H) := L2N.takes_of rfl rfl rfl rfl
  have nd := sc_met_from.nd
  have hp : PassesOwn _ _ _ (cxOf (L2N.CX P w) P w K mg base ["found", "word", "met", "fresh", "one"] "met_from" (defScope (top 4)) f cdv A outer s H E).xe := passes_of rfl
  exact (ss_cons (ss_asg (i := 2) nd rfl (by first | exact .inl rfl | exact .inr rfl) se_dic0 rfl (by first | exact .inl rfl | exact .inr rfl))
  (ss_cons (ss_asg (i := 3) nd rfl (by first | exact .inl rfl | exact .inr rfl) (se_list hB rfl rfl (se_ix (hu65 hr) (se_n 0 rfl (by first | exact .inl rfl | exact .inr (.inl rfl) | exact .inr (.inr rfl)) rfl rfl) (se_n 1 rfl (by first | exact .inl rfl | exact .inr (.inl rfl) | exact .inr (.inr rfl)) rfl rfl) (fun _ _ => rfl))) rfl (by first | exact .inl rfl | exact .inr rfl))
  (ss_cons (ss_while (fg := [4]) hp (st_cmp bin_gt (se_len hB rfl rfl (se_n 3 rfl (by first | exact .inl rfl | exact .inr (.inl rfl) | exact .inr (.inr rfl)) rfl rfl)) se_int rfl)
    (ss_cons (ss_asg (i := 4) nd rfl (by first | exact .inl rfl | exact .inr rfl) (se_pop (j := 3) rfl (by first | exact .inl rfl | exact .inr (.inl rfl) | exact .inr (.inr rfl)) rfl rfl rfl rfl) rfl (by first | exact .inl rfl | exact .inr rfl))
    (ss_one (ss_if (st_cmp (bin_notin (hu65 hr)) (se_n 4 rfl (by first | exact .inl rfl | exact .inr (.inl rfl) | exact .inr (.inr rfl)) rfl rfl) (se_n 2 rfl (by first | exact .inl rfl | exact .inr (.inl rfl) | exact .inr (.inr rfl)) rfl rfl) rfl)
      (ss_cons (ss_put (i := 2) (hu65 hr) rfl (by first | exact .inl rfl | exact .inr (.inl rfl) | exact .inr (.inr rfl)) rfl rfl (se_n 4 rfl (by first | exact .inl rfl | exact .inr (.inl rfl) | exact .inr (.inr rfl)) rfl rfl) se_bl rfl rfl rfl (fun _ => rfl))
      (ss_one (ss_expr (se_ext (j := 3) rfl (by first | exact .inl rfl | exact .inr (.inl rfl) | exact .inr (.inr rfl)) rfl rfl (se_ix (hu65 hr) (se_n 0 rfl (by first | exact .inl rfl | exact .inr (.inl rfl) | exact .inr (.inr rfl)) rfl rfl) (se_n 4 rfl (by first | exact .inl rfl | exact .inr (.inl rfl) | exact .inr (.inr rfl)) rfl rfl) (fun _ _ => rfl)) rfl rfl rfl rfl) rfl)))
      ss_nil))))
  (ss_one (ss_ret (se_n 2 rfl (by first | exact .inl rfl | exact .inr (.inl rfl) | exact .inr (.inr rfl)) rfl rfl))))))
theorem sc_words_of : FnScope ["book", "met", "word", "told", "one"] ["book"] (defScope (top 1)) := ⟨rfl, rfl, rfl, by decide +kernel, rfl, by decide +kernel, by decide +kernel⟩
theorem ok_words_of {f : Addr} {fd : FuncData} (F : Fun K "words_of" "words_of" (top 1) f fd) (hm : mg "words_of" = some (.ref f)) (hB : Blt mg) : Callee P w K mg base ca 1 "words_of" 1 f_words_of := by
  refine ⟨f, fd, ["book"], rfl, efn_body (N := ["book", "met", "word", "told", "one"]) (b := b_words_of) F sc_words_of fun cdv A outer s H E hg hr => ?_, hm, F.kp, F.binds fun _ _ _ _ _ _ us hl => match us, hl with | [_], _ => rfl⟩
  have hG : (cxOf (L2N.CX P w) P w K mg base ["book", "met", "word", "told", "one"] "words_of" (defScope (top 1)) f cdv A outer s H E).A.guards = some [] := by
    rw [← hg]; exact deeper_guards _ _
  have tk : L2N.Takes (cxOf (L2N.CX P w) P w K mg base ["book", "met", "word", "told", "one"] "words_of" (defScope (top 1)) f cdv A outer s H E) (fun cls d _ H => E cls d H) := L2N.takes_of rfl rfl rfl rfl
  have nd := sc_words_of.nd
  have hp : PassesOwn _ _ _ (cxOf (L2N.CX P w) P w K mg base ["book", "met", "word", "told", "one"] "words_of" (defScope (top 1)) f cdv A outer s H E).xe := passes_of rfl
  exact (ss_cons (ss_asg (i := 1) nd rfl (by first | exact .inl rfl | exact .inr rfl) se_dic0 rfl (by first | exact .inl rfl | exact .inr rfl))
  (ss_cons (ss_for (fg := [2, 3, 4]) hp rfl (si_seq (se_n 0 rfl (by first | exact .inl rfl | exact .inr (.inl rfl) | exact .inr (.inr rfl)) rfl rfl)) (sg_tup rfl (sg_cons (pg_name (i := 2) nd rfl (by first | exact .inl rfl | exact .inr rfl) (by first | exact .inl rfl | exact .inr rfl)) (sg_cons (pg_name (i := 3) nd rfl (by first | exact .inl rfl | exact .inr rfl) (by first | exact .inl rfl | exact .inr rfl)) sg_nil rfl) rfl) rfl rfl)
    (ss_cons (ss_put (i := 1) (hu65 hr) rfl (by first | exact .inl rfl | exact .inr (.inl rfl) | exact .inr (.inr rfl)) rfl rfl (se_n 2 rfl (by first | exact .inl rfl | exact .inr (.inl rfl) | exact .inr (.inr rfl)) rfl rfl) se_bl rfl rfl rfl (fun _ => rfl))
    (ss_one (ss_for (fg := [4]) hp rfl (si_seq (se_n 3 rfl (by first | exact .inl rfl | exact .inr (.inl rfl) | exact .inr (.inr rfl)) rfl rfl)) (sg_name (i := 4) nd rfl (by first | exact .inl rfl | exact .inr rfl) (by first | exact .inl rfl | exact .inr rfl))
      (ss_one (ss_put (i := 1) (hu65 hr) rfl (by first | exact .inl rfl | exact .inr (.inl rfl) | exact .inr (.inr rfl)) rfl rfl (se_n 4 rfl (by first | exact .inl rfl | exact .inr (.inl rfl) | exact .inr (.inr rfl)) rfl rfl) se_bl rfl rfl rfl (fun _ => rfl))) (fun _ => rfl)))) (fun _ => rfl))
  (ss_one (ss_ret (se_sorted rfl hr hB rfl rfl (se_n 1 rfl (by first | exact .inl rfl | exact .inr (.inl rfl) | exact .inr (.inr rfl)) rfl rfl))))))
theorem sc_straight : FnScope ["book", "found", "word", "told"] ["book"] (defScope (top 3)) := ⟨rfl, rfl, rfl, by decide +kernel, rfl, by decide +kernel, by decide +kernel⟩
theorem ok_straight {f : Addr} {fd : FuncData} (F : Fun K "straight" "straight" (top 3) f fd) (hm : mg "straight" = some (.ref f)) (hB : Blt mg) (c_words_of : Callee P w K mg base ca 1 "words_of" 1 f_words_of) : Callee P w K mg base ca 2 "straight" 1 f_straight := by
  refine ⟨f, fd, ["book"], rfl, efn_body (N := ["book", "found", "word", "told"]) (b := b_straight) F sc_straight fun cdv A outer s H E hg hr => ?_, hm, F.kp, F.binds fun _ _ _ _ _ _ us hl => match us, hl with | [_], _ => rfl⟩
  have hG : (cxOf (L2N.CX P w) P w K mg base ["book", "found", "word", "told"] "straight" (defScope (top 3)) f cdv A outer s H E).A.guards = some [] := by
    rw [← hg]; exact deeper_guards _ _
  have tk : L2N.Takes (cxOf (L2N.CX P w) P w K mg base ["book", "found", "word", "told"] "straight" (defScope (top 3)) f cdv A outer s H E) (fun cls d _ H => E cls d H) := L2N.takes_of rfl rfl rfl rfl
  have nd := sc_straight.nd
  have hp : PassesOwn _ _ _ (cxOf (L2N.CX P w) P w K mg base ["book", "found", "word", "told"] "straight" (defScope (top 3)) f cdv A outer s H E).xe := passes_of rfl
  exact (ss_cons (ss_asg (i := 1) nd rfl (by first | exact .inl rfl | exact .inr rfl) se_dic0 rfl (by first | exact .inl rfl | exact .inr rfl))
  (ss_cons (ss_for (fg := [2]) hp rfl (si_seq (se_c c_words_of hG hr tk rfl rfl rfl rfl (sa_c rfl (se_n 0 rfl (by first | exact .inl rfl | exact .inr (.inl rfl) | exact .inr (.inr rfl)) rfl rfl) sa_nil))) (sg_name (i := 2) nd rfl (by first | exact .inl rfl | exact .inr rfl) (by first | exact .inl rfl | exact .inr rfl))
    (ss_one (ss_put (i := 1) (hu65 hr) rfl (by first | exact .inl rfl | exact .inr (.inl rfl) | exact .inr (.inr rfl)) rfl rfl (se_n 2 rfl (by first | exact .inl rfl | exact .inr (.inl rfl) | exact .inr (.inr rfl)) rfl rfl) (se_lst sa_nil) rfl rfl rfl (fun _ => rfl))) (fun _ => rfl))
  (ss_cons (ss_for (fg := [2, 3]) hp rfl (si_seq (se_n 0 rfl (by first | exact .inl rfl | exact .inr (.inl rfl) | exact .inr (.inr rfl)) rfl rfl)) (sg_tup rfl (sg_cons (pg_name (i := 2) nd rfl (by first | exact .inl rfl | exact .inr rfl) (by first | exact .inl rfl | exact .inr rfl)) (sg_cons (pg_name (i := 3) nd rfl (by first | exact .inl rfl | exact .inr rfl) (by first | exact .inl rfl | exact .inr rfl)) sg_nil rfl) rfl) rfl rfl)
    (ss_one (ss_put (i := 1) (hu65 hr) rfl (by first | exact .inl rfl | exact .inr (.inl rfl) | exact .inr (.inr rfl)) rfl rfl (se_n 2 rfl (by first | exact .inl rfl | exact .inr (.inl rfl) | exact .inr (.inr rfl)) rfl rfl) (se_bin bin_add (se_ix (hu65 hr) (se_n 1 rfl (by first | exact .inl rfl | exact .inr (.inl rfl) | exact .inr (.inr rfl)) rfl rfl) (se_n 2 rfl (by first | exact .inl rfl | exact .inr (.inl rfl) | exact .inr (.inr rfl)) rfl rfl) (fun _ _ => rfl)) (se_list hB rfl rfl (se_n 3 rfl (by first | exact .inl rfl | exact .inr (.inl rfl) | exact .inr (.inr rfl)) rfl rfl))) rfl rfl rfl (fun _ => rfl))) (fun _ => rfl))
  (ss_one (ss_ret (se_n 1 rfl (by first | exact .inl rfl | exact .inr (.inl rfl) | exact .inr (.inr rfl)) rfl rfl))))))
theorem sc_rings : FnScope ["book", "found", "beneath", "word", "told", "taken", "ring", "one"] ["book"] (defScope (top 5)) := ⟨rfl, rfl, rfl, by decide +kernel, rfl, by decide +kernel, by decide +kernel⟩
theorem ok_rings {f : Addr} {fd : FuncData} (F : Fun K "rings" "rings" (top 5) f fd) (hm : mg "rings" = some (.ref f)) (hB : Blt mg) (c_straight : Callee P w K mg base ca 2 "straight" 1 f_straight) (c_met_from : Callee P w K mg base ca 2 "met_from" 2 f_met_from) : Callee P w K mg base ca 3 "rings" 1 f_rings_2 := by
  refine ⟨f, fd, ["book"], rfl, efn_body (N := ["book", "found", "beneath", "word", "told", "taken", "ring", "one"]) (b := b_rings_2) F sc_rings fun cdv A outer s H E hg hr => ?_, hm, F.kp, F.binds fun _ _ _ _ _ _ us hl => match us, hl with | [_], _ => rfl⟩
  have hG : (cxOf (L2N.CX P w) P w K mg base ["book", "found", "beneath", "word", "told", "taken", "ring", "one"] "rings" (defScope (top 5)) f cdv A outer s H E).A.guards = some [] := by
    rw [← hg]; exact deeper_guards _ _
  have tk : L2N.Takes (cxOf (L2N.CX P w) P w K mg base ["book", "found", "beneath", "word", "told", "taken", "ring", "one"] "rings" (defScope (top 5)) f cdv A outer s H E) (fun cls d _ H => E cls d H) := L2N.takes_of rfl rfl rfl rfl
  have nd := sc_rings.nd
  have hp : PassesOwn _ _ _ (cxOf (L2N.CX P w) P w K mg base ["book", "found", "beneath", "word", "told", "taken", "ring", "one"] "rings" (defScope (top 5)) f cdv A outer s H E).xe := passes_of rfl
  exact (ss_cons (ss_asg (i := 1) nd rfl (by first | exact .inl rfl | exact .inr rfl) (se_c c_straight hG hr tk rfl rfl rfl rfl (sa_c rfl (se_n 0 rfl (by first | exact .inl rfl | exact .inr (.inl rfl) | exact .inr (.inr rfl)) rfl rfl) sa_nil)) rfl (by first | exact .inl rfl | exact .inr rfl))
  (ss_cons (ss_asg (i := 2) nd rfl (by first | exact .inl rfl | exact .inr rfl) se_dic0 rfl (by first | exact .inl rfl | exact .inr rfl))
  (ss_frzD (j := 1) (ss_cons (ss_for (fg := [3]) hp rfl (si_seq (se_n 1 rfl (by first | exact .inl rfl | exact .inr (.inl rfl) | exact .inr (.inr rfl)) rfl rfl)) (sg_name (i := 3) nd rfl (by first | exact .inl rfl | exact .inr rfl) (by first | exact .inl rfl | exact .inr rfl))
    (ss_one (ss_put (i := 2) (hu65 hr) rfl (by first | exact .inl rfl | exact .inr (.inl rfl) | exact .inr (.inr rfl)) rfl rfl (se_n 3 rfl (by first | exact .inl rfl | exact .inr (.inl rfl) | exact .inr (.inr rfl)) rfl rfl) (se_frzD (se_c c_met_from hG hr tk rfl rfl rfl rfl (sa_c rfl (se_n 1 rfl (by first | exact .inl rfl | exact .inr (.inl rfl) | exact .inr (.inr rfl)) rfl rfl) (sa_c rfl (se_n 3 rfl (by first | exact .inl rfl | exact .inr (.inl rfl) | exact .inr (.inr rfl)) rfl rfl) sa_nil)))) rfl rfl rfl (fun _ => rfl))) (fun _ => rfl))
  (ss_cons (ss_asg (i := 4) nd rfl (by first | exact .inl rfl | exact .inr rfl) (se_lst sa_nil) rfl (by first | exact .inl rfl | exact .inr rfl))
  (ss_cons (ss_asg (i := 5) nd rfl (by first | exact .inl rfl | exact .inr rfl) se_dic0 rfl (by first | exact .inl rfl | exact .inr rfl))
  (ss_cons (ss_for (fg := [3, 6, 7]) hp rfl (si_seq (se_sorted rfl hr hB rfl rfl (se_n 1 rfl (by first | exact .inl rfl | exact .inr (.inl rfl) | exact .inr (.inr rfl)) rfl rfl))) (sg_name (i := 3) nd rfl (by first | exact .inl rfl | exact .inr rfl) (by first | exact .inl rfl | exact .inr rfl))
    (ss_one (ss_if (PW.pt (st_and (st_cmp (bin_in (hu65 hr)) (se_n 3 rfl (by first | exact .inl rfl | exact .inr (.inl rfl) | exact .inr (.inr rfl)) rfl rfl) (se_ix (hu65 hr) (se_n 2 rfl (by first | exact .inl rfl | exact .inr (.inl rfl) | exact .inr (.inr rfl)) rfl rfl) (se_n 3 rfl (by first | exact .inl rfl | exact .inr (.inl rfl) | exact .inr (.inr rfl)) rfl rfl) (fun _ _ => rfl)) rfl) (st_and1 (st_cmp (bin_notin (hu65 hr)) (se_n 3 rfl (by first | exact .inl rfl | exact .inr (.inl rfl) | exact .inr (.inr rfl)) rfl rfl) (se_n 5 rfl (by first | exact .inl rfl | exact .inr (.inl rfl) | exact .inr (.inr rfl)) rfl rfl) rfl))))
      (ss_cons (ss_setLc (i := 6) (own := [("one", 7)]) (by decide) rfl nd rfl rfl (sw_true rfl rfl rfl (by decide +kernel)) (si_seq (se_sorted rfl hr hB rfl rfl (se_ix (hu65 hr) (se_n 2 rfl (by first | exact .inl rfl | exact .inr (.inl rfl) | exact .inr (.inr rfl)) rfl rfl) (se_n 3 rfl (by first | exact .inl rfl | exact .inr (.inl rfl) | exact .inr (.inr rfl)) rfl rfl) (fun _ _ => rfl)))) (by exact blkOk_by (by kernel_rfl)) (fun _ _ _ _ _ => (sg_name (i := 7) nd rfl (by first | exact .inl rfl | exact .inr rfl) (by first | exact .inl rfl | exact .inr rfl))) (fun _ _ _ _ _ => (st_ifone (st_cmp (bin_in (hu65 hr)) (se_n 3 rfl (by first | exact .inl rfl | exact .inr (.inl rfl) | exact .inr (.inr rfl)) rfl rfl) (se_ix (hu65 hr) (se_n 2 rfl (by first | exact .inl rfl | exact .inr (.inl rfl) | exact .inr (.inr rfl)) rfl rfl) (se_n 7 rfl (by first | exact .inl rfl | exact .inr (.inl rfl) | exact .inr (.inr rfl)) rfl rfl) (fun _ _ => rfl)) rfl))) (fun _ _ _ _ _ => (se_n 7 rfl (by first | exact .inl rfl | exact .inr (.inl rfl) | exact .inr (.inr rfl)) rfl rfl)) (fun _ => rfl))
      (ss_cons (ss_for (fg := [7]) hp rfl (si_seq (se_n 6 rfl (by first | exact .inl rfl | exact .inr (.inl rfl) | exact .inr (.inr rfl)) rfl rfl)) (sg_name (i := 7) nd rfl (by first | exact .inl rfl | exact .inr rfl) (by first | exact .inl rfl | exact .inr rfl))
        (ss_one (ss_put (i := 5) (hu65 hr) rfl (by first | exact .inl rfl | exact .inr (.inl rfl) | exact .inr (.inr rfl)) rfl rfl (se_n 7 rfl (by first | exact .inl rfl | exact .inr (.inl rfl) | exact .inr (.inr rfl)) rfl rfl) se_bl rfl rfl rfl (fun _ => rfl))) (fun _ => rfl))
      (ss_one (ss_expr (se_app (j := 4) rfl (by first | exact .inl rfl | exact .inr (.inl rfl) | exact .inr (.inr rfl)) rfl rfl (se_n 6 rfl (by first | exact .inl rfl | exact .inr (.inl rfl) | exact .inr (.inr rfl)) rfl rfl) rfl rfl rfl rfl) rfl))))
      ss_nil)) (fun _ => rfl))
  (ss_one (ss_ret (se_n 4 rfl (by first | exact .inl rfl | exact .inr (.inl rfl) | exact .inr (.inr rfl)) rfl rfl))))))))))
theorem sc_law : FnScope ["_law_script", "_law_left", "_law_source_here", "_law_book_here", "_law_beneath_here", "_law_word", "_law_due", "_law_turn", "_law_found", "_law_ring", "_law_one"] ["_law_script"] (defScope (top 17)) := ⟨rfl, rfl, rfl, by decide +kernel, rfl, by decide +kernel, by decide +kernel⟩
theorem ok_law {f : Addr} {fd : FuncData} (F : Fun K "law" "law" (top 17) f fd) (hB : Blt mg) (c__law_source : Callee P w K mg base ca 5 "_law_source" 2 f_l_source) (c__law_widened : Callee P w K mg base ca 5 "_law_widened" 2 f_l_widened_3) (c__law_book : Callee P w K mg base ca 5 "_law_book" 3 f_l_book_2) (c__law_words : Callee P w K mg base ca 5 "_law_words" 1 f_l_words_2) (c__law_all : Callee P w K mg base ca 5 "_law_all" 1 f_l_all) (c__law_beneath : Callee P w K mg base ca 5 "_law_beneath" 2 f_l_beneath_2) (c_rings : Callee P w K mg base ca 5 "rings" 1 f_rings_2) (c__law_same : Callee P w K mg base ca 5 "_law_same" 2 f_l_same) : EFn P w K mg base 6 f fd ["_law_script"] (spF ⟨P, w, K, ca⟩ 1 f_law_86) := by
  refine efn_body (N := ["_law_script", "_law_left", "_law_source_here", "_law_book_here", "_law_beneath_here", "_law_word", "_law_due", "_law_turn", "_law_found", "_law_ring", "_law_one"]) (b := b_law_86) F sc_law fun cdv A outer s H E hg hr => ?_
  have hG : (cxOf (L2N.CX P w) P w K mg base ["_law_script", "_law_left", "_law_source_here", "_law_book_here", "_law_beneath_here", "_law_word", "_law_due", "_law_turn", "_law_found", "_law_ring", "_law_one"] "law" (defScope (top 17)) f cdv A outer s H E).A.guards = some [] := by
    rw [← hg]; exact deeper_guards _ _
  have tk : L2N.Takes (cxOf (L2N.CX P w) P w K mg base ["_law_script", "_law_left", "_law_source_here", "_law_book_here", "_law_beneath_here", "_law_word", "_law_due", "_law_turn", "_law_found", "_law_ring", "_law_one"] "law" (defScope (top 17)) f cdv A outer s H E) (fun cls d _ H => E cls d H) := L2N.takes_of rfl rfl rfl rfl
  have nd := sc_law.nd
  have hp : PassesOwn _ _ _ (cxOf (L2N.CX P w) P w K mg base ["_law_script", "_law_left", "_law_source_here", "_law_book_here", "_law_beneath_here", "_law_word", "_law_due", "_law_turn", "_law_found", "_law_ring", "_law_one"] "law" (defScope (top 17)) f cdv A outer s H E).xe := passes_of rfl
  exact (ss_cons (ss_asg (i := 1) nd rfl (by first | exact .inl rfl | exact .inr rfl) (se_listRev rfl hB hB.rev rfl rfl (se_slice (se_n 0 rfl (by first | exact .inl rfl | exact .inr (.inl rfl) | exact .inr (.inr rfl)) rfl rfl) so_none (so_some se_int))) rfl (by first | exact .inl rfl | exact .inr rfl))
  (ss_cons (ss_asg (i := 2) nd rfl (by first | exact .inl rfl | exact .inr rfl) (se_c c__law_source hG hr tk rfl rfl rfl rfl (sa_c rfl (se_n 1 rfl (by first | exact .inl rfl | exact .inr (.inl rfl) | exact .inr (.inr rfl)) rfl rfl) (sa_c rfl se_int sa_nil))) rfl (by first | exact .inl rfl | exact .inr rfl))
  (ss_cons (ss_asg (i := 3) nd rfl (by first | exact .inl rfl | exact .inr rfl) (se_c c__law_widened hG hr tk rfl rfl rfl rfl (sa_c rfl (se_n 2 rfl (by first | exact .inl rfl | exact .inr (.inl rfl) | exact .inr (.inr rfl)) rfl rfl) (sa_c rfl (se_c c__law_book hG hr tk rfl rfl rfl rfl (sa_c rfl (se_n 1 rfl (by first | exact .inl rfl | exact .inr (.inl rfl) | exact .inr (.inr rfl)) rfl rfl) (sa_c rfl (se_n 2 rfl (by first | exact .inl rfl | exact .inr (.inl rfl) | exact .inr (.inr rfl)) rfl rfl) (sa_c rfl (se_c c__law_words hG hr tk rfl rfl rfl rfl (sa_c rfl (se_n 2 rfl (by first | exact .inl rfl | exact .inr (.inl rfl) | exact .inr (.inr rfl)) rfl rfl) sa_nil)) sa_nil)))) sa_nil))) rfl (by first | exact .inl rfl | exact .inr rfl))
  (ss_cons (ss_asg (i := 4) nd rfl (by first | exact .inl rfl | exact .inr rfl) se_dic0 rfl (by first | exact .inl rfl | exact .inr rfl))
  (ss_cons (ss_for (fg := [5]) hp rfl (si_seq (se_c c__law_all hG hr tk rfl rfl rfl rfl (sa_c rfl (se_n 3 rfl (by first | exact .inl rfl | exact .inr (.inl rfl) | exact .inr (.inr rfl)) rfl rfl) sa_nil))) (sg_name (i := 5) nd rfl (by first | exact .inl rfl | exact .inr rfl) (by first | exact .inl rfl | exact .inr rfl))
    (ss_one (ss_put (i := 4) (hu65 hr) rfl (by first | exact .inl rfl | exact .inr (.inl rfl) | exact .inr (.inr rfl)) rfl rfl (se_n 5 rfl (by first | exact .inl rfl | exact .inr (.inl rfl) | exact .inr (.inr rfl)) rfl rfl) (se_frzD (se_c c__law_beneath hG hr tk rfl rfl rfl rfl (sa_c rfl (se_n 3 rfl (by first | exact .inl rfl | exact .inr (.inl rfl) | exact .inr (.inr rfl)) rfl rfl) (sa_c rfl (se_n 5 rfl (by first | exact .inl rfl | exact .inr (.inl rfl) | exact .inr (.inr rfl)) rfl rfl) sa_nil)))) rfl rfl rfl (fun _ => rfl))) (fun _ => rfl))
  (ss_cons (ss_asg (i := 6) nd rfl (by first | exact .inl rfl | exact .inr rfl) (se_lst sa_nil) rfl (by first | exact .inl rfl | exact .inr rfl))
  (ss_frzD (j := 4) (ss_cons (ss_for (fg := [5, 9]) hp rfl (si_seq (se_n 4 rfl (by first | exact .inl rfl | exact .inr (.inl rfl) | exact .inr (.inr rfl)) rfl rfl)) (sg_name (i := 5) nd rfl (by first | exact .inl rfl | exact .inr rfl) (by first | exact .inl rfl | exact .inr rfl))
    (ss_one (ss_if (st_cmp (bin_in (hu65 hr)) (se_n 5 rfl (by first | exact .inl rfl | exact .inr (.inl rfl) | exact .inr (.inr rfl)) rfl rfl) (se_ix (hu65 hr) (se_n 4 rfl (by first | exact .inl rfl | exact .inr (.inl rfl) | exact .inr (.inr rfl)) rfl rfl) (se_n 5 rfl (by first | exact .inl rfl | exact .inr (.inl rfl) | exact .inr (.inr rfl)) rfl rfl) (fun _ _ => rfl)) rfl)
      (ss_cons (ss_asg (i := 9) nd rfl (by first | exact .inl rfl | exact .inr rfl) (se_sorted rfl hr hB rfl rfl (se_lc (own := [("_law_one", 10)]) (by decide) rfl nd (si_seq (se_ix (hu65 hr) (se_n 4 rfl (by first | exact .inl rfl | exact .inr (.inl rfl) | exact .inr (.inr rfl)) rfl rfl) (se_n 5 rfl (by first | exact .inl rfl | exact .inr (.inl rfl) | exact .inr (.inr rfl)) rfl rfl) (fun _ _ => rfl))) (by exact blkOk_by (by kernel_rfl)) (fun _ _ _ _ _ => (sg_name (i := 10) nd rfl (by first | exact .inl rfl | exact .inr rfl) (by first | exact .inl rfl | exact .inr rfl))) (fun _ _ _ _ _ => (st_ifone (st_cmp (bin_in (hu65 hr)) (se_n 5 rfl (by first | exact .inl rfl | exact .inr (.inl rfl) | exact .inr (.inr rfl)) rfl rfl) (se_ix (hu65 hr) (se_n 4 rfl (by first | exact .inl rfl | exact .inr (.inl rfl) | exact .inr (.inr rfl)) rfl rfl) (se_n 10 rfl (by first | exact .inl rfl | exact .inr (.inl rfl) | exact .inr (.inr rfl)) rfl rfl) (fun _ _ => rfl)) rfl))) (fun _ _ _ _ _ => (se_n 10 rfl (by first | exact .inl rfl | exact .inr (.inl rfl) | exact .inr (.inr rfl)) rfl rfl)) (fun _ => rfl))) rfl (by first | exact .inl rfl | exact .inr rfl))
      (ss_one (ss_if (st_cmp (bin_notin (hu65 hr)) (se_n 9 rfl (by first | exact .inl rfl | exact .inr (.inl rfl) | exact .inr (.inr rfl)) rfl rfl) (se_n 6 rfl (by first | exact .inl rfl | exact .inr (.inl rfl) | exact .inr (.inr rfl)) rfl rfl) rfl)
        (ss_one (ss_expr (se_app (j := 6) rfl (by first | exact .inl rfl | exact .inr (.inl rfl) | exact .inr (.inr rfl)) rfl rfl (se_n 9 rfl (by first | exact .inl rfl | exact .inr (.inl rfl) | exact .inr (.inr rfl)) rfl rfl) rfl rfl rfl rfl) rfl))
        ss_nil)))
      ss_nil)) (fun _ => rfl))
  (ss_cons (ss_for (fg := [7, 8, 9]) hp rfl (si_rng1 rfl hB.range (sa_c rfl se_int sa_nil) rfl) (sg_name (i := 7) nd rfl (by first | exact .inl rfl | exact .inr rfl) (by first | exact .inl rfl | exact .inr rfl))
    (ss_frz (j := 6) (ss_drp (is := [4]) (ss_young (i := 8) (js := [6]) (rs := [9]) nd rfl (by first | exact .inl rfl | exact .inr rfl) (se_c c_rings hG hr tk rfl rfl rfl rfl (sa_c rfl (se_n 3 rfl (by first | exact .inl rfl | exact .inr (.inl rfl) | exact .inr (.inr rfl)) rfl rfl) sa_nil)) rfl (by first | exact .inl rfl | exact .inr rfl)
    (ty_cons (ss_if (st_not (st_val (se_c c__law_same hG hr tk rfl rfl rfl rfl (sa_c rfl (se_n 8 rfl (by first | exact .inl rfl | exact .inr (.inl rfl) | exact .inr (.inr rfl)) rfl rfl) (sa_c rfl (se_sorted rfl hr hB rfl rfl (se_n 6 rfl (by first | exact .inl rfl | exact .inr (.inl rfl) | exact .inr (.inr rfl)) rfl rfl)) sa_nil))) (fun _ => rfl)))
      (ss_one (ss_ret se_bl))
      ss_nil)
    (ty_nil (sy_each (i := 8) (r := 9) hp rfl rfl (by first | exact .inl rfl | exact .inr (.inl rfl) | exact .inr (.inr rfl)) rfl rfl nd rfl (by first | exact .inl rfl | exact .inr rfl) (by first | exact .inl rfl | exact .inr rfl) (by first | exact .inl rfl | exact .inr (.inl rfl) | exact .inr (.inr rfl)) rfl rfl rfl rfl rfl (fun _ => rfl) (sy_clr (i := 8) rfl (by first | exact .inl rfl | exact .inr (.inl rfl) | exact .inr (.inr rfl)) rfl rfl rfl rfl rfl ss_nil))))
    (th_each (by decide))))) (fun _ => rfl))
  (ss_one (ss_ret se_bl)))))))))))
end
def d_0 : He.FnD := ⟨("_law_all", none), "_law_all", "_law_all", defArgs (top 13), defBody (top 13), defScope (top 13)⟩
def d_1 : He.FnD := ⟨("_law_beneath", none), "_law_beneath", "_law_beneath", defArgs (top 15), defBody (top 15), defScope (top 15)⟩
def d_2 : He.FnD := ⟨("_law_draw", none), "_law_draw", "_law_draw", defArgs (top 8), defBody (top 8), defScope (top 8)⟩
def d_3 : He.FnD := ⟨("_law_lay", none), "_law_lay", "_law_lay", defArgs (top 11), defBody (top 11), defScope (top 11)⟩
def d_4 : He.FnD := ⟨("_law_row", none), "_law_row", "_law_row", defArgs (top 10), defBody (top 10), defScope (top 10)⟩
def d_5 : He.FnD := ⟨("_law_source", none), "_law_source", "_law_source", defArgs (top 7), defBody (top 7), defScope (top 7)⟩
def d_6 : He.FnD := ⟨("_law_book", none), "_law_book", "_law_book", defArgs (top 12), defBody (top 12), defScope (top 12)⟩
def d_7 : He.FnD := ⟨("_law_same", none), "_law_same", "_law_same", defArgs (top 14), defBody (top 14), defScope (top 14)⟩
def d_8 : He.FnD := ⟨("_law_widened", none), "_law_widened", "_law_widened", defArgs (top 16), defBody (top 16), defScope (top 16)⟩
def d_9 : He.FnD := ⟨("_law_words", none), "_law_words", "_law_words", defArgs (top 9), defBody (top 9), defScope (top 9)⟩
def d_10 : He.FnD := ⟨("met_from", none), "met_from", "met_from", defArgs (top 4), defBody (top 4), defScope (top 4)⟩
def d_11 : He.FnD := ⟨("words_of", none), "words_of", "words_of", defArgs (top 1), defBody (top 1), defScope (top 1)⟩
def d_12 : He.FnD := ⟨("straight", none), "straight", "straight", defArgs (top 3), defBody (top 3), defScope (top 3)⟩
def d_13 : He.FnD := ⟨("rings", none), "rings", "rings", defArgs (top 5), defBody (top 5), defScope (top 5)⟩
def d_14 : He.FnD := ⟨("law", none), "law", "law", defArgs (top 17), defBody (top 17), defScope (top 17)⟩
def fn : List He.FnD := [d_0, d_1, d_2, d_3, d_4, d_5, d_6, d_7, d_8, d_9, d_10, d_11, d_12, d_13, d_14]
def fa : List He.Fa := [.glo "_law_all", .keep "_law_all", .glo "_law_beneath", .keep "_law_beneath", .glo "_law_draw", .keep "_law_draw", .glo "_law_lay", .keep "_law_lay", .glo "_law_row", .keep "_law_row", .glo "_law_source", .keep "_law_source", .glo "_law_book", .keep "_law_book", .glo "_law_same", .keep "_law_same", .glo "_law_widened", .keep "_law_widened", .glo "_law_words", .keep "_law_words", .glo "met_from", .keep "met_from", .glo "words_of", .keep "words_of", .glo "straight", .keep "straight", .glo "rings", .keep "rings", .glo "law", .keep "law", .free "len", .free "range", .free "sorted", .free "set", .free "tuple", .free "list", .free "all", .free "any", .free "sum", .free "max", .free "min", .free "str", .free "int", .free "dict", .free "repr", .free "isinstance", .free "zip", .free "enumerate", .free "reversed", .free "bool"]
abbrev R : PySem.W.OpenRow := PySem.W.OpenLaw.row PySem.Challenge.rw_primer_k32_rings
abbrev hk : PySem.W.Hook := hookM 4 fa fn (clB [])
def ob (s : PySem.W.SharedT) : He.Al × Bool := obsM 4 fa fn (clB []) (HandSHeadRun.getT s)
theorem ob_eq (s : PySem.W.SharedT) : ob s = hk.obs s.abs := obsM_eq (HandSHeadRun.getT_eq s)
def loose : List PySem.Str := (["words_of", "straight", "met_from", "rings", "_law_source", "_law_draw", "_law_words", "_law_row", "_law_lay", "_law_book", "_law_all", "_law_same", "_law_beneath", "_law_widened"] : List PySem.Str)
theorem run (w : World) : HandSHeadRun.RunEq R (PySem.W.view R.prog [17]) hk ob 2800 loose w := by
  intro os
  kernel_rfl
theorem facts {P : Program} {w : World} {K : PySem.W.Frag} {h : Heap} {mg : Str → Option Value} {f : Addr} (X : K.In h) (G : h.Ns mainGlobals mg) (hfa : mg ("law" : Str) = some (.ref f)) (cM : SaysM fa fn (clB []) K) :
    ∃ (fd : FuncData) (ca : Nat → Addr), (∀ (s : Shared) (v : Value), BindsTo s fd ⟨[v], []⟩ [("_law_script", v)]) ∧ ∀ base : Heap, K.In base → base.Ns mainGlobals mg → EFn P w K mg base 6 f fd ["_law_script"] (spF ⟨P, w, K, ca⟩ 1 f_law_86) := by
  have c := cM.1
  have hX := clB_ok X G cM.2
  have hB : Blt mg := ⟨He.free_ok X G (c.fact 30 (f := .free "len") rfl), He.free_ok X G (c.fact 31 (f := .free "range") rfl), He.free_ok X G (c.fact 32 (f := .free "sorted") rfl), He.free_ok X G (c.fact 33 (f := .free "set") rfl), He.free_ok X G (c.fact 34 (f := .free "tuple") rfl), He.free_ok X G (c.fact 35 (f := .free "list") rfl), He.free_ok X G (c.fact 36 (f := .free "all") rfl), He.free_ok X G (c.fact 37 (f := .free "any") rfl), He.free_ok X G (c.fact 38 (f := .free "sum") rfl), He.free_ok X G (c.fact 39 (f := .free "max") rfl), He.free_ok X G (c.fact 40 (f := .free "min") rfl), He.free_ok X G (c.fact 41 (f := .free "str") rfl), He.free_ok X G (c.fact 42 (f := .free "int") rfl), He.free_ok X G (c.fact 43 (f := .free "dict") rfl), He.free_ok X G (c.fact 44 (f := .free "repr") rfl), He.free_ok X G (c.fact 45 (f := .free "isinstance") rfl), He.free_ok X G (c.fact 46 (f := .free "zip") rfl), He.free_ok X G (c.fact 47 (f := .free "enumerate") rfl), He.free_ok X G (c.fact 48 (f := .free "reversed") rfl), He.free_ok X G (c.fact 49 (f := .free "bool") rfl)⟩
  have m__law_all := He.glo_ok X G (c.fact 0 (f := .glo "_law_all") rfl)
  obtain ⟨_, _, _, _, _, _, _, _, _, l_0, q_0⟩ := c.def_ 0 (d := d_0) rfl
  have F__law_all : Fun K "_law_all" "_law_all" (top 13) (He.ga K "_law_all") _ := fun_mk l_0 q_0 (He.keep_ok (c.fact 1 (f := .keep "_law_all") rfl))
  have m__law_beneath := He.glo_ok X G (c.fact 2 (f := .glo "_law_beneath") rfl)
  obtain ⟨_, _, _, _, _, _, _, _, _, l_1, q_1⟩ := c.def_ 1 (d := d_1) rfl
  have F__law_beneath : Fun K "_law_beneath" "_law_beneath" (top 15) (He.ga K "_law_beneath") _ := fun_mk l_1 q_1 (He.keep_ok (c.fact 3 (f := .keep "_law_beneath") rfl))
  have m__law_draw := He.glo_ok X G (c.fact 4 (f := .glo "_law_draw") rfl)
  obtain ⟨_, _, _, _, _, _, _, _, _, l_2, q_2⟩ := c.def_ 2 (d := d_2) rfl
  have F__law_draw : Fun K "_law_draw" "_law_draw" (top 8) (He.ga K "_law_draw") _ := fun_mk l_2 q_2 (He.keep_ok (c.fact 5 (f := .keep "_law_draw") rfl))
  have m__law_lay := He.glo_ok X G (c.fact 6 (f := .glo "_law_lay") rfl)
  obtain ⟨_, _, _, _, _, _, _, _, _, l_3, q_3⟩ := c.def_ 3 (d := d_3) rfl
  have F__law_lay : Fun K "_law_lay" "_law_lay" (top 11) (He.ga K "_law_lay") _ := fun_mk l_3 q_3 (He.keep_ok (c.fact 7 (f := .keep "_law_lay") rfl))
  have m__law_row := He.glo_ok X G (c.fact 8 (f := .glo "_law_row") rfl)
  obtain ⟨_, _, _, _, _, _, _, _, _, l_4, q_4⟩ := c.def_ 4 (d := d_4) rfl
  have F__law_row : Fun K "_law_row" "_law_row" (top 10) (He.ga K "_law_row") _ := fun_mk l_4 q_4 (He.keep_ok (c.fact 9 (f := .keep "_law_row") rfl))
  have m__law_source := He.glo_ok X G (c.fact 10 (f := .glo "_law_source") rfl)
  obtain ⟨_, _, _, _, _, _, _, _, _, l_5, q_5⟩ := c.def_ 5 (d := d_5) rfl
  have F__law_source : Fun K "_law_source" "_law_source" (top 7) (He.ga K "_law_source") _ := fun_mk l_5 q_5 (He.keep_ok (c.fact 11 (f := .keep "_law_source") rfl))
  have m__law_book := He.glo_ok X G (c.fact 12 (f := .glo "_law_book") rfl)
  obtain ⟨_, _, _, _, _, _, _, _, _, l_6, q_6⟩ := c.def_ 6 (d := d_6) rfl
  have F__law_book : Fun K "_law_book" "_law_book" (top 12) (He.ga K "_law_book") _ := fun_mk l_6 q_6 (He.keep_ok (c.fact 13 (f := .keep "_law_book") rfl))
  have m__law_same := He.glo_ok X G (c.fact 14 (f := .glo "_law_same") rfl)
  obtain ⟨_, _, _, _, _, _, _, _, _, l_7, q_7⟩ := c.def_ 7 (d := d_7) rfl
  have F__law_same : Fun K "_law_same" "_law_same" (top 14) (He.ga K "_law_same") _ := fun_mk l_7 q_7 (He.keep_ok (c.fact 15 (f := .keep "_law_same") rfl))
  have m__law_widened := He.glo_ok X G (c.fact 16 (f := .glo "_law_widened") rfl)
  obtain ⟨_, _, _, _, _, _, _, _, _, l_8, q_8⟩ := c.def_ 8 (d := d_8) rfl
  have F__law_widened : Fun K "_law_widened" "_law_widened" (top 16) (He.ga K "_law_widened") _ := fun_mk l_8 q_8 (He.keep_ok (c.fact 17 (f := .keep "_law_widened") rfl))
  have m__law_words := He.glo_ok X G (c.fact 18 (f := .glo "_law_words") rfl)
  obtain ⟨_, _, _, _, _, _, _, _, _, l_9, q_9⟩ := c.def_ 9 (d := d_9) rfl
  have F__law_words : Fun K "_law_words" "_law_words" (top 9) (He.ga K "_law_words") _ := fun_mk l_9 q_9 (He.keep_ok (c.fact 19 (f := .keep "_law_words") rfl))
  have m_met_from := He.glo_ok X G (c.fact 20 (f := .glo "met_from") rfl)
  obtain ⟨_, _, _, _, _, _, _, _, _, l_10, q_10⟩ := c.def_ 10 (d := d_10) rfl
  have F_met_from : Fun K "met_from" "met_from" (top 4) (He.ga K "met_from") _ := fun_mk l_10 q_10 (He.keep_ok (c.fact 21 (f := .keep "met_from") rfl))
  have m_words_of := He.glo_ok X G (c.fact 22 (f := .glo "words_of") rfl)
  obtain ⟨_, _, _, _, _, _, _, _, _, l_11, q_11⟩ := c.def_ 11 (d := d_11) rfl
  have F_words_of : Fun K "words_of" "words_of" (top 1) (He.ga K "words_of") _ := fun_mk l_11 q_11 (He.keep_ok (c.fact 23 (f := .keep "words_of") rfl))
  have m_straight := He.glo_ok X G (c.fact 24 (f := .glo "straight") rfl)
  obtain ⟨_, _, _, _, _, _, _, _, _, l_12, q_12⟩ := c.def_ 12 (d := d_12) rfl
  have F_straight : Fun K "straight" "straight" (top 3) (He.ga K "straight") _ := fun_mk l_12 q_12 (He.keep_ok (c.fact 25 (f := .keep "straight") rfl))
  have m_rings := He.glo_ok X G (c.fact 26 (f := .glo "rings") rfl)
  obtain ⟨_, _, _, _, _, _, _, _, _, l_13, q_13⟩ := c.def_ 13 (d := d_13) rfl
  have F_rings : Fun K "rings" "rings" (top 5) (He.ga K "rings") _ := fun_mk l_13 q_13 (He.keep_ok (c.fact 27 (f := .keep "rings") rfl))
  have m_law := He.glo_ok X G (c.fact 28 (f := .glo "law") rfl)
  obtain ⟨_, _, _, _, _, _, _, _, _, l_14, q_14⟩ := c.def_ 14 (d := d_14) rfl
  have F_law : Fun K "law" "law" (top 17) (He.ga K "law") _ := fun_mk l_14 q_14 (He.keep_ok (c.fact 29 (f := .keep "law") rfl))
  rw [m_law] at hfa
  cases hfa
  refine ⟨_, caOf K, F_law.binds1 fun _ _ _ _ _ _ us hl => match us, hl with | [_], _ => rfl, fun base hb hg => ?_⟩
  have c__law_all := ok__law_all (P := P) (w := w) (base := base) (ca := caOf K) F__law_all m__law_all hB
  have c__law_beneath := ok__law_beneath (P := P) (w := w) (base := base) (ca := caOf K) F__law_beneath m__law_beneath hB
  have c__law_draw := ok__law_draw (P := P) (w := w) (base := base) (ca := caOf K) F__law_draw m__law_draw hB
  have c__law_lay := ok__law_lay (P := P) (w := w) (base := base) (ca := caOf K) F__law_lay m__law_lay hB
  have c__law_row := ok__law_row (P := P) (w := w) (base := base) (ca := caOf K) F__law_row m__law_row hB (c__law_draw.mono (by decide))
  have c__law_source := ok__law_source (P := P) (w := w) (base := base) (ca := caOf K) F__law_source m__law_source hB
  have c__law_book := ok__law_book (P := P) (w := w) (base := base) (ca := caOf K) F__law_book m__law_book hB (c__law_draw.mono (by decide)) (c__law_lay.mono (by decide)) (c__law_row.mono (by decide)) (c__law_source.mono (by decide))
  have c__law_same : Callee P w K mg base (caOf K) 1 "_law_same" 2 f_l_same_d0 := callee_stuck (ps := ["_law_found", "_law_due"]) rfl F__law_same.kp (F__law_same.binds fun _ _ _ _ _ _ us hl => match us, hl with | [_, _], _ => rfl) m__law_same
  have c__law_same := ok__law_same_d1 (P := P) (w := w) (base := base) (ca := caOf K) F__law_same m__law_same hB (c__law_same.mono (by decide))
  have c__law_same := ok__law_same_d2 (P := P) (w := w) (base := base) (ca := caOf K) F__law_same m__law_same hB (c__law_same.mono (by decide))
  have c__law_same := ok__law_same_d3 (P := P) (w := w) (base := base) (ca := caOf K) F__law_same m__law_same hB (c__law_same.mono (by decide))
  have c__law_same := ok__law_same_d4 (P := P) (w := w) (base := base) (ca := caOf K) F__law_same m__law_same hB (c__law_same.mono (by decide))
  have c__law_widened := ok__law_widened (P := P) (w := w) (base := base) (ca := caOf K) F__law_widened m__law_widened hB (c__law_draw.mono (by decide)) (c__law_all.mono (by decide))
  have c__law_words := ok__law_words (P := P) (w := w) (base := base) (ca := caOf K) F__law_words m__law_words hB (c__law_draw.mono (by decide))
  have c_met_from := ok_met_from (P := P) (w := w) (base := base) (ca := caOf K) F_met_from m_met_from hB
  have c_words_of := ok_words_of (P := P) (w := w) (base := base) (ca := caOf K) F_words_of m_words_of hB
  have c_straight := ok_straight (P := P) (w := w) (base := base) (ca := caOf K) F_straight m_straight hB (c_words_of.mono (by decide))
  have c_rings := ok_rings (P := P) (w := w) (base := base) (ca := caOf K) F_rings m_rings hB (c_straight.mono (by decide)) (c_met_from.mono (by decide))
  exact ok_law F_law hB (c__law_source.mono (by decide)) (c__law_widened.mono (by decide)) (c__law_book.mono (by decide)) (c__law_words.mono (by decide)) (c__law_all.mono (by decide)) (c__law_beneath.mono (by decide)) (c_rings.mono (by decide)) (c__law_same.mono (by decide))
end Eng
open PySem PySem.W PySem.Calls PyProof.Rows
theorem Eng.answer (ns : List Int) (_ : ns.length ≤ 63) : ∃ fin, Eng.f_law_86 [.scr ns] = .ret (.val (.bool true)) fin := Eng.answer32 ns
set_option maxHeartbeats 0 in
theorem PySem.Challenge.cw_primer_k32_rings_holds : PySem.Challenge.rw_primer_k32_rings.Holds := by
  w_on; o_law
  refine HandSHeadRun.head_any (r := OpenLaw.row PySem.Challenge.rw_primer_k32_rings) (q := view (OpenLaw.row PySem.Challenge.rw_primer_k32_rings).prog [17]) (H := Eng.hk) (ob := Eng.ob) (M := 2800) (loose := Eng.loose) (d := HandSHeadRun.topDef (OpenLaw.row PySem.Challenge.rw_primer_k32_rings).prog 17) (kwd := []) Eng.ob_eq
    (by kernel_rfl) (fun s => by kernel_rfl) Eng.run (by kernel_rfl) (by kernel_rfl) (by kernel_rfl) (by rfl) (by first | assumption | decide +kernel) (by decide +kernel) ⟨rfl, rfl, rfl, rfl, rfl, by decide +kernel⟩ ?hw ?hc
  case hw => w_witness2
  case hc =>
    refine Eng.walk_law (l := PySem.Challenge.rw_primer_k32_rings) (n := 63) (k := 6) (x := "_law_script") rfl (by decide) (by kernel_rfl) ⟨rfl, by decide, by decide⟩ ?F Eng.answer
    intro w mg fa h Y G hmg0
    obtain ⟨K, KX, c⟩ := Y
    have hmg : mg ("law" : PySem.Str) = some (.ref fa) := by
      have e : (HandSHeadRun.topDef (OpenLaw.row PySem.Challenge.rw_primer_k32_rings).prog 17).name = ("law" : PySem.Str) := by kernel_rfl
      rw [← e]
      exact hmg0
    obtain ⟨fd, ca, hb, hF⟩ := Eng.facts (P := (PySem.Challenge.rw_primer_k32_rings).prog) (w := w) KX G hmg c
    exact ⟨K, fd, ca, KX, hb, hF⟩
