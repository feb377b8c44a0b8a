import PyProof.Rows.All
import Wide.All
import OpenK.AllK
import Wide.FinOn
import HandS.ForMost
import HandS.Wide
import HandS.TupAny
import HandS.Conv
import HandS.Style
import HandS.Exc
import HandS.WordsExc
import KE.KStateDown
import HandS.Head0
import HandS.Head1
import HandS.Head2
import HandS.HeadEnd
import HandS.HeadHook1
import HandS.HeadHook2
import HandS.HeadHook3
import HandS.IsInst
import HandS.Flow
import HandS.Deep
import HandS.Dict
import HandS.More
import HandS.SetFor
import HandS.Strs
import HandS.Defaults
import PySem.Challenge.RW_papersums_k51_whole_rests_and_digits_jud
set_option Elab.async false
set_option linter.all false
set_option maxRecDepth 100000
/-! Val: a logic of values over the hand layer: data, heaps that keep, slots. -/
namespace VL
open PySem PySem.Spec PyProof.Rows L2

inductive D where
  | non | bl (b : Bool) | int (i : Int) | str (s : Str) | lst (ds : List D) | tup (ds : List D) | obj (a : Addr) | frz (ns : List Int)

/-- a list that is read: tracked and not forbidden -/
def Ls (H : Hp) (Z : Addr → Prop) (a : Addr) (xs : List V) : Prop := ¬ Z a ∧ H a = some (.lst xs)
theorem Ls.sq {K : PySem.W.Frag} {H : Hp} {Z : Addr → Prop} {a : Addr} {xs : List V} (h : Ls H Z a xs) : SqL K H a xs := .inl (.inl h.2)
/-- a list that never changes -/
def SqF (K : PySem.W.Frag) (H : Hp) (a : Addr) (xs : List V) : Prop := (∃ o, H a = some (.frz o (.lst xs))) ∨
  ∃ (o : Obj) (its : Array Value) (n : Nat), K.lookup a = some o ∧ o.cls = .type "list" ∧ o.dict = none ∧ o.data = .seq its n ∧ its.size ≤ sizeLine ∧ Vals xs its.toList
theorem SqF.sq {K : PySem.W.Frag} {H : Hp} {a : Addr} {xs : List V} (h : SqF K H a xs) : SqL K H a xs := by
  rcases h with ⟨o, h⟩ | h
  · exact .inl (.inr ⟨o, h⟩)
  · exact .inr h

mutual
/-- the value v is the data d; no list of it stands at a place of Z -/
inductive Rp (K : PySem.W.Frag) (H : Hp) (Z : Addr → Prop) : D → V → Prop
  | non : Rp K H Z .non .non
  | bl (b : Bool) : Rp K H Z (.bl b) (.bl b)
  | int (i : Int) : Rp K H Z (.int i) (.int i)
  | str (s : Str) : Rp K H Z (.str s) (.str s)
  | obj (a : Addr) : Rp K H Z (.obj a) (.ref a)
  | frz {a : Addr} {ns : List Int} : SqF K H a (ns.map V.int) → Rp K H Z (.frz ns) (.ref a)
  | lst {a : Addr} {xs : List V} {ds : List D} : Ls H Z a xs → RpA K H Z ds xs → Rp K H Z (.lst ds) (.ref a)
  | tup {a : Addr} {xs : List V} {ds : List D} : SqT K H a xs → RpA K H Z ds xs → Rp K H Z (.tup ds) (.ref a)
inductive RpA (K : PySem.W.Frag) (H : Hp) (Z : Addr → Prop) : List D → List V → Prop
  | nil : RpA K H Z [] []
  | cons {d : D} {ds : List D} {v : V} {vs : List V} : Rp K H Z d v → RpA K H Z ds vs → RpA K H Z (d :: ds) (v :: vs)
end

mutual
/-- no list stands in it -/
def D.lf : D → Bool
  | .lst _ => false
  | .tup ds => D.lfs ds
  | _ => true
def D.lfs : List D → Bool
  | [] => true
  | d :: ds => d.lf && D.lfs ds
end
theorem lfs_all : ∀ ds : List D, D.lfs ds = ds.all D.lf
  | [] => by simp [D.lfs]
  | d :: ds => by simp [D.lfs, lfs_all ds]

section
variable {K : PySem.W.Frag} {H H' : Hp} {Z Z' : Addr → Prop}
mutual
theorem Rp.to (f : ∀ a xs, Ls H Z a xs → Ls H' Z' a xs) (g : ∀ a xs, SqT K H a xs → SqT K H' a xs) (g2 : ∀ a xs, SqF K H a xs → SqF K H' a xs) : ∀ (d : D) (v : V), Rp K H Z d v → Rp K H' Z' d v
  | .non, _, h => by cases h; exact .non
  | .bl b, _, h => by cases h; exact .bl b
  | .int i, _, h => by cases h; exact .int i
  | .str s, _, h => by cases h; exact .str s
  | .obj a, _, h => by cases h; exact .obj a
  | .frz ns, _, h => by
    cases h with
    | frz h => exact .frz (g2 _ _ h)
  | .lst ds, _, h => by
    cases h with
    | lst h1 h2 => exact .lst (f _ _ h1) (RpA.to f g g2 ds _ h2)
  | .tup ds, _, h => by
    cases h with
    | tup h1 h2 => exact .tup (g _ _ h1) (RpA.to f g g2 ds _ h2)
theorem RpA.to (f : ∀ a xs, Ls H Z a xs → Ls H' Z' a xs) (g : ∀ a xs, SqT K H a xs → SqT K H' a xs) (g2 : ∀ a xs, SqF K H a xs → SqF K H' a xs) : ∀ (ds : List D) (vs : List V), RpA K H Z ds vs → RpA K H' Z' ds vs
  | [], _, h => by cases h; exact .nil
  | d :: ds, _, h => by
    cases h with
    | cons h1 h2 => exact .cons (Rp.to f g g2 d _ h1) (RpA.to f g g2 ds _ h2)
end
mutual
theorem Rp.flat (g : ∀ a xs, SqT K H a xs → SqT K H' a xs) (g2 : ∀ a xs, SqF K H a xs → SqF K H' a xs) : ∀ (d : D) (v : V), d.lf = true → Rp K H Z d v → Rp K H' Z' d v
  | .non, _, _, h => by cases h; exact .non
  | .bl b, _, _, h => by cases h; exact .bl b
  | .int i, _, _, h => by cases h; exact .int i
  | .str s, _, _, h => by cases h; exact .str s
  | .obj a, _, _, h => by cases h; exact .obj a
  | .frz ns, _, _, h => by
    cases h with
    | frz h => exact .frz (g2 _ _ h)
  | .lst ds, _, e, h => by simp [D.lf] at e
  | .tup ds, _, e, h => by
    cases h with
    | tup h1 h2 => exact .tup (g _ _ h1) (RpA.flat g g2 ds _ (by simpa [D.lf] using e) h2)
theorem RpA.flat (g : ∀ a xs, SqT K H a xs → SqT K H' a xs) (g2 : ∀ a xs, SqF K H a xs → SqF K H' a xs) : ∀ (ds : List D) (vs : List V), D.lfs ds = true → RpA K H Z ds vs → RpA K H' Z' ds vs
  | [], _, _, h => by cases h; exact .nil
  | d :: ds, _, e, h => by
    have e2 : d.lf = true ∧ D.lfs ds = true := by simpa [D.lfs] using e
    cases h with
    | cons h1 h2 => exact .cons (Rp.flat g g2 d _ e2.1 h1) (RpA.flat g g2 ds _ e2.2 h2)
end
theorem Rp.anti (h : ∀ a, Z' a → Z a) {d : D} {v : V} (r : Rp K H Z d v) : Rp K H Z' d v :=
  Rp.to (fun a xs q => ⟨fun z => q.1 (h a z), q.2⟩) (fun _ _ q => q) (fun _ _ q => q) d v r
theorem RpA.anti (h : ∀ a, Z' a → Z a) {d : List D} {v : List V} (r : RpA K H Z d v) : RpA K H Z' d v :=
  RpA.to (fun a xs q => ⟨fun z => q.1 (h a z), q.2⟩) (fun _ _ q => q) (fun _ _ q => q) d v r
theorem RpA.len : ∀ {ds : List D} {vs : List V}, RpA K H Z ds vs → ds.length = vs.length
  | [], _, h => by cases h; rfl
  | d :: ds, _, h => by
    cases h with
    | cons _ h2 => rw [List.length_cons, List.length_cons, h2.len]
theorem RpA.get : ∀ {ds : List D} {vs : List V} {i : Nat} {d : D}, RpA K H Z ds vs → ds[i]? = some d → ∃ v, vs[i]? = some v ∧ Rp K H Z d v
  | [], _, i, d, h, e => by simp at e
  | c :: ds, _, 0, d, h, e => by
    cases h with
    | cons h1 h2 =>
      have e2 : c = d := by simpa using e
      subst e2
      exact ⟨_, rfl, h1⟩
  | c :: ds, _, i + 1, d, h, e => by
    cases h with
    | cons h1 h2 =>
      obtain ⟨v, h3, h4⟩ := h2.get (i := i) (d := d) (by simpa using e)
      exact ⟨v, by simpa using h3, h4⟩
theorem RpA.getV : ∀ {ds : List D} {vs : List V} {i : Nat} {v : V}, RpA K H Z ds vs → vs[i]? = some v → ∃ d, ds[i]? = some d ∧ Rp K H Z d v := fun {ds vs i v} h e => by
  have hl := h.len
  obtain ⟨hi, _⟩ := List.getElem?_eq_some_iff.mp e
  obtain ⟨w, h1, h2⟩ := h.get (List.getElem?_eq_getElem (show i < ds.length by omega))
  rw [e] at h1
  cases h1
  exact ⟨_, List.getElem?_eq_getElem _, h2⟩
theorem RpA.app : ∀ {ds es : List D} {vs ws : List V}, RpA K H Z ds vs → RpA K H Z es ws → RpA K H Z (ds ++ es) (vs ++ ws)
  | [], _, _, _, h, k => by cases h; exact k
  | d :: ds, _, _, _, h, k => by
    cases h with
    | cons h1 h2 => exact .cons h1 (h2.app k)
theorem RpA.set : ∀ {ds : List D} {vs : List V} {d : D} {v : V} (i : Nat), RpA K H Z ds vs → Rp K H Z d v → RpA K H Z (ds.set i d) (vs.set i v)
  | [], _, _, _, _, h, _ => by cases h; exact .nil
  | c :: ds, _, _, _, 0, h, k => by
    cases h with
    | cons h1 h2 => exact .cons k h2
  | c :: ds, _, _, _, i + 1, h, k => by
    cases h with
    | cons h1 h2 => exact .cons h1 (h2.set i k)
theorem RpA.take : ∀ {ds : List D} {vs : List V} (n : Nat), RpA K H Z ds vs → RpA K H Z (ds.take n) (vs.take n)
  | _, _, 0, _ => .nil
  | [], _, n + 1, h => by cases h; exact .nil
  | d :: ds, _, n + 1, h => by
    cases h with
    | cons h1 h2 => exact .cons h1 (h2.take n)
theorem RpA.drop : ∀ {ds : List D} {vs : List V} (n : Nat), RpA K H Z ds vs → RpA K H Z (ds.drop n) (vs.drop n)
  | _, _, 0, h => h
  | [], _, n + 1, h => by cases h; exact .nil
  | d :: ds, _, n + 1, h => by
    cases h with
    | cons h1 h2 => exact h2.drop n
theorem RpA.rev : ∀ {ds : List D} {vs : List V}, RpA K H Z ds vs → RpA K H Z ds.reverse vs.reverse
  | [], _, h => by cases h; exact .nil
  | d :: ds, _, h => by
    cases h with
    | cons h1 h2 =>
      rw [List.reverse_cons, List.reverse_cons]
      exact h2.rev.app (.cons h1 .nil)
theorem RpA.snoc {ds : List D} {vs : List V} {d : D} {v : V} (h : RpA K H Z ds vs) (k : Rp K H Z d v) : RpA K H Z (ds ++ [d]) (vs ++ [v]) := h.app (.cons k .nil)
theorem RpA.rep {ds : List D} {vs : List V} (h : RpA K H Z ds vs) : ∀ n : Nat, RpA K H Z (List.replicate n ds).flatten (List.replicate n vs).flatten
  | 0 => .nil
  | n + 1 => by
    rw [List.replicate_succ, List.replicate_succ, List.flatten_cons, List.flatten_cons]
    exact h.app (h.rep n)
theorem RpA.ints : ∀ {ns : List Int} {vs : List V}, RpA K H Z (ns.map D.int) vs → vs = ns.map V.int
  | [], _, h => by cases h; rfl
  | n :: ns, _, h => by
    cases h with
    | cons h1 h2 =>
      cases h1
      rw [h2.ints, List.map_cons]
theorem RpA.of_ints : ∀ ns : List Int, RpA K H Z (ns.map D.int) (ns.map V.int)
  | [] => .nil
  | n :: ns => .cons (.int n) (RpA.of_ints ns)
theorem RpA.bls : ∀ {ns : List Bool} {vs : List V}, RpA K H Z (ns.map D.bl) vs → vs = ns.map V.bl
  | [], _, h => by cases h; rfl
  | n :: ns, _, h => by
    cases h with
    | cons h1 h2 =>
      cases h1
      rw [h2.bls, List.map_cons]
end

/-! ### heaps that keep -/
/-- what never changes -/
def Imm : HO → Prop
  | .tup _ => True
  | .frz _ _ => True
  | _ => False
/-- all but what stands at Z is kept -/
structure Kp (Z : Addr → Prop) (H H' : Hp) : Prop where
  keep : ∀ a o, H a = some o → (Z a → Imm o) → H' a = some o
  dom : ∀ a, H a ≠ none → H' a ≠ none
theorem Kp.refl {Z : Addr → Prop} {H : Hp} : Kp Z H H := ⟨fun _ _ h _ => h, fun _ h => h⟩
theorem Kp.trans {Z : Addr → Prop} {H H1 H2 : Hp} (a : Kp Z H H1) (b : Kp Z H1 H2) : Kp Z H H2 :=
  ⟨fun x o h k => b.keep x o (a.keep x o h k) k, fun x h => b.dom x (a.dom x h)⟩
theorem Kp.of {Z : Addr → Prop} {H H' : Hp} (e : Same H H') : Kp Z H H' := ⟨fun a o h _ => e a o h, fun a h z => h (e.free z)⟩
theorem Kp.mono {Z Z' : Addr → Prop} {H H' : Hp} (k : Kp Z H H') (h : ∀ a, H a ≠ none → Z a → Z' a) : Kp Z' H H' := ⟨fun a o e i => k.keep a o e fun z => i (h a (by rw [e]; intro q; cases q) z), k.dom⟩
theorem Kp.tup {Z : Addr → Prop} {K : PySem.W.Frag} {H H' : Hp} (k : Kp Z H H') {a : Addr} {xs : List V} (h : SqT K H a xs) : SqT K H' a xs := by
  rcases h with (h | ⟨o, h⟩) | h
  · exact .inl (.inl (k.keep _ _ h fun _ => trivial))
  · exact .inl (.inr ⟨o, k.keep _ _ h fun _ => trivial⟩)
  · exact .inr h
/-- fresh ahead is fresh behind -/
theorem Kp.fresh {Z : Addr → Prop} {H H' : Hp} (k : Kp Z H H') {a : Addr} (h : H' a = none) : H a = none := by
  cases q : H a with
  | none => rfl
  | some o => exact absurd h (k.dom a (by rw [q]; intro z; cases z))
theorem Same.new {H : Hp} {p : Addr} {o : HO} (h : H p = none) : Same H (upd H p o) := fun a u e => by
  rw [upd_ne (ne_of_none e h)]
  exact e
/-- a change at a tracked place of Z -/
theorem Kp.put {Z : Addr → Prop} {H : Hp} {p : Addr} {o o' : HO} (z : Z p) (h : H p = some o) (n : ¬ Imm o) : Kp Z H (upd H p o') := by
  refine ⟨fun a u e i => ?_, fun a e => ?_⟩
  · by_cases q : a = p
    · subst q
      rw [h] at e
      cases e
      exact absurd (i z) n
    · rw [upd_ne q]
      exact e
  · by_cases q : a = p
    · subst q
      rw [upd_same]
      intro z
      cases z
    · rw [upd_ne q]
      exact e
theorem some_ne {H : Hp} {a : Addr} {o : HO} (h : H a = some o) : H a ≠ none := by
  rw [h]
  intro z
  cases z
theorem Kp.frz {Z : Addr → Prop} {K : PySem.W.Frag} {H H' : Hp} (k : Kp Z H H') {a : Addr} {xs : List V} (h : SqF K H a xs) : SqF K H' a xs := by
  rcases h with ⟨o, h⟩ | h
  · exact .inl ⟨o, k.keep _ _ h fun _ => trivial⟩
  · exact .inr h
theorem Ls.kp {Z Y Y' : Addr → Prop} {H H' : Hp} (k : Kp Z H H') (hz : ∀ a, Z a → Y a) (hy : ∀ a, H a ≠ none → Y' a → Y a) {a : Addr} {xs : List V} (h : Ls H Y a xs) : Ls H' Y' a xs :=
  ⟨fun q => h.1 (hy a (some_ne h.2) q), k.keep a _ h.2 fun q => absurd (hz a q) h.1⟩
theorem Rp.kp {K : PySem.W.Frag} {Z Y Y' : Addr → Prop} {H H' : Hp} (k : Kp Z H H') (hz : ∀ a, Z a → Y a) (hy : ∀ a, H a ≠ none → Y' a → Y a) {d : D} {v : V} (h : Rp K H Y d v) : Rp K H' Y' d v :=
  Rp.to (fun _ _ q => Ls.kp k hz hy q) (fun _ _ q => k.tup q) (fun _ _ q => k.frz q) d v h
theorem RpA.kp {K : PySem.W.Frag} {Z Y Y' : Addr → Prop} {H H' : Hp} (k : Kp Z H H') (hz : ∀ a, Z a → Y a) (hy : ∀ a, H a ≠ none → Y' a → Y a) {d : List D} {v : List V} (h : RpA K H Y d v) : RpA K H' Y' d v :=
  RpA.to (fun _ _ q => Ls.kp k hz hy q) (fun _ _ q => k.tup q) (fun _ _ q => k.frz q) d v h

/-! ### ghosts: what objects of the program's own say -/
structure Gh (G : Type) where
  fp : G → Addr → Prop
  ok : G → Hp → Prop
  dom : ∀ {g : G} {H : Hp} {a : Addr}, ok g H → fp g a → H a ≠ none
  loc : ∀ {g : G} {H H' : Hp}, ok g H → (∀ a o, H a = some o → (fp g a ∨ Imm o) → H' a = some o) → ok g H'
section
variable {G : Type} (gh : Gh G)
/-- from one state to another: the ghost's places alone may change -/
structure Stp (g : G) (H : Hp) (g' : G) (H' : Hp) : Prop where
  kp : Kp (gh.fp g) H H'
  ok : gh.ok g' H'
  fp : ∀ a, gh.fp g' a → gh.fp g a ∨ H a = none
end
section
variable {G : Type} {gh : Gh G}
theorem Gh.same {g : G} {H H' : Hp} (o : gh.ok g H) (e : Same H H') : gh.ok g H' := gh.loc o fun a u h _ => e a u h
theorem Gh.put {g : G} {H : Hp} {p : Addr} {xs ys : List V} (o : gh.ok g H) (h : H p = some (.lst xs)) (f : ¬ gh.fp g p) : gh.ok g (upd H p (.lst ys)) := gh.loc o fun a u e i => by
  have ne : a ≠ p := fun z => by
    subst z
    rw [h] at e
    cases e
    rcases i with i | i
    · exact f i
    · exact i
  rw [upd_ne ne]
  exact e
theorem Stp.refl {g : G} {H : Hp} (o : gh.ok g H) : Stp gh g H g H := ⟨.refl, o, fun _ h => .inl h⟩
theorem Stp.of {g : G} {H H' : Hp} (o : gh.ok g H) (e : Same H H') : Stp gh g H g H' := ⟨.of e, Gh.same o e, fun _ h => .inl h⟩
theorem Stp.trans {g g1 g2 : G} {H H1 H2 : Hp} (a : Stp gh g H g1 H1) (b : Stp gh g1 H1 g2 H2) : Stp gh g H g2 H2 := by
  refine ⟨⟨fun x o h k => b.kp.keep x o (a.kp.keep x o h k) fun z => ?_, fun x h => b.kp.dom x (a.kp.dom x h)⟩, b.ok, fun x h => ?_⟩
  · rcases a.fp x z with q | q
    · exact k q
    · rw [h] at q
      cases q
  · rcases b.fp x h with q | q
    · exact a.fp x q
    · exact .inr (a.kp.fresh q)
theorem Stp.then {g g1 : G} {H H1 H2 : Hp} (a : Stp gh g H g1 H1) (e : Same H1 H2) : Stp gh g H g1 H2 := a.trans (.of a.ok e)
end

/-! ### cells: the mutable things that a program points at -/
inductive Cell where
  | lst (ds : List D)
  | ins (c : Str) (dx : Addr) (fs : List (Str × D))
  | dct (kvs : List (Str × D))
abbrev G : Type := Addr → Option Cell
def CellOk (K : PySem.W.Frag) (mg : Str → Option Value) (H : Hp) (a : Addr) : Cell → Prop
  | .lst ds => D.lfs ds = true ∧ ∃ xs : List V, H a = some (.lst xs) ∧ RpA K H (fun _ => True) ds xs
  | .ins c dx fs => D.lfs (fs.map (·.2)) = true ∧ ∃ (Cl : Addr) (vs : List (Str × V)), mg c = some (.ref Cl) ∧ H a = some (.ins Cl dx vs) ∧ vs.map (·.1) = fs.map (·.1) ∧ RpA K H (fun _ => True) (fs.map (·.2)) (vs.map (·.2))
  | .dct kvs => D.lfs (kvs.map (·.2)) = true ∧ ∃ vs : List (Key × V), H a = some (.dK vs) ∧ vs.map (·.1) = kvs.map (fun x => Sum.inr x.1) ∧ RpA K H (fun _ => True) (kvs.map (·.2)) (vs.map (·.2))
theorem flatK {K : PySem.W.Frag} {H H' : Hp} {Z Z' : Addr → Prop} {ds : List D} {vs : List V} (k : ∀ a o, H a = some o → Imm o → H' a = some o) (f : D.lfs ds = true) (r : RpA K H Z ds vs) : RpA K H' Z' ds vs := by
  refine RpA.flat (fun a xs q => ?_) (fun a xs q => ?_) ds vs f r
  · rcases q with (q | ⟨o, q⟩) | q
    · exact .inl (.inl (k _ _ q trivial))
    · exact .inl (.inr ⟨o, k _ _ q trivial⟩)
    · exact .inr q
  · rcases q with ⟨o, q⟩ | q
    · exact .inl ⟨o, k _ _ q trivial⟩
    · exact .inr q
theorem CellOk.to {K : PySem.W.Frag} {mg : Str → Option Value} {H H' : Hp} {a : Addr} {c : Cell} (k : ∀ b o, H b = some o → Imm o → H' b = some o) (e : ∀ o, H a = some o → H' a = some o) (h : CellOk K mg H a c) : CellOk K mg H' a c := by
  cases c with
  | lst ds =>
    obtain ⟨f, xs, h1, h2⟩ := h
    exact ⟨f, xs, e _ h1, flatK k f h2⟩
  | ins c dx fs =>
    obtain ⟨f, Cl, vs, h1, h2, h3, h4⟩ := h
    exact ⟨f, Cl, vs, h1, e _ h2, h3, flatK k f h4⟩
  | dct kvs =>
    obtain ⟨f, vs, h1, h2, h3⟩ := h
    exact ⟨f, vs, e _ h1, h2, flatK k f h3⟩
theorem CellOk.some {K : PySem.W.Frag} {mg : Str → Option Value} {H : Hp} {a : Addr} {c : Cell} (h : CellOk K mg H a c) : ∃ o, H a = some o ∧ ¬ Imm o := by
  cases c with
  | lst ds =>
    obtain ⟨f, xs, h1, h2⟩ := h
    exact ⟨_, h1, fun z => z⟩
  | ins c dx fs =>
    obtain ⟨f, Cl, vs, h1, h2, h3, h4⟩ := h
    exact ⟨_, h2, fun z => z⟩
  | dct kvs =>
    obtain ⟨f, vs, h1, h2, h3⟩ := h
    exact ⟨_, h1, fun z => z⟩
def ghK (K : PySem.W.Frag) (mg : Str → Option Value) : Gh G where
  fp g a := g a ≠ none
  ok g H := ∀ a c, g a = some c → CellOk K mg H a c
  dom := fun {g H a} o f => by
    cases q : g a with
    | none => exact absurd q f
    | some c =>
      obtain ⟨u, h, _⟩ := (o a c q).some
      exact some_ne h
  loc := fun {g H H'} o k a c q => (o a c q).to (fun b u e i => k b u e (.inr i)) fun u e => k a u e (.inl fun z => by rw [q] at z; cases z)
def G.put (g : G) (a : Addr) (c : Cell) : G := fun b => if b = a then some c else g b
theorem G.put_at {g : G} {a : Addr} {c : Cell} : (g.put a c) a = some c := if_pos rfl
theorem G.put_ne {g : G} {a b : Addr} {c : Cell} (h : b ≠ a) : (g.put a c) b = g b := if_neg h
/-- a change at a place: the new one must be so behind -/
theorem ghK_put {K : PySem.W.Frag} {mg : Str → Option Value} {g : G} {H : Hp} {a : Addr} {c : Cell} {u : HO} (o : (ghK K mg).ok g H) (hc : g a ≠ none ∨ H a = none) (h : CellOk K mg (upd H a u) a c) : Stp (ghK K mg) g H (g.put a c) (upd H a u) := by
  have na : ∀ b q, H b = some q → Imm q → b ≠ a := fun b q e i z => by
    subst z
    rcases hc with hc | hc
    · cases w : g b with
      | none => exact hc w
      | some c0 =>
        obtain ⟨u0, e0, n0⟩ := (o b c0 w).some
        rw [e] at e0
        cases e0
        exact n0 i
    · rw [e] at hc
      cases hc
  refine ⟨⟨fun b q e i => ?_, fun b e => ?_⟩, fun b c' e => ?_, fun b e => ?_⟩
  · have ne : b ≠ a := fun z => by
      subst z
      rcases hc with hc | hc
      · exact na b q e (i hc) rfl
      · rw [e] at hc
        cases hc
    rw [upd_ne ne]
    exact e
  · by_cases q : b = a
    · rw [q, upd_same]
      intro z
      cases z
    · rw [upd_ne q]
      exact e
  · by_cases q : b = a
    · subst q
      rw [G.put_at] at e
      cases e
      exact h
    · rw [G.put_ne q] at e
      refine (o b c' e).to (fun d v e1 i => ?_) fun v e1 => ?_
      · rw [upd_ne (na d v e1 i)]
        exact e1
      · rw [upd_ne q]
        exact e1
  · by_cases q : b = a
    · subst q
      rcases hc with hc | hc
      · exact .inl hc
      · exact .inr hc
    · left
      have z : (g.put a c) b ≠ none := e
      rw [G.put_ne q] at z
      exact z
/-- what is made already becomes tracked -/
theorem ghK_trk {K : PySem.W.Frag} {mg : Str → Option Value} {g : G} {H H' : Hp} {g0 : G} {a : Addr} {c : Cell} (s : Stp (ghK K mg) g0 H g H') (hn : H a = none) (h : CellOk K mg H' a c) : Stp (ghK K mg) g0 H (g.put a c) H' := by
  refine ⟨s.kp, fun b c' e => ?_, fun b e => ?_⟩
  · by_cases q : b = a
    · subst q
      rw [G.put_at] at e
      cases e
      exact h
    · rw [G.put_ne q] at e
      exact s.ok b c' e
  · by_cases q : b = a
    · subst q
      exact .inr hn
    · have z : (g.put a c) b ≠ none := e
      rw [G.put_ne q] at z
      exact s.fp b z
theorem rp_lk {K : PySem.W.Frag} {H : Hp} {Z : Addr → Prop} {κ : Type} [BEq κ] [LawfulBEq κ] {x : κ} {d : D} : ∀ {fs : List (κ × D)} {vs : List (κ × V)}, vs.map (·.1) = fs.map (·.1) → RpA K H Z (fs.map (·.2)) (vs.map (·.2)) → fs.lookup x = some d → ∃ v, vs.lookup x = some v ∧ Rp K H Z d v
  | [], _, _, _, h => by cases h
  | (y, e) :: fs, [], q, _, _ => by cases q
  | (y, e) :: fs, (z, v) :: vs, q, r, h => by
    simp only [List.map_cons, List.cons.injEq] at q r
    obtain ⟨rfl, q⟩ := q
    cases r with
    | cons r1 r2 =>
      cases hb : (x == z) with
      | true =>
        simp only [List.lookup, hb] at h ⊢
        cases h
        exact ⟨v, rfl, r1⟩
      | false =>
        simp only [List.lookup, hb] at h ⊢
        exact rp_lk q r2 h
def putD (f : Str) (v : D) : List (Str × D) → List (Str × D)
  | [] => [(f, v)]
  | (g, x) :: r => if g = f then (g, v) :: r else (g, x) :: putD f v r
theorem lfs_put {f : Str} {d : D} (hd : d.lf = true) : ∀ {fs : List (Str × D)}, D.lfs (fs.map (·.2)) = true → D.lfs ((putD f d fs).map (·.2)) = true
  | [], _ => by simp [putD, D.lfs, hd]
  | (g, x) :: r, h => by
    simp only [List.map_cons, D.lfs, Bool.and_eq_true] at h
    unfold putD
    split
    · simp [D.lfs, hd, h.2]
    · simp [D.lfs, h.1, lfs_put hd h.2]
theorem rp_put {K : PySem.W.Frag} {H : Hp} {Z : Addr → Prop} {f : Str} {d : D} {v : V} (rd : Rp K H Z d v) : ∀ {fs : List (Str × D)} {vs : List (Str × V)}, vs.map (·.1) = fs.map (·.1) → RpA K H Z (fs.map (·.2)) (vs.map (·.2)) →
    (putF f v vs).map (·.1) = (putD f d fs).map (·.1) ∧ RpA K H Z ((putD f d fs).map (·.2)) ((putF f v vs).map (·.2))
  | [], [], _, _ => ⟨rfl, .cons rd .nil⟩
  | [], _ :: _, q, _ => by cases q
  | (y, e) :: fs, [], q, _ => by cases q
  | (y, e) :: fs, (z, w) :: vs, q, r => by
    simp only [List.map_cons, List.cons.injEq] at q r
    obtain ⟨rfl, q⟩ := q
    cases r with
    | cons r1 r2 =>
      obtain ⟨i1, i2⟩ := rp_put rd q r2
      unfold putF putD
      by_cases h : z = f
      · simp only [h, if_true, List.map_cons]
        exact ⟨by rw [q], .cons rd r2⟩
      · simp only [h, if_false, List.map_cons]
        exact ⟨by rw [i1], .cons r1 i2⟩
end VL
/-! Val: what is asked of the top's end. -/
namespace VL
open PySem PySem.Spec PyProof.Rows L2
mutual
def datB (K : PySem.W.Frag) : D → Value → Bool
  | .non, .none => true
  | .bl b, .bool c => b == c
  | .int i, .int j _ => decide (i = j)
  | .str s, .str t _ => decide (s = t)
  | .tup ds, .ref a => (match K.lookup a with
    | some ⟨.type c, _, .seq its _, _⟩ => decide (c = "tuple") && (decide (its.size ≤ sizeLine) && datsB K ds its.toList)
    | _ => false)
  | _, _ => false
def datsB (K : PySem.W.Frag) : List D → List Value → Bool
  | [], [] => true
  | d :: ds, u :: us => datB K d u && datsB K ds us
  | _, _ => false
end
def entB (K : PySem.W.Frag) : List DictEntry → List (Str × D) → Bool
  | [], [] => true
  | e :: es, (s, d) :: kvs => (match e.key with
    | .str x _ => decide (x = s)
    | _ => false) && (datB K d e.val && entB K es kvs)
  | _, _ => false
/-- the module's name x is a dict of these -/
def kvB' (K : PySem.W.Frag) (x : Str) (kvs : List (Str × D)) : Bool := match K.lookup (He.ga K x) with
  | some ⟨_, _, .dict es _, _⟩ => entB K es.toList kvs
  | _ => false
/-! ### the Hook -/
abbrev Ex : Type := PySem.W.Frag → Bool
def hookV (n : Nat) (fa : List He.Fa) (fn : List He.DefD) (ts : List He.Tab) (ex : List Ex) : PySem.W.Hook where
  α := He.AlT × Bool
  obs := fun s => (He.obsTG n fa fn ts s.heap.get?, ex.all fun f => f (He.frG s.heap.get? (He.asD s.heap.get? n)))
  val := fun w => (He.valT fn ts w, true)
  says := fun w h => ∃ K : PySem.W.Frag, K.In h ∧ He.SaysT fa fn ts w K ∧ ∀ f ∈ ex, f K = true
  of := fun _ _ e => by
    obtain ⟨e1, e2⟩ := Prod.mk.inj e
    exact ⟨_, He.frG_in, e1, fun f hf => List.all_eq_true.mp e2 f hf⟩
  keeps := fun _ _ _ ⟨K, hK, c⟩ k => ⟨K, PySem.W.Frag.In.keeps hK k, c⟩
def obV (n : Nat) (fa : List He.Fa) (fn : List He.DefD) (ts : List He.Tab) (ex : List Ex) (s : PySem.W.SharedT) : He.AlT × Bool :=
  (He.obsTG n fa fn ts (HandSHeadRun.getT s), ex.all fun f => f (He.frG (HandSHeadRun.getT s) (He.asD (HandSHeadRun.getT s) n)))
theorem obV_eq {n : Nat} {fa : List He.Fa} {fn : List He.DefD} {ts : List He.Tab} {ex : List Ex} (s : PySem.W.SharedT) : obV n fa fn ts ex s = (hookV n fa fn ts ex).obs s.abs := by
  have e : HandSHeadRun.getT s = s.abs.heap.get? := funext (HandSHeadRun.getT_eq s)
  unfold obV
  rw [e] <;> rfl
end VL
namespace T
open PySem PySem.Spec PyProof.Rows L2 VL
def top (i : Nat) : Stmt := PySem.Challenge.pw_papersums_k51_whole_rests_and_digits_jud.main.body.getD i (.Pass ⟨0, 0, 0, 0⟩)
def kd_FORMS : List (Str × D) := [("sum", (.tup [(.str "int"), (.str "int"), (.str "int")])), ("less", (.tup [(.str "int"), (.str "int")])), ("dot", (.tup [(.str "ints"), (.str "ints"), (.str "int")])), ("quotient", (.tup [(.str "int"), (.str "int"), (.str "int"), (.str "int")])), ("power", (.tup [(.str "int"), (.str "small"), (.str "int")])), ("root", (.tup [(.str "int"), (.str "small"), (.str "int")])), ("gcd", (.tup [(.str "int"), (.str "int"), (.str "int")])), ("rest", (.tup [(.str "int"), (.str "int"), (.str "int")])), ("modpower", (.tup [(.str "int"), (.str "int"), (.str "int"), (.str "int")])), ("prime", (.tup [(.str "int")])), ("composite", (.tup [(.str "int")])), ("factors", (.tup [(.str "int"), (.str "pairs")])), ("fraction", (.tup [(.str "int"), (.str "int"), (.str "int"), (.str "int")])), ("matrix", (.tup [(.str "table"), (.str "table"), (.str "table")])), ("reduced", (.tup [(.str "table"), (.str "table")])), ("solves", (.tup [(.str "table"), (.str "ints"), (.str "int"), (.str "ints"), (.str "table")])), ("unsolvable", (.tup [(.str "table"), (.str "ints"), (.str "ints")])), ("hermite", (.tup [(.str "table"), (.str "table")])), ("never", (.tup [(.str "table"), (.str "ints"), (.str "ints"), (.str "int")])), ("polyproduct", (.tup [(.str "poly"), (.str "poly"), (.str "poly")])), ("polyrest", (.tup [(.str "poly"), (.str "poly"), (.str "int"), (.str "poly"), (.str "poly")])), ("polygcd", (.tup [(.str "poly"), (.str "poly"), (.str "poly")]))]
abbrev st_is_int : Stmt := top 6
abbrev st_are_ints : Stmt := top 7
abbrev st_is_table : Stmt := top 8
abbrev st_is_poly : Stmt := top 9
abbrev st_are_pairs : Stmt := top 10
abbrev st_is_field : Stmt := top 11
abbrev st_is_claim : Stmt := top 12
abbrev st_is_reason : Stmt := top 13
abbrev st_trimmed : Stmt := top 22
abbrev st_row_of : Stmt := top 23
abbrev st_compare : Stmt := top 24
abbrev st_add : Stmt := top 25
abbrev st_sub : Stmt := top 26
abbrev st_order : Stmt := top 31
abbrev st_added : Stmt := top 32
abbrev st_is_sum : Stmt := top 33
abbrev st_by_digits : Stmt := top 34
abbrev st_rest_of : Stmt := top 35
abbrev st_times_of : Stmt := top 36
abbrev st_by_rests : Stmt := top 37
abbrev st_are_small_primes : Stmt := top 38
abbrev st_product_of : Stmt := top 39
abbrev st_bound_of : Stmt := top 40
abbrev st_by_trial : Stmt := top 41
abbrev st_judge : Stmt := top 61
abbrev st_right : Stmt := top 62
abbrev st_law_draws : Stmt := top 76
abbrev st_law_next : Stmt := top 77
abbrev st_law_pick : Stmt := top 78
abbrev st_law_same : Stmt := top 79
abbrev st_law_bits : Stmt := top 80
abbrev st_law_modpow : Stmt := top 81
abbrev st_law_prime : Stmt := top 82
abbrev st_law_dot : Stmt := top 83
abbrev st_law_great : Stmt := top 84
abbrev st_law_digits : Stmt := top 85
abbrev st_law_bound : Stmt := top 86
abbrev st_law_due : Stmt := top 87
abbrev st_law_primes : Stmt := top 88
abbrev st_law_taken : Stmt := top 89
abbrev st_law : Stmt := top 90
def fnH0 : List He.DefD := [⟨("compare", none), "compare", "compare", defArgs st_compare, defBody st_compare, defScope st_compare, [], []⟩, ⟨("trimmed", none), "trimmed", "trimmed", defArgs st_trimmed, defBody st_trimmed, defScope st_trimmed, [], []⟩, ⟨("row_of", none), "row_of", "row_of", defArgs st_row_of, defBody st_row_of, defScope st_row_of, [], []⟩, ⟨("order", none), "order", "order", defArgs st_order, defBody st_order, defScope st_order, [], []⟩, ⟨("sub", none), "sub", "sub", defArgs st_sub, defBody st_sub, defScope st_sub, [], []⟩, ⟨("add", none), "add", "add", defArgs st_add, defBody st_add, defScope st_add, [], []⟩, ⟨("added", none), "added", "added", defArgs st_added, defBody st_added, defScope st_added, [], []⟩, ⟨("is_sum", none), "is_sum", "is_sum", defArgs st_is_sum, defBody st_is_sum, defScope st_is_sum, [], []⟩, ⟨("by_digits", none), "by_digits", "by_digits", defArgs st_by_digits, defBody st_by_digits, defScope st_by_digits, [], []⟩, ⟨("by_trial", none), "by_trial", "by_trial", defArgs st_by_trial, defBody st_by_trial, defScope st_by_trial, [], []⟩, ⟨("bound_of", none), "bound_of", "bound_of", defArgs st_bound_of, defBody st_bound_of, defScope st_bound_of, [], []⟩, ⟨("times_of", none), "times_of", "times_of", defArgs st_times_of, defBody st_times_of, defScope st_times_of, [], []⟩]
def fnH1 : List He.DefD := [⟨("product_of", none), "product_of", "product_of", defArgs st_product_of, defBody st_product_of, defScope st_product_of, [], []⟩, ⟨("rest_of", none), "rest_of", "rest_of", defArgs st_rest_of, defBody st_rest_of, defScope st_rest_of, [], []⟩, ⟨("are_small_primes", none), "are_small_primes", "are_small_primes", defArgs st_are_small_primes, defBody st_are_small_primes, defScope st_are_small_primes, [], []⟩, ⟨("by_rests", none), "by_rests", "by_rests", defArgs st_by_rests, defBody st_by_rests, defScope st_by_rests, [], []⟩, ⟨("right", none), "right", "right", defArgs st_right, defBody st_right, defScope st_right, [], []⟩, ⟨("is_int", none), "is_int", "is_int", defArgs st_is_int, defBody st_is_int, defScope st_is_int, [], []⟩, ⟨("is_reason", none), "is_reason", "is_reason", defArgs st_is_reason, defBody st_is_reason, defScope st_is_reason, [], []⟩, ⟨("are_ints", none), "are_ints", "are_ints", defArgs st_are_ints, defBody st_are_ints, defScope st_are_ints, [], []⟩, ⟨("is_poly", none), "is_poly", "is_poly", defArgs st_is_poly, defBody st_is_poly, defScope st_is_poly, [], []⟩, ⟨("are_pairs", none), "are_pairs", "are_pairs", defArgs st_are_pairs, defBody st_are_pairs, defScope st_are_pairs, [], []⟩, ⟨("is_table", none), "is_table", "is_table", defArgs st_is_table, defBody st_is_table, defScope st_is_table, [], []⟩, ⟨("is_field", none), "is_field", "is_field", defArgs st_is_field, defBody st_is_field, defScope st_is_field, [], []⟩]
def fnH2 : List He.DefD := [⟨("is_claim", none), "is_claim", "is_claim", defArgs st_is_claim, defBody st_is_claim, defScope st_is_claim, [], []⟩, ⟨("judge", none), "judge", "judge", defArgs st_judge, defBody st_judge, defScope st_judge, [], []⟩, ⟨("_law_same", none), "_law_same", "_law_same", defArgs st_law_same, defBody st_law_same, defScope st_law_same, [], []⟩, ⟨("_law_taken", none), "_law_taken", "_law_taken", defArgs st_law_taken, defBody st_law_taken, defScope st_law_taken, [], []⟩, ⟨("_law_bits", none), "_law_bits", "_law_bits", defArgs st_law_bits, defBody st_law_bits, defScope st_law_bits, [], []⟩, ⟨("_law_modpow", none), "_law_modpow", "_law_modpow", defArgs st_law_modpow, defBody st_law_modpow, defScope st_law_modpow, [], []⟩, ⟨("_law_prime", none), "_law_prime", "_law_prime", defArgs st_law_prime, defBody st_law_prime, defScope st_law_prime, [], []⟩, ⟨("_law_next", none), "_law_next", "_law_next", defArgs st_law_next, defBody st_law_next, defScope st_law_next, [], []⟩, ⟨("_law_pick", none), "_law_pick", "_law_pick", defArgs st_law_pick, defBody st_law_pick, defScope st_law_pick, [], []⟩, ⟨("_law_digits", none), "_law_digits", "_law_digits", defArgs st_law_digits, defBody st_law_digits, defScope st_law_digits, [], []⟩, ⟨("_law_bound", none), "_law_bound", "_law_bound", defArgs st_law_bound, defBody st_law_bound, defScope st_law_bound, [], []⟩, ⟨("_law_dot", none), "_law_dot", "_law_dot", defArgs st_law_dot, defBody st_law_dot, defScope st_law_dot, [], []⟩]
def fnH3 : List He.DefD := [⟨("_law_due", none), "_law_due", "_law_due", defArgs st_law_due, defBody st_law_due, defScope st_law_due, [], []⟩, ⟨("_law_primes", none), "_law_primes", "_law_primes", defArgs st_law_primes, defBody st_law_primes, defScope st_law_primes, [], []⟩, ⟨("_law_great", none), "_law_great", "_law_great", defArgs st_law_great, defBody st_law_great, defScope st_law_great, [], []⟩, ⟨("_law_draws", none), "_law_draws", "_law_draws", defArgs st_law_draws, defBody st_law_draws, defScope st_law_draws, [], []⟩, ⟨("law", none), "law", "law", defArgs st_law, defBody st_law, defScope st_law, [], []⟩]
def fnH : List He.DefD := fnH0 ++ (fnH1 ++ (fnH2 ++ (fnH3)))
def blH0 : List Str := ["abs", "all", "bool", "dict", "divmod", "int", "isinstance", "len", "list", "max", "range", "set", "sorted", "str", "sum", "tuple"]
def blH : List Str := blH0
def giH0 : List (Str × Int) := [("BASE", 10000), ("BLOCK", 10000000000000000000000000000000000000000000000000000000000000000), ("DIGIT", 10000), ("DIGITS", 16), ("GREATEST", 10000), ("LEAST_PRIME", 1000), ("TRIAL", 1000000)]
def giH : List (Str × Int) := giH0
def glH0 : List Str := ["compare", "trimmed", "row_of", "order", "sub", "add", "added", "is_sum", "by_digits", "by_trial", "bound_of", "times_of", "product_of", "rest_of", "are_small_primes", "by_rests", "right", "is_int", "is_reason", "are_ints", "is_poly", "are_pairs", "is_table", "is_field", "is_claim"]
def glH1 : List Str := ["judge", "_law_same", "_law_taken", "_law_bits", "_law_modpow", "_law_prime", "_law_next", "_law_pick", "_law_digits", "_law_bound", "_law_dot", "_law_due", "_law_primes", "_law_great", "_law_draws", "law", "FORMS"]
def glH : List Str := glH0 ++ (glH1)
def faH : List He.Fa := glH.map .glo ++ (blH.map .free ++ giH.map fun z => .int z.1 z.2)
def tsH : List He.Tab := [(fun K => He.ga K "FORMS", kd_FORMS.map (·.1))]
def exH : List Ex := [fun K => kvB' K "FORMS" kd_FORMS]
abbrev R : PySem.W.OpenRow := PySem.W.OpenLaw.row PySem.Challenge.rw_papersums_k51_whole_rests_and_digits_jud
abbrev hkH : PySem.W.Hook := hookV 2 faH fnH tsH exH
def nmH0 : List Str := ["ReckonError", "Wrong", "FORMS", "GREATEST", "is_int", "are_ints", "is_table", "is_poly", "are_pairs", "is_field", "is_claim", "is_reason", "column", "coefficient", "is_square", "crossed", "BASE", "DIGITS", "BLOCK", "trimmed", "row_of", "compare", "add", "sub", "DIGIT"]
def nmH1 : List Str := ["LEAST_PRIME", "TRIAL", "order", "added", "is_sum", "by_digits", "rest_of", "times_of", "by_rests", "are_small_primes", "product_of", "bound_of", "by_trial", "right_further", "by_reduced", "angles_of", "is_step", "are_reduced", "free_places", "by_solves", "are_apart", "by_unsolvable", "by_hermite", "has_form", "by_never"]
def nmH2 : List Str := ["product_rows", "by_polyrest", "by_polygcd", "parts", "is_primitive", "judge", "right", "by_quotient", "by_power", "by_root", "divides", "by_gcd", "by_rest", "by_modpower", "by_witness", "by_composite", "by_factors", "by_fraction", "by_matrix", "_law_draws", "_law_next", "_law_pick", "_law_same", "_law_bits", "_law_modpow"]
def nmH3 : List Str := ["_law_prime", "_law_dot", "_law_great", "_law_digits", "_law_bound", "_law_due", "_law_primes", "_law_taken"]
def nmH : List Str := nmH0 ++ (nmH1 ++ (nmH2 ++ (nmH3)))
set_option maxHeartbeats 0 in
theorem runF : ∀ w : World, HandSHeadRun.RunEq R (PySem.W.view R.prog [90]) hkH (obV 2 faH fnH tsH exH) 12000 nmH (w.withFollow "special-get-raises" false) := fun w os => by kernel_rfl
set_option maxHeartbeats 0 in
theorem runT : ∀ w : World, HandSHeadRun.RunEq R (PySem.W.view R.prog [90]) hkH (obV 2 faH fnH tsH exH) 12000 nmH (w.withFollow "special-get-raises" true) := fun w os => by kernel_rfl
set_option maxHeartbeats 0 in
theorem runH : ∀ w : World, HandSHeadRun.RunEq R (PySem.W.view R.prog [90]) hkH (obV 2 faH fnH tsH exH) 12000 nmH w := PySem.W.byRow2 "special-get-raises" (P := fun w => HandSHeadRun.RunEq R (PySem.W.view R.prog [90]) hkH (obV 2 faH fnH tsH exH) 12000 nmH w) runF runT
end T
open PySem PySem.W PySem.Calls PyProof.Rows VL
abbrev T.q : PySem.Program := view T.R.prog [90]
abbrev T.dl : DefRec := HandSHeadRun.topDef T.R.prog 90
set_option maxHeartbeats 0 in
theorem T.hE : opening T.R.prog = plainProg T.R.prog.main.scope.names := by kernel_rfl
set_option maxHeartbeats 0 in
theorem T.hF : ∀ s, fenceModules? T.R.prog s = some s := fun s => by kernel_rfl
set_option maxHeartbeats 0 in
theorem T.hD : defOf T.q T.R.name = some (T.dl, []) := by kernel_rfl
set_option maxHeartbeats 0 in
theorem T.hP : T.R.prog.theDef T.R.name = some (T.dl.params, T.dl.body, T.dl.scope) := by kernel_rfl
set_option maxHeartbeats 0 in
theorem T.hK : kwWritten? T.dl.params.kwonlyargs T.dl.params.kw_defaults = some [] := by kernel_rfl
set_option maxHeartbeats 0 in
theorem T.hA : T.dl.params.defaults = [] := by kernel_rfl
set_option maxHeartbeats 0 in
theorem T.hO : (chainsOk T.q && opensWell T.R.prog && (frees T.R.toRowW && T.R.within.isEmpty)) = true := by decide +kernel
set_option maxHeartbeats 0 in
theorem T.hB : T.R.prog.bare := ⟨rfl, rfl, rfl, rfl, rfl, by decide +kernel⟩
set_option maxHeartbeats 0 in
theorem T.hW : T.R.toRowW.promised := by w_witness2
set_option maxHeartbeats 0 in
theorem T.hL (z : T.R.wellSaid = true → T.R.Holds) : PySem.Challenge.rw_papersums_k51_whole_rests_and_digits_jud.Holds := by w_on; o_law; exact z (by assumption)
/-! Val: slots, the state's relation, the syntax and its meaning. -/
namespace VL
open PySem PySem.Spec PyProof.Rows L2

/-- what a slot holds: nothing known; data; a list of one's own; a list of lists of one's own. The number: 2 = its lists are new, 1 = they are not one's own, 0 = they may be -/
inductive Sl where
  | no | dat (d : D) (l : Nat) | own (ds : List D) (l : Nat) | own2 (dss : List (List D)) (l : Nat)
abbrev Env := List Sl

/-- a value that is kept while a loop runs over it -/
structure Pin where
  a : Addr
  tupl : Bool
  xs : List V
  ds : List D
  l : Nat

section
variable {G : Type}
/-- what stays through a def's body: the written part, the ghost, the entry's heap, ghost and forbidden places -/
structure Vc (G : Type) where
  K : PySem.W.Frag
  gh : Gh G
  H0 : Hp
  g0 : G
  Z0 : Addr → Prop
variable (C : Vc G)
/-- where lists of data may not stand -/
def Zl (ex : List Addr) (ow : Nat → List Addr) (g : G) (l : Nat) (a : Addr) : Prop :=
  C.gh.fp g a ∨ a ∈ ex ∨ (1 ≤ l ∧ ∃ i, a ∈ ow i) ∨ (C.H0 a ≠ none ∧ (2 ≤ l ∨ C.Z0 a))
/-- a slot and what is said of it -/
def SlotOk (ex : List Addr) (ow : Nat → List Addr) (g : G) (H : Hp) (o : List Addr) (v : Option (Option V)) : Sl → Prop
  | .no => o = []
  | .dat d l => o = [] ∧ ∃ x, v = some (some x) ∧ Rp C.K H (Zl C ex ow g l) d x
  | .own ds l => ∃ a xs, o = [a] ∧ v = some (some (.ref a)) ∧ H a = some (.lst xs) ∧ 1 ≤ l ∧ RpA C.K H (Zl C ex ow g l) ds xs
  | .own2 dss l => ∃ (a : Addr) (rs : List Addr), o = a :: rs ∧ v = some (some (.ref a)) ∧ H a = some (.lst (rs.map V.ref)) ∧ 1 ≤ l ∧ rs.length = dss.length ∧
      ∀ (k : Nat) (r : Addr) (ds : List D), rs[k]? = some r → dss[k]? = some ds → ∃ xs : List V, H r = some (.lst xs) ∧ RpA C.K H (Zl C ex ow g l) ds xs
def PinOk (ex : List Addr) (ow : Nat → List Addr) (g : G) (H : Hp) (p : Pin) : Prop :=
  (if p.tupl = true then SqT C.K H p.a p.xs else Ls H (Zl C ex ow g p.l) p.a p.xs ∨ SqF C.K H p.a p.xs) ∧ RpA C.K H (Zl C ex ow g p.l) p.ds p.xs
structure SR (pins : List Pin) (ex : List Addr) (ow : Nat → List Addr) (es : Env) (σ : L2.St) (g : G) (H : Hp) : Prop where
  len : es.length = σ.length
  slot : ∀ i s, es[i]? = some s → SlotOk C ex ow g H (ow i) σ[i]? s
  out : ∀ i, es.length ≤ i → ow i = []
  own : ∀ i a, a ∈ ow i → H a ≠ none ∧ C.H0 a = none ∧ ¬ C.gh.fp g a ∧ a ∉ ex
  nd : ∀ i, (ow i).Nodup
  dis : ∀ i j a, a ∈ ow i → a ∈ ow j → i = j
  exs : ∀ a ∈ ex, H a ≠ none ∧ C.H0 a = none ∧ ¬ C.gh.fp g a
  pin : ∀ p ∈ pins, PinOk C ex ow g H p
  stp : Stp C.gh C.g0 C.H0 g H

variable {C : Vc G} {pins : List Pin} {ex : List Addr} {ow : Nat → List Addr} {es : Env} {σ : L2.St} {g g' : G} {H H' : Hp}
theorem Zl.mono {l l' : Nat} (h : l ≤ l') {a : Addr} (z : Zl C ex ow g l a) : Zl C ex ow g l' a := by
  rcases z with z | z | ⟨z, y⟩ | ⟨z, y⟩
  · exact .inl z
  · exact .inr (.inl z)
  · exact .inr (.inr (.inl ⟨Nat.le_trans z h, y⟩))
  · refine .inr (.inr (.inr ⟨z, ?_⟩))
    rcases y with y | y
    · exact .inl (Nat.le_trans y h)
    · exact .inr y
/-- forbidden places of a later state, among those that stand -/
theorem Zl.back (s : Stp C.gh g H g' H') {l : Nat} {a : Addr} (n : H a ≠ none) (z : Zl C ex ow g' l a) : Zl C ex ow g l a := by
  rcases z with z | z
  · rcases s.fp a z with q | q
    · exact .inl q
    · exact absurd q n
  · exact .inr z
theorem Rp.stp (s : Stp C.gh g H g' H') {l : Nat} {d : D} {v : V} (r : Rp C.K H (Zl C ex ow g l) d v) : Rp C.K H' (Zl C ex ow g' l) d v :=
  Rp.kp s.kp (fun _ z => .inl z) (fun _ n z => Zl.back s n z) r
theorem RpA.stp (s : Stp C.gh g H g' H') {l : Nat} {d : List D} {v : List V} (r : RpA C.K H (Zl C ex ow g l) d v) : RpA C.K H' (Zl C ex ow g' l) d v :=
  RpA.kp s.kp (fun _ z => .inl z) (fun _ n z => Zl.back s n z) r
theorem Rp.low {l l' : Nat} (h : l' ≤ l) {d : D} {v : V} (r : Rp C.K H (Zl C ex ow g l) d v) : Rp C.K H (Zl C ex ow g l') d v := r.anti fun _ z => Zl.mono h z
theorem RpA.low {l l' : Nat} (h : l' ≤ l) {d : List D} {v : List V} (r : RpA C.K H (Zl C ex ow g l) d v) : RpA C.K H (Zl C ex ow g l') d v := r.anti fun _ z => Zl.mono h z
/-- data without lists stands at any level -/
theorem Rp.lf {l l' : Nat} {d : D} {v : V} (e : d.lf = true ∨ l' ≤ l) (r : Rp C.K H (Zl C ex ow g l) d v) : Rp C.K H (Zl C ex ow g l') d v := by
  rcases e with e | e
  · exact Rp.flat (fun _ _ q => q) (fun _ _ q => q) d v e r
  · exact r.low e
theorem SR.stp' (S : SR C pins ex ow es σ g H) (s : Stp C.gh g H g' H') : SR C pins ex ow es σ g' H' where
  len := S.len
  slot := fun i sl e => by
    have q := S.slot i sl e
    cases sl with
    | no => exact q
    | dat d l =>
      obtain ⟨q0, x, q1, q2⟩ := q
      exact ⟨q0, x, q1, q2.stp s⟩
    | own ds l =>
      obtain ⟨a, xs, q1, q2, q3, q4, q5⟩ := q
      have ha : a ∈ ow i := by rw [q1]; exact List.mem_singleton.mpr rfl
      exact ⟨a, xs, q1, q2, s.kp.keep a _ q3 fun z => absurd z (S.own i a ha).2.2.1, q4, q5.stp s⟩
    | own2 dss l =>
      obtain ⟨a, rs, q1, q2, q3, q4, q5, q6⟩ := q
      have ha : a ∈ ow i := by rw [q1]; exact List.mem_cons_self
      refine ⟨a, rs, q1, q2, s.kp.keep a _ q3 fun z => absurd z (S.own i a ha).2.2.1, q4, q5, fun k r ds h1 h2 => ?_⟩
      obtain ⟨xs, h3, h4⟩ := q6 k r ds h1 h2
      have hr : r ∈ ow i := by rw [q1]; exact List.mem_cons_of_mem _ (List.mem_of_getElem? h1)
      exact ⟨xs, s.kp.keep r _ h3 fun z => absurd z (S.own i r hr).2.2.1, h4.stp s⟩
  out := S.out
  own := fun i a h => by
    obtain ⟨h1, h2, h3, h4⟩ := S.own i a h
    refine ⟨s.kp.dom a h1, h2, fun z => ?_, h4⟩
    rcases s.fp a z with q | q
    · exact h3 q
    · exact h1 q
  nd := S.nd
  dis := S.dis
  exs := fun a h => by
    obtain ⟨h1, h2, h3⟩ := S.exs a h
    refine ⟨s.kp.dom a h1, h2, fun z => ?_⟩
    rcases s.fp a z with q | q
    · exact h3 q
    · exact h1 q
  pin := fun p hp => by
    obtain ⟨h1, h2⟩ := S.pin p hp
    refine ⟨?_, h2.stp s⟩
    by_cases ht : p.tupl = true
    · rw [if_pos ht] at h1 ⊢
      exact s.kp.tup h1
    · rw [if_neg ht] at h1 ⊢
      rcases h1 with h1 | h1
      · exact .inl (Ls.kp s.kp (fun _ z => .inl z) (fun _ n z => Zl.back s n z) h1)
      · exact .inr (s.kp.frz h1)
  stp := S.stp.trans s
theorem SR.same (S : SR C pins ex ow es σ g H) (e : Same H H') : SR C pins ex ow es σ g H' := S.stp' (.of S.stp.ok e)
theorem SR.dat (S : SR C pins ex ow es σ g H) {i : Nat} {d : D} {l : Nat} (e : es[i]? = some (.dat d l)) : ∃ v, σ[i]? = some (some v) ∧ Rp C.K H (Zl C ex ow g l) d v := (S.slot i _ e).2
end

/-! ### the syntax -/
inductive Bop where
  | add | sub | mul | fdiv | mod
inductive Cop where
  | eq | ne | lt | le | gt | ge | is_ | isnt | in_ | notin
/-- built-in functions of scalars; of a sequence -/
inductive Bi where
  | int1 | abs | max2 | min2
inductive Sq where
  | len | sum | all | any | max | min | tuple | list
/-- hooks: expressions over cells, of their arguments' values -/
inductive Hk where
  | atr (c x : Str) | gix | gsq (f : Sq) | gkey (s : Str) | mk (i : Nat) (c : Str) | glo (x : Str) (n : Int) | pow | dsp (ks : List Str) | dmod | sset | kin (i : Nat) (x : Str) (kvs : List (Str × D)) (neg : Bool) | kix (i : Nat) (x : Str) (kvs : List (Str × D))
mutual
inductive CE where
  | var (i : Nat) | int (i : Int) | bl (b : Bool) | non | str (s : Str)
  | bin (op : Bop) (a b : CE) | neg (a : CE) | not (a : CE)
  | cmp (op : Cop) (a b : CE) | chain (op op' : Cop) (a b c : CE)
  | and (a b : CE) | or (a b : CE) | ite (c a b : CE)
  | tup (as : CA) | lst (as : CA)
  | rep (as : CA) (n : CE)
  | ix (a b : CE) | sl (a : CE) (lo hi : CO) | rev (a : CE)
  | bi (f : Bi) (as : CA) | sq (f : Sq) (a : CE) | rng (tupl : Bool) (lo : CO) (hi : CE)
  | isi (a : CE) (T : List String)
  | call (f : Nat) (as : CA)
  | lc (vs : List Nat) (tg : Tg) (it : CI) (cond : CO) (elt : CE)
  | glc (vs : List Nat) (tg : Tg) (a : CE) (cond : CO) (elt : CE)
  | trk (c : CE) | ext (h : Hk) (as : CA) | meth (i : Nat) (c m : Str) (a : CE) (as : CA)
inductive CA where
  | nil | cons (a : CE) (r : CA)
inductive CO where
  | no | some (a : CE)
inductive CI where
  | it (a : CE) | rng1 (a : CE) | rng2 (a b : CE) | rngd (a b : CE)
inductive Tg where
  | name (j : Nat) | tup (js : List Nat)
end

/-! ### the meaning -/
section
abbrev Pd (G : Type) := D → Nat → G → Prop
abbrev Wd (G : Type) := Env → G → Pd G → Prop
/-- a def by what it gives: its data, their level (2: new; 1: out of its arguments), the ghost behind -/
abbrev WF (G : Type) := List D → G → Pd G → Prop

def tru : D → Option Bool
  | .non => some false
  | .bl b => some b
  | .int i => some (i != 0)
  | .lst ds => some (!ds.isEmpty)
  | .tup ds => some (!ds.isEmpty)
  | _ => none
/-- by a divisor that is not 0, of less than 9000 bits -/
def DivOk (j : Int) : Prop := j ≠ 0 ∧ j.natAbs.log2 < 9000
abbrev Pv := D → Nat → Prop
def bop : Bop → D → Nat → D → Nat → Pv → Prop
  | .add, .int i, _, .int j, _, Q => Q (.int (i + j)) 2
  | .add, .lst xs, l, .lst ys, l', Q => xs.length + ys.length ≤ sizeLine ∧ Q (.lst (xs ++ ys)) (min l l')
  | .add, .tup xs, l, .tup ys, l', Q => xs.length + ys.length ≤ sizeLine ∧ Q (.tup (xs ++ ys)) (min l l')
  | .sub, .int i, _, .int j, _, Q => Q (.int (i - j)) 2
  | .mul, .int i, _, .int j, _, Q => CMulW i j ∧ Q (.int (i * j)) 2
  | .fdiv, .int i, _, .int j, _, Q => DivOk j ∧ Q (.int (i.fdiv j)) 2
  | .mod, .int i, _, .int j, _, Q => j ≠ 0 ∧ Q (.int (i.fmod j)) 2
  | _, _, _, _, _, _ => False
mutual
def D.p : D → PyData
  | .non => .none
  | .bl b => .bool b
  | .int i => .int i
  | .str s => .str s
  | .lst ds => .list (D.ps ds)
  | .tup ds => .tuple (D.ps ds)
  | .obj _ => .dict []
  | .frz _ => .dict []
def D.ps : List D → List PyData
  | [] => []
  | d :: ds => d.p :: D.ps ds
end
mutual
/-- no object in it -/
def D.pl : D → Bool
  | .obj _ => false
  | .frz _ => false
  | .lst ds => D.pls ds
  | .tup ds => D.pls ds
  | _ => true
def D.pls : List D → Bool
  | [] => true
  | d :: ds => d.pl && D.pls ds
end
/-- == of data -/
def deq (a b : D) (Q : Bool → Prop) : Prop := match a, b with
  | .int i, .int j => Q (decide (i = j))
  | .bl i, .bl j => Q (decide (i = j))
  | .str i, .str j => Q (decide (i = j))
  | a, b => a.pl = true ∧ b.pl = true ∧ SeqAt.shaped a.p = true ∧ SeqAt.shaped b.p = true ∧ Q (PyData.eqv a.p b.p)
def cop : Cop → D → D → (Bool → Prop) → Prop
  | .eq, a, b, Q => deq a b Q
  | .ne, a, b, Q => deq a b fun c => Q (!c)
  | .lt, .int i, .int j, Q => Q (decide (i < j))
  | .le, .int i, .int j, Q => Q (decide (i ≤ j))
  | .gt, .int i, .int j, Q => Q (decide (j < i))
  | .ge, .int i, .int j, Q => Q (decide (j ≤ i))
  | .is_, .bl a, .bl b, Q => Q (decide (a = b))
  | .isnt, .bl a, .bl b, Q => Q (!decide (a = b))
  | .is_, a, .non, Q => Q (match a with | .non => true | _ => false)
  | .isnt, a, .non, Q => Q (match a with | .non => false | _ => true)
  | .in_, a, .lst ds, Q => a.pl = true ∧ D.pls ds = true ∧ SeqAt.shaped a.p = true ∧ SeqAt.shaped (.list (D.ps ds)) = true ∧ Q (ds.any fun z => PyData.eqv z.p a.p)
  | .notin, a, .lst ds, Q => a.pl = true ∧ D.pls ds = true ∧ SeqAt.shaped a.p = true ∧ SeqAt.shaped (.list (D.ps ds)) = true ∧ Q (!ds.any fun z => PyData.eqv z.p a.p)
  | .in_, a, .tup ds, Q => a.pl = true ∧ D.pls ds = true ∧ SeqAt.shaped a.p = true ∧ SeqAt.shaped (.tuple (D.ps ds)) = true ∧ Q (ds.any fun z => PyData.eqv z.p a.p)
  | .notin, a, .tup ds, Q => a.pl = true ∧ D.pls ds = true ∧ SeqAt.shaped a.p = true ∧ SeqAt.shaped (.tuple (D.ps ds)) = true ∧ Q (!ds.any fun z => PyData.eqv z.p a.p)
  | _, _, _, _ => False
def biF : Bi → List D → Pv → Prop
  | .int1, [.int i], Q => Q (.int i) 2
  | .int1, [.bl b], Q => Q (.int (if b then 1 else 0)) 2
  | .abs, [.int i], Q => Q (.int (if i < 0 then -i else i)) 2
  | .max2, [.int i, .int j], Q => Q (.int (if j > i then j else i)) 2
  | .min2, [.int i, .int j], Q => Q (.int (if j < i then j else i)) 2
  | _, _, _ => False
/-- of a sequence: whether it is a tuple, its items, their level -/
def sqf : Sq → Bool → List D → Nat → Pv → Prop
  | .len, _, ds, _, Q => Q (.int ds.length) 2
  | .sum, false, ds, _, Q => ∃ ns : List Int, ds = ns.map D.int ∧ Q (.int ns.sum) 2
  | .all, false, ds, _, Q => ∃ bs : List Bool, ds = bs.map D.bl ∧ Q (.bl (bs.all id)) 2
  | .any, false, ds, _, Q => ∃ bs : List Bool, ds = bs.map D.bl ∧ Q (.bl (bs.any id)) 2
  | .max, false, ds, _, Q => ∃ ns : List Int, ds = ns.map D.int ∧ 0 < ns.length ∧ ∀ m, m ∈ ns → (∀ y, y ∈ ns → y ≤ m) → Q (.int m) 2
  | .min, false, ds, _, Q => ∃ ns : List Int, ds = ns.map D.int ∧ 0 < ns.length ∧ ∀ m, m ∈ ns → (∀ y, y ∈ ns → m ≤ y) → Q (.int m) 2
  | .tuple, _, ds, l, Q => Q (.tup ds) l
  | .list, _, ds, l, Q => Q (.lst ds) l
  | _, _, _, _, _ => False
def tyOf : D → Option String
  | .non => some "NoneType"
  | .bl _ => some "bool"
  | .int _ => some "int"
  | .str _ => some "str"
  | .lst _ => some "list"
  | .tup _ => some "tuple"
  | _ => none
def isB (t : String) : List String → Option Bool
  | [] => some false
  | c :: cs => (kitB t c).bind fun b => if b = true then some true else isB t cs

/-- a sequence view: a name's own list by its items -/
def wQ (c : CE) (w : Wd G) (es : Env) (g : G) (Q : Bool → List D → Nat → G → Prop) : Prop :=
  match c with
  | .var i => (match es[i]? with
    | some (.own ds l) => Q false ds l g
    | some (.own2 dss _) => Q false (dss.map D.lst) 0 g
    | some (.dat (.lst ds) l) => Q false ds l g
    | some (.dat (.tup ds) l) => Q true ds l g
    | some (.dat (.frz ns) _) => Q false (ns.map D.int) 2 g
    | _ => False)
  | _ => w es g fun d l g' => match d with
    | .lst ds => Q false ds l g'
    | .tup ds => Q true ds l g'
    | .frz ns => Q false (ns.map D.int) 2 g'
    | _ => False
/-- an operand that may be one's own list: by its items -/
def wV (c : CE) (w : Wd G) (es : Env) (g : G) (Q : Pd G) : Prop :=
  match c with
  | .var i => (match es[i]? with
    | some (.own ds l) => Q (.lst ds) l g
    | _ => w es g Q)
  | _ => w es g Q
def wipeE (es : Env) : List Nat → Env
  | [] => es
  | v :: vs => (wipeE es vs).set v .no
/-- slots that are not one's own lists -/
def noOwn (es : Env) (vs : List Nat) : Prop := ∀ i ∈ vs, ∀ s, es[i]? = some s → match s with
  | .own _ _ => False
  | .own2 _ _ => False
  | _ => True
def setAll (es : Env) : List Nat → List D → Nat → Env
  | j :: js, d :: ds, l => setAll (es.set j (.dat d l)) js ds l
  | _, _, _ => es
def bindT (tg : Tg) (d : D) (l : Nat) (es : Env) (k : Env → Prop) : Prop :=
  match tg with
  | .name j => noOwn es [j] ∧ k (es.set j (.dat d l))
  | .tup js => ∃ ds, d = .tup ds ∧ ds.length = js.length ∧ noOwn es js ∧ k (setAll es js ds l)
/-- lo, lo - 1, .. (n of them) -/
def dwnD (lo : Int) (n : Nat) : List D := (List.range n).map fun i => D.int (lo - (i : Nat))
def rngD (lo hi : Int) : List D := (List.range (hi - lo).toNat).map fun i => D.int (lo + (i : Nat))
def small (i : Int) : Prop := -(2 ^ 62) ≤ i ∧ i < 2 ^ 62
/-- the turns of a comprehension: what it has so far, their level -/
def lcl (step : D → G → (Option (D × Nat) → G → Prop) → Prop) : List D → List D → Nat → G → (List D → Nat → G → Prop) → Prop
  | [], acc, lv, g, k => k acc lv g
  | d :: ds, acc, lv, g, k => step d g fun r g' => match r with
    | some (e, le) => acc.length < sizeLine ∧ lcl step ds (acc ++ [e]) (min lv le) g' k
    | none => lcl step ds acc lv g' k

/-- the turns of a comprehension over a cell's list, that stays -/
def lclG (p : Addr) (all : List D) (step : D → G → (Option (D × Nat) → G → Prop) → Prop) : List D → List D → Nat → G → (List D → Nat → G → Prop) → Prop
  | [], acc, lv, g, k => g p = some (.lst all) ∧ k acc lv g
  | d :: ds, acc, lv, g, k => g p = some (.lst all) ∧ step d g fun r g' => match r with
    | some (e, le) => acc.length < sizeLine ∧ lclG p all step ds (acc ++ [e]) (min lv le) g' k
    | none => lclG p all step ds acc lv g' k
/-- the hooks' meanings -/
def hS (fs : List (Nat × WF G)) : Hk → List D → G → Pd G → Prop
  | .atr c x, [.obj p], g, Q => ∃ dx fs' d, g p = some (.ins c dx fs') ∧ fs'.lookup x = some d ∧ Q d 2 g
  | .gix, [.obj p, .int i], g, Q => ∃ ds e, g p = some (.lst ds) ∧ atI ds i = some e ∧ Q e 2 g
  | .gsq f, [.obj p], g, Q => ∃ ds, g p = some (.lst ds) ∧ sqf f false ds 2 fun d l => Q d l g
  | .gkey s, [.obj p], g, Q => ∃ kvs d, g p = some (.dct kvs) ∧ kvs.lookup s = some d ∧ Q d 2 g
  | .mk i c, ds, g, Q => ∃ n w, fs[i]? = some (n, w) ∧ ds.length + 1 = n ∧ D.lfs ds = true ∧ ∀ x dx, g x = none → g dx = none → dx ≠ x → w (.obj x :: ds) (g.put x (.ins c dx [])) fun d _ g2 => d = .non ∧ Q (.obj x) 2 g2
  | .glo _ n, [], g, Q => Q (.int n) 2 g
  | .pow, [.int i, .int j], g, Q => CPow i j ∧ Q (.int (i ^ j.toNat)) 2 g
  | .dmod, [.int i, .int j], g, Q => DivOk j ∧ Q (.tup [.int (i.fdiv j), .int (i.fmod j)]) 2 g
  | .sset, [.lst ds], g, Q => ∃ ns : List Int, ds = ns.map D.int ∧ ns.length < 64 ∧ ∀ out : List Int, out.Pairwise (· < ·) → (∀ k, k ∈ out ↔ k ∈ ns) → Q (.lst (out.map D.int)) 2 g
  | .kin _ _ kvs neg, [.str s], g, Q => Q (.bl (if neg = true then !(kvs.lookup s).isSome else (kvs.lookup s).isSome)) 2 g
  | .kix _ _ kvs, [.str s], g, Q => ∃ d, kvs.lookup s = some d ∧ Q d 2 g
  | .dsp ks, ds, g, Q => ks.length = ds.length ∧ D.lfs ds = true ∧ ∀ p, g p = none → Q (.obj p) 2 (g.put p (.dct (ks.zip ds)))
  | _, _, _, _ => False
mutual
def wE (fs : List (Nat × WF G)) : CE → Wd G
  | .var i, es, g, Q => (match es[i]? with
    | some (.dat d l) => Q d l g
    | some (.own ds _) => Q (.lst ds) 0 g
    | some (.own2 dss _) => Q (.lst (dss.map D.lst)) 0 g
    | _ => False)
  | .int i, _, g, Q => Q (.int i) 2 g
  | .bl b, _, g, Q => Q (.bl b) 2 g
  | .non, _, g, Q => Q .non 2 g
  | .str s, _, g, Q => Q (.str s) 2 g
  | .bin op a b, es, g, Q => wV a (wE fs a) es g fun d1 l1 g1 => wV b (wE fs b) es g1 fun d2 l2 g2 => bop op d1 l1 d2 l2 fun d l => Q d l g2
  | .neg a, es, g, Q => wE fs a es g fun d _ g1 => ∃ i, d = .int i ∧ Q (.int (-i)) 2 g1
  | .not a, es, g, Q => wE fs a es g fun d _ g1 => ∃ b, tru d = some b ∧ Q (.bl (!b)) 2 g1
  | .cmp op a b, es, g, Q => wE fs a es g fun d1 _ g1 => wE fs b es g1 fun d2 _ g2 => cop op d1 d2 fun c => Q (.bl c) 2 g2
  | .chain op op' a b c, es, g, Q => wE fs a es g fun d1 _ g1 => wE fs b es g1 fun d2 _ g2 => cop op d1 d2 fun k => if k = true then (wE fs c es g2 fun d3 _ g3 => cop op' d2 d3 fun k' => Q (.bl k') 2 g3) else Q (.bl false) 2 g2
  | .and a b, es, g, Q => wE fs a es g fun d _ g1 => ∃ k, d = .bl k ∧ if k = true then wE fs b es g1 Q else Q (.bl false) 2 g1
  | .or a b, es, g, Q => wE fs a es g fun d _ g1 => ∃ k, d = .bl k ∧ if k = true then Q (.bl true) 2 g1 else wE fs b es g1 Q
  | .ite c a b, es, g, Q => wE fs c es g fun d _ g1 => ∃ k, tru d = some k ∧ if k = true then wE fs a es g1 Q else wE fs b es g1 Q
  | .tup as, es, g, Q => wA fs as es g fun ds l g1 => ds.length ≤ sizeLine ∧ Q (.tup ds) l g1
  | .lst as, es, g, Q => wA fs as es g fun ds l g1 => ds.length ≤ sizeLine ∧ Q (.lst ds) l g1
  | .rep as n, es, g, Q => wA fs as es g fun ds l g1 => ds.length ≤ sizeLine ∧ wE fs n es g1 fun d _ g2 => ∃ k, d = .int k ∧ k < 2 ^ 63 ∧ -(2 ^ 63) ≤ k ∧ ds.length * k.toNat ≤ sizeLine ∧ Q (.lst (List.replicate k.toNat ds).flatten) l g2
  | .ix a b, es, g, Q => wQ a (wE fs a) es g fun _ ds l g1 => wE fs b es g1 fun d _ g2 => ∃ i e, d = .int i ∧ atI ds i = some e ∧ Q e l g2
  | .sl a lo hi, es, g, Q => wQ a (wE fs a) es g fun t ds l g1 => wO fs lo es g1 fun lo' g2 => wO fs hi es g2 fun hi' g3 =>
      let ys := (ds.drop (HT.sIx ds.length 0 lo')).take (HT.sIx ds.length ds.length hi' - HT.sIx ds.length 0 lo')
      Q (if t = true then .tup ys else .lst ys) l g3
  | .rev a, es, g, Q => wQ a (wE fs a) es g fun t ds l g1 => t = false ∧ Q (.lst ds.reverse) l g1
  | .bi f as, es, g, Q => wA fs as es g fun ds _ g1 => biF f ds fun d l => Q d l g1
  | .sq f a, es, g, Q => wQ a (wE fs a) es g fun t ds l g1 => sqf f t ds l fun d l => Q d l g1
  | .rng t lo hi, es, g, Q => wO fs lo es g fun lo' g1 => wE fs hi es g1 fun d _ g2 => ∃ j, d = .int j ∧ RgOk (lo'.getD 0) j ∧ Q (if t = true then .tup (rngD (lo'.getD 0) j) else .lst (rngD (lo'.getD 0) j)) 2 g2
  | .isi a T, es, g, Q => wE fs a es g fun d _ g1 => ∃ t b, tyOf d = some t ∧ isB t T = some b ∧ Q (.bl b) 2 g1
  | .call f as, es, g, Q => wA fs as es g fun ds m g1 => ∃ n w, fs[f]? = some (n, w) ∧ ds.length = n ∧ w ds g1 fun d l g2 => Q d (if 2 ≤ l then 2 else m) g2
  | .lc vs tg it cond elt, es, g, Q => noOwn es vs ∧ wI fs it es g fun ds l g1 =>
      lcl (fun d g k => bindT tg d l (wipeE es vs) fun es' => wT fs cond es' g fun b g' => if b = true then wE fs elt es' g' fun e le g'' => k (some (e, le)) g'' else k none g') ds [] 2 g1 fun out lv g' => Q (.lst out) lv g'
  | .glc vs tg a cond elt, es, g, Q => noOwn es vs ∧ wE fs a es g fun d _ g1 => ∃ p ds, d = .obj p ∧ g1 p = some (.lst ds) ∧
      lclG p ds (fun d g k => bindT tg d 2 (wipeE es vs) fun es' => wT fs cond es' g fun b g' => if b = true then wE fs elt es' g' fun e le g'' => k (some (e, le)) g'' else k none g') ds [] 2 g1 fun out lv g' => Q (.lst out) lv g'
  | .trk c, es, g, Q => wE fs c es g fun d _ g' => ∃ ds, d = .lst ds ∧ D.lfs ds = true ∧ ∀ p, g' p = none → Q (.obj p) 2 (g'.put p (.lst ds))
  | .ext h as, es, g, Q => wA fs as es g fun ds _ g1 => hS fs h ds g1 Q
  | .meth i c m a as, es, g, Q => wE fs a es g fun d _ g1 => ∃ p dx fs', d = .obj p ∧ g1 p = some (.ins c dx fs') ∧ fs'.lookup m = none ∧ wA fs as es g1 fun ds lm g2 => ∃ n w, fs[i]? = some (n, w) ∧ ds.length + 1 = n ∧ w (.obj p :: ds) g2 fun d l g3 => Q d (if 2 ≤ l then 2 else lm) g3
def wA (fs : List (Nat × WF G)) : CA → Env → G → (List D → Nat → G → Prop) → Prop
  | .nil, _, g, Q => Q [] 2 g
  | .cons a r, es, g, Q => wE fs a es g fun d l g1 => wA fs r es g1 fun ds l' g2 => Q (d :: ds) (min l l') g2
def wO (fs : List (Nat × WF G)) : CO → Env → G → (Option Int → G → Prop) → Prop
  | .no, _, g, Q => Q none g
  | .some a, es, g, Q => wE fs a es g fun d _ g1 => ∃ i, d = .int i ∧ Q (some i) g1
def wT (fs : List (Nat × WF G)) : CO → Env → G → (Bool → G → Prop) → Prop
  | .no, _, g, Q => Q true g
  | .some a, es, g, Q => wE fs a es g fun d _ g1 => ∃ b, tru d = some b ∧ Q b g1
def wI (fs : List (Nat × WF G)) : CI → Env → G → (List D → Nat → G → Prop) → Prop
  | .it a, es, g, Q => wQ a (wE fs a) es g fun _ ds l g1 => Q ds l g1
  | .rng1 a, es, g, Q => wE fs a es g fun d _ g1 => ∃ j, d = .int j ∧ small j ∧ Q (rngD 0 j) 2 g1
  | .rng2 a b, es, g, Q => wE fs a es g fun d1 _ g1 => wE fs b es g1 fun d2 _ g2 => ∃ i j, d1 = .int i ∧ d2 = .int j ∧ small i ∧ small j ∧ Q (rngD i j) 2 g2
  | .rngd a b, es, g, Q => wE fs a es g fun d1 _ g1 => wE fs b es g1 fun d2 _ g2 => ∃ i j, d1 = .int i ∧ d2 = .int j ∧ small i ∧ small j ∧ Q (dwnD i (i - j).toNat) 2 g2
end
end
end VL
/-! Val: readings, and what the hand layer's rules ask of them. -/
namespace VL
open PySem PySem.Spec PyProof.Rows L2
open PySem.P PyProof

theorem _root_.L2.PE.wk {X : Cx} {e : Expr} {t t' : TE} (h : PE X e t) (f : ∀ σ H Q, t' σ H Q → t σ H Q) : PE X e t' := ⟨fun pins s σ H Q I q => h.run pins s σ H Q I (f σ H Q q)⟩
theorem _root_.L2.PT.wk {X : Cx} {e : Expr} {t t' : TT} (h : PT X e t) (f : ∀ σ H Q, t' σ H Q → t σ H Q) : PT X e t' := ⟨fun pins s σ H Q I q => h.run pins s σ H Q I (f σ H Q q)⟩
theorem _root_.L2.PW.wk {X : Cx} {e : Expr} {t t' : TT} (h : PW X e t) (f : ∀ σ H Q, t' σ H Q → t σ H Q) : PW X e t' := ⟨fun wh pins s σ H Q I q => h.run wh pins s σ H Q I (f σ H Q q)⟩
theorem _root_.L2.PA.wk {X : Cx} {e : List Expr} {t t' : TA} (h : PA X e t) (f : ∀ σ H Q, t' σ H Q → t σ H Q) : PA X e t' := ⟨fun pos pins s σ H Q I q => h.run pos pins s σ H Q I (f σ H Q q)⟩
theorem _root_.L2.PI.wk {X : Cx} {tg e : Expr} {t t' : TI} (h : PI X tg e t) (f : ∀ σ H Q, t' σ H Q → t σ H Q) : PI X tg e t' := ⟨fun pins s σ H Q I q => h.run pins s σ H Q I (f σ H Q q)⟩
theorem _root_.L2.PO.wk {X : Cx} {e : Option Expr} {t t' : TO} (h : PO X e t) (f : ∀ σ H Q, t' σ H Q → t σ H Q) : PO X e t' := ⟨fun pins s σ H Q I q => h.run pins s σ H Q I (f σ H Q q)⟩

section
variable {C : Vc G} {pins : List Pin} {ex : List Addr} {ow : Nat → List Addr} {es : Env} {σ : L2.St} {g g' : G} {H H' : Hp}
theorem SR.fresh (S : SR C pins ex ow es σ g H) {p : Addr} (h : H p = none) {l : Nat} : ¬ Zl C ex ow g l p := by
  rintro (z | z | ⟨_, i, z⟩ | ⟨z, _⟩)
  · exact C.gh.dom S.stp.ok z h
  · exact (S.exs p z).1 h
  · exact (S.own i p z).1 h
  · exact S.stp.kp.dom p z h
theorem Rp.same {K : PySem.W.Frag} {Z : Addr → Prop} {d : D} {v : V} (e : Same H H') (r : Rp K H Z d v) : Rp K H' Z d v := Rp.kp (Z := fun _ => False) (.of e) (fun _ z => z.elim) (fun _ _ z => z) r
theorem RpA.same {K : PySem.W.Frag} {Z : Addr → Prop} {d : List D} {v : List V} (e : Same H H') (r : RpA K H Z d v) : RpA K H' Z d v := RpA.kp (Z := fun _ => False) (.of e) (fun _ z => z.elim) (fun _ _ z => z) r
theorem SR.newL (S : SR C pins ex ow es σ g H) {p : Addr} (h : H p = none) {l : Nat} {ds : List D} {xs : List V} (r : RpA C.K H (Zl C ex ow g l) ds xs) : Rp C.K (upd H p (.lst xs)) (Zl C ex ow g l) (.lst ds) (.ref p) :=
  .lst ⟨S.fresh h, upd_same⟩ (r.same (Same.new h))
theorem SR.newT (S : SR C pins ex ow es σ g H) {p : Addr} (h : H p = none) {l : Nat} {ds : List D} {xs : List V} (r : RpA C.K H (Zl C ex ow g l) ds xs) : Rp C.K (upd H p (.tup xs)) (Zl C ex ow g l) (.tup ds) (.ref p) :=
  .tup (.inl (.inl upd_same)) (r.same (Same.new h))

/-! ### readings -/
variable (C)
def rd (w : Wd G) : TE := fun σ H Q => ∃ pins ex ow es g P, SR C pins ex ow es σ g H ∧ w es g P ∧
  ∀ d l g' v H', P d l g' → Stp C.gh g H g' H' → Rp C.K H' (Zl C ex ow g' l) d v → Q v H'
/-- where a list that is given back may not stand -/
def Zt (g : G) (l : Nat) (a : Addr) : Prop := C.gh.fp g a ∨ (C.H0 a ≠ none ∧ (2 ≤ l ∨ C.Z0 a))
/-- of an operand: a list may be one's own -/
def Rw (ex : List Addr) (ow : Nat → List Addr) (g : G) (H : Hp) (l : Nat) (d : D) (v : V) : Prop := match d with
  | .lst ds => ∃ a xs, v = .ref a ∧ Ls H (Zt C g l) a xs ∧ RpA C.K H (Zl C ex ow g l) ds xs
  | d => Rp C.K H (Zl C ex ow g l) d v
def rdV (w : Wd G) : TE := fun σ H Q => ∃ pins ex ow es g P, SR C pins ex ow es σ g H ∧ w es g P ∧
  ∀ d l g' v H', P d l g' → Stp C.gh g H g' H' → Rw C ex ow g' H' l d v → Q v H'
/-- of a sequence -/
def Sv (ex : List Addr) (ow : Nat → List Addr) (g : G) (H : Hp) (t : Bool) (ds : List D) (l : Nat) (a : Addr) (xs : List V) : Prop :=
  (if t = true then SqT C.K H a xs else Ls H (C.gh.fp g) a xs ∨ SqF C.K H a xs) ∧ RpA C.K H (Zl C ex ow g l) ds xs
abbrev Ws (G : Type) := Env → G → (Bool → List D → Nat → G → Prop) → Prop
def rdQ (w : Ws G) : TE := fun σ H Q => ∃ pins ex ow es g P, SR C pins ex ow es σ g H ∧ w es g P ∧
  ∀ t ds l g' a xs H', P t ds l g' → Stp C.gh g H g' H' → Sv C ex ow g' H' t ds l a xs → Q (.ref a) H'
abbrev Wls (G : Type) := Env → G → (List D → Nat → G → Prop) → Prop
def rdA (w : Wls G) : TA := fun σ H Q => ∃ pins ex ow es g P, SR C pins ex ow es σ g H ∧ w es g P ∧
  ∀ ds l g' vs H', P ds l g' → Stp C.gh g H g' H' → RpA C.K H' (Zl C ex ow g' l) ds vs → Q vs H'
def rdT (w : Wd G) : TT := fun σ H Q => ∃ pins ex ow es g P, SR C pins ex ow es σ g H ∧ w es g P ∧
  ∀ d l g', P d l g' → ∃ b, tru d = some b ∧ ∀ H', Stp C.gh g H g' H' → Q b H'
def rdO (w : Env → G → (Option Int → G → Prop) → Prop) : TO := fun σ H Q => ∃ pins ex ow es g P, SR C pins ex ow es σ g H ∧ w es g P ∧
  ∀ o g' H', P o g' → Stp C.gh g H g' H' → Q o H'
variable {C}
theorem Zt.zl {l : Nat} {a : Addr} (z : Zt C g l a) : Zl C ex ow g l a := by
  rcases z with z | z
  · exact .inl z
  · exact .inr (.inr (.inr z))
theorem Ls.stpT (s : Stp C.gh g H g' H') {l : Nat} {a : Addr} {xs : List V} (h : Ls H (Zt C g l) a xs) : Ls H' (Zt C g' l) a xs :=
  Ls.kp s.kp (fun _ z => .inl z) (fun a n z => by
    rcases z with z | z
    · rcases s.fp a z with q | q
      · exact .inl q
      · exact absurd q n
    · exact .inr z) h
theorem Ls.fp {l : Nat} {a : Addr} {xs : List V} (h : Ls H (Zt C g l) a xs) : Ls H (C.gh.fp g) a xs := ⟨fun z => h.1 (.inl z), h.2⟩
theorem Rw.of {l : Nat} {d : D} {v : V} (r : Rp C.K H (Zl C ex ow g l) d v) : Rw C ex ow g H l d v := by
  cases d with
  | lst ds =>
    cases r with
    | lst h1 h2 =>
      exact ⟨_, _, rfl, ⟨fun z => h1.1 (Zt.zl z), h1.2⟩, h2⟩
  | _ => exact r
theorem Ls.stp (s : Stp C.gh g H g' H') {a : Addr} {xs : List V} (h : Ls H (C.gh.fp g) a xs) : Ls H' (C.gh.fp g') a xs :=
  Ls.kp s.kp (fun _ z => z) (fun a n z => by
    rcases s.fp a z with q | q
    · exact q
    · exact absurd q n) h
theorem Rw.stp (s : Stp C.gh g H g' H') {l : Nat} {d : D} {v : V} (r : Rw C ex ow g H l d v) : Rw C ex ow g' H' l d v := by
  cases d with
  | lst ds =>
    obtain ⟨a, xs, e, h1, h2⟩ := r
    exact ⟨a, xs, e, Ls.stpT s h1, h2.stp s⟩
  | non => exact Rp.stp s r
  | bl b => exact Rp.stp s r
  | int i => exact Rp.stp s r
  | str x => exact Rp.stp s r
  | tup ds => exact Rp.stp s r
  | obj a => exact Rp.stp s r
  | frz ns => exact Rp.stp s r
theorem Sv.stp (s : Stp C.gh g H g' H') {t : Bool} {ds : List D} {l : Nat} {a : Addr} {xs : List V} (r : Sv C ex ow g H t ds l a xs) : Sv C ex ow g' H' t ds l a xs := by
  obtain ⟨h1, h2⟩ := r
  refine ⟨?_, h2.stp s⟩
  cases t with
  | true => exact s.kp.tup h1
  | false =>
    rcases h1 with h1 | h1
    · exact .inl (Ls.stp s h1)
    · exact .inr (s.kp.frz h1)
theorem Sv.sq {t : Bool} {ds : List D} {l : Nat} {a : Addr} {xs : List V} (r : Sv C ex ow g H t ds l a xs) : SqL C.K H a xs ∨ SqT C.K H a xs := by
  obtain ⟨h1, _⟩ := r
  cases t with
  | true => exact .inr h1
  | false =>
    rcases h1 with h1 | h1
    · exact .inl (Ls.sq h1)
    · exact .inl h1.sq

/-! ### names -/
section
variable {X : Cx} {e : Expr} {fs : List (Nat × WF G)} {i : Nat}
theorem own_ls (S : SR C pins ex ow es σ g H) {ds : List D} {l : Nat} (q : es[i]? = some (.own ds l)) : ∃ a xs, σ[i]? = some (some (.ref a)) ∧ H a = some (.lst xs) ∧ ¬ C.gh.fp g a ∧ a ∉ ex ∧ C.H0 a = none ∧ 1 ≤ l ∧ RpA C.K H (Zl C ex ow g l) ds xs := by
  obtain ⟨a, xs, q1, q2, q3, q4, q5⟩ := S.slot i _ q
  obtain ⟨h1, h2, h3, h4⟩ := S.own i a (by rw [q1]; exact List.mem_singleton.mpr rfl)
  exact ⟨a, xs, q2, q3, h3, h4, h2, q4, q5⟩
theorem zl0 {a : Addr} (h1 : ¬ C.gh.fp g a) (h2 : a ∉ ex) (h3 : C.H0 a = none) : ¬ Zl C ex ow g 0 a := by
  rintro (z | z | ⟨z, _⟩ | ⟨z, _⟩)
  · exact h1 z
  · exact h2 z
  · exact absurd z (by decide)
  · exact z h3
theorem rpa_mk {Z : Addr → Prop} {K : PySem.W.Frag} : ∀ {rs : List Addr} {dss : List (List D)}, rs.length = dss.length → (∀ (k : Nat) (r : Addr) (ds : List D), rs[k]? = some r → dss[k]? = some ds → Rp K H Z (.lst ds) (.ref r)) → RpA K H Z (dss.map D.lst) (rs.map V.ref)
  | [], [], _, _ => .nil
  | [], _ :: _, e, _ => by simp at e
  | _ :: _, [], e, _ => by simp at e
  | r :: rs, ds :: dss, e, h => .cons (h 0 r ds rfl rfl) (rpa_mk (by simpa using e) fun k r ds h1 h2 => h (k + 1) r ds (by simpa using h1) (by simpa using h2))
theorem own2_ls (S : SR C pins ex ow es σ g H) {dss : List (List D)} {l : Nat} (q : es[i]? = some (.own2 dss l)) : ∃ a xs, σ[i]? = some (some (.ref a)) ∧ H a = some (.lst xs) ∧ ¬ C.gh.fp g a ∧ a ∉ ex ∧ C.H0 a = none ∧ RpA C.K H (Zl C ex ow g 0) (dss.map D.lst) xs := by
  obtain ⟨a, rs, q1, q2, q3, q4, q5, q6⟩ := S.slot i _ q
  obtain ⟨h1, h2, h3, h4⟩ := S.own i a (by rw [q1]; exact List.mem_cons_self)
  refine ⟨a, rs.map V.ref, q2, q3, h3, h4, h2, rpa_mk q5 fun k r ds e1 e2 => ?_⟩
  obtain ⟨xs, e3, e4⟩ := q6 k r ds e1 e2
  obtain ⟨k1, k2, k3, k4⟩ := S.own i r (by rw [q1]; exact List.mem_cons_of_mem _ (List.mem_of_getElem? e1))
  exact .lst ⟨zl0 k3 k4 k2, e3⟩ (e4.low (Nat.zero_le _))
theorem rd_var (h : PE X e (tVar i)) : PE X e (rd C (wE fs (.var i))) := h.wk fun σ H Q q => by
  obtain ⟨pins, ex, ow, es, g, P, S, hw, k⟩ := q
  unfold wE at hw
  split at hw
  · rename_i d l he
    obtain ⟨v, h1, h2⟩ := S.dat he
    exact ⟨v, h1, k _ _ _ v H hw (.refl S.stp.ok) h2⟩
  · rename_i ds l he
    obtain ⟨a, xs, h1, h2, h3, h4, h5, _, h6⟩ := own_ls S he
    exact ⟨.ref a, h1, k _ _ _ _ H hw (.refl S.stp.ok) (.lst ⟨zl0 h3 h4 h5, h2⟩ (h6.low (Nat.zero_le _)))⟩
  · rename_i dss l he
    obtain ⟨a, xs, h1, h2, h3, h4, h5, h6⟩ := own2_ls S he
    exact ⟨.ref a, h1, k _ _ _ _ H hw (.refl S.stp.ok) (.lst ⟨zl0 h3 h4 h5, h2⟩ h6)⟩
  · exact hw.elim
theorem rdQ_var (h : PE X e (tVar i)) : PE X e (rdQ C (wQ (.var i) (wE fs (.var i)))) := h.wk fun σ H Q q => by
  obtain ⟨pins, ex, ow, es, g, P, S, hw, k⟩ := q
  unfold wQ at hw
  dsimp only at hw
  split at hw
  · rename_i ds l he
    obtain ⟨a, xs, h1, h2, h3, h4, h5, _, h6⟩ := own_ls S he
    exact ⟨.ref a, h1, k _ _ _ _ a xs H hw (.refl S.stp.ok) ⟨.inl ⟨h3, h2⟩, h6⟩⟩
  · rename_i dss l he
    obtain ⟨a, xs, h1, h2, h3, h4, h5, h6⟩ := own2_ls S he
    exact ⟨.ref a, h1, k _ _ _ _ a xs H hw (.refl S.stp.ok) ⟨.inl ⟨h3, h2⟩, h6⟩⟩
  · rename_i ds l he
    obtain ⟨v, h1, h2⟩ := S.dat he
    obtain ⟨a, xs, rfl, h3, h4⟩ := Rw.of h2
    exact ⟨_, h1, k _ _ _ _ a xs H hw (.refl S.stp.ok) ⟨.inl h3.fp, h4⟩⟩
  · rename_i ds l he
    obtain ⟨v, h1, h2⟩ := S.dat he
    cases h2 with
    | tup h3 h4 => exact ⟨_, h1, k _ _ _ _ _ _ H hw (.refl S.stp.ok) ⟨h3, h4⟩⟩
  · rename_i ns l he
    obtain ⟨v, h1, h2⟩ := S.dat he
    cases h2 with
    | frz h3 => exact ⟨_, h1, k _ _ _ _ _ _ H hw (.refl S.stp.ok) ⟨.inr h3, RpA.of_ints ns⟩⟩
  · exact hw.elim
theorem rdV_var (h : PE X e (tVar i)) : PE X e (rdV C (wV (.var i) (wE fs (.var i)))) := h.wk fun σ H Q q => by
  obtain ⟨pins, ex, ow, es, g, P, S, hw, k⟩ := q
  unfold wV at hw
  dsimp only at hw
  split at hw
  · rename_i ds l he
    obtain ⟨a, xs, h1, h2, h3, h4, h5, _, h6⟩ := own_ls S he
    exact ⟨.ref a, h1, k _ _ _ _ H hw (.refl S.stp.ok) ⟨a, xs, rfl, ⟨fun z => z.elim h3 fun z => z.1 h5, h2⟩, h6⟩⟩
  · unfold wE at hw
    split at hw
    · rename_i d l he
      obtain ⟨v, h1, h2⟩ := S.dat he
      exact ⟨v, h1, k _ _ _ v H hw (.refl S.stp.ok) (Rw.of h2)⟩
    · rename_i ds l he
      obtain ⟨a, xs, h1, h2, h3, h4, h5, _, h6⟩ := own_ls S he
      exact ⟨.ref a, h1, k _ _ _ _ H hw (.refl S.stp.ok) (Rw.of (.lst ⟨zl0 h3 h4 h5, h2⟩ (h6.low (Nat.zero_le _))))⟩
    · rename_i dss l he
      obtain ⟨a, xs, h1, h2, h3, h4, h5, h6⟩ := own2_ls S he
      exact ⟨.ref a, h1, k _ _ _ _ H hw (.refl S.stp.ok) (Rw.of (.lst ⟨zl0 h3 h4 h5, h2⟩ h6))⟩
    · exact hw.elim
theorem rdQ_of {c : CE} {w : Wd G} (h : PE X e (rd C w)) (hc : ∀ i, c ≠ .var i) : PE X e (rdQ C (wQ c w)) := h.wk fun σ H Q q => by
  obtain ⟨pins, ex, ow, es, g, P, S, hw, k⟩ := q
  have hw2 : w es g fun d l g' => match d with
      | .lst ds => P false ds l g'
      | .tup ds => P true ds l g'
      | .frz ns => P false (ns.map D.int) 2 g'
      | _ => False := by
    cases c <;> first | exact absurd rfl (hc _) | exact hw
  refine ⟨pins, ex, ow, es, g, _, S, hw2, fun d l g' v H' p s r => ?_⟩
  cases d with
  | lst ds =>
    obtain ⟨a, xs, rfl, h3, h4⟩ := Rw.of r
    exact k _ _ _ _ a xs H' p s ⟨.inl h3.fp, h4⟩
  | tup ds =>
    cases r with
    | tup h3 h4 => exact k _ _ _ _ _ _ H' p s ⟨h3, h4⟩
  | frz ns =>
    cases r with
    | frz h3 => exact k _ _ _ _ _ _ H' p s ⟨.inr h3, RpA.of_ints ns⟩
  | _ => exact p.elim
theorem rdV_of {c : CE} {w : Wd G} (h : PE X e (rd C w)) (hc : ∀ i, c ≠ .var i) : PE X e (rdV C (wV c w)) := h.wk fun σ H Q q => by
  obtain ⟨pins, ex, ow, es, g, P, S, hw, k⟩ := q
  have hw2 : w es g P := by
    cases c <;> first | exact absurd rfl (hc _) | exact hw
  exact ⟨pins, ex, ow, es, g, _, S, hw2, fun d l g' v H' p s r => k d l g' v H' p s (Rw.of r)⟩
/-- a value of one's own making -/
theorem rd_c {v : V} {d : D} (hv : ∀ {K : PySem.W.Frag} {H : Hp} {Z : Addr → Prop}, Rp K H Z d v) (h : PE X e (tC v)) : PE X e (rd C fun _ g Q => Q d 2 g) := h.wk fun σ H Q q => by
  obtain ⟨pins, ex, ow, es, g, P, S, hw, k⟩ := q
  exact k _ _ _ v H hw (.refl S.stp.ok) hv
end

/-! ### operators -/
def rBop (K : PySem.W.Frag) : Bop → R2
  | .add => fun x y H Q => rI0 (fun i j => .int (i + j)) x y H Q ∨ (rCat x y H Q ∨ rCatA K x y H Q)
  | .sub => rI0 fun i j => .int (i - j)
  | .mul => rI CMulW fun i j => .int (i * j)
  | .fdiv => rI (fun _ j => DivOk j) fun i j => .int (i.fdiv j)
  | .mod => rI (fun _ j => j ≠ 0) fun i j => .int (i.fmod j)
def Bop.op : Bop → Operator
  | .add => .Add | .sub => .Sub | .mul => .Mult | .fdiv => .FloorDiv | .mod => .Mod
theorem op_bop {X : Cx} : ∀ o : Bop, OpR X (binaryOp o.op) (rBop X.K o)
  | .add => op_add.or (op_cat.or op_catA)
  | .sub => op_sub
  | .mul => op_mulW
  | .fdiv => opI fun i j _ _ _ _ _ hc q => floordiv_int hc.1 q (.inl (PyProof.noPylong_of_log2 hc.2))
  | .mod => op_modN
theorem bop_ok {op : Bop} {l1 l2 : Nat} {d1 d2 : D} {v1 v2 : V} {P : Pv} {Q : VK} (S : SR C pins ex ow es σ g H) (r1 : Rw C ex ow g H l1 d1 v1) (r2 : Rw C ex ow g H l2 d2 v2) (h : bop op d1 l1 d2 l2 P)
    (k : ∀ d l v H', P d l → Same H H' → Rp C.K H' (Zl C ex ow g l) d v → Q v H') : rBop C.K op v1 v2 H Q := by
  have fin : ∀ i : Int, P (.int i) 2 → Q (.int i) H := fun i p => k _ _ _ H p (Same.refl H) (.int i)
  cases op with
  | add =>
    cases d1 with
    | int i =>
      cases d2 with
      | int j =>
        cases r1
        cases r2
        exact .inl ⟨i, j, rfl, rfl, fin _ h⟩
      | _ => exact h.elim
    | lst xs =>
      cases d2 with
      | lst ys =>
        obtain ⟨a, us, rfl, a1, a2⟩ := r1
        obtain ⟨b, ws, rfl, b1, b2⟩ := r2
        obtain ⟨hz, p⟩ := h
        have e1 := a2.len
        have e2 := b2.len
        exact .inr (.inl ⟨a, b, us, ws, rfl, rfl, a1.2, b1.2, by omega, fun p' hp => k _ _ _ _ p (Same.new hp) (S.newL hp ((a2.low (Nat.min_le_left _ _)).app (b2.low (Nat.min_le_right _ _))))⟩)
      | _ => exact h.elim
    | tup xs =>
      cases d2 with
      | tup ys =>
        obtain ⟨hz, p⟩ := h
        cases r1 with
        | tup a1 a2 =>
          cases r2 with
          | tup b1 b2 =>
            have e1 := a2.len
            have e2 := b2.len
            have c1 := a2.low (Nat.min_le_left l1 l2)
            have c2 := b2.low (Nat.min_le_right l1 l2)
            refine .inr (.inr ⟨_, _, _, _, rfl, rfl, a1, b1, by omega, fun z => ?_, fun _ z => ?_, fun _ _ p' hp => ?_⟩)
            · subst z
              have : xs = [] := List.length_eq_zero_iff.mp (by simpa using e1)
              subst this
              exact k _ _ _ _ p (Same.refl H) (.tup b1 (by simpa using c2))
            · subst z
              have : ys = [] := List.length_eq_zero_iff.mp (by simpa using e2)
              subst this
              exact k _ _ _ _ p (Same.refl H) (.tup a1 (by simpa using c1))
            · exact k _ _ _ _ p (Same.new hp) (S.newT hp (c1.app c2))
      | _ => exact h.elim
    | _ => cases d2 <;> exact h.elim
  | sub =>
    cases d1 <;> first | (cases d2 <;> first | (cases r1; cases r2; exact ⟨_, _, rfl, rfl, fin _ h⟩) | exact h.elim) | exact h.elim
  | mul =>
    cases d1 <;> first | (cases d2 <;> first | (cases r1; cases r2; exact ⟨_, _, rfl, rfl, h.1, fin _ h.2⟩) | exact h.elim) | exact h.elim
  | fdiv =>
    cases d1 <;> first | (cases d2 <;> first | (cases r1; cases r2; exact ⟨_, _, rfl, rfl, h.1, fin _ h.2⟩) | exact h.elim) | exact h.elim
  | mod =>
    cases d1 <;> first | (cases d2 <;> first | (cases r1; cases r2; exact ⟨_, _, rfl, rfl, h.1, fin _ h.2⟩) | exact h.elim) | exact h.elim
end
end VL
/-! Val: each construct's reading. -/
namespace VL
open PySem PySem.Spec PyProof.Rows L2

section
variable {C : Vc G} {X : Cx} {fs : List (Nat × WF G)} {e ea eb ec : Expr} {wa wb wc : Wd G} {pos : Pos}
theorem pe_bin (hK : X.K = C.K) {op : Bop} (ha : PE X ea (rdV C wa)) (hb : PE X eb (rdV C wb)) :
    PE X (.BinOp ea op.op eb pos) (rd C fun es g Q => wa es g fun d1 l1 g1 => wb es g1 fun d2 l2 g2 => bop op d1 l1 d2 l2 fun d l => Q d l g2) := by
  have h := pe_op (pos := pos) (op_bop (X := X) op) ha hb
  rw [hK] at h
  refine h.wk fun σ H Q q => ?_
  obtain ⟨pins, ex, ow, es, g, P, S, hw, k⟩ := q
  refine ⟨pins, ex, ow, es, g, _, S, hw, fun d1 l1 g1 v1 H1 p1 s1 r1 => ⟨pins, ex, ow, es, g1, _, S.stp' s1, p1, fun d2 l2 g2 v2 H2 p2 s2 r2 => ?_⟩⟩
  exact bop_ok ((S.stp' s1).stp' s2) (r1.stp s2) r2 p2 fun d l v H' p e r => k d l g2 v H' p ((s1.trans s2).then e) r
theorem pe_negV (ha : PE X ea (rd C wa)) : PE X (.UnaryOp .USub ea pos) (rd C fun es g Q => wa es g fun d _ g1 => ∃ i, d = .int i ∧ Q (.int (-i)) 2 g1) :=
  (pe_un un_neg ha).wk fun σ H Q q => by
    obtain ⟨pins, ex, ow, es, g, P, S, hw, k⟩ := q
    refine ⟨pins, ex, ow, es, g, _, S, hw, fun d1 l1 g1 v1 H1 p1 s1 r1 => ?_⟩
    obtain ⟨i, rfl, p⟩ := p1
    cases r1
    exact ⟨i, rfl, k _ _ _ _ H1 p s1 (.int _)⟩
/-- truth of data -/
theorem tru_of {K : PySem.W.Frag} {H : Hp} {Z : Addr → Prop} {d : D} {v : V} {b : Bool} (h : tru d = some b) (r : Rp K H Z d v) : TruV K v H b := by
  cases r with
  | non => cases h; rfl
  | bl c => cases h; rfl
  | int i => cases h; rfl
  | str s => cases h
  | obj a => cases h
  | frz h1 => cases h
  | lst h1 h2 =>
    cases h
    refine .inl ⟨_, h1.sq, ?_⟩
    cases h2 <;> rfl
  | tup h1 h2 =>
    cases h
    refine .inr (.inl ⟨_, h1, ?_⟩)
    cases h2 <;> rfl
theorem pe_notV (hK : X.K = C.K) (ha : PE X ea (rd C wa)) : PE X (.UnaryOp .Not ea pos) (rd C fun es g Q => wa es g fun d _ g1 => ∃ b, tru d = some b ∧ Q (.bl (!b)) 2 g1) := by
  refine (pe_notT ha).wk fun σ H Q q => ?_
  obtain ⟨pins, ex, ow, es, g, P, S, hw, k⟩ := q
  refine ⟨pins, ex, ow, es, g, _, S, hw, fun d1 l1 g1 v1 H1 p1 s1 r1 => ?_⟩
  obtain ⟨b, hb, p⟩ := p1
  rw [hK]
  exact ⟨b, tru_of hb r1, k _ _ _ _ H1 p s1 (.bl _)⟩
theorem pt_notV (ha : PT X ea (rdT C wa)) : PT X (.UnaryOp .Not ea pos) (rdT C fun es g Q => wa es g fun d _ g1 => ∃ b, tru d = some b ∧ Q (.bl (!b)) 2 g1) :=
  (pt_not ha).wk fun σ H Q q => by
    obtain ⟨pins, ex, ow, es, g, P, S, hw, k⟩ := q
    refine ⟨pins, ex, ow, es, g, _, S, hw, fun d1 l1 g1 p1 => ?_⟩
    obtain ⟨b, hb, p⟩ := p1
    obtain ⟨c, hc, kc⟩ := k _ _ _ p
    cases hc
    exact ⟨b, hb, kc⟩
/-- a test by its value's truth -/
theorem pt_trV (hK : X.K = C.K) (ha : PE X ea (rd C wa)) (he : ∀ whole, isTrue ea X.env whole = (do let v ← whole; standAt ea.pos; holding [v] (truthy v))) : PT X ea (rdT C wa) := by
  refine (pt_truth ha he).wk fun σ H Q q => ?_
  obtain ⟨pins, ex, ow, es, g, P, S, hw, k⟩ := q
  refine ⟨pins, ex, ow, es, g, _, S, hw, fun d1 l1 g1 v1 H1 p1 s1 r1 => ?_⟩
  obtain ⟨b, hb, p⟩ := k _ _ _ p1
  rw [hK]
  exact ⟨b, tru_of hb r1, p H1 s1⟩

/-! ### and, or, a if c else b -/
variable {rest : List Expr}
abbrev mAnd (wa wb : Wd G) : Wd G := fun es g Q => wa es g fun d _ g1 => ∃ k, d = .bl k ∧ if k = true then wb es g1 Q else Q (.bl false) 2 g1
abbrev mOr (wa wb : Wd G) : Wd G := fun es g Q => wa es g fun d _ g1 => ∃ k, d = .bl k ∧ if k = true then Q (.bl true) 2 g1 else wb es g1 Q
abbrev mIte (wc wa wb : Wd G) : Wd G := fun es g Q => wc es g fun d _ g1 => ∃ k, tru d = some k ∧ if k = true then wa es g1 Q else wb es g1 Q
theorem pe_andV (ha : PE X ea (rd C wa)) (hb : PE X (.BoolOp .And (eb :: rest) pos) (rd C wb)) : PE X (.BoolOp .And (ea :: eb :: rest) pos) (rd C (mAnd wa wb)) :=
  (pe_and ha hb).wk fun σ H Q q => by
    obtain ⟨pins, ex, ow, es, g, P, S, hw, k⟩ := q
    refine ⟨pins, ex, ow, es, g, _, S, hw, fun d1 l1 g1 v1 H1 p1 s1 r1 => ?_⟩
    obtain ⟨c, rfl, p⟩ := p1
    cases r1
    refine ⟨c, rfl, ?_⟩
    cases c with
    | true => exact ⟨pins, ex, ow, es, g1, P, S.stp' s1, p, fun d l g2 v H2 p2 s2 r2 => k d l g2 v H2 p2 (s1.trans s2) r2⟩
    | false => exact k _ _ _ _ H1 p s1 (.bl false)
theorem pe_orV (ha : PE X ea (rd C wa)) (hb : PE X (.BoolOp .Or (eb :: rest) pos) (rd C wb)) : PE X (.BoolOp .Or (ea :: eb :: rest) pos) (rd C (mOr wa wb)) :=
  (pe_or ha hb).wk fun σ H Q q => by
    obtain ⟨pins, ex, ow, es, g, P, S, hw, k⟩ := q
    refine ⟨pins, ex, ow, es, g, _, S, hw, fun d1 l1 g1 v1 H1 p1 s1 r1 => ?_⟩
    obtain ⟨c, rfl, p⟩ := p1
    cases r1
    refine ⟨c, rfl, ?_⟩
    cases c with
    | false => exact ⟨pins, ex, ow, es, g1, P, S.stp' s1, p, fun d l g2 v H2 p2 s2 r2 => k d l g2 v H2 p2 (s1.trans s2) r2⟩
    | true => exact k _ _ _ _ H1 p s1 (.bl true)
theorem pw_andV (ha : PT X ea (rdT C wa)) (hb : PW X (.BoolOp .And (eb :: rest) pos) (rdT C wb)) : PW X (.BoolOp .And (ea :: eb :: rest) pos) (rdT C (mAnd wa wb)) :=
  (pw_and ha hb).wk fun σ H Q q => by
    obtain ⟨pins, ex, ow, es, g, P, S, hw, k⟩ := q
    refine ⟨pins, ex, ow, es, g, _, S, hw, fun d1 l1 g1 p1 => ?_⟩
    obtain ⟨c, rfl, p⟩ := p1
    refine ⟨c, rfl, fun H1 s1 => ?_⟩
    cases c with
    | true =>
      refine ⟨pins, ex, ow, es, g1, P, S.stp' s1, p, fun d l g2 p2 => ?_⟩
      obtain ⟨b, hb, kb⟩ := k d l g2 p2
      exact ⟨b, hb, fun H2 s2 => kb H2 (s1.trans s2)⟩
    | false =>
      obtain ⟨b, hb, kb⟩ := k _ _ _ p
      cases hb
      exact kb H1 s1
theorem pw_orV (ha : PT X ea (rdT C wa)) (hb : PW X (.BoolOp .Or (eb :: rest) pos) (rdT C wb)) : PW X (.BoolOp .Or (ea :: eb :: rest) pos) (rdT C (mOr wa wb)) :=
  (pw_or ha hb).wk fun σ H Q q => by
    obtain ⟨pins, ex, ow, es, g, P, S, hw, k⟩ := q
    refine ⟨pins, ex, ow, es, g, _, S, hw, fun d1 l1 g1 p1 => ?_⟩
    obtain ⟨c, rfl, p⟩ := p1
    refine ⟨c, rfl, fun H1 s1 => ?_⟩
    cases c with
    | false =>
      refine ⟨pins, ex, ow, es, g1, P, S.stp' s1, p, fun d l g2 p2 => ?_⟩
      obtain ⟨b, hb, kb⟩ := k d l g2 p2
      exact ⟨b, hb, fun H2 s2 => kb H2 (s1.trans s2)⟩
    | true =>
      obtain ⟨b, hb, kb⟩ := k _ _ _ p
      cases hb
      exact kb H1 s1
theorem pe_iteV (hc : PT X ec (rdT C wc)) (ha : PE X ea (rd C wa)) (hb : PE X eb (rd C wb)) : PE X (.IfExp ec ea eb pos) (rd C (mIte wc wa wb)) :=
  (pe_ifExp hc ha hb).wk fun σ H Q q => by
    obtain ⟨pins, ex, ow, es, g, P, S, hw, k⟩ := q
    refine ⟨pins, ex, ow, es, g, _, S, hw, fun d1 l1 g1 p1 => ?_⟩
    obtain ⟨c, hc, p⟩ := p1
    refine ⟨c, hc, fun H1 s1 => ?_⟩
    cases c with
    | true => exact ⟨pins, ex, ow, es, g1, P, S.stp' s1, p, fun d l g2 v H2 p2 s2 r2 => k d l g2 v H2 p2 (s1.trans s2) r2⟩
    | false => exact ⟨pins, ex, ow, es, g1, P, S.stp' s1, p, fun d l g2 v H2 p2 s2 r2 => k d l g2 v H2 p2 (s1.trans s2) r2⟩
theorem pt_iteV (hc : PT X ec (rdT C wc)) (ha : PT X ea (rdT C wa)) (hb : PT X eb (rdT C wb)) : PT X (.IfExp ec ea eb pos) (rdT C (mIte wc wa wb)) := by
  refine ⟨fun ps s σ H Q I q => ?_⟩
  obtain ⟨pins, ex, ow, es, g, P, S, hw, k⟩ := q
  show wpAny (model X.prog X.w) X.A (do
    if ← isTrue ec X.env (eval ec X.env) then isTrue ea X.env (eval ea X.env) else isTrue eb X.env (eval eb X.env)) _ _ s
  refine wpAny_bind (thn (hc.run ps s σ H (fun c H1 => if c = true then rdT C wa σ H1 Q else rdT C wb σ H1 Q) I ⟨pins, ex, ow, es, g, _, S, hw, fun d1 l1 g1 p1 => ?_⟩) fun c s1 ⟨H1, I1, q1⟩ => ?_)
  · obtain ⟨c, hc, p⟩ := p1
    refine ⟨c, hc, fun H1 s1 => ?_⟩
    cases c with
    | true =>
      refine ⟨pins, ex, ow, es, g1, P, S.stp' s1, p, fun d l g2 p2 => ?_⟩
      obtain ⟨b, hb, kb⟩ := k d l g2 p2
      exact ⟨b, hb, fun H2 s2 => kb H2 (s1.trans s2)⟩
    | false =>
      refine ⟨pins, ex, ow, es, g1, P, S.stp' s1, p, fun d l g2 p2 => ?_⟩
      obtain ⟨b, hb, kb⟩ := k d l g2 p2
      exact ⟨b, hb, fun H2 s2 => kb H2 (s1.trans s2)⟩
  · cases c with
    | true => exact ha.run ps s1 σ H1 Q I1 q1
    | false => exact hb.run ps s1 σ H1 Q I1 q1

/-! ### comparisons -/
mutual
theorem Rp.dp {K : PySem.W.Frag} {H : Hp} {Z : Addr → Prop} : ∀ (d : D) (v : V), d.pl = true → Rp K H Z d v → Dp K H v d.p
  | .non, _, _, h => by cases h; exact .non
  | .bl b, _, _, h => by cases h; exact .bl b
  | .int i, _, _, h => by cases h; exact .int i
  | .str s, _, _, h => by cases h; exact .str s
  | .obj a, _, e, _ => by simp [D.pl] at e
  | .frz a, _, e, _ => by simp [D.pl] at e
  | .lst ds, _, e, h => by
    cases h with
    | lst h1 h2 => exact .lst h1.sq (RpA.dp ds _ (by simpa [D.pl] using e) h2)
  | .tup ds, _, e, h => by
    cases h with
    | tup h1 h2 => exact .tup h1 (RpA.dp ds _ (by simpa [D.pl] using e) h2)
theorem RpA.dp {K : PySem.W.Frag} {H : Hp} {Z : Addr → Prop} : ∀ (ds : List D) (vs : List V), D.pls ds = true → RpA K H Z ds vs → DpAll K H vs (D.ps ds)
  | [], _, _, h => by cases h; exact .nil
  | d :: ds, _, e, h => by
    have e2 : d.pl = true ∧ D.pls ds = true := by simpa [D.pls] using e
    cases h with
    | cons h1 h2 => exact .cons (Rp.dp d _ e2.1 h1) (RpA.dp ds _ e2.2 h2)
end
def Cop.op : Cop → CmpOp
  | .eq => .Eq | .ne => .NotEq | .lt => .Lt | .le => .LtE | .gt => .Gt | .ge => .GtE | .is_ => .Is | .isnt => .IsNot | .in_ => .In | .notin => .NotIn
def rIsNon (neg : Bool) : R2 := fun x y H Q => y = .non ∧ Q (.bl (if neg = true then !decide (x = .non) else decide (x = .non))) H
def rInS (K : PySem.W.Frag) (t neg : Bool) : R2 := fun x y H Q => ∃ d ds, Dp K H x d ∧ Dp K H y (if t = true then .tuple ds else .list ds) ∧ SeqAt.shaped d = true ∧ SeqAt.shaped (if t = true then .tuple ds else .list ds) = true ∧ Q (.bl (if neg = true then !(ds.any fun z => PyData.eqv z d) else ds.any fun z => PyData.eqv z d)) H
theorem op_inTup (hu : X.A.units + 65 < cLine) : OpR X (compareOp .In) (rInS X.K true false) := fun pins s σ H x y v u Q I rx ry h => by
  obtain ⟨d, ds, hd, he, sd, se, q⟩ := h
  have he' : Dp X.K H y (.tuple ds) := he
  have se' : SeqAt.shaped (.tuple ds) = true := se
  have ⟨as, ra⟩ := Dp.reads I d x v hd rx
  have ⟨bs, rb⟩ := Dp.reads I (.tuple ds) y u he' ry
  exact SeqAt.in_tuple_reads rb ra (SeqAt.canLay_of_shaped se') (SeqAt.canLay_of_shaped sd) (room_in_shaped sd hu) ⟨.bl _, H, I, rfl, q⟩
theorem op_notInTup (hu : X.A.units + 65 < cLine) : OpR X (compareOp .NotIn) (rInS X.K true true) := fun pins s σ H x y v u Q I rx ry h => by
  obtain ⟨d, ds, hd, he, sd, se, q⟩ := h
  have he' : Dp X.K H y (.tuple ds) := he
  have se' : SeqAt.shaped (.tuple ds) = true := se
  have ⟨as, ra⟩ := Dp.reads I d x v hd rx
  have ⟨bs, rb⟩ := Dp.reads I (.tuple ds) y u he' ry
  exact SeqAt.notIn_tuple_reads rb ra (SeqAt.canLay_of_shaped se') (SeqAt.canLay_of_shaped sd) (room_in_shaped sd hu) ⟨.bl _, H, I, rfl, q⟩
def rCop (K : PySem.W.Frag) : Cop → R2
  | .eq => fun x y H Q => rEq x y H Q ∨ rEqD K x y H Q
  | .ne => fun x y H Q => rNe x y H Q ∨ rNeD K x y H Q
  | .lt => rI0 fun i j => .bl (decide (i < j))
  | .le => rI0 fun i j => .bl (decide (i ≤ j))
  | .gt => rI0 fun i j => .bl (decide (j < i))
  | .ge => rI0 fun i j => .bl (decide (j ≤ i))
  | .is_ => fun x y H Q => rIsB x y H Q ∨ (y = .non ∧ Q (.bl (decide (x = .non))) H)
  | .isnt => fun x y H Q => rNotB x y H Q ∨ (y = .non ∧ Q (.bl (!decide (x = .non))) H)
  | .in_ => fun x y H Q => rInD K x y H Q ∨ rInS K true false x y H Q
  | .notin => fun x y H Q => rNotInD K x y H Q ∨ rInS K true true x y H Q
theorem op_cop (hu : X.A.units + 65 < cLine) : ∀ o : Cop, OpR X (compareOp o.op) (rCop X.K o)
  | .eq => op_eq.or (op_eqD (by omega))
  | .ne => op_ne.or (op_neD (by omega))
  | .lt => op_lt
  | .le => op_le
  | .gt => op_gt
  | .ge => op_ge
  | .is_ => op_isBl.or op_isN
  | .isnt => op_notBl.or op_notN
  | .in_ => (op_inD hu).or (op_inTup hu)
  | .notin => (op_notInD hu).or (op_notInTup hu)
theorem non_iff {K : PySem.W.Frag} {H : Hp} {Z : Addr → Prop} {d : D} {v : V} (r : Rp K H Z d v) : decide (v = .non) = (match d with | .non => true | _ => false) := by
  cases r <;> simp
theorem cop_ok {op : Cop} {K : PySem.W.Frag} {H : Hp} {Z Z' : Addr → Prop} {d1 d2 : D} {v1 v2 : V} {P : Bool → Prop} {Q : VK} (r1 : Rp K H Z d1 v1) (r2 : Rp K H Z' d2 v2) (h : cop op d1 d2 P) (k : ∀ b, P b → Q (.bl b) H) : rCop K op v1 v2 H Q := by
  have deep : ∀ {a b : D} {R : Bool → Prop}, deq a b R → (∀ (x y : V), Rp K H Z a x → Rp K H Z' b y → (∃ c, R c ∧ scal x y = true ∧ decide (x = y) = c) ∨ (∃ c, R c ∧ ∃ d e, Dp K H x d ∧ Dp K H y e ∧ SeqAt.shaped d = true ∧ SeqAt.shaped e = true ∧ PyData.eqv d e = c)) := by
    intro a b R hd x y rx ry
    have gen : (a.pl = true ∧ b.pl = true ∧ SeqAt.shaped a.p = true ∧ SeqAt.shaped b.p = true ∧ R (PyData.eqv a.p b.p)) → (∃ c, R c ∧ ∃ d e, Dp K H x d ∧ Dp K H y e ∧ SeqAt.shaped d = true ∧ SeqAt.shaped e = true ∧ PyData.eqv d e = c) := fun ⟨p1, p2, p3, p4, p5⟩ =>
      ⟨_, p5, _, _, Rp.dp a x p1 rx, Rp.dp b y p2 ry, p3, p4, rfl⟩
    cases a <;> cases b <;> first
      | exact .inr (gen hd)
      | (cases rx; cases ry; refine .inl ⟨_, hd, rfl, ?_⟩; simp)
  cases op with
  | eq =>
    rcases deep h v1 v2 r1 r2 with ⟨c, p, e1, e2⟩ | ⟨c, p, d, e, p1, p2, p3, p4, p5⟩
    · exact .inl ⟨e1, by rw [e2]; exact k c p⟩
    · exact .inr ⟨d, e, p1, p2, p3, p4, by rw [p5]; exact k c p⟩
  | ne =>
    rcases deep (R := fun c => P (!c)) h v1 v2 r1 r2 with ⟨c, p, e1, e2⟩ | ⟨c, p, d, e, p1, p2, p3, p4, p5⟩
    · exact .inl ⟨e1, by rw [e2]; exact k _ p⟩
    · exact .inr ⟨d, e, p1, p2, p3, p4, by rw [p5]; exact k _ p⟩
  | lt => cases d1 <;> first | (cases d2 <;> first | (cases r1; cases r2; exact ⟨_, _, rfl, rfl, k _ h⟩) | exact h.elim) | exact h.elim
  | le => cases d1 <;> first | (cases d2 <;> first | (cases r1; cases r2; exact ⟨_, _, rfl, rfl, k _ h⟩) | exact h.elim) | exact h.elim
  | gt => cases d1 <;> first | (cases d2 <;> first | (cases r1; cases r2; exact ⟨_, _, rfl, rfl, k _ h⟩) | exact h.elim) | exact h.elim
  | ge => cases d1 <;> first | (cases d2 <;> first | (cases r1; cases r2; exact ⟨_, _, rfl, rfl, k _ h⟩) | exact h.elim) | exact h.elim
  | is_ =>
    cases d2 with
    | non =>
      cases r2
      refine .inr ⟨rfl, ?_⟩
      rw [non_iff r1]
      cases d1 <;> exact k _ h
    | bl b =>
      cases d1 <;> first | exact h.elim | (cases r1; cases r2; exact .inl ⟨_, _, rfl, rfl, k _ h⟩)
    | _ => cases d1 <;> exact h.elim
  | isnt =>
    cases d2 with
    | non =>
      cases r2
      refine .inr ⟨rfl, ?_⟩
      rw [non_iff r1]
      cases d1 <;> exact k _ h
    | bl b =>
      cases d1 <;> first | exact h.elim | (cases r1; cases r2; exact .inl ⟨_, _, rfl, rfl, k _ h⟩)
    | _ => cases d1 <;> exact h.elim
  | in_ =>
    have ee : ∀ zs : List D, ((D.ps zs).any fun z => PyData.eqv z d1.p) = zs.any fun z => PyData.eqv z.p d1.p := fun zs => by
      induction zs with
      | nil => simp [D.ps]
      | cons z zs ih => simp [D.ps, ih]
    cases d2 with
    | lst ds =>
      have h' : d1.pl = true ∧ D.pls ds = true ∧ SeqAt.shaped d1.p = true ∧ SeqAt.shaped (.list (D.ps ds)) = true ∧ P (ds.any fun z => PyData.eqv z.p d1.p) := by cases d1 <;> exact h
      obtain ⟨p1, p2, p3, p4, p5⟩ := h'
      refine .inl ⟨d1.p, D.ps ds, Rp.dp d1 v1 p1 r1, Rp.dp (.lst ds) v2 (by simpa [D.pl] using p2) r2, p3, p4, ?_⟩
      rw [ee]
      exact k _ p5
    | tup ds =>
      have h' : d1.pl = true ∧ D.pls ds = true ∧ SeqAt.shaped d1.p = true ∧ SeqAt.shaped (.tuple (D.ps ds)) = true ∧ P (ds.any fun z => PyData.eqv z.p d1.p) := by cases d1 <;> exact h
      obtain ⟨p1, p2, p3, p4, p5⟩ := h'
      refine .inr ⟨d1.p, D.ps ds, Rp.dp d1 v1 p1 r1, Rp.dp (.tup ds) v2 (by simpa [D.pl] using p2) r2, p3, p4, ?_⟩
      show Q (.bl ((D.ps ds).any fun z => PyData.eqv z d1.p)) H
      rw [ee]
      exact k _ p5
    | _ => cases d1 <;> exact h.elim
  | notin =>
    have ee : ∀ zs : List D, ((D.ps zs).any fun z => PyData.eqv z d1.p) = zs.any fun z => PyData.eqv z.p d1.p := fun zs => by
      induction zs with
      | nil => simp [D.ps]
      | cons z zs ih => simp [D.ps, ih]
    cases d2 with
    | lst ds =>
      have h' : d1.pl = true ∧ D.pls ds = true ∧ SeqAt.shaped d1.p = true ∧ SeqAt.shaped (.list (D.ps ds)) = true ∧ P (!ds.any fun z => PyData.eqv z.p d1.p) := by cases d1 <;> exact h
      obtain ⟨p1, p2, p3, p4, p5⟩ := h'
      refine .inl ⟨d1.p, D.ps ds, Rp.dp d1 v1 p1 r1, Rp.dp (.lst ds) v2 (by simpa [D.pl] using p2) r2, p3, p4, ?_⟩
      rw [ee]
      exact k _ p5
    | tup ds =>
      have h' : d1.pl = true ∧ D.pls ds = true ∧ SeqAt.shaped d1.p = true ∧ SeqAt.shaped (.tuple (D.ps ds)) = true ∧ P (!ds.any fun z => PyData.eqv z.p d1.p) := by cases d1 <;> exact h
      obtain ⟨p1, p2, p3, p4, p5⟩ := h'
      refine .inr ⟨d1.p, D.ps ds, Rp.dp d1 v1 p1 r1, Rp.dp (.tup ds) v2 (by simpa [D.pl] using p2) r2, p3, p4, ?_⟩
      show Q (.bl (!((D.ps ds).any fun z => PyData.eqv z d1.p))) H
      rw [ee]
      exact k _ p5
    | _ => cases d1 <;> exact h.elim
abbrev mCmp (op : Cop) (wa wb : Wd G) : Wd G := fun es g Q => wa es g fun d1 _ g1 => wb es g1 fun d2 _ g2 => cop op d1 d2 fun c => Q (.bl c) 2 g2
theorem cmp_rd (hK : X.K = C.K) {op : Cop} {σ : L2.St} {H : Hp} {Q : VK} (q : rd C (mCmp op wa wb) σ H Q) : tOp (rCop X.K op) (rd C wa) (rd C wb) σ H Q := by
  obtain ⟨pins, ex, ow, es, g, P, S, hw, k⟩ := q
  rw [hK]
  refine ⟨pins, ex, ow, es, g, _, S, hw, fun d1 l1 g1 v1 H1 p1 s1 r1 => ⟨pins, ex, ow, es, g1, _, S.stp' s1, p1, fun d2 l2 g2 v2 H2 p2 s2 r2 => ?_⟩⟩
  exact cop_ok (r1.stp s2) r2 p2 fun b p => k _ _ _ _ H2 p (s1.trans s2) (.bl b)
theorem pe_cmpV (hK : X.K = C.K) (hu : X.A.units + 65 < cLine) {op : Cop} (ha : PE X ea (rd C wa)) (hb : PE X eb (rd C wb)) (hm : behindInMarks op.op eb = false) : PE X (.Compare ea [op.op] [eb] pos) (rd C (mCmp op wa wb)) :=
  (pe_cmpR (op_cop hu op) ha hb hm).wk fun σ H Q q => cmp_rd hK q
theorem pt_cmpV (hK : X.K = C.K) (hu : X.A.units + 65 < cLine) {op : Cop} (ha : PE X ea (rd C wa)) (hb : PE X eb (rd C wb)) (hm : behindInMarks op.op eb = false) : PT X (.Compare ea [op.op] [eb] pos) (rdT C (mCmp op wa wb)) :=
  (pt_cmpR (op_cop hu op) ha hb hm).wk fun σ H Q q => by
    obtain ⟨pins, ex, ow, es, g, P, S, hw, k⟩ := q
    rw [hK]
    refine ⟨pins, ex, ow, es, g, _, S, hw, fun d1 l1 g1 v1 H1 p1 s1 r1 => ⟨pins, ex, ow, es, g1, _, S.stp' s1, p1, fun d2 l2 g2 v2 H2 p2 s2 r2 => ?_⟩⟩
    refine cop_ok (r1.stp s2) r2 p2 fun b p => ?_
    obtain ⟨c, hc, kc⟩ := k _ _ _ p
    cases hc
    exact ⟨b, rfl, kc H2 (s1.trans s2)⟩
abbrev mChain (op op' : Cop) (wa wb wc : Wd G) : Wd G := fun es g Q => wa es g fun d1 _ g1 => wb es g1 fun d2 _ g2 => cop op d1 d2 fun k => if k = true then (wc es g2 fun d3 _ g3 => cop op' d2 d3 fun k' => Q (.bl k') 2 g3) else Q (.bl false) 2 g2
theorem chain_rd (hK : X.K = C.K) {op op' : Cop} {σ : L2.St} {H : Hp} {Q : VK} {pins ex ow es g} {P : Pd G} (S : SR C pins ex ow es σ g H) (hw : mChain op op' wa wb wc es g P)
    (k : ∀ b g' H', P (.bl b) 2 g' → Stp C.gh g H g' H' → Q (.bl b) H') : tChain (rCop X.K op) (rCop X.K op') (rd C wa) (rd C wb) (rd C wc) σ H Q := by
  rw [hK]
  refine ⟨pins, ex, ow, es, g, _, S, hw, fun d1 l1 g1 v1 H1 p1 s1 r1 => ⟨pins, ex, ow, es, g1, _, S.stp' s1, p1, fun d2 l2 g2 v2 H2 p2 s2 r2 => ?_⟩⟩
  refine cop_ok (r1.stp s2) r2 p2 fun b p => ⟨b, rfl, ?_⟩
  cases b with
  | false => exact k false g2 H2 p (s1.trans s2)
  | true => exact ⟨pins, ex, ow, es, g2, _, (S.stp' s1).stp' s2, p, fun d3 l3 g3 v3 H3 p3 s3 r3 => cop_ok (r2.stp s3) r3 p3 fun b' p' => k b' g3 H3 p' ((s1.trans s2).trans s3)⟩
theorem pe_chainV (hK : X.K = C.K) (hu : X.A.units + 65 < cLine) {op op' : Cop} (ha : PE X ea (rd C wa)) (hb : PE X eb (rd C wb)) (hc : PE X ec (rd C wc)) (hm : lastMarks [op.op, op'.op] [eb, ec] = false) :
    PE X (.Compare ea [op.op, op'.op] [eb, ec] pos) (rd C (mChain op op' wa wb wc)) :=
  (pe_chain (op_cop hu op) (op_cop hu op') ha hb hc hm).wk fun σ H Q q => by
    obtain ⟨pins, ex, ow, es, g, P, S, hw, k⟩ := q
    exact chain_rd hK S hw fun b g' H' p s => k _ _ _ _ H' p s (.bl b)
theorem pt_chainV (hK : X.K = C.K) (hu : X.A.units + 65 < cLine) {op op' : Cop} (ha : PE X ea (rd C wa)) (hb : PE X eb (rd C wb)) (hc : PE X ec (rd C wc)) (hm : lastMarks [op.op, op'.op] [eb, ec] = false) :
    PT X (.Compare ea [op.op, op'.op] [eb, ec] pos) (rdT C (mChain op op' wa wb wc)) :=
  (pt_chain (op_cop hu op) (op_cop hu op') ha hb hc hm).wk fun σ H Q q => by
    obtain ⟨pins, ex, ow, es, g, P, S, hw, k⟩ := q
    refine chain_rd hK S hw fun b g' H' p s => ?_
    obtain ⟨c, hc, kc⟩ := k _ _ _ p
    cases hc
    exact ⟨b, rfl, kc H' s⟩
end
end VL
/-! Val: arguments, displays, sequences, built-in functions, calls. -/
namespace VL
open PySem PySem.Spec PyProof.Rows L2

section
variable {C : Vc G} {X : Cx} {fs : List (Nat × WF G)} {e ea eb ec : Expr} {wa wb wc : Wd G} {pos : Pos} {as : List Expr} {wl : Wls G} {wq : Ws G}
/-! ### arguments -/
def nst : Expr → Bool
  | .Starred _ _ => false
  | _ => true
theorem star_cons {e : Expr} {es : List Expr} {env : PySem.Env} (h : nst e = true) : starEach (e :: es) env = (false, eval e env) :: starEach es env := by
  cases e <;> first | rfl | cases h
theorem star_none {pos : Pos} {env : PySem.Env} : ∀ {es : List Expr}, es.all nst = true → (backTo pos (starEach es env)).any (·.1) = false
  | [], _ => rfl
  | e :: es, h => by
    have h2 : nst e = true ∧ es.all nst = true := by simpa using h
    rw [star_cons h2.1]
    have ih := star_none (pos := pos) (env := env) h2.2
    unfold backTo at ih ⊢
    rw [List.map_cons, List.any_cons, ih] <;> rfl
theorem pa_nilV : PA X [] (rdA C fun _ g Q => Q [] 2 g) := pa_nil.wk fun σ H Q q => by
  obtain ⟨pins, ex, ow, es, g, P, S, hw, k⟩ := q
  exact k _ _ _ [] H hw (.refl S.stp.ok) .nil
abbrev mArg (wa : Wd G) (wl : Wls G) : Wls G := fun es g Q => wa es g fun d l g1 => wl es g1 fun ds l' g2 => Q (d :: ds) (min l l') g2
theorem pa_consV (ha : PE X ea (rd C wa)) (hr : PA X as (rdA C wl)) (hn : nst ea = true) : PA X (ea :: as) (rdA C (mArg wa wl)) :=
  (pa_cons ha hr (star_cons hn)).wk fun σ H Q q => by
    obtain ⟨pins, ex, ow, es, g, P, S, hw, k⟩ := q
    exact ⟨pins, ex, ow, es, g, _, S, hw, fun d1 l1 g1 v1 H1 p1 s1 r1 => ⟨pins, ex, ow, es, g1, _, S.stp' s1, p1, fun ds l g2 vs H2 p2 s2 r2 =>
      k _ _ _ _ H2 p2 (s1.trans s2) (.cons ((r1.stp s2).low (Nat.min_le_left _ _)) (r2.low (Nat.min_le_right _ _)))⟩⟩
theorem pe_tupV {x1} (h : PA X as (rdA C wl)) : PE X (.Tuple as x1 pos) (rd C fun es g Q => wl es g fun ds l g1 => ds.length ≤ sizeLine ∧ Q (.tup ds) l g1) :=
  (pe_tup h).wk fun σ H Q q => by
    obtain ⟨pins, ex, ow, es, g, P, S, hw, k⟩ := q
    refine ⟨pins, ex, ow, es, g, _, S, hw, fun ds l g1 vs H1 p1 s1 r1 => ⟨by rw [← r1.len]; exact p1.1, fun p hp => ?_⟩⟩
    exact k _ _ _ _ _ p1.2 (s1.then (Same.new hp)) ((S.stp' s1).newT hp r1)
theorem pe_lstV (h : PA X as (rdA C wl)) : PE X (.List as pos) (rd C fun es g Q => wl es g fun ds l g1 => ds.length ≤ sizeLine ∧ Q (.lst ds) l g1) :=
  (pe_lst h).wk fun σ H Q q => by
    obtain ⟨pins, ex, ow, es, g, P, S, hw, k⟩ := q
    refine ⟨pins, ex, ow, es, g, _, S, hw, fun ds l g1 vs H1 p1 s1 r1 => ⟨by rw [← r1.len]; exact p1.1, fun p hp => ?_⟩⟩
    exact k _ _ _ _ _ p1.2 (s1.then (Same.new hp)) ((S.stp' s1).newL hp r1)
theorem pe_repV {p1 : Pos} (h : PA X as (rdA C wl)) (hb : PE X eb (rd C wb)) : PE X (.BinOp (.List as p1) .Mult eb pos) (rd C fun es g Q => wl es g fun ds l g1 => ds.length ≤ sizeLine ∧ wb es g1 fun d _ g2 => ∃ k, d = .int k ∧ k < 2 ^ 63 ∧ -(2 ^ 63) ≤ k ∧ ds.length * k.toNat ≤ sizeLine ∧ Q (.lst (List.replicate k.toNat ds).flatten) l g2) :=
  (pe_op op_rep (pe_lst h) hb).wk fun σ H Q q => by
    obtain ⟨pins, ex, ow, es, g, P, S, hw, k⟩ := q
    refine ⟨pins, ex, ow, es, g, _, S, hw, fun ds l g1 vs H1 p1 s1 r1 => ⟨by rw [← r1.len]; exact p1.1, fun p hp => ?_⟩⟩
    have S1 := S.stp' s1
    have S2 := S1.same (Same.new (o := .lst vs) hp)
    refine ⟨pins, ex, ow, es, g1, _, S2, p1.2, fun d l' g2 v H2 p2 s2 r2 => ?_⟩
    obtain ⟨j, rfl, j1, j2, j3, p3⟩ := p2
    cases r2
    have hpp : H2 p = some (.lst vs) := s2.kp.keep p _ upd_same fun z => absurd hp (C.gh.dom S1.stp.ok z)
    have sx : Stp C.gh g1 H1 g2 H2 := (Stp.of S1.stp.ok (Same.new hp)).trans s2
    exact ⟨p, j, vs, rfl, rfl, hpp, j2, j1, by rw [← r1.len]; exact j3, fun p' hp' => k _ _ _ _ _ p3 ((s1.trans sx).then (Same.new hp')) ((S2.stp' s2).newL hp' ((r1.stp sx).rep _))⟩

/-! ### items and slices -/
def nsl : Expr → Bool
  | .Slice _ _ none _ => false
  | _ => true
theorem plainIx {b : Expr} (h : nsl b = true) : PlainIx b := fun o i => by
  unfold subscripted
  split
  · cases h
  · rename_i z
    cases z
  · rfl
theorem at_rp {ex : List Addr} {ow : Nat → List Addr} {g : G} {H : Hp} {l : Nat} {ds : List D} {xs : List V} {i : Int} {d : D} (r : RpA C.K H (Zl C ex ow g l) ds xs) (h : atI ds i = some d) : ∃ v, atI xs i = some v ∧ Rp C.K H (Zl C ex ow g l) d v := by
  unfold atI at h ⊢
  rw [← r.len]
  cases q : ixN ds.length i with
  | none =>
    rw [q] at h
    cases h
  | some j =>
    rw [q] at h
    exact r.get h
theorem pe_ixV (hK : X.K = C.K) (ha : PE X ea (rdQ C wq)) (hb : PE X eb (rd C wb)) (hs : nsl eb = true) : PE X (.Subscript ea eb pos) (rd C fun es g Q => wq es g fun _ ds l g1 => wb es g1 fun d _ g2 => ∃ i e, d = .int i ∧ atI ds i = some e ∧ Q e l g2) := by
  refine (pe_ix ix_seq ha hb (plainIx hs)).wk fun σ H Q q => ?_
  obtain ⟨pins, ex, ow, es, g, P, S, hw, k⟩ := q
  rw [hK]
  refine ⟨pins, ex, ow, es, g, _, S, hw, fun t ds l g1 a xs H1 p1 s1 r1 => ⟨pins, ex, ow, es, g1, _, S.stp' s1, p1, fun d2 l2 g2 v2 H2 p2 s2 r2 => ?_⟩⟩
  obtain ⟨i, d, rfl, hi, p⟩ := p2
  cases r2
  have r3 := r1.stp s2
  obtain ⟨v, hv, rv⟩ := at_rp r3.2 hi
  have q := k _ _ _ v H2 p (s1.trans s2) rv
  rcases r3.sq with z | z
  · exact .inl ⟨a, xs, i, v, rfl, rfl, z, hv, q⟩
  · exact .inr (.inl ⟨a, xs, i, v, rfl, rfl, z, hv, q⟩)
theorem po_noV : PO X none (rdO C fun _ g Q => Q none g) := po_none.wk fun σ H Q q => by
  obtain ⟨pins, ex, ow, es, g, P, S, hw, k⟩ := q
  exact k _ _ H hw (.refl S.stp.ok)
theorem po_someV (ha : PE X ea (rd C wa)) : PO X (some ea) (rdO C fun es g Q => wa es g fun d _ g1 => ∃ i, d = .int i ∧ Q (some i) g1) := (po_some ha).wk fun σ H Q q => by
  obtain ⟨pins, ex, ow, es, g, P, S, hw, k⟩ := q
  refine ⟨pins, ex, ow, es, g, _, S, hw, fun d l g1 v H1 p1 s1 r1 => ?_⟩
  obtain ⟨i, rfl, p⟩ := p1
  cases r1
  exact ⟨i, rfl, k _ _ H1 p s1⟩
abbrev cutD (ds : List D) (lo hi : Option Int) : List D := (ds.drop (HT.sIx ds.length 0 lo)).take (HT.sIx ds.length ds.length hi - HT.sIx ds.length 0 lo)
theorem cut_rp {K : PySem.W.Frag} {H : Hp} {Z : Addr → Prop} {ds : List D} {xs : List V} {lo hi : Option Int} (r : RpA K H Z ds xs) : RpA K H Z (cutD ds lo hi) (cutV xs lo hi) := by
  unfold cutD cutV
  rw [r.len]
  exact (r.drop _).take _
abbrev Wo (G : Type) := VL.Env → G → (Option Int → G → Prop) → Prop
theorem pe_slV (hK : X.K = C.K) {lo hi : Option Expr} {p2 : Pos} {wlo whi : Wo G} (ha : PE X ea (rdQ C wq)) (hl : PO X lo (rdO C wlo)) (hh : PO X hi (rdO C whi)) :
    PE X (.Subscript ea (.Slice lo hi none p2) pos) (rd C fun es g Q => wq es g fun t ds l g1 => wlo es g1 fun lo' g2 => whi es g2 fun hi' g3 => Q (if t = true then .tup (cutD ds lo' hi') else .lst (cutD ds lo' hi')) l g3) := by
  refine (pe_slice (sl_list.or sl_tupA) ha hl hh).wk fun σ H Q q => ?_
  obtain ⟨pins, ex, ow, es, g, P, S, hw, k⟩ := q
  rw [hK]
  refine ⟨pins, ex, ow, es, g, _, S, hw, fun t ds l g1 a xs H1 p1 s1 r1 => ⟨pins, ex, ow, es, g1, _, S.stp' s1, p1, fun lo' g2 H2 p2 s2 => ⟨pins, ex, ow, es, g2, _, (S.stp' s1).stp' s2, p2, fun hi' g3 H3 p3 s3 => ?_⟩⟩⟩
  have r3 := (r1.stp s2).stp s3
  have S3 := ((S.stp' s1).stp' s2).stp' s3
  have st := (s1.trans s2).trans s3
  obtain ⟨h1, h2⟩ := r3
  cases t with
  | false =>
    have z : SqL C.K H3 a xs := by
      rcases h1 with h1 | h1
      · exact h1.sq
      · exact h1.sq
    exact .inl ⟨a, xs, rfl, z, fun p hp => k _ _ _ _ _ p3 (st.then (Same.new hp)) (S3.newL hp (cut_rp h2))⟩
  | true =>
    have h1 : SqT C.K H3 a xs := h1
    refine .inr ⟨a, xs, rfl, h1, fun hw => ?_, fun hw p hp => k _ _ _ _ _ p3 (st.then (Same.new hp)) (S3.newT hp (cut_rp h2))⟩
    have e : cutD ds lo' hi' = ds := by
      unfold cutD
      rw [h2.len, hw.1, hw.2, ← h2.len]
      simp
    have p3' : P (.tup (cutD ds lo' hi')) l g3 := p3
    rw [e] at p3'
    exact k _ _ _ _ _ p3' st (.tup h1 h2)
theorem pe_revV (hK : X.K = C.K) {k : Nat} {q1 q2 q3 : Pos} (ha : PE X ea (rdQ C wq)) : PE X (.Subscript ea (.Slice none none (some (.UnaryOp .USub (.Constant (.int 1) k q1) q2)) q3) pos) (rd C fun es g Q => wq es g fun t ds l g1 => t = false ∧ Q (.lst ds.reverse) l g1) := by
  refine (pe_revL ha).wk fun σ H Q q => ?_
  obtain ⟨pins, ex, ow, es, g, P, S, hw, k⟩ := q
  rw [hK]
  refine ⟨pins, ex, ow, es, g, _, S, hw, fun t ds l g1 a xs H1 p1 s1 r1 => ?_⟩
  obtain ⟨rfl, p⟩ := p1
  obtain ⟨h1, h2⟩ := r1
  have z : SqL C.K H1 a xs := by
    rcases h1 with h1 | h1
    · exact h1.sq
    · exact h1.sq
  exact ⟨a, xs, rfl, z, fun p' hp => k _ _ _ _ _ p (s1.then (Same.new hp)) ((S.stp' s1).newL hp h2.rev)⟩

/-! ### built-in functions -/
def rBi : Bi → List V → Hp → VK → Prop
  | .int1 => fun xs H Q => (∃ i, xs = [.int i] ∧ Q (.int i) H) ∨ ∃ k, xs = [.bl k] ∧ Q (.int (if k then 1 else 0)) H
  | .abs => fun xs H Q => ∃ i, xs = [.int i] ∧ Q (.int (if i < 0 then -i else i)) H
  | .max2 => fun xs H Q => ∃ i j, xs = [.int i, .int j] ∧ Q (.int (if j > i then j else i)) H
  | .min2 => fun xs H Q => ∃ i j, xs = [.int i, .int j] ∧ Q (.int (if j < i then j else i)) H
def Bi.nm : Bi → Str
  | .int1 => "int" | .abs => "abs" | .max2 => "max" | .min2 => "min"
theorem pe_biV (hc : X.calm = true) {f : Bi} {p : Pos} (hg : Gl X f.nm) (hm : X.mg f.nm = none) (ha : PA X (ea :: as) (rdA C wl)) (hn : (ea :: as).all nst = true) :
    PE X (.Call (.Name f.nm p) (ea :: as) [] pos) (rd C fun es g Q => wl es g fun ds _ g1 => biF f ds fun d l => Q d l g1) := by
  have hn2 : nst ea = true ∧ as.all nst = true := by simpa using hn
  have h : PE X (.Call (.Name f.nm p) (ea :: as) [] pos) (tCB (rBi f) (rdA C wl)) := by
    cases f with
    | int1 => exact pe_callTy call_int1 hg hm (by decide +kernel) ha (by decide) (by decide) (star_cons hn2.1) (star_none hn2.2)
    | abs => exact pe_callB call_abs hg hm (by decide +kernel) ha (by decide) (by decide) (star_cons hn2.1) (star_none hn2.2)
    | max2 => exact pe_callB (call_max2 hc) hg hm (by decide +kernel) ha (by decide) (by decide) (star_cons hn2.1) (star_none hn2.2)
    | min2 => exact pe_callB (call_min2 hc) hg hm (by decide +kernel) ha (by decide) (by decide) (star_cons hn2.1) (star_none hn2.2)
  refine h.wk fun σ H Q q => ?_
  obtain ⟨pins, ex, ow, es, g, P, S, hw, k⟩ := q
  refine ⟨pins, ex, ow, es, g, _, S, hw, fun ds l g1 vs H1 p1 s1 r1 => ?_⟩
  have fin : ∀ i : Int, P (.int i) 2 g1 → Q (.int i) H1 := fun i p => k _ _ _ _ H1 p s1 (.int i)
  unfold biF at p1
  split at p1 <;> first | exact p1.elim | skip
  all_goals (rename_i hh; cases r1 with | cons a1 a2 => ?_)
  · cases a1; cases a2; exact .inl ⟨_, rfl, fin _ p1⟩
  · cases a1; cases a2; exact .inr ⟨_, rfl, fin _ p1⟩
  · cases a1; cases a2; exact ⟨_, rfl, fin _ p1⟩
  · cases a1
    cases a2 with
    | cons b1 b2 => cases b1; cases b2; exact ⟨_, _, rfl, fin _ p1⟩
  · cases a1
    cases a2 with
    | cons b1 b2 => cases b1; cases b2; exact ⟨_, _, rfl, fin _ p1⟩
end
end VL
/-! Val: functions of a sequence, ranges, isinstance, calls. -/
namespace VL
open PySem PySem.Spec PyProof.Rows L2

section
variable {C : Vc G} {X : Cx} {fs : List (Nat × WF G)} {e ea eb ec : Expr} {wa wb wc : Wd G} {pos : Pos} {as : List Expr} {wl : Wls G} {wq : Ws G}
/-! ### of a sequence -/
theorem pa_q (ha : PE X ea (rdQ C wq)) (hn : nst ea = true) : PA X [ea] (tCons (rdQ C wq) tNil) := pa_cons ha pa_nil (star_cons hn)
def rSq (K : PySem.W.Frag) : Sq → List V → Hp → VK → Prop
  | .len => fun xs H Q => ∃ p ys, xs = [.ref p] ∧ (SqL K H p ys ∨ SqT K H p ys) ∧ Q (.int ys.length) H
  | .sum => rSum K
  | .all => rAll K
  | .any => rAny K
  | .max => rMax K
  | .min => rMin K
  | .tuple => fun xs H Q => ∃ p ys, xs = [.ref p] ∧ ((SqL K H p ys ∧ ∀ l, H l = none → Q (.ref l) (upd H l (.tup ys))) ∨ (SqT K H p ys ∧ Q (.ref p) H))
  | .list => fun xs H Q => ∃ p ys, xs = [.ref p] ∧ (SqL K H p ys ∨ SqT K H p ys) ∧ ∀ l, H l = none → Q (.ref l) (upd H l (.lst ys))
def Sq.nm : Sq → Str
  | .len => "len" | .sum => "sum" | .all => "all" | .any => "any" | .max => "max" | .min => "min" | .tuple => "tuple" | .list => "list"
theorem pe_sqV (hK : X.K = C.K) (hc : X.calm = true) {f : Sq} {p : Pos} (hg : Gl X f.nm) (hm : X.mg f.nm = none) (ha : PE X ea (rdQ C wq)) (hn : nst ea = true) :
    PE X (.Call (.Name f.nm p) [ea] [] pos) (rd C fun es g Q => wq es g fun t ds l g1 => sqf f t ds l fun d l => Q d l g1) := by
  have h : PE X (.Call (.Name f.nm p) [ea] [] pos) (tCB (rSq X.K f) (tCons (rdQ C wq) tNil)) := by
    cases f with
    | len => exact pe_callB call_len_seq hg hm (by decide +kernel) (pa_q ha hn) (by decide) (by decide) (star_cons hn) rfl
    | sum => exact pe_callB (cr_sum hc) hg hm (by decide +kernel) (pa_q ha hn) (by decide) (by decide) (star_cons hn) rfl
    | all => exact pe_callB (cr_all hc) hg hm (by decide +kernel) (pa_q ha hn) (by decide) (by decide) (star_cons hn) rfl
    | any => exact pe_callB (cr_any hc) hg hm (by decide +kernel) (pa_q ha hn) (by decide) (by decide) (star_cons hn) rfl
    | max => exact pe_callB (cr_max hc) hg hm (by decide +kernel) (pa_q ha hn) (by decide) (by decide) (star_cons hn) rfl
    | min => exact pe_callB (cr_min hc) hg hm (by decide +kernel) (pa_q ha hn) (by decide) (by decide) (star_cons hn) rfl
    | tuple => exact pe_callTy call_tuple_of hg hm (by decide +kernel) (pa_q ha hn) (by decide) (by decide) (star_cons hn) rfl
    | list => exact pe_callTy call_list_of hg hm (by decide +kernel) (pa_q ha hn) (by decide) (by decide) (star_cons hn) rfl
  refine h.wk fun σ H Q q => ?_
  obtain ⟨pins, ex, ow, es, g, P, S, hw, k⟩ := q
  rw [hK]
  refine ⟨pins, ex, ow, es, g, _, S, hw, fun t ds l g1 a xs H1 p1 s1 r1 => ?_⟩
  have S1 := S.stp' s1
  have rq := r1.sq
  have ra := r1.2
  have hL : t = false → SqL C.K H1 a xs := fun z => by
    subst z
    rcases r1.1 with h1 | h1
    · exact h1.sq
    · exact h1.sq
  have scal : ∀ {d : D} {v : V}, (∀ {K : PySem.W.Frag} {H : Hp} {Z : Addr → Prop}, Rp K H Z d v) → P d 2 g1 → Q v H1 := fun hd p => k _ _ _ _ H1 p s1 hd
  unfold sqf at p1
  split at p1 <;> first | exact p1.elim | skip
  · exact ⟨a, xs, rfl, rq, scal (.int _) (by rw [← ra.len]; exact p1)⟩
  · obtain ⟨ns, rfl, p⟩ := p1
    rw [ra.ints] at hL
    exact ⟨a, ns, rfl, hL rfl, scal (.int _) p⟩
  · obtain ⟨ns, rfl, p⟩ := p1
    rw [ra.bls] at hL
    exact ⟨a, ns, rfl, hL rfl, scal (.bl _) p⟩
  · obtain ⟨ns, rfl, p⟩ := p1
    rw [ra.bls] at hL
    exact ⟨a, ns, rfl, hL rfl, scal (.bl _) p⟩
  · obtain ⟨ns, rfl, n0, p⟩ := p1
    rw [ra.ints] at hL
    exact ⟨a, ns, rfl, hL rfl, n0, fun m h1 h2 => scal (.int _) (p m h1 h2)⟩
  · obtain ⟨ns, rfl, n0, p⟩ := p1
    rw [ra.ints] at hL
    exact ⟨a, ns, rfl, hL rfl, n0, fun m h1 h2 => scal (.int _) (p m h1 h2)⟩
  · rename_i t0 ds0 l0 _ _ _ _ _
    cases t0 with
    | false => exact ⟨a, xs, rfl, .inl ⟨hL rfl, fun q hq => k _ _ _ _ _ p1 (s1.then (Same.new hq)) (S1.newT hq ra)⟩⟩
    | true => exact ⟨a, xs, rfl, .inr ⟨r1.1, k _ _ _ _ _ p1 s1 (.tup r1.1 ra)⟩⟩
  · exact ⟨a, xs, rfl, rq, fun q hq => k _ _ _ _ _ p1 (s1.then (Same.new hq)) (S1.newL hq ra)⟩

/-! ### ranges -/
theorem rng_rp {K : PySem.W.Frag} {H : Hp} {Z : Addr → Prop} (lo hi : Int) : RpA K H Z (rngD lo hi) (rgV lo hi) := by
  unfold rngD rgV
  generalize (List.range (hi - lo).toNat) = ns
  induction ns with
  | nil => exact .nil
  | cons n ns ih => exact .cons (.int _) ih
def rRg (C : Vc G) (w : VL.Env → G → (Int → Int → G → Prop) → Prop) : L2.St → Hp → (Int → Int → Hp → Prop) → Prop := fun σ H Q => ∃ pins ex ow es g P, SR C pins ex ow es σ g H ∧ w es g P ∧
  ∀ i j g' H', P i j g' → Stp C.gh g H g' H' → Q i j H'
theorem prg1V {p : Pos} (hg : Gl X "range") (hm : X.mg "range" = none) (ha : PE X ea (rd C wa)) (hn : nst ea = true) : PRg X (.Call (.Name "range" p) [ea] [] pos) (rRg C fun es g Q => wa es g fun d _ g1 => ∃ j, d = .int j ∧ Q 0 j g1) :=
  fun ps s σ H Q I q => by
    obtain ⟨pins, ex, ow, es, g, P, S, hw, k⟩ := q
    refine prg_1 hg hm ha (star_cons hn) ps s σ H Q I ⟨pins, ex, ow, es, g, _, S, hw, fun d l g1 v H1 p1 s1 r1 => ?_⟩
    obtain ⟨j, rfl, p⟩ := p1
    cases r1
    exact ⟨j, rfl, k _ _ _ H1 p s1⟩
theorem prg2V {p : Pos} (hg : Gl X "range") (hm : X.mg "range" = none) (ha : PE X ea (rd C wa)) (hb : PE X eb (rd C wb)) (hn : nst ea = true) (hn2 : nst eb = true) : PRg X (.Call (.Name "range" p) [ea, eb] [] pos) (rRg C fun es g Q => wa es g fun d1 _ g1 => wb es g1 fun d2 _ g2 => ∃ i j, d1 = .int i ∧ d2 = .int j ∧ Q i j g2) :=
  fun ps s σ H Q I q => by
    obtain ⟨pins, ex, ow, es, g, P, S, hw, k⟩ := q
    refine prg_2 hg hm ha hb (star_cons hn) (star_cons hn2) (star_none (es := [eb]) (by simp [hn2])) ps s σ H Q I ⟨pins, ex, ow, es, g, _, S, hw, fun d l g1 v H1 p1 s1 r1 => ⟨pins, ex, ow, es, g1, _, S.stp' s1, p1, fun d2 l2 g2 v2 H2 p2 s2 r2 => ?_⟩⟩
    obtain ⟨i, j, rfl, rfl, p⟩ := p2
    cases r1
    cases r2
    exact ⟨i, j, rfl, rfl, k _ _ _ H2 p (s1.trans s2)⟩
theorem pe_rngV (hc : X.calm = true) {t : Bool} {p : Pos} {w : VL.Env → G → (Int → Int → G → Prop) → Prop} (hg : Gl X (if t = true then "tuple" else "list")) (hm : X.mg (if t = true then "tuple" else "list") = none) (ha : PRg X ea (rRg C w)) (hn : nst ea = true) :
    PE X (.Call (.Name (if t = true then "tuple" else "list") p) [ea] [] pos) (rd C fun es g Q => w es g fun i j g1 => RgOk i j ∧ Q (if t = true then .tup (rngD i j) else .lst (rngD i j)) 2 g1) := by
  cases t with
  | true =>
    refine (pe_tupRg hc hg hm ha (star_cons hn)).wk fun σ H Q q => ?_
    obtain ⟨pins, ex, ow, es, g, P, S, hw, k⟩ := q
    exact ⟨pins, ex, ow, es, g, _, S, hw, fun i j g1 H1 p1 s1 => ⟨p1.1, fun q hq => k _ _ _ _ _ p1.2 (s1.then (Same.new hq)) ((S.stp' s1).newT hq (rng_rp i j))⟩⟩
  | false =>
    refine (pe_listRg hc hg hm ha (star_cons hn)).wk fun σ H Q q => ?_
    obtain ⟨pins, ex, ow, es, g, P, S, hw, k⟩ := q
    exact ⟨pins, ex, ow, es, g, _, S, hw, fun i j g1 H1 p1 s1 => ⟨p1.1, fun q hq => k _ _ _ _ _ p1.2 (s1.then (Same.new hq)) ((S.stp' s1).newL hq (rng_rp i j))⟩⟩

/-! ### isinstance -/
theorem ty_rp {K : PySem.W.Frag} {H : Hp} {Z : Addr → Prop} {d : D} {v : V} {t : String} (h : tyOf d = some t) (r : Rp K H Z d v) : TyX K H v (.type t) := by
  cases r with
  | non => cases h; exact .base .non
  | bl b => cases h; exact .base (.bl b)
  | int i => cases h; exact .base (.int i)
  | str s => cases h; exact .base (.str s)
  | obj a => cases h
  | frz h1 => cases h
  | lst h1 h2 => cases h; exact .base (.lst h1.2)
  | tup h1 h2 =>
    cases h
    rcases h1 with (h1 | ⟨o, h1⟩) | ⟨o, its, n, h1, h3, _⟩
    · exact .base (.tup h1)
    · exact .fTuple h1
    · exact .kTuple h1 h3
theorem isB_any {K : PySem.W.Frag} {t : String} : ∀ {T : List String} {b : Bool}, isB t T = some b → PySem.W.kitAny K (.type t) (T.map Value.type) = some b
  | [], b, h => by
    cases h
    exact kitAny_nil
  | c :: cs, b, h => by
    unfold isB at h
    cases q : kitB t c with
    | none =>
      rw [q] at h
      cases h
    | some k =>
      rw [q] at h
      cases k with
      | true =>
        cases (show some true = some b from h)
        exact kitAny_cons (kit_ty q) (fun z => nomatch z) fun _ => rfl
      | false => exact kitAny_cons (kit_ty q) (fun _ => isB_any (show isB t cs = some b from h)) fun z => nomatch z
/-- the classes that are named -/
def tyN (n : String) : Bool := n == "int" || n == "bool" || n == "str" || n == "tuple" || n == "list" || n == "dict"
theorem ty_boot {n : String} (h : tyN n = true) : bootBuiltins (Str.ofString n) = some (.type n) ∧ (Str.ofString n) ≠ "__name__" ∧ (Str.ofString n == ("__debug__" : Str)) = false := by
  unfold tyN at h
  simp only [Bool.or_eq_true, beq_iff_eq] at h
  rcases h with ((((rfl | rfl) | rfl) | rfl) | rfl) | rfl <;> decide +kernel
theorem pe_ty {n : String} {p : Pos} (h : tyN n = true) (hg : Gl X (Str.ofString n)) (hm : X.mg (Str.ofString n) = none) : PE X (.Name (Str.ofString n) p) (tC (.ty n)) :=
  pe_bltn hg hm (ty_boot h).1 rfl (ty_boot h).2.1 (ty_boot h).2.2
abbrev mIsi (wa : Wd G) (T : List String) : Wd G := fun es g Q => wa es g fun d _ g1 => ∃ t b, tyOf d = some t ∧ isB t T = some b ∧ Q (.bl b) 2 g1
theorem pe_isi1 (hK : X.K = C.K) {n : String} {p p2 : Pos} (h : tyN n = true) (hg : Gl X (Str.ofString n)) (hm : X.mg (Str.ofString n) = none) (hgi : Gl X "isinstance") (hmi : X.mg "isinstance" = none) (ha : PE X ea (rd C wa)) (hn : nst ea = true) :
    PE X (.Call (.Name "isinstance" p) [ea, .Name (Str.ofString n) p2] [] pos) (rd C (mIsi wa [n])) := by
  refine (pe_callB call_isi hgi hmi (by decide +kernel) (pa_cons ha (pa_cons (pe_ty h hg hm) pa_nil) (star_cons hn)) (by decide) (by decide) (star_cons hn) rfl).wk fun σ H Q q => ?_
  obtain ⟨pins, ex, ow, es, g, P, S, hw, k⟩ := q
  rw [hK]
  refine ⟨pins, ex, ow, es, g, _, S, hw, fun d l g1 v H1 p1 s1 r1 => ?_⟩
  obtain ⟨t, b, e1, e2, p⟩ := p1
  have e3 : kitB t n = some b := by
    unfold isB at e2
    cases q : kitB t n with
    | none =>
      rw [q] at e2
      cases e2
    | some c =>
      rw [q] at e2
      cases c with
      | true => exact e2
      | false => exact e2
  exact ⟨v, .ty n, _, _, b, rfl, .ty n, ty_rp e1 r1, kit_ty e3, k _ _ _ _ H1 p s1 (.bl b)⟩
theorem pa_tys : ∀ {T : List String} {ps : List Pos}, T.all tyN = true → (∀ n ∈ T, Gl X (Str.ofString n) ∧ X.mg (Str.ofString n) = none) → ps.length = T.length →
    PA X ((T.zip ps).map fun q => Expr.Name (Str.ofString q.1) q.2) (fun _ H Q => Q (T.map V.ty) H)
  | [], _, _, _, _ => pa_nil
  | n :: T, [], _, _, hl => by simp at hl
  | n :: T, p :: ps, h, hm, hl => by
    have h2 : tyN n = true ∧ T.all tyN = true := by simpa using h
    have z := hm n List.mem_cons_self
    exact (pa_cons (pe_ty (p := p) h2.1 z.1 z.2) (pa_tys (T := T) (ps := ps) h2.2 (fun m hm' => hm m (List.mem_cons_of_mem _ hm')) (by simpa using hl)) rfl).wk fun σ H Q q => q
theorem pe_isiT (hK : X.K = C.K) {T : List String} {ps : List Pos} {p p2 : Pos} {x1} (h : T.all tyN = true) (hg : ∀ n ∈ T, Gl X (Str.ofString n) ∧ X.mg (Str.ofString n) = none) (hl : ps.length = T.length) (hz : T.length ≤ 10) (hgi : Gl X "isinstance") (hmi : X.mg "isinstance" = none) (ha : PE X ea (rd C wa)) (hn : nst ea = true) :
    PE X (.Call (.Name "isinstance" p) [ea, .Tuple ((T.zip ps).map fun q => Expr.Name (Str.ofString q.1) q.2) x1 p2] [] pos) (rd C (mIsi wa T)) := by
  refine (pe_callB call_isiT hgi hmi (by decide +kernel) (pa_cons ha (pa_cons (pe_tup (pa_tys h hg hl)) pa_nil) (star_cons hn)) (by decide) (by decide) (star_cons hn) rfl).wk fun σ H Q q => ?_
  obtain ⟨pins, ex, ow, es, g, P, S, hw, k⟩ := q
  rw [hK]
  refine ⟨pins, ex, ow, es, g, _, S, hw, fun d l g1 v H1 p1 s1 r1 => ⟨?_, fun tp htp => ?_⟩⟩
  · rw [List.length_map, sizeLine_eq]
    omega
  obtain ⟨t, b, e1, e2, p⟩ := p1
  have pr : ∀ T : List String, Paired ClsV (T.map V.ty) (T.map Value.type) := fun T => by
    induction T with
    | nil => exact .nil
    | cons n T ih => exact .cons (.ty n) ih
  exact ⟨v, tp, T.map V.ty, _, T.map Value.type, b, rfl, upd_same, pr T, ty_rp e1 (Rp.same (Same.new htp) r1), isB_any e2, k _ _ _ _ _ p (s1.then (Same.new htp)) (.bl b)⟩

/-! ### calls of defs -/
/-- a def's promise: out of its data and the ghost, by w -/
def spF (K : PySem.W.Frag) (gh : Gh G) (n : Nat) (w : WF G) : Sp := fun vs H Q _ => vs.length = n ∧ ∃ ds g Z0 P, (∀ a, gh.fp g a → Z0 a) ∧ gh.ok g H ∧ RpA K H Z0 ds vs ∧ w ds g P ∧
  ∀ d l g' v H', P d l g' → Stp gh g H g' H' → Rp K H' (fun a => gh.fp g' a ∨ (H a ≠ none ∧ (2 ≤ l ∨ Z0 a))) d v → Q v H'
/-- a def that stands at a name and keeps its promise -/
def FnAt (X : Cx) (K : PySem.W.Frag) (gh : Gh G) (x : Str) (n : Nat) (w : WF G) : Prop := ∃ (k : Nat) (f : Addr) (fd : FuncData) (ps : List Str), FnOk X.prog X.w X.K X.mg X.base (L2.CX X.prog X.w) k f fd ps (spF K gh n w) ∧ Room k X.A ∧
  X.mg x = some (.ref f) ∧ PySem.W.keepIn X.K (.ref f) = true ∧ Binds X.K fd ps []
theorem pe_callV {x : Str} {n : Nat} {w : WF G} {p : Pos} {i : Nat} (hf : fs[i]? = some (n, w)) (F : FnAt X C.K C.gh x n w) (hg : Gl X x) (hd : (x == ("__debug__" : Str)) = false) (ha : PA X (ea :: as) (rdA C wl)) (hn : (ea :: as).all nst = true) :
    PE X (.Call (.Name x p) (ea :: as) [] pos) (rd C fun es g Q => wl es g fun ds m g1 => ∃ n w, fs[i]? = some (n, w) ∧ ds.length = n ∧ w ds g1 fun d l g2 => Q d (if 2 ≤ l then 2 else m) g2) := by
  obtain ⟨k, f, fd, ps, F, hr, hm, hk, hb⟩ := F
  have hn2 : nst ea = true ∧ as.all nst = true := by simpa using hn
  refine (pe_call F hr hg hm hk hb .nil passL ha hd (star_cons hn2.1) (star_none hn2.2)).wk fun σ H Q q => ?_
  obtain ⟨pins, ex, ow, es, g, P, S, hw, k⟩ := q
  refine ⟨pins, ex, ow, es, g, _, S, hw, fun ds m g1 vs H1 p1 s1 r1 => ?_⟩
  obtain ⟨n', w', hf', hl, p1⟩ := p1
  rw [hf] at hf'
  cases hf'
  have S1 := S.stp' s1
  refine ⟨by rw [List.append_nil, ← r1.len]; exact hl, ds, g1, Zl C ex ow g1 m, _, fun a z => .inl z, S1.stp.ok, by rw [List.append_nil]; exact r1, p1, fun d l g2 v H2 p2 s2 r2 => ?_⟩
  refine k _ _ _ _ H2 p2 (s1.trans s2) (r2.anti fun a z => ?_)
  have lo : ∀ lev : Nat, lev ≤ m → Zl C ex ow g2 lev a → C.gh.fp g2 a ∨ (H1 a ≠ none ∧ (2 ≤ l ∨ Zl C ex ow g1 m a)) := fun lev hlev z => by
    rcases z with z | z | ⟨z, i, y⟩ | ⟨z, y⟩
    · exact .inl z
    · exact .inr ⟨(S1.exs a z).1, .inr (.inr (.inl z))⟩
    · exact .inr ⟨(S1.own i a y).1, .inr (.inr (.inr (.inl ⟨Nat.le_trans z hlev, i, y⟩)))⟩
    · refine .inr ⟨S1.stp.kp.dom a z, .inr (.inr (.inr (.inr ⟨z, ?_⟩)))⟩
      rcases y with y | y
      · exact .inl (Nat.le_trans y hlev)
      · exact .inr y
  by_cases h2 : 2 ≤ l
  · rw [if_pos h2] at z
    rcases z with z | z | ⟨z, i, y⟩ | ⟨z, y⟩
    · exact .inl z
    · exact .inr ⟨(S1.exs a z).1, .inl h2⟩
    · exact .inr ⟨(S1.own i a y).1, .inl h2⟩
    · exact .inr ⟨S1.stp.kp.dom a z, .inl h2⟩
  · rw [if_neg h2] at z
    exact lo m (Nat.le_refl _) z
end
end VL
/-! Val: what is walked, targets, comprehensions. -/
namespace VL
open PySem PySem.Spec PyProof.Rows L2

section
variable {C : Vc G} {X : Cx} {fs : List (Nat × WF G)} {e ea eb ec : Expr} {wa wb wc : Wd G} {pos : Pos} {as : List Expr} {wl : Wls G} {wq : Ws G}
  {pins : List Pin} {ex : List Addr} {ow : Nat → List Addr} {es : VL.Env} {σ : L2.St} {g g' : G} {H H' : Hp}
/-! ### a list or a tuple that is walked -/
def iSeq (K : PySem.W.Frag) (tl : TE) : TI := fun σ H R => tl σ H fun x H1 => ∃ a, x = .ref a ∧ (((∃ xs, SqL K H1 a xs) ∧ R (Itl K a) H1) ∨ ((∃ xs, SqT K H1 a xs) ∧ R (Itt K a) H1))
theorem pi_seq {tg l : Expr} {tl : TE} (hl : PE X l tl) : PI X tg l (iSeq X.K tl) := by
  constructor
  intro ps s σ H R I h
  refine thn (hl.run ps s σ H _ I h) ?_
  rintro v s1 ⟨x, H1, I1, r1, a, ea, q⟩
  subst ea
  obtain rfl : v = Value.ref a := r1
  have one : ∀ b ∈ [s1.heap.objs.size], FpOk X ps H1 b := by
    intro b hb
    rw [List.mem_singleton] at hb
    rw [hb]
    exact I1.fpOk (Nat.le_refl _) (I1.hok.fresh (Nat.le_refl _))
  rcases q with ⟨⟨xs, hq⟩, q⟩ | ⟨⟨xs, hq⟩, q⟩
  · obtain ⟨its, _, p, _⟩ := I1.list hq
    refine wpAny_pyIter_list p.isList ?_
    exact ⟨_, _, _, _, H1, rfl, I1.kept (t' := s1.toks) (fun b o e => Heap.get?_push_of_some _ e), turn_list a s1.heap.objs.size, ⟨_, Heap.get?_push_size _ rfl, rfl, rfl⟩, one, q⟩
  · obtain ⟨its, _, p, _⟩ := I1.tuple hq
    refine wpAny_pyIter_tuple (items := its.toArray) p ?_
    exact ⟨_, _, _, _, H1, rfl, I1.kept (t' := s1.toks) (fun b o e => Heap.get?_push_of_some _ e), turn_tuple a s1.heap.objs.size, ⟨_, Heap.get?_push_size _ rfl, rfl, rfl⟩, one, q⟩
/-- a range that is walked -/
def RgJ (J : It) (ds : List D) : Prop := (∃ lo hi, J = Itr lo (hi - lo).toNat ∧ ds = rngD lo hi) ∨ ∃ (lo : Int) (n : Nat), J = Itc lo (-1) n ∧ ds = dwnD lo n
/-- what J walks: the items ds -/
def ItAt (C : Vc G) (ex : List Addr) (ow : Nat → List Addr) (g : G) (H : Hp) (ds : List D) (l : Nat) (J : It) : Prop :=
  (∃ t a xs, Sv C ex ow g H t ds l a xs ∧ J = if t = true then Itt C.K a else Itl C.K a) ∨ RgJ J ds
def rdI (C : Vc G) (w : Wls G) : TI := fun σ H R => ∃ pins ex ow es g P, SR C pins ex ow es σ g H ∧ w es g P ∧
  ∀ ds l g' H' J, P ds l g' → Stp C.gh g H g' H' → ItAt C ex ow g' H' ds l J → R J H'
theorem pi_itV (hK : X.K = C.K) {tg : Expr} (ha : PE X ea (rdQ C wq)) : PI X tg ea (rdI C fun es g Q => wq es g fun _ ds l g1 => Q ds l g1) := by
  refine (pi_seq ha).wk fun σ H R q => ?_
  obtain ⟨pins, ex, ow, es, g, P, S, hw, k⟩ := q
  rw [hK]
  refine ⟨pins, ex, ow, es, g, _, S, hw, fun t ds l g1 a xs H1 p1 s1 r1 => ⟨a, rfl, ?_⟩⟩
  have q := k _ _ _ H1 _ p1 s1 (.inl ⟨t, a, xs, r1, rfl⟩)
  cases t with
  | true => exact .inr ⟨⟨xs, r1.1⟩, q⟩
  | false =>
    refine .inl ⟨⟨xs, ?_⟩, q⟩
    rcases r1.1 with z | z
    · exact z.sq
    · exact z.sq
theorem pi_rng1V {tg : Expr} {p : Pos} (hg : Gl X "range") (hm : X.mg "range" = none) (ha : PE X ea (rd C wa)) (hn : nst ea = true) : PI X tg (.Call (.Name "range" p) [ea] [] pos) (rdI C fun es g Q => wa es g fun d _ g1 => ∃ j, d = .int j ∧ small j ∧ Q (rngD 0 j) 2 g1) := by
  refine (pi_range1 hg hm (pa_cons ha pa_nil (star_cons hn)) (star_cons hn)).wk fun σ H R q => ?_
  obtain ⟨pins, ex, ow, es, g, P, S, hw, k⟩ := q
  refine ⟨pins, ex, ow, es, g, _, S, hw, fun d l g1 v H1 p1 s1 r1 => ?_⟩
  obtain ⟨j, rfl, hj, p⟩ := p1
  cases r1
  refine ⟨j, rfl, hj.1, hj.2, k _ _ _ H1 _ p s1 (.inr (.inl ⟨0, j, by rw [Int.sub_zero], rfl⟩))⟩
theorem pi_rng2V {tg : Expr} {p : Pos} (hg : Gl X "range") (hm : X.mg "range" = none) (ha : PE X ea (rd C wa)) (hb : PE X eb (rd C wb)) (hn : nst ea = true) (hn2 : nst eb = true) : PI X tg (.Call (.Name "range" p) [ea, eb] [] pos) (rdI C fun es g Q => wa es g fun d1 _ g1 => wb es g1 fun d2 _ g2 => ∃ i j, d1 = .int i ∧ d2 = .int j ∧ small i ∧ small j ∧ Q (rngD i j) 2 g2) := by
  have h2 : starEach [ea, eb] X.env = [(false, eval ea X.env), (false, eval eb X.env)] := by
    rw [star_cons hn, star_cons hn2]
    rfl
  refine (pi_range2 hg hm (pa_cons ha (pa_cons hb pa_nil (star_cons hn2)) (star_cons hn)) h2 (star_cons hn2)).wk fun σ H R q => ?_
  obtain ⟨pins, ex, ow, es, g, P, S, hw, k⟩ := q
  refine ⟨pins, ex, ow, es, g, _, S, hw, fun d l g1 v H1 p1 s1 r1 => ⟨pins, ex, ow, es, g1, _, S.stp' s1, p1, fun d2 l2 g2 v2 H2 p2 s2 r2 => ?_⟩⟩
  obtain ⟨i, j, rfl, rfl, hi, hj, p⟩ := p2
  cases r1
  cases r2
  exact ⟨i, j, rfl, ⟨hi.1, hi.2, hj.1, hj.2⟩, k _ _ _ H2 _ p (s1.trans s2) (.inr (.inl ⟨i, j, rfl, rfl⟩))⟩
def rdRg (C : Vc G) (w : Wls G) : TI := fun σ H R => ∃ pins ex ow es g P, SR C pins ex ow es σ g H ∧ w es g P ∧
  ∀ ds l g' H' J, P ds l g' → Stp C.gh g H g' H' → RgJ J ds → R J H'
theorem pi_rngdR {tg : Expr} {p p1 p2 : Pos} {j1 : Nat} (hg : Gl X "range") (hm : X.mg "range" = none) (ha : PE X ea (rd C wa)) (hb : PE X eb (rd C wb)) (hn : nst ea = true) (hn2 : nst eb = true) :
    PI X tg (.Call (.Name "range" p) [ea, eb, .UnaryOp .USub (.Constant (.int 1) j1 p1) p2] [] pos) (rdRg C fun es g Q => wa es g fun d1 _ g1 => wb es g1 fun d2 _ g2 => ∃ i j, d1 = .int i ∧ d2 = .int j ∧ small i ∧ small j ∧ Q (dwnD i (i - j).toNat) 2 g2) := by
  have h3 : PE X (.UnaryOp .USub (.Constant (.int 1) j1 p1) p2) (tUn (fun x H Q => ∃ i, x = .int i ∧ Q (.int (-i)) H) (tC (.int 1))) := pe_un un_neg pe_int
  have pa : PA X [ea, eb, .UnaryOp .USub (.Constant (.int 1) j1 p1) p2] _ := pa_cons ha (pa_cons hb (pa_cons h3 pa_nil (star_cons rfl)) (star_cons hn2)) (star_cons hn)
  refine (pi_range3 hg hm pa (star_cons hn) (star_none (by rw [List.all_cons, hn2]; rfl))).wk fun σ H R q => ?_
  obtain ⟨pins, ex, ow, es, g, P, S, hw, k⟩ := q
  refine ⟨pins, ex, ow, es, g, _, S, hw, fun d l g1 v H1 p1 s1 r1 => ⟨pins, ex, ow, es, g1, _, S.stp' s1, p1, fun d2 l2 g2 v2 H2 p2 s2 r2 => ?_⟩⟩
  obtain ⟨i, j, rfl, rfl, hi, hj, p⟩ := p2
  cases r1
  cases r2
  exact ⟨1, rfl, i, j, -1, (i - j).toNat, rfl, RgC.neg hi.1 hi.2 hj.1 hj.2, k _ _ _ H2 _ p (s1.trans s2) (.inr ⟨i, _, rfl, rfl⟩)⟩
theorem rdRg.i {tg e : Expr} {w : Wls G} (h : PI X tg e (rdRg C w)) : PI X tg e (rdI C w) := h.wk fun σ H R q => by
  obtain ⟨pins, ex, ow, es, g, P, S, hw, k⟩ := q
  exact ⟨pins, ex, ow, es, g, P, S, hw, fun ds l g1 H1 J p s it => k ds l g1 H1 J p s (.inr it)⟩
theorem rngD_get {lo hi : Int} {i : Nat} (h : i < (hi - lo).toNat) : (rngD lo hi)[i]? = some (.int (lo + (i : Nat))) := by
  unfold rngD
  rw [List.getElem?_map, List.getElem?_range h] <;> rfl
theorem rngD_len (lo hi : Int) : (rngD lo hi).length = (hi - lo).toNat := by
  unfold rngD
  rw [List.length_map, List.length_range]
theorem dwnD_get {lo : Int} {n i : Nat} (h : i < n) : (dwnD lo n)[i]? = some (.int (lo - (i : Nat))) := by
  unfold dwnD
  rw [List.getElem?_map, List.getElem?_range h] <;> rfl
theorem dwnD_len (lo : Int) (n : Nat) : (dwnD lo n).length = n := by
  unfold dwnD
  rw [List.length_map, List.length_range]
section
variable {ds : List D} {l : Nat} {J : It} {i : Nat}
theorem ItAt.stp (s : Stp C.gh g H g' H') (h : ItAt C ex ow g H ds l J) : ItAt C ex ow g' H' ds l J := by
  rcases h with ⟨t, a, xs, h, e⟩ | h
  · exact .inl ⟨t, a, xs, h.stp s, e⟩
  · exact .inr h
theorem ItAt.go (h : ItAt C ex ow g H ds l J) (hi : i < ds.length) : J.go i H := by
  rcases h with ⟨t, a, xs, ⟨h1, h2⟩, rfl⟩ | ⟨lo, hh, rfl, rfl⟩ | ⟨lo, n, rfl, rfl⟩
  · have hx : i < xs.length := by rw [← h2.len]; exact hi
    cases t with
    | true => exact ⟨xs, _, h1, List.getElem?_eq_getElem hx⟩
    | false =>
      refine ⟨xs, _, ?_, List.getElem?_eq_getElem hx⟩
      rcases h1 with z | z
      · exact z.sq
      · exact z.sq
  · rw [rngD_len] at hi
    exact hi
  · rw [dwnD_len] at hi
    exact hi
theorem ItAt.yld (h : ItAt C ex ow g H ds l J) (hi : i < ds.length) {x : V} (y : J.yld i H x H') : H' = H ∧ ∃ d, ds[i]? = some d ∧ Rp C.K H (Zl C ex ow g l) d x := by
  rcases h with ⟨t, a, xs, ⟨h1, h2⟩, rfl⟩ | ⟨lo, hh, rfl, rfl⟩ | ⟨lo, n, rfl, rfl⟩
  · have fin : xs[i]? = some x → ∃ d, ds[i]? = some d ∧ Rp C.K H (Zl C ex ow g l) d x := fun q => h2.getV q
    cases t with
    | true => exact ⟨y.1, fin (y.2 xs h1)⟩
    | false =>
      refine ⟨y.1, fin (y.2 xs ?_)⟩
      rcases h1 with z | z
      · exact z.sq
      · exact z.sq
  · obtain ⟨y1, rfl⟩ := y
    rw [rngD_len] at hi
    exact ⟨y1, _, rngD_get hi, .int _⟩
  · obtain ⟨y1, rfl⟩ := y
    rw [dwnD_len] at hi
    refine ⟨y1, _, dwnD_get hi, ?_⟩
    rw [show lo + ((i : Nat) : Int) * -1 = lo - (i : Nat) by omega]
    exact .int _
theorem ItAt.stop (h : ItAt C ex ow g H ds l J) (hi : ds.length ≤ i) : J.stop i H := by
  rcases h with ⟨t, a, xs, ⟨h1, h2⟩, rfl⟩ | ⟨lo, hh, rfl, rfl⟩ | ⟨lo, n, rfl, rfl⟩
  · have hx : xs.length ≤ i := by rw [← h2.len]; exact hi
    cases t with
    | true => exact ⟨xs, h1, hx⟩
    | false =>
      refine ⟨xs, ?_, hx⟩
      rcases h1 with z | z
      · exact z.sq
      · exact z.sq
  · rw [rngD_len] at hi
    exact hi
  · rw [dwnD_len] at hi
    exact hi
end

/-! ### slots that are set -/
theorem SR.setD (S : SR C pins ex ow es σ g H) {j : Nat} {d : D} {l : Nat} {v : V} (n : noOwn es [j]) (r : Rp C.K H (Zl C ex ow g l) d v) : SR C pins ex ow (es.set j (.dat d l)) (σ.set j (some v)) g H where
  len := by rw [List.length_set, List.length_set]; exact S.len
  slot := fun i s e => by
    by_cases q : j = i
    · subst q
      by_cases hj : j < es.length
      · rw [List.getElem?_set_self hj] at e
        cases e
        have hs : j < σ.length := by rw [← S.len]; exact hj
        rw [List.getElem?_set_self hs]
        refine ⟨?_, v, rfl, r⟩
        have z := n j (List.mem_singleton.mpr rfl) _ (List.getElem?_eq_getElem hj)
        have y := S.slot j _ (List.getElem?_eq_getElem hj)
        revert z y
        generalize es[j] = sl
        intro z y
        cases sl with
        | no => exact y
        | dat _ _ => exact y.1
        | own _ _ => exact z.elim
        | own2 _ _ => exact z.elim
      · rw [List.getElem?_eq_none (by rw [List.length_set]; omega)] at e
        cases e
    · rw [List.getElem?_set_ne q] at e
      rw [List.getElem?_set_ne q]
      exact S.slot i s e
  out := fun i h => S.out i (by rw [List.length_set] at h; exact h)
  own := S.own
  nd := S.nd
  dis := S.dis
  exs := S.exs
  pin := S.pin
  stp := S.stp
theorem SR.forget (S : SR C pins ex ow es σ g H) {j : Nat} {o : Option V} (n : noOwn es [j]) : SR C pins ex ow (es.set j .no) (σ.set j o) g H where
  len := by rw [List.length_set, List.length_set]; exact S.len
  slot := fun i s e => by
    by_cases q : j = i
    · subst q
      by_cases hj : j < es.length
      · rw [List.getElem?_set_self hj] at e
        cases e
        have z := n j (List.mem_singleton.mpr rfl) _ (List.getElem?_eq_getElem hj)
        have y := S.slot j _ (List.getElem?_eq_getElem hj)
        revert z y
        generalize es[j] = sl
        intro z y
        cases sl with
        | no => exact y
        | dat _ _ => exact y.1
        | own _ _ => exact z.elim
        | own2 _ _ => exact z.elim
      · rw [List.getElem?_eq_none (by rw [List.length_set]; omega)] at e
        cases e
    · rw [List.getElem?_set_ne q] at e
      rw [List.getElem?_set_ne q]
      exact S.slot i s e
  out := fun i h => S.out i (by rw [List.length_set] at h; exact h)
  own := S.own
  nd := S.nd
  dis := S.dis
  exs := S.exs
  pin := S.pin
  stp := S.stp
theorem noOwn.set {vs : List Nat} {j : Nat} {s : Sl} (n : noOwn es vs) (hs : match s with | .own _ _ => False | .own2 _ _ => False | _ => True) : noOwn (es.set j s) vs := fun i hi t e => by
  by_cases q : j = i
  · subst q
    by_cases hj : j < es.length
    · rw [List.getElem?_set_self hj] at e
      cases e
      exact hs
    · rw [List.getElem?_eq_none (by rw [List.length_set]; omega)] at e
      cases e
  · rw [List.getElem?_set_ne q] at e
    exact n i hi t e
theorem SR.wipe' (S : SR C pins ex ow es σ g H) : ∀ {vs : List Nat}, noOwn es vs → SR C pins ex ow (wipeE es vs) (wipe σ vs) g H ∧ ∀ ws, noOwn es ws → noOwn (wipeE es vs) ws
  | [], _ => ⟨S, fun _ h => h⟩
  | v :: vs, n => by
    obtain ⟨h1, h2⟩ := S.wipe' (vs := vs) fun i hi => n i (List.mem_cons_of_mem _ hi)
    refine ⟨h1.forget (h2 _ fun i hi => n i ?_), fun ws hw => noOwn.set (h2 ws hw) trivial⟩
    rw [List.mem_singleton.mp hi]
    exact List.mem_cons_self
/-- all slots of js set -/
def setV (σ : L2.St) : List Nat → List V → L2.St
  | j :: js, v :: vs => setV (σ.set j (some v)) js vs
  | _, _ => σ
theorem SR.setAll' : ∀ {js : List Nat} {ds : List D} {vs : List V} {es : VL.Env} {σ : L2.St} {l : Nat}, SR C pins ex ow es σ g H → noOwn es js → RpA C.K H (Zl C ex ow g l) ds vs → ds.length = js.length → SR C pins ex ow (setAll es js ds l) (setV σ js vs) g H
  | [], ds, vs, es, σ, l, S, _, _, _ => by
    cases ds <;> cases vs <;> exact S
  | j :: js, [], vs, es, σ, l, S, _, _, hl => by simp at hl
  | j :: js, d :: ds, _, es, σ, l, S, n, r, hl => by
    cases r with
    | @cons _ _ v vs r1 r2 =>
      show SR C pins ex ow (setAll (es.set j (.dat d l)) js ds l) (setV (σ.set j (some v)) js vs) g H
      refine SR.setAll' (es := es.set j (.dat d l)) (σ := σ.set j (some v)) (S.setD (fun i hi => n i ?_) r1) (noOwn.set (fun i hi => n i (List.mem_cons_of_mem _ hi)) trivial) r2 (by simpa using hl)
      rw [List.mem_singleton.mp hi]
      exact List.mem_cons_self
theorem wipe_set {σ : L2.St} {j : Nat} {o : Option V} : ∀ {vs : List Nat}, j ∈ vs → wipe (σ.set j o) vs = wipe σ vs
  | v :: vs, h => by
    show (wipe (σ.set j o) vs).set v none = (wipe σ vs).set v none
    by_cases q : j ∈ vs
    · rw [wipe_set q]
    · have e : j = v := by
        rcases List.mem_cons.mp h with z | z
        · exact z
        · exact absurd z q
      subst e
      have out : ∀ ws : List Nat, j ∉ ws → wipe (σ.set j o) ws = (wipe σ ws).set j o := fun ws hw => by
        induction ws with
        | nil => rfl
        | cons w ws ih =>
          show (wipe (σ.set j o) ws).set w none = ((wipe σ ws).set w none).set j o
          rw [ih fun z => hw (List.mem_cons_of_mem _ z), List.set_comm _ _ (fun z => hw (by rw [z]; exact List.mem_cons_self))]
      rw [out vs q, List.set_set]
theorem wipe_wipe {σ : L2.St} : ∀ {vs ws : List Nat}, (∀ i ∈ vs, i ∈ ws) → wipe (wipe σ vs) ws = wipe σ ws
  | [], _, _ => rfl
  | v :: vs, ws, h => by
    show wipe ((wipe σ vs).set v none) ws = wipe σ ws
    rw [wipe_set (h v List.mem_cons_self), wipe_wipe fun i hi => h i (List.mem_cons_of_mem _ hi)]
theorem wipe_setV : ∀ {js : List Nat} {vs : List V} {ws : List Nat} {σ : L2.St}, (∀ i ∈ js, i ∈ ws) → wipe (setV σ js vs) ws = wipe σ ws
  | [], vs, ws, σ, _ => by cases vs <;> rfl
  | j :: js, [], ws, σ, _ => rfl
  | j :: js, v :: vs, ws, σ, h => by
    show wipe (setV (σ.set j (some v)) js vs) ws = wipe σ ws
    rw [wipe_setV fun i hi => h i (List.mem_cons_of_mem _ hi), wipe_set (h j List.mem_cons_self)]

/-! ### targets -/
def gsN : List Nat → TGs
  | [] => gNil
  | j :: js => gCons (gName j) (gsN js)
def gTg (K : PySem.W.Frag) : Tg → TG
  | .name j => gName j
  | .tup js => gTup K js.length (gsN js)
def Tg.js : Tg → List Nat
  | .name j => [j]
  | .tup js => js
theorem gsN_of : ∀ {js : List Nat} {vs : List V} {σ : L2.St} {H : Hp} {Q : L2.St → Hp → Prop}, vs.length = js.length → Q (setV σ js vs) H → gsN js vs σ H Q
  | [], [], _, _, _, _, q => ⟨rfl, q⟩
  | [], _ :: _, _, _, _, h, _ => by simp at h
  | _ :: _, [], _, _, _, h, _ => by simp at h
  | j :: js, v :: vs, σ, H, Q, h, q => ⟨v, vs, rfl, gsN_of (js := js) (vs := vs) (by simpa using h) q⟩
/-- a target takes an item -/
theorem tg_ok {tg : Tg} {d : D} {l : Nat} {x : V} {k : VL.Env → Prop} {Q : L2.St → Hp → Prop} (S : SR C pins ex ow es σ g H) (r : Rp C.K H (Zl C ex ow g l) d x) (h : bindT tg d l es k)
    (q : ∀ es' σ', k es' → SR C pins ex ow es' σ' g H → (∀ ws : List Nat, (∀ i ∈ tg.js, i ∈ ws) → wipe σ' ws = wipe σ ws) → Q σ' H) : gTg C.K tg x σ H Q := by
  cases tg with
  | name j =>
    obtain ⟨n, hk⟩ := h
    exact q _ _ hk (S.setD n r) fun ws hw => wipe_set (hw j (List.mem_singleton.mpr rfl))
  | tup js =>
    obtain ⟨ds, rfl, hl, n, hk⟩ := h
    cases r with
    | tup h1 h2 =>
      refine ⟨_, _, rfl, h1, by rw [← h2.len]; exact hl, gsN_of (by rw [← h2.len]; exact hl) ?_⟩
      exact q _ _ hk (S.setAll' n h2 hl) fun ws hw => wipe_setV hw

/-! ### a change of what stands in ex -/
theorem SR.putEx (S : SR C pins ex ow es σ g H) {p : Addr} {xs ys : List V} (hp : p ∈ ex) (h : H p = some (.lst xs)) : SR C pins ex ow es σ g (upd H p (.lst ys)) := by
  have kz : ∀ l, Kp (Zl C ex ow g l) H (upd H p (.lst ys)) := fun l => Kp.put (.inr (.inl hp)) h fun z => z
  have kr : ∀ {l d v}, Rp C.K H (Zl C ex ow g l) d v → Rp C.K (upd H p (.lst ys)) (Zl C ex ow g l) d v := fun r => Rp.kp (kz _) (fun _ z => z) (fun _ _ z => z) r
  have kra : ∀ {l d v}, RpA C.K H (Zl C ex ow g l) d v → RpA C.K (upd H p (.lst ys)) (Zl C ex ow g l) d v := fun r => RpA.kp (kz _) (fun _ z => z) (fun _ _ z => z) r
  obtain ⟨e1, e2, e3⟩ := S.exs p hp
  have on : ∀ i a, a ∈ ow i → a ≠ p := fun i a ha z => (S.own i a ha).2.2.2 (by rw [z]; exact hp)
  refine ⟨S.len, fun i s e => ?_, S.out, fun i a ha => ?_, S.nd, S.dis, fun a ha => ?_, fun q hq => ?_, ?_⟩
  · have q := S.slot i s e
    cases s with
    | no => exact q
    | dat d l =>
      obtain ⟨q0, x, q1, q2⟩ := q
      exact ⟨q0, x, q1, kr q2⟩
    | own ds l =>
      obtain ⟨a, zs, q1, q2, q3, q4, q5⟩ := q
      exact ⟨a, zs, q1, q2, by rw [upd_ne (on i a (by rw [q1]; exact List.mem_singleton.mpr rfl))]; exact q3, q4, kra q5⟩
    | own2 dss l =>
      obtain ⟨a, rs, q1, q2, q3, q4, q5, q6⟩ := q
      refine ⟨a, rs, q1, q2, by rw [upd_ne (on i a (by rw [q1]; exact List.mem_cons_self))]; exact q3, q4, q5, fun k r ds h1 h2 => ?_⟩
      obtain ⟨zs, h3, h4⟩ := q6 k r ds h1 h2
      exact ⟨zs, by rw [upd_ne (on i r (by rw [q1]; exact List.mem_cons_of_mem _ (List.mem_of_getElem? h1)))]; exact h3, kra h4⟩
  · obtain ⟨h1, h2, h3, h4⟩ := S.own i a ha
    exact ⟨by rw [upd_ne (on i a ha)]; exact h1, h2, h3, h4⟩
  · obtain ⟨h1, h2, h3⟩ := S.exs a ha
    refine ⟨(kz 0).dom a h1, h2, h3⟩
  · obtain ⟨h1, h2⟩ := S.pin q hq
    refine ⟨?_, kra h2⟩
    by_cases ht : q.tupl = true
    · rw [if_pos ht] at h1 ⊢
      exact (kz 0).tup h1
    · rw [if_neg ht] at h1 ⊢
      rcases h1 with z | z
      · exact .inl (Ls.kp (kz q.l) (fun _ z => z) (fun _ _ z => z) z)
      · exact .inr ((kz 0).frz z)
  · have k0 := S.stp.kp
    refine ⟨⟨fun a o ha hi => ?_, fun a ha => (kz 0).dom a (k0.dom a ha)⟩, Gh.put S.stp.ok h e3, S.stp.fp⟩
    have na : a ≠ p := fun z => by
      rw [z, e2] at ha
      cases ha
    rw [upd_ne na]
    exact k0.keep a o ha hi
end
end VL
/-! Val: comprehensions. -/
namespace VL
open PySem PySem.Spec PyProof.Rows L2

section
variable {C : Vc G} {X : Cx} {pins : List Pin} {ex : List Addr} {ow : Nat → List Addr} {es : VL.Env} {σ : L2.St} {g g' : G} {H H' : Hp}
theorem lc_it {J : It} {n : Nat} {tg : TG} {tt : TT} {te : TE} {vs : List Nat} {σ : L2.St} {H1 : Hp} {L : Addr} {Qd : Hp → Prop} (Pv : Nat → Hp → Prop) (h0 : Pv 0 (upd H1 L (.lst [])))
    (hs : ∀ i H, i < n → Pv i H → J.go i H ∧ ∀ x H', J.yld i H x H' → tg x (wipe σ vs) H' fun σ2 H2 => wipe σ2 vs = wipe σ vs ∧ tt σ2 H2 fun b H3 =>
      if b = true then te σ2 H3 fun y H4 => ∃ acc, H4 L = some (.lst acc) ∧ acc.length < sizeLine ∧ Pv (i + 1) (upd H4 L (.lst (acc ++ [y]))) else Pv (i + 1) H3)
    (hd : ∀ H, Pv n H → J.stop n H ∧ Qd H) :
    ∃ W : Nat → Nat → Hp → Prop, (∃ m, W 0 m (upd H1 L (.lst []))) ∧ ∀ i m H, W i m H →
      (J.stop i H ∧ Qd H) ∨ (J.go i H ∧ ∃ Nx : Hp → Prop, (∀ H', Nx H' → ∃ m', m' < m ∧ W (i + 1) m' H') ∧ ∀ x H', J.yld i H x H' → tg x (wipe σ vs) H' fun σ2 H2 => wipe σ2 vs = wipe σ vs ∧ tt σ2 H2 fun b H3 =>
        if b = true then te σ2 H3 fun y H4 => ∃ acc, H4 L = some (.lst acc) ∧ acc.length < sizeLine ∧ Nx (upd H4 L (.lst (acc ++ [y]))) else Nx H3) := by
  refine ⟨fun i m H => m = n - i ∧ i ≤ n ∧ Pv i H, ⟨n, by simp, Nat.zero_le _, h0⟩, ?_⟩
  rintro i m H ⟨rfl, hi, p⟩
  rcases Nat.lt_or_ge i n with q | q
  · obtain ⟨h1, h2⟩ := hs i H q p
    exact .inr ⟨h1, Pv (i + 1), fun H' p' => ⟨n - (i + 1), by omega, rfl, q, p'⟩, h2⟩
  · obtain rfl : i = n := Nat.le_antisymm hi q
    exact .inl (hd H p)
theorem SR.newEx (S : SR C pins ex ow es σ g H) {p : Addr} {xs : List V} (h : H p = none) : SR C pins (p :: ex) ow es σ g (upd H p (.lst xs)) := by
  have sm : Same H (upd H p (.lst xs)) := Same.new h
  have back : ∀ l a, H a ≠ none → Zl C (p :: ex) ow g l a → Zl C ex ow g l a := fun l a n z => by
    rcases z with z | z | z
    · exact .inl z
    · rcases List.mem_cons.mp z with y | y
      · exact absurd (by rw [y]; exact h) n
      · exact .inr (.inl y)
    · exact .inr (.inr z)
  have kr : ∀ {l d v}, Rp C.K H (Zl C ex ow g l) d v → Rp C.K (upd H p (.lst xs)) (Zl C (p :: ex) ow g l) d v := fun r => Rp.kp (Z := fun _ => False) (.of sm) (fun _ z => z.elim) (back _) r
  have kra : ∀ {l d v}, RpA C.K H (Zl C ex ow g l) d v → RpA C.K (upd H p (.lst xs)) (Zl C (p :: ex) ow g l) d v := fun r => RpA.kp (Z := fun _ => False) (.of sm) (fun _ z => z.elim) (back _) r
  have nn : ∀ {a o}, H a = some o → upd H p (.lst xs) a = some o := fun e => sm _ _ e
  have nd : ∀ {a}, H a ≠ none → upd H p (.lst xs) a ≠ none := fun n z => n (sm.free z)
  refine ⟨S.len, fun i s e => ?_, S.out, fun i a ha => ?_, S.nd, S.dis, fun a ha => ?_, fun q hq => ?_, S.stp.then sm⟩
  · have q := S.slot i s e
    cases s with
    | no => exact q
    | dat d l =>
      obtain ⟨q0, x, q1, q2⟩ := q
      exact ⟨q0, x, q1, kr q2⟩
    | own ds l =>
      obtain ⟨a, zs, q1, q2, q3, q4, q5⟩ := q
      exact ⟨a, zs, q1, q2, nn q3, q4, kra q5⟩
    | own2 dss l =>
      obtain ⟨a, rs, q1, q2, q3, q4, q5, q6⟩ := q
      refine ⟨a, rs, q1, q2, nn q3, q4, q5, fun k r ds h1 h2 => ?_⟩
      obtain ⟨zs, h3, h4⟩ := q6 k r ds h1 h2
      exact ⟨zs, nn h3, kra h4⟩
  · obtain ⟨h1, h2, h3, h4⟩ := S.own i a ha
    refine ⟨nd h1, h2, h3, fun z => ?_⟩
    rcases List.mem_cons.mp z with y | y
    · exact h1 (by rw [y]; exact h)
    · exact h4 y
  · rcases List.mem_cons.mp ha with y | y
    · subst y
      refine ⟨some_ne upd_same, S.stp.kp.fresh h, fun z => C.gh.dom S.stp.ok z h⟩
    · obtain ⟨h1, h2, h3⟩ := S.exs a y
      exact ⟨nd h1, h2, h3⟩
  · obtain ⟨h1, h2⟩ := S.pin q hq
    refine ⟨?_, kra h2⟩
    by_cases ht : q.tupl = true
    · rw [if_pos ht] at h1 ⊢
      exact (Kp.of (Z := fun _ => False) sm).tup h1
    · rw [if_neg ht] at h1 ⊢
      rcases h1 with z | z
      · exact .inl (Ls.kp (Z := fun _ => False) (.of sm) (fun _ z => z.elim) (back _) z)
      · exact .inr ((Kp.of (Z := fun _ => False) sm).frz z)
/-- what is walked, later, beside a new list -/
theorem ItAt.up {p : Addr} {ds : List D} {l : Nat} {J : It} (h : ItAt C ex ow g H ds l J) (s : Stp C.gh g H g' H') (n : H p = none) : ItAt C (p :: ex) ow g' H' ds l J := by
  rcases h with ⟨t, a, xs, ⟨h1, h2⟩, rfl⟩ | h
  · have h3 : Sv C ex ow g' H' t ds l a xs := Sv.stp s ⟨h1, h2⟩
    refine .inl ⟨t, a, xs, ⟨h3.1, RpA.kp s.kp (fun _ z => .inl z) (fun b nb z => ?_) h2⟩, rfl⟩
    rcases z with z | z | z
    · exact Zl.back s nb (.inl z)
    · rcases List.mem_cons.mp z with y | y
      · exact absurd (by rw [y]; exact n) nb
      · exact .inr (.inl y)
    · exact .inr (.inr z)
  · exact .inr h
theorem Stp.put {p : Addr} {xs ys : List V} (s : Stp C.gh g H g' H') (n : H p = none) (h : H' p = some (.lst xs)) (f : ¬ C.gh.fp g' p) : Stp C.gh g H g' (upd H' p (.lst ys)) := by
  refine ⟨⟨fun a o e i => ?_, fun a e => ?_⟩, Gh.put s.ok h f, s.fp⟩
  · rw [upd_ne (ne_of_none e n)]
    exact s.kp.keep a o e i
  · by_cases q : a = p
    · rw [q, upd_same]
      intro z
      cases z
    · rw [upd_ne q]
      exact s.kp.dom a e
abbrev Wb (G : Type) := VL.Env → G → (Bool → G → Prop) → Prop
def rdB (C : Vc G) (w : Wb G) : TT := fun σ H Q => ∃ pins ex ow es g P, SR C pins ex ow es σ g H ∧ w es g P ∧ ∀ b g' H', P b g' → Stp C.gh g H g' H' → Q b H'
theorem _root_.L2.PTs.wk {X : Cx} {e : List Expr} {t t' : TT} (h : PTs X e t) (f : ∀ σ H Q, t' σ H Q → t σ H Q) : PTs X e t' := ⟨fun pins s σ H Q I q => h.run pins s σ H Q I (f σ H Q q)⟩
theorem pts_noV : PTs X [] (rdB C fun _ g Q => Q true g) := pts_nil.wk fun σ H Q q => by
  obtain ⟨pins, ex, ow, es, g, P, S, hw, k⟩ := q
  exact k _ _ H hw (.refl S.stp.ok)
theorem pt_B {e : Expr} {wa : Wd G} (h : PT X e (rdT C wa)) : PT X e (rdB C fun es g Q => wa es g fun d _ g1 => ∃ b, tru d = some b ∧ Q b g1) := h.wk fun σ H Q q => by
  obtain ⟨pins, ex, ow, es, g, P, S, hw, k⟩ := q
  refine ⟨pins, ex, ow, es, g, _, S, hw, fun d l g1 p1 => ?_⟩
  obtain ⟨b, hb, p⟩ := p1
  exact ⟨b, hb, fun H1 s1 => k _ _ H1 p s1⟩
/-- a turn's meaning -/
abbrev lcStep (tgc : Tg) (l : Nat) (es : VL.Env) (wt : Wb G) (we : Wd G) : D → G → (Option (D × Nat) → G → Prop) → Prop := fun d g k =>
  bindT tgc d l es fun es' => wt es' g fun b g' => if b = true then we es' g' fun e le g'' => k (some (e, le)) g'' else k none g'
theorem lc_main {tgc : Tg} {wi : Wls G} {wt : Wb G} {we : Wd G} {vs : List Nat} (hj : ∀ i ∈ tgc.js, i ∈ vs) {σ : L2.St} {H : Hp} {Q : VK} {Pl : List D → Nat → G → Prop}
    (S : SR C pins ex ow es σ g H) (hno : noOwn es vs) (hw : wi es g fun ds l g1 => lcl (lcStep tgc l (wipeE es vs) wt we) ds [] 2 g1 fun out lv g' => Pl out lv g')
    (k : ∀ out lv g' L av H', Pl out lv g' → Stp C.gh g H g' H' → H L = none → H' L = some (.lst av) → RpA C.K H' (Zl C (L :: ex) ow g' lv) out av → SR C pins (L :: ex) ow es σ g' H' → Q (.ref L) H') : tLc (rdI C wi) (gTg C.K tgc) (rdB C wt) (rd C we) vs σ H Q := by
  refine ⟨pins, ex, ow, es, g, _, S, hw, fun ds l g1 H1 J p1 s1 it => fun L hL => ?_⟩
  have S1 := S.stp' s1
  refine lc_it (n := ds.length) (fun i H' => ∃ g' acc lv av, SR C pins (L :: ex) ow es σ g' H' ∧ H' L = some (.lst av) ∧ RpA C.K H' (Zl C (L :: ex) ow g' lv) acc av ∧ Stp C.gh g1 H1 g' H' ∧
    lcl (lcStep tgc l (wipeE es vs) wt we) (ds.drop i) acc lv g' fun out lv g' => Pl out lv g') ⟨g1, [], 2, [], S1.newEx hL, upd_same, .nil, .of S1.stp.ok (Same.new hL), p1⟩ ?_ ?_
  · rintro i H' hi ⟨g', acc, lv, av, S', hLL, ra, st, hl⟩
    have itn := it.up st hL
    refine ⟨itn.go hi, fun x H'' y => ?_⟩
    obtain ⟨rfl, d, hd, rx⟩ := itn.yld hi y
    have ed : ds.drop i = d :: ds.drop (i + 1) := by
      obtain ⟨h1, h2⟩ := List.getElem?_eq_some_iff.mp hd
      rw [← h2]
      exact List.drop_eq_getElem_cons h1
    rw [ed] at hl
    unfold lcl at hl
    refine tg_ok (S'.wipe' hno).1 rx hl fun es' σ' hk S2 hwp => ⟨?_, ?_⟩
    · rw [hwp vs hj]
      exact wipe_wipe fun i hi => hi
    refine ⟨pins, L :: ex, ow, es', g', _, S2, hk, fun b g2 H3 pb s3 => ?_⟩
    have nf : ¬ C.gh.fp g' L := (S'.exs L List.mem_cons_self).2.2
    have hL3 : H3 L = some (.lst av) := s3.kp.keep L _ hLL fun z => absurd z nf
    cases b with
    | false =>
      rw [if_neg Bool.false_ne_true] at pb
      dsimp only
      rw [if_neg Bool.false_ne_true]
      exact ⟨g2, acc, lv, av, S'.stp' s3, hL3, ra.stp s3, st.trans s3, pb⟩
    | true =>
      rw [if_pos rfl] at pb
      dsimp only
      rw [if_pos rfl]
      refine ⟨pins, L :: ex, ow, es', g2, _, S2.stp' s3, pb, fun e le g3 y' H4 p4 s4 r4 => ?_⟩
      obtain ⟨hz, hl'⟩ := p4
      have S4 := (S'.stp' s3).stp' s4
      have nf3 : ¬ C.gh.fp g3 L := (S4.exs L List.mem_cons_self).2.2
      have hL4 : H4 L = some (.lst av) := s4.kp.keep L _ hL3 fun z => absurd z ((S'.stp' s3).exs L List.mem_cons_self).2.2
      have ra4 := (ra.stp s3).stp s4
      have kz : ∀ lev, Kp (Zl C (L :: ex) ow g3 lev) H4 (upd H4 L (.lst (av ++ [y']))) := fun lev => Kp.put (.inr (.inl List.mem_cons_self)) hL4 fun z => z
      refine ⟨av, hL4, by rw [← ra4.len]; exact hz, g3, acc ++ [e], min lv le, av ++ [y'], S4.putEx List.mem_cons_self hL4, upd_same, ?_, ((st.trans s3).trans s4).put hL hL4 nf3, hl'⟩
      exact RpA.kp (kz _) (fun _ z => z) (fun _ _ z => z) ((ra4.low (Nat.min_le_left _ _)).snoc (r4.low (Nat.min_le_right _ _)))
  · rintro H' ⟨g', acc, lv, av, S', hLL, ra, st, hl⟩
    have itn := it.up st hL
    refine ⟨itn.stop (Nat.le_refl _), ?_⟩
    rw [List.drop_length] at hl
    exact k _ _ _ _ _ H' hl (s1.trans st) (s1.kp.fresh hL) hLL ra S'
theorem lc_rd {tgc : Tg} {wi : Wls G} {wt : Wb G} {we : Wd G} {vs : List Nat} (hj : ∀ i ∈ tgc.js, i ∈ vs) {σ : L2.St} {H : Hp} {Q : VK}
    (q : rd C (fun es g Q => noOwn es vs ∧ wi es g fun ds l g1 => lcl (lcStep tgc l (wipeE es vs) wt we) ds [] 2 g1 fun out lv g' => Q (.lst out) lv g') σ H Q) : tLc (rdI C wi) (gTg C.K tgc) (rdB C wt) (rd C we) vs σ H Q := by
  obtain ⟨pins, ex, ow, es, g, P, S, ⟨hno, hw⟩, k⟩ := q
  refine lc_main hj S hno hw fun out lv g' L av H' p st hL hLL ra S' => k _ _ _ _ H' p st (.lst ⟨fun z => ?_, hLL⟩ (ra.anti fun a z => ?_))
  · obtain ⟨e1, e2, e3⟩ := S'.exs L List.mem_cons_self
    rcases z with z | z | ⟨_, i, z⟩ | ⟨z, _⟩
    · exact e3 z
    · exact (S.exs L z).1 hL
    · exact (S.own i L z).1 hL
    · exact z e2
  · rcases z with z | z | z
    · exact .inl z
    · exact .inr (.inl (List.mem_cons_of_mem _ z))
    · exact .inr (.inr z)
end
end VL
/-! Val: new lists; lists that become cells; comprehensions over a cell's list. -/
namespace VL
open PySem PySem.Spec PyProof.Rows L2

section
variable {C : Vc G} {X : Cx} {fs : List (Nat × WF G)} {e ea eb ec : Expr} {wa wb wc : Wd G} {pos : Pos} {as : List Expr} {wl : Wls G} {wq : Ws G}
  {pins : List Pin} {ex : List Addr} {ow : Nat → List Addr} {es : VL.Env} {σ : L2.St} {g g' : G} {H H' : Hp}
/-! ### new lists -/
/-- an expression that makes a new list -/
def rdN (C : Vc G) (w : Wd G) : TE := fun σ H Q => ∃ pins ex ow es g P, SR C pins ex ow es σ g H ∧ w es g P ∧
  ∀ ds l g' p xs H', P (.lst ds) l g' → Stp C.gh g H g' H' → H p = none → ¬ C.gh.fp g' p → H' p = some (.lst xs) → RpA C.K H' (Zl C (p :: ex) ow g' l) ds xs → Q (.ref p) H'
theorem RpA.atNew {l : Nat} {ds : List D} {xs : List V} {p : Addr} {o : HO} (r : RpA C.K H (Zl C ex ow g l) ds xs) (h : H p = none) : RpA C.K (upd H p o) (Zl C (p :: ex) ow g l) ds xs :=
  RpA.kp (Z := fun _ => False) (.of (Same.new h)) (fun _ z => z.elim) (fun a n z => by
    rcases z with z | z | z
    · exact .inl z
    · rcases List.mem_cons.mp z with y | y
      · exact absurd (by rw [y]; exact h) n
      · exact .inr (.inl y)
    · exact .inr (.inr z)) r
theorem SR.nofp (S : SR C pins ex ow es σ g H) {p : Addr} (h : H p = none) : ¬ C.gh.fp g p := fun z => C.gh.dom S.stp.ok z h
theorem pe_lstN (h : PA X as (rdA C wl)) : PE X (.List as pos) (rdN C fun es g Q => wl es g fun ds l g1 => ds.length ≤ sizeLine ∧ Q (.lst ds) l g1) :=
  (pe_lst h).wk fun σ H Q q => by
    obtain ⟨pins, ex, ow, es, g, P, S, hw, k⟩ := q
    refine ⟨pins, ex, ow, es, g, _, S, hw, fun ds l g1 vs H1 p1 s1 r1 => ⟨by rw [← r1.len]; exact p1.1, fun p hp => ?_⟩⟩
    exact k _ _ _ p vs _ p1.2 (s1.then (Same.new hp)) (s1.kp.fresh hp) ((S.stp' s1).nofp hp) upd_same (r1.atNew hp)
theorem pe_repN {p1 : Pos} (h : PA X as (rdA C wl)) (hb : PE X eb (rd C wb)) : PE X (.BinOp (.List as p1) .Mult eb pos) (rdN C fun es g Q => wl es g fun ds l g1 => ds.length ≤ sizeLine ∧ wb es g1 fun d _ g2 => ∃ k, d = .int k ∧ k < 2 ^ 63 ∧ -(2 ^ 63) ≤ k ∧ ds.length * k.toNat ≤ sizeLine ∧ Q (.lst (List.replicate k.toNat ds).flatten) l g2) :=
  (pe_op op_rep (pe_lst h) hb).wk fun σ H Q q => by
    obtain ⟨pins, ex, ow, es, g, P, S, hw, k⟩ := q
    refine ⟨pins, ex, ow, es, g, _, S, hw, fun ds l g1 vs H1 p1 s1 r1 => ⟨by rw [← r1.len]; exact p1.1, fun p hp => ?_⟩⟩
    have S1 := S.stp' s1
    have S2 := S1.same (Same.new (o := .lst vs) hp)
    refine ⟨pins, ex, ow, es, g1, _, S2, p1.2, fun d l' g2 v H2 p2 s2 r2 => ?_⟩
    obtain ⟨j, rfl, j1, j2, j3, p3⟩ := p2
    cases r2
    have hpp : H2 p = some (.lst vs) := s2.kp.keep p _ upd_same fun z => absurd hp (C.gh.dom S1.stp.ok z)
    have sx : Stp C.gh g1 H1 g2 H2 := (Stp.of S1.stp.ok (Same.new hp)).trans s2
    exact ⟨p, j, vs, rfl, rfl, hpp, j2, j1, by rw [← r1.len]; exact j3, fun p' hp' => k _ _ _ p' _ _ p3 ((s1.trans sx).then (Same.new hp')) ((s1.trans sx).kp.fresh hp') ((S2.stp' s2).nofp hp') upd_same (((r1.stp sx).rep _).atNew hp')⟩
theorem pe_listN (hK : X.K = C.K) {p : Pos} (hg : Gl X "list") (hm : X.mg "list" = none) (ha : PE X ea (rdQ C wq)) (hn : nst ea = true) :
    PE X (.Call (.Name "list" p) [ea] [] pos) (rdN C fun es g Q => wq es g fun t ds l g1 => sqf .list t ds l fun d l => Q d l g1) := by
  refine (pe_callTy call_list_of hg hm (by decide +kernel) (pa_q ha hn) (by decide) (by decide) (star_cons hn) rfl).wk fun σ H Q q => ?_
  obtain ⟨pins, ex, ow, es, g, P, S, hw, k⟩ := q
  rw [hK]
  refine ⟨pins, ex, ow, es, g, _, S, hw, fun t ds l g1 a xs H1 p1 s1 r1 => ?_⟩
  have S1 := S.stp' s1
  have p2 : P (.lst ds) l g1 := by cases t <;> exact p1
  exact ⟨a, xs, rfl, r1.sq, fun q hq => k _ _ _ q xs _ p2 (s1.then (Same.new hq)) (s1.kp.fresh hq) (S1.nofp hq) upd_same (r1.2.atNew hq)⟩
theorem pe_revN (hK : X.K = C.K) {k : Nat} {q1 q2 q3 : Pos} (ha : PE X ea (rdQ C wq)) : PE X (.Subscript ea (.Slice none none (some (.UnaryOp .USub (.Constant (.int 1) k q1) q2)) q3) pos) (rdN C fun es g Q => wq es g fun t ds l g1 => t = false ∧ Q (.lst ds.reverse) l g1) := by
  refine (pe_revL ha).wk fun σ H Q q => ?_
  obtain ⟨pins, ex, ow, es, g, P, S, hw, k⟩ := q
  rw [hK]
  refine ⟨pins, ex, ow, es, g, _, S, hw, fun t ds l g1 a xs H1 p1 s1 r1 => ?_⟩
  obtain ⟨rfl, p⟩ := p1
  obtain ⟨h1, h2⟩ := r1
  have z : SqL C.K H1 a xs := by
    rcases h1 with h1 | h1
    · exact h1.sq
    · exact h1.sq
  exact ⟨a, xs, rfl, z, fun p' hp => k _ _ _ p' _ _ p (s1.then (Same.new hp)) (s1.kp.fresh hp) ((S.stp' s1).nofp hp) upd_same (h2.rev.atNew hp)⟩
theorem lc_rdN {tgc : Tg} {wi : Wls G} {wt : Wb G} {we : Wd G} {vs : List Nat} (hj : ∀ i ∈ tgc.js, i ∈ vs) {σ : L2.St} {H : Hp} {Q : VK}
    (q : rdN C (fun es g Q => noOwn es vs ∧ wi es g fun ds l g1 => lcl (lcStep tgc l (wipeE es vs) wt we) ds [] 2 g1 fun out lv g' => Q (.lst out) lv g') σ H Q) : tLc (rdI C wi) (gTg C.K tgc) (rdB C wt) (rd C we) vs σ H Q := by
  obtain ⟨pins, ex, ow, es, g, P, S, ⟨hno, hw⟩, k⟩ := q
  exact lc_main hj S hno hw fun out lv g' L av H' p st hL hLL ra S' => k _ _ _ L av H' p st hL (S'.exs L List.mem_cons_self).2.2 hLL ra


/-! ### cells -/
variable {mg : Str → Option Value}
theorem stp_trk (hg : C.gh = ghK C.K mg) {p : Addr} {c : Cell} (s : Stp C.gh g H g' H') (hn : H p = none) (h : CellOk C.K mg H' p c) : Stp C.gh g H (g'.put p c) H' := by
  rw [hg] at s ⊢
  exact ghK_trk s hn h
theorem cell_of (hg : C.gh = ghK C.K mg) (o : C.gh.ok g H) {p : Addr} {c : Cell} (e : g p = some c) : CellOk C.K mg H p c := by
  rw [hg] at o
  exact o p c e
theorem nofp_of (hg : C.gh = ghK C.K mg) {p : Addr} (h : ¬ C.gh.fp g p) : g p = none := by
  rw [hg] at h
  exact Classical.byContradiction fun z => h z
theorem stp_put (hg : C.gh = ghK C.K mg) (o : C.gh.ok g H) {a : Addr} {c : Cell} {u : HO} (hc : g a ≠ none ∨ H a = none) (h : CellOk C.K mg (upd H a u) a c) : Stp C.gh g H (g.put a c) (upd H a u) := by
  rw [hg] at o ⊢
  exact ghK_put o hc h
theorem cell_lst (hg : C.gh = ghK C.K mg) (o : C.gh.ok g H) {p : Addr} {ds : List D} (e : g p = some (.lst ds)) : D.lfs ds = true ∧ ∃ xs : List V, H p = some (.lst xs) ∧ ∀ Z, RpA C.K H Z ds xs := by
  obtain ⟨h1, xs, h2, h3⟩ := cell_of hg o e
  exact ⟨h1, xs, h2, fun Z => flatK (fun _ _ z _ => z) h1 h3⟩
/-- a new list becomes a cell -/
theorem pe_trk (hg : C.gh = ghK C.K mg) (h : PE X e (rdN C wa)) : PE X e (rd C fun es g Q => wa es g fun d _ g' => ∃ ds, d = .lst ds ∧ D.lfs ds = true ∧ ∀ p, g' p = none → Q (.obj p) 2 (g'.put p (.lst ds))) := h.wk fun σ H Q q => by
  obtain ⟨pins, ex, ow, es, g, P, S, hw, k⟩ := q
  refine ⟨pins, ex, ow, es, g, _, S, hw, fun ds l g1 p xs H1 pp s hp nf hpp ra => ?_⟩
  obtain ⟨ds', e, lf, pp⟩ := pp
  cases e
  exact k _ _ _ _ H1 (pp p (nofp_of hg nf)) (stp_trk hg s hp ⟨lf, xs, hpp, flatK (fun _ _ z _ => z) lf ra⟩) (.obj p)
theorem trk_rd (hg : C.gh = ghK C.K mg) {Q : VK} (q : rd C (fun es g Q => wa es g fun d _ g' => ∃ ds, d = .lst ds ∧ D.lfs ds = true ∧ ∀ p, g' p = none → Q (.obj p) 2 (g'.put p (.lst ds))) σ H Q) : rdN C wa σ H Q := by
  obtain ⟨pins, ex, ow, es, g, P, S, hw, k⟩ := q
  refine ⟨pins, ex, ow, es, g, _, S, hw, fun ds l g1 p xs H1 pp s hp nf hpp ra => ?_⟩
  obtain ⟨ds', e, lf, pp⟩ := pp
  cases e
  exact k _ _ _ _ H1 (pp p (nofp_of hg nf)) (stp_trk hg s hp ⟨lf, xs, hpp, flatK (fun _ _ z _ => z) lf ra⟩) (.obj p)
/-- what is walked: a cell's list -/
def rdIG (C : Vc G) (w : VL.Env → G → (Addr → List D → G → Prop) → Prop) : TI := fun σ H R => ∃ pins ex ow es g P, SR C pins ex ow es σ g H ∧ w es g P ∧
  ∀ p ds g' H', P p ds g' → Stp C.gh g H g' H' → g' p = some (.lst ds) → R (Itl C.K p) H'
abbrev mGt (wa : Wd G) : VL.Env → G → (Addr → List D → G → Prop) → Prop := fun es g Q => wa es g fun d _ g1 => ∃ p ds, d = .obj p ∧ g1 p = some (.lst ds) ∧ Q p ds g1
theorem pi_gt (hg : C.gh = ghK C.K mg) (hK : X.K = C.K) {tg : Expr} (ha : PE X ea (rd C wa)) : PI X tg ea (rdIG C (mGt wa)) := by
  refine (pi_seq ha).wk fun σ H R q => ?_
  obtain ⟨pins, ex, ow, es, g, P, S, hw, k⟩ := q
  rw [hK]
  refine ⟨pins, ex, ow, es, g, _, S, hw, fun d l g1 v H1 p1 s1 r1 => ?_⟩
  obtain ⟨p, ds, rfl, hc, p2⟩ := p1
  cases r1
  obtain ⟨_, xs, h2, _⟩ := cell_lst hg (S.stp' s1).stp.ok hc
  exact ⟨p, rfl, .inl ⟨⟨xs, SqL.of h2⟩, k _ _ _ _ p2 s1 hc⟩⟩
theorem itl_go {K : PySem.W.Frag} {p : Addr} {xs : List V} {i : Nat} (h : H p = some (.lst xs)) (hi : i < xs.length) : (Itl K p).go i H := ⟨xs, xs[i], SqL.of h, List.getElem?_eq_getElem hi⟩
theorem itl_stop {K : PySem.W.Frag} {p : Addr} {xs : List V} {i : Nat} (h : H p = some (.lst xs)) (hi : xs.length ≤ i) : (Itl K p).stop i H := ⟨xs, SqL.of h, hi⟩
theorem itl_yld {K : PySem.W.Frag} {p : Addr} {xs : List V} {ds : List D} {Z : Addr → Prop} {i : Nat} {x : V} {H2 : Hp} (h : H p = some (.lst xs)) (r : RpA K H Z ds xs) (hi : i < ds.length) (y : (Itl K p).yld i H x H2) : H2 = H ∧ ∃ d, ds[i]? = some d ∧ Rp K H Z d x := by
  obtain ⟨rfl, y⟩ := y
  refine ⟨rfl, ds[i], List.getElem?_eq_getElem hi, ?_⟩
  obtain ⟨v, e, r2⟩ := r.get (List.getElem?_eq_getElem hi)
  have := y xs (SqL.of h)
  rw [e] at this
  cases this
  exact r2
theorem lc_mainG (hg : C.gh = ghK C.K mg) {tgc : Tg} {wa : Wd G} {wt : Wb G} {we : Wd G} {vs : List Nat} (hj : ∀ i ∈ tgc.js, i ∈ vs) {σ : L2.St} {H : Hp} {Q : VK} {Pl : List D → Nat → G → Prop}
    (S : SR C pins ex ow es σ g H) (hno : noOwn es vs) (hw : mGt wa es g fun p ds g1 => lclG p ds (lcStep tgc 2 (wipeE es vs) wt we) ds [] 2 g1 fun out lv g' => Pl out lv g')
    (k : ∀ out lv g' L av H', Pl out lv g' → Stp C.gh g H g' H' → H L = none → H' L = some (.lst av) → RpA C.K H' (Zl C (L :: ex) ow g' lv) out av → SR C pins (L :: ex) ow es σ g' H' → Q (.ref L) H') : tLc (rdIG C (mGt wa)) (gTg C.K tgc) (rdB C wt) (rd C we) vs σ H Q := by
  refine ⟨pins, ex, ow, es, g, _, S, hw, fun q ds g1 H1 p1 s1 hq => fun L hL => ?_⟩
  have S1 := S.stp' s1
  refine lc_it (n := ds.length) (fun i H' => ∃ g' acc lv av, SR C pins (L :: ex) ow es σ g' H' ∧ H' L = some (.lst av) ∧ RpA C.K H' (Zl C (L :: ex) ow g' lv) acc av ∧ Stp C.gh g1 H1 g' H' ∧
    lclG q ds (lcStep tgc 2 (wipeE es vs) wt we) (ds.drop i) acc lv g' fun out lv g' => Pl out lv g') ⟨g1, [], 2, [], S1.newEx hL, upd_same, .nil, .of S1.stp.ok (Same.new hL), p1⟩ ?_ ?_
  · rintro i H' hi ⟨g', acc, lv, av, S', hLL, ra, st, hl⟩
    have hq' : g' q = some (.lst ds) := by
      cases e : ds.drop i with
      | nil => rw [e] at hl; exact hl.1
      | cons d r => rw [e] at hl; exact hl.1
    obtain ⟨_, xs, h2, h3⟩ := cell_lst hg S'.stp.ok hq'
    refine ⟨itl_go h2 (by rw [← (h3 fun _ => True).len]; exact hi), fun x H'' y => ?_⟩
    obtain ⟨rfl, d, hd, rx⟩ := itl_yld h2 (h3 (Zl C (L :: ex) ow g' 2)) hi y
    have ed : ds.drop i = d :: ds.drop (i + 1) := by
      obtain ⟨h1, h2⟩ := List.getElem?_eq_some_iff.mp hd
      rw [← h2]
      exact List.drop_eq_getElem_cons h1
    rw [ed] at hl
    unfold lclG at hl
    refine tg_ok (S'.wipe' hno).1 rx hl.2 fun es' σ' hk S2 hwp => ⟨?_, ?_⟩
    · rw [hwp vs hj]
      exact wipe_wipe fun i hi => hi
    refine ⟨pins, L :: ex, ow, es', g', _, S2, hk, fun b g2 H3 pb s3 => ?_⟩
    have nf : ¬ C.gh.fp g' L := (S'.exs L List.mem_cons_self).2.2
    have hL3 : H3 L = some (.lst av) := s3.kp.keep L _ hLL fun z => absurd z nf
    cases b with
    | false =>
      rw [if_neg Bool.false_ne_true] at pb
      dsimp only
      rw [if_neg Bool.false_ne_true]
      exact ⟨g2, acc, lv, av, S'.stp' s3, hL3, ra.stp s3, st.trans s3, pb⟩
    | true =>
      rw [if_pos rfl] at pb
      dsimp only
      rw [if_pos rfl]
      refine ⟨pins, L :: ex, ow, es', g2, _, S2.stp' s3, pb, fun e le g3 y' H4 p4 s4 r4 => ?_⟩
      obtain ⟨hz, hl'⟩ := p4
      have S4 := (S'.stp' s3).stp' s4
      have nf3 : ¬ C.gh.fp g3 L := (S4.exs L List.mem_cons_self).2.2
      have hL4 : H4 L = some (.lst av) := s4.kp.keep L _ hL3 fun z => absurd z ((S'.stp' s3).exs L List.mem_cons_self).2.2
      have ra4 := (ra.stp s3).stp s4
      have kz : ∀ lev, Kp (Zl C (L :: ex) ow g3 lev) H4 (upd H4 L (.lst (av ++ [y']))) := fun lev => Kp.put (.inr (.inl List.mem_cons_self)) hL4 fun z => z
      refine ⟨av, hL4, by rw [← ra4.len]; exact hz, g3, acc ++ [e], min lv le, av ++ [y'], S4.putEx List.mem_cons_self hL4, upd_same, ?_, ((st.trans s3).trans s4).put hL hL4 nf3, hl'⟩
      exact RpA.kp (kz _) (fun _ z => z) (fun _ _ z => z) ((ra4.low (Nat.min_le_left _ _)).snoc (r4.low (Nat.min_le_right _ _)))
  · rintro H' ⟨g', acc, lv, av, S', hLL, ra, st, hl⟩
    rw [List.drop_length] at hl
    obtain ⟨_, xs, h2, h3⟩ := cell_lst hg S'.stp.ok hl.1
    refine ⟨itl_stop h2 (by rw [← (h3 fun _ => True).len]; exact Nat.le_refl _), ?_⟩
    exact k _ _ _ _ _ H' hl.2 (s1.trans st) (s1.kp.fresh hL) hLL ra S'
theorem lc_rdG (hg : C.gh = ghK C.K mg) {tgc : Tg} {wa : Wd G} {wt : Wb G} {we : Wd G} {vs : List Nat} (hj : ∀ i ∈ tgc.js, i ∈ vs) {σ : L2.St} {H : Hp} {Q : VK}
    (q : rd C (fun es g Q => noOwn es vs ∧ mGt wa es g fun p ds g1 => lclG p ds (lcStep tgc 2 (wipeE es vs) wt we) ds [] 2 g1 fun out lv g' => Q (.lst out) lv g') σ H Q) : tLc (rdIG C (mGt wa)) (gTg C.K tgc) (rdB C wt) (rd C we) vs σ H Q := by
  obtain ⟨pins, ex, ow, es, g, P, S, ⟨hno, hw⟩, k⟩ := q
  refine lc_mainG hg hj S hno hw fun out lv g' L av H' p st hL hLL ra S' => k _ _ _ _ H' p st (.lst ⟨fun z => ?_, hLL⟩ (ra.anti fun a z => ?_))
  · obtain ⟨e1, e2, e3⟩ := S'.exs L List.mem_cons_self
    rcases z with z | z | ⟨_, i, z⟩ | ⟨z, _⟩
    · exact e3 z
    · exact (S.exs L z).1 hL
    · exact (S.own i L z).1 hL
    · exact z e2
  · rcases z with z | z | z
    · exact .inl z
    · exact .inr (.inl (List.mem_cons_of_mem _ z))
    · exact .inr (.inr z)
theorem lc_rdNG (hg : C.gh = ghK C.K mg) {tgc : Tg} {wa : Wd G} {wt : Wb G} {we : Wd G} {vs : List Nat} (hj : ∀ i ∈ tgc.js, i ∈ vs) {σ : L2.St} {H : Hp} {Q : VK}
    (q : rdN C (fun es g Q => noOwn es vs ∧ mGt wa es g fun p ds g1 => lclG p ds (lcStep tgc 2 (wipeE es vs) wt we) ds [] 2 g1 fun out lv g' => Q (.lst out) lv g') σ H Q) : tLc (rdIG C (mGt wa)) (gTg C.K tgc) (rdB C wt) (rd C we) vs σ H Q := by
  obtain ⟨pins, ex, ow, es, g, P, S, ⟨hno, hw⟩, k⟩ := q
  exact lc_mainG hg hj S hno hw fun out lv g' L av H' p st hL hLL ra S' => k _ _ _ L av H' p st hL (S'.exs L List.mem_cons_self).2.2 hLL ra

end
end VL
/-! Val: which syntax stands for which expression, and that its meaning holds. -/
namespace VL
open PySem PySem.Spec PyProof.Rows L2

/-- free names of built-in things; defs' names; slots -/
inductive Nm where
  | fn (x : Str) | me (c m : Str) | mk (c : Str)
  deriving DecidableEq
structure Ck where
  bl : List Str
  nm : List Nm
  N : List Str
  ats : List (Str × Str) := []
  gi : List (Str × Int) := []
  kd : List (Str × List (Str × D)) := []
def gl (sc : Scope) (x : Str) : Bool := decide (sc.names.lookup x = some .globalImplicit)
def visB (sc : Scope) (x : Str) : Bool := match sc.names.lookup x with
  | some .local => true
  | some .cell => true
  | some .free => true
  | _ => false
def noDbg (x : Str) : Bool := !(x == ("__debug__" : Str)) && !(x == ("__classdict__" : Str))
def blt (k : Ck) (sc : Scope) (x y : Str) : Bool := decide (x = y) && (gl sc x && decide (x ∈ k.bl))
def nset : Expr → Bool
  | .Set _ _ _ => false
  | _ => true
def oB : Operator → Option Bop
  | .Add => some .add | .Sub => some .sub | .Mult => some .mul | .FloorDiv => some .fdiv | .Mod => some .mod
  | _ => none
def tysB (k : Ck) (sc : Scope) : List Expr → List String → Bool
  | [], [] => true
  | .Name x _ :: es, n :: T => decide (x = Str.ofString n) && (tyN n && (gl sc x && (decide (x ∈ k.bl) && tysB k sc es T)))
  | _, _ => false
def locB (sc : Scope) (fl : Str → Bool) (x : Str) : Bool := match sc.names.lookup x with
  | some .local => true
  | some .cell => fl x
  | _ => false
def tgN (k : Ck) (sc : Scope) (fl : Str → Bool) : List Nat → List Expr → Bool
  | [], [] => true
  | j :: js, .Name x _ :: es => decide (k.N[j]? = some x) && (locB sc fl x && tgN k sc fl js es)
  | _, _ => false
def chkTg (k : Ck) (sc : Scope) (fl : Str → Bool) : Tg → Expr → Bool
  | .name j, .Name x _ => decide (k.N[j]? = some x) && locB sc fl x
  | .tup js, .Tuple es _ _ => tgN k sc fl js es
  | _, _ => false
/-- not super() -/
def noCall : Expr → Bool
  | .Call _ _ _ _ => false
  | _ => true
def strK : Str → Option Expr → Bool
  | s, some (.Constant (.str x) _ _) => decide (s = x)
  | _, _ => false
def strKs : List Str → List (Option Expr) → Bool
  | [], [] => true
  | s :: ss, e :: es => strK s e && strKs ss es
  | _, _ => false
mutual
def D.beq : D → D → Bool
  | .non, .non => true
  | .bl a, .bl b => decide (a = b)
  | .int a, .int b => decide (a = b)
  | .str a, .str b => decide (a = b)
  | .lst a, .lst b => D.beqs a b
  | .tup a, .tup b => D.beqs a b
  | .obj a, .obj b => decide (a = b)
  | .frz a, .frz b => decide (a = b)
  | _, _ => false
def D.beqs : List D → List D → Bool
  | [], [] => true
  | a :: as, b :: bs => D.beq a b && D.beqs as bs
  | _, _ => false
end
mutual
theorem D.beq_eq : ∀ {a b : D}, D.beq a b = true → a = b
  | .non, b, h => by cases b <;> simp [D.beq] at h ⊢
  | .bl a, b, h => by cases b <;> simp [D.beq] at h ⊢; exact h
  | .int a, b, h => by cases b <;> simp [D.beq] at h ⊢; exact h
  | .str a, b, h => by cases b <;> simp [D.beq] at h ⊢; exact h
  | .lst a, b, h => by
    cases b <;> simp [D.beq] at h ⊢
    exact D.beqs_eq h
  | .tup a, b, h => by
    cases b <;> simp [D.beq] at h ⊢
    exact D.beqs_eq h
  | .obj a, b, h => by cases b <;> simp [D.beq] at h ⊢; exact h
  | .frz a, b, h => by cases b <;> simp [D.beq] at h ⊢; exact h
theorem D.beqs_eq : ∀ {a b : List D}, D.beqs a b = true → a = b
  | [], b, h => by cases b <;> simp [D.beqs] at h ⊢
  | a :: as, b, h => by
    cases b with
    | nil => simp [D.beqs] at h
    | cons c cs =>
      simp only [D.beqs, Bool.and_eq_true] at h
      rw [D.beq_eq h.1, D.beqs_eq h.2]
end
def kvB : List (Str × D) → List (Str × D) → Bool
  | [], [] => true
  | a :: as, b :: bs => decide (a.1 = b.1) && (D.beq a.2 b.2 && kvB as bs)
  | _, _ => false
theorem kvB_eq : ∀ {a b : List (Str × D)}, kvB a b = true → a = b
  | [], [], _ => rfl
  | [], _ :: _, h => by simp [kvB] at h
  | _ :: _, [], h => by simp [kvB] at h
  | (x, d) :: as, (y, e) :: bs, h => by
    simp only [kvB, Bool.and_eq_true, decide_eq_true_eq] at h
    rw [h.1, D.beq_eq h.2.1, kvB_eq h.2.2]
def kdB (k : Ck) (i : Nat) (x : Str) (kvs : List (Str × D)) : Bool := match k.kd[i]? with
  | some (y, l) => decide (x = y) && kvB kvs l
  | none => false
/-- the arguments of a hook's expression -/
def hkE (k : Ck) : Hk → Scope → Expr → Option (List Expr)
  | .atr c x, _, .Attribute a y _ => if (decide (x = y) && (noCall a && decide ((c, x) ∈ k.ats))) = true then some [a] else none
  | .gix, _, .Subscript a b _ => if nsl b = true then some [a, b] else none
  | .gsq f, sc, .Call (.Name x _) [a] [] _ => if (blt k sc x f.nm && nst a) = true then some [a] else none
  | .gkey s, _, .Subscript a (.Constant (.str y) _ _) _ => if s = y then some [a] else none
  | .mk i c, sc, .Call (.Name x _) es [] _ => if (decide (k.nm[i]? = some (.mk x)) && (decide (c = x) && (gl sc x && (noDbg x && (es.all nst && !es.isEmpty))))) = true then some es else none
  | .glo x n, sc, .Name y _ => if (decide (x = y) && (gl sc x && (noDbg x && decide ((x, n) ∈ k.gi)))) = true then some [] else none
  | .pow, _, .BinOp a .Pow b _ => some [a, b]
  | .dmod, sc, .Call (.Name x _) [a, b] [] _ => if (blt k sc x "divmod" && (nst a && nst b)) = true then some [a, b] else none
  | .sset, sc, .Call (.Name x _) [.Call (.Name y _) [a] [] _] [] _ => if (blt k sc x "sorted" && (blt k sc y "set" && nst a)) = true then some [a] else none
  | .kin i x kvs neg, sc, .Compare a [o] [.Name y _] _ => if (decide (o = if neg = true then CmpOp.NotIn else CmpOp.In) && (decide (x = y) && (gl sc x && (noDbg x && kdB k i x kvs)))) = true then some [a] else none
  | .kix i x kvs, sc, .Subscript (.Name y _) b _ => if (decide (x = y) && (gl sc x && (noDbg x && (nsl b && kdB k i x kvs)))) = true then some [b] else none
  | .dsp ks, _, .Dict es vs _ => if (strKs ks es && (decide (ks.Nodup) && (decide (ks.length ≤ 15) && (!ks.isEmpty && decide (es.length = vs.length))))) = true then some vs else none
  | _, _, _ => none
def ownL (k : Ck) (vs : List Nat) : List (Str × Nat) := vs.map fun i => ((k.N[i]?).getD "", i)
def blkFl (scope : Scope) : Str → Bool := fun x => scope.names.lookup x == some .cell
mutual
def chkE (k : Ck) : CE → Scope → Expr → Bool
  | .var i, sc, .Name x _ => decide (k.N[i]? = some x) && (visB sc x && noDbg x)
  | .int i, _, .Constant (.int j) _ _ => decide (i = j)
  | .bl b, _, .Constant (.bool c) _ _ => b == c
  | .non, _, .Constant .none _ _ => true
  | .str s, _, .Constant (.str x) _ _ => decide (s = x)
  | .bin op a b, sc, .BinOp ea o eb _ => decide (o = op.op) && (chkE k a sc ea && chkE k b sc eb)
  | .neg a, sc, .UnaryOp .USub ea _ => chkE k a sc ea
  | .not a, sc, .UnaryOp .Not ea _ => chkE k a sc ea
  | .cmp op a b, sc, .Compare ea [o] [eb] _ => decide (o = op.op) && (nset eb && (chkE k a sc ea && chkE k b sc eb))
  | .chain op op' a b c, sc, .Compare ea [o, o'] [eb, ec] _ => decide (o = op.op) && (decide (o' = op'.op) && (nset ec && (chkE k a sc ea && (chkE k b sc eb && chkE k c sc ec))))
  | .and a b, sc, .BoolOp .And (ea :: eb :: rest) pos => chkE k a sc ea && (match rest with
    | [] => chkE k b sc eb
    | r :: rs => chkE k b sc (.BoolOp .And (eb :: r :: rs) pos))
  | .or a b, sc, .BoolOp .Or (ea :: eb :: rest) pos => chkE k a sc ea && (match rest with
    | [] => chkE k b sc eb
    | r :: rs => chkE k b sc (.BoolOp .Or (eb :: r :: rs) pos))
  | .ite c a b, sc, .IfExp ec ea eb _ => chkE k c sc ec && (chkE k a sc ea && chkE k b sc eb)
  | .tup as, sc, .Tuple es _ _ => chkA k as sc es
  | .lst as, sc, .List es _ => chkA k as sc es
  | .rep as n, sc, .BinOp (.List es _) .Mult en _ => chkA k as sc es && chkE k n sc en
  | .ix a b, sc, .Subscript ea eb _ => nsl eb && (chkE k a sc ea && chkE k b sc eb)
  | .sl a lo hi, sc, .Subscript ea (.Slice elo ehi none _) _ => chkE k a sc ea && (chkO k lo sc elo && chkO k hi sc ehi)
  | .rev a, sc, .Subscript ea (.Slice none none (some (.UnaryOp .USub (.Constant (.int 1) _ _) _)) _) _ => chkE k a sc ea
  | .bi f as, sc, .Call (.Name x _) (ea :: es) [] _ => blt k sc x f.nm && ((ea :: es).all nst && chkA k as sc (ea :: es))
  | .sq f a, sc, .Call (.Name x _) [ea] [] _ => blt k sc x f.nm && (nst ea && chkE k a sc ea)
  | .rng t lo hi, sc, .Call (.Name x _) [.Call (.Name y _) (e1 :: es) [] _] [] _ => blt k sc x (if t = true then "tuple" else "list") && (blt k sc y "range" && ((e1 :: es).all nst && (match es with
    | [] => chkO k lo sc none && chkE k hi sc e1
    | [e2] => chkO k lo sc (some e1) && chkE k hi sc e2
    | _ => false)))
  | .isi a T, sc, .Call (.Name x _) [ea, et] [] _ => blt k sc x "isinstance" && (nst ea && (chkE k a sc ea && (match et with
    | .Name n p => tysB k sc [.Name n p] T
    | .Tuple es _ _ => tysB k sc es T && decide (T.length ≤ 10)
    | _ => false)))
  | .call f as, sc, .Call (.Name x _) (ea :: es) [] _ => decide (k.nm[f]? = some (.fn x)) && (gl sc x && (noDbg x && ((ea :: es).all nst && chkA k as sc (ea :: es))))
  | .lc vs tg it cond elt, sc, .ListComp ee [⟨etg, eit, ifs, 0⟩] scope _ => blkC k.N sc scope (ownL k vs) && (tg.js.all (fun j => decide (j ∈ vs)) && (nset eit && (chkTg k (relS scope sc) (blkFl scope) tg etg && (chkI k it sc eit && (chkC k cond (relS scope sc) ifs && chkE k elt (relS scope sc) ee)))))
  | .glc vs tg a cond elt, sc, .ListComp ee [⟨etg, eit, ifs, 0⟩] scope _ => blkC k.N sc scope (ownL k vs) && (tg.js.all (fun j => decide (j ∈ vs)) && (nset eit && (chkTg k (relS scope sc) (blkFl scope) tg etg && (chkE k a sc eit && (chkC k cond (relS scope sc) ifs && chkE k elt (relS scope sc) ee)))))
  | .trk (.lst as), sc, e => chkE k (.lst as) sc e
  | .trk (.rep as n), sc, e => chkE k (.rep as n) sc e
  | .trk (.sq .list a), sc, e => chkE k (.sq .list a) sc e
  | .trk (.rev a), sc, e => chkE k (.rev a) sc e
  | .trk (.lc vs tg it cond elt), sc, e => chkE k (.lc vs tg it cond elt) sc e
  | .trk (.glc vs tg a cond elt), sc, e => chkE k (.glc vs tg a cond elt) sc e
  | .trk (.ext (.gsq .list) as), sc, e => chkE k (.ext (.gsq .list) as) sc e
  | .ext h as, sc, e => match hkE k h sc e with
    | some es => chkA k as sc es
    | none => false
  | .meth i c m a as, sc, .Call (.Attribute o y ap) es [] pos => decide (k.nm[i]? = some (.me c m)) && (decide (m = y) && (noCall o && (es.all nst && ((ap.endLine == pos.line) && (decide (es.length < 30)) && (chkE k a sc o && chkA k as sc es)))))
  | _, _, _ => false
def chkA (k : Ck) : CA → Scope → List Expr → Bool
  | .nil, _, [] => true
  | .cons a r, sc, e :: es => nst e && (chkE k a sc e && chkA k r sc es)
  | _, _, _ => false
def chkO (k : Ck) : CO → Scope → Option Expr → Bool
  | .no, _, none => true
  | .some a, sc, some e => nst e && chkE k a sc e
  | _, _, _ => false
def chkC (k : Ck) : CO → Scope → List Expr → Bool
  | .no, _, [] => true
  | .some a, sc, [e] => chkE k a sc e
  | _, _, _ => false
def chkI (k : Ck) : CI → Scope → Expr → Bool
  | .it a, sc, e => chkE k a sc e
  | .rng1 a, sc, .Call (.Name x _) [e] [] _ => blt k sc x "range" && (nst e && chkE k a sc e)
  | .rngd a b, sc, .Call (.Name x _) [e1, e2, .UnaryOp .USub (.Constant (.int 1) _ _) _] [] _ => blt k sc x "range" && (nst e1 && (nst e2 && (chkE k a sc e1 && chkE k b sc e2)))
  | .rng2 a b, sc, .Call (.Name x _) [e1, e2] [] _ => blt k sc x "range" && (nst e1 && (nst e2 && (chkE k a sc e1 && chkE k b sc e2)))
  | _, _, _ => false
end

section
def MeAt (X : Cx) (K : PySem.W.Frag) (gh : Gh G) (c m : Str) (n : Nat) (w : WF G) : Prop := ∃ (k : Nat) (f Cl : Addr) (fd : FuncData) (ps : List Str), FnOk X.prog X.w X.K X.mg X.base (L2.CX X.prog X.w) k f fd ps (spF K gh n w) ∧ Room k X.A ∧
  X.mg c = some (.ref Cl) ∧ Cls X.K Cl ∧ Meth X.K Cl m f ∧ Binds X.K fd ps []
def MkAt (X : Cx) (K : PySem.W.Frag) (gh : Gh G) (c : Str) (n : Nat) (w : WF G) : Prop := ∃ (k : Nat) (f Cl : Addr) (fd : FuncData) (ps : List Str), FnOk X.prog X.w X.K X.mg X.base (L2.CX X.prog X.w) k f fd ps (spF K gh n w) ∧ Room (k + 1) X.A ∧
  X.mg c = some (.ref Cl) ∧ Mk X.K Cl f ∧ Binds X.K fd ps []
def EnAt (X : Cx) (K : PySem.W.Frag) (gh : Gh G) (n : Nat) (w : WF G) : Nm → Prop
  | .fn x => FnAt X K gh x n w
  | .me c m => MeAt X K gh c m n w
  | .mk c => MkAt X K gh c n w
/-- a dict of the module with text keys -/
def KdC (w : World) (K : PySem.W.Frag) (mg : Str → Option Value) (kvs : List (Str × D)) (x : Str) : Prop := ∃ p es n, mg x = some (.ref p) ∧ KDict K w p es n ∧ ∀ s : Str, ∃ r, PySem.W.nsIn K p s = some r ∧ ((kvs.lookup s = none ∧ r = none) ∨ ∃ d u v, kvs.lookup s = some d ∧ r = some u ∧ RelV v u ∧ ∀ (H : Hp) (Z : Addr → Prop), Rp K H Z d v)
abbrev KdAt (X : Cx) (kvs : List (Str × D)) (x : Str) : Prop := KdC X.w X.K X.mg kvs x
structure Cok (X : Cx) (C : Vc G) (k : Ck) (fs : List (Nat × WF G)) : Prop where
  hK : X.K = C.K
  calm : X.calm = true
  hN : X.N = k.N
  nd : k.N.Nodup
  un : X.A.units + 65 < cLine
  bl : ∀ x ∈ k.bl, X.mg x = none
  len : fs.length = k.nm.length
  fns : ∀ (i : Nat) (x : Nm) (n : Nat) (w : WF G), k.nm[i]? = some x → fs[i]? = some (n, w) → EnAt X C.K C.gh n w x
  hg : C.gh = ghK C.K X.mg
  ats : ∀ c x, (c, x) ∈ k.ats → ∀ Cl, X.mg c = some (.ref Cl) → Cls X.K Cl ∧ NoAttr X.K Cl x
  gi : ∀ x n, (x, n) ∈ k.gi → ∃ u, X.mg x = some u ∧ RelV (.int n) u
  kd : ∀ (i : Nat) (x : Str) (kvs : List (Str × D)), k.kd[i]? = some (x, kvs) → KdAt X kvs x
variable {C : Vc G} {k : Ck} {fs : List (Nat × WF G)}
theorem Cok.blk {X : Cx} (o : Cok X C k fs) (s : Shared) (H : Hp) (scope : Scope) (cenv : PySem.Env) (fp : List Addr) : Cok (X.blk s H scope cenv fp) C k fs :=
  ⟨o.hK, o.calm, o.hN, o.nd, o.un, o.bl, o.len, o.fns, o.hg, o.ats, o.gi, o.kd⟩
theorem b2 {a b : Bool} (h : (a && b) = true) : a = true ∧ b = true := Bool.and_eq_true_iff.mp h
theorem gl_ok {X : Cx} {sc : Scope} {x : Str} (hs : X.env.scope = sc) (h : gl sc x = true) : Gl X x := by
  show X.env.scope.names.lookup x = some .globalImplicit
  rw [hs]
  exact of_decide_eq_true h
theorem blt_ok {X : Cx} {sc : Scope} {x y : Str} (o : Cok X C k fs) (hs : X.env.scope = sc) (h : blt k sc x y = true) : x = y ∧ Gl X y ∧ X.mg y = none := by
  obtain ⟨h1, h2⟩ := b2 h
  obtain ⟨h2, h3⟩ := b2 h2
  have e := of_decide_eq_true h1
  subst e
  exact ⟨rfl, gl_ok hs h2, o.bl _ (of_decide_eq_true h3)⟩
theorem dbg_ok {x : Str} (h : noDbg x = true) : (x == ("__debug__" : Str)) = false ∧ (x == ("__classdict__" : Str)) = false := by
  obtain ⟨h1, h2⟩ := b2 h
  exact ⟨by simpa using h1, by simpa using h2⟩
theorem var_ok {X : Cx} {sc : Scope} {e : Expr} {i : Nat} (o : Cok X C k fs) (hs : X.env.scope = sc) (h : chkE k (.var i) sc e = true) : PE X e (tVar i) := by
  obtain ⟨x, p, rfl, h⟩ : ∃ x p, e = .Name x p ∧ (decide (k.N[i]? = some x) && (visB sc x && noDbg x)) = true := by
    cases e <;> first | exact ⟨_, _, rfl, h⟩ | exact Bool.noConfusion h
  obtain ⟨h1, h2⟩ := b2 h
  obtain ⟨h2, h3⟩ := b2 h2
  obtain ⟨h4, h5⟩ := dbg_ok h3
  refine pe_var (by rw [o.hN]; exact of_decide_eq_true h1) ?_ h4 h5
  show (X.env.scope.names.lookup x = some .local) ∨ (X.env.scope.names.lookup x = some .cell) ∨ (X.env.scope.names.lookup x = some .free)
  rw [hs]
  unfold visB at h2
  split at h2 <;> first | cases h2 | skip
  · rename_i q; exact .inl q
  · rename_i q; exact .inr (.inl q)
  · rename_i q; exact .inr (.inr q)
theorem mark_ok {o : CmpOp} {e : Expr} (h : nset e = true) : behindInMarks o e = false := by
  cases e <;> first | rfl | cases h
theorem fold_ok {e : Expr} {env : PySem.Env} (h : nset e = true) : ∀ x, foldedSetIterable e env x = pure x := fun x => by
  cases e <;> first | rfl | cases h
theorem last_ok {o o' : CmpOp} {e e' : Expr} (h : nset e' = true) : lastMarks [o, o'] [e, e'] = false := mark_ok h
theorem loc_ok {X : Cx} {sc : Scope} {fl : Str → Bool} {x : Str} (hs : X.env.scope = sc) (hf : X.fn = fl) (h : locB sc fl x = true) : L2.Loc X.env.scope x ∧ (X.fn x = true ∨ X.env.scope.names.lookup x = some .local) := by
  unfold locB at h
  unfold L2.Loc
  rw [hs, hf]
  split at h <;> first | cases h | skip
  · rename_i q; exact ⟨.inl q, .inr q⟩
  · rename_i q; exact ⟨.inr q, .inl h⟩
theorem tgs_ok {X : Cx} {sc : Scope} {fl : Str → Bool} (o : Cok X C k fs) (hs : X.env.scope = sc) (hf : X.fn = fl) : ∀ {js : List Nat} {es : List Expr}, tgN k sc fl js es = true →
    PGs X es (gsN js) ∧ (assignEach es X.env).length = js.length ∧ (assignEach es X.env).findIdx? (·.1) = none ∧ (assignEach es X.env).all (fun p => !p.1) = true
  | [], [], _ => ⟨pgs_nil, rfl, rfl, rfl⟩
  | [], _ :: _, h => by simp [tgN] at h
  | _ :: _, [], h => by simp [tgN] at h
  | j :: js, e :: es, h => by
    obtain ⟨x, p, rfl, h⟩ : ∃ x p, e = .Name x p ∧ (decide (k.N[j]? = some x) && (locB sc fl x && tgN k sc fl js es)) = true := by
      cases e <;> first | exact ⟨_, _, rfl, h⟩ | exact Bool.noConfusion h
    obtain ⟨h1, h2⟩ := b2 h
    obtain ⟨h2, h3⟩ := b2 h2
    obtain ⟨i1, i2, i3, i4⟩ := tgs_ok o hs hf h3
    obtain ⟨l1, l2⟩ := loc_ok (X := X) hs hf h2
    have ee : assignEach (Expr.Name x p :: es) X.env = (false, assign (.Name x p) X.env) :: assignEach es X.env := rfl
    refine ⟨pgs_cons (pg_name (by rw [o.hN]; exact o.nd) (by rw [o.hN]; exact of_decide_eq_true h1) l1 l2) i1 rfl, ?_, ?_, ?_⟩
    · rw [ee, List.length_cons, i2, List.length_cons]
    · rw [ee, List.findIdx?_cons, i3] <;> rfl
    · rw [ee, List.all_cons, i4] <;> rfl
theorem tg_pg {X : Cx} {sc : Scope} {fl : Str → Bool} {tg : Tg} {e : Expr} (o : Cok X C k fs) (hs : X.env.scope = sc) (hf : X.fn = fl) (h : chkTg k sc fl tg e = true) : PG X e (gTg C.K tg) := by
  unfold chkTg at h
  split at h <;> first | cases h | skip
  · obtain ⟨h1, h2⟩ := b2 h
    obtain ⟨l1, l2⟩ := loc_ok (X := X) hs hf h2
    exact pg_name (by rw [o.hN]; exact o.nd) (by rw [o.hN]; exact of_decide_eq_true h1) l1 l2
  · obtain ⟨i1, i2, i3, _⟩ := tgs_ok o hs hf h
    have z := pg_tup (k := ‹Nat›) (pos := ‹Pos›) o.calm i1 i2 i3
    rw [o.hK] at z
    exact z
theorem tys_ok {X : Cx} {sc : Scope} (o : Cok X C k fs) (hs : X.env.scope = sc) : ∀ {es : List Expr} {T : List String}, tysB k sc es T = true →
    ∃ ps : List Pos, es = (T.zip ps).map (fun q => Expr.Name (Str.ofString q.1) q.2) ∧ ps.length = T.length ∧ T.all tyN = true ∧ ∀ n ∈ T, Gl X (Str.ofString n) ∧ X.mg (Str.ofString n) = none
  | [], [], _ => ⟨[], rfl, rfl, rfl, fun n h => nomatch h⟩
  | [], _ :: _, h => by simp [tysB] at h
  | _ :: _, [], h => by simp [tysB] at h
  | e :: es, n :: T, h => by
    obtain ⟨x, p, rfl, h⟩ : ∃ x p, e = .Name x p ∧ (decide (x = Str.ofString n) && (tyN n && (gl sc x && (decide (x ∈ k.bl) && tysB k sc es T)))) = true := by
      cases e <;> first | exact ⟨_, _, rfl, h⟩ | exact Bool.noConfusion h
    obtain ⟨h1, hx⟩ := b2 h
    obtain ⟨h2, hx⟩ := b2 hx
    obtain ⟨h3, hx⟩ := b2 hx
    obtain ⟨h4, h5⟩ := b2 hx
    obtain ⟨ps, e1, e2, e3, e4⟩ := tys_ok o hs h5
    have e0 := of_decide_eq_true h1
    subst e0
    refine ⟨p :: ps, by rw [e1]; rfl, by simp [e2], by simp [h2, e3], fun m hm => ?_⟩
    rcases List.mem_cons.mp hm with q | q
    · subst q
      exact ⟨gl_ok hs h3, o.bl _ (of_decide_eq_true h4)⟩
    · exact e4 m q
theorem q_of {X : Cx} {e : Expr} {c : CE} (h : PE X e (rd C (wE fs c))) (hv : ∀ i, c = .var i → PE X e (tVar i)) : PE X e (rdQ C (wQ c (wE fs c))) := by
  cases c with
  | var i => exact rdQ_var (hv i rfl)
  | _ => exact rdQ_of h fun _ z => nomatch z
theorem v_of {X : Cx} {e : Expr} {c : CE} (h : PE X e (rd C (wE fs c))) (hv : ∀ i, c = .var i → PE X e (tVar i)) : PE X e (rdV C (wV c (wE fs c))) := by
  cases c with
  | var i => exact rdV_var (hv i rfl)
  | _ => exact rdV_of h fun _ z => nomatch z
/-- whose test is its value's truth -/
def trB : Expr → Bool
  | .UnaryOp .Not _ _ => false
  | .BoolOp _ _ _ => false
  | .IfExp _ _ _ _ => false
  | .Compare _ _ _ _ => false
  | _ => true
theorem tr_ok {e : Expr} {env : PySem.Env} (h : trB e = true) : ∀ whole, isTrue e env whole = (do let v ← whole; standAt e.pos; holding [v] (truthy v)) := fun whole => by
  cases e with
  | UnaryOp op a p => cases op <;> first | rfl | cases h
  | _ => first | rfl | cases h
/-- what is shown of an expression -/
def Snd (X : Cx) (C : Vc G) (fs : List (Nat × WF G)) (c : CE) (e : Expr) : Prop :=
  PE X e (rd C (wE fs c)) ∧ PT X e (rdT C (wE fs c)) ∧ ∀ op es pos, e = .BoolOp op es pos → PW X e (rdT C (wE fs c))
theorem Snd.mk' {X : Cx} {c : CE} {e : Expr} (o : Cok X C k fs) (h : PE X e (rd C (wE fs c))) (ht : trB e = true) : Snd X C fs c e :=
  ⟨h, pt_trV o.hK h (tr_ok ht), fun _ _ _ q => by subst q; cases ht⟩
end
end VL
/-! Val: the meaning of every expression that is looked at holds. -/
namespace VL
open PySem PySem.Spec PyProof.Rows L2

section
variable {k : Ck} {sc : Scope} {e : Expr} {a b c : CE} {as : CA} {lo hi : CO}
theorem inv_const {x : CE} {z : Const} (hx : (x = .non ∧ z = .none) ∨ (∃ i, x = .int i ∧ z = .int i) ∨ (∃ i, x = .bl i ∧ z = .bool i) ∨ (∃ i, x = .str i ∧ z = .str i)) (h : chkE k x sc e = true) : ∃ j p, e = .Constant z j p := by
  rcases hx with ⟨rfl, rfl⟩ | ⟨i, rfl, rfl⟩ | ⟨i, rfl, rfl⟩ | ⟨i, rfl, rfl⟩
  all_goals (cases e with
    | Constant w j p => cases w <;> first
      | exact Bool.noConfusion h
      | exact ⟨j, p, rfl⟩
      | (have q := of_decide_eq_true (show decide _ = true from h); subst q; exact ⟨j, p, rfl⟩)
      | (have q : i = _ := eq_of_beq (show (_ == _) = true from h); subst q; exact ⟨j, p, rfl⟩)
    | _ => exact Bool.noConfusion h)
theorem inv_bin {op : Bop} (h : chkE k (.bin op a b) sc e = true) : ∃ ea eb p, e = .BinOp ea op.op eb p ∧ chkE k a sc ea = true ∧ chkE k b sc eb = true := by
  cases e with
  | BinOp ea o eb p =>
    obtain ⟨h1, h2⟩ := b2 h
    obtain ⟨h2, h3⟩ := b2 h2
    have q := of_decide_eq_true h1
    subst q
    exact ⟨ea, eb, p, rfl, h2, h3⟩
  | _ => exact Bool.noConfusion h
theorem inv_neg (h : chkE k (.neg a) sc e = true) : ∃ ea p, e = .UnaryOp .USub ea p ∧ chkE k a sc ea = true := by
  cases e with
  | UnaryOp o ea p => cases o <;> first | exact Bool.noConfusion h | exact ⟨ea, p, rfl, h⟩
  | _ => exact Bool.noConfusion h
theorem inv_not (h : chkE k (.not a) sc e = true) : ∃ ea p, e = .UnaryOp .Not ea p ∧ chkE k a sc ea = true := by
  cases e with
  | UnaryOp o ea p => cases o <;> first | exact Bool.noConfusion h | exact ⟨ea, p, rfl, h⟩
  | _ => exact Bool.noConfusion h
theorem inv_cmp {op : Cop} (h : chkE k (.cmp op a b) sc e = true) : ∃ ea eb p, e = .Compare ea [op.op] [eb] p ∧ nset eb = true ∧ chkE k a sc ea = true ∧ chkE k b sc eb = true := by
  cases e with
  | Compare ea os es p =>
    rcases os with _ | ⟨o, _ | ⟨o2, os⟩⟩ <;> rcases es with _ | ⟨eb, _ | ⟨ec, es⟩⟩ <;> first | exact Bool.noConfusion h | skip
    obtain ⟨h1, h2⟩ := b2 h
    obtain ⟨h2, h3⟩ := b2 h2
    obtain ⟨h3, h4⟩ := b2 h3
    have q := of_decide_eq_true h1
    subst q
    exact ⟨ea, eb, p, rfl, h2, h3, h4⟩
  | _ => exact Bool.noConfusion h
theorem inv_chain {op op' : Cop} (h : chkE k (.chain op op' a b c) sc e = true) : ∃ ea eb ec p, e = .Compare ea [op.op, op'.op] [eb, ec] p ∧ nset ec = true ∧ chkE k a sc ea = true ∧ chkE k b sc eb = true ∧ chkE k c sc ec = true := by
  cases e with
  | Compare ea os es p =>
    rcases os with _ | ⟨o, _ | ⟨o2, _ | ⟨o3, os⟩⟩⟩ <;> rcases es with _ | ⟨eb, _ | ⟨ec, _ | ⟨ed, es⟩⟩⟩ <;> first | exact Bool.noConfusion h | skip
    obtain ⟨h1, h2⟩ := b2 h
    obtain ⟨h2, h3⟩ := b2 h2
    obtain ⟨h3, h4⟩ := b2 h3
    obtain ⟨h4, h5⟩ := b2 h4
    obtain ⟨h5, h6⟩ := b2 h5
    have q := of_decide_eq_true h1
    subst q
    have q := of_decide_eq_true h2
    subst q
    exact ⟨ea, eb, ec, p, rfl, h3, h4, h5, h6⟩
  | _ => exact Bool.noConfusion h
theorem inv_and (h : chkE k (.and a b) sc e = true) : ∃ ea eb rest p, e = .BoolOp .And (ea :: eb :: rest) p ∧ chkE k a sc ea = true ∧ ((rest = [] ∧ chkE k b sc eb = true) ∨ (rest ≠ [] ∧ chkE k b sc (.BoolOp .And (eb :: rest) p) = true)) := by
  cases e with
  | BoolOp o es p =>
    cases o <;> rcases es with _ | ⟨ea, _ | ⟨eb, rest⟩⟩ <;> first | exact Bool.noConfusion h | skip
    obtain ⟨h1, h2⟩ := b2 h
    refine ⟨ea, eb, rest, p, rfl, h1, ?_⟩
    cases rest with
    | nil => exact .inl ⟨rfl, h2⟩
    | cons r rs => exact .inr ⟨List.cons_ne_nil _ _, h2⟩
  | _ => exact Bool.noConfusion h
theorem inv_or (h : chkE k (.or a b) sc e = true) : ∃ ea eb rest p, e = .BoolOp .Or (ea :: eb :: rest) p ∧ chkE k a sc ea = true ∧ ((rest = [] ∧ chkE k b sc eb = true) ∨ (rest ≠ [] ∧ chkE k b sc (.BoolOp .Or (eb :: rest) p) = true)) := by
  cases e with
  | BoolOp o es p =>
    cases o <;> rcases es with _ | ⟨ea, _ | ⟨eb, rest⟩⟩ <;> first | exact Bool.noConfusion h | skip
    obtain ⟨h1, h2⟩ := b2 h
    refine ⟨ea, eb, rest, p, rfl, h1, ?_⟩
    cases rest with
    | nil => exact .inl ⟨rfl, h2⟩
    | cons r rs => exact .inr ⟨List.cons_ne_nil _ _, h2⟩
  | _ => exact Bool.noConfusion h
theorem inv_ite (h : chkE k (.ite c a b) sc e = true) : ∃ ec ea eb p, e = .IfExp ec ea eb p ∧ chkE k c sc ec = true ∧ chkE k a sc ea = true ∧ chkE k b sc eb = true := by
  cases e with
  | IfExp ec ea eb p =>
    obtain ⟨h1, h2⟩ := b2 h
    obtain ⟨h2, h3⟩ := b2 h2
    exact ⟨ec, ea, eb, p, rfl, h1, h2, h3⟩
  | _ => exact Bool.noConfusion h
theorem inv_tup (h : chkE k (.tup as) sc e = true) : ∃ es j p, e = .Tuple es j p ∧ chkA k as sc es = true := by
  cases e with
  | Tuple es j p => exact ⟨es, j, p, rfl, h⟩
  | _ => exact Bool.noConfusion h
theorem inv_lst (h : chkE k (.lst as) sc e = true) : ∃ es p, e = .List es p ∧ chkA k as sc es = true := by
  cases e with
  | List es p => exact ⟨es, p, rfl, h⟩
  | _ => exact Bool.noConfusion h
theorem inv_rep (h : chkE k (.rep as b) sc e = true) : ∃ es p1 eb p, e = .BinOp (.List es p1) .Mult eb p ∧ chkA k as sc es = true ∧ chkE k b sc eb = true := by
  cases e with
  | BinOp ea o eb p =>
    cases ea with
    | List es p1 =>
      cases o <;> first | exact Bool.noConfusion h | skip
      obtain ⟨h1, h2⟩ := b2 h
      exact ⟨es, p1, eb, p, rfl, h1, h2⟩
    | _ => exact Bool.noConfusion h
  | _ => exact Bool.noConfusion h
theorem inv_ix (h : chkE k (.ix a b) sc e = true) : ∃ ea eb p, e = .Subscript ea eb p ∧ nsl eb = true ∧ chkE k a sc ea = true ∧ chkE k b sc eb = true := by
  cases e with
  | Subscript ea eb p =>
    obtain ⟨h1, h2⟩ := b2 h
    obtain ⟨h2, h3⟩ := b2 h2
    exact ⟨ea, eb, p, rfl, h1, h2, h3⟩
  | _ => exact Bool.noConfusion h
theorem inv_sl (h : chkE k (.sl a lo hi) sc e = true) : ∃ ea l u p2 p, e = .Subscript ea (.Slice l u none p2) p ∧ chkE k a sc ea = true ∧ chkO k lo sc l = true ∧ chkO k hi sc u = true := by
  cases e with
  | Subscript ea eb p =>
    cases eb with
    | Slice l u st p2 =>
      cases st with
      | none =>
        obtain ⟨h1, h2⟩ := b2 h
        obtain ⟨h2, h3⟩ := b2 h2
        exact ⟨ea, l, u, p2, p, rfl, h1, h2, h3⟩
      | some _ => exact Bool.noConfusion h
    | _ => exact Bool.noConfusion h
  | _ => exact Bool.noConfusion h
theorem inv_rev (h : chkE k (.rev a) sc e = true) : ∃ ea j q1 q2 q3 p, e = .Subscript ea (.Slice none none (some (.UnaryOp .USub (.Constant (.int 1) j q1) q2)) q3) p ∧ chkE k a sc ea = true := by
  unfold chkE at h
  split at h <;> first | contradiction | exact Bool.noConfusion h | skip
  rename_i hc
  cases hc
  exact ⟨_, _, _, _, _, _, rfl, h⟩
theorem inv_bi {f : Bi} (h : chkE k (.bi f as) sc e = true) : ∃ x p1 ea es p, e = .Call (.Name x p1) (ea :: es) [] p ∧ blt k sc x f.nm = true ∧ (ea :: es).all nst = true ∧ chkA k as sc (ea :: es) = true := by
  unfold chkE at h
  split at h <;> first | contradiction | exact Bool.noConfusion h | skip
  rename_i hc
  cases hc
  obtain ⟨h1, h2⟩ := b2 h
  obtain ⟨h2, h3⟩ := b2 h2
  exact ⟨_, _, _, _, _, rfl, h1, h2, h3⟩
theorem inv_sq {f : Sq} (h : chkE k (.sq f a) sc e = true) : ∃ x p1 ea p, e = .Call (.Name x p1) [ea] [] p ∧ blt k sc x f.nm = true ∧ nst ea = true ∧ chkE k a sc ea = true := by
  unfold chkE at h
  split at h <;> first | contradiction | exact Bool.noConfusion h | skip
  rename_i hc
  cases hc
  obtain ⟨h1, h2⟩ := b2 h
  obtain ⟨h2, h3⟩ := b2 h2
  exact ⟨_, _, _, _, rfl, h1, h2, h3⟩
theorem inv_rng {t : Bool} (h : chkE k (.rng t lo b) sc e = true) : ∃ x p1 y p2 e1 es p3 p, e = .Call (.Name x p1) [.Call (.Name y p2) (e1 :: es) [] p3] [] p ∧ blt k sc x (if t = true then "tuple" else "list") = true ∧ blt k sc y "range" = true ∧ (e1 :: es).all nst = true ∧
    ((es = [] ∧ chkO k lo sc none = true ∧ chkE k b sc e1 = true) ∨ ∃ e2, es = [e2] ∧ chkO k lo sc (some e1) = true ∧ chkE k b sc e2 = true) := by
  unfold chkE at h
  split at h <;> first | contradiction | exact Bool.noConfusion h | skip
  rename_i hc
  cases hc
  obtain ⟨h1, h2⟩ := b2 h
  obtain ⟨h2, h3⟩ := b2 h2
  obtain ⟨h3, h4⟩ := b2 h3
  refine ⟨_, _, _, _, _, _, _, _, rfl, h1, h2, h3, ?_⟩
  split at h4 <;> first | exact Bool.noConfusion h4 | skip
  · obtain ⟨h5, h6⟩ := b2 h4
    exact .inl ⟨rfl, h5, h6⟩
  · obtain ⟨h5, h6⟩ := b2 h4
    exact .inr ⟨_, rfl, h5, h6⟩
theorem inv_isi {T : List String} (h : chkE k (.isi a T) sc e = true) : ∃ x p1 ea et p, e = .Call (.Name x p1) [ea, et] [] p ∧ blt k sc x "isinstance" = true ∧ nst ea = true ∧ chkE k a sc ea = true ∧
    ((∃ n p2, et = .Name n p2 ∧ tysB k sc [.Name n p2] T = true) ∨ ∃ es j p2, et = .Tuple es j p2 ∧ tysB k sc es T = true ∧ T.length ≤ 10) := by
  unfold chkE at h
  split at h <;> first | contradiction | exact Bool.noConfusion h | skip
  rename_i hc
  cases hc
  obtain ⟨h1, h2⟩ := b2 h
  obtain ⟨h2, h3⟩ := b2 h2
  obtain ⟨h3, h4⟩ := b2 h3
  refine ⟨_, _, _, _, _, rfl, h1, h2, h3, ?_⟩
  split at h4 <;> first | exact Bool.noConfusion h4 | skip
  · exact .inl ⟨_, _, rfl, h4⟩
  · obtain ⟨h5, h6⟩ := b2 h4
    exact .inr ⟨_, _, _, rfl, h5, of_decide_eq_true h6⟩
theorem inv_call {f : Nat} (h : chkE k (.call f as) sc e = true) : ∃ x p1 ea es p, e = .Call (.Name x p1) (ea :: es) [] p ∧ k.nm[f]? = some (.fn x) ∧ gl sc x = true ∧ noDbg x = true ∧ (ea :: es).all nst = true ∧ chkA k as sc (ea :: es) = true := by
  unfold chkE at h
  split at h <;> first | contradiction | exact Bool.noConfusion h | skip
  rename_i hc
  cases hc
  obtain ⟨h1, h2⟩ := b2 h
  obtain ⟨h2, h3⟩ := b2 h2
  obtain ⟨h3, h4⟩ := b2 h3
  obtain ⟨h4, h5⟩ := b2 h4
  exact ⟨_, _, _, _, _, rfl, of_decide_eq_true h1, h2, h3, h4, h5⟩
theorem inv_lc {vs : List Nat} {tg : Tg} {it : CI} {cond : CO} (h : chkE k (.lc vs tg it cond a) sc e = true) : ∃ ee etg eit ifs scope p, e = .ListComp ee [⟨etg, eit, ifs, 0⟩] scope p ∧ blkC k.N sc scope (ownL k vs) = true ∧ (∀ j ∈ tg.js, j ∈ vs) ∧ nset eit = true ∧
    chkTg k (relS scope sc) (blkFl scope) tg etg = true ∧ chkI k it sc eit = true ∧ chkC k cond (relS scope sc) ifs = true ∧ chkE k a (relS scope sc) ee = true := by
  unfold chkE at h
  split at h <;> first | contradiction | exact Bool.noConfusion h | skip
  rename_i hc
  cases hc
  obtain ⟨h1, h2⟩ := b2 h
  obtain ⟨h2, h3⟩ := b2 h2
  obtain ⟨h3, h4⟩ := b2 h3
  obtain ⟨h4, h5⟩ := b2 h4
  obtain ⟨h5, h6⟩ := b2 h5
  obtain ⟨h6, h7⟩ := b2 h6
  exact ⟨_, _, _, _, _, _, rfl, h1, fun j hj => of_decide_eq_true (List.all_eq_true.mp h2 j hj), h3, h4, h5, h6, h7⟩
theorem inv_glc {vs : List Nat} {tg : Tg} {b : CE} {cond : CO} (h : chkE k (.glc vs tg b cond a) sc e = true) : ∃ ee etg eit ifs scope p, e = .ListComp ee [⟨etg, eit, ifs, 0⟩] scope p ∧ blkC k.N sc scope (ownL k vs) = true ∧ (∀ j ∈ tg.js, j ∈ vs) ∧ nset eit = true ∧
    chkTg k (relS scope sc) (blkFl scope) tg etg = true ∧ chkE k b sc eit = true ∧ chkC k cond (relS scope sc) ifs = true ∧ chkE k a (relS scope sc) ee = true := by
  unfold chkE at h
  split at h <;> first | contradiction | exact Bool.noConfusion h | skip
  rename_i hc
  cases hc
  obtain ⟨h1, h2⟩ := b2 h
  obtain ⟨h2, h3⟩ := b2 h2
  obtain ⟨h3, h4⟩ := b2 h3
  obtain ⟨h4, h5⟩ := b2 h4
  obtain ⟨h5, h6⟩ := b2 h5
  obtain ⟨h6, h7⟩ := b2 h6
  exact ⟨_, _, _, _, _, _, rfl, h1, fun j hj => of_decide_eq_true (List.all_eq_true.mp h2 j hj), h3, h4, h5, h6, h7⟩
theorem inv_ext {hk : Hk} {as : CA} (h : chkE k (.ext hk as) sc e = true) : ∃ es, hkE k hk sc e = some es ∧ chkA k as sc es = true := by
  cases q : hkE k hk sc e with
  | none =>
    have z : (match hkE k hk sc e with | some es => chkA k as sc es | none => false) = true := h
    rw [q] at z
    exact Bool.noConfusion z
  | some es =>
    have z : (match hkE k hk sc e with | some es => chkA k as sc es | none => false) = true := h
    rw [q] at z
    exact ⟨es, rfl, z⟩
theorem inv_meth {i : Nat} {c m : Str} {b : CE} {as : CA} (h : chkE k (.meth i c m b as) sc e = true) : ∃ oe ap es p, e = .Call (.Attribute oe m ap) es [] p ∧ k.nm[i]? = some (.me c m) ∧ noCall oe = true ∧ es.all nst = true ∧ es.length < 30 ∧ (ap.endLine == p.line) = true ∧
    chkE k b sc oe = true ∧ chkA k as sc es = true := by
  unfold chkE at h
  split at h <;> first | contradiction | exact Bool.noConfusion h | skip
  rename_i hc
  cases hc
  obtain ⟨h1, h2⟩ := b2 h
  obtain ⟨h2, h3⟩ := b2 h2
  obtain ⟨h3, h4⟩ := b2 h3
  obtain ⟨h4, h5⟩ := b2 h4
  obtain ⟨h5, h6⟩ := b2 h5
  obtain ⟨h7, h8⟩ := b2 h5
  obtain ⟨h9, h10⟩ := b2 h6
  have ez := of_decide_eq_true h2
  subst ez
  exact ⟨_, _, _, _, rfl, of_decide_eq_true h1, h3, h4, of_decide_eq_true h8, h7, h9, h10⟩
end
end VL
/-! Val: the hooks' soundness. -/
namespace VL
open PySem PySem.Spec PyProof.Rows L2

section
variable {C : Vc G} {k : Ck} {fs : List (Nat × WF G)} {X : Cx} {sc : Scope} {e : Expr}
def HoldA (X : Cx) (C : Vc G) (fs : List (Nat × WF G)) : CA → List Expr → Prop
  | .nil, [] => True
  | .cons a r, e :: es => PE X e (rd C (wE fs a)) ∧ nst e = true ∧ HoldA X C fs r es
  | _, _ => False
theorem holdA_pa : ∀ {as : CA} {es : List Expr}, HoldA X C fs as es → PA X es (rdA C (wA fs as))
  | .nil, [], _ => pa_nilV
  | .nil, _ :: _, h => h.elim
  | .cons _ _, [], h => h.elim
  | .cons a r, e :: es, ⟨h1, h2, h3⟩ => pa_consV h1 (holdA_pa h3) h2
theorem hold1 {as : CA} {a : Expr} (h : HoldA X C fs as [a]) : ∃ c, as = .cons c .nil ∧ PE X a (rd C (wE fs c)) ∧ nst a = true := by
  rcases as with _ | ⟨c, _ | ⟨c2, r⟩⟩
  · exact h.elim
  · exact ⟨c, rfl, h.1, h.2.1⟩
  · exact h.2.2.elim
theorem hold2 {as : CA} {a b : Expr} (h : HoldA X C fs as [a, b]) : ∃ c d, as = .cons c (.cons d .nil) ∧ PE X a (rd C (wE fs c)) ∧ PE X b (rd C (wE fs d)) := by
  rcases as with _ | ⟨c, _ | ⟨d, _ | ⟨c2, r⟩⟩⟩
  · exact h.elim
  · exact h.2.2.elim
  · exact ⟨c, d, rfl, h.1, h.2.2.1⟩
  · exact h.2.2.2.2.elim
theorem base_ok {o : Expr} {x : Str} {env : PySem.Env} (h : noCall o = true) (w : Sem Value) : attributeBase o x env w = w := by
  cases o <;> first | rfl | cases h
theorem if_some {α : Type} {c : Prop} [Decidable c] {a b : α} (h : (if c then some a else none) = some b) : c ∧ a = b := by
  by_cases q : c
  · rw [if_pos q] at h
    exact ⟨q, Option.some.inj h⟩
  · rw [if_neg q] at h
    cases h
theorem hk_atr (o : Cok X C k fs) {c x : Str} {as : CA} {es : List Expr} (h : hkE k (.atr c x) sc e = some es) (ha : HoldA X C fs as es) : PE X e (rd C fun en g Q => wA fs as en g fun ds _ g1 => hS fs (.atr c x) ds g1 Q) := by
  unfold hkE at h
  split at h <;> first | contradiction | skip
  rename_i hh
  cases hh
  obtain ⟨h1, rfl⟩ := if_some h
  obtain ⟨h1, h2⟩ := b2 h1
  obtain ⟨h2, h3⟩ := b2 h2
  have e1 := of_decide_eq_true h1
  subst e1
  obtain ⟨ca, rfl, pa, _⟩ := hold1 ha
  refine (pe_fld pa (base_ok h2 _)).wk fun σ H Q q => ?_
  obtain ⟨pins, ex, ow, en, g, P, S, hw, kk⟩ := q
  refine ⟨pins, ex, ow, en, g, _, S, hw, fun d l g1 v H1 p1 s1 r1 => ?_⟩
  cases d with
  | obj p =>
    obtain ⟨dx, fs', d', hc, hl, p⟩ := p1
    cases r1
    obtain ⟨lf, Cl, vs, m1, m2, m3, m4⟩ := cell_of o.hg (S.stp' s1).stp.ok hc
    obtain ⟨v', hv, rv⟩ := rp_lk (Z := Zl C ex ow g1 2) m3 (flatK (fun _ _ z _ => z) lf m4) hl
    obtain ⟨cl, na⟩ := o.ats _ _ (of_decide_eq_true h3) Cl m1
    exact ⟨_, Cl, dx, vs, v', rfl, m2, cl, na, hv, kk _ _ _ _ H1 p s1 rv⟩
  | _ => exact p1.elim
theorem hk_gix (o : Cok X C k fs) {as : CA} {es : List Expr} (h : hkE k .gix sc e = some es) (ha : HoldA X C fs as es) : PE X e (rd C fun en g Q => wA fs as en g fun ds _ g1 => hS fs .gix ds g1 Q) := by
  unfold hkE at h
  split at h <;> first | contradiction | skip
  rename_i hh
  obtain ⟨h1, rfl⟩ := if_some h
  obtain ⟨ca, cb, rfl, pa, pb⟩ := hold2 ha
  refine (pe_ix ix_list pa pb (plainIx h1)).wk fun σ H Q q => ?_
  rw [o.hK]
  obtain ⟨pins, ex, ow, en, g, P, S, hw, kk⟩ := q
  refine ⟨pins, ex, ow, en, g, _, S, hw, fun d l g1 v H1 p1 s1 r1 => ⟨pins, ex, ow, en, g1, _, S.stp' s1, p1, fun d2 l2 g2 v2 H2 p2 s2 r2 => ?_⟩⟩
  cases d with
  | obj p =>
    cases d2 with
    | int i =>
      obtain ⟨ds, d', hc, hl, p⟩ := p2
      cases r1
      cases r2
      obtain ⟨lf, xs, m1, m2⟩ := cell_lst o.hg ((S.stp' s1).stp' s2).stp.ok hc
      obtain ⟨v', hv, rv⟩ := at_rp (m2 (Zl C ex ow g2 2)) hl
      exact ⟨_, xs, i, v', rfl, rfl, SqL.of m1, hv, kk _ _ _ _ H2 p (s1.trans s2) rv⟩
    | _ => exact p2.elim
  | _ => exact p2.elim
theorem dct_lk {K : PySem.W.Frag} {H : Hp} {Z : Addr → Prop} {x : Str} {d : D} : ∀ {fs : List (Str × D)} {vs : List (Key × V)}, vs.map (·.1) = fs.map (fun z => Sum.inr z.1) → RpA K H Z (fs.map (·.2)) (vs.map (·.2)) → fs.lookup x = some d → ∃ v, valV vs (Sum.inr x) = some v ∧ Rp K H Z d v
  | [], _, _, _, h => by cases h
  | (y, e) :: fs, [], q, _, _ => by cases q
  | (y, e) :: fs, (z, v) :: vs, q, r, h => by
    simp only [List.map_cons, List.cons.injEq] at q r
    obtain ⟨rfl, q⟩ := q
    cases r with
    | cons r1 r2 =>
      by_cases hb : x = y
      · subst hb
        simp only [List.lookup, beq_self_eq_true] at h
        cases h
        exact ⟨v, valV_pos rfl, r1⟩
      · have hb' : (x == y) = false := beq_eq_false_iff_ne.mpr hb
        simp only [List.lookup, hb'] at h
        rw [valV_neg (fun z => hb (Sum.inr.inj z).symm)]
        exact dct_lk q r2 h
theorem hk_gkey (o : Cok X C k fs) {s : Str} {as : CA} {es : List Expr} (h : hkE k (.gkey s) sc e = some es) (ha : HoldA X C fs as es) : PE X e (rd C fun en g Q => wA fs as en g fun ds _ g1 => hS fs (.gkey s) ds g1 Q) := by
  unfold hkE at h
  split at h <;> first | contradiction | skip
  rename_i hh
  cases hh
  obtain ⟨rfl, rfl⟩ := if_some h
  obtain ⟨ca, rfl, pa, _⟩ := hold1 ha
  have hu : X.A.units + 1 < cLine := by have := o.un; omega
  refine (pe_dget hu pa (pe_str) (fun _ _ => rfl)).wk fun σ H Q q => ?_
  obtain ⟨pins, ex, ow, en, g, P, S, hw, kk⟩ := q
  refine ⟨pins, ex, ow, en, g, _, S, hw, fun d l g1 v H1 p1 s1 r1 => ?_⟩
  cases d with
  | obj p =>
    obtain ⟨kvs, d', hc, hl, p⟩ := p1
    cases r1
    obtain ⟨lf, vs, m1, m2, m3⟩ := cell_of o.hg (S.stp' s1).stp.ok hc
    obtain ⟨v', hv, rv⟩ := dct_lk (Z := Zl C ex ow g1 2) m2 (flatK (fun _ _ z _ => z) lf m3) hl
    have dg := DGet.k (k := Sum.inr s) m1
    rw [hv] at dg
    exact ⟨_, v', rfl, dg, kk _ _ _ _ H1 p s1 rv⟩
  | _ => exact p1.elim
theorem pe_gsq (o : Cok X C k fs) {f : Sq} {ea : Expr} {wa : Wd G} {p pos : Pos} (hg : Gl X f.nm) (hm : X.mg f.nm = none) (ha : PE X ea (rd C wa)) (hn : nst ea = true) :
    PE X (.Call (.Name f.nm p) [ea] [] pos) (rd C fun es g Q => wa es g fun d _ g1 => hS fs (.gsq f) [d] g1 Q) := by
  have hc := o.calm
  have pa : PA X [ea] (tCons (rd C wa) tNil) := pa_cons ha pa_nil (star_cons hn)
  have h : PE X (.Call (.Name f.nm p) [ea] [] pos) (tCB (rSq X.K f) (tCons (rd C wa) tNil)) := by
    cases f with
    | len => exact pe_callB call_len_seq hg hm (by decide +kernel) pa (by decide) (by decide) (star_cons hn) rfl
    | sum => exact pe_callB (cr_sum hc) hg hm (by decide +kernel) pa (by decide) (by decide) (star_cons hn) rfl
    | all => exact pe_callB (cr_all hc) hg hm (by decide +kernel) pa (by decide) (by decide) (star_cons hn) rfl
    | any => exact pe_callB (cr_any hc) hg hm (by decide +kernel) pa (by decide) (by decide) (star_cons hn) rfl
    | max => exact pe_callB (cr_max hc) hg hm (by decide +kernel) pa (by decide) (by decide) (star_cons hn) rfl
    | min => exact pe_callB (cr_min hc) hg hm (by decide +kernel) pa (by decide) (by decide) (star_cons hn) rfl
    | tuple => exact pe_callTy call_tuple_of hg hm (by decide +kernel) pa (by decide) (by decide) (star_cons hn) rfl
    | list => exact pe_callTy call_list_of hg hm (by decide +kernel) pa (by decide) (by decide) (star_cons hn) rfl
  refine h.wk fun σ H Q q => ?_
  obtain ⟨pins, ex, ow, es, g, P, S, hw, k⟩ := q
  rw [o.hK]
  refine ⟨pins, ex, ow, es, g, _, S, hw, fun d0 l1 g1 v H1 p1 s1 r1 => ?_⟩
  obtain ⟨a, rfl⟩ : ∃ a, d0 = .obj a := by
    cases d0 <;> first | exact ⟨_, rfl⟩ | exact p1.elim
  obtain ⟨ds, hcell, p1⟩ := p1
  cases r1
  have S1 := S.stp' s1
  obtain ⟨_, xs, m1, m2⟩ := cell_lst o.hg S1.stp.ok hcell
  have hL : SqL C.K H1 a xs := SqL.of m1
  have ra := m2 (Zl C ex ow g1 2)
  have scal : ∀ {d : D} {v : V}, (∀ {K : PySem.W.Frag} {H : Hp} {Z : Addr → Prop}, Rp K H Z d v) → P d 2 g1 → Q v H1 := fun hd p => k _ _ _ _ H1 p s1 hd
  cases f with
  | len => exact ⟨a, xs, rfl, .inl hL, scal (.int _) (by rw [← ra.len]; exact p1)⟩
  | sum =>
    obtain ⟨ns, rfl, p⟩ := p1
    rw [ra.ints] at hL
    exact ⟨a, ns, rfl, hL, scal (.int _) p⟩
  | all =>
    obtain ⟨ns, rfl, p⟩ := p1
    rw [ra.bls] at hL
    exact ⟨a, ns, rfl, hL, scal (.bl _) p⟩
  | any =>
    obtain ⟨ns, rfl, p⟩ := p1
    rw [ra.bls] at hL
    exact ⟨a, ns, rfl, hL, scal (.bl _) p⟩
  | max =>
    obtain ⟨ns, rfl, n0, p⟩ := p1
    rw [ra.ints] at hL
    exact ⟨a, ns, rfl, hL, n0, fun m h1 h2 => scal (.int _) (p m h1 h2)⟩
  | min =>
    obtain ⟨ns, rfl, n0, p⟩ := p1
    rw [ra.ints] at hL
    exact ⟨a, ns, rfl, hL, n0, fun m h1 h2 => scal (.int _) (p m h1 h2)⟩
  | tuple => exact ⟨a, xs, rfl, .inl ⟨hL, fun q hq => k _ _ _ _ _ p1 (s1.then (Same.new hq)) (S1.newT hq ra)⟩⟩
  | list => exact ⟨a, xs, rfl, .inl hL, fun q hq => k _ _ _ _ _ p1 (s1.then (Same.new hq)) (S1.newL hq ra)⟩
theorem pe_glistN (o : Cok X C k fs) {ea : Expr} {wa : Wd G} {p pos : Pos} (hg : Gl X "list") (hm : X.mg "list" = none) (ha : PE X ea (rd C wa)) (hn : nst ea = true) :
    PE X (.Call (.Name "list" p) [ea] [] pos) (rdN C fun es g Q => wa es g fun d _ g1 => hS fs (.gsq .list) [d] g1 Q) := by
  refine (pe_callTy call_list_of hg hm (by decide +kernel) (pa_cons ha pa_nil (star_cons hn)) (by decide) (by decide) (star_cons hn) rfl).wk fun σ H Q q => ?_
  obtain ⟨pins, ex, ow, es, g, P, S, hw, k⟩ := q
  rw [o.hK]
  refine ⟨pins, ex, ow, es, g, _, S, hw, fun d0 l1 g1 v H1 p1 s1 r1 => ?_⟩
  obtain ⟨a, rfl⟩ : ∃ a, d0 = .obj a := by
    cases d0 <;> first | exact ⟨_, rfl⟩ | exact p1.elim
  obtain ⟨ds, hcell, p1⟩ := p1
  cases r1
  have S1 := S.stp' s1
  obtain ⟨_, xs, m1, m2⟩ := cell_lst o.hg S1.stp.ok hcell
  exact ⟨a, xs, rfl, .inl (SqL.of m1), fun q hq => k _ _ _ q xs _ p1 (s1.then (Same.new hq)) (s1.kp.fresh hq) (S1.nofp hq) upd_same ((m2 (Zl C ex ow g1 2)).atNew hq)⟩
theorem hk_gsq (o : Cok X C k fs) (hs : X.env.scope = sc) {f : Sq} {as : CA} {es : List Expr} (h : hkE k (.gsq f) sc e = some es) (ha : HoldA X C fs as es) : PE X e (rd C fun en g Q => wA fs as en g fun ds _ g1 => hS fs (.gsq f) ds g1 Q) := by
  unfold hkE at h
  split at h <;> first | contradiction | skip
  rename_i hh
  cases hh
  obtain ⟨h1, rfl⟩ := if_some h
  obtain ⟨h1, h2⟩ := b2 h1
  obtain ⟨rfl, h3, h4⟩ := blt_ok o hs h1
  obtain ⟨ca, rfl, pa, _⟩ := hold1 ha
  exact pe_gsq o h3 h4 pa h2
theorem hk_glo (o : Cok X C k fs) (hs : X.env.scope = sc) {x : Str} {n : Int} {as : CA} {es : List Expr} (h : hkE k (.glo x n) sc e = some es) (ha : HoldA X C fs as es) : PE X e (rd C fun en g Q => wA fs as en g fun ds _ g1 => hS fs (.glo x n) ds g1 Q) := by
  unfold hkE at h
  split at h <;> first | contradiction | skip
  rename_i hh
  cases hh
  obtain ⟨h1, rfl⟩ := if_some h
  obtain ⟨h1, h2⟩ := b2 h1
  obtain ⟨h2, h3⟩ := b2 h2
  obtain ⟨h3, h4⟩ := b2 h3
  have e1 := of_decide_eq_true h1
  subst e1
  obtain ⟨u, hu, ru⟩ := o.gi _ _ (of_decide_eq_true h4)
  cases as with
  | cons a r => exact ha.elim
  | nil =>
    refine (pe_glob (v := .int n) (gl_ok hs h2) hu ru (dbg_ok h3).1).wk fun σ H Q q => ?_
    obtain ⟨pins, ex, ow, en, g, P, S, hw, kk⟩ := q
    exact kk _ _ _ _ H hw (.refl S.stp.ok) (.int n)
theorem hk_pow (o : Cok X C k fs) {as : CA} {es : List Expr} (h : hkE k .pow sc e = some es) (ha : HoldA X C fs as es) : PE X e (rd C fun en g Q => wA fs as en g fun ds _ g1 => hS fs .pow ds g1 Q) := by
  unfold hkE at h
  split at h <;> first | contradiction | skip
  cases h
  obtain ⟨ca, cb, rfl, pa, pb⟩ := hold2 ha
  refine (pe_op op_pow pa pb).wk fun σ H Q q => ?_
  obtain ⟨pins, ex, ow, en, g, P, S, hw, kk⟩ := q
  refine ⟨pins, ex, ow, en, g, _, S, hw, fun d l g1 v H1 p1 s1 r1 => ⟨pins, ex, ow, en, g1, _, S.stp' s1, p1, fun d2 l2 g2 v2 H2 p2 s2 r2 => ?_⟩⟩
  cases d with
  | int i =>
    cases d2 with
    | int j =>
      cases r1
      cases r2
      exact ⟨i, j, rfl, rfl, p2.1, kk _ _ _ _ H2 p2.2 (s1.trans s2) (.int _)⟩
    | _ => exact p2.elim
  | _ => exact p2.elim
theorem pps_of : ∀ {as : CA} {ks : List Str} {es : List (Option Expr)} {vs : List Expr} {pos : Pos}, strKs ks es = true → es.length = vs.length → HoldA X C fs as vs → ∃ trs, PPs X pos es vs trs ∧
    ∀ {pins : List Pin} {ex : List Addr} {ow : Nat → List Addr} {en : VL.Env} {σ : L2.St} {g : G} {H : Hp} {P : List D → Nat → G → Prop} {Q : List (V × V) → Hp → Prop}, SR C pins ex ow en σ g H → wA fs as en g P →
      (∀ ds l g' ws H', P ds l g' → Stp C.gh g H g' H' → RpA C.K H' (Zl C ex ow g' l) ds ws → ds.length = ks.length → Q ((ks.zip ws).map fun z => (.str z.1, z.2)) H') → tPairs trs σ H Q
  | .nil, [], [], [], pos, _, _, _ => ⟨[], pps_nil, fun {pins ex ow en σ g H P Q} S hw kk => kk _ _ _ [] H hw (.refl S.stp.ok) .nil rfl⟩
  | _, [], _ :: _, _, _, h, _, _ => by simp [strKs] at h
  | _, _ :: _, [], _, _, h, _, _ => by simp [strKs] at h
  | .cons _ _, [], [], [], _, _, _, h => h.elim
  | _, [], [], _ :: _, _, _, h, _ => by simp at h
  | _, _ :: _, _ :: _, [], _, _, h, _ => by simp at h
  | .nil, _ :: _, _ :: _, _ :: _, _, _, _, h => h.elim
  | .cons a r, s :: ks, e :: es, v :: vs, pos, h, hl, ⟨h1, h2, h3⟩ => by
    obtain ⟨q1, q2⟩ := b2 h
    obtain ⟨trs, i1, i2⟩ := pps_of (pos := pos) q2 (by simpa using hl) h3
    obtain ⟨j, p, rfl⟩ : ∃ j p, e = some (.Constant (.str s) j p) := by
      unfold strK at q1
      split at q1
      · have z := of_decide_eq_true q1
        subst z
        exact ⟨_, _, rfl⟩
      · cases q1
    refine ⟨(tC (.str s), rd C (wE fs a)) :: trs, pps_cons pe_str h1 i1, fun {pins ex ow en σ g H P Q} S hw kk => ?_⟩
    show rd C (wE fs a) σ H _
    refine ⟨pins, ex, ow, en, g, _, S, hw, fun d l g1 x H1 p1 s1 r1 => ?_⟩
    refine i2 (S.stp' s1) p1 fun ds l2 g2 ws H2 p2 s2 r2 hl2 => ?_
    exact kk _ _ _ (x :: ws) H2 p2 (s1.trans s2) (.cons ((r1.stp s2).low (Nat.min_le_left _ _)) (r2.low (Nat.min_le_right _ _))) (by simp [hl2])
theorem keys_any : ∀ {ks : List Str} {s : Str} {ws : List V}, s ∉ ks → ((ks.zip ws).map fun z => ((Sum.inr z.1 : Key), z.2)).any (fun kv => decide (kv.1 = Sum.inr s)) = false
  | [], _, _, _ => rfl
  | _ :: _, _, [], _ => rfl
  | k :: ks, s, w :: ws, h => by
    have h1 : k ≠ s := fun z => h (by rw [z]; exact List.mem_cons_self)
    have h2 := keys_any (ks := ks) (s := s) (ws := ws) fun z => h (List.mem_cons_of_mem _ z)
    simp only [List.zip_cons_cons, List.map_cons, List.any_cons, h2, Bool.or_false]
    exact decide_eq_false fun z => h1 (Sum.inr.inj z)
theorem merge_new : ∀ {more kvs : List (Key × V)}, (∀ m ∈ more, ∀ x ∈ kvs, x.1 ≠ m.1) → (more.map (·.1)).Nodup → mergeK kvs more = kvs ++ more
  | [], kvs, _, _ => by simp [mergeK]
  | m :: more, kvs, h, n => by
    have hn : (kvs.any fun kv => decide (kv.1 = m.1)) = false := by
      rw [List.any_eq_false]
      intro x hx
      simpa using h m List.mem_cons_self x hx
    have e : putK kvs m.1 m.2 = kvs ++ [m] := by
      unfold putK
      rw [hn]
      rfl
    show mergeK (putK kvs m.1 m.2) more = _
    rw [e]
    rw [List.map_cons, List.nodup_cons] at n
    rw [merge_new (fun q hq x hx => ?_) n.2, List.append_assoc]
    · rfl
    · rcases List.mem_append.mp hx with z | z
      · exact h q (List.mem_cons_of_mem _ hq) x z
      · rw [List.mem_singleton] at z
        subst z
        exact fun z => n.1 (by rw [z]; exact List.mem_map_of_mem hq)
theorem zip_k {α : Type} : ∀ {ks : List Str} {ws : List α}, ks.length = ws.length → (ks.zip ws).map (·.1) = ks ∧ (ks.zip ws).map (·.2) = ws
  | [], [], _ => ⟨rfl, rfl⟩
  | [], _ :: _, h => by simp at h
  | _ :: _, [], h => by simp at h
  | k :: ks, w :: ws, h => by
    obtain ⟨h1, h2⟩ := zip_k (ks := ks) (ws := ws) (by simpa using h)
    simp [h1, h2]
theorem stp_fill {mg : Str → Option Value} {g g1 : G} {H H1 : Hp} {p : Addr} {u u0 : HO} {c : Cell} (hg : C.gh = ghK C.K mg) (s : Stp C.gh g H g1 H1) (hp : H p = none) (m : H1 p = some u0) (ni : ¬ Imm u0) (h : CellOk C.K mg (upd H1 p u) p c) : Stp C.gh g H (g1.put p c) (upd H1 p u) := by
  rw [hg] at s ⊢
  refine ⟨⟨fun b q e i => ?_, fun b e => ?_⟩, fun b c' e => ?_, fun b e => ?_⟩
  · rw [upd_ne (ne_of_none e hp)]
    exact s.kp.keep b q e i
  · by_cases q : b = p
    · rw [q, upd_same]
      intro z
      cases z
    · rw [upd_ne q]
      exact s.kp.dom b e
  · by_cases q : b = p
    · subst q
      rw [G.put_at] at e
      cases e
      exact h
    · rw [G.put_ne q] at e
      refine (s.ok b c' e).to (fun d v e1 i => ?_) fun v e1 => ?_
      · have nd : d ≠ p := fun z => by
          subst z
          rw [m] at e1
          cases e1
          exact ni i
        rw [upd_ne nd]
        exact e1
      · rw [upd_ne q]
        exact e1
  · by_cases q : b = p
    · subst q
      exact .inr hp
    · have z : (g1.put p c) b ≠ none := e
      rw [G.put_ne q] at z
      exact s.fp b z
theorem hk_dsp (o : Cok X C k fs) {ks : List Str} {as : CA} {es : List Expr} (h : hkE k (.dsp ks) sc e = some es) (ha : HoldA X C fs as es) : PE X e (rd C fun en g Q => wA fs as en g fun ds _ g1 => hS fs (.dsp ks) ds g1 Q) := by
  unfold hkE at h
  split at h <;> first | contradiction | skip
  rename_i hh
  cases hh
  obtain ⟨h1, rfl⟩ := if_some h
  obtain ⟨h1, h2⟩ := b2 h1
  obtain ⟨h2, h3⟩ := b2 h2
  obtain ⟨h3, h4⟩ := b2 h3
  obtain ⟨h4, h5⟩ := b2 h4
  have nd := of_decide_eq_true h2
  have l15 := of_decide_eq_true h3
  have hl := of_decide_eq_true h5
  obtain ⟨trs, i1, i2⟩ := pps_of (pos := ‹Pos›) h1 hl ha
  have lk : ∀ {ss : List Str} {ee : List (Option Expr)}, strKs ss ee = true → ss.length = ee.length ∧ ee.all (·.isSome) = true := by
    intro ss
    induction ss with
    | nil => intro ee q; cases ee <;> first | exact ⟨rfl, rfl⟩ | simp [strKs] at q
    | cons s ss ih =>
      intro ee q
      cases ee with
      | nil => simp [strKs] at q
      | cons e ee =>
        obtain ⟨q1, q2⟩ := b2 q
        obtain ⟨j1, j2⟩ := ih q2
        refine ⟨by simp [j1], ?_⟩
        cases e with
        | none => simp [strK] at q1
        | some _ => simpa using j2
  obtain ⟨l1, l2⟩ := lk h1
  have ne : ks ≠ [] := by
    intro z
    rw [z] at h4
    cases h4
  refine (pe_disp i1 l2 hl (fun z => ne (by rw [z] at l1; exact List.eq_nil_of_length_eq_zero l1)) (by rw [← l1]; exact l15)).wk fun σ H Q q => ?_
  obtain ⟨pins, ex, ow, en, g, P, S, hw, kk⟩ := q
  intro p hp
  have hg0 : g p = none := nofp_of o.hg (S.nofp hp)
  have n0 : ∀ {H1 : Hp} {g1 : G}, Stp C.gh g (upd H p (.dK [])) g1 H1 → H1 p = some (.dK []) ∧ g1 p = none := fun {H1 g1} s => by
    refine ⟨s.kp.keep p _ upd_same fun z => absurd z (S.nofp hp), nofp_of o.hg fun z => ?_⟩
    rcases s.fp p z with y | y
    · exact S.nofp hp y
    · rw [upd_same] at y
      cases y
  refine i2 (S.same (Same.new (o := .dK []) hp)) hw fun ds l g1 ws H1 p1 s1 r1 hl1 => ?_
  obtain ⟨m1, m2⟩ := n0 s1
  obtain ⟨c1, c2, c3⟩ := p1
  refine ⟨m1, (ks.zip ws).map (fun z => (Sum.inr z.1, z.2)), by rw [List.map_map]; rfl, by rw [List.length_map, List.length_zip]; omega, ?_⟩
  have lw : ks.length = ws.length := by rw [← hl1, r1.len]
  have em : mergeK [] ((ks.zip ws).map (fun z => ((Sum.inr z.1 : Key), z.2))) = (ks.zip ws).map (fun z => (Sum.inr z.1, z.2)) := by
    rw [merge_new (kvs := []) (fun _ _ x hx => by cases hx), List.nil_append]
    rw [List.map_map]
    have : (ks.zip ws).map ((fun x : Key × V => x.1) ∘ fun z => ((Sum.inr z.1 : Key), z.2)) = ((ks.zip ws).map (·.1)).map Sum.inr := by rw [List.map_map]; rfl
    rw [this, (zip_k lw).1]
    exact List.Pairwise.map _ (fun a b q z => q (Sum.inr.inj z)) nd
  rw [em]
  have sp : Stp C.gh g H g1 H1 := (Stp.of S.stp.ok (Same.new hp)).trans s1
  have cell : CellOk C.K X.mg (upd H1 p (.dK ((ks.zip ws).map (fun z => (Sum.inr z.1, z.2))))) p (.dct (ks.zip ds)) := by
    refine ⟨by rw [(zip_k c1).2]; exact c2, _, upd_same, ?_, ?_⟩
    · rw [List.map_map]
      have e1 : (ks.zip ws).map ((fun x : Key × V => x.1) ∘ fun z => ((Sum.inr z.1 : Key), z.2)) = ((ks.zip ws).map (·.1)).map Sum.inr := by rw [List.map_map]; rfl
      have e2 : (ks.zip ds).map (fun x => (Sum.inr x.1 : Key)) = ((ks.zip ds).map (·.1)).map Sum.inr := by rw [List.map_map]; rfl
      rw [e1, e2, (zip_k lw).1, (zip_k c1).1]
    · rw [List.map_map]
      have e1 : (ks.zip ws).map ((fun x : Key × V => x.2) ∘ fun z => ((Sum.inr z.1 : Key), z.2)) = (ks.zip ws).map (·.2) := rfl
      rw [e1, (zip_k lw).2, (zip_k c1).2]
      refine flatK (fun b u e i => ?_) c2 r1
      have nb : b ≠ p := fun z => by
        subst z
        rw [m1] at e
        cases e
        exact i
      rw [upd_ne nb]
      exact e
  refine kk _ _ _ _ _ (c3 p m2) ?_ (.obj p)
  exact stp_fill o.hg sp hp m1 (fun z => z) cell
end
end VL
/-! Val: set() of a list of ints. -/
namespace VL
open PySem PySem.Spec PyProof.Rows L2

/-- a set at its birth -/
abbrev newS (w : World) : Obj := { cls := .type "set", dict := none, data := .set #[] 0 (.fresh 0 0 (!w.params.followText "set-order")) }
section
variable {P : Program} {w : World} {A : Around} {E : Value → Shared → Prop} {s : Shared}
set_option maxHeartbeats 3200000 in
theorem set_lstI {l : Addr} {its : Array Value} (ns : List Int) {Q : Value → Shared → Prop} (hd : A.handled = none) (hl : s.heap.IsList l its) (hi : IntsAre its.toList ns) (hb : ns.length + 1 < scanBound)
    (k : ∀ (h' : Heap) (tk c : Nat), SetR w h' s.heap.objs.size (fun j => decide (j ∈ ns)) c → c ≤ ns.length → (∀ b o, s.heap.get? b = some o → h'.get? b = some o) → Q (.ref s.heap.objs.size) { s with heap := h', toks := tk }) : wpAny (model P w) A (call (.type "set") [.ref l]) Q E s := by
  have size : its.size = ns.length := by rw [← Array.length_toList]; exact IntsAre.length hi
  obtain ⟨c, tl, m1⟩ := F.called_set.mro
  have m2 := F.called_set.made; have m3 := F.called_set.sub
  refine wpAny_call (codeAny_of_tree ?_)
  show wpAny _ _ (callAny (.type "set") _) _ _ _
  refine wpAny_pure ⟨Code.quiet_builtin _ (by decide +kernel), codeAny_builtin F.entry_type_call ?_⟩
  rw [Around.under_plain (weight_type_call_type "set" [.ref l] []) rfl]
  have m4 := F.called_set.notType; have m5 := F.called_set.canCreate; have m6 := F.typeCall_set_1 (.ref l)
  repeat (any_goals (first | assumption | wp_step))
  refine codeAny_mono (code_set_led1 (.ref l) (E := E) (Q₁ := fun u t => u = .ref s.heap.objs.size ∧ t = { s with heap := s.heap.push (newS w) }) ⟨rfl, rfl⟩) fun r t hr => ?_
  rcases r with e | fl
  · exact hr
  cases fl with
  | ret u =>
    obtain ⟨rfl, rfl⟩ := hr
    have at1 : (s.heap.push (newS w)).get? s.heap.objs.size = some (newS w) := Heap.get?_push_size _ rfl
    have ty : Shared.TypeIs { s with heap := s.heap.push (newS w) } (.ref s.heap.objs.size) "set" := ⟨_, at1, rfl⟩
    have m7 := F.called_set.init.lookup; have m8 := F.called_set.init.bind (.ref s.heap.objs.size)
    repeat (any_goals (first | assumption | wp_step))
    refine codeAny_mono (codeAny_call_builtin (R := wants (fun r t => r = .none ∧ ∃ h' tk c, t = { s with heap := h', toks := tk } ∧ SetR w h' s.heap.objs.size (fun j => decide (j ∈ ns)) c ∧ c ≤ ns.length ∧ (∀ b o, s.heap.get? b = some o → h'.get? b = some o)) E)
      F.called_set.init.plain F.entry_set_init (check_set_init_1 ty ?_)) fun r2 t2 hr2 => ?_
    · obtain ⟨⟨oc, od, oda, osl⟩, hol, hcl, nl, hdl⟩ := hl
      simp only at hcl hdl; subst hcl; subst hdl
      have at2 : (s.heap.push (newS w)).get? l = some { cls := .type "list", dict := od, data := .seq its nl, slots := osl } := Heap.get?_push_of_some _ hol
      have m9 := F.sub_list_set; have m10 := F.sub_list_frozenset
      have m11 : (Value.type "list" == Value.type "dict") = false := by decide
      have il : (s.heap.push (newS w)).IsList l its := ⟨_, at2, rfl, nl, rfl⟩
      unfold Builtin.«set.__init__» noKeywords Builtin.Frozenset.updateFrom
      generalize hPI : pyIter = PI; wp_walk; subst hPI
      refine wpAny_pyIter_list il ?_
      refine wpAny_bind (wpAny_runValue ?_)
      have lt : l < s.heap.objs.size := Heap.lt_size hol
      have h3 : A.in1.in1.in1.handled = none := by simp [hd]
      have ne1 : l ≠ (s.heap.push (newS w)).objs.size := by rw [Heap.size_push]; exact Nat.ne_of_lt (Nat.lt_succ_of_lt lt)
      have ne2 : s.heap.objs.size ∉ [(s.heap.push (newS w)).objs.size, l] := by
        rw [Heap.size_push]; intro z
        rcases List.mem_cons.mp z with z | z
        · exact absurd z (Nat.ne_of_lt (Nat.lt_succ_self _))
        · rw [List.mem_singleton] at z; exact absurd z.symm (Nat.ne_of_lt lt)
      have hv : ∀ (i : Nat) (v : Value), its[i]? = some v → ∃ k t, ns[i]? = some k ∧ v = .int k t := fun i v hv => by
        have q : i < ns.length := by rw [← size]; exact (Array.getElem?_eq_some_iff.mp hv).1
        obtain ⟨t, e⟩ := PyProof.Rows.IntsAre.int_at hi i v (by rw [Array.getElem?_toList]; exact hv)
        exact ⟨ns[i], t, List.getElem?_eq_getElem q, by rw [e, List.getD_eq_getElem?_getD, List.getElem?_eq_getElem q] <;> rfl⟩
      refine set_update_ints ((Walks.list h3 _ l ne1 its).toS) s.heap.objs.size ne2 ns size hb hv (its.size - 0) 0 _ (by omega) (Nat.zero_le _) ⟨⟨_, Heap.get?_push_size _ rfl, rfl, rfl⟩, (il.push _)⟩ ?h0 ?hR
      case h0 => exact ⟨0, Nat.le_refl 0, setR_new_at (Heap.get?_push_of_some _ at1)⟩
      case hR =>
        rintro ⟨h', g2, d', tk', os'⟩ c' hm hc' hS'
        have e1 : g2 = s.gens := hm.gens; have e2 : d' = s.drawn := hm.drawn; have e3 : os' = s.os := hm.os
        subst e1; subst e2; subst e3
        show wpAny _ _ _ _ _ _; refine wpAny_pure ?_
        show wpAny _ _ (ret Value.none) _ _ _; rw [size] at hc'
        refine wpAny_pure ⟨rfl, h', tk', c', rfl, hS', hc', fun b o e => ?_⟩
        have b0 : b < s.heap.objs.size := Heap.lt_size e
        refine hm.heap b o (fun z => ?_) (Heap.get?_push_of_some _ (Heap.get?_push_of_some _ e))
        rcases List.mem_cons.mp z with z | z
        · exact absurd z (Nat.ne_of_lt b0)
        · rw [List.mem_singleton, Heap.size_push] at z; exact absurd z (Nat.ne_of_lt (Nat.lt_succ_of_lt b0))
    · rcases r2 with e | fl2
      · exact hr2
      cases fl2 with
      | ret r =>
        obtain ⟨rfl, h', tk, c', rfl, hS', hc', hk'⟩ := hr2
        repeat (any_goals (first | assumption | wp_step))
        exact k _ _ _ hS' hc' hk'
      | _ => exact hr2.elim
  | _ => exact hr.elim
end
section
variable {X : Cx}
/-- set(l), l a list of ints -/
def rSetOfL (w : World) (K : PySem.W.Frag) : List V → Hp → VK → Prop := fun vs H Q => ∃ (p : Addr) (ns : List Int), vs = [.ref p] ∧ SqL K H p (ns.map V.int) ∧ ns.length ≤ 1000 ∧ ∀ a c, H a = none → c ≤ ns.length → Q (.ref a) (upd H a (SetO w a (fun j => decide (j ∈ ns)) c))
theorem cr_setOfL (hc : X.calm = true) : CallR X (.type "set") (rSetOfL X.w X.K) := by
  intro pins s σ H vs us Q I r h
  obtain ⟨p, ns, rfl, hq, hl, q⟩ := h
  obtain ⟨its, rv, ⟨o, n, ho, hcl, _, hda⟩, hz⟩ := I.list hq
  rw [Vals.ref1 r]
  have hi : IntsAre its.toArray.toList ns := ints_of_vals rv
  refine set_lstI ns (I.ok.hd hc) (show s.heap.IsList p its.toArray from ⟨o, ho, hcl, n, hda⟩) hi (by unfold scanBound; omega) fun h' tk c R hcn k => ?_
  have fr : H s.heap.objs.size = none := I.hok.fresh (Nat.le_refl _)
  exact ⟨.ref _, _, I.laid (t' := tk) k (Nat.le_refl _) (setO_new R), rfl, q _ c fr hcn⟩
end
end VL
/-! Val: classes that are made, methods that are called. -/
namespace VL
open PySem PySem.Spec PyProof.Rows L2

section
variable {C : Vc G} {k : Ck} {fs : List (Nat × WF G)} {X : Cx} {sc : Scope} {e : Expr} {pins : List Pin} {ex : List Addr} {ow : Nat → List Addr} {es : VL.Env} {σ : L2.St} {g g' g1 g2 : G} {H H' H1 H2 : Hp}
theorem call_back (S1 : SR C pins ex ow es σ g1 H1) {m l : Nat} {a : Addr} (z : Zl C ex ow g2 (if 2 ≤ l then 2 else m) a) : C.gh.fp g2 a ∨ (H1 a ≠ none ∧ (2 ≤ l ∨ Zl C ex ow g1 m a)) := by
  by_cases h2 : 2 ≤ l
  · rw [if_pos h2] at z
    rcases z with z | z | ⟨z, i, y⟩ | ⟨z, y⟩
    · exact .inl z
    · exact .inr ⟨(S1.exs a z).1, .inl h2⟩
    · exact .inr ⟨(S1.own i a y).1, .inl h2⟩
    · exact .inr ⟨S1.stp.kp.dom a z, .inl h2⟩
  · rw [if_neg h2] at z
    rcases z with z | z | ⟨z, i, y⟩ | ⟨z, y⟩
    · exact .inl z
    · exact .inr ⟨(S1.exs a z).1, .inr (.inr (.inl z))⟩
    · exact .inr ⟨(S1.own i a y).1, .inr (.inr (.inr (.inl ⟨z, i, y⟩)))⟩
    · exact .inr ⟨S1.stp.kp.dom a z, .inr (.inr (.inr (.inr ⟨z, y⟩)))⟩
theorem lk_none : ∀ {fs : List (Str × D)} {vs : List (Str × V)} {x : Str}, vs.map (·.1) = fs.map (·.1) → fs.lookup x = none → vs.lookup x = none
  | [], [], _, _, _ => rfl
  | [], _ :: _, _, q, _ => by cases q
  | _ :: _, [], _, q, _ => by cases q
  | (y, d) :: fs, (z, v) :: vs, x, q, h => by
    simp only [List.map_cons, List.cons.injEq] at q
    obtain ⟨rfl, q⟩ := q
    cases hb : (x == z) with
    | true =>
      simp only [List.lookup, hb] at h
      cases h
    | false =>
      simp only [List.lookup, hb] at h ⊢
      exact lk_none q h
theorem hk_mk (o : Cok X C k fs) (hs : X.env.scope = sc) {i : Nat} {c : Str} {as : CA} {es : List Expr} (h : hkE k (.mk i c) sc e = some es) (ha : HoldA X C fs as es) : PE X e (rd C fun en g Q => wA fs as en g fun ds _ g1 => hS fs (.mk i c) ds g1 Q) := by
  unfold hkE at h
  split at h <;> first | contradiction | skip
  rename_i hh
  cases hh
  have h1 := (if_some h).1
  have he := (if_some h).2.symm
  subst he
  rcases es with _ | ⟨e1, es1⟩
  · simp at h1
  obtain ⟨h1, h2⟩ := b2 h1
  obtain ⟨h2, h3⟩ := b2 h2
  obtain ⟨h3, h4⟩ := b2 h3
  obtain ⟨h4, h5⟩ := b2 h4
  obtain ⟨h5, h6⟩ := b2 h5
  have ec := of_decide_eq_true h2
  subst ec
  have hn := of_decide_eq_true h1
  have hl : i < fs.length := by
    rw [o.len]
    exact (List.getElem?_eq_some_iff.mp hn).1
  obtain ⟨⟨n, w⟩, hf⟩ : ∃ z, fs[i]? = some z := ⟨_, List.getElem?_eq_getElem hl⟩
  obtain ⟨kk0, f, Cl, fd, ps, F, hr, hm, M, hb⟩ := o.fns i _ n w hn hf
  have hn2 : nst e1 = true ∧ es1.all nst = true := by simpa using h5
  refine (pe_make M F hr (gl_ok hs h3) hm hb .nil passL (holdA_pa ha) (dbg_ok h4).1 (star_cons hn2.1) (star_none hn2.2)).wk fun σ H Q q => ?_
  obtain ⟨pins, ex, ow, en, g, P, S, hw, kk⟩ := q
  refine ⟨pins, ex, ow, en, g, _, S, hw, fun ds m g1 vs H1 p1 s1 r1 => fun x dx hx hdx ne => ?_⟩
  obtain ⟨n', w', hf', hl', lf, p1⟩ := p1
  rw [hf] at hf'
  cases hf'
  have S1 := S.stp' s1
  have st1 : Stp C.gh g1 H1 g1 (upd H1 dx (.own x)) := .of S1.stp.ok (Same.new hdx)
  have st2 := stp_put (a := x) (c := .ins c dx []) (u := .ins Cl dx []) o.hg st1.ok (.inr (by rw [upd_ne (Ne.symm ne)]; exact hx)) ⟨rfl, Cl, [], hm, upd_same, rfl, .nil⟩
  have st := st1.trans st2
  refine ⟨?_, .obj x :: ds, g1.put x (.ins c dx []), C.gh.fp (g1.put x (.ins c dx [])), _, fun a z => z, st.ok, .cons (.obj x) ?_, p1 x dx (nofp_of o.hg (S1.nofp hx)) (nofp_of o.hg (S1.nofp hdx)) ne, fun d l g' v H' p s' r => ?_⟩
  · rw [List.append_nil, List.length_cons, ← r1.len]
    exact hl'
  · rw [List.append_nil]
    exact flatK (fun a u e i => st.kp.keep a u e fun _ => i) lf r1
  · obtain ⟨rfl, p⟩ := p
    cases r
    exact ⟨rfl, kk _ _ _ _ H' p ((s1.trans st).trans s') (.obj x)⟩
theorem call_dmW (hc : X.calm = true) : CallR X (.builtin "divmod") (fun xs H Q => ∃ i j, xs = [.int i, .int j] ∧ DivOk j ∧ ∀ p, H p = none → Q (.ref p) (upd H p (.tup [.int (i.fdiv j), .int (i.fmod j)]))) := fun pins s σ H xs us Q I r h => by
  obtain ⟨i, j, rfl, d, q⟩ := h
  obtain ⟨u, u', rfl, ⟨t, rfl⟩, ⟨t', rfl⟩⟩ := vals2 r
  refine divmod_int d.1 ?_ (.inl (PyProof.noPylong_of_log2 d.2))
  have fr : H s.heap.objs.size = none := I.hok.fresh (Nat.le_refl _)
  have lay := I.laid (a := s.heap.objs.size) (o := .tup [.int (i.fdiv j), .int (i.fmod j)]) (h' := s.heap.push { cls := .type "tuple", data := .seq #[.int (i.fdiv j) s.toks, .int (i.fmod j) (s.toks + 1)] }) (t' := s.toks + 1 + 1) (fun b o e => Heap.get?_push_of_some _ e) (Nat.le_refl _)
    ⟨by show 2 ≤ sizeLine; decide, [.int (i.fdiv j) s.toks, .int (i.fmod j) (s.toks + 1)], .cons ⟨_, rfl⟩ (.cons ⟨_, rfl⟩ .nil), ⟨_, Heap.get?_push_size s.heap rfl, rfl, 0, rfl⟩⟩
  exact ⟨.ref s.heap.objs.size, _, lay, rfl, q _ fr⟩
theorem hk_dmod (o : Cok X C k fs) (hs : X.env.scope = sc) {as : CA} {es : List Expr} (h : hkE k .dmod sc e = some es) (ha : HoldA X C fs as es) : PE X e (rd C fun en g Q => wA fs as en g fun ds _ g1 => hS fs .dmod ds g1 Q) := by
  unfold hkE at h
  split at h <;> first | contradiction | skip
  obtain ⟨h1, rfl⟩ := if_some h
  obtain ⟨h1, h2⟩ := b2 h1
  obtain ⟨h2, h3⟩ := b2 h2
  obtain ⟨rfl, h4, h5⟩ := blt_ok o hs h1
  obtain ⟨ca, cb, rfl, pa, pb⟩ := hold2 ha
  have pA := holdA_pa (X := X) (C := C) (fs := fs) ha
  refine (pe_callB (call_dmW o.calm) h4 h5 (by decide +kernel) pA (by decide) (by decide) (star_cons h2) (star_none (by simp [h3]))).wk fun σ H Q q => ?_
  obtain ⟨pins, ex, ow, en, g, P, S, hw, kk⟩ := q
  refine ⟨pins, ex, ow, en, g, _, S, hw, fun ds l g1 vs H1 p1 s1 r1 => ?_⟩
  have S1 := S.stp' s1
  obtain ⟨i, j, rfl⟩ : ∃ i j, ds = [.int i, .int j] := by
    rcases ds with _ | ⟨d1, _ | ⟨d2, _ | ⟨d3, r⟩⟩⟩ <;> first | exact p1.elim | skip
    · cases d1 <;> exact p1.elim
    · cases d1 <;> first | (cases d2 <;> first | exact ⟨_, _, rfl⟩ | exact p1.elim) | exact p1.elim
    · cases d1 <;> first | (cases d2 <;> exact p1.elim) | exact p1.elim
  obtain ⟨d, p⟩ := p1
  have ev := RpA.ints (ns := [i, j]) r1
  refine ⟨i, j, ev, d, fun q hq => kk _ _ _ _ _ p (s1.then (Same.new hq)) (S1.newT hq (RpA.of_ints [i.fdiv j, i.fmod j]))⟩
theorem hk_sset (o : Cok X C k fs) (hs : X.env.scope = sc) {as : CA} {es : List Expr} (h : hkE k .sset sc e = some es) (ha : HoldA X C fs as es) : PE X e (rd C fun en g Q => wA fs as en g fun ds _ g1 => hS fs .sset ds g1 Q) := by
  unfold hkE at h
  split at h <;> first | contradiction | skip
  obtain ⟨h1, rfl⟩ := if_some h
  obtain ⟨h1, h2⟩ := b2 h1
  obtain ⟨h2, h3⟩ := b2 h2
  obtain ⟨rfl, h4, h5⟩ := blt_ok o hs h1
  obtain ⟨rfl, h6, h7⟩ := blt_ok o hs h2
  have pA := holdA_pa (X := X) (C := C) (fs := fs) ha
  have pI := fun (p1 p2 : Pos) => pe_callTy (p := p1) (pos := p2) (cr_setOfL (X := X) o.calm) h6 h7 (by decide +kernel) pA (by decide) (by decide) (star_cons h3) (star_none (by simp))
  refine (pe_callB (cr_sortedSet o.calm) h4 h5 (by decide +kernel) (pa_cons (pI _ _) pa_nil (star_cons rfl)) (by decide) (by decide) (star_cons rfl) (star_none (by simp))).wk fun σ H Q q => ?_
  obtain ⟨pins, ex, ow, en, g, P, S, hw, kk⟩ := q
  refine ⟨pins, ex, ow, en, g, _, S, hw, fun ds l g1 vs H1 p1 s1 r1 => ?_⟩
  have S1 := S.stp' s1
  obtain ⟨xs, rfl⟩ : ∃ xs, ds = [.lst xs] := by
    rcases ds with _ | ⟨d1, _ | ⟨d2, r⟩⟩ <;> first | exact p1.elim | skip
    · cases d1 <;> first | exact ⟨_, rfl⟩ | exact p1.elim
    · cases d1 <;> exact p1.elim
  obtain ⟨ns, rfl, hl, p⟩ := p1
  cases r1 with
  | cons ra rb =>
    cases rb
    cases ra with
    | lst hL rL =>
      have e := rL.ints
      subst e
      rw [o.hK]
      refine ⟨_, ns, rfl, hL.sq, by omega, fun q c hq hc => ⟨q, _, c, rfl, upd_same, by omega, fun out p' hs' hm hlen hp' => ?_⟩⟩
      have st : Stp C.gh g H g1 (upd (upd H1 q (SetO X.w q (fun j => decide (j ∈ ns)) c)) p' (.lst (out.map V.int))) := (s1.then (Same.new hq)).then (Same.new hp')
      have S2 := S1.same (Same.new (o := SetO X.w q (fun j => decide (j ∈ ns)) c) hq)
      exact kk _ _ _ _ _ (p out hs' fun k => by rw [hm k, decide_eq_true_eq]) st (S2.newL hp' (RpA.of_ints out))
theorem kd_of (o : Cok X C k fs) {i : Nat} {x : Str} {kvs : List (Str × D)} (h : kdB k i x kvs = true) : KdAt X kvs x := by
  unfold kdB at h
  split at h
  · rename_i y l e
    obtain ⟨h1, h2⟩ := b2 h
    have e1 := of_decide_eq_true h1
    subst e1
    rw [kvB_eq h2]
    exact o.kd i _ _ e
  · cases h
theorem hk_kix (o : Cok X C k fs) (hs : X.env.scope = sc) {i : Nat} {x : Str} {kvs : List (Str × D)} {as : CA} {es : List Expr} (h : hkE k (.kix i x kvs) sc e = some es) (ha : HoldA X C fs as es) : PE X e (rd C fun en g Q => wA fs as en g fun ds _ g1 => hS fs (.kix i x kvs) ds g1 Q) := by
  unfold hkE at h
  split at h <;> first | contradiction | skip
  rename_i hh
  cases hh
  obtain ⟨h1, rfl⟩ := if_some h
  obtain ⟨h1, h2⟩ := b2 h1
  obtain ⟨h2, h3⟩ := b2 h2
  obtain ⟨h3, h4⟩ := b2 h3
  obtain ⟨h4, h5⟩ := b2 h4
  have e1 := of_decide_eq_true h1
  subst e1
  obtain ⟨p, des, n, m1, m2, m4⟩ := kd_of o h5
  obtain ⟨ca, rfl, pa, _⟩ := hold1 ha
  refine (pe_ix ix_kdict (pe_glob (v := .ref p) (gl_ok hs h2) m1 rfl (dbg_ok h3).1) pa (plainIx h4)).wk fun σ H Q q => ?_
  obtain ⟨pins, ex, ow, en, g, P, S, hw, kk⟩ := q
  refine ⟨pins, ex, ow, en, g, _, S, hw, fun d l g1 v H1 p1 s1 r1 => ?_⟩
  cases d with
  | str s =>
    obtain ⟨d, hl, p1⟩ := p1
    cases r1
    obtain ⟨r, q1, ⟨q2, _⟩ | ⟨d', u, v, q2, q3, q4, q5⟩⟩ := m4 s
    · rw [hl] at q2
      cases q2
    · rw [hl] at q2
      cases q2
      subst q3
      refine ⟨p, s, v, rfl, rfl, ⟨des, n, u, m2.at_, m2.lit, q1, q4⟩, kk _ _ _ _ H1 p1 s1 ?_⟩
      rw [← o.hK]
      exact q5 _ _
  | _ => exact p1.elim
theorem hk_kin (o : Cok X C k fs) (hs : X.env.scope = sc) {i : Nat} {x : Str} {kvs : List (Str × D)} {neg : Bool} {as : CA} {es : List Expr} (h : hkE k (.kin i x kvs neg) sc e = some es) (ha : HoldA X C fs as es) : Snd X C fs (.ext (.kin i x kvs neg) as) e := by
  unfold hkE at h
  split at h <;> first | contradiction | skip
  rename_i hh
  cases hh
  obtain ⟨h1, rfl⟩ := if_some h
  obtain ⟨h0, h1⟩ := b2 h1
  obtain ⟨h1, h2⟩ := b2 h1
  obtain ⟨h2, h3⟩ := b2 h2
  obtain ⟨h3, h5⟩ := b2 h3
  have e0 := of_decide_eq_true h0
  have e1 := of_decide_eq_true h1
  subst e1
  subst e0
  obtain ⟨p, des, n, m1, m2, m4⟩ := kd_of o h5
  obtain ⟨ca, rfl, pa, _⟩ := hold1 ha
  have pg : ∀ q : Pos, PE X (.Name x q) (tC (.ref p)) := fun q => pe_glob (v := .ref p) (gl_ok hs h2) m1 rfl (dbg_ok h3).1
  have an : ∀ s : Str, ∃ r, PySem.W.nsIn X.K p s = some r ∧ r.isSome = (kvs.lookup s).isSome := fun s => by
    obtain ⟨r, q1, ⟨q2, q3⟩ | ⟨d', u, v, q2, q3, q4, q5⟩⟩ := m4 s
    · exact ⟨r, q1, by rw [q2, q3]; rfl⟩
    · exact ⟨r, q1, by rw [q2, q3]; rfl⟩
  cases neg with
  | false =>
    refine ⟨(pe_cmpR (op_in_kd m2) pa (pg _) rfl).wk fun σ H Q q => ?_, (pt_cmpR (op_in_kd m2) pa (pg _) rfl).wk fun σ H Q q => ?_, fun _ _ _ q => nomatch q⟩
    · obtain ⟨pins, ex, ow, en, g, P, S, hw, kk⟩ := q
      refine ⟨pins, ex, ow, en, g, _, S, hw, fun d l g1 v H1 p1 s1 r1 => ?_⟩
      cases d with
      | str s =>
        cases r1
        obtain ⟨r, q1, q2⟩ := an s
        refine ⟨s, r, rfl, rfl, q1, kk _ _ _ _ H1 p1 s1 ?_⟩
        rw [q2]
        exact .bl _
      | _ => exact p1.elim
    · obtain ⟨pins, ex, ow, en, g, P, S, hw, kk⟩ := q
      refine ⟨pins, ex, ow, en, g, _, S, hw, fun d l g1 v H1 p1 s1 r1 => ?_⟩
      cases d with
      | str s =>
        cases r1
        obtain ⟨r, q1, q2⟩ := an s
        obtain ⟨c, hc, kc⟩ := kk _ _ _ p1
        cases hc
        refine ⟨s, r, rfl, rfl, q1, _, rfl, ?_⟩
        rw [q2]
        exact kc H1 s1
      | _ => exact p1.elim
  | true =>
    refine ⟨(pe_cmpR (op_notIn_kd m2) pa (pg _) rfl).wk fun σ H Q q => ?_, (pt_cmpR (op_notIn_kd m2) pa (pg _) rfl).wk fun σ H Q q => ?_, fun _ _ _ q => nomatch q⟩
    · obtain ⟨pins, ex, ow, en, g, P, S, hw, kk⟩ := q
      refine ⟨pins, ex, ow, en, g, _, S, hw, fun d l g1 v H1 p1 s1 r1 => ?_⟩
      cases d with
      | str s =>
        cases r1
        obtain ⟨r, q1, q2⟩ := an s
        refine ⟨s, r, rfl, rfl, q1, kk _ _ _ _ H1 p1 s1 ?_⟩
        rw [q2]
        exact .bl _
      | _ => exact p1.elim
    · obtain ⟨pins, ex, ow, en, g, P, S, hw, kk⟩ := q
      refine ⟨pins, ex, ow, en, g, _, S, hw, fun d l g1 v H1 p1 s1 r1 => ?_⟩
      cases d with
      | str s =>
        cases r1
        obtain ⟨r, q1, q2⟩ := an s
        obtain ⟨c, hc, kc⟩ := kk _ _ _ p1
        cases hc
        refine ⟨s, r, rfl, rfl, q1, _, rfl, ?_⟩
        rw [q2]
        exact kc H1 s1
      | _ => exact p1.elim
/-- a hook's meaning holds -/
theorem hook_ok (o : Cok X C k fs) (hs : X.env.scope = sc) {h : Hk} {as : CA} {es : List Expr} (hh : hkE k h sc e = some es) (ha : HoldA X C fs as es) : PE X e (rd C (wE fs (.ext h as))) := by
  cases h with
  | atr c x => exact hk_atr o hh ha
  | gix => exact hk_gix o hh ha
  | gsq f => exact hk_gsq o hs hh ha
  | gkey s => exact hk_gkey o hh ha
  | mk i c => exact hk_mk o hs hh ha
  | glo x n => exact hk_glo o hs hh ha
  | pow => exact hk_pow o hh ha
  | dsp ks => exact hk_dsp o hh ha
  | dmod => exact hk_dmod o hs hh ha
  | sset => exact hk_sset o hs hh ha
  | kin i x kvs neg => exact (hk_kin o hs hh ha).1
  | kix i x kvs => exact hk_kix o hs hh ha
theorem star_all {pos : Pos} {env : PySem.Env} {es : List Expr} (h : es.all nst = true) : (backTo pos (starEach es env)).all (fun x => !x.1) = true := by
  have q := star_none (pos := pos) (env := env) h
  rw [List.any_eq_false] at q
  rw [List.all_eq_true]
  intro x hx
  have := q x hx
  simpa using this
theorem meth_eq {oe : Expr} {m : Str} {ap pos : Pos} {es : List Expr} {env : PySem.Env} (ho : noCall oe = true) (hes : es.all nst = true) (hlen : es.length < 30) (hl : (ap.endLine == pos.line) = true) :
    eval (.Call (.Attribute oe m ap) es [] pos) env = (do
      let ov ← eval oe env
      standAt ap.atName
      let (f, first) ← holding [ov] (getMethod ov m (do return (← importBound oe env).getD true))
      callWith pos f first (backTo pos (starEach es env)) (backToKw pos (keywordEach [] env))) := by
  have few : methodCallForm (es.length + ([] : List Keyword).length) (backTo pos (starEach es env)) (backToKw pos (keywordEach [] env)) = true := by
    unfold methodCallForm
    rw [star_all hes]
    have : backToKw pos (keywordEach [] env) = [] := rfl
    rw [this]
    simpa using hlen
  show (do
    let ov ← attributeBase oe m env (eval oe env)
    standAt ap.atName
    methodCall oe m ap pos env ov (es.length + ([] : List Keyword).length) (backTo pos (starEach es env)) (backToKw pos (keywordEach [] env))) = _
  rw [base_ok ho]
  unfold methodCall calleeOf methodCallPos
  rw [few, hl]
  rfl
theorem pe_methV (o : Cok X C k fs) {i : Nat} {c m : Str} {ca : CE} {as : CA} {oe : Expr} {es : List Expr} {ap pos : Pos} (hn : k.nm[i]? = some (.me c m)) (ho : noCall oe = true) (hes : es.all nst = true) (hlen : es.length < 30) (hli : (ap.endLine == pos.line) = true) (h1 : PE X oe (rd C (wE fs ca))) (h2 : HoldA X C fs as es) :
    PE X (.Call (.Attribute oe m ap) es [] pos) (rd C (wE fs (.meth i c m ca as))) := by
  have hl : i < fs.length := by
    rw [o.len]
    exact (List.getElem?_eq_some_iff.mp hn).1
  obtain ⟨⟨n, w⟩, hf⟩ : ∃ z, fs[i]? = some z := ⟨_, List.getElem?_eq_getElem hl⟩
  obtain ⟨kk0, f, Cl, fd, ps, F, hr, hm, cl, M, hb⟩ := o.fns i _ n w hn hf
  have main : ∃ t, PE X (.Call (.Attribute oe m ap) es [] pos) (tMeth Cl m (spF C.K C.gh n w) [] E0 (rd C (wE fs ca)) t) ∧ (∀ σ H Q, rdA C (wA fs as) σ H Q → t σ H Q) := by
    cases es with
    | nil =>
      cases as with
      | cons a r => exact h2.elim
      | nil =>
        refine ⟨tNil, ?_, fun σ H Q q => ?_⟩
        · exact pe_meth0 h1 cl M F hr hb .nil passL (meth_eq ho hes hlen hli)
        · obtain ⟨pins, ex, ow, en, g, P, S, hw, kk⟩ := q
          exact kk _ _ _ [] H hw (.refl S.stp.ok) .nil
    | cons e1 es1 =>
      have hn2 : nst e1 = true ∧ es1.all nst = true := by simpa using hes
      refine ⟨rdA C (wA fs as), ?_, fun σ H Q q => q⟩
      exact pe_meth h1 cl M F hr hb .nil passL (holdA_pa h2) (star_cons hn2.1) (star_none hn2.2) (meth_eq ho hes hlen hli)
  obtain ⟨t, main, ht⟩ := main
  refine main.wk fun σ H Q q => ?_
  obtain ⟨pins, ex, ow, en, g, P, S, hw, kk⟩ := q
  refine ⟨pins, ex, ow, en, g, _, S, hw, fun d l g1 v H1 p1 s1 r1 => ?_⟩
  obtain ⟨p, dx, fs', rfl, hc, hlk, p1⟩ := p1
  cases r1
  have S1 := S.stp' s1
  obtain ⟨lf, Cl', vs0, m1, m2, m3, m4⟩ := cell_of o.hg S1.stp.ok hc
  rw [hm] at m1
  cases m1
  refine ⟨p, dx, vs0, rfl, m2, lk_none m3 hlk, ht _ _ _ ⟨pins, ex, ow, en, g1, _, S1, p1, fun ds lm g2 vs H2 p2 s2 r2 => ?_⟩⟩
  obtain ⟨n', w', hf', hl', p2⟩ := p2
  rw [hf] at hf'
  cases hf'
  have S2 := S1.stp' s2
  refine ⟨?_, .obj p :: ds, g2, Zl C ex ow g2 lm, _, fun a z => .inl z, S2.stp.ok, .cons (.obj p) (by rw [List.append_nil]; exact r2), p2, fun d l g' v H' p s' r => ?_⟩
  · rw [List.append_nil, List.length_cons, ← r2.len]
    exact hl'
  · exact kk _ _ _ _ H' p ((s1.trans s2).trans s') (r.anti fun a z => call_back S2 z)
end
end VL
/-! Val: soundness for expressions. -/
namespace VL
open PySem PySem.Spec PyProof.Rows L2

section
variable {C : Vc G} {k : Ck} {fs : List (Nat × WF G)}
def isNew : CE → Bool
  | .lst _ => true
  | .rep _ _ => true
  | .sq .list _ => true
  | .rev _ => true
  | .lc _ _ _ _ _ => true
  | .glc _ _ _ _ _ => true
  | .ext (.gsq .list) _ => true
  | _ => false

theorem trk_inv {X : Cx} {sc : Scope} {e : Expr} {c : CE} (h : chkE k (.trk c) sc e = true) : isNew c = true ∧ chkE k c sc e = true ∧ trB e = true := by
  cases c with
  | lst as =>
    have h' : chkE k (.lst as) sc e = true := h
    obtain ⟨es, p, rfl, h1⟩ := inv_lst h'
    exact ⟨rfl, h', rfl⟩
  | rep as n =>
    have h' : chkE k (.rep as n) sc e = true := h
    obtain ⟨es, p1, eb, p, rfl, h1, h2⟩ := inv_rep h'
    exact ⟨rfl, h', rfl⟩
  | sq f a =>
    cases f <;> first | exact Bool.noConfusion h | skip
    have h' : chkE k (.sq .list a) sc e = true := h
    obtain ⟨x, p1, ea, p, rfl, h1, h2, h3⟩ := inv_sq h'
    exact ⟨rfl, h', rfl⟩
  | rev a =>
    have h' : chkE k (.rev a) sc e = true := h
    obtain ⟨ea, j, q1, q2, q3, p, rfl, h1⟩ := inv_rev h'
    exact ⟨rfl, h', rfl⟩
  | lc vs tg it cond elt =>
    have h' : chkE k (.lc vs tg it cond elt) sc e = true := h
    obtain ⟨ee, etg, eit, ifs, scope, p, rfl, _⟩ := inv_lc h'
    exact ⟨rfl, h', rfl⟩
  | glc vs tg a cond elt =>
    have h' : chkE k (.glc vs tg a cond elt) sc e = true := h
    obtain ⟨ee, etg, eit, ifs, scope, p, rfl, _⟩ := inv_glc h'
    exact ⟨rfl, h', rfl⟩
  | ext hk as =>
    cases hk with
    | gsq f =>
      cases f <;> first | exact Bool.noConfusion h | skip
      have h' : chkE k (.ext (.gsq .list) as) sc e = true := h
      obtain ⟨es, h1, h2⟩ := inv_ext h'
      refine ⟨rfl, h', ?_⟩
      unfold hkE at h1
      split at h1 <;> first | contradiction | rfl
    | _ => exact Bool.noConfusion h
  | _ => exact Bool.noConfusion h
theorem hkE_tr {sc : Scope} {e : Expr} {hk : Hk} {es : List Expr} (nk : ∀ i x kvs neg, hk ≠ .kin i x kvs neg) (h : hkE k hk sc e = some es) : trB e = true := by
  unfold hkE at h
  split at h <;> first | contradiction | rfl | exact absurd rfl (nk _ _ _ _)
theorem hv_of {X : Cx} {sc : Scope} {e : Expr} {c : CE} (o : Cok X C k fs) (hs : X.env.scope = sc) (h : chkE k c sc e = true) : ∀ i, c = .var i → PE X e (tVar i) := fun i q => by
  subst q
  exact var_ok o hs h
theorem pw_of {X : Cx} {c : CE} {e : Expr} {w : Wd G} (h : PE X e (rd C w)) (ht : PW X e (rdT C w)) (hw : wE fs c = w) (op : BoolOp) (es : List Expr) (p : Pos) (he : e = .BoolOp op es p) : Snd X C fs c e := by
  subst hw
  exact ⟨h, ht.pt, fun _ _ _ _ => ht⟩
mutual
theorem sE : ∀ (c : CE) (X : Cx) (sc : Scope) (e : Expr), Cok X C k fs → X.env.scope = sc → chkE k c sc e = true → Snd X C fs c e
  | .var i, X, sc, e, o, hs, h => by
    have q := var_ok o hs h
    refine Snd.mk' o (rd_var q) ?_
    cases e <;> first | rfl | exact Bool.noConfusion h
  | .int i, X, sc, e, o, hs, h => by
    obtain ⟨j, p, rfl⟩ := inv_const (.inr (.inl ⟨i, rfl, rfl⟩)) h
    exact Snd.mk' o (rd_c (.int i) pe_int) rfl
  | .bl i, X, sc, e, o, hs, h => by
    obtain ⟨j, p, rfl⟩ := inv_const (.inr (.inr (.inl ⟨i, rfl, rfl⟩))) h
    exact Snd.mk' o (rd_c (.bl i) pe_bl) rfl
  | .non, X, sc, e, o, hs, h => by
    obtain ⟨j, p, rfl⟩ := inv_const (.inl ⟨rfl, rfl⟩) h
    exact Snd.mk' o (rd_c .non pe_non) rfl
  | .str i, X, sc, e, o, hs, h => by
    obtain ⟨j, p, rfl⟩ := inv_const (.inr (.inr (.inr ⟨i, rfl, rfl⟩))) h
    exact Snd.mk' o (rd_c (.str i) pe_str) rfl
  | .bin op a b, X, sc, e, o, hs, h => by
    obtain ⟨ea, eb, p, rfl, h1, h2⟩ := inv_bin h
    exact Snd.mk' o (pe_bin o.hK (v_of (sE a X sc ea o hs h1).1 (hv_of o hs h1)) (v_of (sE b X sc eb o hs h2).1 (hv_of o hs h2))) rfl
  | .neg a, X, sc, e, o, hs, h => by
    obtain ⟨ea, p, rfl, h1⟩ := inv_neg h
    exact Snd.mk' o (pe_negV (sE a X sc ea o hs h1).1) rfl
  | .not a, X, sc, e, o, hs, h => by
    obtain ⟨ea, p, rfl, h1⟩ := inv_not h
    have ih := sE a X sc ea o hs h1
    exact ⟨pe_notV o.hK ih.1, pt_notV ih.2.1, fun _ _ _ q => nomatch q⟩
  | .cmp op a b, X, sc, e, o, hs, h => by
    obtain ⟨ea, eb, p, rfl, h0, h1, h2⟩ := inv_cmp h
    have ia := (sE a X sc ea o hs h1).1
    have ib := (sE b X sc eb o hs h2).1
    exact ⟨pe_cmpV o.hK o.un ia ib (mark_ok h0), pt_cmpV o.hK o.un ia ib (mark_ok h0), fun _ _ _ q => nomatch q⟩
  | .chain op op' a b c, X, sc, e, o, hs, h => by
    obtain ⟨ea, eb, ec, p, rfl, h0, h1, h2, h3⟩ := inv_chain h
    have ia := (sE a X sc ea o hs h1).1
    have ib := (sE b X sc eb o hs h2).1
    have ic := (sE c X sc ec o hs h3).1
    exact ⟨pe_chainV o.hK o.un ia ib ic (last_ok h0), pt_chainV o.hK o.un ia ib ic (last_ok h0), fun _ _ _ q => nomatch q⟩
  | .and a b, X, sc, e, o, hs, h => by
    obtain ⟨ea, eb, rest, p, rfl, h1, h2⟩ := inv_and h
    have ia := sE a X sc ea o hs h1
    rcases h2 with ⟨rfl, h2⟩ | ⟨_, h2⟩
    · have ib := sE b X sc eb o hs h2
      exact pw_of (pe_andV ia.1 (pe_one ib.1)) (pw_andV ia.2.1 (pw_and1 ib.2.1)) rfl _ _ _ rfl
    · have ib := sE b X sc (.BoolOp .And (eb :: rest) p) o hs h2
      exact pw_of (pe_andV ia.1 ib.1) (pw_andV ia.2.1 (ib.2.2 _ _ _ rfl)) rfl _ _ _ rfl
  | .or a b, X, sc, e, o, hs, h => by
    obtain ⟨ea, eb, rest, p, rfl, h1, h2⟩ := inv_or h
    have ia := sE a X sc ea o hs h1
    rcases h2 with ⟨rfl, h2⟩ | ⟨_, h2⟩
    · have ib := sE b X sc eb o hs h2
      exact pw_of (pe_orV ia.1 (pe_one ib.1)) (pw_orV ia.2.1 (pw_or1 ib.2.1)) rfl _ _ _ rfl
    · have ib := sE b X sc (.BoolOp .Or (eb :: rest) p) o hs h2
      exact pw_of (pe_orV ia.1 ib.1) (pw_orV ia.2.1 (ib.2.2 _ _ _ rfl)) rfl _ _ _ rfl
  | .ite c a b, X, sc, e, o, hs, h => by
    obtain ⟨ec, ea, eb, p, rfl, h0, h1, h2⟩ := inv_ite h
    have ic := sE c X sc ec o hs h0
    have ia := sE a X sc ea o hs h1
    have ib := sE b X sc eb o hs h2
    exact ⟨pe_iteV ic.2.1 ia.1 ib.1, pt_iteV ic.2.1 ia.2.1 ib.2.1, fun _ _ _ q => nomatch q⟩
  | .tup as, X, sc, e, o, hs, h => by
    obtain ⟨es, j, p, rfl, h1⟩ := inv_tup h
    exact Snd.mk' o (pe_tupV (sA as X sc es o hs h1)) rfl
  | .lst as, X, sc, e, o, hs, h => by
    obtain ⟨es, p, rfl, h1⟩ := inv_lst h
    exact Snd.mk' o (pe_lstV (sA as X sc es o hs h1)) rfl
  | .rep as n, X, sc, e, o, hs, h => by
    obtain ⟨es, p1, eb, p, rfl, h1, h2⟩ := inv_rep h
    exact Snd.mk' o (pe_repV (sA as X sc es o hs h1) (sE n X sc eb o hs h2).1) rfl
  | .ix a b, X, sc, e, o, hs, h => by
    obtain ⟨ea, eb, p, rfl, h0, h1, h2⟩ := inv_ix h
    exact Snd.mk' o (pe_ixV o.hK (q_of (sE a X sc ea o hs h1).1 (hv_of o hs h1)) (sE b X sc eb o hs h2).1 h0) rfl
  | .sl a lo hi, X, sc, e, o, hs, h => by
    obtain ⟨ea, l, u, p2, p, rfl, h1, h2, h3⟩ := inv_sl h
    exact Snd.mk' o (pe_slV o.hK (q_of (sE a X sc ea o hs h1).1 (hv_of o hs h1)) (sO lo X sc l o hs h2).1 (sO hi X sc u o hs h3).1) rfl
  | .rev a, X, sc, e, o, hs, h => by
    obtain ⟨ea, j, q1, q2, q3, p, rfl, h1⟩ := inv_rev h
    exact Snd.mk' o (pe_revV o.hK (q_of (sE a X sc ea o hs h1).1 (hv_of o hs h1))) rfl
  | .bi f as, X, sc, e, o, hs, h => by
    obtain ⟨x, p1, ea, es, p, rfl, h1, h2, h3⟩ := inv_bi h
    obtain ⟨rfl, h4, h5⟩ := blt_ok o hs h1
    exact Snd.mk' o (pe_biV o.calm h4 h5 (sA as X sc _ o hs h3) h2) rfl
  | .sq f a, X, sc, e, o, hs, h => by
    obtain ⟨x, p1, ea, p, rfl, h1, h2, h3⟩ := inv_sq h
    obtain ⟨rfl, h4, h5⟩ := blt_ok o hs h1
    exact Snd.mk' o (pe_sqV o.hK o.calm h4 h5 (q_of (sE a X sc ea o hs h3).1 (hv_of o hs h3)) h2) rfl
  | .rng t lo hi, X, sc, e, o, hs, h => by
    obtain ⟨x, p1, y, p2, e1, es, p3, p, rfl, h1, h2, h3, h4⟩ := inv_rng h
    obtain ⟨rfl, h5, h6⟩ := blt_ok o hs h1
    obtain ⟨rfl, h7, h8⟩ := blt_ok o hs h2
    have n1 : nst e1 = true := (show nst e1 = true ∧ es.all nst = true by simpa using h3).1
    rcases h4 with ⟨rfl, h9, h10⟩ | ⟨e2, rfl, h9, h10⟩
    · cases lo with
      | some a => exact Bool.noConfusion h9
      | no =>
        refine Snd.mk' o ?_ rfl
        exact (pe_rngV o.calm h5 h6 (prg1V h7 h8 (sE hi X sc e1 o hs h10).1 n1) rfl).wk fun σ H Q q => by
          obtain ⟨pins, ex, ow, es, g, P, S, hw, kk⟩ := q
          exact ⟨pins, ex, ow, es, g, P, S, hw, kk⟩
    · cases lo with
      | no => exact Bool.noConfusion h9
      | some a =>
        have n2 : nst e2 = true := (show nst e1 = true ∧ nst e2 = true by simpa using h3).2
        obtain ⟨_, h11⟩ := b2 h9
        refine Snd.mk' o ?_ rfl
        have ia := (sE a X sc e1 o hs h11).1
        have ib := (sE hi X sc e2 o hs h10).1
        refine (pe_rngV o.calm h5 h6 (w := fun es g Q => wE fs a es g fun d1 _ g1 => ∃ i, d1 = .int i ∧ wE fs hi es g1 fun d2 _ g2 => ∃ j, d2 = .int j ∧ Q i j g2) ?_ rfl).wk fun σ H Q q => by
          obtain ⟨pins, ex, ow, es, g, P, S, hw, kk⟩ := q
          exact ⟨pins, ex, ow, es, g, P, S, hw, kk⟩
        refine fun ps s σ H Q I q => ?_
        obtain ⟨pins, ex, ow, es, g, P, S, hw, kk⟩ := q
        refine prg_2 h7 h8 ia ib (star_cons n1) (star_cons n2) (star_none (es := [e2]) (by simp [n2])) ps s σ H Q I ⟨pins, ex, ow, es, g, _, S, hw, fun d l g1 v H1 p1 s1 r1 => ?_⟩
        obtain ⟨i, rfl, p1⟩ := p1
        refine ⟨pins, ex, ow, es, g1, _, S.stp' s1, p1, fun d2 l2 g2 v2 H2 p2 s2 r2 => ?_⟩
        obtain ⟨j, rfl, p⟩ := p2
        cases r1
        cases r2
        exact ⟨i, j, rfl, rfl, kk _ _ _ H2 p (s1.trans s2)⟩
  | .isi a T, X, sc, e, o, hs, h => by
    obtain ⟨x, p1, ea, et, p, rfl, h1, h2, h3, h4⟩ := inv_isi h
    obtain ⟨rfl, h5, h6⟩ := blt_ok o hs h1
    have ia := (sE a X sc ea o hs h3).1
    rcases h4 with ⟨n, p2, rfl, h7⟩ | ⟨es, j, p2, rfl, h7, h8⟩
    · obtain ⟨ps, e1, e2, e3, e4⟩ := tys_ok o hs h7
      rcases T with _ | ⟨m, _ | ⟨m2, T⟩⟩
      · exact Bool.noConfusion h7
      · have e5 : Expr.Name n p2 = .Name (Str.ofString m) p2 := by
          rcases ps with _ | ⟨q, ps⟩
          · simp at e2
          · simp only [List.zip_cons_cons, List.map_cons, List.cons.injEq, Expr.Name.injEq] at e1
            rw [e1.1.1]
        rw [e5]
        have e6 := e4 m List.mem_cons_self
        exact Snd.mk' o (pe_isi1 o.hK (by simpa using e3) e6.1 e6.2 h5 h6 ia h2) rfl
      · have hl := congrArg List.length e1
        simp [e2] at hl
    · obtain ⟨ps, rfl, e2, e3, e4⟩ := tys_ok o hs h7
      exact Snd.mk' o (pe_isiT o.hK e3 e4 e2 h8 h5 h6 ia h2) rfl
  | .call f as, X, sc, e, o, hs, h => by
    obtain ⟨x, p1, ea, es, p, rfl, h1, h2, h3, h4, h5⟩ := inv_call h
    have hl : f < fs.length := by
      rw [o.len]
      exact (List.getElem?_eq_some_iff.mp h1).1
    obtain ⟨⟨n, w⟩, hf⟩ : ∃ z, fs[f]? = some z := ⟨_, List.getElem?_eq_getElem hl⟩
    exact Snd.mk' o (pe_callV hf (o.fns f (.fn x) n w h1 hf) (gl_ok hs h2) (dbg_ok h3).1 (sA as X sc _ o hs h5) h4) rfl
  | .lc vs tg it cond elt, X, sc, e, o, hs, h => by
    obtain ⟨ee, etg, eit, ifs, scope, p, rfl, h1, h2, h3, h4, h5, h6, h7⟩ := inv_lc h
    have ev : (ownL k vs).map (·.2) = vs := by
      unfold ownL
      rw [List.map_map]
      exact List.map_id'' (fun _ => rfl) vs
    have ok : BlkOk X.N X.env.scope scope (ownL k vs) := by
      rw [hs, o.hN]
      exact blkOk_by h1
    have scb : ∀ (s : Shared) (H : Hp) (Cc : Addr) (cl : List (Str × Addr)) (fp : List Addr), (X.blk s H scope (compEnvC scope cl Cc X.env) fp).env.scope = relS scope sc := fun s H Cc cl fp => by
      subst hs
      rfl
    have q := pe_lc (own := ownL k vs) (pos := p) o.calm (by rw [o.hN]; exact o.nd) (sI it X sc etg eit o hs h5) ok (g := gTg C.K tg) (tt := rdB C (wT fs cond)) (te := rd C (wE fs elt))
      (fun s H Cc cl fp => tg_pg (o.blk s H scope _ fp) (scb s H Cc cl fp) rfl h4)
      (fun s H Cc cl fp => sC cond _ _ ifs (o.blk s H scope _ fp) (scb s H Cc cl fp) h6)
      (fun s H Cc cl fp => (sE elt _ _ ee (o.blk s H scope _ fp) (scb s H Cc cl fp) h7).1) (fold_ok h3)
    rw [ev] at q
    exact Snd.mk' o (q.wk fun σ H Q z => lc_rd h2 z) rfl
  | .glc vs tg a cond elt, X, sc, e, o, hs, h => by
    obtain ⟨ee, etg, eit, ifs, scope, p, rfl, h1, h2, h3, h4, h5, h6, h7⟩ := inv_glc h
    have ev : (ownL k vs).map (·.2) = vs := by
      unfold ownL
      rw [List.map_map]
      exact List.map_id'' (fun _ => rfl) vs
    have ok : BlkOk X.N X.env.scope scope (ownL k vs) := by
      rw [hs, o.hN]
      exact blkOk_by h1
    have scb : ∀ (s : Shared) (H : Hp) (Cc : Addr) (cl : List (Str × Addr)) (fp : List Addr), (X.blk s H scope (compEnvC scope cl Cc X.env) fp).env.scope = relS scope sc := fun s H Cc cl fp => by
      subst hs
      rfl
    have q := pe_lc (own := ownL k vs) (pos := p) o.calm (by rw [o.hN]; exact o.nd) (pi_gt (tg := etg) o.hg o.hK (sE a X sc eit o hs h5).1) ok (g := gTg C.K tg) (tt := rdB C (wT fs cond)) (te := rd C (wE fs elt))
      (fun s H Cc cl fp => tg_pg (o.blk s H scope _ fp) (scb s H Cc cl fp) rfl h4)
      (fun s H Cc cl fp => sC cond _ _ ifs (o.blk s H scope _ fp) (scb s H Cc cl fp) h6)
      (fun s H Cc cl fp => (sE elt _ _ ee (o.blk s H scope _ fp) (scb s H Cc cl fp) h7).1) (fold_ok h3)
    rw [ev] at q
    exact Snd.mk' o (q.wk fun σ H Q z => lc_rdG o.hg h2 z) rfl
  | .trk c, X, sc, e, o, hs, h => by
    obtain ⟨h1, h2, h3⟩ := trk_inv (X := X) h
    exact Snd.mk' o (pe_trk o.hg (sN c X sc e o hs h1 h2)) h3
  | .ext hk as, X, sc, e, o, hs, h => by
    obtain ⟨es, h1, h2⟩ := inv_ext h
    have hp := sP as X sc es o hs h2
    cases hk with
    | kin i x kvs neg => exact hk_kin o hs h1 hp
    | _ => exact Snd.mk' o (hook_ok o hs h1 hp) (hkE_tr (fun _ _ _ _ z => by cases z) h1)
  | .meth i c m a as, X, sc, e, o, hs, h => by
    obtain ⟨oe, ap, es, p, rfl, h1, h2, h3, h4, h5, h6, h7⟩ := inv_meth h
    exact Snd.mk' o (pe_methV o h1 h2 h3 h4 h5 (sE a X sc oe o hs h6).1 (sP as X sc es o hs h7)) rfl
theorem sP : ∀ (as : CA) (X : Cx) (sc : Scope) (es : List Expr), Cok X C k fs → X.env.scope = sc → chkA k as sc es = true → HoldA X C fs as es
  | .nil, X, sc, [], o, hs, h => trivial
  | .nil, X, sc, _ :: _, o, hs, h => Bool.noConfusion h
  | .cons a r, X, sc, [], o, hs, h => Bool.noConfusion h
  | .cons a r, X, sc, e :: es, o, hs, h => by
    obtain ⟨h1, h2⟩ := b2 h
    obtain ⟨h2, h3⟩ := b2 h2
    exact ⟨(sE a X sc e o hs h2).1, h1, sP r X sc es o hs h3⟩
theorem sN : ∀ (c : CE) (X : Cx) (sc : Scope) (e : Expr), Cok X C k fs → X.env.scope = sc → isNew c = true → chkE k c sc e = true → PE X e (rdN C (wE fs c))
  | .lst as, X, sc, e, o, hs, hn, h => by
    obtain ⟨es, p, rfl, h1⟩ := inv_lst h
    exact pe_lstN (sA as X sc es o hs h1)
  | .rep as n, X, sc, e, o, hs, hn, h => by
    obtain ⟨es, p1, eb, p, rfl, h1, h2⟩ := inv_rep h
    exact pe_repN (sA as X sc es o hs h1) (sE n X sc eb o hs h2).1
  | .sq .list a, X, sc, e, o, hs, hn, h => by
    obtain ⟨x, p1, ea, p, rfl, h1, h2, h3⟩ := inv_sq h
    obtain ⟨rfl, h4, h5⟩ := blt_ok o hs h1
    exact pe_listN o.hK h4 h5 (q_of (sE a X sc ea o hs h3).1 (hv_of o hs h3)) h2
  | .rev a, X, sc, e, o, hs, hn, h => by
    obtain ⟨ea, j, q1, q2, q3, p, rfl, h1⟩ := inv_rev h
    exact pe_revN o.hK (q_of (sE a X sc ea o hs h1).1 (hv_of o hs h1))
  | .lc vs tg it cond elt, X, sc, e, o, hs, hn, h => by
    obtain ⟨ee, etg, eit, ifs, scope, p, rfl, h1, h2, h3, h4, h5, h6, h7⟩ := inv_lc h
    have ev : (ownL k vs).map (·.2) = vs := by
      unfold ownL
      rw [List.map_map]
      exact List.map_id'' (fun _ => rfl) vs
    have ok : BlkOk X.N X.env.scope scope (ownL k vs) := by
      rw [hs, o.hN]
      exact blkOk_by h1
    have scb : ∀ (s : Shared) (H : Hp) (Cc : Addr) (cl : List (Str × Addr)) (fp : List Addr), (X.blk s H scope (compEnvC scope cl Cc X.env) fp).env.scope = relS scope sc := fun s H Cc cl fp => by
      subst hs
      rfl
    have q := pe_lc (own := ownL k vs) (pos := p) o.calm (by rw [o.hN]; exact o.nd) (sI it X sc etg eit o hs h5) ok (g := gTg C.K tg) (tt := rdB C (wT fs cond)) (te := rd C (wE fs elt))
      (fun s H Cc cl fp => tg_pg (o.blk s H scope _ fp) (scb s H Cc cl fp) rfl h4)
      (fun s H Cc cl fp => sC cond _ _ ifs (o.blk s H scope _ fp) (scb s H Cc cl fp) h6)
      (fun s H Cc cl fp => (sE elt _ _ ee (o.blk s H scope _ fp) (scb s H Cc cl fp) h7).1) (fold_ok h3)
    rw [ev] at q
    exact q.wk fun σ H Q z => lc_rdN h2 z
  | .glc vs tg a cond elt, X, sc, e, o, hs, hn, h => by
    obtain ⟨ee, etg, eit, ifs, scope, p, rfl, h1, h2, h3, h4, h5, h6, h7⟩ := inv_glc h
    have ev : (ownL k vs).map (·.2) = vs := by
      unfold ownL
      rw [List.map_map]
      exact List.map_id'' (fun _ => rfl) vs
    have ok : BlkOk X.N X.env.scope scope (ownL k vs) := by
      rw [hs, o.hN]
      exact blkOk_by h1
    have scb : ∀ (s : Shared) (H : Hp) (Cc : Addr) (cl : List (Str × Addr)) (fp : List Addr), (X.blk s H scope (compEnvC scope cl Cc X.env) fp).env.scope = relS scope sc := fun s H Cc cl fp => by
      subst hs
      rfl
    have q := pe_lc (own := ownL k vs) (pos := p) o.calm (by rw [o.hN]; exact o.nd) (pi_gt (tg := etg) o.hg o.hK (sE a X sc eit o hs h5).1) ok (g := gTg C.K tg) (tt := rdB C (wT fs cond)) (te := rd C (wE fs elt))
      (fun s H Cc cl fp => tg_pg (o.blk s H scope _ fp) (scb s H Cc cl fp) rfl h4)
      (fun s H Cc cl fp => sC cond _ _ ifs (o.blk s H scope _ fp) (scb s H Cc cl fp) h6)
      (fun s H Cc cl fp => (sE elt _ _ ee (o.blk s H scope _ fp) (scb s H Cc cl fp) h7).1) (fold_ok h3)
    rw [ev] at q
    exact q.wk fun σ H Q z => lc_rdNG o.hg h2 z
  | .ext (.gsq .list) as, X, sc, e, o, hs, hn, h => by
    obtain ⟨es, h1, h2⟩ := inv_ext h
    have hp := sP as X sc es o hs h2
    unfold hkE at h1
    split at h1 <;> first | contradiction | skip
    rename_i hh
    cases hh
    obtain ⟨h3, rfl⟩ := if_some h1
    obtain ⟨h3, h4⟩ := b2 h3
    obtain ⟨rfl, h5, h6⟩ := blt_ok o hs h3
    obtain ⟨ca, rfl, pa, _⟩ := hold1 hp
    exact pe_glistN o h5 h6 pa h4
  | .var _, _, _, _, _, _, hn, _ => Bool.noConfusion hn
  | .int _, _, _, _, _, _, hn, _ => Bool.noConfusion hn
  | .bl _, _, _, _, _, _, hn, _ => Bool.noConfusion hn
  | .non, _, _, _, _, _, hn, _ => Bool.noConfusion hn
  | .str _, _, _, _, _, _, hn, _ => Bool.noConfusion hn
  | .bin _ _ _, _, _, _, _, _, hn, _ => Bool.noConfusion hn
  | .neg _, _, _, _, _, _, hn, _ => Bool.noConfusion hn
  | .not _, _, _, _, _, _, hn, _ => Bool.noConfusion hn
  | .cmp _ _ _, _, _, _, _, _, hn, _ => Bool.noConfusion hn
  | .chain _ _ _ _ _, _, _, _, _, _, hn, _ => Bool.noConfusion hn
  | .and _ _, _, _, _, _, _, hn, _ => Bool.noConfusion hn
  | .or _ _, _, _, _, _, _, hn, _ => Bool.noConfusion hn
  | .ite _ _ _, _, _, _, _, _, hn, _ => Bool.noConfusion hn
  | .tup _, _, _, _, _, _, hn, _ => Bool.noConfusion hn
  | .ix _ _, _, _, _, _, _, hn, _ => Bool.noConfusion hn
  | .sl _ _ _, _, _, _, _, _, hn, _ => Bool.noConfusion hn
  | .bi _ _, _, _, _, _, _, hn, _ => Bool.noConfusion hn
  | .sq .len _, _, _, _, _, _, hn, _ => Bool.noConfusion hn
  | .sq .sum _, _, _, _, _, _, hn, _ => Bool.noConfusion hn
  | .sq .all _, _, _, _, _, _, hn, _ => Bool.noConfusion hn
  | .sq .any _, _, _, _, _, _, hn, _ => Bool.noConfusion hn
  | .sq .max _, _, _, _, _, _, hn, _ => Bool.noConfusion hn
  | .sq .min _, _, _, _, _, _, hn, _ => Bool.noConfusion hn
  | .sq .tuple _, _, _, _, _, _, hn, _ => Bool.noConfusion hn
  | .rng _ _ _, _, _, _, _, _, hn, _ => Bool.noConfusion hn
  | .isi _ _, _, _, _, _, _, hn, _ => Bool.noConfusion hn
  | .call _ _, _, _, _, _, _, hn, _ => Bool.noConfusion hn
  | .trk _, _, _, _, _, _, hn, _ => Bool.noConfusion hn
  | .meth _ _ _ _ _, _, _, _, _, _, hn, _ => Bool.noConfusion hn
  | .ext (.atr _ _) _, _, _, _, _, _, hn, _ => Bool.noConfusion hn
  | .ext .gix _, _, _, _, _, _, hn, _ => Bool.noConfusion hn
  | .ext (.gkey _) _, _, _, _, _, _, hn, _ => Bool.noConfusion hn
  | .ext (.mk _ _) _, _, _, _, _, _, hn, _ => Bool.noConfusion hn
  | .ext (.glo _ _) _, _, _, _, _, _, hn, _ => Bool.noConfusion hn
  | .ext .pow _, _, _, _, _, _, hn, _ => Bool.noConfusion hn
  | .ext .dmod _, _, _, _, _, _, hn, _ => Bool.noConfusion hn
  | .ext .sset _, _, _, _, _, _, hn, _ => Bool.noConfusion hn
  | .ext (.kin _ _ _ _) _, _, _, _, _, _, hn, _ => Bool.noConfusion hn
  | .ext (.kix _ _ _) _, _, _, _, _, _, hn, _ => Bool.noConfusion hn
  | .ext (.dsp _) _, _, _, _, _, _, hn, _ => Bool.noConfusion hn
  | .ext (.gsq .len) _, _, _, _, _, _, hn, _ => Bool.noConfusion hn
  | .ext (.gsq .sum) _, _, _, _, _, _, hn, _ => Bool.noConfusion hn
  | .ext (.gsq .all) _, _, _, _, _, _, hn, _ => Bool.noConfusion hn
  | .ext (.gsq .any) _, _, _, _, _, _, hn, _ => Bool.noConfusion hn
  | .ext (.gsq .max) _, _, _, _, _, _, hn, _ => Bool.noConfusion hn
  | .ext (.gsq .min) _, _, _, _, _, _, hn, _ => Bool.noConfusion hn
  | .ext (.gsq .tuple) _, _, _, _, _, _, hn, _ => Bool.noConfusion hn
theorem sA : ∀ (as : CA) (X : Cx) (sc : Scope) (es : List Expr), Cok X C k fs → X.env.scope = sc → chkA k as sc es = true → PA X es (rdA C (wA fs as))
  | .nil, X, sc, [], o, hs, h => pa_nilV
  | .nil, X, sc, _ :: _, o, hs, h => Bool.noConfusion h
  | .cons a r, X, sc, [], o, hs, h => Bool.noConfusion h
  | .cons a r, X, sc, e :: es, o, hs, h => by
    obtain ⟨h1, h2⟩ := b2 h
    obtain ⟨h2, h3⟩ := b2 h2
    exact pa_consV (sE a X sc e o hs h2).1 (sA r X sc es o hs h3) h1
theorem sO : ∀ (c : CO) (X : Cx) (sc : Scope) (e : Option Expr), Cok X C k fs → X.env.scope = sc → chkO k c sc e = true → PO X e (rdO C (wO fs c)) ∧ True
  | .no, X, sc, none, o, hs, h => ⟨po_noV, trivial⟩
  | .no, X, sc, some _, o, hs, h => Bool.noConfusion h
  | .some a, X, sc, none, o, hs, h => Bool.noConfusion h
  | .some a, X, sc, some e, o, hs, h => ⟨po_someV (sE a X sc e o hs (b2 h).2).1, trivial⟩
theorem sC : ∀ (c : CO) (X : Cx) (sc : Scope) (es : List Expr), Cok X C k fs → X.env.scope = sc → chkC k c sc es = true → PTs X es (rdB C (wT fs c))
  | .no, X, sc, [], o, hs, h => pts_noV
  | .no, X, sc, _ :: _, o, hs, h => Bool.noConfusion h
  | .some a, X, sc, [], o, hs, h => Bool.noConfusion h
  | .some a, X, sc, [e], o, hs, h => pts_one (pt_B (sE a X sc e o hs h).2.1)
  | .some a, X, sc, _ :: _ :: _, o, hs, h => Bool.noConfusion h
theorem sI : ∀ (c : CI) (X : Cx) (sc : Scope) (tg e : Expr), Cok X C k fs → X.env.scope = sc → chkI k c sc e = true → PI X tg e (rdI C (wI fs c))
  | .it a, X, sc, tg, e, o, hs, h => pi_itV o.hK (q_of (sE a X sc e o hs h).1 (hv_of o hs h))
  | .rng1 a, X, sc, tg, e, o, hs, h => by
    unfold chkI at h
    split at h <;> first | contradiction | exact Bool.noConfusion h | skip
    rename_i hc
    cases hc
    obtain ⟨h1, h2⟩ := b2 h
    obtain ⟨h2, h3⟩ := b2 h2
    obtain ⟨rfl, h4, h5⟩ := blt_ok o hs h1
    exact pi_rng1V h4 h5 (sE a X _ _ o hs h3).1 h2
  | .rngd a b, X, sc, tg, e, o, hs, h => by
    unfold chkI at h
    split at h <;> first | contradiction | exact Bool.noConfusion h | skip
    rename_i hc
    cases hc
    obtain ⟨h1, h2⟩ := b2 h
    obtain ⟨h2, h3⟩ := b2 h2
    obtain ⟨h3, h4⟩ := b2 h3
    obtain ⟨h4, h5⟩ := b2 h4
    obtain ⟨rfl, h6, h7⟩ := blt_ok o hs h1
    exact rdRg.i (pi_rngdR h6 h7 (sE a X _ _ o hs h4).1 (sE b X _ _ o hs h5).1 h2 h3)
  | .rng2 a b, X, sc, tg, e, o, hs, h => by
    unfold chkI at h
    split at h <;> first | contradiction | exact Bool.noConfusion h | skip
    rename_i hc
    cases hc
    obtain ⟨h1, h2⟩ := b2 h
    obtain ⟨h2, h3⟩ := b2 h2
    obtain ⟨h3, h4⟩ := b2 h3
    obtain ⟨h4, h5⟩ := b2 h4
    obtain ⟨rfl, h6, h7⟩ := blt_ok o hs h1
    exact pi_rng2V h6 h7 (sE a X _ _ o hs h4).1 (sE b X _ _ o hs h5).1 h2 h3
end
end
end VL
/-! Val: statements, their meaning. -/
namespace VL
open PySem PySem.Spec PyProof.Rows L2

inductive Ht where
  | seta (c x : Str) | gset | gput (s : Str)
mutual
inductive CT where
  | asg (i : Nat) (c : CE) | own (i : Nat) (c : CE) | own2 (i : Nat) (c : CE)
  | par (i j : Nat) (a b : CE) | parO (i j : Nat) (a b : CE) | unp (is : List Nat) (c : CE)
  | setix (i : Nat) (a e : CE) | setix2 (i : Nat) (a b e : CE) | app (i : Nat) (e : CE) | exp (c : CE)
  | ite (c : CE) (a b : CS) | whl (c : CE) (b : CS) | forr (tg : Tg) (it : CI) (b : CS)
  | ret (c : CE) | retN | brk | cont | pas
  | ext (h : Ht) (as : CA) | gfor (tg : Tg) (a : CE) (b : CS) | gpar (e1 e2 a i b j : CE) | gapp (a e : CE) | rais | aug (neg : Bool) (i : Nat) (e : CE) | parN (i j : Nat) (a b : CE)
inductive CS where
  | nil | seq (s : CT) (r : CS) | frz (i : Nat) (r : CS)
end

section
/-- what is wanted behind a statement -/
structure Po (G : Type) where
  nx : VL.Env → G → Prop
  rt : D → Nat → G → Prop
  bk : VL.Env → G → Prop := fun _ _ => False
  ct : VL.Env → G → Prop := fun _ _ => False
abbrev WSt (G : Type) := Po G → VL.Env → G → Prop
/-- a level that may be given to data of level l -/
def lvOk (d : D) (l l' : Nat) : Prop := 1 ≤ l' ∧ (l' ≤ l ∨ d.lf = true)
def whN (c : Wd G) (b : WSt G) : Nat → WSt G
  | 0, _, _, _ => False
  | n + 1, P, es, g => c es g fun d _ g1 => ∃ k, tru d = some k ∧ if k = true then b { P with nx := whN c b n P, ct := whN c b n P, bk := P.nx } es g1 else P.nx es g1
def foL (tg : Tg) (l : Nat) (b : WSt G) : List D → WSt G
  | [], P, es, g => P.nx es g
  | d :: ds, P, es, g => bindT tg d l es fun es' => b { P with nx := foL tg l b ds P, ct := foL tg l b ds P, bk := P.nx } es' g
def foG (tg : Tg) (p : Addr) (all : List D) (b : WSt G) : List D → WSt G
  | [], P, es, g => g p = some (.lst all) ∧ P.nx es g
  | d :: ds, P, es, g => g p = some (.lst all) ∧ bindT tg d 2 es fun es' => b { P with nx := foG tg p all b ds P, ct := foG tg p all b ds P, bk := P.nx } es' g
def putE (s : Str) (d : D) (kvs : List (Str × D)) : List (Str × D) := if (kvs.any fun kv => decide (kv.1 = s)) = true then kvs.map (fun kv => if kv.1 = s then (kv.1, d) else kv) else kvs ++ [(s, d)]
def hT : Ht → List D → G → (G → Prop) → Prop
  | .seta c x, [d, .obj p], g, Q => ∃ dx fs', g p = some (.ins c dx fs') ∧ d.lf = true ∧ fs'.length < 1000 ∧ Q (g.put p (.ins c dx (putD x d fs')))
  | .gset, [d, .obj p, .int j], g, Q => ∃ ds m, g p = some (.lst ds) ∧ ixN ds.length j = some m ∧ d.lf = true ∧ Q (g.put p (.lst (ds.set m d)))
  | .gput s, [d, .obj p], g, Q => ∃ kvs, g p = some (.dct kvs) ∧ d.lf = true ∧ kvs.length < sizeLine ∧ Q (g.put p (.dct (putE s d kvs)))
  | _, _, _, _ => False
/-- what a for walks: not one's own list -/
def wJ (fs : List (Nat × WF G)) : CI → VL.Env → G → (Bool → List D → Nat → G → Prop) → Prop
  | .it a, es, g, Q => wE fs a es g fun d l g' => (match d with
    | .lst ds => Q false ds l g'
    | .tup ds => Q true ds l g'
    | .frz ns => Q true (ns.map D.int) 2 g'
    | _ => False)
  | c, es, g, Q => wI fs c es g fun ds l g' => Q true ds l g'
mutual
def wC (fs : List (Nat × WF G)) : CT → WSt G
  | .asg i c, P, es, g => wE fs c es g fun d l g' => ∃ l', lvOk d l l' ∧ P.nx (es.set i (.dat d l')) g'
  | .own i c, P, es, g => wE fs c es g fun d l g' => ∃ ds l', d = .lst ds ∧ i < es.length ∧ 1 ≤ l' ∧ (l' ≤ l ∨ D.lfs ds = true) ∧ P.nx (es.set i (.own ds l')) g'
  | .own2 i c, P, es, g => wE fs c es g fun d l g' => ∃ dss, d = .lst (dss.map D.lst) ∧ i < es.length ∧ (∀ ds ∈ dss, D.lfs ds = true) ∧ P.nx (es.set i (.own2 dss 2)) g'
  | .par i j a b, P, es, g => wE fs a es g fun d1 l1 g1 => wE fs b es g1 fun d2 l2 g2 => ∃ m1 m2, lvOk d1 l1 m1 ∧ lvOk d2 l2 m2 ∧ P.nx ((es.set i (.dat d1 m1)).set j (.dat d2 m2)) g2
  | .parO i j a b, P, es, g => wE fs a es g fun d1 l1 g1 => wE fs b es g1 fun d2 l2 g2 => ∃ m1 ds m2, lvOk d1 l1 m1 ∧ d2 = .lst ds ∧ j < es.length ∧ 1 ≤ m2 ∧ (m2 ≤ l2 ∨ D.lfs ds = true) ∧ P.nx ((es.set i (.dat d1 m1)).set j (.own ds m2)) g2
  | .unp is c, P, es, g => wE fs c es g fun d l g' => ∃ ds l', d = .tup ds ∧ ds.length = is.length ∧ lvOk d l l' ∧ noOwn es is ∧ P.nx (setAll es is ds l') g'
  | .setix i a e, P, es, g => wE fs e es g fun d l g1 => ∃ ds lv, es[i]? = some (.own ds lv) ∧ wE fs a es g1 fun di _ g2 => ∃ j m, di = .int j ∧ ixN ds.length j = some m ∧ (lv ≤ l ∨ d.lf = true) ∧ P.nx (es.set i (.own (ds.set m d) lv)) g2
  | .setix2 i a b e, P, es, g => wE fs e es g fun d l g1 => ∃ dss lv, es[i]? = some (.own2 dss lv) ∧ wE fs a es g1 fun da _ g2 => ∃ ja ma ds, da = .int ja ∧ ixN dss.length ja = some ma ∧ dss[ma]? = some ds ∧ wE fs b es g2 fun db _ g3 => ∃ jb mb, db = .int jb ∧ ixN ds.length jb = some mb ∧ (lv ≤ l ∨ d.lf = true) ∧ P.nx (es.set i (.own2 (dss.set ma (ds.set mb d)) lv)) g3
  | .app i e, P, es, g => ∃ ds lv, es[i]? = some (.own ds lv) ∧ wE fs e es g fun d l g1 => ds.length < sizeLine ∧ (lv ≤ l ∨ d.lf = true) ∧ P.nx (es.set i (.own (ds ++ [d]) lv)) g1
  | .exp c, P, es, g => wE fs c es g fun _ _ g' => P.nx es g'
  | .ite c a b, P, es, g => wE fs c es g fun d _ g1 => ∃ k, tru d = some k ∧ if k = true then wS fs a P es g1 else wS fs b P es g1
  | .whl c b, P, es, g => ∃ n, whN (wE fs c) (wS fs b) n P es g
  | .forr tg it b, P, es, g => wJ fs it es g fun t ds l g1 => ∃ l', 1 ≤ l' ∧ (l' ≤ l ∨ (t = true ∧ D.lfs ds = true)) ∧ foL tg l' (wS fs b) ds P es g1
  | .ret c, P, es, g => wV c (wE fs c) es g P.rt
  | .retN, P, _, g => P.rt .non 2 g
  | .brk, P, es, g => P.bk es g
  | .cont, P, es, g => P.ct es g
  | .pas, P, es, g => P.nx es g
  | .ext h as, P, es, g => wA fs as es g fun ds _ g1 => hT h ds g1 fun g2 => P.nx es g2
  | .gfor tg a b, P, es, g => wE fs a es g fun d _ g1 => ∃ p ds, d = .obj p ∧ g1 p = some (.lst ds) ∧ foG tg p ds (wS fs b) ds P es g1
  | .gpar e1 e2 a i b j, P, es, g => wE fs e1 es g fun d1 _ g1 => wE fs e2 es g1 fun d2 _ g2 => wE fs a es g2 fun da _ g3 => wE fs i es g3 fun di _ g4 => hT .gset [d1, da, di] g4 fun g5 =>
      wE fs b es g5 fun db _ g6 => wE fs j es g6 fun dj _ g7 => hT .gset [d2, db, dj] g7 fun g8 => P.nx es g8
  | .gapp a e, P, es, g => wE fs a es g fun d1 _ g1 => ∃ p ds0, d1 = .obj p ∧ g1 p = some (.lst ds0) ∧ wE fs e es g1 fun d _ g2 => ∃ ds, g2 p = some (.lst ds) ∧ d.lf = true ∧ ds.length < sizeLine ∧ P.nx es (g2.put p (.lst (ds ++ [d])))
  | .rais, _, _, _ => False
  | .aug neg i e, P, es, g => ∃ n l, es[i]? = some (.dat (.int n) l) ∧ wE fs e es g fun d _ g1 => ∃ m, d = .int m ∧ P.nx (es.set i (.dat (.int (if neg = true then n - m else n + m)) 2)) g1
  | .parN i j a b, P, es, g => wE fs a es g fun d1 l1 g1 => wE fs b es g1 fun d2 l2 g2 => ∃ ds m1 m2, d1 = .lst ds ∧ i < es.length ∧ 1 ≤ m1 ∧ (m1 ≤ l1 ∨ D.lfs ds = true) ∧ lvOk d2 l2 m2 ∧ P.nx ((es.set i (.own ds m1)).set j (.dat d2 m2)) g2
def wS (fs : List (Nat × WF G)) : CS → WSt G
  | .nil, P, es, g => P.nx es g
  | .seq s r, P, es, g => wC fs s { P with nx := wS fs r P } es g
  | .frz i r, P, es, g => ∃ ds l, es[i]? = some (.own ds l) ∧ wS fs r P (es.set i (.dat (.lst ds) l)) g
end

/-! ### readings of statements -/
def Lv (es : VL.Env) : Prop := ∀ (i : Nat) (d : D) (l : Nat), es[i]? = some (.dat d l) → 1 ≤ l
variable (C : Vc G)
structure Pok (pins : List Pin) (P : Po G) (E : Ends) : Prop where
  nx : ∀ {es g ow σ H}, P.nx es g → Lv es → SR C pins [] ow es σ g H → E.nx σ H
  bk : ∀ {es g ow σ H}, P.bk es g → Lv es → SR C pins [] ow es σ g H → E.bk σ H
  ct : ∀ {es g ow σ H}, P.ct es g → Lv es → SR C pins [] ow es σ g H → E.ct σ H
  rt : ∀ {d l g v H}, P.rt d l g → Stp C.gh C.g0 C.H0 g H → Rp C.K H (Zt C g l) d v → E.rt v H
def PLv (pins : List Pin) : Prop := ∀ p ∈ pins, 1 ≤ p.l
def rdS (w : WSt G) : TS := fun E σ H => ∃ pins ow es g P, SR C pins [] ow es σ g H ∧ Lv es ∧ PLv pins ∧ w P es g ∧ Pok C pins P E
variable {C}
theorem _root_.L2.PS.wk {X : Cx} {s : Stmt} {t t' : TS} (h : PS X s t) (f : ∀ E σ H, t' E σ H → t E σ H) : PS X s t' := ⟨fun pins s σ H E I q => h.run pins s σ H E I (f E σ H q)⟩
theorem _root_.L2.PSs.wk {X : Cx} {s : List Stmt} {t t' : TS} (h : PSs X s t) (f : ∀ E σ H, t' E σ H → t E σ H) : PSs X s t' := ⟨fun pins s σ H E I q => h.run pins s σ H E I (f E σ H q)⟩

variable {pins : List Pin} {ex : List Addr} {ow : Nat → List Addr} {es : VL.Env} {σ : L2.St} {g g' : G} {H H' : Hp}
/-! ### a slot is set, whatever it held -/
def offO (ow : Nat → List Addr) (i : Nat) : Nat → List Addr := fun k => if k = i then [] else ow k
theorem offO_sub {i k : Nat} {a : Addr} (h : a ∈ offO ow i k) : a ∈ ow k := by
  unfold offO at h
  split at h
  · cases h
  · exact h
theorem Zl.off {i l : Nat} {a : Addr} (z : Zl C ex (offO ow i) g l a) : Zl C ex ow g l a := by
  rcases z with z | z | ⟨z, k, y⟩ | z
  · exact .inl z
  · exact .inr (.inl z)
  · exact .inr (.inr (.inl ⟨z, k, offO_sub y⟩))
  · exact .inr (.inr (.inr z))
/-- a slot forgets what it held -/
theorem SR.drop (S : SR C pins ex ow es σ g H) (i : Nat) (o : Option V) : SR C pins ex (offO ow i) (es.set i .no) (σ.set i o) g H where
  len := by rw [List.length_set, List.length_set]; exact S.len
  slot := fun k s e => by
    by_cases q : i = k
    · subst q
      by_cases hj : i < es.length
      · rw [List.getElem?_set_self hj] at e
        cases e
        show offO ow i i = []
        unfold offO
        rw [if_pos rfl]
      · rw [List.getElem?_eq_none (by rw [List.length_set]; omega)] at e
        cases e
    · rw [List.getElem?_set_ne q] at e
      rw [List.getElem?_set_ne q]
      have eo : offO ow i k = ow k := by
        unfold offO
        rw [if_neg (Ne.symm q)]
      rw [eo]
      have z := S.slot k s e
      cases s with
      | no => exact z
      | dat d l =>
        obtain ⟨z0, x, z1, z2⟩ := z
        exact ⟨z0, x, z1, z2.anti fun _ y => Zl.off y⟩
      | own ds l =>
        obtain ⟨a, xs, z1, z2, z3, z4, z5⟩ := z
        exact ⟨a, xs, z1, z2, z3, z4, z5.anti fun _ y => Zl.off y⟩
      | own2 dss l =>
        obtain ⟨a, rs, z1, z2, z3, z4, z5, z6⟩ := z
        refine ⟨a, rs, z1, z2, z3, z4, z5, fun m r ds h1 h2 => ?_⟩
        obtain ⟨xs, h3, h4⟩ := z6 m r ds h1 h2
        exact ⟨xs, h3, h4.anti fun _ y => Zl.off y⟩
  out := fun k h => by
    unfold offO
    split
    · rfl
    · exact S.out k (by rw [List.length_set] at h; exact h)
  own := fun k a h => S.own k a (offO_sub h)
  nd := fun k => by
    unfold offO
    split
    · exact List.nodup_nil
    · exact S.nd k
  dis := fun k j a h1 h2 => S.dis k j a (offO_sub h1) (offO_sub h2)
  exs := S.exs
  pin := fun p hp => by
    obtain ⟨h1, h2⟩ := S.pin p hp
    refine ⟨?_, h2.anti fun _ y => Zl.off y⟩
    by_cases ht : p.tupl = true
    · rw [if_pos ht] at h1 ⊢
      exact h1
    · rw [if_neg ht] at h1 ⊢
      rcases h1 with z | z
      · exact .inl ⟨fun y => z.1 (Zl.off y), z.2⟩
      · exact .inr z
  stp := S.stp
theorem Lv.set {i : Nat} {s : Sl} (h : Lv es) (hs : ∀ d l, s = Sl.dat d l → 1 ≤ l) : Lv (es.set i s) := fun k d l e => by
  by_cases q : i = k
  · subst q
    by_cases hj : i < es.length
    · rw [List.getElem?_set_self hj] at e
      exact hs d l (Option.some.inj e)
    · rw [List.getElem?_eq_none (by rw [List.length_set]; omega)] at e
      cases e
  · rw [List.getElem?_set_ne q] at e
    exact h k d l e
theorem noOwn_no {i : Nat} : noOwn (es.set i .no) [i] := fun k hk s e => by
  rw [List.mem_singleton.mp hk] at e
  by_cases hj : i < es.length
  · rw [List.getElem?_set_self hj] at e
    cases e
    trivial
  · rw [List.getElem?_eq_none (by rw [List.length_set]; omega)] at e
    cases e
/-- name = data -/
theorem SR.asgD (S : SR C pins ex ow es σ g H) {i : Nat} {d : D} {l l' : Nat} {v : V} (r : Rp C.K H (Zl C ex ow g l) d v) (hl : l' ≤ l ∨ d.lf = true) : SR C pins ex (offO ow i) (es.set i (.dat d l')) (σ.set i (some v)) g H := by
  have S1 := (S.drop i none).setD (j := i) (d := d) (l := l') (v := v) noOwn_no ((Rp.lf (l' := l') hl.symm r).anti fun _ y => Zl.off y)
  rw [List.set_set, List.set_set] at S1
  exact S1
/-- a new list becomes one's own -/
def onO (ow : Nat → List Addr) (i : Nat) (as : List Addr) : Nat → List Addr := fun k => if k = i then as else ow k
theorem onO_at {i : Nat} {as : List Addr} : onO ow i as i = as := if_pos rfl
theorem onO_ne {i k : Nat} {as : List Addr} (h : k ≠ i) : onO ow i as k = ow k := if_neg h
theorem Zl.on (s : Stp C.gh g H g' H') {i : Nat} {as : List Addr} (fr : ∀ a ∈ as, H a = none) {l : Nat} {a : Addr} (n : H a ≠ none) (z : Zl C ex (onO ow i as) g' l a) : Zl C ex ow g l a := by
  refine Zl.back s n ?_
  rcases z with z | z | ⟨z, k, y⟩ | z
  · exact .inl z
  · exact .inr (.inl z)
  · by_cases q : k = i
    · rw [q, onO_at] at y
      exact absurd (fr a y) n
    · rw [onO_ne q] at y
      exact .inr (.inr (.inl ⟨z, k, y⟩))
  · exact .inr (.inr (.inr z))
/-- new lists become one's own -/
theorem SR.asgN (S : SR C pins ex ow es σ g H) (st : Stp C.gh g H g' H') {i : Nat} {as : List Addr} {s : Sl} {v : V} (fr : ∀ a ∈ as, H a = none) (hr : ∀ a ∈ as, H' a ≠ none) (nf : ∀ a ∈ as, ¬ C.gh.fp g' a) (nd : as.Nodup) (hi : i < es.length)
    (ok : SlotOk C ex (onO ow i as) g' H' as (some (some v)) s) : SR C pins ex (onO ow i as) (es.set i s) (σ.set i (some v)) g' H' := by
  have kr : ∀ {l d v}, Rp C.K H (Zl C ex ow g l) d v → Rp C.K H' (Zl C ex (onO ow i as) g' l) d v := fun r => Rp.kp st.kp (fun _ z => .inl z) (fun _ n z => Zl.on st fr n z) r
  have kra : ∀ {l d v}, RpA C.K H (Zl C ex ow g l) d v → RpA C.K H' (Zl C ex (onO ow i as) g' l) d v := fun r => RpA.kp st.kp (fun _ z => .inl z) (fun _ n z => Zl.on st fr n z) r
  have kl : ∀ {k a xs}, a ∈ ow k → H a = some (.lst xs) → H' a = some (.lst xs) := fun {k a xs} m e => st.kp.keep a _ e fun z => absurd z (S.own k a m).2.2.1
  refine ⟨by rw [List.length_set, List.length_set]; exact S.len, fun k s' e => ?_, fun k h => ?_, fun k a h => ?_, fun k => ?_, fun k j a h1 h2 => ?_, (S.stp' st).exs, fun p hp => ?_, S.stp.trans st⟩
  · by_cases q : i = k
    · subst q
      rw [List.getElem?_set_self hi] at e
      cases e
      rw [List.getElem?_set_self (by rw [← S.len]; exact hi), onO_at]
      exact ok
    · rw [List.getElem?_set_ne q] at e
      rw [List.getElem?_set_ne q, onO_ne (Ne.symm q)]
      have z := S.slot k s' e
      cases s' with
      | no => exact z
      | dat d l =>
        obtain ⟨z0, x, z1, z2⟩ := z
        exact ⟨z0, x, z1, kr z2⟩
      | own ds l =>
        obtain ⟨a, xs, z1, z2, z3, z4, z5⟩ := z
        exact ⟨a, xs, z1, z2, kl (k := k) (by rw [z1]; exact List.mem_singleton.mpr rfl) z3, z4, kra z5⟩
      | own2 dss l =>
        obtain ⟨a, rs, z1, z2, z3, z4, z5, z6⟩ := z
        refine ⟨a, rs, z1, z2, kl (k := k) (by rw [z1]; exact List.mem_cons_self) z3, z4, z5, fun m r ds h1 h2 => ?_⟩
        obtain ⟨xs, h3, h4⟩ := z6 m r ds h1 h2
        exact ⟨xs, kl (k := k) (by rw [z1]; exact List.mem_cons_of_mem _ (List.mem_of_getElem? h1)) h3, kra h4⟩
  · rw [List.length_set] at h
    rw [onO_ne (by omega)]
    exact S.out k h
  · by_cases q : k = i
    · rw [q, onO_at] at h
      refine ⟨hr a h, S.stp.kp.fresh (fr a h), nf a h, fun z => ?_⟩
      exact (S.exs a z).1 (fr a h)
    · rw [onO_ne q] at h
      obtain ⟨z1, z2, z3, z4⟩ := S.own k a h
      refine ⟨st.kp.dom a z1, z2, fun z => ?_, z4⟩
      rcases st.fp a z with y | y
      · exact z3 y
      · exact z1 y
  · by_cases q : k = i
    · rw [q, onO_at]
      exact nd
    · rw [onO_ne q]
      exact S.nd k
  · by_cases q : k = i <;> by_cases q2 : j = i
    · rw [q, q2]
    · rw [q, onO_at] at h1
      rw [onO_ne q2] at h2
      exact absurd (fr a h1) (S.own j a h2).1
    · rw [q2, onO_at] at h2
      rw [onO_ne q] at h1
      exact absurd (fr a h2) (S.own k a h1).1
    · rw [onO_ne q] at h1
      rw [onO_ne q2] at h2
      exact S.dis k j a h1 h2
  · obtain ⟨h1, h2⟩ := S.pin p hp
    refine ⟨?_, kra h2⟩
    by_cases ht : p.tupl = true
    · rw [if_pos ht] at h1 ⊢
      exact st.kp.tup h1
    · rw [if_neg ht] at h1 ⊢
      rcases h1 with z | z
      · exact .inl (Ls.kp st.kp (fun _ z => .inl z) (fun _ n z => Zl.on st fr n z) z)
      · exact .inr (st.kp.frz z)
/-- one's own list is changed -/
theorem SR.putO (S : SR C pins [] ow es σ g H) (lv : Lv es) (pl : PLv pins) {i : Nat} {p : Addr} {xs ys : List V} {s : Sl} (hp : p ∈ ow i) (h : H p = some (.lst xs)) (hi : i < es.length)
    (ok : SlotOk C [] ow g (upd H p (.lst ys)) (ow i) σ[i]? s) : SR C pins [] ow (es.set i s) σ g (upd H p (.lst ys)) := by
  have zp : ∀ {l}, 1 ≤ l → Zl C [] ow g l p := fun h => .inr (.inr (.inl ⟨h, i, hp⟩))
  have kz : ∀ {l}, 1 ≤ l → Kp (Zl C [] ow g l) H (upd H p (.lst ys)) := fun h1 => Kp.put (zp h1) h fun z => z
  have kr : ∀ {l d v}, 1 ≤ l → Rp C.K H (Zl C [] ow g l) d v → Rp C.K (upd H p (.lst ys)) (Zl C [] ow g l) d v := fun h1 r => Rp.kp (kz h1) (fun _ z => z) (fun _ _ z => z) r
  have kra : ∀ {l d v}, 1 ≤ l → RpA C.K H (Zl C [] ow g l) d v → RpA C.K (upd H p (.lst ys)) (Zl C [] ow g l) d v := fun h1 r => RpA.kp (kz h1) (fun _ z => z) (fun _ _ z => z) r
  obtain ⟨e1, e2, e3, _⟩ := S.own i p hp
  have on : ∀ k a, k ≠ i → a ∈ ow k → a ≠ p := fun k a hk ha z => hk (S.dis k i p (by rw [← z]; exact ha) hp)
  have dm : ∀ a, H a ≠ none → upd H p (.lst ys) a ≠ none := (kz (Nat.le_refl 1)).dom
  refine ⟨by rw [List.length_set]; exact S.len, fun k s' e => ?_, fun k h => S.out k (by rw [List.length_set] at h; exact h), fun k a ha => ?_, S.nd, S.dis, (fun a ha => nomatch ha), fun q hq => ?_, ?_⟩
  · by_cases q : i = k
    · subst q
      rw [List.getElem?_set_self hi] at e
      cases e
      exact ok
    · rw [List.getElem?_set_ne q] at e
      have z := S.slot k s' e
      cases s' with
      | no => exact z
      | dat d l =>
        obtain ⟨z0, x, z1, z2⟩ := z
        exact ⟨z0, x, z1, kr (lv k d l e) z2⟩
      | own ds l =>
        obtain ⟨a, zs, z1, z2, z3, z4, z5⟩ := z
        exact ⟨a, zs, z1, z2, by rw [upd_ne (on k a (Ne.symm q) (by rw [z1]; exact List.mem_singleton.mpr rfl))]; exact z3, z4, kra z4 z5⟩
      | own2 dss l =>
        obtain ⟨a, rs, z1, z2, z3, z4, z5, z6⟩ := z
        refine ⟨a, rs, z1, z2, by rw [upd_ne (on k a (Ne.symm q) (by rw [z1]; exact List.mem_cons_self))]; exact z3, z4, z5, fun m r ds h1 h2 => ?_⟩
        obtain ⟨zs, h3, h4⟩ := z6 m r ds h1 h2
        exact ⟨zs, by rw [upd_ne (on k r (Ne.symm q) (by rw [z1]; exact List.mem_cons_of_mem _ (List.mem_of_getElem? h1)))]; exact h3, kra z4 h4⟩
  · obtain ⟨h1, h2, h3, h4⟩ := S.own k a ha
    exact ⟨dm a h1, h2, h3, h4⟩
  · obtain ⟨h1, h2⟩ := S.pin q hq
    refine ⟨?_, kra (pl q hq) h2⟩
    by_cases ht : q.tupl = true
    · rw [if_pos ht] at h1 ⊢
      exact (kz (Nat.le_refl 1)).tup h1
    · rw [if_neg ht] at h1 ⊢
      rcases h1 with z | z
      · exact .inl (Ls.kp (kz (pl q hq)) (fun _ z => z) (fun _ _ z => z) z)
      · exact .inr ((kz (Nat.le_refl 1)).frz z)
  · have k0 := S.stp.kp
    refine ⟨⟨fun a o ha hi => ?_, fun a ha => dm a (k0.dom a ha)⟩, Gh.put S.stp.ok h e3, S.stp.fp⟩
    have na : a ≠ p := fun z => by
      rw [z, e2] at ha
      cases ha
    rw [upd_ne na]
    exact k0.keep a o ha hi
/-- one's own list is given away: it is data from now on -/
theorem SR.freeze (S : SR C pins [] ow es σ g H) {i : Nat} {ds : List D} {l : Nat} (e : es[i]? = some (.own ds l)) : SR C pins [] (offO ow i) (es.set i (.dat (.lst ds) l)) σ g H := by
  have hi := (List.getElem?_eq_some_iff.mp e).1
  obtain ⟨a, xs, q1, q2, q3, q4, q5⟩ := S.slot i _ e
  obtain ⟨o1, o2, o3, o4⟩ := S.own i a (by rw [q1]; exact List.mem_singleton.mpr rfl)
  have S1 := S.drop i (some (.ref a))
  have es1 : σ.set i (some (V.ref a)) = σ := by
    refine List.ext_getElem? fun k => ?_
    by_cases q : i = k
    · subst q
      rw [List.getElem?_set_self (by rw [← S.len]; exact hi)]
      exact q2.symm
    · rw [List.getElem?_set_ne q]
  have r : Rp C.K H (Zl C [] (offO ow i) g l) (.lst ds) (.ref a) := by
    refine .lst ⟨fun z => ?_, q3⟩ (q5.anti fun _ y => Zl.off y)
    rcases z with z | z | ⟨z, k, y⟩ | ⟨z, _⟩
    · exact o3 z
    · cases z
    · have hk := S.dis k i a (offO_sub y) (by rw [q1]; exact List.mem_singleton.mpr rfl)
      subst hk
      unfold offO at y
      rw [if_pos rfl] at y
      cases y
    · exact z o2
  have S2 := S1.setD (j := i) (v := .ref a) noOwn_no r
  rw [List.set_set, es1, es1] at S2
  exact S2
end
end VL
/-! Val: readings of statements. -/
namespace VL
open PySem PySem.Spec PyProof.Rows L2

section
variable {C : Vc G} {X : Cx} {k : Ck} {fs : List (Nat × WF G)} {e ea eb ec : Expr} {wa wb wc : Wd G} {pos : Pos} {as : List Expr} {wl : Wls G} {wq : Ws G}
  {pins : List Pin} {ex : List Addr} {ow : Nat → List Addr} {es : VL.Env} {σ : L2.St} {g g' : G} {H H' : Hp}
/-! ### statements -/
theorem rt_zt {l : Nat} {d : D} {v : V} (r : Rw C ex ow g H l d v) : Rp C.K H (Zt C g l) d v := by
  cases d with
  | lst ds =>
    obtain ⟨a, xs, rfl, h1, h2⟩ := r
    exact .lst h1 (h2.anti fun _ z => Zt.zl z)
  | non => exact Rp.anti (fun _ z => Zt.zl z) r
  | bl b => exact Rp.anti (fun _ z => Zt.zl z) r
  | int i => exact Rp.anti (fun _ z => Zt.zl z) r
  | str x => exact Rp.anti (fun _ z => Zt.zl z) r
  | tup ds => exact Rp.anti (fun _ z => Zt.zl z) r
  | obj a => exact Rp.anti (fun _ z => Zt.zl z) r
  | frz a => exact Rp.anti (fun _ z => Zt.zl z) r
theorem ps_retV (h : PE X ea (rdV C wa)) : PS X (.Return (some ea) pos) (rdS C fun P es g => wa es g P.rt) := (ps_ret h).wk fun E σ H q => by
  obtain ⟨pins, ow, es, g, P, S, lv, pl, hw, pk⟩ := q
  exact ⟨pins, [], ow, es, g, _, S, hw, fun d l g' v H' p s r => pk.rt p (S.stp.trans s) (rt_zt r)⟩
theorem ps_retNV : PS X (.Return none pos) (rdS C fun P _ g => P.rt .non 2 g) := ps_retN.wk fun E σ H q => by
  obtain ⟨pins, ow, es, g, P, S, lv, pl, hw, pk⟩ := q
  exact pk.rt hw S.stp .non
theorem ps_expV (h : PE X ea (rd C wa)) (hs : swapsWith ea none pos.line X.env = pure false) : PS X (.Expr ea pos) (rdS C fun P es g => wa es g fun _ _ g' => P.nx es g') := (ps_expr h hs).wk fun E σ H q => by
  obtain ⟨pins, ow, es, g, P, S, lv, pl, hw, pk⟩ := q
  exact ⟨pins, [], ow, es, g, _, S, hw, fun d l g' v H' p s r => pk.nx p lv (S.stp' s)⟩
theorem ps_iteV {a b : List Stmt} {ta tb : WSt G} (hc : PT X ec (rdT C wc)) (ha : PSs X a (rdS C ta)) (hb : PSs X b (rdS C tb)) : PS X (.If ec a b pos) (rdS C fun P es g => wc es g fun d _ g1 => ∃ k, tru d = some k ∧ if k = true then ta P es g1 else tb P es g1) :=
  (ps_if hc ha hb).wk fun E σ H q => by
    obtain ⟨pins, ow, es, g, P, S, lv, pl, hw, pk⟩ := q
    refine ⟨pins, [], ow, es, g, _, S, hw, fun d l g1 p1 => ?_⟩
    obtain ⟨c, hc, p⟩ := p1
    refine ⟨c, hc, fun H1 s1 => ?_⟩
    cases c with
    | true => exact ⟨pins, ow, es, g1, P, S.stp' s1, lv, pl, p, pk⟩
    | false => exact ⟨pins, ow, es, g1, P, S.stp' s1, lv, pl, p, pk⟩
theorem pss_nilV : PSs X [] (rdS C fun P es g => P.nx es g) := pss_nil.wk fun E σ H q => by
  obtain ⟨pins, ow, es, g, P, S, lv, pl, hw, pk⟩ := q
  exact pk.nx hw lv S
theorem pss_consV {s : Stmt} {r : List Stmt} {ts tr : WSt G} (hs : PS X s (rdS C ts)) (hr : PSs X r (rdS C tr)) : PSs X (s :: r) (rdS C fun P es g => ts { P with nx := tr P } es g) := (pss_cons hs hr).wk fun E σ H q => by
  obtain ⟨pins, ow, es, g, P, S, lv, pl, hw, pk⟩ := q
  exact ⟨pins, ow, es, g, _, S, lv, pl, hw, ⟨fun p lv' S' => ⟨pins, _, _, _, P, S', lv', pl, p, pk⟩, pk.bk, pk.ct, pk.rt⟩⟩
theorem pss_frzV {r : List Stmt} {i : Nat} {tr : WSt G} (hr : PSs X r (rdS C tr)) : PSs X r (rdS C fun P es g => ∃ ds l, es[i]? = some (.own ds l) ∧ tr P (es.set i (.dat (.lst ds) l)) g) := hr.wk fun E σ H q => by
  obtain ⟨pins, ow, es, g, P, S, lv, pl, ⟨ds, l, he, hw⟩, pk⟩ := q
  refine ⟨pins, _, _, g, P, S.freeze he, lv.set fun d l' z => ?_, pl, hw, pk⟩
  cases z
  obtain ⟨a, xs, q1, q2, q3, q4, q5⟩ := S.slot i _ he
  exact q4
theorem ps_brkV : PS X (.Break pos) (rdS C fun P es g => P.bk es g) := ps_break.wk fun E σ H q => by
  obtain ⟨pins, ow, es, g, P, S, lv, pl, hw, pk⟩ := q
  exact pk.bk hw lv S
theorem ps_contV : PS X (.Continue pos) (rdS C fun P es g => P.ct es g) := ps_continue.wk fun E σ H q => by
  obtain ⟨pins, ow, es, g, P, S, lv, pl, hw, pk⟩ := q
  exact pk.ct hw lv S
theorem ps_pasV : PS X (.Pass pos) (rdS C fun P es g => P.nx es g) := ps_pass.wk fun E σ H q => by
  obtain ⟨pins, ow, es, g, P, S, lv, pl, hw, pk⟩ := q
  exact pk.nx hw lv S
/-- name = data: the reading of any road to it -/
theorem asg_rd {i : Nat} {te : TE} (h : ∀ {σ H} {Q : VK}, rd C wa σ H Q → te σ H Q) {E : Ends} {H : Hp} (q : rdS C (fun P es g => wa es g fun d l g' => ∃ l', lvOk d l l' ∧ P.nx (es.set i (.dat d l')) g') E σ H) : tAsg te (gName i) E σ H := by
  obtain ⟨pins, ow, es, g, P, S, lv, pl, hw, pk⟩ := q
  refine h ⟨pins, [], ow, es, g, _, S, hw, fun d l g' v H' p s r => ?_⟩
  obtain ⟨l', hl, p⟩ := p
  exact pk.nx p (lv.set fun d' l'' z => by cases z; exact hl.1) ((S.stp' s).asgD r hl.2)
/-- name = a new list of one's own -/
theorem own_rd {i : Nat} {te : TE} (h : ∀ {σ H} {Q : VK}, rdN C wa σ H Q → te σ H Q) {E : Ends} {H : Hp}
    (q : rdS C (fun P es g => wa es g fun d l g' => ∃ ds l', d = .lst ds ∧ i < es.length ∧ 1 ≤ l' ∧ (l' ≤ l ∨ D.lfs ds = true) ∧ P.nx (es.set i (.own ds l')) g') E σ H) : tAsg te (gName i) E σ H := by
  obtain ⟨pins, ow, es, g, P, S, lv, pl, hw, pk⟩ := q
  refine h ⟨pins, [], ow, es, g, _, S, hw, fun ds l g' p xs H' pp s hp nf hpp ra => ?_⟩
  obtain ⟨ds', l', e, hi, h1, hl, pp⟩ := pp
  cases e
  refine pk.nx pp (lv.set fun _ _ z => nomatch z) (S.asgN s (as := [p]) (s := .own ds l') (v := .ref p) (fun a ha => ?_) (fun a ha => ?_) (fun a ha => ?_) (by simp) hi ⟨p, xs, rfl, rfl, hpp, h1, ?_⟩)
  · rw [List.mem_singleton.mp ha]; exact hp
  · rw [List.mem_singleton.mp ha, hpp]; intro z; cases z
  · rw [List.mem_singleton.mp ha]; exact nf
  · have conv : ∀ a, Zl C [] (onO ow i [p]) g' l a → Zl C [p] ow g' l a := fun a z => by
      rcases z with z | z | ⟨z, k, y⟩ | z
      · exact .inl z
      · cases z
      · by_cases q : k = i
        · rw [q, onO_at] at y
          exact .inr (.inl y)
        · rw [onO_ne q] at y
          exact .inr (.inr (.inl ⟨z, k, y⟩))
      · exact .inr (.inr (.inr z))
    have ra2 := ra.anti conv
    rcases hl with hl | hl
    · exact ra2.low hl
    · exact RpA.flat (fun _ _ q => q) (fun _ _ q => q) ds xs hl ra2
theorem zl_lv {ow' : Nat → List Addr} {l l' : Nat} {ds : List D} {xs : List V} {d : D} {v : V} (r : Rp C.K H (Zl C [] ow g l) d v) (hl : l' ≤ l ∨ d.lf = true) : Rp C.K H (Zl C [] ow g l') d v := Rp.lf hl.symm r
/-- a change of one's own list by a new content -/
theorem own_put (S : SR C pins [] ow es σ g H) (lv : Lv es) (pl : PLv pins) {i : Nat} {a : Addr} {xs ys : List V} {ds' : List D} {l : Nat} (hi : i < es.length) (q1 : ow i = [a]) (q2 : σ[i]? = some (some (.ref a))) (q3 : H a = some (.lst xs)) (q4 : 1 ≤ l)
    (r : RpA C.K H (Zl C [] ow g l) ds' ys) : SR C pins [] ow (es.set i (.own ds' l)) σ g (upd H a (.lst ys)) := by
  have ha : a ∈ ow i := by rw [q1]; exact List.mem_singleton.mpr rfl
  refine S.putO lv pl ha q3 hi ⟨a, ys, q1, q2, upd_same, q4, ?_⟩
  exact RpA.kp (Z := Zl C [] ow g l) (Kp.put (.inr (.inr (.inl ⟨q4, i, ha⟩))) q3 fun z => z) (fun _ z => z) (fun _ _ z => z) r
/-- x[i] = e, x one's own -/
theorem ps_setixV {x : Str} {px p2 : Pos} {i : Nat} (hx : PE X (.Name x px) (tVar i)) (ha : PE X ea (rd C wa)) (hb : PE X eb (rd C wb)) (hs : nsl ea = true) (hsw : swapsWithSole [.Subscript (.Name x px) ea p2] eb pos.line X.env = pure false) (hst : swappedStores [.Subscript (.Name x px) ea p2] eb X.env = pure none) :
    PS X (.Assign [.Subscript (.Name x px) ea p2] eb pos) (rdS C fun P es g => wb es g fun d l g1 => ∃ ds lv, es[i]? = some (.own ds lv) ∧ wa es g1 fun di _ g2 => ∃ j m, di = .int j ∧ ixN ds.length j = some m ∧ (lv ≤ l ∨ d.lf = true) ∧ P.nx (es.set i (.own (ds.set m d) lv)) g2) := by
  have hpg : PG X (.Subscript (.Name x px) ea p2) (gSub (tVar i) (rd C wa) rSetL) := pg_sub hx ha set_list (fun v => by
    cases ea <;> first | rfl | (rename_i l u st q; cases st <;> first | rfl | cases hs))
  refine (ps_asg hb hpg hsw hst rfl).wk fun E σ H q => ?_
  obtain ⟨pins, ow, es, g, P, S, lv, pl, hw, pk⟩ := q
  refine ⟨pins, [], ow, es, g, _, S, hw, fun d l g1 v H1 p1 s1 r1 => ?_⟩
  have S1 := S.stp' s1
  obtain ⟨ds, l', he, p1⟩ := p1
  obtain ⟨a, xs, q1, q2, q3, q4, q5⟩ := S1.slot i _ he
  refine ⟨.ref a, q2, pins, [], ow, es, g1, _, S1, p1, fun di l2 g2 iv H2 p2 s2 r2 => ?_⟩
  obtain ⟨j, m, rfl, hm, hl, p⟩ := p2
  cases r2
  have S2 := S1.stp' s2
  have h3 : H2 a = some (.lst xs) := s2.kp.keep a _ q3 fun z => absurd z (S1.own i a (by rw [q1]; exact List.mem_singleton.mpr rfl)).2.2.1
  have r5 := q5.stp s2
  refine ⟨a, xs, j, m, rfl, rfl, h3, by rw [← r5.len]; exact hm, pk.nx p (lv.set fun _ _ z => nomatch z) (own_put S2 lv pl (List.getElem?_eq_some_iff.mp he).1 q1 q2 h3 q4 (r5.set m (Rp.lf hl.symm (r1.stp s2))))⟩
/-- x.append(e), x one's own -/
theorem ps_appV (hK : X.K = C.K) {x : Str} {px p2 p3 : Pos} {i : Nat} (hx : PE X (.Name x px) (tVar i)) (hb : PE X eb (rd C wb)) (hn : nst eb = true) (hl : (p2.endLine == p3.line) = true) :
    PS X (.Expr (.Call (.Attribute (.Name x px) "append" p2) [eb] [] p3) pos) (rdS C fun P es g => ∃ ds lv, es[i]? = some (.own ds lv) ∧ wb es g fun d l g1 => ds.length < sizeLine ∧ (lv ≤ l ∨ d.lf = true) ∧ P.nx (es.set i (.own (ds ++ [d]) lv)) g1) := by
  have few : ((backTo p3 (starEach [eb] X.env)).all (fun x => !x.1) && (backToKw p3 (keywordEach [] X.env)).all (fun x => x.1.isSome) && decide (([eb] : List Expr).length + ([] : List Keyword).length + (if ([] : List Keyword).isEmpty then 0 else 1) < 30)) = true := by
    rw [star_cons hn]
    rfl
  refine (ps_expr (pe_bm PySem.F.plainAttrs_list PySem.F.slot_list_append PySem.F.type_list_append mt_append hx (pa_cons hb pa_nil (star_cons hn)) rfl few hl (star_cons hn) rfl) rfl).wk fun E σ H q => ?_
  obtain ⟨pins, ow, es, g, P, S, lv, pl, hw, pk⟩ := q
  obtain ⟨ds, l', he, hw⟩ := hw
  obtain ⟨a, xs, q1, q2, q3, q4, q5⟩ := S.slot i _ he
  rw [hK]
  refine ⟨.ref a, q2, .inl ⟨rfl, xs, SqL.of q3⟩, pins, [], ow, es, g, _, S, hw, fun d l g1 v H1 p1 s1 r1 => ?_⟩
  obtain ⟨hz, hl, p⟩ := p1
  have S1 := S.stp' s1
  have h3 : H1 a = some (.lst xs) := s1.kp.keep a _ q3 fun z => absurd z (S.own i a (by rw [q1]; exact List.mem_singleton.mpr rfl)).2.2.1
  have r5 := q5.stp s1
  exact ⟨a, xs, v, rfl, rfl, h3, by rw [← r5.len]; exact hz, pk.nx p (lv.set fun _ _ z => nomatch z) (own_put S1 lv pl (List.getElem?_eq_some_iff.mp he).1 q1 q2 h3 q4 (r5.snoc (Rp.lf hl.symm r1)))⟩
/-- while -/
theorem ps_whlV {b : List Stmt} {tb : WSt G} (hxe : X.xe = fun _ _ => False) (hc : PT X ec (rdT C wc)) (hb : PSs X b (rdS C tb)) : PS X (.While ec b [] pos) (rdS C fun P es g => ∃ n, whN wc tb n P es g) := by
  refine (ps_while (by rw [hxe]; exact PassesOwn.never) hc hb).wk fun E σ H q => ?_
  obtain ⟨pins, ow, es, g, P, S, lv, pl, ⟨n, hw⟩, pk⟩ := q
  refine ⟨fun m σ' H' => ∃ ow' es' g', SR C pins [] ow' es' σ' g' H' ∧ Lv es' ∧ whN wc tb m P es' g', ⟨n, ow, es, g, S, lv, hw⟩, ?_⟩
  rintro m σ' H' ⟨ow', es', g', S', lv', hm⟩
  cases m with
  | zero => exact hm.elim
  | succ m =>
    refine ⟨pins, [], ow', es', g', _, S', hm, fun d l g1 p1 => ?_⟩
    obtain ⟨c, hc, p⟩ := p1
    refine ⟨c, hc, fun H1 s1 => ?_⟩
    cases c with
    | false => exact pk.nx p lv' (S'.stp' s1)
    | true =>
      refine ⟨fun σ2 H2 => ∃ ow2 es2 g2, SR C pins [] ow2 es2 σ2 g2 H2 ∧ Lv es2 ∧ whN wc tb m P es2 g2, fun σ2 H2 z => ⟨m, Nat.lt_succ_self m, z⟩, pins, ow', es', g1, _, S'.stp' s1, lv', pl, p, ?_⟩
      exact ⟨fun z lv2 S2 => ⟨_, _, _, S2, lv2, z⟩, fun z lv2 S2 => pk.nx z lv2 S2, fun z lv2 S2 => ⟨_, _, _, S2, lv2, z⟩, pk.rt⟩
/-- what a for walks, kept by a pin -/
def rdJ (C : Vc G) (w : VL.Env → G → (Bool → List D → Nat → G → Prop) → Prop) : TI := fun σ H R => ∃ pins ex ow es g P, SR C pins ex ow es σ g H ∧ w es g P ∧
  ∀ t ds l g' H' J, P t ds l g' → Stp C.gh g H g' H' → (RgJ J ds ∨
    ∃ a xs tu, (J = if tu = true then Itt C.K a else Itl C.K a) ∧ (if tu = true then SqT C.K H' a xs else (t = false ∧ Ls H' (Zl C ex ow g' l) a xs) ∨ SqF C.K H' a xs) ∧ RpA C.K H' (Zl C ex ow g' l) ds xs) → R J H'
theorem pi_J1 (hK : X.K = C.K) {tg : Expr} (ha : PE X ea (rd C wa)) : PI X tg ea (rdJ C fun es g Q => wa es g fun d l g' => (match d with
    | .lst ds => Q false ds l g'
    | .tup ds => Q true ds l g'
    | .frz ns => Q true (ns.map D.int) 2 g'
    | _ => False)) := by
  refine (pi_seq ha).wk fun σ H R q => ?_
  obtain ⟨pins, ex, ow, es, g, P, S, hw, k⟩ := q
  rw [hK]
  refine ⟨pins, ex, ow, es, g, _, S, hw, fun d l g1 v H1 p1 s1 r1 => ?_⟩
  cases d with
  | lst ds =>
    cases r1 with
    | lst h1 h2 => exact ⟨_, rfl, .inl ⟨⟨_, h1.sq⟩, k _ _ _ _ H1 _ p1 s1 (.inr ⟨_, _, false, rfl, .inl ⟨rfl, h1⟩, h2⟩)⟩⟩
  | tup ds =>
    cases r1 with
    | tup h1 h2 => exact ⟨_, rfl, .inr ⟨⟨_, h1⟩, k _ _ _ _ H1 _ p1 s1 (.inr ⟨_, _, true, rfl, h1, h2⟩)⟩⟩
  | frz ns =>
    cases r1 with
    | frz h1 => exact ⟨_, rfl, .inl ⟨⟨_, h1.sq⟩, k _ _ _ _ H1 _ p1 s1 (.inr ⟨_, _, false, rfl, .inr h1, RpA.of_ints ns⟩)⟩⟩
  | _ => exact p1.elim
theorem sJ (it : CI) (sc : Scope) (tg e : Expr) (o : Cok X C k fs) (hs : X.env.scope = sc) (h : chkI k it sc e = true) : PI X tg e (rdJ C (wJ fs it)) := by
  cases it with
  | it a => exact pi_J1 o.hK (sE a X sc e o hs h).1
  | rng1 a =>
    unfold chkI at h
    split at h <;> first | contradiction | exact Bool.noConfusion h | skip
    rename_i hc
    cases hc
    obtain ⟨h1, h2⟩ := b2 h
    obtain ⟨h2, h3⟩ := b2 h2
    obtain ⟨rfl, h4, h5⟩ := blt_ok o hs h1
    have h4 : Gl X "range" := h4
    refine (pi_range1 h4 h5 (pa_cons (sE a X _ _ o hs h3).1 pa_nil (star_cons h2)) (star_cons h2)).wk fun σ H R q => ?_
    obtain ⟨pins, ex, ow, es, g, P, S, hw, k⟩ := q
    refine ⟨pins, ex, ow, es, g, _, S, hw, fun d l g1 v H1 p1 s1 r1 => ?_⟩
    obtain ⟨j, rfl, hj, p⟩ := p1
    cases r1
    exact ⟨j, rfl, hj.1, hj.2, k _ _ _ _ H1 _ p s1 (.inl (.inl ⟨0, j, by rw [Int.sub_zero], rfl⟩))⟩
  | rngd a b =>
    unfold chkI at h
    split at h <;> first | contradiction | exact Bool.noConfusion h | skip
    rename_i hc
    cases hc
    obtain ⟨h1, h2⟩ := b2 h
    obtain ⟨h2, h3⟩ := b2 h2
    obtain ⟨h3, h4⟩ := b2 h3
    obtain ⟨h4, h5⟩ := b2 h4
    obtain ⟨rfl, h6, h7⟩ := blt_ok o hs h1
    refine (pi_rngdR h6 h7 (sE a X _ _ o hs h4).1 (sE b X _ _ o hs h5).1 h2 h3).wk fun σ H R z => ?_
    obtain ⟨pins, ex, ow, es, g, P, S, hw, kk⟩ := z
    exact ⟨pins, ex, ow, es, g, _, S, hw, fun ds l g' H' J p st it => kk true ds l g' H' J p st (.inl it)⟩
  | rng2 a b =>
    unfold chkI at h
    split at h <;> first | contradiction | exact Bool.noConfusion h | skip
    rename_i hc
    cases hc
    obtain ⟨h1, h2⟩ := b2 h
    obtain ⟨h2, h3⟩ := b2 h2
    obtain ⟨h3, h4⟩ := b2 h3
    obtain ⟨h4, h5⟩ := b2 h4
    obtain ⟨rfl, h6, h7⟩ := blt_ok o hs h1
    have h6 : Gl X "range" := h6
    have he : ∀ {e1 e2 : Expr}, nst e1 = true → nst e2 = true → starEach [e1, e2] X.env = [(false, eval e1 X.env), (false, eval e2 X.env)] := fun n1 n2 => by
      rw [star_cons n1, star_cons n2] <;> rfl
    refine (pi_range2 h6 h7 (pa_cons (sE a X _ _ o hs h4).1 (pa_cons (sE b X _ _ o hs h5).1 pa_nil (star_cons h3)) (star_cons h2)) (he h2 h3) (star_cons h3)).wk fun σ H R q => ?_
    obtain ⟨pins, ex, ow, es, g, P, S, hw, k⟩ := q
    refine ⟨pins, ex, ow, es, g, _, S, hw, fun d l g1 v H1 p1 s1 r1 => ⟨pins, ex, ow, es, g1, _, S.stp' s1, p1, fun d2 l2 g2 v2 H2 p2 s2 r2 => ?_⟩⟩
    obtain ⟨i, j, rfl, rfl, hi, hj, p⟩ := p2
    cases r1
    cases r2
    exact ⟨i, j, rfl, ⟨hi.1, hi.2, hj.1, hj.2⟩, k _ _ _ _ H2 _ p (s1.trans s2) (.inl (.inl ⟨i, j, rfl, rfl⟩))⟩
theorem SR.unpin {p : Pin} (S : SR C (p :: pins) ex ow es σ g H) : SR C pins ex ow es σ g H := ⟨S.len, S.slot, S.out, S.own, S.nd, S.dis, S.exs, fun q hq => S.pin q (List.mem_cons_of_mem _ hq), S.stp⟩
theorem SR.addpin {p : Pin} (S : SR C pins ex ow es σ g H) (h : PinOk C ex ow g H p) : SR C (p :: pins) ex ow es σ g H := ⟨S.len, S.slot, S.out, S.own, S.nd, S.dis, S.exs, fun q hq => by
  rcases List.mem_cons.mp hq with z | z
  · rw [z]; exact h
  · exact S.pin q z, S.stp⟩
theorem setAll_lv : ∀ {js : List Nat} {ds : List D} {l : Nat} {es : VL.Env}, 1 ≤ l → Lv es → Lv (setAll es js ds l)
  | [], ds, l, es, h, lv => by cases ds <;> exact lv
  | j :: js, [], l, es, h, lv => lv
  | j :: js, d :: ds, l, es, h, lv => setAll_lv (js := js) (ds := ds) (es := es.set j (.dat d l)) h (lv.set fun _ _ z => by cases z; exact h)
theorem bindT_lv {tg : Tg} {d : D} {l : Nat} {kk : VL.Env → Prop} (h : bindT tg d l es kk) (h1 : 1 ≤ l) (lv : Lv es) : bindT tg d l es fun es' => kk es' ∧ Lv es' := by
  cases tg with
  | name j => exact ⟨h.1, h.2, lv.set fun _ _ z => by cases z; exact h1⟩
  | tup js =>
    obtain ⟨ds, e, hl, hn, hk⟩ := h
    exact ⟨ds, e, hl, hn, hk, setAll_lv h1 lv⟩
/-- the loop, whatever keeps its items in sight -/
theorem for_main {tg : Tg} {J : It} {ds : List D} {l' : Nat} {tb : WSt G} {P : Po G} {E : Ends} {pins0 pins' : List Pin} (h1 : 1 ≤ l') (plv : PLv pins') (pk : Pok C pins0 P E) (un : ∀ {ow es σ g H}, SR C pins' [] ow es σ g H → SR C pins0 [] ow es σ g H)
    (it : ∀ {ow es σ g H}, SR C pins' [] ow es σ g H → ItAt C [] ow g H ds l' J) (S : SR C pins' [] ow es σ g H) (lv : Lv es) (hf : foL tg l' tb ds P es g) :
    ∃ W : Nat → Nat → L2.St → Hp → Prop, (∃ m, W 0 m σ H) ∧ ∀ i m σ H, W i m σ H →
      (J.stop i H ∧ E.nx σ H) ∨ (J.go i H ∧ ∃ N : L2.St → Hp → Prop, (∀ σ' H', N σ' H' → ∃ m', m' < m ∧ W (i + 1) m' σ' H') ∧ ∀ x H', J.yld i H x H' → gTg C.K tg x σ H' fun σ2 H2 => rdS C tb { E with nx := N, ct := N, bk := E.nx } σ2 H2) := by
  refine ⟨fun i m σ' H' => m = ds.length - i ∧ i ≤ ds.length ∧ ∃ ow' es' g', SR C pins' [] ow' es' σ' g' H' ∧ Lv es' ∧ foL tg l' tb (ds.drop i) P es' g', ⟨ds.length, by simp, Nat.zero_le _, ow, es, g, S, lv, hf⟩, ?_⟩
  rintro i m σ' H' ⟨rfl, hi, ow', es', g', S', lv', hf'⟩
  have itn := it S'
  rcases Nat.lt_or_ge i ds.length with q | q
  · refine .inr ⟨itn.go q, fun σ2 H2 => ∃ ow' es' g', SR C pins' [] ow' es' σ2 g' H2 ∧ Lv es' ∧ foL tg l' tb (ds.drop (i + 1)) P es' g', fun σ2 H2 z => ⟨ds.length - (i + 1), by omega, rfl, q, z⟩, fun x H2 y => ?_⟩
    obtain ⟨rfl, d, hd, rx⟩ := itn.yld q y
    have ed : ds.drop i = d :: ds.drop (i + 1) := by
      obtain ⟨h1, h2⟩ := List.getElem?_eq_some_iff.mp hd
      rw [← h2]
      exact List.drop_eq_getElem_cons h1
    rw [ed] at hf'
    unfold foL at hf'
    refine tg_ok S' rx (bindT_lv hf' h1 lv') fun es2 σ2 hk S2 _ => ⟨pins', _, es2, g', _, S2, hk.2, plv, hk.1, ?_⟩
    exact ⟨fun z lv3 S3 => ⟨_, _, _, S3, lv3, z⟩, fun z lv3 S3 => pk.nx z lv3 (un S3), fun z lv3 S3 => ⟨_, _, _, S3, lv3, z⟩, pk.rt⟩
  · obtain rfl : i = ds.length := Nat.le_antisymm hi q
    rw [List.drop_length] at hf'
    exact .inl ⟨itn.stop (Nat.le_refl _), pk.nx hf' lv' (un S')⟩
theorem ps_forV {tg : Tg} {etg eit : Expr} {b : List Stmt} {tb : WSt G} {wj : VL.Env → G → (Bool → List D → Nat → G → Prop) → Prop} (hxe : X.xe = fun _ _ => False) (hc : X.calm = true) (hi : PI X etg eit (rdJ C wj)) (hg : PG X etg (gTg C.K tg)) (hb : PSs X b (rdS C tb)) (hs : ∀ x, foldedSetIterable eit X.env x = pure x) :
    PS X (.For etg eit b [] pos) (rdS C fun P es g => wj es g fun t ds l g1 => ∃ l', 1 ≤ l' ∧ (l' ≤ l ∨ (t = true ∧ D.lfs ds = true)) ∧ foL tg l' tb ds P es g1) := by
  refine (ps_for (by rw [hxe]; exact PassesOwn.never) hc hi hg hb hs).wk fun E σ H q => ?_
  obtain ⟨pins, ow, es, g, P, S, lv, pl, hw, pk⟩ := q
  refine ⟨pins, [], ow, es, g, _, S, hw, fun t ds l g1 H1 J p1 s1 hJ => ?_⟩
  obtain ⟨l', h1, hl, hf⟩ := p1
  have S1 := S.stp' s1
  rcases hJ with hJ | ⟨a, xs, tu, rfl, hc, ra⟩
  · exact for_main h1 pl pk (fun z => z) (fun z => .inr hJ) S1 lv hf
  · have ra' : RpA C.K H1 (Zl C [] ow g1 l') ds xs := by
      rcases hl with hl | ⟨_, hl⟩
      · exact ra.low hl
      · exact RpA.flat (fun _ _ q => q) (fun _ _ q => q) ds xs hl ra
    have pok : PinOk C [] ow g1 H1 ⟨a, tu, xs, ds, l'⟩ := by
      refine ⟨?_, ra'⟩
      cases tu with
      | true => exact hc
      | false =>
        rcases hc with ⟨rfl, hc⟩ | hc
        · rcases hl with hl | ⟨z, _⟩
          · exact .inl ⟨fun z => hc.1 (Zl.mono hl z), hc.2⟩
          · cases z
        · exact .inr hc
    refine for_main (pins' := ⟨a, tu, xs, ds, l'⟩ :: pins) h1 (fun p hp => ?_) pk SR.unpin (fun z => ?_) (S1.addpin pok) lv hf
    · rcases List.mem_cons.mp hp with z | z
      · rw [z]; exact h1
      · exact pl p z
    · obtain ⟨z1, z2⟩ := z.pin _ List.mem_cons_self
      refine .inl ⟨tu, a, xs, ⟨?_, z2⟩, rfl⟩
      cases tu with
      | true => exact z1
      | false =>
        rcases z1 with z1 | z1
        · exact .inl ⟨fun y => z1.1 (.inl y), z1.2⟩
        · exact .inr z1
end
end VL
/-! Val: several targets, lists of lists of one's own. -/
namespace VL
open PySem PySem.Spec PyProof.Rows L2

section
variable {C : Vc G} {X : Cx} {k : Ck} {fs : List (Nat × WF G)} {e ea eb ec : Expr} {wa wb wc : Wd G} {pos : Pos} {as : List Expr} {wl : Wls G} {wq : Ws G}
  {pins : List Pin} {ex : List Addr} {ow : Nat → List Addr} {es : VL.Env} {σ : L2.St} {g g' : G} {H H' : Hp}
/-! ### a, b = x, y -/
def parB (sc : Scope) (x y : Str) (px py : Pos) (a b : Expr) : Option Bool :=
  if (sc.names.lookup x == some .local && sc.names.lookup y == some .local && py.line == px.line && !(x == y)) = true then
    if (foldedForSure 8 a && foldedForSure 8 b) = true then some false
    else if (constantsAlone 8 a && constantsAlone 8 b) = true then none
    else some true
  else some false
theorem nst_any {a b : Expr} (ha : nst a = true) (hb : nst b = true) : ([a, b].any fun | .Starred .. => true | _ => false) = false := by
  cases a <;> first | (cases b <;> first | rfl | exact Bool.noConfusion hb) | exact Bool.noConfusion ha
theorem par_sw {env : PySem.Env} {sc : Scope} {x y : Str} {px py p p2 : Pos} {j1 j2} {a b : Expr} {r : Bool} (hs : env.scope = sc) (hk : env.blockKind = .function) (ha : nst a = true) (hb : nst b = true) (h : parB sc x y px py a b = some r) :
    swappedStores [.Tuple [.Name x px, .Name y py] j1 p] (.Tuple [a, b] j2 p2) env = pure (if r = true then some [x, y] else none) := by
  have kx : env.kindOf x = sc.names.lookup x := by rw [← hs]; rfl
  have ky : env.kindOf y = sc.names.lookup y := by rw [← hs]; rfl
  unfold parB at h
  have key : swappedStores [.Tuple [.Name x px, .Name y py] j1 p] (.Tuple [a, b] j2 p2) env =
      (let names := [Expr.Name x px, Expr.Name y py].filterMap fun
        | .Name id pos => if (env.kindOf id == some .local && pos.line == px.line) = true then some id else none
        | _ => none
      if (names.length != 2 || names.eraseDups.length != names.length) = true then pure none
      else if ([a, b].all (foldedForSure 8)) = true then pure none
      else if ([a, b].all (constantsAlone 8)) = true then unsupported "assign.tuple-of-constant-expressions:order-of-the-stores" else pure (some names)) := by
    unfold swappedStores
    have h1 : (!(([Expr.Name x px, Expr.Name y py] : List Expr).length == 2 || ([Expr.Name x px, Expr.Name y py] : List Expr).length == 3) || ([a, b] : List Expr).length != ([Expr.Name x px, Expr.Name y py] : List Expr).length || env.blockKind != .function) = false := by
      rw [hk]; rfl
    dsimp only
    rw [h1]
    simp only [Bool.false_eq_true, if_false]
    split
    · rename_i q
      exact absurd (Eq.trans (Eq.symm (nst_any ha hb)) q) (by decide)
    · rfl
  rw [key]
  dsimp only [List.filterMap]
  rw [kx, ky]
  split at h <;> rename_i q0
  · simp only [Bool.and_eq_true, Bool.not_eq_true'] at q0
    obtain ⟨⟨⟨q1, q2⟩, q3⟩, q4⟩ := q0
    rw [q1, q2]
    simp only [Bool.true_and, beq_self_eq_true, if_true, q3]
    have e2 : ([x, y] : List Str).eraseDups.length = 2 := by
      have n : ¬ (y == x) = true := by
        intro z
        have := eq_of_beq z
        rw [this] at q4
        simp at q4
      simp [List.eraseDups, List.eraseDupsBy, List.eraseDupsBy.loop, n]
    rw [e2]
    simp only [List.all_cons, List.all_nil, Bool.and_true, List.length_cons, List.length_nil]
    split at h <;> rename_i q5
    · cases h
      rw [if_neg (by decide), if_pos q5]
      rfl
    · split at h <;> rename_i q6
      · cases h
      · cases h
        rw [if_neg (by decide), if_neg q5, if_neg q6]
        rfl
  · cases h
    have nx : ∀ (c1 c2 : Bool), (c1 && c2 && !(x == y)) = false → (match (if c1 = true then some x else none : Option Str), (if c2 = true then some y else none : Option Str) with | _, _ => True) := fun _ _ _ => trivial
    cases h1 : (sc.names.lookup x == some NameKind.local) <;> cases h2 : (sc.names.lookup y == some NameKind.local) <;> cases h3 : (py.line == px.line) <;> cases h4 : (x == y) <;>
      simp [h1, h2, h3, h4] at q0 ⊢
    all_goals (have e := eq_of_beq h4; subst e; simp [List.eraseDups, List.eraseDupsBy, List.eraseDupsBy.loop])
abbrev mPar (wa wb : Wd G) (i j : Nat) : WSt G := fun P es g => wa es g fun d1 l1 g1 => wb es g1 fun d2 l2 g2 => ∃ m1 m2, lvOk d1 l1 m1 ∧ lvOk d2 l2 m2 ∧ P.nx ((es.set i (.dat d1 m1)).set j (.dat d2 m2)) g2
/-- two stores -/
theorem par_nx {i j : Nat} {P : Po G} {E : Ends} {d1 d2 : D} {l1 l2 m1 m2 : Nat} {v1 v2 : V} (S : SR C pins [] ow es σ g H) (lv : Lv es) (pk : Pok C pins P E) (r1 : Rp C.K H (Zl C [] ow g l1) d1 v1) (r2 : Rp C.K H (Zl C [] ow g l2) d2 v2) (h1 : lvOk d1 l1 m1) (h2 : lvOk d2 l2 m2)
    (p : P.nx ((es.set i (.dat d1 m1)).set j (.dat d2 m2)) g) : E.nx ((σ.set i (some v1)).set j (some v2)) H := by
  have S1 := S.asgD (i := i) r1 h1.2
  have S2 := S1.asgD (i := j) (l' := m2) (r2.anti fun _ z => Zl.off z) h2.2
  exact pk.nx p ((lv.set fun _ _ z => by cases z; exact h1.1).set fun _ _ z => by cases z; exact h2.1) S2
theorem ps_parV {x y : Str} {px py p p2 : Pos} {j1 j2} {sc : Scope} {i j : Nat} {r : Bool} (hK : X.K = C.K) (hc : X.calm = true) (hN : X.N.Nodup) (hi : X.N[i]? = some x) (hj : X.N[j]? = some y) (hij : i ≠ j) (hs : X.env.scope = sc) (hb : X.env.blockKind = .function) (hf : X.fn = fun _ => true)
    (lx : locB sc (fun _ => true) x = true) (ly : locB sc (fun _ => true) y = true) (na : nst ea = true) (nb : nst eb = true) (h : parB sc x y px py ea eb = some r) (ha : PE X ea (rd C wa)) (hb' : PE X eb (rd C wb)) (nc : swapsWithSole [.Tuple [.Name x px, .Name y py] j1 p] (.Tuple [ea, eb] j2 p2) pos.line X.env = pure false) :
    PS X (.Assign [.Tuple [.Name x px, .Name y py] j1 p] (.Tuple [ea, eb] j2 p2) pos) (rdS C (mPar wa wb i j)) := by
  have hsw := par_sw (j1 := j1) (j2 := j2) (p := p) (p2 := p2) hs hb na nb h
  have hA : PA X [ea, eb] (tCons (rd C wa) (tCons (rd C wb) tNil)) := pa_cons ha (pa_cons hb' pa_nil (star_cons nb)) (star_cons na)
  obtain ⟨q1, q2⟩ := loc_ok (X := X) hs hf lx
  obtain ⟨q3, q4⟩ := loc_ok (X := X) hs hf ly
  cases r with
  | true =>
    unfold parB at h
    split at h <;> rename_i q0
    · simp only [Bool.and_eq_true, beq_iff_eq] at q0
      obtain ⟨⟨⟨z1, z2⟩, _⟩, _⟩ := q0
      refine (ps_par hc hN hi hj hij (by rw [hs]; exact z1) (by rw [hs]; exact z2) hA hsw nc).wk fun E σ H q => ?_
      obtain ⟨pins, ow, es, g, P, S, lv, pl, hw, pk⟩ := q
      refine ⟨pins, [], ow, es, g, _, S, hw, fun d1 l1 g1 v1 H1 p1 s1 r1 => ⟨pins, [], ow, es, g1, _, S.stp' s1, p1, fun d2 l2 g2 v2 H2 p2 s2 r2 => ?_⟩⟩
      obtain ⟨m1, m2, h1, h2, pp⟩ := p2
      exact ⟨v1, v2, rfl, par_nx ((S.stp' s1).stp' s2) lv pk (r1.stp s2) r2 h1 h2 pp⟩
    · cases h
  | false =>
    have hg : PG X (.Tuple [.Name x px, .Name y py] j1 p) (gTup X.K 2 (gCons (gName i) (gCons (gName j) gNil))) :=
      pg_tup hc (pgs_cons (pg_name hN hi q1 q2) (pgs_cons (pg_name hN hj q3 q4) pgs_nil rfl) rfl) rfl rfl
    refine (ps_asg (pe_tup hA) hg nc hsw rfl).wk fun E σ H q => ?_
    obtain ⟨pins, ow, es, g, P, S, lv, pl, hw, pk⟩ := q
    refine ⟨pins, [], ow, es, g, _, S, hw, fun d1 l1 g1 v1 H1 p1 s1 r1 => ⟨pins, [], ow, es, g1, _, S.stp' s1, p1, fun d2 l2 g2 v2 H2 p2 s2 r2 => ?_⟩⟩
    obtain ⟨m1, m2, h1, h2, pp⟩ := p2
    refine ⟨by show 2 ≤ sizeLine; decide, fun t ht => ⟨t, [v1, v2], rfl, .inl (.inl upd_same), rfl, v1, [v2], rfl, v2, [], rfl, rfl, ?_⟩⟩
    have S2 := ((S.stp' s1).stp' s2).same (Same.new (o := .tup [v1, v2]) ht)
    exact par_nx S2 lv pk ((r1.stp s2).same (Same.new ht)) (r2.same (Same.new ht)) h1 h2 pp
abbrev mParO (wa wb : Wd G) (i j : Nat) : WSt G := fun P es g => wa es g fun d1 l1 g1 => wb es g1 fun d2 l2 g2 => ∃ m1 ds m2, lvOk d1 l1 m1 ∧ d2 = .lst ds ∧ j < es.length ∧ 1 ≤ m2 ∧ (m2 ≤ l2 ∨ D.lfs ds = true) ∧ P.nx ((es.set i (.dat d1 m1)).set j (.own ds m2)) g2
/-- a new list at j -/
theorem own_nx {j : Nat} {P : Po G} {E : Ends} {ds : List D} {l l' : Nat} {p : Addr} {xs : List V} (S : SR C pins [] ow es σ g H) (lv : Lv es) (pk : Pok C pins P E) (s : Stp C.gh g H g' H') (hp : H p = none) (nf : ¬ C.gh.fp g' p) (hpp : H' p = some (.lst xs)) (ra : RpA C.K H' (Zl C [p] ow g' l) ds xs)
    (h1 : 1 ≤ l') (hl : l' ≤ l ∨ D.lfs ds = true) (hj : j < es.length) (pp : P.nx (es.set j (.own ds l')) g') : E.nx (σ.set j (some (.ref p))) H' := by
  refine pk.nx pp (lv.set fun _ _ z => nomatch z) (S.asgN s (as := [p]) (s := .own ds l') (v := .ref p) (fun a ha => ?_) (fun a ha => ?_) (fun a ha => ?_) (by simp) hj ⟨p, xs, rfl, rfl, hpp, h1, ?_⟩)
  · rw [List.mem_singleton.mp ha]; exact hp
  · rw [List.mem_singleton.mp ha, hpp]; intro z; cases z
  · rw [List.mem_singleton.mp ha]; exact nf
  · have conv : ∀ a, Zl C [] (onO ow j [p]) g' l a → Zl C [p] ow g' l a := fun a z => by
      rcases z with z | z | ⟨z, k, y⟩ | z
      · exact .inl z
      · cases z
      · by_cases q : k = j
        · rw [q, onO_at] at y
          exact .inr (.inl y)
        · rw [onO_ne q] at y
          exact .inr (.inr (.inl ⟨z, k, y⟩))
      · exact .inr (.inr (.inr z))
    have ra2 := ra.anti conv
    rcases hl with hl | hl
    · exact ra2.low hl
    · exact RpA.flat (fun _ _ q => q) (fun _ _ q => q) ds xs hl ra2
theorem ps_parOV {x y : Str} {px py p p2 : Pos} {j1 j2} {sc : Scope} {i j : Nat} (hc : X.calm = true) (hN : X.N.Nodup) (hi : X.N[i]? = some x) (hj : X.N[j]? = some y) (hij : i ≠ j) (hs : X.env.scope = sc) (hb : X.env.blockKind = .function)
    (na : nst ea = true) (nb : nst eb = true) (h : parB sc x y px py ea eb = some true) (ha : PE X ea (rd C wa)) (hb' : PE X eb (rdN C wb)) (nc : swapsWithSole [.Tuple [.Name x px, .Name y py] j1 p] (.Tuple [ea, eb] j2 p2) pos.line X.env = pure false) :
    PS X (.Assign [.Tuple [.Name x px, .Name y py] j1 p] (.Tuple [ea, eb] j2 p2) pos) (rdS C (mParO wa wb i j)) := by
  have hsw := par_sw (j1 := j1) (j2 := j2) (p := p) (p2 := p2) hs hb na nb h
  have hA : PA X [ea, eb] (tCons (rd C wa) (tCons (rdN C wb) tNil)) := pa_cons ha (pa_cons hb' pa_nil (star_cons nb)) (star_cons na)
  unfold parB at h
  split at h <;> rename_i q0
  · simp only [Bool.and_eq_true, beq_iff_eq] at q0
    obtain ⟨⟨⟨z1, z2⟩, _⟩, _⟩ := q0
    refine (ps_par hc hN hi hj hij (by rw [hs]; exact z1) (by rw [hs]; exact z2) hA hsw nc).wk fun E σ H q => ?_
    obtain ⟨pins, ow, es, g, P, S, lv, pl, hw, pk⟩ := q
    refine ⟨pins, [], ow, es, g, _, S, hw, fun d1 l1 g1 v1 H1 p1 s1 r1 => ⟨pins, [], ow, es, g1, _, S.stp' s1, p1, fun ds l2 g2 q xs H2 p2 s2 hq nf hqq ra => ?_⟩⟩
    obtain ⟨m1, ds', m2, h1, e, hjl, h2, h3, pp⟩ := p2
    cases e
    have SA := (S.stp' s1).asgD (i := i) r1 h1.2
    exact ⟨v1, .ref q, rfl, own_nx SA (lv.set fun _ _ z => by cases z; exact h1.1) pk s2 hq nf hqq (ra.anti fun _ z => Zl.off z) h2 h3 (by rw [List.length_set]; exact hjl) pp⟩
  · cases h
/-- a, b, .. = a tuple -/
theorem ps_unpV {is : List Nat} {ts : List Expr} {j1 : Nat} {p : Pos} {sc : Scope} (o : Cok X C k fs) (hs : X.env.scope = sc) (hf : X.fn = fun _ => true) (ht : tgN k sc (fun _ => true) is ts = true) (ha : PE X ea (rd C wa)) (nt : ∀ es j q, ea ≠ .Tuple es j q) :
    PS X (.Assign [.Tuple ts j1 p] ea pos) (rdS C fun P es g => wa es g fun d l g' => ∃ ds l', d = .tup ds ∧ ds.length = is.length ∧ lvOk d l l' ∧ noOwn es is ∧ P.nx (setAll es is ds l') g') := by
  have hsw : swappedStores [.Tuple ts j1 p] ea X.env = pure none := by
    cases ea <;> first | rfl | exact absurd rfl (nt _ _ _)
  have nc : swapsWithSole [.Tuple ts j1 p] ea pos.line X.env = pure false := by
    cases ea <;> rfl
  have hg : PG X (.Tuple ts j1 p) (gTg C.K (.tup is)) := tg_pg (tg := .tup is) o hs hf (show chkTg k sc (fun _ => true) (.tup is) (.Tuple ts j1 p) = true from ht)
  refine (ps_asg ha hg nc hsw rfl).wk fun E σ H q => ?_
  obtain ⟨pins, ow, es, g, P, S, lv, pl, hw, pk⟩ := q
  refine ⟨pins, [], ow, es, g, _, S, hw, fun d1 l1 g1 v1 H1 p1 s1 r1 => ?_⟩
  obtain ⟨ds, l', e, hl, h1, hn, pp⟩ := p1
  have r2 : Rp C.K H1 (Zl C [] ow g1 l') d1 v1 := Rp.lf h1.2.symm r1
  subst e
  exact tg_ok (S.stp' s1) r2 (k := fun es' => es' = setAll es is ds l') ⟨ds, rfl, hl, hn, rfl⟩ fun es' σ' he S2 _ => by
    subst he
    exact pk.nx pp (setAll_lv h1.1 lv) S2

/-! ### a list of new lists -/
/-- more that stands in ex -/
theorem SR.moreEx (S : SR C pins ex ow es σ g H) (s : Stp C.gh g H g' H') {p : Addr} (n : H p = none) (nf : ¬ C.gh.fp g' p) (hr : H' p ≠ none) : SR C pins (p :: ex) ow es σ g' H' := by
  have S' := S.stp' s
  have back : ∀ l a, H a ≠ none → Zl C (p :: ex) ow g' l a → Zl C ex ow g l a := fun l a nn z => by
    refine Zl.back s nn ?_
    rcases z with z | z | z
    · exact .inl z
    · rcases List.mem_cons.mp z with y | y
      · exact absurd (by rw [y]; exact n) nn
      · exact .inr (.inl y)
    · exact .inr (.inr z)
  have kr : ∀ {l d v}, Rp C.K H (Zl C ex ow g l) d v → Rp C.K H' (Zl C (p :: ex) ow g' l) d v := fun r => Rp.kp s.kp (fun _ z => .inl z) (back _) r
  have kra : ∀ {l d v}, RpA C.K H (Zl C ex ow g l) d v → RpA C.K H' (Zl C (p :: ex) ow g' l) d v := fun r => RpA.kp s.kp (fun _ z => .inl z) (back _) r
  refine ⟨S'.len, fun i t e => ?_, S'.out, fun i a ha => ?_, S'.nd, S'.dis, fun a ha => ?_, fun q hq => ?_, S'.stp⟩
  · have z := S.slot i t e
    have z' := S'.slot i t e
    cases t with
    | no => exact z
    | dat d l =>
      obtain ⟨z0, x, z1, z2⟩ := z
      exact ⟨z0, x, z1, kr z2⟩
    | own ds l =>
      obtain ⟨a, xs, z1, z2, z3, z4, z5⟩ := z
      exact ⟨a, xs, z1, z2, s.kp.keep a _ z3 fun y => absurd y (S.own i a (by rw [z1]; exact List.mem_singleton.mpr rfl)).2.2.1, z4, kra z5⟩
    | own2 dss l =>
      obtain ⟨a, rs, z1, z2, z3, z4, z5, z6⟩ := z
      refine ⟨a, rs, z1, z2, s.kp.keep a _ z3 fun y => absurd y (S.own i a (by rw [z1]; exact List.mem_cons_self)).2.2.1, z4, z5, fun m r ds h1 h2 => ?_⟩
      obtain ⟨xs, h3, h4⟩ := z6 m r ds h1 h2
      exact ⟨xs, s.kp.keep r _ h3 fun y => absurd y (S.own i r (by rw [z1]; exact List.mem_cons_of_mem _ (List.mem_of_getElem? h1))).2.2.1, kra h4⟩
  · obtain ⟨h1, h2, h3, h4⟩ := S'.own i a ha
    refine ⟨h1, h2, h3, fun z => ?_⟩
    rcases List.mem_cons.mp z with y | y
    · exact (S.own i a ha).1 (by rw [y]; exact n)
    · exact h4 y
  · rcases List.mem_cons.mp ha with y | y
    · rw [y]
      exact ⟨hr, S.stp.kp.fresh n, nf⟩
    · exact S'.exs a y
  · obtain ⟨h1, h2⟩ := S.pin q hq
    refine ⟨?_, kra h2⟩
    by_cases ht : q.tupl = true
    · rw [if_pos ht] at h1 ⊢
      exact s.kp.tup h1
    · rw [if_neg ht] at h1 ⊢
      rcases h1 with z | z
      · exact .inl (Ls.kp s.kp (fun _ z => .inl z) (back _) z)
      · exact .inr (s.kp.frz z)
end
end VL
/-! Val: a list of lists of one's own: made, changed. -/
namespace VL
open PySem PySem.Spec PyProof.Rows L2

section
variable {C : Vc G} {X : Cx} {k : Ck} {fs : List (Nat × WF G)} {e ea eb ec : Expr} {wa wb wc : Wd G} {pos : Pos} {as : List Expr} {wl : Wls G} {wq : Ws G}
  {pins : List Pin} {ex : List Addr} {ow : Nat → List Addr} {es : VL.Env} {σ : L2.St} {g g' : G} {H H' : Hp}
theorem ItAt.ups {ex' : List Addr} {ds : List D} {l : Nat} {J : It} (h : ItAt C ex ow g H ds l J) (s : Stp C.gh g H g' H') (n : ∀ a ∈ ex', a ∈ ex ∨ H a = none) : ItAt C ex' ow g' H' ds l J := by
  rcases h with ⟨t, a, xs, ⟨h1, h2⟩, rfl⟩ | h
  · have h3 : Sv C ex ow g' H' t ds l a xs := Sv.stp s ⟨h1, h2⟩
    refine .inl ⟨t, a, xs, ⟨h3.1, RpA.kp s.kp (fun _ z => .inl z) (fun b nb z => ?_) h2⟩, rfl⟩
    rcases z with z | z | z
    · exact Zl.back s nb (.inl z)
    · rcases n b z with y | y
      · exact .inr (.inl y)
      · exact absurd y nb
    · exact .inr (.inr z)
  · exact .inr h
theorem own2_rd {tgc : Tg} {wi : Wls G} {wt : Wb G} {we : Wd G} {vs : List Nat} (hj : ∀ i ∈ tgc.js, i ∈ vs) {i : Nat} {E : Ends} {σ : L2.St} {H : Hp}
    (q : rdS C (fun P es g => noOwn es vs ∧ wi es g fun ds l g1 => lcl (lcStep tgc l (wipeE es vs) wt we) ds [] 2 g1 fun out lv g' => ∃ dss, D.lst out = .lst (dss.map D.lst) ∧ i < es.length ∧ (∀ ds ∈ dss, D.lfs ds = true) ∧ P.nx (es.set i (.own2 dss 2)) g') E σ H) :
    tAsg (tLc (rdI C wi) (gTg C.K tgc) (rdB C wt) (rdN C we) vs) (gName i) E σ H := by
  obtain ⟨pins, ow, es, g, P, S, lv0, pl, ⟨hno, hw⟩, pk⟩ := q
  refine ⟨pins, [], ow, es, g, _, S, hw, fun ds l g1 H1 J p1 s1 it => fun L hL => ?_⟩
  have S1 := S.stp' s1
  refine lc_it (n := ds.length) (fun i' H' => ∃ g' rs acc lv, SR C pins (rs.reverse ++ [L]) ow es σ g' H' ∧ H' L = some (.lst (rs.map V.ref)) ∧ rs.length = acc.length ∧ rs.Nodup ∧ L ∉ rs ∧ (∀ r ∈ rs, H1 r = none) ∧
    (∀ (m : Nat) (r : Addr) (d : D), rs[m]? = some r → acc[m]? = some d → ∃ ds' xs, d = .lst ds' ∧ H' r = some (.lst xs) ∧ RpA C.K H' (Zl C (rs.reverse ++ [L]) ow g' 0) ds' xs) ∧ Stp C.gh g1 H1 g' H' ∧
    lcl (lcStep tgc l (wipeE es vs) wt we) (ds.drop i') acc lv g' fun out lv g' => ∃ dss, D.lst out = .lst (dss.map D.lst) ∧ i < es.length ∧ (∀ ds ∈ dss, D.lfs ds = true) ∧ P.nx (es.set i (.own2 dss 2)) g')
    ⟨g1, [], [], 2, S1.newEx hL, upd_same, rfl, List.nodup_nil, (by simp), (fun _ h => nomatch h), (fun m r d h => by simp at h), .of S1.stp.ok (Same.new hL), p1⟩ ?_ ?_
  · rintro i' H' hi ⟨g', rs, acc, lv, S', hLL, hlen, hnd, hLr, hfr, hin, st, hl⟩
    have itn : ItAt C (rs.reverse ++ [L]) ow g' H' ds l J := it.ups st fun a ha => by
      rcases List.mem_append.mp ha with z | z
      · exact .inr (hfr a (List.mem_reverse.mp z))
      · rw [List.mem_singleton.mp z]
        exact .inr hL
    refine ⟨itn.go hi, fun x H'' y => ?_⟩
    obtain ⟨rfl, d, hd, rx⟩ := itn.yld hi y
    have ed : ds.drop i' = d :: ds.drop (i' + 1) := by
      obtain ⟨h1, h2⟩ := List.getElem?_eq_some_iff.mp hd
      rw [← h2]
      exact List.drop_eq_getElem_cons h1
    rw [ed] at hl
    unfold lcl at hl
    refine tg_ok (S'.wipe' hno).1 rx hl fun es' σ' hk S2 hwp => ⟨?_, ?_⟩
    · rw [hwp vs hj]
      exact wipe_wipe fun i hi => hi
    refine ⟨pins, _, ow, es', g', _, S2, hk, fun b g2 H3 pb s3 => ?_⟩
    have memL : L ∈ rs.reverse ++ [L] := List.mem_append.mpr (.inr (List.mem_singleton.mpr rfl))
    have S3 := S'.stp' s3
    have hL3 : H3 L = some (.lst (rs.map V.ref)) := s3.kp.keep L _ hLL fun z => absurd z (S'.exs L memL).2.2
    have hin3 : ∀ (m : Nat) (r : Addr) (d : D), rs[m]? = some r → acc[m]? = some d → ∃ ds' xs, d = .lst ds' ∧ H3 r = some (.lst xs) ∧ RpA C.K H3 (Zl C (rs.reverse ++ [L]) ow g2 0) ds' xs := fun m r d h1 h2 => by
      obtain ⟨ds', xs, e, h3, h4⟩ := hin m r d h1 h2
      have mr : r ∈ rs.reverse ++ [L] := List.mem_append.mpr (.inl (List.mem_reverse.mpr (List.mem_of_getElem? h1)))
      exact ⟨ds', xs, e, s3.kp.keep r _ h3 fun z => absurd z (S'.exs r mr).2.2, h4.stp s3⟩
    cases b with
    | false =>
      rw [if_neg Bool.false_ne_true] at pb
      dsimp only
      rw [if_neg Bool.false_ne_true]
      exact ⟨g2, rs, acc, lv, S3, hL3, hlen, hnd, hLr, hfr, hin3, st.trans s3, pb⟩
    | true =>
      rw [if_pos rfl] at pb
      dsimp only
      rw [if_pos rfl]
      refine ⟨pins, _, ow, es', g2, _, S2.stp' s3, pb, fun ds' le g3 p xs H4 p4 s4 hp nf hpp ra => ?_⟩
      obtain ⟨hz, hl'⟩ := p4
      have S4 : SR C pins (p :: (rs.reverse ++ [L])) ow es σ g3 H4 := S3.moreEx s4 hp nf (some_ne hpp)
      have hL4 : H4 L = some (.lst (rs.map V.ref)) := s4.kp.keep L _ hL3 fun z => absurd z (S3.exs L memL).2.2
      have pL : p ≠ L := fun z => by
        rw [z, hL3] at hp
        cases hp
      have prs : ∀ r ∈ rs, r ≠ p := fun r hr z => by
        obtain ⟨h1, _⟩ := S3.exs r (List.mem_append.mpr (.inl (List.mem_reverse.mpr hr)))
        exact h1 (by rw [z]; exact hp)
      have ee : p :: (rs.reverse ++ [L]) = (rs ++ [p]).reverse ++ [L] := by simp
      have memL4 : L ∈ p :: (rs.reverse ++ [L]) := List.mem_cons_of_mem _ memL
      have kz : ∀ lev, Kp (Zl C (p :: (rs.reverse ++ [L])) ow g3 lev) H4 (upd H4 L (.lst (rs.map V.ref ++ [.ref p]))) := fun lev => Kp.put (.inr (.inl memL4)) hL4 fun z => z
      have stn : Stp C.gh g1 H1 g3 H4 := (st.trans s3).trans s4
      refine ⟨rs.map V.ref, hL4, by rw [List.length_map, hlen]; exact hz, g3, rs ++ [p], acc ++ [.lst ds'], min lv le, ?_, ?_, ?_, ?_, ?_, ?_, ?_, stn.put hL hL4 (S4.exs L memL4).2.2, hl'⟩
      · rw [← ee]
        exact S4.putEx memL4 hL4
      · rw [upd_same, List.map_append]
        rfl
      · rw [List.length_append, List.length_append, hlen] <;> rfl
      · rw [List.nodup_append]
        exact ⟨hnd, by simp, fun a ha b hb => by rw [List.mem_singleton.mp hb]; exact prs a ha⟩
      · intro z
        rcases List.mem_append.mp z with z | z
        · exact hLr z
        · exact pL (List.mem_singleton.mp z).symm
      · intro r hr
        rcases List.mem_append.mp hr with z | z
        · exact hfr r z
        · rw [List.mem_singleton.mp z]
          exact (st.trans s3).kp.fresh hp
      · intro m r d h1 h2
        rw [← ee]
        rcases Nat.lt_or_ge m rs.length with q | q
        · rw [List.getElem?_append_left q] at h1
          rw [List.getElem?_append_left (by omega)] at h2
          obtain ⟨ds2, xs2, e, h3, h4⟩ := hin3 m r d h1 h2
          have mr : r ∈ rs := List.mem_of_getElem? h1
          have rL : r ≠ L := fun z => hLr (by rw [← z]; exact mr)
          have k3 : H4 r = some (.lst xs2) := s4.kp.keep r _ h3 fun z => absurd z (S3.exs r (List.mem_append.mpr (.inl (List.mem_reverse.mpr mr)))).2.2
          refine ⟨ds2, xs2, e, by rw [upd_ne rL]; exact k3, RpA.kp (kz 0) (fun _ z => z) (fun _ _ z => z) ?_⟩
          exact RpA.kp s4.kp (fun _ z => .inl z) (fun a nb z => by
            refine Zl.back s4 nb ?_
            rcases z with z | z | z
            · exact .inl z
            · rcases List.mem_cons.mp z with y | y
              · exact absurd (by rw [y]; exact hp) nb
              · exact .inr (.inl y)
            · exact .inr (.inr z)) h4
        · rw [List.getElem?_append_right q] at h1
          rw [List.getElem?_append_right (by omega)] at h2
          have em : m = rs.length := by
            obtain ⟨h5, _⟩ := List.getElem?_eq_some_iff.mp h1
            simp at h5
            omega
          subst em
          rw [Nat.sub_self] at h1
          rw [hlen, Nat.sub_self] at h2
          cases h1
          cases h2
          refine ⟨ds', xs, rfl, by rw [upd_ne pL]; exact hpp, RpA.kp (kz 0) (fun _ z => z) (fun _ _ z => z) (ra.low (Nat.zero_le _))⟩
  · rintro H' ⟨g', rs, acc, lv, S', hLL, hlen, hnd, hLr, hfr, hin, st, hl⟩
    have itn := it.stp st
    refine ⟨itn.stop (Nat.le_refl _), ?_⟩
    rw [List.drop_length] at hl
    obtain ⟨dss, e, hil, hlf, pp⟩ := hl
    have e2 : acc = dss.map D.lst := by
      injection e
    subst e2
    have memL : L ∈ rs.reverse ++ [L] := List.mem_append.mpr (.inr (List.mem_singleton.mpr rfl))
    have mr : ∀ r ∈ rs, r ∈ rs.reverse ++ [L] := fun r hr => List.mem_append.mpr (.inl (List.mem_reverse.mpr hr))
    refine pk.nx pp (lv0.set fun _ _ z => nomatch z) (S1.asgN st (as := L :: rs) (v := .ref L) (fun a ha => ?_) (fun a ha => ?_) (fun a ha => ?_) (List.nodup_cons.mpr ⟨hLr, hnd⟩) hil ⟨L, rs, rfl, rfl, hLL, by decide, by rw [hlen, List.length_map], fun m r ds' h1 h2 => ?_⟩)
    · rcases List.mem_cons.mp ha with z | z
      · rw [z]; exact hL
      · exact hfr a z
    · rcases List.mem_cons.mp ha with z | z
      · rw [z]; exact (S'.exs L memL).1
      · exact (S'.exs a (mr a z)).1
    · rcases List.mem_cons.mp ha with z | z
      · rw [z]; exact (S'.exs L memL).2.2
      · exact (S'.exs a (mr a z)).2.2
    · obtain ⟨ds2, xs, e3, h3, h4⟩ := hin m r (.lst ds') h1 (by rw [List.getElem?_map, h2]; rfl)
      cases e3
      exact ⟨xs, h3, RpA.flat (fun _ _ q => q) (fun _ _ q => q) ds' xs (hlf ds' (List.mem_of_getElem? h2)) h4⟩
/-- x[i][j] = e, x a list of lists of one's own -/
theorem ps_setix2V (hK : X.K = C.K) {x : Str} {px p2 p3 : Pos} {i : Nat} {ei : Expr} {wi : Wd G} (hx : PE X (.Name x px) (tVar i)) (hi : PE X ei (rd C wi)) (ha : PE X ea (rd C wa)) (hb : PE X eb (rd C wb)) (hsi : nsl ei = true) (hs : nsl ea = true) (hsw : swapsWithSole [.Subscript (.Subscript (.Name x px) ei p3) ea p2] eb pos.line X.env = pure false) (hst : swappedStores [.Subscript (.Subscript (.Name x px) ei p3) ea p2] eb X.env = pure none) :
    PS X (.Assign [.Subscript (.Subscript (.Name x px) ei p3) ea p2] eb pos) (rdS C fun P es g => wb es g fun d l g1 => ∃ dss lv, es[i]? = some (.own2 dss lv) ∧ wi es g1 fun da _ g2 => ∃ ja ma ds, da = .int ja ∧ ixN dss.length ja = some ma ∧ dss[ma]? = some ds ∧ wa es g2 fun db _ g3 => ∃ jb mb, db = .int jb ∧ ixN ds.length jb = some mb ∧ (lv ≤ l ∨ d.lf = true) ∧ P.nx (es.set i (.own2 (dss.set ma (ds.set mb d)) lv)) g3) := by
  have hpg : PG X (.Subscript (.Subscript (.Name x px) ei p3) ea p2) (gSub (tOp (rIxL X.K) (tVar i) (rd C wi)) (rd C wa) rSetL) := pg_sub (pe_ix ix_list hx hi (plainIx hsi)) ha set_list (fun v => by
    cases ea <;> first | rfl | (rename_i l u st q; cases st <;> first | rfl | cases hs))
  refine (ps_asg hb hpg hsw hst rfl).wk fun E σ H q => ?_
  obtain ⟨pins, ow, es, g, P, S, lv, pl, hw, pk⟩ := q
  refine ⟨pins, [], ow, es, g, _, S, hw, fun d l g1 v H1 p1 s1 r1 => ?_⟩
  have S1 := S.stp' s1
  obtain ⟨dss, l', he, p1⟩ := p1
  obtain ⟨a, rs, q1, q2, q3, q4, q5, q6⟩ := S1.slot i _ he
  have own1 : ∀ {b}, b ∈ ow i → ¬ C.gh.fp g1 b := fun hb => (S1.own i _ hb).2.2.1
  refine ⟨.ref a, q2, pins, [], ow, es, g1, _, S1, p1, fun da l2 g2 iv H2 p2 s2 r2 => ?_⟩
  obtain ⟨ja, ma, ds, rfl, hma, hds, p2⟩ := p2
  cases r2
  have S2 := S1.stp' s2
  have h2 : H2 a = some (.lst (rs.map V.ref)) := s2.kp.keep a _ q3 fun z => absurd z (own1 (by rw [q1]; exact List.mem_cons_self))
  obtain ⟨r, hr⟩ : ∃ r, rs[ma]? = some r := by
    obtain ⟨h5, _⟩ := List.getElem?_eq_some_iff.mp hds
    exact ⟨_, List.getElem?_eq_getElem (show ma < rs.length by omega)⟩
  have hat : atI (rs.map V.ref) ja = some (.ref r) := by
    unfold atI
    rw [List.length_map, q5, hma]
    show (rs.map V.ref)[ma]? = _
    rw [List.getElem?_map, hr] <;> rfl
  refine ⟨a, rs.map V.ref, ja, .ref r, rfl, rfl, by rw [hK]; exact SqL.of h2, hat, pins, [], ow, es, g2, _, S2, p2, fun db l3 g3 jv H3 p3 s3 r3 => ?_⟩
  obtain ⟨jb, mb, rfl, hmb, hl, pp⟩ := p3
  cases r3
  have S3 := S2.stp' s3
  obtain ⟨a', rs', z1, z2, z3, z4, z5, z6⟩ := S3.slot i _ he
  have ea' : a' = a := by
    rw [q1] at z1
    injection z1 with z1 _
    exact z1.symm
  have er' : rs' = rs := by
    rw [q1] at z1
    injection z1 with _ z1
    exact z1.symm
  subst ea' er'
  obtain ⟨xs, hx3, ra⟩ := z6 ma r ds hr hds
  have mr : r ∈ ow i := by rw [z1]; exact List.mem_cons_of_mem _ (List.mem_of_getElem? hr)
  have ar : a' ≠ r := fun z => by
    have := S3.nd i
    rw [z1, List.nodup_cons] at this
    exact this.1 (by rw [z]; exact List.mem_of_getElem? hr)
  have rd3 : Rp C.K H3 (Zl C [] ow g3 l') d v := Rp.lf hl.symm ((r1.stp s2).stp s3)
  refine ⟨r, xs, jb, mb, rfl, rfl, hx3, by rw [← ra.len]; exact hmb, pk.nx pp (lv.set fun _ _ z => nomatch z) (S3.putO lv pl mr hx3 (List.getElem?_eq_some_iff.mp he).1 ⟨a', rs', z1, z2, by rw [upd_ne ar]; exact z3, z4, by rw [z5, List.length_set], fun m r2 ds2 h1 h2' => ?_⟩)⟩
  have kz : Kp (Zl C [] ow g3 l') H3 (upd H3 r (.lst (xs.set mb v))) := Kp.put (.inr (.inr (.inl ⟨z4, i, mr⟩))) hx3 fun z => z
  by_cases q : m = ma
  · subst q
    rw [hr] at h1
    cases h1
    rw [List.getElem?_set_self (by obtain ⟨h5, _⟩ := List.getElem?_eq_some_iff.mp hds; exact h5)] at h2'
    cases h2'
    exact ⟨_, upd_same, RpA.kp kz (fun _ z => z) (fun _ _ z => z) (ra.set mb rd3)⟩
  · rw [List.getElem?_set_ne (Ne.symm q)] at h2'
    obtain ⟨xs2, h5, h6⟩ := z6 m r2 ds2 h1 h2'
    have r2r : r2 ≠ r := fun z => by
      have nd := S3.nd i
      rw [z1, List.nodup_cons] at nd
      exact q (nd_ix nd.2 (by rw [z] at h1; exact h1) hr)
    exact ⟨xs2, by rw [upd_ne r2r]; exact h5, RpA.kp kz (fun _ z => z) (fun _ _ z => z) h6⟩
end
end VL
/-! Val: statements that change cells. -/
namespace VL
open PySem PySem.Spec PyProof.Rows L2

section
variable {C : Vc G} {X : Cx} {k : Ck} {fs : List (Nat × WF G)} {e ea eb ec ee : Expr} {wa wb wc we : Wd G} {pos : Pos} {as : List Expr}
  {pins : List Pin} {ex : List Addr} {ow : Nat → List Addr} {es : VL.Env} {σ : L2.St} {g g' : G} {H H' : Hp}
theorem imm_upd {p : Addr} {u u0 : HO} (h : H p = some u0) (n : ¬ Imm u0) : ∀ a o, H a = some o → Imm o → upd H p u a = some o := fun a o e i => by
  have ne : a ≠ p := fun z => by
    subst z
    rw [h] at e
    cases e
    exact n i
  rw [upd_ne ne]
  exact e
theorem put_lst {mg : Str → Option Value} (hg : C.gh = ghK C.K mg) (o : C.gh.ok g H) {p : Addr} {ds ds' : List D} {xs' : List V} (hc : g p = some (.lst ds)) (lf : D.lfs ds' = true) (r : ∀ Z, RpA C.K H Z ds' xs') : Stp C.gh g H (g.put p (.lst ds')) (upd H p (.lst xs')) := by
  obtain ⟨_, xs, h2, _⟩ := cell_lst hg o hc
  exact stp_put hg o (.inl (by rw [hc]; intro z; cases z)) ⟨lf, xs', upd_same, flatK (imm_upd h2 fun z => z) lf (r fun _ => True)⟩
theorem lfs_set : ∀ {ds : List D} {d : D} (m : Nat), D.lfs ds = true → d.lf = true → D.lfs (ds.set m d) = true
  | [], _, _, _, _ => rfl
  | x :: ds, d, 0, h, hd => by
    simp only [D.lfs, Bool.and_eq_true, List.set_cons_zero] at h ⊢
    exact ⟨hd, h.2⟩
  | x :: ds, d, m + 1, h, hd => by
    simp only [D.lfs, Bool.and_eq_true, List.set_cons_succ] at h ⊢
    exact ⟨h.1, lfs_set m h.2 hd⟩
theorem lfs_snoc : ∀ {ds : List D} {d : D}, D.lfs ds = true → d.lf = true → D.lfs (ds ++ [d]) = true
  | [], d, _, hd => by simp [D.lfs, hd]
  | x :: ds, d, h, hd => by
    simp only [D.lfs, Bool.and_eq_true, List.cons_append] at h ⊢
    exact ⟨h.1, lfs_snoc h.2 hd⟩
theorem lf_any {d : D} {v : V} {Z Z' : Addr → Prop} {K : PySem.W.Frag} (h : d.lf = true) (r : Rp K H Z d v) : Rp K H Z' d v := Rp.flat (fun _ _ q => q) (fun _ _ q => q) d v h r
theorem ps_seta (o : Cok X C k fs) {c x : Str} {p' : Pos} (hat : (c, x) ∈ k.ats) (hb : PE X ee (rd C we)) (ha : PE X ea (rd C wa)) (hs : swapsWith ee (some (.Attribute ea x p')) pos.line X.env = pure false) :
    PS X (.Assign [.Attribute ea x p'] ee pos) (rdS C fun P es g => we es g fun d1 _ g1 => wa es g1 fun d2 _ g2 => hT (.seta c x) [d1, d2] g2 fun g3 => P.nx es g3) := by
  refine (ps_fld ha hb hs).wk fun E σ H q => ?_
  obtain ⟨pins, ow, es, g, P, S, lv, pl, hw, pk⟩ := q
  refine ⟨pins, [], ow, es, g, _, S, hw, fun d1 l1 g1 v1 H1 p1 s1 r1 => ⟨pins, [], ow, es, g1, _, S.stp' s1, p1, fun d2 l2 g2 v2 H2 p2 s2 r2 => ?_⟩⟩
  obtain ⟨p, rfl⟩ : ∃ p, d2 = .obj p := by cases d2 <;> first | exact ⟨_, rfl⟩ | exact p2.elim
  obtain ⟨dx, fs', hc, hd, hl, p3⟩ := p2
  cases r2
  have S2 := (S.stp' s1).stp' s2
  obtain ⟨lf, Cl, vs, m1, m2, m3, m4⟩ := cell_of o.hg S2.stp.ok hc
  obtain ⟨cl, na⟩ := o.ats _ _ hat Cl m1
  obtain ⟨i1, i2⟩ := rp_put (f := x) (lf_any (Z' := fun _ => True) hd (r1.stp s2)) m3 m4
  have lf2 := lfs_put (f := x) hd lf
  have st := stp_put (u := .ins Cl dx (putF x v1 vs)) (c := .ins c dx (putD x d1 fs')) o.hg S2.stp.ok (.inl (by rw [hc]; intro z; cases z)) ⟨lf2, Cl, _, m1, upd_same, i1, flatK (imm_upd m2 fun z => z) lf2 i2⟩
  rw [o.hK] at *
  exact ⟨p, Cl, dx, vs, rfl, m2, cl, na, by have := congrArg List.length m3; rw [List.length_map, List.length_map] at this; omega, pk.nx p3 lv (S2.stp' st)⟩
theorem pg_cell (o : Cok X C k fs) {a i : Expr} {wi : Wd G} {p : Pos} (ha : PE X a (rd C wa)) (hi : PE X i (rd C wi)) (hs : nsl i = true) : PG X (.Subscript a i p) (gSub (rd C wa) (rd C wi) rSetL) := pg_sub ha hi set_list (fun v => by
    cases i <;> first | rfl | (rename_i l u st q; cases st <;> first | rfl | cases hs))
/-- a store into a cell, of a value that is known -/
theorem sub_rd (o : Cok X C k fs) {wi : Wd G} {d : D} {v : V} {pins : List Pin} {ow : Nat → List Addr} {es : VL.Env} {g : G} {H : Hp} {σ : L2.St} {l : Nat} {R : G → Prop} {Q : L2.St → Hp → Prop} (S : SR C pins [] ow es σ g H) (r : Rp C.K H (Zl C [] ow g l) d v)
    (hw : wa es g fun da _ g3 => wi es g3 fun di _ g4 => hT .gset [d, da, di] g4 R) (kk : ∀ g5 H5, R g5 → SR C pins [] ow es σ g5 H5 → Stp C.gh g H g5 H5 → Q σ H5) : gSub (rd C wa) (rd C wi) rSetL v σ H Q := by
  refine ⟨pins, [], ow, es, g, _, S, hw, fun da l2 g2 v2 H2 p2 s2 r2 => ⟨pins, [], ow, es, g2, _, S.stp' s2, p2, fun di l3 g3 v3 H3 p3 s3 r3 => ?_⟩⟩
  obtain ⟨p, j, rfl, rfl⟩ : ∃ p j, da = .obj p ∧ di = .int j := by
    cases da <;> first | (cases di <;> first | exact ⟨_, _, rfl, rfl⟩ | exact p3.elim) | exact p3.elim
  obtain ⟨ds, m, hc, hm, hd, p4⟩ := p3
  cases r2
  cases r3
  have S3 := (S.stp' s2).stp' s3
  obtain ⟨lf, xs, m1, m2⟩ := cell_lst o.hg S3.stp.ok hc
  have rv : ∀ Z, Rp C.K H3 Z d v := fun Z => lf_any hd ((r.stp s2).stp s3)
  have st := put_lst o.hg S3.stp.ok hc (lfs_set m lf hd) fun Z => (m2 Z).set m (rv Z)
  exact ⟨p, xs, j, m, rfl, rfl, m1, by rw [← (m2 fun _ => True).len]; exact hm, kk _ _ p4 (S3.stp' st) ((s2.trans s3).trans st)⟩
theorem ps_gset (o : Cok X C k fs) {i : Expr} {wi : Wd G} {p' : Pos} (hb : PE X ee (rd C we)) (ha : PE X ea (rd C wa)) (hi : PE X i (rd C wi)) (hn : nsl i = true) (hs : swapsWithSole [.Subscript ea i p'] ee pos.line X.env = pure false) (hst : swappedStores [.Subscript ea i p'] ee X.env = pure none) :
    PS X (.Assign [.Subscript ea i p'] ee pos) (rdS C fun P es g => we es g fun d1 _ g1 => wa es g1 fun d2 _ g2 => wi es g2 fun d3 _ g3 => hT .gset [d1, d2, d3] g3 fun g4 => P.nx es g4) := by
  refine (ps_asg hb (pg_cell o ha hi hn) hs hst rfl).wk fun E σ H q => ?_
  obtain ⟨pins, ow, es, g, P, S, lv, pl, hw, pk⟩ := q
  refine ⟨pins, [], ow, es, g, _, S, hw, fun d1 l1 g1 v1 H1 p1 s1 r1 => ?_⟩
  exact sub_rd o (S.stp' s1) r1 p1 fun g5 H5 p5 S5 _ => pk.nx p5 lv S5
theorem no_names {t1 t2 : Expr} {j1 : Nat} {p1 : Pos} {env : PySem.Env} {a i b j : Expr} {pa pb : Pos} {e1 e2 : Expr} {j2 : Nat} {p2 : Pos} (na : nst e1 = true) (nb : nst e2 = true) : swappedStores [.Tuple [.Subscript a i pa, .Subscript b j pb] j1 p1] (.Tuple [e1, e2] j2 p2) env = pure none := by
  unfold swappedStores
  dsimp only
  split
  · rfl
  · split
    · rename_i q
      exact absurd (Eq.trans (Eq.symm (nst_any na nb)) q) (by decide)
    · rfl
theorem ps_gpar (o : Cok X C k fs) {e1 e2 i b j : Expr} {w1 w2 wi wj : Wd G} {pa pb p1 p2 : Pos} {j1 j2 : Nat} (h1 : PE X e1 (rd C w1)) (h2 : PE X e2 (rd C w2)) (ha : PE X ea (rd C wa)) (hi : PE X i (rd C wi)) (hb : PE X b (rd C wb)) (hj : PE X j (rd C wj))
    (n1 : nst e1 = true) (n2 : nst e2 = true) (ni : nsl i = true) (nj : nsl j = true) :
    PS X (.Assign [.Tuple [.Subscript ea i pa, .Subscript b j pb] j1 p1] (.Tuple [e1, e2] j2 p2) pos) (rdS C fun P es g => w1 es g fun d1 _ g1 => w2 es g1 fun d2 _ g2 => wa es g2 fun da _ g3 => wi es g3 fun di _ g4 => hT .gset [d1, da, di] g4 fun g5 =>
      wb es g5 fun db _ g6 => wj es g6 fun dj _ g7 => hT .gset [d2, db, dj] g7 fun g8 => P.nx es g8) := by
  have hA : PA X [e1, e2] (tCons (rd C w1) (tCons (rd C w2) tNil)) := pa_cons h1 (pa_cons h2 pa_nil (star_cons n2)) (star_cons n1)
  have hg : PG X (.Tuple [.Subscript ea i pa, .Subscript b j pb] j1 p1) (gTup X.K 2 (gCons (gSub (rd C wa) (rd C wi) rSetL) (gCons (gSub (rd C wb) (rd C wj) rSetL) gNil))) :=
    pg_tup o.calm (pgs_cons (pg_cell o ha hi ni) (pgs_cons (pg_cell o hb hj nj) pgs_nil rfl) rfl) rfl rfl
  refine (ps_asg (pe_tup hA) hg rfl (no_names (t1 := ea) (t2 := ea) n1 n2) rfl).wk fun E σ H q => ?_
  obtain ⟨pins, ow, es, g, P, S, lv, pl, hw, pk⟩ := q
  refine ⟨pins, [], ow, es, g, _, S, hw, fun d1 l1 g1 v1 H1 p1 s1 r1 => ⟨pins, [], ow, es, g1, _, S.stp' s1, p1, fun d2 l2 g2 v2 H2 p2 s2 r2 => ?_⟩⟩
  refine ⟨by show 2 ≤ sizeLine; decide, fun t ht => ⟨t, [v1, v2], rfl, .inl (.inl upd_same), rfl, v1, [v2], rfl, ?_⟩⟩
  have S2 := ((S.stp' s1).stp' s2).same (Same.new (o := .tup [v1, v2]) ht)
  refine sub_rd o S2 ((r1.stp s2).same (Same.new ht)) p2 fun g5 H5 p5 S5 st5 => ⟨v2, [], rfl, ?_⟩
  exact sub_rd o S5 ((r2.same (Same.new ht)).stp st5) p5 fun g8 H8 p8 S8 _ => ⟨rfl, pk.nx p8 lv S8⟩
theorem putE_rp {K : PySem.W.Frag} {H : Hp} {Z : Addr → Prop} {s : Str} {d : D} {v : V} (rd : Rp K H Z d v) {kvs : List (Str × D)} {vs : List (Key × V)} (q : vs.map (·.1) = kvs.map (fun z => Sum.inr z.1)) (r : RpA K H Z (kvs.map (·.2)) (vs.map (·.2))) :
    (putK vs (Sum.inr s) v).map (·.1) = (putE s d kvs).map (fun z => Sum.inr z.1) ∧ RpA K H Z ((putE s d kvs).map (·.2)) ((putK vs (Sum.inr s) v).map (·.2)) := by
  have ea : (vs.any fun kv => decide (kv.1 = Sum.inr s)) = (kvs.any fun kv => decide (kv.1 = s)) := by
    clear r rd
    induction kvs generalizing vs with
    | nil => cases vs <;> first | rfl | simp at q
    | cons x kvs ih =>
      cases vs with
      | nil => simp at q
      | cons y vs =>
        simp only [List.map_cons, List.cons.injEq] at q
        rw [List.any_cons, List.any_cons, ih q.2, q.1]
        congr 1
        exact decide_eq_decide.mpr ⟨Sum.inr.inj, fun z => by rw [z]⟩
  unfold putK putE
  rw [ea]
  split
  · clear ea
    rename_i hx
    clear hx
    induction kvs generalizing vs with
    | nil => cases vs <;> first | exact ⟨rfl, .nil⟩ | simp at q
    | cons x kvs ih =>
      cases vs with
      | nil => simp at q
      | cons y vs =>
        simp only [List.map_cons, List.cons.injEq] at q r
        cases r with
        | cons r1 r2 =>
          obtain ⟨i1, i2⟩ := ih q.2 r2
          simp only [List.map_cons]
          by_cases z : x.1 = s
          · have z2 : y.1 = Sum.inr s := by rw [q.1, z]
            rw [if_pos z, if_pos z2, i1]
            exact ⟨by dsimp only; rw [q.1], .cons rd i2⟩
          · have z2 : ¬ y.1 = Sum.inr s := fun h => z (Sum.inr.inj (q.1.symm.trans h))
            rw [if_neg z, if_neg z2, i1]
            exact ⟨by rw [q.1], .cons r1 i2⟩
  · rw [List.map_append, List.map_append, q, List.map_append, List.map_append]
    exact ⟨rfl, r.app (.cons rd .nil)⟩
theorem lfs_putE {s : Str} {d : D} (hd : d.lf = true) {kvs : List (Str × D)} (h : D.lfs (kvs.map (·.2)) = true) : D.lfs ((putE s d kvs).map (·.2)) = true := by
  unfold putE
  split
  · rename_i hx
    clear hx
    induction kvs with
    | nil => rfl
    | cons x kvs ih =>
      simp only [List.map_cons, D.lfs, Bool.and_eq_true] at h ⊢
      refine ⟨?_, ih h.2⟩
      by_cases z : x.1 = s
      · rw [if_pos z]; exact hd
      · rw [if_neg z]; exact h.1
  · rw [List.map_append]
    exact lfs_snoc h hd
theorem ps_gput (o : Cok X C k fs) {s : Str} {j : Nat} {p' p2 : Pos} (hb : PE X ee (rd C we)) (ha : PE X ea (rd C wa)) :
    PS X (.Assign [.Subscript ea (.Constant (.str s) j p2) p'] ee pos) (rdS C fun P es g => we es g fun d1 _ g1 => wa es g1 fun d2 _ g2 => hT (.gput s) [d1, d2] g2 fun g4 => P.nx es g4) := by
  have hu : X.A.units + 1 < cLine := by have := o.un; omega
  have sw : swapsWith ee (some (.Subscript ea (.Constant (.str s) j p2) p')) pos.line X.env = pure false := by
    cases ee <;> rfl
  refine (ps_dput hu ha pe_str hb sw).wk fun E σ H q => ?_
  obtain ⟨pins, ow, es, g, P, S, lv, pl, hw, pk⟩ := q
  refine ⟨pins, [], ow, es, g, _, S, hw, fun d1 l1 g1 v1 H1 p1 s1 r1 => ⟨pins, [], ow, es, g1, _, S.stp' s1, p1, fun d2 l2 g2 v2 H2 p2 s2 r2 => ?_⟩⟩
  obtain ⟨p, rfl⟩ : ∃ p, d2 = .obj p := by cases d2 <;> first | exact ⟨_, rfl⟩ | exact p2.elim
  obtain ⟨kvs, hc, hd, hl, p3⟩ := p2
  cases r2
  have S2 := (S.stp' s1).stp' s2
  obtain ⟨lf, vs, m1, m2, m3⟩ := cell_of o.hg S2.stp.ok hc
  obtain ⟨i1, i2⟩ := putE_rp (s := s) (lf_any (Z' := fun _ => True) hd (r1.stp s2)) m2 m3
  have lf2 := lfs_putE (s := s) hd lf
  have st := stp_put (u := .dK (putK vs (Sum.inr s) v1)) (c := .dct (putE s d1 kvs)) o.hg S2.stp.ok (.inl (by rw [hc]; intro z; cases z)) ⟨lf2, _, upd_same, i1, flatK (imm_upd m1 fun z => z) lf2 i2⟩
  have len : vs.length < sizeLine := by
    have := congrArg List.length m2
    rw [List.length_map, List.length_map] at this
    omega
  exact ⟨p, _, rfl, DPut.k (k := Sum.inr s) m1 len, pk.nx p3 lv (S2.stp' st)⟩
theorem ps_gapp (o : Cok X C k fs) {p2 p3 : Pos} (ha : PE X ea (rd C wa)) (hb : PE X eb (rd C wb)) (hn : nst eb = true) (hc : noCall ea = true) (hl : (p2.endLine == p3.line) = true) :
    PS X (.Expr (.Call (.Attribute ea "append" p2) [eb] [] p3) pos) (rdS C fun P es g => wa es g fun d1 _ g1 => ∃ p ds0, d1 = .obj p ∧ g1 p = some (.lst ds0) ∧ wb es g1 fun d _ g2 => ∃ ds, g2 p = some (.lst ds) ∧ d.lf = true ∧ ds.length < sizeLine ∧ P.nx es (g2.put p (.lst (ds ++ [d])))) := by
  have few : ((backTo p3 (starEach [eb] X.env)).all (fun x => !x.1) && (backToKw p3 (keywordEach [] X.env)).all (fun x => x.1.isSome) && decide (([eb] : List Expr).length + ([] : List Keyword).length + (if ([] : List Keyword).isEmpty then 0 else 1) < 30)) = true := by
    rw [star_cons hn]
    rfl
  refine (ps_expr (pe_bm PySem.F.plainAttrs_list PySem.F.slot_list_append PySem.F.type_list_append mt_append ha (pa_cons hb pa_nil (star_cons hn)) (base_ok hc _) few hl (star_cons hn) rfl) rfl).wk fun E σ H q => ?_
  obtain ⟨pins, ow, es, g, P, S, lv, pl, hw, pk⟩ := q
  rw [o.hK]
  refine ⟨pins, [], ow, es, g, _, S, hw, fun d1 l1 g1 v1 H1 p1 s1 r1 => ?_⟩
  obtain ⟨p, ds0, rfl, hc0, p1⟩ := p1
  cases r1
  have S1 := S.stp' s1
  obtain ⟨_, xs0, m0, _⟩ := cell_lst o.hg S1.stp.ok hc0
  refine ⟨.inl ⟨rfl, xs0, SqL.of m0⟩, pins, [], ow, es, g1, _, S1, p1, fun d2 l2 g2 v2 H2 p2 s2 r2 => ?_⟩
  obtain ⟨ds, hc, hd, hz, p3⟩ := p2
  have S2 := S1.stp' s2
  obtain ⟨lf, xs, m1, m2⟩ := cell_lst o.hg S2.stp.ok hc
  have st := put_lst o.hg S2.stp.ok hc (lfs_snoc lf hd) fun Z => (m2 Z).snoc (lf_any hd r2)
  exact ⟨p, xs, v2, rfl, rfl, m1, by rw [← (m2 fun _ => True).len]; exact hz, pk.nx p3 lv (S2.stp' st)⟩
/-- for over a cell's list, that stays -/
theorem ps_gfor (o : Cok X C k fs) {tg : Tg} {etg eit : Expr} {b : List Stmt} {tb : WSt G} (hxe : X.xe = fun _ _ => False) (ha : PE X eit (rd C wa)) (hg : PG X etg (gTg C.K tg)) (hb : PSs X b (rdS C tb)) (hs : ∀ x, foldedSetIterable eit X.env x = pure x) :
    PS X (.For etg eit b [] pos) (rdS C fun P es g => wa es g fun d _ g1 => ∃ p ds, d = .obj p ∧ g1 p = some (.lst ds) ∧ foG tg p ds tb ds P es g1) := by
  refine (ps_for (by rw [hxe]; exact PassesOwn.never) o.calm (pi_gt (tg := etg) o.hg o.hK ha) hg hb hs).wk fun E σ H q => ?_
  obtain ⟨pins, ow, es, g, P, S, lv, pl, hw, pk⟩ := q
  refine ⟨pins, [], ow, es, g, _, S, hw, fun p ds g1 H1 p1 s1 hc => ?_⟩
  have S1 := S.stp' s1
  refine ⟨fun i m σ' H' => m = ds.length - i ∧ i ≤ ds.length ∧ ∃ ow' es' g', SR C pins [] ow' es' σ' g' H' ∧ Lv es' ∧ foG tg p ds tb (ds.drop i) P es' g', ⟨ds.length, by simp, Nat.zero_le _, ow, es, g1, S1, lv, p1⟩, ?_⟩
  rintro i m σ' H' ⟨rfl, hi, ow', es', g', S', lv', hf'⟩
  have hc' : g' p = some (.lst ds) := by
    cases e : ds.drop i with
    | nil => rw [e] at hf'; exact hf'.1
    | cons d r => rw [e] at hf'; exact hf'.1
  obtain ⟨_, xs, m1, m2⟩ := cell_lst o.hg S'.stp.ok hc'
  rcases Nat.lt_or_ge i ds.length with q | q
  · refine .inr ⟨itl_go m1 (by rw [← (m2 fun _ => True).len]; exact q), fun σ2 H2 => ∃ ow' es' g', SR C pins [] ow' es' σ2 g' H2 ∧ Lv es' ∧ foG tg p ds tb (ds.drop (i + 1)) P es' g', fun σ2 H2 z => ⟨ds.length - (i + 1), by omega, rfl, q, z⟩, fun x H2 y => ?_⟩
    obtain ⟨rfl, d, hd, rx⟩ := itl_yld m1 (m2 (Zl C [] ow' g' 2)) q y
    have ed : ds.drop i = d :: ds.drop (i + 1) := by
      obtain ⟨h1, h2⟩ := List.getElem?_eq_some_iff.mp hd
      rw [← h2]
      exact List.drop_eq_getElem_cons h1
    rw [ed] at hf'
    unfold foG at hf'
    refine tg_ok S' rx (bindT_lv hf'.2 (by decide) lv') fun es2 σ2 hk S2 _ => ⟨pins, _, es2, g', _, S2, hk.2, pl, hk.1, ?_⟩
    exact ⟨fun z lv3 S3 => ⟨_, _, _, S3, lv3, z⟩, fun z lv3 S3 => pk.nx z lv3 S3, fun z lv3 S3 => ⟨_, _, _, S3, lv3, z⟩, pk.rt⟩
  · obtain rfl : i = ds.length := Nat.le_antisymm hi q
    rw [List.drop_length] at hf'
    exact .inl ⟨itl_stop m1 (by rw [← (m2 fun _ => True).len]; exact Nat.le_refl _), pk.nx hf'.2 lv' S'⟩
theorem ps_rais {st : Stmt} : PS X st (rdS C fun _ _ _ => False) := ⟨fun pins s σ H E I h => by
  obtain ⟨_, _, _, _, _, _, _, _, hw, _⟩ := h
  exact hw.elim⟩
theorem ps_augI {x : Str} {neg : Bool} {i : Nat} {px : Pos} (hN : X.N.Nodup) (hi : X.N[i]? = some x) (hx : L2.Loc X.env.scope x) (hf : X.fn x = true ∨ X.env.scope.names.lookup x = some .local) (ha : PE X ea (rd C wa)) :
    PS X (.AugAssign (.Name x px) (if neg = true then .Sub else .Add) ea pos) (rdS C fun P es g => ∃ n l, es[i]? = some (.dat (.int n) l) ∧ wa es g fun d _ g1 => ∃ m, d = .int m ∧ P.nx (es.set i (.dat (.int (if neg = true then n - m else n + m)) 2)) g1) := by
  have main : ∀ {op : Operator} {f : Int → Int → Int}, PIp X op (ipI f) → PS X (.AugAssign (.Name x px) op ea pos) (rdS C fun P es g => ∃ n l, es[i]? = some (.dat (.int n) l) ∧ wa es g fun d _ g1 => ∃ m, d = .int m ∧ P.nx (es.set i (.dat (.int (f n m)) 2)) g1) := fun {op f} hp => by
    refine (ps_aug hN hi hx ha hp hf).wk fun E σ H q => ?_
    obtain ⟨pins, ow, es, g, P, S, lv, pl, ⟨n, l, he, hw⟩, pk⟩ := q
    obtain ⟨v, hv, rv⟩ := S.dat he
    cases rv
    refine ⟨_, hv, pins, [], ow, es, g, _, S, hw, fun d1 l1 g1 v1 H1 p1 s1 r1 => ?_⟩
    obtain ⟨m, rfl, p1⟩ := p1
    cases r1
    exact ⟨n, m, rfl, rfl, pk.nx p1 (lv.set fun _ _ z => by cases z; decide) ((S.stp' s1).asgD (l := 2) (l' := 2) (.int _) (.inl (Nat.le_refl _)))⟩
  cases neg with
  | false => exact main ip_add
  | true => exact main ip_sub
/-- a new list, and another thing -/
theorem ps_parNV {x y : Str} {px py p p2 : Pos} {j1 j2} {sc : Scope} {i j : Nat} (hc : X.calm = true) (hN : X.N.Nodup) (hi : X.N[i]? = some x) (hj : X.N[j]? = some y) (hij : i ≠ j) (hs : X.env.scope = sc) (hb : X.env.blockKind = .function)
    (na : nst ea = true) (nb : nst eb = true) (h : parB sc x y px py ea eb = some true) (ha : PE X ea (rdN C wa)) (hb' : PE X eb (rd C wb)) (nc : swapsWithSole [.Tuple [.Name x px, .Name y py] j1 p] (.Tuple [ea, eb] j2 p2) pos.line X.env = pure false) :
    PS X (.Assign [.Tuple [.Name x px, .Name y py] j1 p] (.Tuple [ea, eb] j2 p2) pos) (rdS C fun P es g => wa es g fun d1 l1 g1 => wb es g1 fun d2 l2 g2 => ∃ ds m1 m2, d1 = .lst ds ∧ i < es.length ∧ 1 ≤ m1 ∧ (m1 ≤ l1 ∨ D.lfs ds = true) ∧ lvOk d2 l2 m2 ∧ P.nx ((es.set i (.own ds m1)).set j (.dat d2 m2)) g2) := by
  have hsw := par_sw (j1 := j1) (j2 := j2) (p := p) (p2 := p2) hs hb na nb h
  have hA : PA X [ea, eb] (tCons (rdN C wa) (tCons (rd C wb) tNil)) := pa_cons ha (pa_cons hb' pa_nil (star_cons nb)) (star_cons na)
  unfold parB at h
  split at h <;> rename_i q0
  · simp only [Bool.and_eq_true, beq_iff_eq] at q0
    obtain ⟨⟨⟨z1, z2⟩, _⟩, _⟩ := q0
    refine (ps_par hc hN hi hj hij (by rw [hs]; exact z1) (by rw [hs]; exact z2) hA hsw nc).wk fun E σ H q => ?_
    obtain ⟨pins, ow, es, g, P, S, lv, pl, hw, pk⟩ := q
    refine ⟨pins, [], ow, es, g, _, S, hw, fun ds l1 g1 q xs H1 p1 s1 hq nf hqq ra => ?_⟩
    have SX := S.moreEx s1 hq nf (some_ne hqq)
    refine ⟨pins, [q], ow, es, g1, _, SX, p1, fun d2 l2 g2 v2 H2 pp s2 r2 => ?_⟩
    obtain ⟨ds', m1, m2, e, hil, h1, hl, h2, pp⟩ := pp
    cases e
    have nf2 : ¬ C.gh.fp g2 q := ((SX.stp' s2).exs q List.mem_cons_self).2.2
    have hq2 : H2 q = some (.lst xs) := s2.kp.keep q _ hqq fun z => absurd z nf
    have conv : ∀ {l : Nat} a, Zl C [] (onO ow i [q]) g2 l a → Zl C [q] ow g2 l a := fun {l} a z => by
      rcases z with z | z | ⟨z, k, y⟩ | z
      · exact .inl z
      · cases z
      · by_cases qq : k = i
        · rw [qq, onO_at] at y
          exact .inr (.inl y)
        · rw [onO_ne qq] at y
          exact .inr (.inr (.inl ⟨z, k, y⟩))
      · exact .inr (.inr (.inr z))
    have ra2 : RpA C.K H2 (Zl C [] (onO ow i [q]) g2 m1) ds xs := by
      have r3 := (ra.stp s2).anti conv
      rcases hl with hl | hl
      · exact r3.low hl
      · exact RpA.flat (fun _ _ q => q) (fun _ _ q => q) ds xs hl r3
    have SA := S.asgN (s1.trans s2) (i := i) (as := [q]) (s := .own ds m1) (v := .ref q) (fun a ha => by rw [List.mem_singleton.mp ha]; exact hq) (fun a ha => by rw [List.mem_singleton.mp ha]; exact some_ne hq2)
      (fun a ha => by rw [List.mem_singleton.mp ha]; exact nf2) (by simp) hil ⟨q, xs, rfl, rfl, hq2, h1, ra2⟩
    have SB := SA.asgD (i := j) (l' := m2) (r2.anti conv) h2.2
    exact ⟨.ref q, v2, rfl, pk.nx pp ((lv.set fun _ _ z => by cases z).set fun _ _ z => by cases z; exact h2.1) SB⟩
  · cases h
end
end VL
/-! Val: soundness for statements; a def keeps its promise. -/
namespace VL
open PySem PySem.Spec PyProof.Rows L2

def isComp : Expr → Bool
  | .ListComp _ _ _ _ => true
  | .SetComp _ _ _ _ => true
  | .DictComp _ _ _ _ _ => true
  | _ => false
def isLc : CE → Bool
  | .lc _ _ _ _ _ => true
  | .glc _ _ _ _ _ => true
  | .trk (.lc _ _ _ _ _) => true
  | .trk (.glc _ _ _ _ _) => true
  | _ => false
def isTup : Expr → Bool
  | .Tuple _ _ _ => true
  | _ => false
abbrev tt1 : Str → Bool := fun _ => true
def nmB (k : Ck) (sc : Scope) (i : Nat) (x : Str) : Bool := decide (k.N[i]? = some x) && locB sc tt1 x
mutual
def chkT (k : Ck) : CT → Scope → Stmt → Bool
  | .asg i c, sc, .Assign [.Name x _] e _ => nmB k sc i x && (chkE k c sc e && (isLc c || !isComp e))
  | .own i c, sc, .Assign [.Name x _] e _ => nmB k sc i x && (chkE k c sc e && (isNew c && (isLc c || !isComp e)))
  | .own2 i (.lc vs tg it .no elt), sc, .Assign [.Name x _] e _ => nmB k sc i x && (chkE k (.lc vs tg it .no elt) sc e && isNew elt)
  | .par i j a b, sc, .Assign [.Tuple [.Name x px, .Name y py] _ _] (.Tuple [ea, eb] _ _) _ => nmB k sc i x && (nmB k sc j y && (decide (i ≠ j) && (nst ea && (nst eb && ((parB sc x y px py ea eb).isSome && (chkE k a sc ea && chkE k b sc eb))))))
  | .parO i j a b, sc, .Assign [.Tuple [.Name x px, .Name y py] _ _] (.Tuple [ea, eb] _ _) _ => nmB k sc i x && (nmB k sc j y && (decide (i ≠ j) && (nst ea && (nst eb && (decide (parB sc x y px py ea eb = some true) && (isNew b && (chkE k a sc ea && chkE k b sc eb)))))))
  | .unp is c, sc, .Assign [.Tuple ts _ _] e _ => tgN k sc tt1 is ts && (chkE k c sc e && !isTup e)
  | .setix i a e, sc, .Assign [.Subscript (.Name x px) ea _] ee _ => chkE k (.var i) sc (.Name x px) && (nsl ea && (chkE k a sc ea && chkE k e sc ee))
  | .setix2 i a b e, sc, .Assign [.Subscript (.Subscript (.Name x px) ei _) ea _] ee _ => chkE k (.var i) sc (.Name x px) && (nsl ei && (nsl ea && (chkE k a sc ei && (chkE k b sc ea && chkE k e sc ee))))
  | .app i e, sc, .Expr (.Call (.Attribute (.Name x px) at' p2) [ee] [] p3) _ => decide (at' = "append") && (chkE k (.var i) sc (.Name x px) && (nst ee && ((p2.endLine == p3.line) && chkE k e sc ee)))
  | .exp c, sc, .Expr e _ => !isComp e && chkE k c sc e
  | .ite c a b, sc, .If e s1 s2 _ => chkE k c sc e && (chkS k a sc s1 && chkS k b sc s2)
  | .whl c b, sc, .While e s [] _ => chkE k c sc e && chkS k b sc s
  | .forr tg it b, sc, .For etg eit s [] _ => chkTg k sc tt1 tg etg && (chkI k it sc eit && (nset eit && chkS k b sc s))
  | .ret c, sc, .Return (some e) _ => chkE k c sc e
  | .retN, _, .Return none _ => true
  | .brk, _, .Break _ => true
  | .cont, _, .Continue _ => true
  | .pas, _, .Pass _ => true
  | .ext (.seta c x) (.cons ce (.cons ca .nil)), sc, .Assign [.Attribute a y _] e _ => decide (x = y) && (decide ((c, x) ∈ k.ats) && (chkE k ce sc e && chkE k ca sc a))
  | .ext .gset (.cons ce (.cons ca (.cons ci .nil))), sc, .Assign [.Subscript a i _] e _ => nsl i && (chkE k ce sc e && (chkE k ca sc a && chkE k ci sc i))
  | .ext (.gput s) (.cons ce (.cons ca .nil)), sc, .Assign [.Subscript a (.Constant (.str y) _ _) _] e _ => decide (s = y) && (chkE k ce sc e && chkE k ca sc a)
  | .gfor tg a b, sc, .For etg eit s [] _ => chkTg k sc tt1 tg etg && (chkE k a sc eit && (nset eit && chkS k b sc s))
  | .gpar e1 e2 a i b j, sc, .Assign [.Tuple [.Subscript xa xi _, .Subscript xb xj _] _ _] (.Tuple [x1, x2] _ _) _ => nst x1 && (nst x2 && (nsl xi && (nsl xj && (chkE k e1 sc x1 && (chkE k e2 sc x2 && (chkE k a sc xa && (chkE k i sc xi && (chkE k b sc xb && chkE k j sc xj))))))))
  | .gapp a e, sc, .Expr (.Call (.Attribute o at' p2) [ee] [] p3) _ => decide (at' = "append") && (noCall o && (nst ee && ((p2.endLine == p3.line) && (chkE k a sc o && chkE k e sc ee))))
  | .rais, _, _ => true
  | .aug neg i e, sc, .AugAssign (.Name x _) o ee _ => decide (o = if neg = true then Operator.Sub else Operator.Add) && (nmB k sc i x && chkE k e sc ee)
  | .parN i j a b, sc, .Assign [.Tuple [.Name x px, .Name y py] _ _] (.Tuple [ea, eb] _ _) _ => nmB k sc i x && (nmB k sc j y && (decide (i ≠ j) && (nst ea && (nst eb && (decide (parB sc x y px py ea eb = some true) && (isNew a && (chkE k a sc ea && chkE k b sc eb)))))))
  | _, _, _ => false
def chkS (k : Ck) : CS → Scope → List Stmt → Bool
  | .nil, _, [] => true
  | .seq s r, sc, st :: sts => chkT k s sc st && chkS k r sc sts
  | .frz _ r, sc, sts => chkS k r sc sts
  | _, _, _ => false
end

section
variable {C : Vc G} {k : Ck} {fs : List (Nat × WF G)}
/-- a def's body -/
structure Bok (X : Cx) (C : Vc G) (k : Ck) (fs : List (Nat × WF G)) (sc : Scope) : Prop where
  o : Cok X C k fs
  hs : X.env.scope = sc
  fn : X.fn = tt1
  xe : X.xe = fun _ _ => False
theorem Bok.bk {X : Cx} {sc : Scope} (b : Bok X C k fs sc) (hk : sc.kind = .function) : X.env.blockKind = .function := by
  unfold PySem.Env.blockKind
  rw [b.hs, hk]
  rfl
theorem sw_none {e : Expr} {t : Option Expr} {l : Nat} {env : PySem.Env} (h : isComp e = false) : swapsWith e t l env = pure false := by
  cases e <;> first | rfl | cases h
/-- which of the two roads a comprehension takes to its name -/
def swLc (sc scope : Scope) (x : Str) (px lp : Pos) : Bool := sc.names.lookup x == some .local && px.line == lp.line && !(scope.names.any fun (n, k) => n == x && (k == .local || k == .cell))
theorem sw_lc {env : PySem.Env} {sc scope : Scope} {elt : Expr} {gs : List Comprehension} {lp px : Pos} {x : Str} {l : Nat} (hs : env.scope = sc) (hk : env.blockKind = .function) : swapsWith (.ListComp elt gs scope lp) (some (.Name x px)) l env = pure (swLc sc scope x px lp) := by
  have kx : env.kindOf x = sc.names.lookup x := by rw [← hs]; rfl
  unfold swapsWith swLc
  simp only [hk, kx, Expr.pos, beq_self_eq_true, Bool.true_and]
/-- name = a comprehension -/
theorem lc_asg {X : Cx} {sc : Scope} {i : Nat} {x : Str} {px p sp : Pos} {vs : List Nat} {tg : Tg} {cond : CO} {ee etg eit : Expr} {ifs : List Expr} {scope : Scope} {te : TE} (b : Bok X C k fs sc) (hk : sc.kind = .function) (hn : nmB k sc i x = true)
    (h1 : blkC k.N sc scope (ownL k vs) = true) (h3 : nset eit = true) (h4 : chkTg k (relS scope sc) (blkFl scope) tg etg = true) {ti : TI} (hi : PI X etg eit ti) (h6 : chkC k cond (relS scope sc) ifs = true)
    (he : ∀ (s : Shared) (H : Hp) (Cc : Addr) (cl : List (Str × Addr)) (fp : List Addr), PE (X.blk s H scope (compEnvC scope cl Cc X.env) fp) ee te) :
    PS X (.Assign [.Name x px] (.ListComp ee [⟨etg, eit, ifs, 0⟩] scope p) sp) (tAsg (tLc ti (gTg C.K tg) (rdB C (wT fs cond)) te vs) (gName i)) := by
  obtain ⟨n1, n2⟩ := b2 hn
  have hN : X.N[i]? = some x := by rw [b.o.hN]; exact of_decide_eq_true n1
  have nd : X.N.Nodup := by rw [b.o.hN]; exact b.o.nd
  obtain ⟨l1, l2⟩ := loc_ok (X := X) b.hs b.fn n2
  have ev : (ownL k vs).map (·.2) = vs := by
    unfold ownL
    rw [List.map_map]
    exact List.map_id'' (fun _ => rfl) vs
  have ok : BlkOk X.N X.env.scope scope (ownL k vs) := by
    rw [b.hs, b.o.hN]
    exact blkOk_by h1
  have scb : ∀ (s : Shared) (H : Hp) (Cc : Addr) (cl : List (Str × Addr)) (fp : List Addr), (X.blk s H scope (compEnvC scope cl Cc X.env) fp).env.scope = relS scope sc := fun s H Cc cl fp => by
    rw [← b.hs]
    rfl
  have hg : ∀ (s : Shared) (H : Hp) (Cc : Addr) (cl : List (Str × Addr)) (fp : List Addr), PG (X.blk s H scope (compEnvC scope cl Cc X.env) fp) etg (gTg C.K tg) := fun s H Cc cl fp => tg_pg (b.o.blk s H scope _ fp) (scb s H Cc cl fp) rfl h4
  have ht : ∀ (s : Shared) (H : Hp) (Cc : Addr) (cl : List (Str × Addr)) (fp : List Addr), PTs (X.blk s H scope (compEnvC scope cl Cc X.env) fp) ifs (rdB C (wT fs cond)) := fun s H Cc cl fp => sC cond _ _ ifs (b.o.blk s H scope _ fp) (scb s H Cc cl fp) h6
  have sw := sw_lc (elt := ee) (gs := [⟨etg, eit, ifs, 0⟩]) (scope := scope) (lp := p) (px := px) (x := x) (l := sp.line) b.hs (b.bk hk)
  cases q : swLc sc scope x px p with
  | true =>
    rw [q] at sw
    have hl : X.env.scope.names.lookup x = some .local := by
      unfold swLc at q
      simp only [Bool.and_eq_true, beq_iff_eq] at q
      rw [b.hs]
      exact q.1.1
    have z := ps_setLc (own := ownL k vs) (pos := p) (spos := sp) (py := px) b.o.calm nd hN hl sw hi ok hg ht he (fold_ok h3)
    rw [ev] at z
    exact z
  | false =>
    rw [q] at sw
    have z := pe_lc (own := ownL k vs) (pos := p) b.o.calm nd hi ok hg ht he (fold_ok h3)
    rw [ev] at z
    exact ps_set nd hN l1 z sw l2
theorem inv_nm {X : Cx} {sc : Scope} {i : Nat} {x : Str} (b : Bok X C k fs sc) (hn : nmB k sc i x = true) : X.N[i]? = some x ∧ X.N.Nodup ∧ L2.Loc X.env.scope x ∧ (X.fn x = true ∨ X.env.scope.names.lookup x = some .local) := by
  obtain ⟨n1, n2⟩ := b2 hn
  obtain ⟨l1, l2⟩ := loc_ok (X := X) b.hs b.fn n2
  exact ⟨by rw [b.o.hN]; exact of_decide_eq_true n1, by rw [b.o.hN]; exact b.o.nd, l1, l2⟩
theorem sw_sub {a b e : Expr} {p : Pos} {l : Nat} {env : PySem.Env} : swapsWithSole [.Subscript a b p] e l env = pure false := by
  cases e <;> rfl
theorem sw_att {a e : Expr} {x : Str} {p : Pos} {l : Nat} {env : PySem.Env} : swapsWith e (some (.Attribute a x p)) l env = pure false := by
  cases e <;> rfl
mutual
theorem tC : ∀ (c : CT) (X : Cx) (sc : Scope) (st : Stmt), Bok X C k fs sc → sc.kind = .function → chkT k c sc st = true → PS X st (rdS C (wC fs c))
  | .asg i c, X, sc, st, b, hk, h => by
    unfold chkT at h
    split at h <;> first | contradiction | exact Bool.noConfusion h | skip
    rename_i hc
    cases hc
    obtain ⟨h1, h2⟩ := b2 h
    obtain ⟨h2, h3⟩ := b2 h2
    obtain ⟨n1, n2, n3, n4⟩ := inv_nm b h1
    cases c with
    | lc vs tg it cond elt =>
      obtain ⟨ee, etg, eit, ifs, scope, p, rfl, q1, q2, q3, q4, q5, q6, q7⟩ := inv_lc h2
      refine (lc_asg b hk h1 q1 q3 q4 (sI _ X _ _ _ b.o b.hs q5) q6 (te := rd C (wE fs elt)) fun s H Cc cl fp => ?_).wk fun E σ H q => asg_rd (fun z => lc_rd q2 z) q
      exact (sE elt _ _ ee (b.o.blk s H scope _ fp) (by rw [← b.hs]; rfl) q7).1
    | glc vs tg a cond elt =>
      obtain ⟨ee, etg, eit, ifs, scope, p, rfl, q1, q2, q3, q4, q5, q6, q7⟩ := inv_glc h2
      refine (lc_asg b hk h1 q1 q3 q4 (pi_gt (tg := etg) b.o.hg b.o.hK (sE a X _ eit b.o b.hs q5).1) q6 (te := rd C (wE fs elt)) fun s H Cc cl fp => ?_).wk fun E σ H q => asg_rd (fun z => lc_rdG b.o.hg q2 z) q
      exact (sE elt _ _ ee (b.o.blk s H scope _ fp) (by rw [← b.hs]; rfl) q7).1
    | trk c0 =>
      cases c0 with
      | lc vs tg it cond elt =>
        have h2' : chkE k (.lc vs tg it cond elt) _ _ = true := h2
        obtain ⟨ee, etg, eit, ifs, scope, p, rfl, q1, q2, q3, q4, q5, q6, q7⟩ := inv_lc h2'
        refine (lc_asg b hk h1 q1 q3 q4 (sI _ X _ _ _ b.o b.hs q5) q6 (te := rd C (wE fs elt)) fun s H Cc cl fp => ?_).wk fun E σ H q => asg_rd (fun z => lc_rdN q2 (trk_rd b.o.hg z)) q
        exact (sE elt _ _ ee (b.o.blk s H scope _ fp) (by rw [← b.hs]; rfl) q7).1
      | glc vs tg a cond elt =>
        have h2' : chkE k (.glc vs tg a cond elt) _ _ = true := h2
        obtain ⟨ee, etg, eit, ifs, scope, p, rfl, q1, q2, q3, q4, q5, q6, q7⟩ := inv_glc h2'
        refine (lc_asg b hk h1 q1 q3 q4 (pi_gt (tg := etg) b.o.hg b.o.hK (sE a X _ eit b.o b.hs q5).1) q6 (te := rd C (wE fs elt)) fun s H Cc cl fp => ?_).wk fun E σ H q => asg_rd (fun z => lc_rdNG b.o.hg q2 (trk_rd b.o.hg z)) q
        exact (sE elt _ _ ee (b.o.blk s H scope _ fp) (by rw [← b.hs]; rfl) q7).1
      | _ => exact (ps_set n2 n1 n3 (sE _ X _ _ b.o b.hs h2).1 (sw_none (by simpa [isLc] using h3)) n4).wk fun E σ H q => asg_rd (fun z => z) q
    | _ => exact (ps_set n2 n1 n3 (sE _ X _ _ b.o b.hs h2).1 (sw_none (by simpa [isLc] using h3)) n4).wk fun E σ H q => asg_rd (fun z => z) q
  | .own i c, X, sc, st, b, hk, h => by
    unfold chkT at h
    split at h <;> first | contradiction | exact Bool.noConfusion h | skip
    rename_i hc
    cases hc
    obtain ⟨h1, h2⟩ := b2 h
    obtain ⟨h2, h3⟩ := b2 h2
    obtain ⟨h3, h4⟩ := b2 h3
    obtain ⟨n1, n2, n3, n4⟩ := inv_nm b h1
    cases c with
    | lc vs tg it cond elt =>
      obtain ⟨ee, etg, eit, ifs, scope, p, rfl, q1, q2, q3, q4, q5, q6, q7⟩ := inv_lc h2
      refine (lc_asg b hk h1 q1 q3 q4 (sI _ X _ _ _ b.o b.hs q5) q6 (te := rd C (wE fs elt)) fun s H Cc cl fp => ?_).wk fun E σ H q => own_rd (fun z => lc_rdN q2 z) q
      exact (sE elt _ _ ee (b.o.blk s H scope _ fp) (by rw [← b.hs]; rfl) q7).1
    | glc vs tg a cond elt =>
      obtain ⟨ee, etg, eit, ifs, scope, p, rfl, q1, q2, q3, q4, q5, q6, q7⟩ := inv_glc h2
      refine (lc_asg b hk h1 q1 q3 q4 (pi_gt (tg := etg) b.o.hg b.o.hK (sE a X _ eit b.o b.hs q5).1) q6 (te := rd C (wE fs elt)) fun s H Cc cl fp => ?_).wk fun E σ H q => own_rd (fun z => lc_rdNG b.o.hg q2 z) q
      exact (sE elt _ _ ee (b.o.blk s H scope _ fp) (by rw [← b.hs]; rfl) q7).1
    | trk c0 => exact Bool.noConfusion h3
    | _ => exact (ps_set n2 n1 n3 (sN _ X _ _ b.o b.hs h3 h2) (sw_none (by simpa [isLc] using h4)) n4).wk fun E σ H q => own_rd (fun z => z) q
  | .own2 i c, X, sc, st, b, hk, h => by
    unfold chkT at h
    split at h <;> first | contradiction | exact Bool.noConfusion h | skip
    rename_i hc
    cases hc
    obtain ⟨h1, h2⟩ := b2 h
    obtain ⟨h2, h3⟩ := b2 h2
    obtain ⟨ee, etg, eit, ifs, scope, p, rfl, q1, q2, q3, q4, q5, q6, q7⟩ := inv_lc h2
    refine (lc_asg b hk h1 q1 q3 q4 (sI _ X _ _ _ b.o b.hs q5) q6 fun s H Cc cl fp => ?_).wk fun E σ H q => own2_rd q2 q
    exact sN _ _ _ ee (b.o.blk s H scope _ fp) (by rw [← b.hs]; rfl) h3 q7
  | .par i j a c, X, sc, st, b, hk, h => by
    unfold chkT at h
    split at h <;> first | contradiction | exact Bool.noConfusion h | skip
    rename_i hc
    cases hc
    obtain ⟨h1, h⟩ := b2 h
    obtain ⟨h2, h⟩ := b2 h
    obtain ⟨h3, h⟩ := b2 h
    obtain ⟨h4, h⟩ := b2 h
    obtain ⟨h5, h⟩ := b2 h
    obtain ⟨h6, h⟩ := b2 h
    obtain ⟨h7, h8⟩ := b2 h
    obtain ⟨n1, n2, _, _⟩ := inv_nm b h1
    obtain ⟨m1, _, _, _⟩ := inv_nm b h2
    obtain ⟨r, hr⟩ := Option.isSome_iff_exists.mp h6
    exact ps_parV b.o.hK b.o.calm n2 n1 m1 (of_decide_eq_true h3) b.hs (b.bk hk) b.fn (b2 h1).2 (b2 h2).2 h4 h5 hr (sE a X _ _ b.o b.hs h7).1 (sE c X _ _ b.o b.hs h8).1 rfl
  | .parO i j a c, X, sc, st, b, hk, h => by
    unfold chkT at h
    split at h <;> first | contradiction | exact Bool.noConfusion h | skip
    rename_i hc
    cases hc
    obtain ⟨h1, h⟩ := b2 h
    obtain ⟨h2, h⟩ := b2 h
    obtain ⟨h3, h⟩ := b2 h
    obtain ⟨h4, h⟩ := b2 h
    obtain ⟨h5, h⟩ := b2 h
    obtain ⟨h6, h⟩ := b2 h
    obtain ⟨h7, h⟩ := b2 h
    obtain ⟨h8, h9⟩ := b2 h
    obtain ⟨n1, n2, _, _⟩ := inv_nm b h1
    obtain ⟨m1, _, _, _⟩ := inv_nm b h2
    exact ps_parOV b.o.calm n2 n1 m1 (of_decide_eq_true h3) b.hs (b.bk hk) h4 h5 (of_decide_eq_true h6) (sE a X _ _ b.o b.hs h8).1 (sN c X _ _ b.o b.hs h7 h9) rfl
  | .unp is c, X, sc, st, b, hk, h => by
    unfold chkT at h
    split at h <;> first | contradiction | exact Bool.noConfusion h | skip
    rename_i hc
    cases hc
    obtain ⟨h1, h2⟩ := b2 h
    obtain ⟨h2, h3⟩ := b2 h2
    exact ps_unpV b.o b.hs b.fn h1 (sE c X _ _ b.o b.hs h2).1 fun es j q z => by
      subst z
      cases h3
  | .setix i a c, X, sc, st, b, hk, h => by
    unfold chkT at h
    split at h <;> first | contradiction | exact Bool.noConfusion h | skip
    rename_i hc
    cases hc
    obtain ⟨h1, h2⟩ := b2 h
    obtain ⟨h2, h3⟩ := b2 h2
    obtain ⟨h3, h4⟩ := b2 h3
    exact ps_setixV (var_ok b.o b.hs h1) (sE a X _ _ b.o b.hs h3).1 (sE c X _ _ b.o b.hs h4).1 h2 sw_sub rfl
  | .setix2 i a c d, X, sc, st, b, hk, h => by
    unfold chkT at h
    split at h <;> first | contradiction | exact Bool.noConfusion h | skip
    rename_i hc
    cases hc
    obtain ⟨h1, h⟩ := b2 h
    obtain ⟨h2, h⟩ := b2 h
    obtain ⟨h3, h⟩ := b2 h
    obtain ⟨h4, h⟩ := b2 h
    obtain ⟨h5, h6⟩ := b2 h
    exact ps_setix2V b.o.hK (var_ok b.o b.hs h1) (sE a X _ _ b.o b.hs h4).1 (sE c X _ _ b.o b.hs h5).1 (sE d X _ _ b.o b.hs h6).1 h2 h3 sw_sub rfl
  | .app i c, X, sc, st, b, hk, h => by
    unfold chkT at h
    split at h <;> first | contradiction | exact Bool.noConfusion h | skip
    rename_i hc
    cases hc
    obtain ⟨h1, h⟩ := b2 h
    obtain ⟨h2, h⟩ := b2 h
    obtain ⟨h3, h⟩ := b2 h
    obtain ⟨h4, h5⟩ := b2 h
    have q := of_decide_eq_true h1
    subst q
    exact ps_appV b.o.hK (var_ok b.o b.hs h2) (sE c X _ _ b.o b.hs h5).1 h3 h4
  | .exp c, X, sc, st, b, hk, h => by
    unfold chkT at h
    split at h <;> first | contradiction | exact Bool.noConfusion h | skip
    rename_i hc
    cases hc
    obtain ⟨h1, h2⟩ := b2 h
    exact ps_expV (sE c X _ _ b.o b.hs h2).1 (sw_none (by simpa using h1))
  | .ite c s1 s2, X, sc, st, b, hk, h => by
    unfold chkT at h
    split at h <;> first | contradiction | exact Bool.noConfusion h | skip
    rename_i hc
    cases hc
    obtain ⟨h1, h2⟩ := b2 h
    obtain ⟨h2, h3⟩ := b2 h2
    exact ps_iteV (sE c X _ _ b.o b.hs h1).2.1 (tS s1 X _ _ b hk h2) (tS s2 X _ _ b hk h3)
  | .whl c s, X, sc, st, b, hk, h => by
    unfold chkT at h
    split at h <;> first | contradiction | exact Bool.noConfusion h | skip
    rename_i hc
    cases hc
    obtain ⟨h1, h2⟩ := b2 h
    exact ps_whlV b.xe (sE c X _ _ b.o b.hs h1).2.1 (tS s X _ _ b hk h2)
  | .forr tg it s, X, sc, st, b, hk, h => by
    unfold chkT at h
    split at h <;> first | contradiction | exact Bool.noConfusion h | skip
    rename_i hc
    cases hc
    obtain ⟨h1, h⟩ := b2 h
    obtain ⟨h2, h⟩ := b2 h
    obtain ⟨h3, h4⟩ := b2 h
    exact ps_forV b.xe b.o.calm (sJ it _ _ _ b.o b.hs h2) (tg_pg b.o b.hs b.fn h1) (tS s X _ _ b hk h4) (fold_ok h3)
  | .ret c, X, sc, st, b, hk, h => by
    unfold chkT at h
    split at h <;> first | contradiction | exact Bool.noConfusion h | skip
    rename_i hc
    cases hc
    exact ps_retV (v_of (sE c X _ _ b.o b.hs h).1 (hv_of b.o b.hs h))
  | .retN, X, sc, st, b, hk, h => by
    unfold chkT at h
    split at h <;> first | contradiction | exact Bool.noConfusion h | skip
    exact ps_retNV
  | .brk, X, sc, st, b, hk, h => by
    unfold chkT at h
    split at h <;> first | contradiction | exact Bool.noConfusion h | skip
    exact ps_brkV
  | .cont, X, sc, st, b, hk, h => by
    unfold chkT at h
    split at h <;> first | contradiction | exact Bool.noConfusion h | skip
    exact ps_contV
  | .pas, X, sc, st, b, hk, h => by
    unfold chkT at h
    split at h <;> first | contradiction | exact Bool.noConfusion h | skip
    exact ps_pasV
  | .gfor tg a bb, X, sc, st, b, hk, h => by
    unfold chkT at h
    split at h <;> first | contradiction | exact Bool.noConfusion h | skip
    rename_i hc
    cases hc
    obtain ⟨h1, h2⟩ := b2 h
    obtain ⟨h2, h3⟩ := b2 h2
    obtain ⟨h3, h4⟩ := b2 h3
    exact ps_gfor b.o b.xe (sE a X _ _ b.o b.hs h2).1 (tg_pg b.o b.hs b.fn h1) (tS bb X _ _ b hk h4) (fold_ok h3)
  | .ext hh as, X, sc, st, b, hk, h => by
    unfold chkT at h
    split at h <;> first | contradiction | exact Bool.noConfusion h | skip
    · rename_i hc
      cases hc
      rename_i hc2
      cases hc2
      obtain ⟨h1, h2⟩ := b2 h
      obtain ⟨h2, h3⟩ := b2 h2
      obtain ⟨h3, h4⟩ := b2 h3
      have ez := of_decide_eq_true h1
      subst ez
      exact ps_seta b.o (of_decide_eq_true h2) (sE _ X _ _ b.o b.hs h3).1 (sE _ X _ _ b.o b.hs h4).1 sw_att
    · rename_i hc
      cases hc
      rename_i hc2
      cases hc2
      obtain ⟨h1, h2⟩ := b2 h
      obtain ⟨h2, h3⟩ := b2 h2
      obtain ⟨h3, h4⟩ := b2 h3
      exact ps_gset b.o (sE _ X _ _ b.o b.hs h2).1 (sE _ X _ _ b.o b.hs h3).1 (sE _ X _ _ b.o b.hs h4).1 h1 sw_sub rfl
    · rename_i hc
      cases hc
      rename_i hc2
      cases hc2
      obtain ⟨h1, h2⟩ := b2 h
      obtain ⟨h2, h3⟩ := b2 h2
      have ez := of_decide_eq_true h1
      subst ez
      exact ps_gput b.o (sE _ X _ _ b.o b.hs h2).1 (sE _ X _ _ b.o b.hs h3).1
  | .gpar e1 e2 a i bb j, X, sc, st, b, hk, h => by
    unfold chkT at h
    split at h <;> first | contradiction | exact Bool.noConfusion h | skip
    rename_i hc
    cases hc
    obtain ⟨h1, h2⟩ := b2 h
    obtain ⟨h2, h3⟩ := b2 h2
    obtain ⟨h3, h4⟩ := b2 h3
    obtain ⟨h4, h5⟩ := b2 h4
    obtain ⟨h5, h6⟩ := b2 h5
    obtain ⟨h6, h7⟩ := b2 h6
    obtain ⟨h7, h8⟩ := b2 h7
    obtain ⟨h8, h9⟩ := b2 h8
    obtain ⟨h9, h10⟩ := b2 h9
    exact ps_gpar b.o (sE e1 X _ _ b.o b.hs h5).1 (sE e2 X _ _ b.o b.hs h6).1 (sE a X _ _ b.o b.hs h7).1 (sE i X _ _ b.o b.hs h8).1 (sE bb X _ _ b.o b.hs h9).1 (sE j X _ _ b.o b.hs h10).1 h1 h2 h3 h4
  | .gapp a e, X, sc, st, b, hk, h => by
    unfold chkT at h
    split at h <;> first | contradiction | exact Bool.noConfusion h | skip
    rename_i hc
    cases hc
    obtain ⟨h1, h2⟩ := b2 h
    obtain ⟨h2, h3⟩ := b2 h2
    obtain ⟨h3, h4⟩ := b2 h3
    obtain ⟨h4, h5⟩ := b2 h4
    obtain ⟨h5, h6⟩ := b2 h5
    have ez := of_decide_eq_true h1
    subst ez
    exact ps_gapp b.o (sE a X _ _ b.o b.hs h5).1 (sE e X _ _ b.o b.hs h6).1 h3 h2 h4
  | .rais, X, sc, st, b, hk, h => ps_rais
  | .aug neg i e, X, sc, st, b, hk, h => by
    unfold chkT at h
    split at h <;> first | contradiction | exact Bool.noConfusion h | skip
    rename_i hc
    cases hc
    obtain ⟨h1, h2⟩ := b2 h
    obtain ⟨h2, h3⟩ := b2 h2
    have eo := of_decide_eq_true h1
    subst eo
    obtain ⟨n1, n2, n3, n4⟩ := inv_nm b h2
    exact ps_augI n2 n1 n3 n4 (sE e X _ _ b.o b.hs h3).1
  | .parN i j a c, X, sc, st, b, hk, h => by
    unfold chkT at h
    split at h <;> first | contradiction | exact Bool.noConfusion h | skip
    rename_i hc
    cases hc
    obtain ⟨h1, h2⟩ := b2 h
    obtain ⟨h2, h3⟩ := b2 h2
    obtain ⟨h3, h4⟩ := b2 h3
    obtain ⟨h4, h5⟩ := b2 h4
    obtain ⟨h5, h6⟩ := b2 h5
    obtain ⟨h6, h7⟩ := b2 h6
    obtain ⟨h7, h8⟩ := b2 h7
    obtain ⟨h8, h9⟩ := b2 h8
    obtain ⟨n1, n2, n3, n4⟩ := inv_nm b h1
    obtain ⟨m1, m2, m3, m4⟩ := inv_nm b h2
    exact ps_parNV b.o.calm n2 n1 m1 (of_decide_eq_true h3) b.hs (b.bk hk) h4 h5 (of_decide_eq_true h6) (sN a X _ _ b.o b.hs h7 h8) (sE c X _ _ b.o b.hs h9).1 rfl
theorem tS : ∀ (c : CS) (X : Cx) (sc : Scope) (sts : List Stmt), Bok X C k fs sc → sc.kind = .function → chkS k c sc sts = true → PSs X sts (rdS C (wS fs c))
  | .nil, X, sc, [], b, hk, h => pss_nilV
  | .nil, X, sc, _ :: _, b, hk, h => Bool.noConfusion h
  | .seq s r, X, sc, [], b, hk, h => Bool.noConfusion h
  | .seq s r, X, sc, st :: sts, b, hk, h => by
    obtain ⟨h1, h2⟩ := b2 h
    have z := pss_consV (tC s X sc st b hk h1) (tS r X sc sts b hk h2)
    exact z
  | .frz i r, X, sc, sts, b, hk, h => pss_frzV (tS r X sc sts b hk (by
      cases sts <;> exact h))
end
end
end VL
/-! Val: a def keeps its promise. -/
namespace VL
open PySem PySem.Spec PyProof.Rows L2

section
variable {P : Program} {w : World} {K : PySem.W.Frag} {mg : Str → Option Value} {base : Heap} {ck : Ck} {fs : List (Nat × WF G)}
/-- the slots at a def's entry -/
def env0 (n : Nat) (ds : List D) : VL.Env := ds.map (fun d => Sl.dat d 1) ++ List.replicate (n - ds.length) .no
/-- a def, a method, a class that may be called: where it stands, what it gives -/
def TabE (P : Program) (w : World) (K : PySem.W.Frag) (mg : Str → Option Value) (base : Heap) (k n : Nat) (wf : WF G) : Nm → Prop
  | .fn x => ∃ (j : Nat) (f : Addr) (fd : FuncData) (ps : List Str), j ≤ k ∧ FnOk P w K mg base (L2.CX P w) j f fd ps (spF K (ghK K mg) n wf) ∧ mg x = some (.ref f) ∧ PySem.W.keepIn K (.ref f) = true ∧ Binds K fd ps []
  | .me c m => ∃ (j : Nat) (f Cl : Addr) (fd : FuncData) (ps : List Str), j ≤ k ∧ FnOk P w K mg base (L2.CX P w) j f fd ps (spF K (ghK K mg) n wf) ∧ mg c = some (.ref Cl) ∧ Cls K Cl ∧ Meth K Cl m f ∧ Binds K fd ps []
  | .mk c => ∃ (j : Nat) (f Cl : Addr) (fd : FuncData) (ps : List Str), j + 1 ≤ k ∧ FnOk P w K mg base (L2.CX P w) j f fd ps (spF K (ghK K mg) n wf) ∧ mg c = some (.ref Cl) ∧ Mk K Cl f ∧ Binds K fd ps []
structure Tab (P : Program) (w : World) (K : PySem.W.Frag) (mg : Str → Option Value) (base : Heap) (k : Nat) (nm : List Nm) (fs : List (Nat × WF G)) : Prop where
  len : fs.length = nm.length
  fn : ∀ (i : Nat) (x : Nm) (n : Nat) (wf : WF G), nm[i]? = some x → fs[i]? = some (n, wf) → TabE P w K mg base k n wf x
theorem env0_get {n : Nat} {ds : List D} {i : Nat} {s : Sl} (h : (env0 n ds)[i]? = some s) : (∃ d, ds[i]? = some d ∧ s = .dat d 1) ∨ (s = .no ∧ ds.length ≤ i) := by
  unfold env0 at h
  rcases Nat.lt_or_ge i ds.length with q | q
  · rw [List.getElem?_append_left (by rw [List.length_map]; exact q), List.getElem?_map] at h
    cases e : ds[i]? with
    | none =>
      rw [e] at h
      cases h
    | some d =>
      rw [e] at h
      cases h
      exact .inl ⟨d, rfl, rfl⟩
  · rw [List.getElem?_append_right (by rw [List.length_map]; exact q)] at h
    exact .inr ⟨List.eq_of_mem_replicate (List.mem_of_getElem? h), q⟩
theorem sr0 {C : Vc G} {H : Hp} {ds : List D} {vs : List V} {N : List Str} (hz : ∀ a, C.gh.fp C.g0 a → C.Z0 a) (hH : C.H0 = H) (ok : C.gh.ok C.g0 H) (r : RpA C.K H C.Z0 ds vs) : SR C [] [] (fun _ => []) (env0 N.length ds) (L2.start N vs) C.g0 H where
  len := by
    unfold env0 L2.start
    rw [List.length_append, List.length_append, List.length_map, List.length_map, List.length_replicate, List.length_replicate, r.len]
  slot := fun i s e => by
    rcases env0_get e with ⟨d, h1, rfl⟩ | ⟨rfl, _⟩
    · obtain ⟨v, h2, h3⟩ := r.get h1
      refine ⟨rfl, v, ?_, h3.anti fun a z => ?_⟩
      · unfold L2.start
        have hi := (List.getElem?_eq_some_iff.mp h2).1
        rw [List.getElem?_append_left (by rw [List.length_map]; exact hi), List.getElem?_map, h2] <;> rfl
      · rcases z with z | z | ⟨_, _, z⟩ | ⟨_, z | z⟩
        · exact hz a z
        · cases z
        · cases z
        · exact absurd z (by decide)
        · exact z
    · rfl
  out := fun _ _ => rfl
  own := fun _ _ h => nomatch h
  nd := fun _ => List.nodup_nil
  dis := fun _ _ _ h => nomatch h
  exs := fun _ h => nomatch h
  pin := fun _ h => nomatch h
  stp := by
    rw [hH]
    exact Stp.refl ok
/-- what is wanted of a body -/
def endP (Pq : Pd G) : Po G := { nx := fun _ g => Pq .non 2 g, rt := Pq }
theorem fn_ok {x qual : Str} {st : Stmt} {f : Addr} {fd : FuncData} {ps : List Str} {k : Nat} {cs : CS} {wf : WF G} (F : FunD K x qual (defArgs st) (defBody st) (defScope st) [] [] f fd) (S : FnScope ck.N ps (defScope st))
    (chk : chkS ck cs (defScope st) (defBody st) = true) (bl : ∀ x ∈ ck.bl, mg x = none) (tab : Tab P w K mg base k ck.nm fs)
    (ats : ∀ c x, (c, x) ∈ ck.ats → ∀ Cl, mg c = some (.ref Cl) → Cls K Cl ∧ NoAttr K Cl x) (gi : ∀ x n, (x, n) ∈ ck.gi → ∃ u, mg x = some u ∧ RelV (.int n) u)
    (kd : ∀ (i : Nat) (x : Str) (kvs : List (Str × D)), ck.kd[i]? = some (x, kvs) → KdC w K mg kvs x)
    (spec : ∀ (ds : List D) (g : G) (Pq : Pd G), ds.length = ps.length → wf ds g Pq → wS fs cs (endP Pq) (env0 ck.N.length ds) g) : FnOk P w K mg base (L2.CX P w) (k + 1) f fd ps (spF K (ghK K mg) ps.length wf) := by
  refine F.ok S (fun vs H Q E h => h.1) fun cdv A outer s H vs Q E hr h => ?_
  obtain ⟨hl, ds, g, Z0, Pq, hz, ok, ra, hw, k0⟩ := h
  refine ⟨rdS ⟨K, ghK K mg, H, g, Z0⟩ (wS fs cs), PSs.nox (tS cs _ (defScope st) _ ⟨⟨rfl, rfl, rfl, S.nd, ?_, bl, tab.len, ?_, rfl, ats, gi, kd⟩, rfl, rfl, rfl⟩ S.kind chk), ?_⟩
  · have := hr.un
    show (A.deeper _).units + 65 < cLine
    omega
  · intro i y n wf' h1 h2
    have q := tab.fn i y n wf' h1 h2
    cases y with
    | fn x =>
      obtain ⟨j, f', fd', ps', hj, q1, q2, q3, q4⟩ := q
      exact ⟨j, f', fd', ps', q1, hr.mono hj, q2, q3, q4⟩
    | me c m =>
      obtain ⟨j, f', Cl, fd', ps', hj, q1, q2, q3, q4, q5⟩ := q
      exact ⟨j, f', Cl, fd', ps', q1, hr.mono hj, q2, q3, q4, q5⟩
    | mk c =>
      obtain ⟨j, f', Cl, fd', ps', hj, q1, q2, q3, q4⟩ := q
      exact ⟨j, f', Cl, fd', ps', q1, hr.mono hj, q2, q3, q4⟩
  · refine ⟨[], _, _, g, endP Pq, sr0 (C := ⟨K, ghK K mg, H, g, Z0⟩) hz rfl ok ra, fun i d l e => ?_, (fun p hp => nomatch hp), spec ds g Pq (by rw [ra.len]; exact hl) hw, ⟨fun {es g' ow σ H'} p lv SS => ?_, (fun p => p.elim), (fun p => p.elim), fun {d l g' v H'} p st r => k0 d l g' v H' p st r⟩⟩
    · rcases env0_get e with ⟨d', _, z⟩ | ⟨z, _⟩
      · cases z
        exact Nat.le_refl _
      · cases z
    · exact k0 .non 2 g' .non H' p SS.stp .non
end
end VL
namespace T
open PySem PySem.Spec PyProof.Rows L2 VL
/-! is_int -/
def cs_is_int : CS := .seq (.ret (.and (.isi (.var 0) ["int"]) (.not (.isi (.var 0) ["bool"])))) .nil
def ck_is_int : Ck := { bl := ["isinstance", "bool", "int"], nm := [], N := ["thing"], gi := [], kd := [] }
theorem sc_is_int : FnScope ck_is_int.N ["thing"] (defScope st_is_int) := ⟨rfl, rfl, rfl, by decide +kernel, rfl, by decide +kernel, by decide +kernel⟩
theorem ch_is_int : chkS ck_is_int cs_is_int (defScope st_is_int) (defBody st_is_int) = true := by decide +kernel
/-! are_ints -/
def cs_are_ints : CS := .seq (.ret (.and (.isi (.var 0) ["tuple"]) (.sq .all (.lc [1] (.name 1) (.it (.var 0)) .no (.call 0 (.cons (.var 1) .nil)))))) .nil
def ck_are_ints : Ck := { bl := ["all", "isinstance", "tuple"], nm := [.fn "is_int"], N := ["thing", "one"], gi := [], kd := [] }
theorem sc_are_ints : FnScope ck_are_ints.N ["thing"] (defScope st_are_ints) := ⟨rfl, rfl, rfl, by decide +kernel, rfl, by decide +kernel, by decide +kernel⟩
theorem ch_are_ints : chkS ck_are_ints cs_are_ints (defScope st_are_ints) (defBody st_are_ints) = true := by decide +kernel
/-! is_table -/
def cs_is_table : CS := .seq (.ite (.or (.not (.isi (.var 0) ["tuple"])) (.not (.sq .all (.lc [1] (.name 1) (.it (.var 0)) .no (.call 0 (.cons (.var 1) .nil)))))) (.seq (.ret (.bl false)) .nil) .nil) (.seq (.ret (.or (.cmp .eq (.sq .len (.var 0)) (.int 0)) (.sq .all (.lc [1] (.name 1) (.it (.var 0)) .no (.cmp .eq (.sq .len (.var 1)) (.sq .len (.ix (.var 0) (.int 0)))))))) .nil)
def ck_is_table : Ck := { bl := ["all", "len", "isinstance", "tuple"], nm := [.fn "are_ints"], N := ["thing", "row"], gi := [], kd := [] }
theorem sc_is_table : FnScope ck_is_table.N ["thing"] (defScope st_is_table) := ⟨rfl, rfl, rfl, by decide +kernel, rfl, by decide +kernel, by decide +kernel⟩
theorem ch_is_table : chkS ck_is_table cs_is_table (defScope st_is_table) (defBody st_is_table) = true := by decide +kernel
/-! is_poly -/
def cs_is_poly : CS := .seq (.ret (.and (.call 0 (.cons (.var 0) .nil)) (.or (.cmp .eq (.sq .len (.var 0)) (.int 0)) (.cmp .ne (.ix (.var 0) (.neg (.int 1))) (.int 0))))) .nil
def ck_is_poly : Ck := { bl := ["len"], nm := [.fn "are_ints"], N := ["thing"], gi := [], kd := [] }
theorem sc_is_poly : FnScope ck_is_poly.N ["thing"] (defScope st_is_poly) := ⟨rfl, rfl, rfl, by decide +kernel, rfl, by decide +kernel, by decide +kernel⟩
theorem ch_is_poly : chkS ck_is_poly cs_is_poly (defScope st_is_poly) (defBody st_is_poly) = true := by decide +kernel
/-! are_pairs -/
def cs_are_pairs : CS := .seq (.ret (.and (.isi (.var 0) ["tuple"]) (.sq .all (.lc [1] (.name 1) (.it (.var 0)) .no (.and (.call 0 (.cons (.var 1) .nil)) (.cmp .eq (.sq .len (.var 1)) (.int 2))))))) .nil
def ck_are_pairs : Ck := { bl := ["all", "len", "isinstance", "tuple"], nm := [.fn "are_ints"], N := ["thing", "one"], gi := [], kd := [] }
theorem sc_are_pairs : FnScope ck_are_pairs.N ["thing"] (defScope st_are_pairs) := ⟨rfl, rfl, rfl, by decide +kernel, rfl, by decide +kernel, by decide +kernel⟩
theorem ch_are_pairs : chkS ck_are_pairs cs_are_pairs (defScope st_are_pairs) (defBody st_are_pairs) = true := by decide +kernel
/-! is_field -/
def cs_is_field : CS := .seq (.ite (.cmp .eq (.var 1) (.str "int")) (.seq (.ret (.call 4 (.cons (.var 0) .nil))) .nil) .nil) (.seq (.ite (.cmp .eq (.var 1) (.str "small")) (.seq (.ret (.and (.call 4 (.cons (.var 0) .nil)) (.chain .le .le (.int 0) (.var 0) (.ext (.glo "GREATEST" 10000) .nil)))) .nil) .nil) (.seq (.ite (.cmp .eq (.var 1) (.str "ints")) (.seq (.ret (.call 3 (.cons (.var 0) .nil))) .nil) .nil) (.seq (.ite (.cmp .eq (.var 1) (.str "table")) (.seq (.ret (.call 2 (.cons (.var 0) .nil))) .nil) .nil) (.seq (.ret (.ite (.cmp .eq (.var 1) (.str "poly")) (.call 0 (.cons (.var 0) .nil)) (.call 1 (.cons (.var 0) .nil)))) .nil))))
def ck_is_field : Ck := { bl := [], nm := [.fn "is_poly", .fn "are_pairs", .fn "is_table", .fn "are_ints", .fn "is_int"], N := ["thing", "kind"], gi := [("GREATEST", 10000)], kd := [] }
theorem sc_is_field : FnScope ck_is_field.N ["thing", "kind"] (defScope st_is_field) := ⟨rfl, rfl, rfl, by decide +kernel, rfl, by decide +kernel, by decide +kernel⟩
theorem ch_is_field : chkS ck_is_field cs_is_field (defScope st_is_field) (defBody st_is_field) = true := by decide +kernel
/-! is_claim -/
def cs_is_claim : CS := .seq (.ite (.or (.not (.isi (.var 0) ["tuple"])) (.or (.cmp .eq (.sq .len (.var 0)) (.int 0)) (.or (.not (.isi (.ix (.var 0) (.int 0)) ["str"])) (.ext (.kin 0 "FORMS" kd_FORMS true) (.cons (.ix (.var 0) (.int 0)) .nil))))) (.seq (.ret (.bl false)) .nil) .nil) (.seq (.asg 1 (.ext (.kix 0 "FORMS" kd_FORMS) (.cons (.ix (.var 0) (.int 0)) .nil))) (.seq (.ret (.and (.cmp .eq (.sq .len (.var 0)) (.bin .add (.sq .len (.var 1)) (.int 1))) (.sq .all (.lc [2] (.name 2) (.rng1 (.sq .len (.var 1))) .no (.call 0 (.cons (.ix (.var 0) (.bin .add (.int 1) (.var 2))) (.cons (.ix (.var 1) (.var 2)) .nil))))))) .nil))
def ck_is_claim : Ck := { bl := ["all", "range", "len", "isinstance", "str", "tuple"], nm := [.fn "is_field"], N := ["thing", "kinds", "k"], gi := [], kd := [("FORMS", kd_FORMS)] }
theorem sc_is_claim : FnScope ck_is_claim.N ["thing"] (defScope st_is_claim) := ⟨rfl, rfl, rfl, by decide +kernel, rfl, by decide +kernel, by decide +kernel⟩
theorem ch_is_claim : chkS ck_is_claim cs_is_claim (defScope st_is_claim) (defBody st_is_claim) = true := by decide +kernel
/-! is_reason -/
def cs_is_reason : CS := .seq (.ite (.cmp .in_ (.var 0) (.tup (.cons (.tup (.cons (.str "digits") .nil)) (.cons (.tup (.cons (.str "trial") .nil)) .nil)))) (.seq (.ret (.bl true)) .nil) .nil) (.seq (.ite (.or (.not (.isi (.var 0) ["tuple"])) (.or (.cmp .eq (.sq .len (.var 0)) (.int 0)) (.cmp .notin (.ix (.var 0) (.int 0)) (.tup (.cons (.str "rows") (.cons (.str "rests") .nil)))))) (.seq (.ret (.bl false)) .nil) .nil) (.seq (.ite (.not (.sq .all (.lc [2] (.name 2) (.it (.sl (.var 0) (.some (.int 1)) .no)) .no (.and (.call 0 (.cons (.var 2) .nil)) (.cmp .ge (.var 2) (.int 0)))))) (.seq (.ret (.bl false)) .nil) .nil) (.seq (.ret (.or (.cmp .eq (.ix (.var 0) (.int 0)) (.str "rests")) (.sq .all (.lc [2] (.name 2) (.it (.sl (.var 0) (.some (.int 1)) .no)) .no (.cmp .lt (.var 2) (.var 1)))))) .nil)))
def ck_is_reason : Ck := { bl := ["all", "len", "isinstance", "tuple"], nm := [.fn "is_int"], N := ["thing", "at", "one"], gi := [], kd := [] }
theorem sc_is_reason : FnScope ck_is_reason.N ["thing", "at"] (defScope st_is_reason) := ⟨rfl, rfl, rfl, by decide +kernel, rfl, by decide +kernel, by decide +kernel⟩
theorem ch_is_reason : chkS ck_is_reason cs_is_reason (defScope st_is_reason) (defBody st_is_reason) = true := by decide +kernel
/-! trimmed -/
def cs_trimmed : CS := .seq (.asg 1 (.sq .len (.var 0))) (.seq (.whl (.and (.cmp .gt (.var 1) (.int 0)) (.cmp .eq (.ix (.var 0) (.bin .sub (.var 1) (.int 1))) (.int 0))) (.seq (.aug true 1 (.int 1)) .nil)) (.seq (.ret (.sl (.var 0) .no (.some (.var 1)))) .nil))
def ck_trimmed : Ck := { bl := ["len"], nm := [], N := ["row", "many"], gi := [], kd := [] }
theorem sc_trimmed : FnScope ck_trimmed.N ["row"] (defScope st_trimmed) := ⟨rfl, rfl, rfl, by decide +kernel, rfl, by decide +kernel, by decide +kernel⟩
theorem ch_trimmed : chkS ck_trimmed cs_trimmed (defScope st_trimmed) (defBody st_trimmed) = true := by decide +kernel
/-! row_of -/
def cs_row_of : CS := .seq (.ite (.cmp .lt (.var 0) (.int 0)) (.seq .rais .nil) .nil) (.seq (.own 1 (.lst .nil)) (.seq (.whl (.cmp .gt (.var 0) (.int 0)) (.seq (.unp [0, 2] (.ext .dmod (.cons (.var 0) (.cons (.ext (.glo "BLOCK" 10000000000000000000000000000000000000000000000000000000000000000) .nil) .nil)))) (.seq (.forr (.name 3) (.rng1 (.ext (.glo "DIGITS" 16) .nil)) (.seq (.app 1 (.bin .mod (.var 2) (.ext (.glo "BASE" 10000) .nil))) (.seq (.asg 2 (.bin .fdiv (.var 2) (.ext (.glo "BASE" 10000) .nil))) .nil))) .nil))) (.seq (.ret (.call 0 (.cons (.var 1) .nil))) .nil)))
def ck_row_of : Ck := { bl := ["range", "divmod"], nm := [.fn "trimmed"], N := ["number", "found", "rest", "k"], gi := [("DIGITS", 16), ("BASE", 10000), ("BLOCK", 10000000000000000000000000000000000000000000000000000000000000000)], kd := [] }
theorem sc_row_of : FnScope ck_row_of.N ["number"] (defScope st_row_of) := ⟨rfl, rfl, rfl, by decide +kernel, rfl, by decide +kernel, by decide +kernel⟩
theorem ch_row_of : chkS ck_row_of cs_row_of (defScope st_row_of) (defBody st_row_of) = true := by decide +kernel
/-! compare -/
def cs_compare : CS := .seq (.ite (.cmp .ne (.sq .len (.var 0)) (.sq .len (.var 1))) (.seq (.ret (.ite (.cmp .lt (.sq .len (.var 0)) (.sq .len (.var 1))) (.neg (.int 1)) (.int 1))) .nil) .nil) (.seq (.forr (.name 2) (.rngd (.bin .sub (.sq .len (.var 0)) (.int 1)) (.neg (.int 1))) (.seq (.ite (.cmp .ne (.ix (.var 0) (.var 2)) (.ix (.var 1) (.var 2))) (.seq (.ret (.ite (.cmp .lt (.ix (.var 0) (.var 2)) (.ix (.var 1) (.var 2))) (.neg (.int 1)) (.int 1))) .nil) .nil) .nil)) (.seq (.ret (.int 0)) .nil))
def ck_compare : Ck := { bl := ["range", "len"], nm := [], N := ["one", "other", "k"], gi := [], kd := [] }
theorem sc_compare : FnScope ck_compare.N ["one", "other"] (defScope st_compare) := ⟨rfl, rfl, rfl, by decide +kernel, rfl, by decide +kernel, by decide +kernel⟩
theorem ch_compare : chkS ck_compare cs_compare (defScope st_compare) (defBody st_compare) = true := by decide +kernel
/-! add -/
def cs_add : CS := .seq (.own 2 (.lst .nil)) (.seq (.asg 3 (.int 0)) (.seq (.forr (.name 4) (.rng1 (.bi .max2 (.cons (.sq .len (.var 0)) (.cons (.sq .len (.var 1)) .nil)))) (.seq (.asg 5 (.bin .add (.bin .add (.var 3) (.ite (.cmp .lt (.var 4) (.sq .len (.var 0))) (.ix (.var 0) (.var 4)) (.int 0))) (.ite (.cmp .lt (.var 4) (.sq .len (.var 1))) (.ix (.var 1) (.var 4)) (.int 0)))) (.seq (.app 2 (.bin .mod (.var 5) (.ext (.glo "BASE" 10000) .nil))) (.seq (.asg 3 (.bin .fdiv (.var 5) (.ext (.glo "BASE" 10000) .nil))) .nil)))) (.seq (.ret (.bin .add (.var 2) (.ite (.cmp .gt (.var 3) (.int 0)) (.lst (.cons (.var 3) .nil)) (.lst .nil)))) .nil)))
def ck_add : Ck := { bl := ["range", "max", "len"], nm := [], N := ["one", "other", "found", "carry", "k", "whole"], gi := [("BASE", 10000)], kd := [] }
theorem sc_add : FnScope ck_add.N ["one", "other"] (defScope st_add) := ⟨rfl, rfl, rfl, by decide +kernel, rfl, by decide +kernel, by decide +kernel⟩
theorem ch_add : chkS ck_add cs_add (defScope st_add) (defBody st_add) = true := by decide +kernel
/-! sub -/
def cs_sub : CS := .seq (.ite (.cmp .lt (.call 1 (.cons (.var 0) (.cons (.var 1) .nil))) (.int 0)) (.seq .rais .nil) .nil) (.seq (.own 2 (.lst .nil)) (.seq (.asg 3 (.int 0)) (.seq (.forr (.name 4) (.rng1 (.sq .len (.var 0))) (.seq (.asg 5 (.bin .sub (.bin .sub (.ix (.var 0) (.var 4)) (.var 3)) (.ite (.cmp .lt (.var 4) (.sq .len (.var 1))) (.ix (.var 1) (.var 4)) (.int 0)))) (.seq (.app 2 (.bin .mod (.var 5) (.ext (.glo "BASE" 10000) .nil))) (.seq (.asg 3 (.ite (.cmp .lt (.var 5) (.int 0)) (.int 1) (.int 0))) .nil)))) (.seq (.ret (.call 0 (.cons (.var 2) .nil))) .nil))))
def ck_sub : Ck := { bl := ["range", "len"], nm := [.fn "trimmed", .fn "compare"], N := ["one", "other", "found", "borrow", "k", "whole"], gi := [("BASE", 10000)], kd := [] }
theorem sc_sub : FnScope ck_sub.N ["one", "other"] (defScope st_sub) := ⟨rfl, rfl, rfl, by decide +kernel, rfl, by decide +kernel, by decide +kernel⟩
theorem ch_sub : chkS ck_sub cs_sub (defScope st_sub) (defBody st_sub) = true := by decide +kernel
/-! order -/
def cs_order : CS := .seq (.ite (.cmp .ne (.cmp .lt (.var 0) (.int 0)) (.cmp .lt (.var 1) (.int 0))) (.seq (.ret (.ite (.cmp .lt (.var 0) (.int 0)) (.neg (.int 1)) (.int 1))) .nil) .nil) (.seq (.asg 2 (.call 0 (.cons (.call 1 (.cons (.bi .abs (.cons (.var 0) .nil)) .nil)) (.cons (.call 1 (.cons (.bi .abs (.cons (.var 1) .nil)) .nil)) .nil)))) (.seq (.ret (.ite (.cmp .lt (.var 0) (.int 0)) (.neg (.var 2)) (.var 2))) .nil))
def ck_order : Ck := { bl := ["abs"], nm := [.fn "compare", .fn "row_of"], N := ["one", "other", "told"], gi := [], kd := [] }
theorem sc_order : FnScope ck_order.N ["one", "other"] (defScope st_order) := ⟨rfl, rfl, rfl, by decide +kernel, rfl, by decide +kernel, by decide +kernel⟩
theorem ch_order : chkS ck_order cs_order (defScope st_order) (defBody st_order) = true := by decide +kernel
/-! added -/
def cs_added : CS := .seq (.par 2 3 (.call 3 (.cons (.bi .abs (.cons (.var 0) .nil)) .nil)) (.call 3 (.cons (.bi .abs (.cons (.var 1) .nil)) .nil))) (.seq (.ite (.cmp .eq (.cmp .lt (.var 0) (.int 0)) (.cmp .lt (.var 1) (.int 0))) (.seq (.ret (.tup (.cons (.call 2 (.cons (.var 2) (.cons (.var 3) .nil))) (.cons (.cmp .lt (.var 0) (.int 0)) .nil)))) .nil) .nil) (.seq (.ite (.cmp .ge (.call 1 (.cons (.var 2) (.cons (.var 3) .nil))) (.int 0)) (.seq (.ret (.tup (.cons (.call 0 (.cons (.var 2) (.cons (.var 3) .nil))) (.cons (.cmp .lt (.var 0) (.int 0)) .nil)))) .nil) .nil) (.seq (.ret (.tup (.cons (.call 0 (.cons (.var 3) (.cons (.var 2) .nil))) (.cons (.cmp .lt (.var 1) (.int 0)) .nil)))) .nil)))
def ck_added : Ck := { bl := ["abs"], nm := [.fn "sub", .fn "compare", .fn "add", .fn "row_of"], N := ["one", "other", "first", "second"], gi := [], kd := [] }
theorem sc_added : FnScope ck_added.N ["one", "other"] (defScope st_added) := ⟨rfl, rfl, rfl, by decide +kernel, rfl, by decide +kernel, by decide +kernel⟩
theorem ch_added : chkS ck_added cs_added (defScope st_added) (defBody st_added) = true := by decide +kernel
/-! is_sum -/
def cs_is_sum : CS := .seq (.unp [3, 4] (.call 1 (.cons (.var 0) (.cons (.var 1) .nil)))) (.seq (.ret (.and (.cmp .eq (.var 3) (.call 0 (.cons (.bi .abs (.cons (.var 2) .nil)) .nil))) (.or (.cmp .eq (.sq .len (.var 3)) (.int 0)) (.cmp .eq (.var 4) (.cmp .lt (.var 2) (.int 0)))))) .nil)
def ck_is_sum : Ck := { bl := ["len", "abs"], nm := [.fn "row_of", .fn "added"], N := ["a", "b", "c", "row", "below"], gi := [], kd := [] }
theorem sc_is_sum : FnScope ck_is_sum.N ["a", "b", "c"] (defScope st_is_sum) := ⟨rfl, rfl, rfl, by decide +kernel, rfl, by decide +kernel, by decide +kernel⟩
theorem ch_is_sum : chkS ck_is_sum cs_is_sum (defScope st_is_sum) (defBody st_is_sum) = true := by decide +kernel
/-! by_digits -/
def cs_by_digits : CS := .seq (.asg 1 (.ix (.var 0) (.int 0))) (.seq (.ite (.cmp .eq (.var 1) (.str "sum")) (.seq (.ret (.call 1 (.cons (.ix (.var 0) (.int 1)) (.cons (.ix (.var 0) (.int 2)) (.cons (.ix (.var 0) (.int 3)) .nil))))) .nil) .nil) (.seq (.ite (.cmp .eq (.var 1) (.str "less")) (.seq (.ret (.cmp .lt (.call 0 (.cons (.ix (.var 0) (.int 1)) (.cons (.ix (.var 0) (.int 2)) .nil))) (.int 0))) .nil) .nil) (.seq (.ite (.cmp .eq (.var 1) (.str "power")) (.seq (.ret (.or (.and (.cmp .eq (.ix (.var 0) (.int 2)) (.int 0)) (.cmp .eq (.ix (.var 0) (.int 3)) (.int 1))) (.and (.cmp .eq (.ix (.var 0) (.int 2)) (.int 1)) (.cmp .eq (.call 0 (.cons (.ix (.var 0) (.int 3)) (.cons (.ix (.var 0) (.int 1)) .nil))) (.int 0))))) .nil) .nil) (.seq (.ite (.cmp .eq (.var 1) (.str "gcd")) (.seq (.ret (.and (.cmp .eq (.ix (.var 0) (.int 1)) (.int 0)) (.and (.cmp .eq (.ix (.var 0) (.int 2)) (.int 0)) (.cmp .eq (.ix (.var 0) (.int 3)) (.int 0))))) .nil) .nil) (.seq (.ite (.cmp .eq (.var 1) (.str "modpower")) (.seq (.ret (.and (.cmp .eq (.ix (.var 0) (.int 2)) (.int 0)) (.and (.cmp .gt (.ix (.var 0) (.int 3)) (.int 0)) (.cmp .eq (.ix (.var 0) (.int 4)) (.ite (.cmp .eq (.ix (.var 0) (.int 3)) (.int 1)) (.int 0) (.int 1)))))) .nil) .nil) (.seq (.ite (.cmp .eq (.var 1) (.str "factors")) (.seq (.ret (.and (.cmp .eq (.ix (.var 0) (.int 1)) (.int 1)) (.cmp .eq (.ix (.var 0) (.int 2)) (.tup .nil)))) .nil) .nil) (.seq (.ret (.and (.cmp .eq (.var 1) (.str "polygcd")) (.cmp .eq (.sl (.var 0) (.some (.int 1)) .no) (.tup (.cons (.tup .nil) (.cons (.tup .nil) (.cons (.tup .nil) .nil))))))) .nil)))))))
def ck_by_digits : Ck := { bl := [], nm := [.fn "order", .fn "is_sum"], N := ["claim", "word"], gi := [], kd := [] }
theorem sc_by_digits : FnScope ck_by_digits.N ["claim"] (defScope st_by_digits) := ⟨rfl, rfl, rfl, by decide +kernel, rfl, by decide +kernel, by decide +kernel⟩
theorem ch_by_digits : chkS ck_by_digits cs_by_digits (defScope st_by_digits) (defBody st_by_digits) = true := by decide +kernel
/-! rest_of -/
def cs_rest_of : CS := .seq (.asg 3 (.int 0)) (.seq (.forr (.name 4) (.it (.rev (.var 0))) (.seq (.asg 3 (.bin .mod (.bin .add (.bin .mul (.var 3) (.ext (.glo "DIGIT" 10000) .nil)) (.var 4)) (.var 2))) .nil)) (.seq (.ret (.ite (.var 1) (.bin .mod (.bin .sub (.var 2) (.var 3)) (.var 2)) (.var 3))) .nil))
def ck_rest_of : Ck := { bl := [], nm := [], N := ["row", "below", "prime", "found", "digit"], gi := [("DIGIT", 10000)], kd := [] }
theorem sc_rest_of : FnScope ck_rest_of.N ["row", "below", "prime"] (defScope st_rest_of) := ⟨rfl, rfl, rfl, by decide +kernel, rfl, by decide +kernel, by decide +kernel⟩
theorem ch_rest_of : chkS ck_rest_of cs_rest_of (defScope st_rest_of) (defBody st_rest_of) = true := by decide +kernel
/-! times_of -/
def cs_times_of : CS := .seq (.parN 2 3 (.lst .nil) (.int 0)) (.seq (.forr (.name 4) (.it (.var 0)) (.seq (.asg 5 (.bin .add (.bin .mul (.var 4) (.var 1)) (.var 3))) (.seq (.app 2 (.bin .mod (.var 5) (.ext (.glo "DIGIT" 10000) .nil))) (.seq (.asg 3 (.bin .fdiv (.var 5) (.ext (.glo "DIGIT" 10000) .nil))) .nil)))) (.seq (.whl (.cmp .gt (.var 3) (.int 0)) (.seq (.app 2 (.bin .mod (.var 3) (.ext (.glo "DIGIT" 10000) .nil))) (.seq (.asg 3 (.bin .fdiv (.var 3) (.ext (.glo "DIGIT" 10000) .nil))) .nil))) (.seq (.ret (.var 2)) .nil)))
def ck_times_of : Ck := { bl := [], nm := [], N := ["row", "small", "found", "carry", "digit", "whole"], gi := [("DIGIT", 10000)], kd := [] }
theorem sc_times_of : FnScope ck_times_of.N ["row", "small"] (defScope st_times_of) := ⟨rfl, rfl, rfl, by decide +kernel, rfl, by decide +kernel, by decide +kernel⟩
theorem ch_times_of : chkS ck_times_of cs_times_of (defScope st_times_of) (defBody st_times_of) = true := by decide +kernel
/-! by_rests -/
def cs_by_rests : CS := .seq (.ite (.or (.cmp .ne (.sq .len (.var 0)) (.sq .len (.var 1))) (.not (.call 5 (.cons (.var 3) .nil)))) (.seq (.ret (.bl false)) .nil) .nil) (.seq (.asg 4 (.lc [5] (.name 5) (.it (.var 0)) .no (.tup (.cons (.call 4 (.cons (.bi .abs (.cons (.var 5) .nil)) .nil)) (.cons (.cmp .lt (.var 5) (.int 0)) .nil))))) (.seq (.asg 6 (.lc [5] (.name 5) (.it (.var 1)) .no (.tup (.cons (.call 4 (.cons (.bi .abs (.cons (.var 5) .nil)) .nil)) (.cons (.cmp .lt (.var 5) (.int 0)) .nil))))) (.seq (.asg 7 (.call 4 (.cons (.bi .abs (.cons (.var 2) .nil)) .nil))) (.seq (.forr (.name 8) (.it (.var 3)) (.seq (.asg 9 (.int 0)) (.seq (.forr (.name 10) (.rng1 (.sq .len (.var 0))) (.seq (.aug false 9 (.bin .mul (.call 3 (.cons (.ix (.ix (.var 4) (.var 10)) (.int 0)) (.cons (.ix (.ix (.var 4) (.var 10)) (.int 1)) (.cons (.var 8) .nil)))) (.call 3 (.cons (.ix (.ix (.var 6) (.var 10)) (.int 0)) (.cons (.ix (.ix (.var 6) (.var 10)) (.int 1)) (.cons (.var 8) .nil)))))) .nil)) (.seq (.ite (.cmp .ne (.bin .mod (.var 9) (.var 8)) (.call 3 (.cons (.var 7) (.cons (.cmp .lt (.var 2) (.int 0)) (.cons (.var 8) .nil))))) (.seq (.ret (.bl false)) .nil) .nil) .nil)))) (.seq (.ret (.cmp .gt (.call 0 (.cons (.call 2 (.cons (.var 3) .nil)) (.cons (.call 1 (.cons (.var 0) (.cons (.var 1) (.cons (.var 2) .nil)))) .nil))) (.int 0))) .nil)))))
def ck_by_rests : Ck := { bl := ["range", "len", "abs"], nm := [.fn "compare", .fn "bound_of", .fn "product_of", .fn "rest_of", .fn "row_of", .fn "are_small_primes"], N := ["xs", "ys", "c", "primes", "first", "one", "second", "third", "prime", "found", "k"], gi := [], kd := [] }
theorem sc_by_rests : FnScope ck_by_rests.N ["xs", "ys", "c", "primes"] (defScope st_by_rests) := ⟨rfl, rfl, rfl, by decide +kernel, rfl, by decide +kernel, by decide +kernel⟩
theorem ch_by_rests : chkS ck_by_rests cs_by_rests (defScope st_by_rests) (defBody st_by_rests) = true := by decide +kernel
/-! are_small_primes -/
def cs_are_small_primes : CS := .seq (.forr (.name 1) (.rng1 (.sq .len (.var 0))) (.seq (.ite (.or (.cmp .le (.ix (.var 0) (.var 1)) (.ext (.glo "LEAST_PRIME" 1000) .nil)) (.or (.and (.cmp .gt (.var 1) (.int 0)) (.cmp .le (.ix (.var 0) (.var 1)) (.ix (.var 0) (.bin .sub (.var 1) (.int 1))))) (.not (.call 0 (.cons (.ix (.var 0) (.var 1)) .nil))))) (.seq (.ret (.bl false)) .nil) .nil) .nil)) (.seq (.ret (.bl true)) .nil)
def ck_are_small_primes : Ck := { bl := ["range", "len"], nm := [.fn "by_trial"], N := ["numbers", "k"], gi := [("LEAST_PRIME", 1000)], kd := [] }
theorem sc_are_small_primes : FnScope ck_are_small_primes.N ["numbers"] (defScope st_are_small_primes) := ⟨rfl, rfl, rfl, by decide +kernel, rfl, by decide +kernel, by decide +kernel⟩
theorem ch_are_small_primes : chkS ck_are_small_primes cs_are_small_primes (defScope st_are_small_primes) (defBody st_are_small_primes) = true := by decide +kernel
/-! product_of -/
def cs_product_of : CS := .seq (.asg 1 (.call 1 (.cons (.int 1) .nil))) (.seq (.forr (.name 2) (.it (.var 0)) (.seq (.asg 1 (.call 0 (.cons (.var 1) (.cons (.var 2) .nil)))) .nil)) (.seq (.ret (.var 1)) .nil))
def ck_product_of : Ck := { bl := [], nm := [.fn "times_of", .fn "row_of"], N := ["primes", "found", "prime"], gi := [], kd := [] }
theorem sc_product_of : FnScope ck_product_of.N ["primes"] (defScope st_product_of) := ⟨rfl, rfl, rfl, by decide +kernel, rfl, by decide +kernel, by decide +kernel⟩
theorem ch_product_of : chkS ck_product_of cs_product_of (defScope st_product_of) (defBody st_product_of) = true := by decide +kernel
/-! bound_of -/
def cs_bound_of : CS := .seq (.asg 3 (.sq .max (.bin .add (.lst (.cons (.int 0) .nil)) (.lc [4] (.name 4) (.rng1 (.sq .len (.var 0))) .no (.bin .add (.sq .len (.call 1 (.cons (.bi .abs (.cons (.ix (.var 0) (.var 4)) .nil)) .nil))) (.sq .len (.call 1 (.cons (.bi .abs (.cons (.ix (.var 1) (.var 4)) .nil)) .nil)))))))) (.seq (.ret (.call 0 (.cons (.ite (.cmp .gt (.sq .len (.var 0)) (.int 0)) (.bin .add (.rep (.cons (.int 0) .nil) (.var 3)) (.call 1 (.cons (.sq .len (.var 0)) .nil))) (.lst .nil)) (.cons (.call 1 (.cons (.bi .abs (.cons (.var 2) .nil)) .nil)) .nil)))) .nil)
def ck_bound_of : Ck := { bl := ["abs", "len", "max", "range"], nm := [.fn "add", .fn "row_of"], N := ["xs", "ys", "c", "wide", "k"], gi := [], kd := [] }
theorem sc_bound_of : FnScope ck_bound_of.N ["xs", "ys", "c"] (defScope st_bound_of) := ⟨rfl, rfl, rfl, by decide +kernel, rfl, by decide +kernel, by decide +kernel⟩
theorem ch_bound_of : chkS ck_bound_of cs_bound_of (defScope st_bound_of) (defBody st_bound_of) = true := by decide +kernel
/-! by_trial -/
def cs_by_trial : CS := .seq (.ite (.not (.chain .le .lt (.int 2) (.var 0) (.ext (.glo "TRIAL" 1000000) .nil))) (.seq (.ret (.bl false)) .nil) .nil) (.seq (.asg 1 (.int 2)) (.seq (.whl (.cmp .le (.bin .mul (.var 1) (.var 1)) (.var 0)) (.seq (.ite (.cmp .eq (.bin .mod (.var 0) (.var 1)) (.int 0)) (.seq (.ret (.bl false)) .nil) .nil) (.seq (.aug false 1 (.int 1)) .nil))) (.seq (.ret (.bl true)) .nil)))
def ck_by_trial : Ck := { bl := [], nm := [], N := ["number", "one"], gi := [("TRIAL", 1000000)], kd := [] }
theorem sc_by_trial : FnScope ck_by_trial.N ["number"] (defScope st_by_trial) := ⟨rfl, rfl, rfl, by decide +kernel, rfl, by decide +kernel, by decide +kernel⟩
theorem ch_by_trial : chkS ck_by_trial cs_by_trial (defScope st_by_trial) (defBody st_by_trial) = true := by decide +kernel
/-! judge -/
def cs_judge : CS := .seq (.ite (.not (.isi (.var 0) ["tuple"])) (.seq (.ret (.int 0)) .nil) .nil) (.seq (.own 1 (.lst .nil)) (.seq (.forr (.name 2) (.rng1 (.sq .len (.var 0))) (.seq (.asg 3 (.ix (.var 0) (.var 2))) (.seq (.ite (.or (.not (.isi (.var 3) ["tuple"])) (.or (.cmp .ne (.sq .len (.var 3)) (.int 2)) (.or (.not (.call 2 (.cons (.ix (.var 3) (.int 0)) .nil))) (.not (.call 1 (.cons (.ix (.var 3) (.int 1)) (.cons (.var 2) .nil))))))) (.seq (.ret (.var 2)) .nil) .nil) (.seq (.ite (.not (.call 0 (.cons (.ix (.var 3) (.int 0)) (.cons (.ix (.var 3) (.int 1)) (.cons (.var 1) .nil))))) (.seq (.ret (.var 2)) .nil) .nil) (.seq (.app 1 (.ix (.var 3) (.int 0))) .nil))))) (.seq (.ret .non) .nil)))
def ck_judge : Ck := { bl := ["range", "len", "isinstance", "tuple"], nm := [.fn "right", .fn "is_reason", .fn "is_claim"], N := ["paper", "claims", "at", "row"], gi := [], kd := [] }
theorem sc_judge : FnScope ck_judge.N ["paper"] (defScope st_judge) := ⟨rfl, rfl, rfl, by decide +kernel, rfl, by decide +kernel, by decide +kernel⟩
theorem ch_judge : chkS ck_judge cs_judge (defScope st_judge) (defBody st_judge) = true := by decide +kernel
/-! right -/
def cs_right : CS := .seq (.asg 3 (.ix (.var 0) (.int 0))) (.seq (.ite (.cmp .eq (.ix (.var 1) (.int 0)) (.str "rests")) (.seq (.ret (.and (.cmp .eq (.var 3) (.str "dot")) (.call 2 (.cons (.ix (.var 0) (.int 1)) (.cons (.ix (.var 0) (.int 2)) (.cons (.ix (.var 0) (.int 3)) (.cons (.sl (.var 1) (.some (.int 1)) .no) .nil))))))) .nil) .nil) (.seq (.ite (.cmp .eq (.ix (.var 1) (.int 0)) (.str "trial")) (.seq (.ret (.and (.cmp .eq (.var 3) (.str "prime")) (.call 1 (.cons (.ix (.var 0) (.int 1)) .nil)))) .nil) .nil) (.seq (.ite (.cmp .eq (.ix (.var 1) (.int 0)) (.str "digits")) (.seq (.ret (.call 0 (.cons (.var 0) .nil))) .nil) .nil) (.seq .rais (.seq .rais (.seq .rais (.seq .rais .nil)))))))
def ck_right : Ck := { bl := [], nm := [.fn "by_digits", .fn "by_trial", .fn "by_rests"], N := ["claim", "reason", "claims", "word", "rows", "k", "rules"], gi := [], kd := [] }
theorem sc_right : FnScope ck_right.N ["claim", "reason", "claims"] (defScope st_right) := ⟨rfl, rfl, rfl, by decide +kernel, rfl, by decide +kernel, by decide +kernel⟩
theorem ch_right : chkS ck_right cs_right (defScope st_right) (defBody st_right) = true := by decide +kernel
/-! _law_draws -/
def cs_law_draws : CS := .seq (.asg 1 (.trk (.lst .nil))) (.seq (.forr (.name 2) (.it (.bin .add (.sq .list (.sl (.var 0) .no (.some (.int 8)))) (.lst (.cons (.int 7) .nil)))) (.seq (.asg 3 (.bi .abs (.cons (.bi .int1 (.cons (.var 2) .nil)) .nil))) (.seq (.asg 4 (.bin .add (.bin .mod (.bi .int1 (.cons (.var 2) .nil)) (.int 1000003)) (.int 1))) (.seq (.forr (.name 5) (.rng1 (.int 40)) (.seq (.ite (.cmp .ge (.var 3) (.int 1048576)) (.seq (.gapp (.var 1) (.bin .mod (.bi .int1 (.cons (.var 3) .nil)) (.int 1048576))) (.seq (.asg 3 (.bin .fdiv (.var 3) (.int 1048576))) .nil)) (.seq (.asg 4 (.bin .mod (.bi .int1 (.cons (.bin .add (.bin .add (.bin .add (.bin .mul (.var 4) (.int 48271)) (.bin .mul (.int 11) (.var 5))) (.int 7)) (.var 3)) .nil)) (.int 2147483647))) (.seq (.gapp (.var 1) (.bin .mod (.bi .int1 (.cons (.bin .fdiv (.bin .mul (.var 4) (.int 2862933555777941757)) (.int 1024)) .nil)) (.int 1048576))) .nil))) .nil)) .nil)))) (.seq (.ret (.ext (.dsp ["numbers", "at"]) (.cons (.var 1) (.cons (.int 0) .nil)))) .nil))
def ck_law_draws : Ck := { bl := ["list", "range", "int", "abs"], nm := [], N := ["script", "numbers", "cell", "rest", "mixed", "k"], gi := [], kd := [] }
theorem sc_law_draws : FnScope ck_law_draws.N ["script"] (defScope st_law_draws) := ⟨rfl, rfl, rfl, by decide +kernel, rfl, by decide +kernel, by decide +kernel⟩
theorem ch_law_draws : chkS ck_law_draws cs_law_draws (defScope st_law_draws) (defBody st_law_draws) = true := by decide +kernel
/-! _law_next -/
def cs_law_next : CS := .seq (.asg 2 (.bi .int1 (.cons (.ext (.gkey "at") (.cons (.var 0) .nil)) .nil))) (.seq (.ext (.gput "at") (.cons (.bin .add (.var 2) (.int 1)) (.cons (.var 0) .nil))) (.seq (.ret (.bin .mod (.bi .int1 (.cons (.bin .add (.ext .gix (.cons (.ext (.gkey "numbers") (.cons (.var 0) .nil)) (.cons (.bin .mod (.var 2) (.ext (.gsq .len) (.cons (.ext (.gkey "numbers") (.cons (.var 0) .nil)) .nil))) .nil))) (.bin .mul (.int 31) (.bin .fdiv (.var 2) (.ext (.gsq .len) (.cons (.ext (.gkey "numbers") (.cons (.var 0) .nil)) .nil))))) .nil)) (.var 1))) .nil))
def ck_law_next : Ck := { bl := ["int", "len"], nm := [], N := ["draws", "bound", "at"], gi := [], kd := [] }
theorem sc_law_next : FnScope ck_law_next.N ["draws", "bound"] (defScope st_law_next) := ⟨rfl, rfl, rfl, by decide +kernel, rfl, by decide +kernel, by decide +kernel⟩
theorem ch_law_next : chkS ck_law_next cs_law_next (defScope st_law_next) (defBody st_law_next) = true := by decide +kernel
/-! _law_pick -/
def cs_law_pick : CS := .seq (.ret (.ix (.var 1) (.call 0 (.cons (.var 0) (.cons (.sq .len (.var 1)) .nil))))) .nil
def ck_law_pick : Ck := { bl := ["len"], nm := [.fn "_law_next"], N := ["draws", "things"], gi := [], kd := [] }
theorem sc_law_pick : FnScope ck_law_pick.N ["draws", "things"] (defScope st_law_pick) := ⟨rfl, rfl, rfl, by decide +kernel, rfl, by decide +kernel, by decide +kernel⟩
theorem ch_law_pick : chkS ck_law_pick cs_law_pick (defScope st_law_pick) (defBody st_law_pick) = true := by decide +kernel
/-! _law_same -/
def cs_law_same : CS := .seq (.ite (.cmp .is_ (.var 1) .non) (.seq (.ret (.cmp .is_ (.var 0) .non)) .nil) .nil) (.seq (.ite (.isi (.var 1) ["bool"]) (.seq (.ret (.and (.isi (.var 0) ["bool"]) (.cmp .eq (.var 0) (.var 1)))) .nil) .nil) (.seq (.ite (.isi (.var 1) ["int"]) (.seq (.ret (.and (.isi (.var 0) ["int"]) (.and (.not (.isi (.var 0) ["bool"])) (.cmp .eq (.var 0) (.var 1))))) .nil) .nil) (.seq (.ite (.isi (.var 1) ["str"]) (.seq (.ret (.and (.isi (.var 0) ["str"]) (.cmp .eq (.var 0) (.var 1)))) .nil) .nil) (.seq (.ite (.isi (.var 1) ["dict"]) (.seq (.ite (.or (.not (.isi (.var 0) ["dict"])) (.or (.cmp .ne (.sq .len (.var 0)) (.sq .len (.var 1))) (.not (.sq .all (.lc [2] (.name 2) (.it (.var 1)) .no (.cmp .in_ (.var 2) (.var 0))))))) (.seq (.ret (.bl false)) .nil) .nil) (.seq (.ret (.sq .all (.lc [2] (.name 2) (.it (.var 1)) .no (.call 0 (.cons (.ix (.var 0) (.var 2)) (.cons (.ix (.var 1) (.var 2)) .nil)))))) .nil)) .nil) (.seq (.ite (.isi (.var 1) ["list"]) (.seq (.ret (.and (.isi (.var 0) ["list"]) (.and (.cmp .eq (.sq .len (.var 0)) (.sq .len (.var 1))) (.sq .all (.lc [3] (.name 3) (.rng1 (.sq .len (.var 1))) .no (.call 0 (.cons (.ix (.var 0) (.var 3)) (.cons (.ix (.var 1) (.var 3)) .nil)))))))) .nil) .nil) (.seq (.ret (.and (.isi (.var 0) ["tuple"]) (.and (.cmp .eq (.sq .len (.var 0)) (.sq .len (.var 1))) (.sq .all (.lc [3] (.name 3) (.rng1 (.sq .len (.var 1))) .no (.call 0 (.cons (.ix (.var 0) (.var 3)) (.cons (.ix (.var 1) (.var 3)) .nil)))))))) .nil))))))
def ck_law_same : Ck := { bl := ["all", "range", "len", "isinstance", "tuple", "list", "dict", "str", "int", "bool"], nm := [.fn "_law_same"], N := ["x", "due", "key", "k"], gi := [], kd := [] }
theorem sc_law_same : FnScope ck_law_same.N ["x", "due"] (defScope st_law_same) := ⟨rfl, rfl, rfl, by decide +kernel, rfl, by decide +kernel, by decide +kernel⟩
theorem ch_law_same : chkS ck_law_same cs_law_same (defScope st_law_same) (defBody st_law_same) = true := by decide +kernel
/-! _law_bits -/
def cs_law_bits : CS := .seq (.own 1 (.lst .nil)) (.seq (.whl (.cmp .gt (.var 0) (.int 0)) (.seq (.app 1 (.bin .mod (.bi .int1 (.cons (.var 0) .nil)) (.int 2))) (.seq (.asg 0 (.bin .fdiv (.var 0) (.int 2))) .nil))) (.seq (.ret (.rev (.var 1))) .nil))
def ck_law_bits : Ck := { bl := ["int"], nm := [], N := ["number", "found"], gi := [], kd := [] }
theorem sc_law_bits : FnScope ck_law_bits.N ["number"] (defScope st_law_bits) := ⟨rfl, rfl, rfl, by decide +kernel, rfl, by decide +kernel, by decide +kernel⟩
theorem ch_law_bits : chkS ck_law_bits cs_law_bits (defScope st_law_bits) (defBody st_law_bits) = true := by decide +kernel
/-! _law_modpow -/
def cs_law_modpow : CS := .seq (.asg 3 (.bin .mod (.bi .int1 (.cons (.int 1) .nil)) (.var 2))) (.seq (.forr (.name 4) (.it (.call 0 (.cons (.var 1) .nil))) (.seq (.asg 3 (.bin .mod (.bi .int1 (.cons (.bin .mul (.bin .mul (.var 3) (.var 3)) (.ite (.cmp .eq (.var 4) (.int 1)) (.var 0) (.int 1))) .nil)) (.var 2))) .nil)) (.seq (.ret (.var 3)) .nil))
def ck_law_modpow : Ck := { bl := ["int"], nm := [.fn "_law_bits"], N := ["a", "e", "m", "found", "bit"], gi := [], kd := [] }
theorem sc_law_modpow : FnScope ck_law_modpow.N ["a", "e", "m"] (defScope st_law_modpow) := ⟨rfl, rfl, rfl, by decide +kernel, rfl, by decide +kernel, by decide +kernel⟩
theorem ch_law_modpow : chkS ck_law_modpow cs_law_modpow (defScope st_law_modpow) (defBody st_law_modpow) = true := by decide +kernel
/-! _law_prime -/
def cs_law_prime : CS := .seq (.ite (.cmp .lt (.var 0) (.int 2)) (.seq (.ret (.bl false)) .nil) .nil) (.seq (.forr (.name 1) (.it (.lst (.cons (.int 2) (.cons (.int 3) (.cons (.int 5) (.cons (.int 7) (.cons (.int 11) (.cons (.int 13) (.cons (.int 17) (.cons (.int 19) (.cons (.int 23) (.cons (.int 29) (.cons (.int 31) (.cons (.int 37) .nil)))))))))))))) (.seq (.ite (.cmp .eq (.bin .mod (.bi .int1 (.cons (.var 0) .nil)) (.var 1)) (.int 0)) (.seq (.ret (.cmp .eq (.var 0) (.var 1))) .nil) .nil) .nil)) (.seq (.par 2 3 (.bin .sub (.var 0) (.int 1)) (.int 0)) (.seq (.whl (.cmp .eq (.bin .mod (.bi .int1 (.cons (.var 2) .nil)) (.int 2)) (.int 0)) (.seq (.par 2 3 (.bin .fdiv (.var 2) (.int 2)) (.bin .add (.var 3) (.int 1))) .nil)) (.seq (.forr (.name 4) (.it (.lst (.cons (.int 2) (.cons (.int 3) (.cons (.int 5) (.cons (.int 7) (.cons (.int 11) (.cons (.int 13) (.cons (.int 17) (.cons (.int 19) (.cons (.int 23) (.cons (.int 29) (.cons (.int 31) (.cons (.int 37) .nil)))))))))))))) (.seq (.asg 5 (.call 0 (.cons (.var 4) (.cons (.var 2) (.cons (.var 0) .nil))))) (.seq (.asg 6 (.cmp .in_ (.var 5) (.lst (.cons (.int 1) (.cons (.bin .sub (.var 0) (.int 1)) .nil))))) (.seq (.forr (.name 7) (.rng1 (.bin .sub (.var 3) (.int 1))) (.seq (.asg 5 (.bin .mod (.bi .int1 (.cons (.bin .mul (.var 5) (.var 5)) .nil)) (.var 0))) (.seq (.asg 6 (.or (.var 6) (.cmp .eq (.var 5) (.bin .sub (.var 0) (.int 1))))) .nil))) (.seq (.ite (.not (.var 6)) (.seq (.ret (.bl false)) .nil) .nil) .nil))))) (.seq (.ret (.bl true)) .nil)))))
def ck_law_prime : Ck := { bl := ["range", "int"], nm := [.fn "_law_modpow"], N := ["n", "p", "odd", "twos", "base", "here", "fine", "k"], gi := [], kd := [] }
theorem sc_law_prime : FnScope ck_law_prime.N ["n"] (defScope st_law_prime) := ⟨rfl, rfl, rfl, by decide +kernel, rfl, by decide +kernel, by decide +kernel⟩
theorem ch_law_prime : chkS ck_law_prime cs_law_prime (defScope st_law_prime) (defBody st_law_prime) = true := by decide +kernel
/-! _law_dot -/
def cs_law_dot : CS := .seq (.ret (.sq .sum (.lc [2] (.name 2) (.rng1 (.sq .len (.var 0))) .no (.bin .mul (.ix (.var 0) (.var 2)) (.ix (.var 1) (.var 2)))))) .nil
def ck_law_dot : Ck := { bl := ["sum", "range", "len"], nm := [], N := ["xs", "ys", "k"], gi := [], kd := [] }
theorem sc_law_dot : FnScope ck_law_dot.N ["xs", "ys"] (defScope st_law_dot) := ⟨rfl, rfl, rfl, by decide +kernel, rfl, by decide +kernel, by decide +kernel⟩
theorem ch_law_dot : chkS ck_law_dot cs_law_dot (defScope st_law_dot) (defBody st_law_dot) = true := by decide +kernel
/-! _law_great -/
def cs_law_great : CS := .seq (.asg 1 (.int 0)) (.seq (.forr (.name 2) (.rng1 (.call 0 (.cons (.var 0) (.cons (.int 5) .nil)))) (.seq (.asg 1 (.bin .add (.bin .mul (.var 1) (.int 1048576)) (.call 0 (.cons (.var 0) (.cons (.int 1048576) .nil))))) .nil)) (.seq (.ret (.ite (.cmp .eq (.call 0 (.cons (.var 0) (.cons (.int 2) .nil))) (.int 0)) (.var 1) (.neg (.var 1)))) .nil))
def ck_law_great : Ck := { bl := ["range"], nm := [.fn "_law_next"], N := ["draws", "found", "k"], gi := [], kd := [] }
theorem sc_law_great : FnScope ck_law_great.N ["draws"] (defScope st_law_great) := ⟨rfl, rfl, rfl, by decide +kernel, rfl, by decide +kernel, by decide +kernel⟩
theorem ch_law_great : chkS ck_law_great cs_law_great (defScope st_law_great) (defBody st_law_great) = true := by decide +kernel
/-! _law_digits -/
def cs_law_digits : CS := .seq (.par 1 2 (.int 0) (.bi .max2 (.cons (.var 0) (.cons (.neg (.var 0)) .nil)))) (.seq (.whl (.cmp .gt (.var 2) (.int 0)) (.seq (.par 1 2 (.bin .add (.var 1) (.int 1)) (.bin .fdiv (.var 2) (.int 10000))) .nil)) (.seq (.ret (.var 1)) .nil))
def ck_law_digits : Ck := { bl := ["max"], nm := [], N := ["number", "many", "rest"], gi := [], kd := [] }
theorem sc_law_digits : FnScope ck_law_digits.N ["number"] (defScope st_law_digits) := ⟨rfl, rfl, rfl, by decide +kernel, rfl, by decide +kernel, by decide +kernel⟩
theorem ch_law_digits : chkS ck_law_digits cs_law_digits (defScope st_law_digits) (defBody st_law_digits) = true := by decide +kernel
/-! _law_bound -/
def cs_law_bound : CS := .seq (.asg 3 (.sq .max (.bin .add (.lst (.cons (.int 0) .nil)) (.lc [5] (.name 5) (.rng1 (.sq .len (.var 0))) .no (.bin .add (.call 0 (.cons (.ix (.var 0) (.var 5)) .nil)) (.call 0 (.cons (.ix (.var 1) (.var 5)) .nil))))))) (.seq (.asg 4 (.sq .len (.var 0))) (.seq (.forr (.name 5) (.rng1 (.var 3)) (.seq (.asg 4 (.bin .mul (.var 4) (.int 10000))) .nil)) (.seq (.ret (.bin .add (.var 4) (.bi .max2 (.cons (.var 2) (.cons (.neg (.var 2)) .nil))))) .nil)))
def ck_law_bound : Ck := { bl := ["max", "range", "len"], nm := [.fn "_law_digits"], N := ["xs", "ys", "c", "wide", "found", "k"], gi := [], kd := [] }
theorem sc_law_bound : FnScope ck_law_bound.N ["xs", "ys", "c"] (defScope st_law_bound) := ⟨rfl, rfl, rfl, by decide +kernel, rfl, by decide +kernel, by decide +kernel⟩
theorem ch_law_bound : chkS ck_law_bound cs_law_bound (defScope st_law_bound) (defBody st_law_bound) = true := by decide +kernel
/-! _law_due -/
def cs_law_due : CS := .seq (.ite (.or (.cmp .ne (.sq .len (.var 0)) (.sq .len (.var 1))) (.cmp .ne (.sq .list (.var 3)) (.ext .sset (.cons (.var 3) .nil)))) (.seq (.ret (.bl false)) .nil) .nil) (.seq (.asg 4 (.int 1)) (.seq (.forr (.name 5) (.it (.var 3)) (.seq (.ite (.or (.not (.chain .lt .lt (.int 1000) (.var 5) (.int 1000000))) (.or (.not (.call 2 (.cons (.var 5) .nil))) (.cmp .ne (.bin .mod (.bi .int1 (.cons (.bin .sub (.call 1 (.cons (.var 0) (.cons (.var 1) .nil))) (.var 2)) .nil)) (.var 5)) (.int 0)))) (.seq (.ret (.bl false)) .nil) .nil) (.seq (.asg 4 (.bin .mul (.var 4) (.var 5))) .nil))) (.seq (.ret (.cmp .gt (.var 4) (.call 0 (.cons (.var 0) (.cons (.var 1) (.cons (.var 2) .nil)))))) .nil)))
def ck_law_due : Ck := { bl := ["int", "list", "sorted", "set", "len"], nm := [.fn "_law_bound", .fn "_law_dot", .fn "_law_prime"], N := ["xs", "ys", "c", "primes", "whole", "p"], gi := [], kd := [] }
theorem sc_law_due : FnScope ck_law_due.N ["xs", "ys", "c", "primes"] (defScope st_law_due) := ⟨rfl, rfl, rfl, by decide +kernel, rfl, by decide +kernel, by decide +kernel⟩
theorem ch_law_due : chkS ck_law_due cs_law_due (defScope st_law_due) (defBody st_law_due) = true := by decide +kernel
/-! _law_primes -/
def cs_law_primes : CS := .seq (.parN 2 3 (.lst .nil) (.int 1)) (.seq (.asg 4 (.bin .add (.int 1009) (.call 1 (.cons (.var 0) (.cons (.int 9000) .nil))))) (.seq (.whl (.cmp .le (.var 3) (.var 1)) (.seq (.ite (.call 0 (.cons (.var 4) .nil)) (.seq (.app 2 (.var 4)) (.seq (.asg 3 (.bin .mul (.var 3) (.var 4))) .nil)) .nil) (.seq (.asg 4 (.bin .add (.var 4) (.int 1))) .nil))) (.seq (.ret (.var 2)) .nil)))
def ck_law_primes : Ck := { bl := [], nm := [.fn "_law_prime", .fn "_law_next"], N := ["draws", "bound", "found", "whole", "here"], gi := [], kd := [] }
theorem sc_law_primes : FnScope ck_law_primes.N ["draws", "bound"] (defScope st_law_primes) := ⟨rfl, rfl, rfl, by decide +kernel, rfl, by decide +kernel, by decide +kernel⟩
theorem ch_law_primes : chkS ck_law_primes cs_law_primes (defScope st_law_primes) (defBody st_law_primes) = true := by decide +kernel
/-! _law_taken -/
def cs_law_taken : CS := .seq (.asg 2 (.call 0 (.cons (.tup (.cons (.tup (.cons (.var 0) (.cons (.var 1) .nil))) .nil)) .nil))) (.seq (.ret (.ite (.cmp .in_ (.var 2) (.lst (.cons .non (.cons (.int 0) .nil)))) (.cmp .is_ (.var 2) .non) .non)) .nil)
def ck_law_taken : Ck := { bl := [], nm := [.fn "judge"], N := ["claim", "reason", "told"], gi := [], kd := [] }
theorem sc_law_taken : FnScope ck_law_taken.N ["claim", "reason"] (defScope st_law_taken) := ⟨rfl, rfl, rfl, by decide +kernel, rfl, by decide +kernel, by decide +kernel⟩
theorem ch_law_taken : chkS ck_law_taken cs_law_taken (defScope st_law_taken) (defBody st_law_taken) = true := by decide +kernel
/-! law -/
def cs_law : CS := .seq (.asg 1 (.call 11 (.cons (.var 0) .nil))) (.seq (.forr (.name 2) (.rng1 (.int 8)) (.seq (.par 3 4 (.call 10 (.cons (.var 1) .nil)) (.call 10 (.cons (.var 1) .nil))) (.seq (.forr (.name 5) (.it (.lst (.cons (.bin .add (.var 3) (.var 4)) (.cons (.bin .add (.bin .add (.var 3) (.var 4)) (.int 1)) (.cons (.bin .sub (.var 3) (.var 4)) (.cons (.bin .sub (.neg (.var 3)) (.var 4)) .nil)))))) (.seq (.ite (.cmp .ne (.call 2 (.cons (.tup (.cons (.str "sum") (.cons (.var 3) (.cons (.var 4) (.cons (.var 5) .nil))))) (.cons (.tup (.cons (.str "digits") .nil)) .nil))) (.cmp .eq (.bin .add (.var 3) (.var 4)) (.var 5))) (.seq (.ret (.bl false)) .nil) .nil) .nil)) (.seq (.forr (.tup [6, 15]) (.it (.lst (.cons (.tup (.cons (.var 3) (.cons (.var 4) .nil))) (.cons (.tup (.cons (.var 4) (.cons (.var 3) .nil))) (.cons (.tup (.cons (.var 3) (.cons (.var 3) .nil))) (.cons (.tup (.cons (.var 3) (.cons (.bin .add (.var 3) (.int 1)) .nil))) (.cons (.tup (.cons (.neg (.var 3)) (.cons (.var 3) .nil))) .nil))))))) (.seq (.ite (.cmp .ne (.call 2 (.cons (.tup (.cons (.str "less") (.cons (.var 6) (.cons (.var 15) .nil)))) (.cons (.tup (.cons (.str "digits") .nil)) .nil))) (.cmp .lt (.var 6) (.var 15))) (.seq (.ret (.bl false)) .nil) .nil) .nil)) (.seq (.asg 7 (.sq .tuple (.lc [8] (.name 8) (.rng1 (.call 5 (.cons (.var 1) (.cons (.int 4) .nil)))) .no (.call 10 (.cons (.var 1) .nil))))) (.seq (.asg 9 (.sq .tuple (.lc [6] (.name 6) (.it (.var 7)) .no (.call 10 (.cons (.var 1) .nil))))) (.seq (.asg 5 (.call 9 (.cons (.var 7) (.cons (.var 9) .nil)))) (.seq (.asg 10 (.call 7 (.cons (.var 1) (.cons (.call 8 (.cons (.var 7) (.cons (.var 9) (.cons (.var 5) .nil)))) .nil)))) (.seq (.ite (.cmp .isnt (.call 2 (.cons (.tup (.cons (.str "dot") (.cons (.var 7) (.cons (.var 9) (.cons (.var 5) .nil))))) (.cons (.bin .add (.tup (.cons (.str "rests") .nil)) (.sq .tuple (.var 10))) .nil))) (.bl true)) (.seq (.ret (.bl false)) .nil) .nil) (.seq (.asg 11 (.lst (.cons (.sl (.var 10) .no (.some (.neg (.int 1)))) (.cons (.bin .add (.var 10) (.lst (.cons (.int 1000003) .nil))) (.cons (.bin .add (.var 10) (.lst (.cons (.int 1001) .nil))) (.cons (.rev (.var 10)) (.cons (.bin .add (.var 10) (.sl (.var 10) (.some (.neg (.int 1))) .no)) (.cons (.bin .add (.lst (.cons (.int 997) .nil)) (.var 10)) (.cons (.bin .add (.lst (.cons (.int 1003) .nil)) (.var 10)) (.cons (.bin .add (.var 10) (.lst (.cons (.int 999983) .nil))) .nil)))))))))) (.seq (.forr (.name 12) (.it (.var 11)) (.seq (.ite (.cmp .ne (.call 2 (.cons (.tup (.cons (.str "dot") (.cons (.var 7) (.cons (.var 9) (.cons (.var 5) .nil))))) (.cons (.bin .add (.tup (.cons (.str "rests") .nil)) (.sq .tuple (.var 12))) .nil))) (.call 6 (.cons (.var 7) (.cons (.var 9) (.cons (.var 5) (.cons (.var 12) .nil)))))) (.seq (.ret (.bl false)) .nil) .nil) .nil)) (.seq (.asg 13 (.int 1)) (.seq (.forr (.name 14) (.it (.sl (.var 10) .no (.some (.neg (.int 1))))) (.seq (.asg 13 (.bin .mul (.var 13) (.var 14))) .nil)) (.seq (.forr (.name 15) (.it (.lst (.cons (.bin .add (.var 5) (.int 1)) (.cons (.bin .add (.var 5) (.var 13)) (.cons (.bin .sub (.var 5) (.var 13)) (.cons (.neg (.var 5)) .nil)))))) (.seq (.ite (.cmp .ne (.call 2 (.cons (.tup (.cons (.str "dot") (.cons (.var 7) (.cons (.var 9) (.cons (.var 15) .nil))))) (.cons (.bin .add (.tup (.cons (.str "rests") .nil)) (.sq .tuple (.var 10))) .nil))) (.call 6 (.cons (.var 7) (.cons (.var 9) (.cons (.var 15) (.cons (.var 10) .nil)))))) (.seq (.ret (.bl false)) .nil) .nil) .nil)) (.seq (.ite (.or (.cmp .isnt (.call 2 (.cons (.tup (.cons (.str "dot") (.cons (.bin .add (.var 7) (.tup (.cons (.int 1) .nil))) (.cons (.var 9) (.cons (.var 5) .nil))))) (.cons (.bin .add (.tup (.cons (.str "rests") .nil)) (.sq .tuple (.var 10))) .nil))) (.bl false)) (.cmp .isnt (.call 2 (.cons (.tup (.cons (.str "sum") (.cons (.var 3) (.cons (.var 4) (.cons (.bin .add (.var 3) (.var 4)) .nil))))) (.cons (.tup (.cons (.str "rests") .nil)) .nil))) (.bl false))) (.seq (.ret (.bl false)) .nil) .nil) (.seq (.asg 14 (.bin .add (.int 2) (.call 4 (.cons (.var 1) (.cons (.lst (.cons (.call 5 (.cons (.var 1) (.cons (.int 400) .nil))) (.cons (.call 5 (.cons (.var 1) (.cons (.int 999998) .nil))) (.cons (.bin .sub (.int 999983) (.int 2)) .nil)))) .nil))))) (.seq (.ite (.or (.cmp .ne (.call 2 (.cons (.tup (.cons (.str "prime") (.cons (.var 14) .nil))) (.cons (.tup (.cons (.str "trial") .nil)) .nil))) (.call 3 (.cons (.var 14) .nil))) (.cmp .isnt (.call 2 (.cons (.tup (.cons (.str "prime") (.cons (.neg (.var 14)) .nil))) (.cons (.tup (.cons (.str "trial") .nil)) .nil))) (.bl false))) (.seq (.ret (.bl false)) .nil) .nil) .nil))))))))))))))))) (.seq (.asg 16 (.lst (.cons (.call 2 (.cons (.tup (.cons (.str "dot") (.cons (.tup .nil) (.cons (.tup .nil) (.cons (.int 0) .nil))))) (.cons (.tup (.cons (.str "rests") .nil)) .nil))) (.cons (.call 2 (.cons (.tup (.cons (.str "dot") (.cons (.tup .nil) (.cons (.tup .nil) (.cons (.int 1) .nil))))) (.cons (.tup (.cons (.str "rests") (.cons (.int 1009) .nil))) .nil))) (.cons (.call 2 (.cons (.tup (.cons (.str "prime") (.cons (.int 1000003) .nil))) (.cons (.tup (.cons (.str "trial") .nil)) .nil))) .nil))))) (.seq (.ret (.and (.call 1 (.cons (.var 16) (.cons (.lst (.cons (.bl true) (.cons (.bl false) (.cons (.bl false) .nil)))) .nil))) (.and (.cmp .is_ (.call 0 (.cons (.tup .nil) .nil)) .non) (.and (.cmp .eq (.call 0 (.cons (.lst .nil) .nil)) (.int 0)) (.cmp .eq (.call 0 (.cons (.tup (.cons (.int 1) .nil)) .nil)) (.int 0)))))) .nil)))
def ck_law : Ck := { bl := ["range", "tuple"], nm := [.fn "judge", .fn "_law_same", .fn "_law_taken", .fn "_law_prime", .fn "_law_pick", .fn "_law_next", .fn "_law_due", .fn "_law_primes", .fn "_law_bound", .fn "_law_dot", .fn "_law_great", .fn "_law_draws"], N := ["script", "draws", "turn", "a", "b", "c", "one", "xs", "k", "ys", "primes", "rows", "some", "whole", "p", "other", "told"], gi := [], kd := [] }
theorem sc_law : FnScope ck_law.N ["script"] (defScope st_law) := ⟨rfl, rfl, rfl, by decide +kernel, rfl, by decide +kernel, by decide +kernel⟩
theorem ch_law : chkS ck_law cs_law (defScope st_law) (defBody st_law) = true := by decide +kernel
end T
/-! Val: rules by which a meaning is shown, construct by construct. -/
namespace VL
open PySem PySem.Spec PyProof.Rows

section
variable {fs : List (Nat × WF G)} {es : VL.Env} {g : G} {Q : Pd G} {a b c : CE} {P : Po G} {i j : Nat} {d : D} {l : Nat}
theorem x_var (h : es[i]? = some (.dat d l)) (q : Q d l g) : VL.wE fs (.var i) es g Q := by
  unfold VL.wE
  rw [h]
  exact q
theorem x_int {n : Int} (q : Q (.int n) 2 g) : VL.wE fs (.int n) es g Q := q
theorem x_bl {n : Bool} (q : Q (.bl n) 2 g) : VL.wE fs (.bl n) es g Q := q
theorem x_non (q : Q .non 2 g) : VL.wE fs .non es g Q := q
theorem x_str {s : Str} (q : Q (.str s) 2 g) : VL.wE fs (.str s) es g Q := q
theorem x_glo {x : Str} {n : Int} (q : Q (.int n) 2 g) : VL.wE fs (.ext (.glo x n) .nil) es g Q := q
theorem x_vvar (h : es[i]? = some (.dat d l)) (q : Q d l g) : VL.wV (.var i) (VL.wE fs (.var i)) es g Q := by
  unfold VL.wV
  dsimp only
  rw [h]
  exact x_var h q
theorem x_vown {ds : List D} (h : es[i]? = some (.own ds l)) (q : Q (.lst ds) l g) : VL.wV (.var i) (VL.wE fs (.var i)) es g Q := by
  unfold VL.wV
  dsimp only
  rw [h]
  exact q
theorem x_v (nv : (match a with | .var _ => false | _ => true) = true) (q : VL.wE fs a es g Q) : VL.wV a (VL.wE fs a) es g Q := by
  unfold VL.wV
  cases a <;> first | exact q | cases nv
theorem x_bin {op : Bop} (h : VL.wV a (VL.wE fs a) es g fun d1 l1 g1 => VL.wV b (VL.wE fs b) es g1 fun d2 l2 g2 => bop op d1 l1 d2 l2 fun d l => Q d l g2) : VL.wE fs (.bin op a b) es g Q := h
theorem x_neg (h : VL.wE fs a es g fun d _ g1 => ∃ i, d = .int i ∧ Q (.int (-i)) 2 g1) : VL.wE fs (.neg a) es g Q := h
theorem x_not (h : VL.wE fs a es g fun d _ g1 => ∃ b, tru d = some b ∧ Q (.bl (!b)) 2 g1) : VL.wE fs (.not a) es g Q := h
theorem x_cmp {op : Cop} (h : VL.wE fs a es g fun d1 _ g1 => VL.wE fs b es g1 fun d2 _ g2 => cop op d1 d2 fun c => Q (.bl c) 2 g2) : VL.wE fs (.cmp op a b) es g Q := h
theorem x_chain {op op' : Cop} (h : VL.wE fs a es g fun d1 _ g1 => VL.wE fs b es g1 fun d2 _ g2 => cop op d1 d2 fun k => if k = true then (VL.wE fs c es g2 fun d3 _ g3 => cop op' d2 d3 fun k' => Q (.bl k') 2 g3) else Q (.bl false) 2 g2) : VL.wE fs (.chain op op' a b c) es g Q := h
/-- and, by its left answer -/
theorem x_and (h : VL.wE fs a es g fun d _ g1 => ∃ k, d = .bl k ∧ (k = true → VL.wE fs b es g1 Q) ∧ (k = false → Q (.bl false) 2 g1)) : VL.wE fs (.and a b) es g Q := by
  have e : (fun (d : D) (_ : Nat) (g1 : G) => ∃ k, d = .bl k ∧ (k = true → VL.wE fs b es g1 Q) ∧ (k = false → Q (.bl false) 2 g1)) = fun d _ g1 => ∃ k, d = .bl k ∧ if k = true then VL.wE fs b es g1 Q else Q (.bl false) 2 g1 := by
    funext d n g1
    apply propext
    constructor
    · rintro ⟨k, e, h1, h2⟩
      cases k with
      | true => exact ⟨true, e, by rw [if_pos rfl]; exact h1 rfl⟩
      | false => exact ⟨false, e, by rw [if_neg Bool.false_ne_true]; exact h2 rfl⟩
    · rintro ⟨k, e, h1⟩
      cases k with
      | true => exact ⟨true, e, fun _ => by rw [if_pos rfl] at h1; exact h1, fun z => nomatch z⟩
      | false => exact ⟨false, e, (fun z => nomatch z), fun _ => by rw [if_neg Bool.false_ne_true] at h1; exact h1⟩
  rw [e] at h
  exact h
theorem x_or (h : VL.wE fs a es g fun d _ g1 => ∃ k, d = .bl k ∧ (k = true → Q (.bl true) 2 g1) ∧ (k = false → VL.wE fs b es g1 Q)) : VL.wE fs (.or a b) es g Q := by
  have e : (fun (d : D) (_ : Nat) (g1 : G) => ∃ k, d = .bl k ∧ (k = true → Q (.bl true) 2 g1) ∧ (k = false → VL.wE fs b es g1 Q)) = fun d _ g1 => ∃ k, d = .bl k ∧ if k = true then Q (.bl true) 2 g1 else VL.wE fs b es g1 Q := by
    funext d n g1
    apply propext
    constructor
    · rintro ⟨k, e, h1, h2⟩
      cases k with
      | true => exact ⟨true, e, by rw [if_pos rfl]; exact h1 rfl⟩
      | false => exact ⟨false, e, by rw [if_neg Bool.false_ne_true]; exact h2 rfl⟩
    · rintro ⟨k, e, h1⟩
      cases k with
      | true => exact ⟨true, e, (fun _ => by rw [if_pos rfl] at h1; exact h1), fun z => nomatch z⟩
      | false => exact ⟨false, e, (fun z => nomatch z), fun _ => by rw [if_neg Bool.false_ne_true] at h1; exact h1⟩
  rw [e] at h
  exact h
theorem ite_of {k : Bool} {A B : Prop} (h1 : k = true → A) (h2 : k = false → B) : if k = true then A else B := by
  cases k with
  | true => rw [if_pos rfl]; exact h1 rfl
  | false => rw [if_neg Bool.false_ne_true]; exact h2 rfl
theorem x_ite (h : VL.wE fs c es g fun d _ g1 => ∃ k, tru d = some k ∧ if k = true then VL.wE fs a es g1 Q else VL.wE fs b es g1 Q) : VL.wE fs (.ite c a b) es g Q := h
theorem x_tup {as : CA} (h : VL.wA fs as es g fun ds l g1 => ds.length ≤ sizeLine ∧ Q (.tup ds) l g1) : VL.wE fs (.tup as) es g Q := h
theorem x_lst {as : CA} (h : VL.wA fs as es g fun ds l g1 => ds.length ≤ sizeLine ∧ Q (.lst ds) l g1) : VL.wE fs (.lst as) es g Q := h
theorem x_ix (h : VL.wQ a (VL.wE fs a) es g fun _ ds l g1 => VL.wE fs b es g1 fun d _ g2 => ∃ i e, d = .int i ∧ L2.atI ds i = some e ∧ Q e l g2) : VL.wE fs (.ix a b) es g Q := h
theorem x_sq {f : Sq} (h : VL.wQ a (VL.wE fs a) es g fun t ds l g1 => sqf f t ds l fun d l => Q d l g1) : VL.wE fs (.sq f a) es g Q := h
theorem x_bi {f : Bi} {as : CA} (h : VL.wA fs as es g fun ds _ g1 => biF f ds fun d l => Q d l g1) : VL.wE fs (.bi f as) es g Q := h
theorem x_isi {T : List String} (h : VL.wE fs a es g fun d _ g1 => ∃ t b, tyOf d = some t ∧ isB t T = some b ∧ Q (.bl b) 2 g1) : VL.wE fs (.isi a T) es g Q := h
theorem x_call {f : Nat} {as : CA} (h : VL.wA fs as es g fun ds m g1 => ∃ n w, fs[f]? = some (n, w) ∧ ds.length = n ∧ w ds g1 fun d l g2 => Q d (if 2 ≤ l then 2 else m) g2) : VL.wE fs (.call f as) es g Q := h
variable {R : List D → Nat → G → Prop} {W : Bool → List D → Nat → G → Prop}
theorem x_anil (q : R [] 2 g) : VL.wA fs .nil es g R := q
theorem x_acons {r : CA} (h : VL.wE fs a es g fun d l g1 => VL.wA fs r es g1 fun ds l' g2 => R (d :: ds) (min l l') g2) : VL.wA fs (.cons a r) es g R := h
theorem x_qlst {ds : List D} (h : es[i]? = some (.dat (.lst ds) l)) (q : W false ds l g) : VL.wQ (.var i) (VL.wE fs (.var i)) es g W := by
  unfold VL.wQ
  dsimp only
  rw [h]
  exact q
theorem x_qtup {ds : List D} (h : es[i]? = some (.dat (.tup ds) l)) (q : W true ds l g) : VL.wQ (.var i) (VL.wE fs (.var i)) es g W := by
  unfold VL.wQ
  dsimp only
  rw [h]
  exact q
theorem x_qown {ds : List D} (h : es[i]? = some (.own ds l)) (q : W false ds l g) : VL.wQ (.var i) (VL.wE fs (.var i)) es g W := by
  unfold VL.wQ
  dsimp only
  rw [h]
  exact q
/-- what is no name, seen as a sequence -/
def seqQ (W : Bool → List D → Nat → G → Prop) : Pd G := fun d l g' => match d with
  | .lst ds => W false ds l g'
  | .tup ds => W true ds l g'
  | .frz ns => W false (ns.map D.int) 2 g'
  | _ => False
theorem x_q (nv : (match a with | .var _ => false | _ => true) = true) (q : VL.wE fs a es g (seqQ W)) : VL.wQ a (VL.wE fs a) es g W := by
  unfold VL.wQ
  cases a <;> first | exact q | cases nv
theorem x_slst {ds : List D} (q : W false ds l g) : seqQ W (.lst ds) l g := q
theorem x_stup {ds : List D} (q : W true ds l g) : seqQ W (.tup ds) l g := q
/-! statements -/
variable {s : CT} {r : CS}
theorem x_nil (q : P.nx es g) : VL.wS fs .nil P es g := q
theorem x_seq (h : VL.wC fs s { P with nx := VL.wS fs r P } es g) : VL.wS fs (.seq s r) P es g := h
theorem x_asg (h : VL.wE fs a es g fun d l g' => ∃ l', lvOk d l l' ∧ P.nx (es.set i (.dat d l')) g') : VL.wC fs (.asg i a) P es g := h
theorem y_asg {R : Nat → Prop} (h : 1 ≤ l) (q : R l) : ∃ l', lvOk d l l' ∧ R l' := ⟨l, ⟨h, .inl (Nat.le_refl _)⟩, q⟩
theorem x_own (h : VL.wE fs a es g fun d l g' => ∃ ds l', d = .lst ds ∧ i < es.length ∧ 1 ≤ l' ∧ (l' ≤ l ∨ D.lfs ds = true) ∧ P.nx (es.set i (.own ds l')) g') : VL.wC fs (.own i a) P es g := h
theorem x_whl {y : CS} (h : ∃ n, whN (VL.wE fs c) (VL.wS fs y) n P es g) : VL.wC fs (.whl c y) P es g := h
theorem x_aug {neg : Bool} (h : ∃ n l, es[i]? = some (.dat (.int n) l) ∧ VL.wE fs a es g fun d _ g1 => ∃ m, d = .int m ∧ P.nx (es.set i (.dat (.int (if neg = true then n - m else n + m)) 2)) g1) : VL.wC fs (.aug neg i a) P es g := h
theorem x_for {tg : Tg} {it : CI} {y : CS} (h : wJ fs it es g fun t ds l g1 => ∃ l', 1 ≤ l' ∧ (l' ≤ l ∨ (t = true ∧ D.lfs ds = true)) ∧ foL tg l' (VL.wS fs y) ds P es g1) : VL.wC fs (.forr tg it y) P es g := h
theorem x_exp (h : VL.wE fs a es g fun _ _ g' => P.nx es g') : VL.wC fs (.exp a) P es g := h
theorem x_app (h : ∃ ds lv, es[i]? = some (.own ds lv) ∧ VL.wE fs a es g fun d l g1 => ds.length < sizeLine ∧ (lv ≤ l ∨ d.lf = true) ∧ P.nx (es.set i (.own (ds ++ [d]) lv)) g1) : VL.wC fs (.app i a) P es g := h
theorem x_ret (h : VL.wV a (VL.wE fs a) es g P.rt) : VL.wC fs (.ret a) P es g := h
theorem x_if {x y : CS} (h : VL.wE fs c es g fun d _ g1 => ∃ k, tru d = some k ∧ if k = true then VL.wS fs x P es g1 else VL.wS fs y P es g1) : VL.wC fs (.ite c x y) P es g := h
/-! leaves -/
variable {R1 : D → Nat → Prop} {Rb : Bool → Prop} {m n : Int} {l' : Nat}
theorem z_len {t : Bool} {ds : List D} (q : R1 (.int ds.length) 2) : sqf .len t ds l R1 := q
theorem z_add (q : R1 (.int (m + n)) 2) : bop .add (.int m) l (.int n) l' R1 := q
theorem z_sub (q : R1 (.int (m - n)) 2) : bop .sub (.int m) l (.int n) l' R1 := q
theorem z_mul (h : L2.CMulW m n) (q : R1 (.int (m * n)) 2) : bop .mul (.int m) l (.int n) l' R1 := ⟨h, q⟩
theorem z_fdiv (h : DivOk n) (q : R1 (.int (m.fdiv n)) 2) : bop .fdiv (.int m) l (.int n) l' R1 := ⟨h, q⟩
theorem z_mod (h : n ≠ 0) (q : R1 (.int (m.fmod n)) 2) : bop .mod (.int m) l (.int n) l' R1 := ⟨h, q⟩
theorem z_lt (q : Rb (decide (m < n))) : cop .lt (.int m) (.int n) Rb := q
theorem z_le (q : Rb (decide (m ≤ n))) : cop .le (.int m) (.int n) Rb := q
theorem z_gt (q : Rb (decide (n < m))) : cop .gt (.int m) (.int n) Rb := q
theorem z_ge (q : Rb (decide (n ≤ m))) : cop .ge (.int m) (.int n) Rb := q
theorem z_eq (q : Rb (decide (m = n))) : cop .eq (.int m) (.int n) Rb := q
theorem z_ne (q : Rb (!decide (m = n))) : cop .ne (.int m) (.int n) Rb := q
theorem z_eqB {x y : Bool} (q : Rb (decide (x = y))) : cop .eq (.bl x) (.bl y) Rb := q
theorem z_neB {x y : Bool} (q : Rb (!decide (x = y))) : cop .ne (.bl x) (.bl y) Rb := q
theorem z_eqS {x y : Str} (q : Rb (decide (x = y))) : cop .eq (.str x) (.str y) Rb := q
theorem y_bl {k : Bool} {A B : Bool → Prop} (h1 : k = true → A k) (h2 : k = false → B k) : ∃ k', D.bl k = .bl k' ∧ (k' = true → A k') ∧ (k' = false → B k') := ⟨k, rfl, h1, h2⟩
theorem y_tbl {k : Bool} {A B : Prop} (h1 : k = true → A) (h2 : k = false → B) : ∃ k', tru (D.bl k) = some k' ∧ if k' = true then A else B := ⟨k, rfl, ite_of h1 h2⟩
theorem y_int {Rz : Int → Prop} (q : Rz n) : ∃ i, D.int n = .int i ∧ Rz i := ⟨n, rfl, q⟩
theorem y_ix {e : D} {xs : List D} {Rz : D → Prop} (h : L2.atI xs n = some e) (q : Rz e) : ∃ i e, D.int n = .int i ∧ L2.atI xs i = some e ∧ Rz e := ⟨n, e, rfl, h, q⟩
theorem atI_int {ns : List Int} {k : Nat} {z : Int} (h : k < ns.length) (e : z = (k : Int)) : L2.atI (ns.map D.int) z = some (.int (ns.getD k 0)) := by
  subst e
  unfold L2.atI L2.ixN
  have h' : k < (ns.map D.int).length := by rw [List.length_map]; exact h
  simp [h, h', List.getD]
/-! loops -/
/-- while, by what holds at each look; the number bounds the turns left -/
theorem x_while {y : CS} (I : Nat → VL.Env → G → Prop) (n : Nat) (h0 : I n es g)
    (step : ∀ (m : Nat) (es : VL.Env) (g : G) (K : VL.Env → G → Prop), (∀ m' es' g', m = m' + 1 → I m' es' g' → K es' g') → I m es g →
      VL.wE fs c es g fun d _ g1 => ∃ k, tru d = some k ∧ if k = true then VL.wS fs y { P with nx := K, ct := K, bk := P.nx } es g1 else P.nx es g1) : VL.wC fs (.whl c y) P es g := by
  refine x_whl ⟨n + 1, ?_⟩
  induction n generalizing es g with
  | zero => exact step 0 es g _ (fun m' es' g' e => by omega) h0
  | succ n ih => exact step (n + 1) es g _ (fun m' es' g' e hi => by
      obtain rfl : n = m' := by omega
      exact ih hi) h0
/-- for, by what holds behind i turns -/
theorem x_foL {tg : Tg} {b : WSt G} {ds : List D} (I : Nat → VL.Env → G → Prop) (h0 : I 0 es g)
    (step : ∀ (i : Nat) (d : D) (es : VL.Env) (g : G) (K : VL.Env → G → Prop), ds[i]? = some d → (∀ es' g', I (i + 1) es' g' → K es' g') → I i es g → bindT tg d l es fun es' => b { P with nx := K, ct := K, bk := P.nx } es' g)
    (fin : ∀ es' g', I ds.length es' g' → P.nx es' g') : foL tg l b ds P es g := by
  have key : ∀ (k i : Nat) (es : VL.Env) (g : G), ds.length - i = k → i ≤ ds.length → I i es g → foL tg l b (ds.drop i) P es g := by
    intro k
    induction k with
    | zero =>
      intro i es g hk hi h
      obtain rfl : i = ds.length := by omega
      rw [List.drop_length]
      exact fin _ _ h
    | succ k ih =>
      intro i es g hk hi h
      have hl : i < ds.length := by omega
      rw [List.drop_eq_getElem_cons hl]
      exact step i ds[i] es g _ (List.getElem?_eq_getElem hl) (fun es' g' h' => ih (i + 1) es' g' (by omega) hl h') h
  exact key _ 0 es g rfl (Nat.zero_le _) h0
/-- a comprehension whose turns give f of their items and change nothing -/
theorem x_lcl {step : D → G → (Option (D × Nat) → G → Prop) → Prop} {k : List D → Nat → G → Prop} (f : D → D) (lv : Nat) (h2 : lv ≤ 2) : ∀ {ds acc : List D} {m : Nat}, acc.length + ds.length ≤ sizeLine → (m = lv ∨ m = 2) →
    (∀ d ∈ ds, ∀ K : Option (D × Nat) → G → Prop, K (some (f d, lv)) g → step d g K) → k (acc ++ ds.map f) (if ds = [] then m else lv) g → lcl step ds acc m g k := by
  intro ds
  induction ds with
  | nil =>
    intro acc m hz hm hs hk
    show k acc m g
    simpa using hk
  | cons d ds ih =>
    intro acc m hz hm hs hk
    simp only [List.length_cons] at hz
    refine hs d List.mem_cons_self _ ⟨by omega, ?_⟩
    have em : min m lv = lv := by rcases hm with rfl | rfl <;> omega
    rw [em]
    refine ih (by simp; omega) (.inl rfl) (fun d' hd' => hs d' (List.mem_cons_of_mem _ hd')) ?_
    have e : acc ++ (d :: ds).map f = (acc ++ [f d]) ++ ds.map f := by simp
    rw [e, if_neg (List.cons_ne_nil _ _)] at hk
    by_cases q : ds = []
    · rw [if_pos q]; exact hk
    · rw [if_neg q]; exact hk
theorem x_lc {vs : List Nat} {tg : Tg} {it : CI} {cond : CO} (h : noOwn es vs ∧ VL.wI fs it es g fun ds l g1 => lcl (fun d g k => bindT tg d l (wipeE es vs) fun es' => VL.wT fs cond es' g fun b g' => if b = true then VL.wE fs a es' g' fun e le g'' => k (some (e, le)) g'' else k none g') ds [] 2 g1 fun out lv g' => Q (.lst out) lv g') : VL.wE fs (.lc vs tg it cond a) es g Q := h
theorem x_aug1 {neg : Bool} {n : Int} (h : es[i]? = some (.dat (.int n) l)) (q : VL.wE fs a es g fun d _ g1 => ∃ m, d = .int m ∧ P.nx (es.set i (.dat (.int (if neg = true then n - m else n + m)) 2)) g1) : VL.wC fs (.aug neg i a) P es g := ⟨n, l, h, q⟩
theorem x_app1 {ds : List D} {lv : Nat} (h : es[i]? = some (.own ds lv)) (q : VL.wE fs a es g fun d l g1 => ds.length < sizeLine ∧ (lv ≤ l ∨ d.lf = true) ∧ P.nx (es.set i (.own (ds ++ [d]) lv)) g1) : VL.wC fs (.app i a) P es g := ⟨ds, lv, h, q⟩
theorem x_sl {lo hi : CO} (h : VL.wQ a (VL.wE fs a) es g fun t ds l g1 => VL.wO fs lo es g1 fun lo' g2 => VL.wO fs hi es g2 fun hi' g3 =>
    Q (if t = true then .tup ((ds.drop (HT.sIx ds.length 0 lo')).take (HT.sIx ds.length ds.length hi' - HT.sIx ds.length 0 lo')) else .lst ((ds.drop (HT.sIx ds.length 0 lo')).take (HT.sIx ds.length ds.length hi' - HT.sIx ds.length 0 lo'))) l g3) : VL.wE fs (.sl a lo hi) es g Q := h
theorem x_ono {Ro : Option Int → G → Prop} (q : Ro none g) : VL.wO fs .no es g Ro := q
theorem x_osome {Ro : Option Int → G → Prop} (h : VL.wE fs a es g fun d _ g1 => ∃ i, d = .int i ∧ Ro (some i) g1) : VL.wO fs (.some a) es g Ro := h
theorem x_unp {is : List Nat} (h : VL.wE fs a es g fun d l g' => ∃ ds l', d = .tup ds ∧ ds.length = is.length ∧ lvOk d l l' ∧ noOwn es is ∧ P.nx (setAll es is ds l') g') : VL.wC fs (.unp is a) P es g := h
theorem x_dmod {R : Pd G} {m n : Int} (h : DivOk n) (q : R (.tup [.int (m.fdiv n), .int (m.fmod n)]) 2 g) : hS fs .dmod [.int m, .int n] g R := ⟨h, q⟩
theorem x_ext {h : Hk} {as : CA} (q : VL.wA fs as es g fun ds _ g1 => hS fs h ds g1 Q) : VL.wE fs (.ext h as) es g Q := q
theorem x_par {x y : CE} (h : VL.wE fs x es g fun d1 l1 g1 => VL.wE fs y es g1 fun d2 l2 g2 => ∃ m1 m2, lvOk d1 l1 m1 ∧ lvOk d2 l2 m2 ∧ P.nx ((es.set i (.dat d1 m1)).set j (.dat d2 m2)) g2) : VL.wC fs (.par i j x y) P es g := h
theorem x_parN {x y : CE} (h : VL.wE fs x es g fun d1 l1 g1 => VL.wE fs y es g1 fun d2 l2 g2 => ∃ ds m1 m2, d1 = .lst ds ∧ i < es.length ∧ 1 ≤ m1 ∧ (m1 ≤ l1 ∨ D.lfs ds = true) ∧ lvOk d2 l2 m2 ∧ P.nx ((es.set i (.own ds m1)).set j (.dat d2 m2)) g2) : VL.wC fs (.parN i j x y) P es g := h
theorem x_jrng1 {W : Bool → List D → Nat → G → Prop} (h : VL.wI fs (.rng1 a) es g fun ds l g1 => W true ds l g1) : wJ fs (.rng1 a) es g W := h
theorem x_jrngd {W : Bool → List D → Nat → G → Prop} (h : VL.wI fs (.rngd a b) es g fun ds l g1 => W true ds l g1) : wJ fs (.rngd a b) es g W := h
theorem x_irng1 {R : List D → Nat → G → Prop} (h : VL.wE fs a es g fun d _ g1 => ∃ j, d = .int j ∧ small j ∧ R (rngD 0 j) 2 g1) : VL.wI fs (.rng1 a) es g R := h
theorem x_irngd {R : List D → Nat → G → Prop} (h : VL.wE fs a es g fun d1 _ g1 => VL.wE fs b es g1 fun d2 _ g2 => ∃ i j, d1 = .int i ∧ d2 = .int j ∧ small i ∧ small j ∧ R (dwnD i (i - j).toNat) 2 g2) : VL.wI fs (.rngd a b) es g R := h
theorem x_jit {W : Bool → List D → Nat → G → Prop} (h : VL.wE fs a es g fun d l g' => (match d with
    | .lst ds => W false ds l g'
    | .tup ds => W true ds l g'
    | .frz ns => W true (ns.map D.int) 2 g'
    | _ => False)) : wJ fs (.it a) es g W := h
theorem x_iit {R : List D → Nat → G → Prop} (h : VL.wQ a (VL.wE fs a) es g fun _ ds l g1 => R ds l g1) : VL.wI fs (.it a) es g R := h
theorem y_own {ds : List D} {R : List D → Nat → Prop} {n : Nat} (hi : i < n) (h : 1 ≤ l) (q : R ds l) : ∃ ds' l', D.lst ds = .lst ds' ∧ i < n ∧ 1 ≤ l' ∧ (l' ≤ l ∨ D.lfs ds' = true) ∧ R ds' l' := ⟨ds, l, rfl, hi, h, .inl (Nat.le_refl _), q⟩
theorem y_unp {ds : List D} {is : List Nat} {R : List D → Nat → Prop} (h : ds.length = is.length) (h1 : 1 ≤ l) (hn : noOwn es is) (q : R ds l) : ∃ ds' l', D.tup ds = .tup ds' ∧ ds'.length = is.length ∧ lvOk (D.tup ds) l l' ∧ noOwn es is ∧ R ds' l' := ⟨ds, l, rfl, h, ⟨h1, .inl (Nat.le_refl _)⟩, hn, q⟩
theorem y_rng {R : List D → Nat → Prop} {n : Int} (h : small n) (q : R (rngD 0 n) 2) : ∃ j, D.int n = .int j ∧ small j ∧ R (rngD 0 j) 2 := ⟨n, rfl, h, q⟩
theorem y_for {R : Nat → Prop} {ds : List D} {t : Bool} (h : 1 ≤ l) (q : R l) : ∃ l', 1 ≤ l' ∧ (l' ≤ l ∨ (t = true ∧ D.lfs ds = true)) ∧ R l' := ⟨l, h, .inl (Nat.le_refl _), q⟩
theorem y_call {f n : Nat} {w : WF G} {ds : List D} {R : Pd G} (h : fs[f]? = some (n, w)) (hl : ds.length = n) (q : w ds g R) : ∃ n' w', fs[f]? = some (n', w') ∧ ds.length = n' ∧ w' ds g R := ⟨n, w, h, hl, q⟩
/-- slots that are no own lists -/
def NO : Sl → Prop
  | .own _ _ => False
  | .own2 _ _ => False
  | _ => True
theorem noOwn_of {is : List Nat} (h : ∀ i ∈ is, ∀ s, es[i]? = some s → NO s) : noOwn es is := fun i hi s e => by
  have z := h i hi s e
  cases s <;> first | trivial | exact z.elim
theorem fdivN (a b : Nat) : ((a : Nat) : Int).fdiv (b : Int) = ((a / b : Nat) : Int) := by
  rw [Int.fdiv_eq_ediv_of_nonneg _ (by omega)]
  rfl
theorem fmodN (a b : Nat) : ((a : Nat) : Int).fmod (b : Int) = ((a % b : Nat) : Int) := by
  rw [Int.fmod_eq_emod_of_nonneg _ (by omega)]
  rfl
theorem bind_name {t : Nat} {kk : VL.Env → Prop} (h : noOwn es [t]) (q : kk (es.set t (.dat d l))) : bindT (.name t) d l es kk := ⟨h, q⟩
end
end VL
namespace T
open PySem PySem.Spec PyProof.Rows VL
local macro_rules | `(tactic| trivial) => `(tactic| first
  | with_reducible refine x_int ?_ | with_reducible refine x_bl ?_ | with_reducible refine x_non ?_ | with_reducible refine x_str ?_ | with_reducible refine x_glo ?_ | with_reducible refine x_bin ?_ | with_reducible refine x_neg ?_ | with_reducible refine x_not ?_ | with_reducible refine x_cmp ?_ | with_reducible refine x_chain ?_ | with_reducible refine x_and ?_ | with_reducible refine x_or ?_ | with_reducible refine x_ite ?_ | with_reducible refine x_tup ?_ | with_reducible refine x_lst ?_ | with_reducible refine x_ix ?_ | with_reducible refine x_sq ?_ | with_reducible refine x_bi ?_ | with_reducible refine x_isi ?_ | with_reducible refine x_call ?_ | with_reducible refine x_sl ?_ | with_reducible refine x_ext ?_
  | with_reducible refine x_anil ?_ | with_reducible refine x_acons ?_ | with_reducible refine x_slst ?_ | with_reducible refine x_stup ?_ | with_reducible refine x_ono ?_ | with_reducible refine x_osome ?_ | with_reducible refine x_seq ?_ | with_reducible refine x_asg ?_ | with_reducible refine x_own ?_ | with_reducible refine x_ret ?_ | with_reducible refine x_if ?_ | with_reducible refine x_for ?_ | with_reducible refine x_exp ?_ | with_reducible refine x_unp ?_ | with_reducible refine x_par ?_ | with_reducible refine x_parN ?_ | with_reducible refine x_jrng1 ?_ | with_reducible refine x_jrngd ?_ | with_reducible refine x_irng1 ?_ | with_reducible refine x_irngd ?_ | with_reducible refine x_jit ?_ | with_reducible refine x_iit ?_ | with_reducible refine x_nil ?_
  | ((with_reducible apply x_var); · rfl) | ((with_reducible apply x_vvar); · rfl) | ((with_reducible apply x_vown); · rfl) | ((with_reducible apply x_v); · rfl) | ((with_reducible apply x_qlst); · rfl) | ((with_reducible apply x_qtup); · rfl) | ((with_reducible apply x_qown); · rfl) | ((with_reducible apply x_q); · rfl) | ((with_reducible apply x_aug1); · rfl) | ((with_reducible apply x_app1); · rfl)
  | with_reducible refine z_len ?_ | with_reducible refine z_add ?_ | with_reducible refine z_sub ?_ | with_reducible refine z_lt ?_ | with_reducible refine z_le ?_ | with_reducible refine z_gt ?_ | with_reducible refine z_ge ?_ | with_reducible refine z_eq ?_ | with_reducible refine z_ne ?_ | with_reducible refine z_eqB ?_ | with_reducible refine z_neB ?_ | with_reducible refine z_eqS ?_ | with_reducible refine y_int ?_
  | with_reducible refine y_bl (fun hk => ?_) (fun hk => ?_) | with_reducible refine y_tbl (fun hk => ?_) (fun hk => ?_)
  | ((with_reducible apply y_asg); · decide))
def isInt : D → Bool
  | .int _ => true
  | _ => false
def isBl : D → Bool
  | .bl _ => true
  | _ => false
def isStr : D → Bool
  | .str _ => true
  | _ => false
def isTup : D → Bool
  | .tup _ => true
  | _ => false
/-- plain data: of a type that isinstance knows -/
def known (d : D) : Bool := (tyOf d).isSome
theorem kit_tab : [("NoneType", false, false, false, false), ("bool", true, true, false, false), ("int", true, false, false, false), ("str", false, false, true, false), ("list", false, false, false, false), ("tuple", false, false, false, true)].all
    (fun x => decide (isB x.1 ["int"] = some x.2.1) && decide (isB x.1 ["bool"] = some x.2.2.1) && decide (isB x.1 ["str"] = some x.2.2.2.1) && decide (isB x.1 ["tuple"] = some x.2.2.2.2)) = true := by decide +kernel
theorem isi_all {d : D} (h : known d = true) : ∃ t, tyOf d = some t ∧ isB t ["int"] = some (isInt d || isBl d) ∧ isB t ["bool"] = some (isBl d) ∧ isB t ["str"] = some (isStr d) ∧ isB t ["tuple"] = some (isTup d) := by
  have k := kit_tab
  simp only [List.all_cons, List.all_nil, Bool.and_true, Bool.and_eq_true, decide_eq_true_eq] at k
  obtain ⟨k1, k2, k3, k4, k5, k6⟩ := k
  cases d with
  | non => exact ⟨_, rfl, k1.1.1.1, k1.1.1.2, k1.1.2, k1.2⟩
  | bl b => exact ⟨_, rfl, k2.1.1.1, k2.1.1.2, k2.1.2, k2.2⟩
  | int b => exact ⟨_, rfl, k3.1.1.1, k3.1.1.2, k3.1.2, k3.2⟩
  | str b => exact ⟨_, rfl, k4.1.1.1, k4.1.1.2, k4.1.2, k4.2⟩
  | lst b => exact ⟨_, rfl, k5.1.1.1, k5.1.1.2, k5.1.2, k5.2⟩
  | tup b => exact ⟨_, rfl, k6.1.1.1, k6.1.1.2, k6.1.2, k6.2⟩
  | obj b => cases h
  | frz b => cases h
def wf_is_int : WF G := fun ds g Q => ∃ d, ds = [d] ∧ known d = true ∧ Q (.bl (isInt d)) 2 g
theorem sp_is_int : ∀ (ds : List D) (g : G) (Pq : Pd G), ds.length = 1 → wf_is_int ds g Pq → VL.wS [] cs_is_int (endP Pq) (env0 ck_is_int.N.length ds) g := by
  rintro ds g Q _ ⟨d, rfl, hk, q⟩
  obtain ⟨t, ht, h1, h2, _⟩ := isi_all hk
  show VL.wS _ (.seq _ _) _ [.dat d 1] _
  repeat trivial
  refine ⟨t, _, ht, h1, _, rfl, fun k => ?_, fun k => ?_⟩
  · repeat trivial
    refine ⟨t, _, ht, h2, _, rfl, ?_⟩
    have e : (!isBl d) = isInt d := by cases d <;> first | rfl | cases k
    rw [e]
    exact q
  · have e : isInt d = false := by cases d <;> first | rfl | cases k
    rw [e] at q
    exact q
/-- how many stay when noughts at the end go -/
def trimN : List Int → Nat → Nat
  | _, 0 => 0
  | ns, k + 1 => if ns.getD k 0 = 0 then trimN ns k else k + 1
def trim (ns : List Int) : List Int := ns.take (trimN ns ns.length)
def wf_trimmed : WF G := fun ds g Q => ∃ ns : List Int, ds = [.lst (ns.map D.int)] ∧ Q (.lst ((trim ns).map D.int)) 1 g
theorem cut_take {α : Type} (ds : List α) (k : Nat) : (ds.drop (HT.sIx ds.length 0 none)).take (HT.sIx ds.length ds.length (some (k : Int)) - HT.sIx ds.length 0 none) = ds.take k := by
  rw [HT.sIx_none, HT.sIx_nat, List.drop_zero, Nat.sub_zero]
  rcases Nat.le_total k ds.length with h | h
  · rw [Nat.min_eq_left h]
  · rw [Nat.min_eq_right h, List.take_of_length_le h, List.take_of_length_le (Nat.le_refl _)]
theorem sp_trimmed : ∀ (ds : List D) (g : G) (Pq : Pd G), ds.length = 1 → wf_trimmed ds g Pq → VL.wS [] cs_trimmed (endP Pq) (env0 ck_trimmed.N.length ds) g := by
  rintro ds g Q _ ⟨ns, rfl, q⟩
  show VL.wS _ (.seq _ _) _ [.dat (.lst (ns.map D.int)) 1, .no] _
  repeat trivial
  have fin : ∀ m : Nat, trimN ns m = trimN ns ns.length → (m = 0 ∨ ns.getD (m - 1) 0 ≠ 0) → VL.wS [] (.seq (.ret (.sl (.var 0) .no (.some (.var 1)))) .nil) (endP Q) [.dat (.lst (ns.map D.int)) 1, .dat (.int m) 2] g := fun m ht h0 => by
    repeat trivial
    show Q (.lst _) 1 g
    rw [cut_take]
    have e : trimN ns ns.length = m := by
      rw [← ht]
      cases m with
      | zero => rfl
      | succ k =>
        rcases h0 with h0 | h0
        · cases h0
        · exact if_neg h0
    unfold trim at q
    rw [e, List.map_take] at q
    exact q
  refine x_while (fun m es g' => es = [.dat (.lst (ns.map D.int)) 1, .dat (.int m) 2] ∧ g' = g ∧ m ≤ ns.length ∧ trimN ns m = trimN ns ns.length) ns.length ⟨by simp [List.length_map], rfl, Nat.le_refl _, rfl⟩ ?_
  rintro m es g' K hK ⟨rfl, rfl, hm, ht⟩
  repeat trivial
  · rename_i hk
    have m0 : 0 < m := by simpa using hk
    refine y_ix (atI_int (k := m - 1) (by omega) (by omega)) ?_
    repeat trivial
    · rename_i h0
      refine hK (m - 1) _ _ (by omega) ⟨?_, rfl, by omega, ?_⟩
      · show [_, _] = [_, _]
        rw [if_pos rfl, show ((m : Int) - 1) = ((m - 1 : Nat) : Int) by omega]
      · rw [← ht]
        obtain ⟨k, rfl⟩ : ∃ k, m = k + 1 := ⟨m - 1, by omega⟩
        conv => rhs; unfold trimN
        rw [if_pos (by simpa using h0)]
        rfl
    · rename_i h0
      exact fin m ht (.inr (by simpa using h0))
  · rename_i hk
    refine y_tbl (fun z => nomatch z) fun _ => fin m ht (.inl (by simpa using hk))
/-! ### digits -/
/-- the first k digits, the least ahead -/
def dg : Nat → Nat → List Int
  | 0, _ => []
  | k + 1, n => ((n % 10000 : Nat) : Int) :: dg k (n / 10000)
theorem dg_len : ∀ k n, (dg k n).length = k
  | 0, _ => rfl
  | k + 1, n => by simp [dg, dg_len k]
theorem dg_snoc : ∀ k n, dg (k + 1) n = dg k n ++ [((n / 10000 ^ k % 10000 : Nat) : Int)]
  | 0, n => by simp [dg]
  | k + 1, n => by
    rw [dg, dg_snoc k (n / 10000)]
    simp only [dg, List.cons_append, List.cons.injEq, true_and]
    rw [Nat.div_div_eq_div_mul, Nat.pow_succ, Nat.mul_comm]
theorem dg_add : ∀ k j n, dg (k + j) n = dg k n ++ dg j (n / 10000 ^ k)
  | 0, j, n => by simp [dg]
  | k + 1, j, n => by
    rw [show k + 1 + j = (k + j) + 1 by omega, dg, dg_add k j (n / 10000)]
    simp only [dg, List.cons_append, List.cons.injEq, true_and]
    rw [Nat.div_div_eq_div_mul, Nat.pow_succ, Nat.mul_comm]
/-- the row of a number -/
def rowN (n : Nat) : List Int := trim (dg (n + 1) n)
theorem trim_snoc0 (ns : List Int) : trim (ns ++ [0]) = trim ns := by
  have key : ∀ k, k ≤ ns.length → trimN (ns ++ [0]) k = trimN ns k := by
    intro k
    induction k with
    | zero => intro _; rfl
    | succ k ih =>
      intro h
      unfold trimN
      rw [ih (by omega)]
      have e : (ns ++ [0]).getD k 0 = ns.getD k 0 := by
        simp only [List.getD]
        rw [List.getElem?_append_left (by omega)]
      rw [e]
  have le : ∀ k, trimN ns k ≤ k := by
    intro k
    induction k with
    | zero => exact Nat.le_refl _
    | succ k ih =>
      unfold trimN
      split
      · omega
      · exact Nat.le_refl _
  unfold trim
  rw [List.length_append]
  show List.take (trimN (ns ++ [0]) (ns.length + 1)) (ns ++ [0]) = _
  have e : trimN (ns ++ [0]) (ns.length + 1) = trimN ns ns.length := by
    conv => lhs; unfold trimN
    rw [if_pos (by simp [List.getD]), key _ (Nat.le_refl _)]
  rw [e, List.take_append_of_le_length (le _)]
theorem trim_dg : ∀ j k n, n < 10000 ^ k → trim (dg (k + j) n) = trim (dg k n)
  | 0, k, n, _ => rfl
  | j + 1, k, n, h => by
    rw [show k + (j + 1) = (k + j) + 1 by omega, dg_snoc]
    have e : n / 10000 ^ (k + j) = 0 := Nat.div_eq_of_lt (Nat.lt_of_lt_of_le h (Nat.pow_le_pow_right (by decide) (by omega)))
    rw [e]
    show trim (dg (k + j) n ++ [0]) = _
    rw [trim_snoc0, trim_dg j k n h]
theorem lt_pow (n : Nat) : n < 10000 ^ (n + 1) := Nat.lt_of_lt_of_le (Nat.lt_pow_self (by decide : 1 < 10000)) (Nat.pow_le_pow_right (by decide) (by omega))
theorem trim_row {k n : Nat} (h : n < 10000 ^ k) : trim (dg k n) = rowN n := by
  unfold rowN
  rcases Nat.le_total k (n + 1) with q | q
  · obtain ⟨j, e⟩ := Nat.exists_eq_add_of_le q
    rw [e, trim_dg j k n h]
  · obtain ⟨j, e⟩ := Nat.exists_eq_add_of_le q
    rw [e, trim_dg j (n + 1) n (lt_pow n)]
end T
set_option exponentiation.threshold 20000
namespace T
open PySem PySem.Spec PyProof.Rows VL
local macro_rules | `(tactic| trivial) => `(tactic| first
  | with_reducible refine x_int ?_ | with_reducible refine x_bl ?_ | with_reducible refine x_non ?_ | with_reducible refine x_str ?_ | with_reducible refine x_glo ?_ | with_reducible refine x_bin ?_ | with_reducible refine x_neg ?_ | with_reducible refine x_not ?_ | with_reducible refine x_cmp ?_ | with_reducible refine x_chain ?_ | with_reducible refine x_and ?_ | with_reducible refine x_or ?_ | with_reducible refine x_ite ?_ | with_reducible refine x_tup ?_ | with_reducible refine x_lst ?_ | with_reducible refine x_ix ?_ | with_reducible refine x_sq ?_ | with_reducible refine x_bi ?_ | with_reducible refine x_isi ?_ | with_reducible refine x_call ?_ | with_reducible refine x_sl ?_ | with_reducible refine x_ext ?_
  | with_reducible refine x_anil ?_ | with_reducible refine x_acons ?_ | with_reducible refine x_slst ?_ | with_reducible refine x_stup ?_ | with_reducible refine x_ono ?_ | with_reducible refine x_osome ?_ | with_reducible refine x_seq ?_ | with_reducible refine x_asg ?_ | with_reducible refine x_own ?_ | with_reducible refine x_ret ?_ | with_reducible refine x_if ?_ | with_reducible refine x_for ?_ | with_reducible refine x_exp ?_ | with_reducible refine x_unp ?_ | with_reducible refine x_par ?_ | with_reducible refine x_parN ?_ | with_reducible refine x_jrng1 ?_ | with_reducible refine x_jrngd ?_ | with_reducible refine x_irng1 ?_ | with_reducible refine x_irngd ?_ | with_reducible refine x_jit ?_ | with_reducible refine x_iit ?_ | with_reducible refine x_nil ?_
  | ((with_reducible apply x_var); · rfl) | ((with_reducible apply x_vvar); · rfl) | ((with_reducible apply x_vown); · rfl) | ((with_reducible apply x_v); · rfl) | ((with_reducible apply x_qlst); · rfl) | ((with_reducible apply x_qtup); · rfl) | ((with_reducible apply x_qown); · rfl) | ((with_reducible apply x_q); · rfl) | ((with_reducible apply x_aug1); · rfl) | ((with_reducible apply x_app1); · rfl)
  | with_reducible refine z_len ?_ | with_reducible refine z_add ?_ | with_reducible refine z_sub ?_ | with_reducible refine z_lt ?_ | with_reducible refine z_le ?_ | with_reducible refine z_gt ?_ | with_reducible refine z_ge ?_ | with_reducible refine z_eq ?_ | with_reducible refine z_ne ?_ | with_reducible refine z_eqB ?_ | with_reducible refine z_neB ?_ | with_reducible refine z_eqS ?_ | with_reducible refine y_int ?_
  | with_reducible refine y_bl (fun hk => ?_) (fun hk => ?_) | with_reducible refine y_tbl (fun hk => ?_) (fun hk => ?_)
  | ((with_reducible apply y_asg); · decide))
def wf_row_of : WF G := fun ds g Q => ∃ n : Nat, ds = [.int n] ∧ n < 10000 ^ 1000 ∧ Q (.lst ((rowN n).map D.int)) 0 g
theorem dig_at (x i : Nat) (h : i < 16) : x % 10000 ^ 16 / 10000 ^ i % 10000 = x / 10000 ^ i % 10000 := by
  obtain ⟨k, e⟩ : ∃ k, 16 = i + (k + 1) := ⟨15 - i, by omega⟩
  rw [e, Nat.pow_add, Nat.mod_mul_right_div_self, Nat.pow_succ, Nat.mod_mod_of_dvd _ (Nat.dvd_mul_left _ _)]
theorem sp_row_of : ∀ (ds : List D) (g : G) (Pq : Pd G), ds.length = 1 → wf_row_of ds g Pq → VL.wS [(1, wf_trimmed)] cs_row_of (endP Pq) (env0 ck_row_of.N.length ds) g := by
  rintro ds g Q _ ⟨n, rfl, hb, q⟩
  show VL.wS _ (.seq _ _) _ [.dat (.int n) 1, .no, .no, .no] _
  repeat trivial
  refine ⟨by decide, y_own (by simp) (by decide) ?_⟩
  repeat trivial
  refine x_while (fun m es g' => ∃ j l1 s2 s3, es = [.dat (.int ((n / 10000 ^ (16 * j) : Nat) : Int)) l1, .own ((dg (16 * j) n).map D.int) 2, s2, s3] ∧ NO s2 ∧ NO s3 ∧ g' = g ∧ n / 10000 ^ (16 * j) ≤ m) n ⟨0, 1, .no, .no, by simp [dg], trivial, trivial, rfl, by simp⟩ ?_
  rintro m es g' K hK ⟨j, l1, s2, s3, rfl, n2, n3, rfl, hm⟩
  repeat trivial
  · rename_i hpos
    have hk : 0 < n / 10000 ^ (16 * j) := Int.natCast_pos.mp (of_decide_eq_true hpos)
    have hj : 16 * j < 1000 := by
      rcases Nat.lt_or_ge (16 * j) 1000 with q | q
      · exact q
      · have h1 : n < 10000 ^ (16 * j) := Nat.lt_of_lt_of_le hb (Nat.pow_le_pow_right (by decide) q)
        rw [Nat.div_eq_of_lt h1] at hk
        cases hk
    refine x_dmod ⟨by decide, by decide +kernel⟩ ?_
    have e1 : ((n / 10000 ^ (16 * j) : Nat) : Int).fdiv 10000000000000000000000000000000000000000000000000000000000000000 = ((n / 10000 ^ (16 * (j + 1)) : Nat) : Int) := by
      refine (fdivN _ 10000000000000000000000000000000000000000000000000000000000000000).trans ?_
      rw [Nat.div_div_eq_div_mul, Nat.mul_add, Nat.pow_add]
    have e2 : ((n / 10000 ^ (16 * j) : Nat) : Int).fmod 10000000000000000000000000000000000000000000000000000000000000000 = ((n / 10000 ^ (16 * j) % 10000 ^ 16 : Nat) : Int) := fmodN _ _
    rw [e1, e2]
    refine y_unp (l := 2) rfl (by decide) (noOwn_of fun i hi s e => ?_) ?_
    · rcases List.mem_cons.mp hi with z | hi
      · subst z; cases e; trivial
      · rcases List.mem_cons.mp hi with z | hi
        · subst z; cases e; exact n2
        · cases hi
    show VL.wS _ _ _ [.dat (.int _) 2, .own _ 2, .dat (.int _) 2, s3] _
    repeat trivial
    refine ⟨⟨by decide, by decide⟩, y_for (l := 2) (by decide) ?_⟩
    refine x_foL (fun i es g2 => ∃ s3, es = [.dat (.int ((n / 10000 ^ (16 * (j + 1)) : Nat) : Int)) 2, .own ((dg (16 * j + i) n).map D.int) 2, .dat (.int ((n / 10000 ^ (16 * j) % 10000 ^ 16 / 10000 ^ i : Nat) : Int)) 2, s3] ∧ NO s3 ∧ g2 = g') ⟨s3, by simp, n3, rfl⟩ ?_ ?_
    · rintro i d es g2 K2 hd hK2 ⟨s3, rfl, n3, rfl⟩
      have hi : i < 16 := by
        have := (List.getElem?_eq_some_iff.mp hd).1
        rw [rngD_len] at this
        omega
      refine bind_name (noOwn_of fun a ha s e => ?_) ?_
      · rcases List.mem_cons.mp ha with z | ha
        · subst z; cases e; exact n3
        · cases ha
      show VL.wS _ _ _ [.dat (.int _) 2, .own _ 2, .dat (.int _) 2, .dat d 2] _
      repeat trivial
      refine z_mod (by decide) ⟨?_, .inr rfl, ?_⟩
      · rw [List.length_map, dg_len, sizeLine_eq]
        omega
      show VL.wS _ _ _ [.dat (.int _) 2, .own _ 2, .dat (.int _) 2, .dat d 2] _
      repeat trivial
      refine hK2 _ _ ⟨.dat d 2, ?_, trivial, rfl⟩
      have f1 := fmodN (n / 10000 ^ (16 * j) % 10000 ^ 16 / 10000 ^ i) 10000
      have f2 := fdivN (n / 10000 ^ (16 * j) % 10000 ^ 16 / 10000 ^ i) 10000
      show [_, Sl.own (_ ++ [D.int (Int.fmod _ ((10000 : Nat) : Int))]) 2, Sl.dat (D.int (Int.fdiv _ ((10000 : Nat) : Int))) 2, _] = _
      rw [f1, f2, dig_at _ _ hi, Nat.div_div_eq_div_mul, ← Nat.pow_add, Nat.div_div_eq_div_mul, ← Nat.pow_succ]
      rw [show 16 * j + (i + 1) = 16 * j + i + 1 by omega, dg_snoc, List.map_append]
      rfl
    · rintro es g2 ⟨s3, rfl, n3, rfl⟩
      repeat trivial
      refine hK (m - 1) _ _ (by omega) ⟨j + 1, 2, _, s3, rfl, trivial, n3, rfl, ?_⟩
      rw [Nat.mul_add, Nat.pow_add, ← Nat.div_div_eq_div_mul]
      have : n / 10000 ^ (16 * j) / 10000 ^ (16 * 1) < n / 10000 ^ (16 * j) := Nat.div_lt_self hk (by decide)
      omega
  · rename_i h0
    have hz : n / 10000 ^ (16 * j) = 0 := Nat.eq_zero_of_not_pos fun h => of_decide_eq_false h0 (Int.natCast_pos.mpr h)
    have hlt : n < 10000 ^ (16 * j) := by
      rcases Nat.lt_or_ge n (10000 ^ (16 * j)) with q | q
      · exact q
      · have := Nat.div_pos q (Nat.pow_pos (by decide))
        omega
    repeat trivial
    refine y_call rfl rfl ⟨_, rfl, ?_⟩
    rw [trim_row hlt]
    exact q
end T
namespace T
open PySem PySem.Spec PyProof.Rows VL
/-! the row of a number, by its first digit -/
theorem trimN_cons (d : Int) (ns : List Int) : ∀ k, trimN (d :: ns) (k + 1) = if trimN ns k = 0 then (if d = 0 then 0 else 1) else trimN ns k + 1
  | 0 => by simp [trimN]
  | k + 1 => by
    have ih := trimN_cons d ns k
    rw [show trimN (d :: ns) (k + 1 + 1) = if (d :: ns).getD (k + 1) 0 = 0 then trimN (d :: ns) (k + 1) else k + 1 + 1 from rfl]
    rw [show trimN ns (k + 1) = if ns.getD k 0 = 0 then trimN ns k else k + 1 from rfl]
    have e : (d :: ns).getD (k + 1) 0 = ns.getD k 0 := by simp [List.getD]
    rw [e]
    by_cases h : ns.getD k 0 = 0
    · rw [if_pos h, if_pos h, ih]
    · rw [if_neg h, if_neg h, if_neg (by omega)]
theorem trim_cons (d : Int) (ns : List Int) : trim (d :: ns) = if trimN ns ns.length = 0 then (if d = 0 then [] else [d]) else d :: trim ns := by
  unfold trim
  rw [List.length_cons, trimN_cons]
  by_cases h : trimN ns ns.length = 0
  · rw [if_pos h, if_pos h]
    by_cases h2 : d = 0
    · rw [if_pos h2, if_pos h2]
      rfl
    · rw [if_neg h2, if_neg h2]
      rfl
  · rw [if_neg h, if_neg h]
    rfl
theorem trimN_le (ns : List Int) : ∀ k, trimN ns k ≤ k
  | 0 => Nat.le_refl _
  | k + 1 => by
    have := trimN_le ns k
    unfold trimN
    split
    · omega
    · exact Nat.le_refl _
theorem trim_nil (ns : List Int) : trim ns = [] ↔ trimN ns ns.length = 0 := by
  unfold trim
  rw [List.take_eq_nil_iff]
  constructor
  · rintro (h | h)
    · exact h
    · subst h; rfl
  · exact .inl
theorem rowN_zero : rowN 0 = [] := by decide
theorem rowN_cons (n : Nat) (h : 0 < n) : rowN n = if trimN (dg n (n / 10000)) (dg n (n / 10000)).length = 0 then (if ((n % 10000 : Nat) : Int) = 0 then [] else [((n % 10000 : Nat) : Int)]) else ((n % 10000 : Nat) : Int) :: trim (dg n (n / 10000)) :=
  trim_cons _ _
theorem rowN_tail (n : Nat) (h : 0 < n) : trim (dg n (n / 10000)) = rowN (n / 10000) :=
  trim_row (Nat.lt_of_lt_of_le (lt_pow (n / 10000)) (Nat.pow_le_pow_right (by decide) (Nat.div_lt_self h (by decide))))
theorem rowN_ne : ∀ n, 0 < n → rowN n ≠ [] := by
  intro n
  induction n using Nat.strongRecOn with
  | ind n ih =>
    intro h e
    rw [rowN_cons n h] at e
    by_cases q : trimN (dg n (n / 10000)) (dg n (n / 10000)).length = 0
    · rw [if_pos q] at e
      by_cases z : ((n % 10000 : Nat) : Int) = 0
      · have e3 := (trim_nil _).mpr q
        rw [rowN_tail n h] at e3
        exact ih (n / 10000) (Nat.div_lt_self h (by decide)) (by omega) e3
      · rw [if_neg z] at e
        cases e
    · rw [if_neg q] at e
      cases e
theorem rowN_step {n : Nat} (h : 0 < n) : rowN n = ((n % 10000 : Nat) : Int) :: rowN (n / 10000) := by
  have e := rowN_cons n h
  rw [rowN_tail n h] at e
  by_cases q : trimN (dg n (n / 10000)) (dg n (n / 10000)).length = 0
  · have e3 := (trim_nil _).mpr q
    rw [rowN_tail n h] at e3
    rw [if_pos q] at e
    have hz : n / 10000 = 0 := Nat.eq_zero_of_not_pos fun z => rowN_ne _ z e3
    rw [if_neg (by omega)] at e
    rw [e, e3]
  · rw [if_neg q] at e
    exact e
/-- how many digits -/
def rl (n : Nat) : Nat := (rowN n).length
theorem rl_step {n : Nat} (h : 0 < n) : rl n = rl (n / 10000) + 1 := by
  unfold rl
  rw [rowN_step h]
  rfl
theorem rl_lt : ∀ n, n < 10000 ^ rl n := by
  intro n
  induction n using Nat.strongRecOn with
  | ind n ih =>
    rcases Nat.eq_zero_or_pos n with h | h
    · subst h
      exact Nat.pow_pos (by decide)
    · rw [rl_step h, Nat.pow_succ]
      have := ih (n / 10000) (Nat.div_lt_self h (by decide))
      omega
theorem rl_le : ∀ n, 0 < n → 10000 ^ (rl n - 1) ≤ n := by
  intro n
  induction n using Nat.strongRecOn with
  | ind n ih =>
    intro h
    rw [rl_step h, Nat.add_sub_cancel]
    rcases Nat.eq_zero_or_pos (n / 10000) with q | q
    · rw [q]
      show 10000 ^ 0 ≤ n
      omega
    · have := ih (n / 10000) (Nat.div_lt_self h (by decide)) q
      obtain ⟨k, e⟩ : ∃ k, rl (n / 10000) = k + 1 := ⟨_, rl_step q⟩
      rw [e, Nat.pow_succ]
      rw [e, Nat.add_sub_cancel] at this
      omega
theorem rl_mono {a b : Nat} (h : rl a < rl b) : a < b := by
  have h1 := rl_lt a
  have hb : 0 < b := by
    rcases Nat.eq_zero_or_pos b with q | q
    · subst q
      exact absurd h (by simp [rl, rowN_zero])
    · exact q
  have h2 := rl_le b hb
  exact Nat.lt_of_lt_of_le h1 (Nat.le_trans (Nat.pow_le_pow_right (by decide) (by omega)) h2)
theorem rowN_dg : ∀ n, rowN n = dg (rl n) n := by
  intro n
  induction n using Nat.strongRecOn with
  | ind n ih =>
    rcases Nat.eq_zero_or_pos n with h | h
    · subst h
      rfl
    · rw [rl_step h, dg, ← ih (n / 10000) (Nat.div_lt_self h (by decide)), rowN_step h]
theorem dg_getD : ∀ (k n i : Nat), i < k → (dg k n).getD i 0 = ((n / 10000 ^ i % 10000 : Nat) : Int)
  | 0, _, _, h => by omega
  | k + 1, n, 0, _ => by simp [dg, List.getD]
  | k + 1, n, i + 1, h => by
    have := dg_getD k (n / 10000) i (by omega)
    simp only [dg, List.getD_cons_succ]
    rw [this, Nat.div_div_eq_div_mul, Nat.pow_succ, Nat.mul_comm]
theorem rowN_getD {n i : Nat} (h : i < rl n) : (rowN n).getD i 0 = ((n / 10000 ^ i % 10000 : Nat) : Int) := by
  rw [rowN_dg]
  exact dg_getD _ _ _ h
def cmpN (a b : Nat) : Int := if a < b then -1 else if a = b then 0 else 1
end T
namespace T
open PySem PySem.Spec PyProof.Rows VL
local macro_rules | `(tactic| trivial) => `(tactic| first
  | with_reducible refine x_int ?_ | with_reducible refine x_bl ?_ | with_reducible refine x_non ?_ | with_reducible refine x_str ?_ | with_reducible refine x_glo ?_ | with_reducible refine x_bin ?_ | with_reducible refine x_neg ?_ | with_reducible refine x_not ?_ | with_reducible refine x_cmp ?_ | with_reducible refine x_chain ?_ | with_reducible refine x_and ?_ | with_reducible refine x_or ?_ | with_reducible refine x_ite ?_ | with_reducible refine x_tup ?_ | with_reducible refine x_lst ?_ | with_reducible refine x_ix ?_ | with_reducible refine x_sq ?_ | with_reducible refine x_bi ?_ | with_reducible refine x_isi ?_ | with_reducible refine x_call ?_ | with_reducible refine x_sl ?_ | with_reducible refine x_ext ?_
  | with_reducible refine x_anil ?_ | with_reducible refine x_acons ?_ | with_reducible refine x_slst ?_ | with_reducible refine x_stup ?_ | with_reducible refine x_ono ?_ | with_reducible refine x_osome ?_ | with_reducible refine x_seq ?_ | with_reducible refine x_asg ?_ | with_reducible refine x_own ?_ | with_reducible refine x_ret ?_ | with_reducible refine x_if ?_ | with_reducible refine x_for ?_ | with_reducible refine x_exp ?_ | with_reducible refine x_unp ?_ | with_reducible refine x_par ?_ | with_reducible refine x_parN ?_ | with_reducible refine x_jrng1 ?_ | with_reducible refine x_jrngd ?_ | with_reducible refine x_irng1 ?_ | with_reducible refine x_irngd ?_ | with_reducible refine x_jit ?_ | with_reducible refine x_iit ?_ | with_reducible refine x_nil ?_
  | ((with_reducible apply x_var); · rfl) | ((with_reducible apply x_vvar); · rfl) | ((with_reducible apply x_vown); · rfl) | ((with_reducible apply x_v); · rfl) | ((with_reducible apply x_qlst); · rfl) | ((with_reducible apply x_qtup); · rfl) | ((with_reducible apply x_qown); · rfl) | ((with_reducible apply x_q); · rfl) | ((with_reducible apply x_aug1); · rfl) | ((with_reducible apply x_app1); · rfl)
  | with_reducible refine z_len ?_ | with_reducible refine z_add ?_ | with_reducible refine z_sub ?_ | with_reducible refine z_lt ?_ | with_reducible refine z_le ?_ | with_reducible refine z_gt ?_ | with_reducible refine z_ge ?_ | with_reducible refine z_eq ?_ | with_reducible refine z_ne ?_ | with_reducible refine z_eqB ?_ | with_reducible refine z_neB ?_ | with_reducible refine z_eqS ?_ | with_reducible refine y_int ?_
  | with_reducible refine y_bl (fun hk => ?_) (fun hk => ?_) | with_reducible refine y_tbl (fun hk => ?_) (fun hk => ?_)
  | ((with_reducible apply y_asg); · decide))
abbrev rowD (n : Nat) : D := .lst ((rowN n).map D.int)
def wf_compare : WF G := fun ds g Q => ∃ a b : Nat, ds = [rowD a, rowD b] ∧ rl a < 1000000 ∧ rl b < 1000000 ∧ Q (.int (cmpN a b)) 2 g
theorem top_digit {a k : Nat} : a / 10000 ^ k = 10000 * (a / 10000 ^ (k + 1)) + a / 10000 ^ k % 10000 := by
  rw [Nat.pow_succ, ← Nat.div_div_eq_div_mul]
  omega
theorem sp_compare : ∀ (ds : List D) (g : G) (Pq : Pd G), ds.length = 2 → wf_compare ds g Pq → VL.wS [] cs_compare (endP Pq) (env0 ck_compare.N.length ds) g := by
  rintro ds g Q _ ⟨a, b, rfl, ha, hb, q⟩
  have la : ((rowN a).map D.int).length = rl a := by rw [List.length_map]; rfl
  have lb : ((rowN b).map D.int).length = rl b := by rw [List.length_map]; rfl
  show VL.wS _ (.seq _ _) _ [.dat (.lst ((rowN a).map D.int)) 1, .dat (.lst ((rowN b).map D.int)) 1, .no] _
  repeat trivial
  · rename_i h1 h2
    have h3 := of_decide_eq_true h2
    rw [la, lb] at h3
    have : a < b := rl_mono (by omega)
    have e : cmpN a b = -1 := if_pos this
    rw [e] at q
    exact q
  · rename_i h1 h2
    have h3 := of_decide_eq_false h2
    rw [la, lb] at h1 h3
    have n1 : ¬ ((rl a : Int) = (rl b : Int)) := by simpa using h1
    have : b < a := rl_mono (by omega)
    have e : cmpN a b = 1 := by unfold cmpN; rw [if_neg (by omega), if_neg (by omega)]
    rw [e] at q
    exact q
  rename_i h1
  rw [la, lb] at h1
  have el : rl a = rl b := by
    have : (rl a : Int) = (rl b : Int) := by simpa using h1
    omega
  repeat trivial
  rw [la]
  refine ⟨_, _, rfl, rfl, ⟨by omega, by omega⟩, ⟨by decide, by decide⟩, y_for (l := 2) (by decide) ?_⟩
  refine x_foL (fun i es g' => ∃ s2, es = [.dat (.lst ((rowN a).map D.int)) 1, .dat (.lst ((rowN b).map D.int)) 1, s2] ∧ NO s2 ∧ g' = g ∧ i ≤ rl a ∧ a / 10000 ^ (rl a - i) = b / 10000 ^ (rl a - i))
    ⟨.no, rfl, trivial, rfl, Nat.zero_le _, ?_⟩ ?_ ?_
  · rw [Nat.sub_zero, Nat.div_eq_of_lt (rl_lt a), el, Nat.div_eq_of_lt (rl_lt b)]
  · rintro i d es g' K hd hK ⟨s2, rfl, n2, rfl, hi, he⟩
    have hi2 : i < rl a := by
      have := (List.getElem?_eq_some_iff.mp hd).1
      rw [dwnD_len] at this
      omega
    rw [dwnD_get (by omega)] at hd
    cases hd
    refine bind_name (noOwn_of fun x hx s e => ?_) ?_
    · rcases List.mem_cons.mp hx with z | hx
      · subst z; cases e; exact n2
      · cases hx
    obtain ⟨k, ek⟩ : ∃ k, rl a = i + (k + 1) := ⟨rl a - i - 1, by omega⟩
    have er : rl a - i = k + 1 := by omega
    rw [er] at he
    have ga := rowN_getD (n := a) (i := k) (by omega)
    have gb := rowN_getD (n := b) (i := k) (by omega)
    have ta := top_digit (a := a) (k := k)
    have tb := top_digit (a := b) (k := k)
    rw [he] at ta
    show VL.wS _ _ _ [.dat (.lst ((rowN a).map D.int)) 1, .dat (.lst ((rowN b).map D.int)) 1, .dat (.int ((rl a : Int) - 1 - (i : Nat))) 2] _
    repeat trivial
    refine y_ix (atI_int (k := k) (by show k < rl a; omega) (by omega)) ?_
    repeat trivial
    refine y_ix (atI_int (k := k) (by show k < rl b; omega) (by omega)) ?_
    rw [ga, gb]
    repeat trivial
    · rename_i h2
      refine y_ix (atI_int (k := k) (by show k < rl a; omega) (by omega)) ?_
      repeat trivial
      refine y_ix (atI_int (k := k) (by show k < rl b; omega) (by omega)) ?_
      rw [ga, gb]
      generalize a / 10000 ^ k % 10000 = da at ta h2
      generalize b / 10000 ^ k % 10000 = db at tb h2
      have h3 : ¬ ((da : Int) = (db : Int)) := by simpa using h2
      repeat trivial
      · rename_i h4
        have h5 := of_decide_eq_true h4
        have lt : a / 10000 ^ k < b / 10000 ^ k := by omega
        have e : cmpN a b = -1 := if_pos (Nat.lt_of_not_le fun z => absurd (Nat.div_le_div_right (c := 10000 ^ k) z) (by omega))
        rw [e] at q
        exact q
      · rename_i h4
        have h5 := of_decide_eq_false h4
        have lt : b / 10000 ^ k < a / 10000 ^ k := by omega
        have l2 : b < a := Nat.lt_of_not_le fun z => absurd (Nat.div_le_div_right (c := 10000 ^ k) z) (by omega)
        have e : cmpN a b = 1 := by unfold cmpN; rw [if_neg (by omega), if_neg (by omega)]
        rw [e] at q
        exact q
    · rename_i h2
      have h3 : ((a / 10000 ^ k % 10000 : Nat) : Int) = ((b / 10000 ^ k % 10000 : Nat) : Int) := by simpa using h2
      refine hK _ _ ⟨_, rfl, trivial, rfl, hi2, ?_⟩
      rw [show rl a - (i + 1) = k by omega]
      omega
  · rintro es g' ⟨s2, rfl, n2, rfl, hi, he⟩
    rw [dwnD_len, show ((rl a : Int) - 1 - -1).toNat = rl a by omega, Nat.sub_self, Nat.pow_zero, Nat.div_one, Nat.div_one] at he
    repeat trivial
    have e : cmpN a b = 0 := by unfold cmpN; rw [if_neg (by omega), if_pos he]
    rw [e] at q
    exact q
end T
namespace T
open PySem PySem.Spec PyProof.Rows VL
theorem rl_eq {n N : Nat} (h1 : n < 10000 ^ N) (h2 : N = 0 ∨ 10000 ^ (N - 1) ≤ n) : rl n = N := by
  rcases Nat.lt_trichotomy (rl n) N with q | q | q
  · rcases h2 with h2 | h2
    · omega
    · have := Nat.pow_le_pow_right (n := 10000) (by decide) (show rl n ≤ N - 1 by omega)
      have := rl_lt n
      omega
  · exact q
  · have n0 : 0 < n := by
      rcases Nat.eq_zero_or_pos n with z | z
      · subst z
        exact absurd q (by simp [rl, rowN_zero])
      · exact z
    have h3 := rl_le n n0
    have := Nat.pow_le_pow_right (n := 10000) (by decide) (show N ≤ rl n - 1 by omega)
    omega
theorem x_digit {fs : List (Nat × WF G)} {es : VL.Env} {g : G} {Q : Pd G} {i k a x l1 l2 : Nat} (h1 : es[i]? = some (.dat (.lst ((rowN a).map D.int)) l1)) (h2 : es[k]? = some (.dat (.int (x : Nat)) l2)) (q : ∀ l, Q (.int ((a / 10000 ^ x % 10000 : Nat) : Int)) l g) :
    VL.wE fs (.ite (.cmp .lt (.var k) (.sq .len (.var i))) (.ix (.var i) (.var k)) (.int 0)) es g Q := by
  have la : ((rowN a).map D.int).length = rl a := by rw [List.length_map]; rfl
  refine x_ite (x_cmp (x_var h2 (x_sq (x_qlst h1 (z_len (z_lt (y_tbl (fun h => ?_) fun h => ?_)))))))
  · have h3 := of_decide_eq_true h
    rw [la] at h3
    refine x_ix (x_qlst h1 (x_var h2 (y_ix (atI_int (k := x) (by show x < rl a; omega) rfl) ?_)))
    rw [rowN_getD (by omega)]
    exact q _
  · have h3 := of_decide_eq_false h
    rw [la] at h3
    have e : a / 10000 ^ x = 0 := Nat.div_eq_of_lt (Nat.lt_of_lt_of_le (rl_lt a) (Nat.pow_le_pow_right (by decide) (by omega)))
    have z := q 2
    rw [e] at z
    exact z
local macro_rules | `(tactic| trivial) => `(tactic| first
  | ((with_reducible apply x_digit); (focus rfl); (focus rfl))
  | with_reducible refine x_int ?_ | with_reducible refine x_bl ?_ | with_reducible refine x_non ?_ | with_reducible refine x_str ?_ | with_reducible refine x_glo ?_ | with_reducible refine x_bin ?_ | with_reducible refine x_neg ?_ | with_reducible refine x_not ?_ | with_reducible refine x_cmp ?_ | with_reducible refine x_chain ?_ | with_reducible refine x_and ?_ | with_reducible refine x_or ?_ | with_reducible refine x_ite ?_ | with_reducible refine x_tup ?_ | with_reducible refine x_lst ?_ | with_reducible refine x_ix ?_ | with_reducible refine x_sq ?_ | with_reducible refine x_bi ?_ | with_reducible refine x_isi ?_ | with_reducible refine x_call ?_ | with_reducible refine x_sl ?_ | with_reducible refine x_ext ?_
  | with_reducible refine x_anil ?_ | with_reducible refine x_acons ?_ | with_reducible refine x_slst ?_ | with_reducible refine x_stup ?_ | with_reducible refine x_ono ?_ | with_reducible refine x_osome ?_ | with_reducible refine x_seq ?_ | with_reducible refine x_asg ?_ | with_reducible refine x_own ?_ | with_reducible refine x_ret ?_ | with_reducible refine x_if ?_ | with_reducible refine x_for ?_ | with_reducible refine x_exp ?_ | with_reducible refine x_unp ?_ | with_reducible refine x_par ?_ | with_reducible refine x_parN ?_ | with_reducible refine x_jrng1 ?_ | with_reducible refine x_jrngd ?_ | with_reducible refine x_irng1 ?_ | with_reducible refine x_irngd ?_ | with_reducible refine x_jit ?_ | with_reducible refine x_iit ?_ | with_reducible refine x_nil ?_
  | ((with_reducible apply x_var); · rfl) | ((with_reducible apply x_vvar); · rfl) | ((with_reducible apply x_vown); · rfl) | ((with_reducible apply x_v); · rfl) | ((with_reducible apply x_qlst); · rfl) | ((with_reducible apply x_qtup); · rfl) | ((with_reducible apply x_qown); · rfl) | ((with_reducible apply x_q); · rfl) | ((with_reducible apply x_aug1); · rfl) | ((with_reducible apply x_app1); · rfl)
  | with_reducible refine z_len ?_ | with_reducible refine z_add ?_ | with_reducible refine z_sub ?_ | with_reducible refine z_lt ?_ | with_reducible refine z_le ?_ | with_reducible refine z_gt ?_ | with_reducible refine z_ge ?_ | with_reducible refine z_eq ?_ | with_reducible refine z_ne ?_ | with_reducible refine z_eqB ?_ | with_reducible refine z_neB ?_ | with_reducible refine z_eqS ?_ | with_reducible refine y_int ?_
  | with_reducible refine y_bl (fun hk => ?_) (fun hk => ?_) | with_reducible refine y_tbl (fun hk => ?_) (fun hk => ?_)
  | ((with_reducible apply y_asg); · decide))
def wf_add : WF G := fun ds g Q => ∃ a b : Nat, ds = [rowD a, rowD b] ∧ rl a < 1000000 ∧ rl b < 1000000 ∧ Q (rowD (a + b)) 2 g
def car (a b i : Nat) : Nat := (a % 10000 ^ i + b % 10000 ^ i) / 10000 ^ i
theorem car_sum (a b i : Nat) : (a + b) / 10000 ^ i = a / 10000 ^ i + b / 10000 ^ i + car a b i := by
  unfold car
  have p : 0 < 10000 ^ i := Nat.pow_pos (by decide)
  have ea := Nat.div_add_mod a (10000 ^ i)
  have eb := Nat.div_add_mod b (10000 ^ i)
  generalize a / 10000 ^ i = x at *
  generalize b / 10000 ^ i = y at *
  generalize a % 10000 ^ i = u at *
  generalize b % 10000 ^ i = v at *
  rw [← ea, ← eb, show 10000 ^ i * x + u + (10000 ^ i * y + v) = (u + v) + 10000 ^ i * (x + y) by rw [Nat.mul_add]; omega, Nat.add_mul_div_left _ _ p]
  omega
theorem car_step (a b i : Nat) : car a b (i + 1) = (car a b i + a / 10000 ^ i % 10000 + b / 10000 ^ i % 10000) / 10000 := by
  unfold car
  have p : 0 < 10000 ^ i := Nat.pow_pos (by decide)
  rw [Nat.mod_pow_succ, Nat.mod_pow_succ, Nat.pow_succ, ← Nat.div_div_eq_div_mul]
  congr 1
  rw [show a % 10000 ^ i + 10000 ^ i * (a / 10000 ^ i % 10000) + (b % 10000 ^ i + 10000 ^ i * (b / 10000 ^ i % 10000)) = (a % 10000 ^ i + b % 10000 ^ i) + 10000 ^ i * (a / 10000 ^ i % 10000 + b / 10000 ^ i % 10000) by rw [Nat.mul_add]; omega,
    Nat.add_mul_div_left _ _ p]
  omega
theorem sp_add : ∀ (ds : List D) (g : G) (Pq : Pd G), ds.length = 2 → wf_add ds g Pq → VL.wS [] cs_add (endP Pq) (env0 ck_add.N.length ds) g := by
  rintro ds g Q _ ⟨a, b, rfl, ha, hb, q⟩
  have la : ((rowN a).map D.int).length = rl a := by rw [List.length_map]; rfl
  have lb : ((rowN b).map D.int).length = rl b := by rw [List.length_map]; rfl
  show VL.wS _ (.seq _ _) _ [.dat (.lst ((rowN a).map D.int)) 1, .dat (.lst ((rowN b).map D.int)) 1, .no, .no, .no, .no] _
  repeat trivial
  refine ⟨by decide, y_own (by simp) (by decide) ?_⟩
  repeat trivial
  rw [la, lb]
  have em : (if (rl b : Int) > (rl a : Int) then (rl b : Int) else (rl a : Int)) = ((max (rl a) (rl b) : Nat) : Int) := by
    split <;> omega
  have N1 : max (rl a) (rl b) < 1000000 := by omega
  have NA : a < 10000 ^ max (rl a) (rl b) := Nat.lt_of_lt_of_le (rl_lt a) (Nat.pow_le_pow_right (by decide) (by omega))
  have NB : b < 10000 ^ max (rl a) (rl b) := Nat.lt_of_lt_of_le (rl_lt b) (Nat.pow_le_pow_right (by decide) (by omega))
  have NL : max (rl a) (rl b) = 0 ∨ 10000 ^ (max (rl a) (rl b) - 1) ≤ a + b := by
    rcases Nat.eq_zero_or_pos (max (rl a) (rl b)) with z | z
    · exact .inl z
    · right
      rcases Nat.le_total (rl a) (rl b) with q | q
      · rw [Nat.max_eq_right q] at z ⊢
        have b0 : 0 < b := by
          rcases Nat.eq_zero_or_pos b with y | y
          · subst y
            exact absurd z (by simp [rl, rowN_zero])
          · exact y
        have := rl_le b b0
        omega
      · rw [Nat.max_eq_left q] at z ⊢
        have a0 : 0 < a := by
          rcases Nat.eq_zero_or_pos a with y | y
          · subst y
            exact absurd z (by simp [rl, rowN_zero])
          · exact y
        have := rl_le a a0
        omega
  show ∃ j, D.int (if (rl b : Int) > (rl a : Int) then (rl b : Int) else (rl a : Int)) = .int j ∧ _
  rw [em]
  generalize max (rl a) (rl b) = N at *
  refine ⟨_, rfl, ⟨by omega, by omega⟩, y_for (l := 2) (by decide) ?_⟩
  refine x_foL (fun i es g' => ∃ s4 s5, es = [.dat (rowD a) 1, .dat (rowD b) 1, .own ((dg i (a + b)).map D.int) 2, .dat (.int (car a b i : Nat)) 2, s4, s5] ∧ NO s4 ∧ g' = g)
    ⟨.no, .no, by simp [dg, car, Nat.mod_one], trivial, rfl⟩ ?_ ?_
  · rintro i d es g' K hd hK ⟨s4, s5, rfl, n4, rfl⟩
    have hi : i < N := by
      have := (List.getElem?_eq_some_iff.mp hd).1
      rw [rngD_len] at this
      omega
    rw [rngD_get (by omega)] at hd
    cases hd
    refine bind_name (noOwn_of fun x hx s e => ?_) ?_
    · rcases List.mem_cons.mp hx with z | hx
      · subst z; cases e; exact n4
      · cases hx
    rw [Int.zero_add]
    show VL.wS _ _ _ [.dat (rowD a) 1, .dat (rowD b) 1, .own _ 2, .dat _ 2, .dat (.int (i : Nat)) 2, s5] _
    repeat trivial
    intro l1
    repeat trivial
    intro l2
    repeat trivial
    refine z_mod (by decide) ⟨by rw [List.length_map, dg_len, sizeLine_eq]; omega, .inr rfl, ?_⟩
    show VL.wS _ _ _ [.dat (rowD a) 1, .dat (rowD b) 1, .own _ 2, .dat _ 2, .dat _ 2, .dat _ 2] _
    repeat trivial
    refine hK _ _ ⟨.dat (.int (i : Nat)) 2, .dat (.int ((car a b i : Int) + (a / 10000 ^ i % 10000 : Nat) + (b / 10000 ^ i % 10000 : Nat))) 2, ?_, trivial, rfl⟩
    have f1 := fmodN (car a b i + a / 10000 ^ i % 10000 + b / 10000 ^ i % 10000) 10000
    have f2 := fdivN (car a b i + a / 10000 ^ i % 10000 + b / 10000 ^ i % 10000) 10000
    rw [← car_step] at f2
    have e1 : (car a b i + a / 10000 ^ i % 10000 + b / 10000 ^ i % 10000) % 10000 = (a + b) / 10000 ^ i % 10000 := by
      rw [car_sum]
      omega
    rw [e1] at f1
    show [_, _, Sl.own (_ ++ [D.int (Int.fmod (((car a b i + a / 10000 ^ i % 10000 + b / 10000 ^ i % 10000 : Nat)) : Int) ((10000 : Nat) : Int))]) 2, Sl.dat (D.int (Int.fdiv (((car a b i + a / 10000 ^ i % 10000 + b / 10000 ^ i % 10000 : Nat)) : Int) ((10000 : Nat) : Int))) 2, _, _] = _
    rw [f1, f2, dg_snoc, List.map_append]
    rfl
  · rintro es g' ⟨s4, s5, rfl, n4, rfl⟩
    rw [rngD_len, show ((N : Int) - 0).toNat = N by omega]
    have ec : (a + b) / 10000 ^ N = car a b N := by
      rw [car_sum, Nat.div_eq_of_lt NA, Nat.div_eq_of_lt NB]
      omega
    repeat trivial
    · rename_i h
      have h2 : 0 < car a b N := Int.natCast_pos.mp (of_decide_eq_true h)
      have h3 : (a + b) / 10000 ^ N < 2 := Nat.div_lt_of_lt_mul (by omega)
      have h4 : 10000 ^ N ≤ a + b := by
        rcases Nat.lt_or_ge (a + b) (10000 ^ N) with z | z
        · rw [← ec, Nat.div_eq_of_lt z] at h2
          cases h2
        · exact z
      have e : rowN (a + b) = dg N (a + b) ++ [((car a b N : Nat) : Int)] := by
        rw [rowN_dg, rl_eq (N := N + 1) (by rw [Nat.pow_succ]; omega) (.inr h4), dg_snoc, ec, Nat.mod_eq_of_lt (by omega)]
      refine ⟨by show 1 ≤ sizeLine; decide, ⟨?_, ?_⟩⟩
      · rw [List.length_map, dg_len, sizeLine_eq]
        show N + 1 ≤ _
        omega
      · unfold rowD at q
        rw [e, List.map_append] at q
        exact q
    · rename_i h
      have h2 : car a b N = 0 := Nat.eq_zero_of_not_pos fun z => of_decide_eq_false h (Int.natCast_pos.mpr z)
      have h4 : a + b < 10000 ^ N := by
        rcases Nat.lt_or_ge (a + b) (10000 ^ N) with z | z
        · exact z
        · have := Nat.div_pos z (Nat.pow_pos (by decide))
          omega
      refine ⟨by decide, ⟨?_, ?_⟩⟩
      · rw [List.length_map, dg_len, sizeLine_eq]
        show N + 0 ≤ _
        omega
      · unfold rowD at q
        rw [rowN_dg, rl_eq h4 NL] at q
        rw [List.append_nil]
        exact q
end T
namespace T
open PySem PySem.Spec PyProof.Rows VL
local macro_rules | `(tactic| trivial) => `(tactic| first
  | ((with_reducible apply x_digit); (focus rfl); (focus rfl))
  | with_reducible refine x_int ?_ | with_reducible refine x_bl ?_ | with_reducible refine x_non ?_ | with_reducible refine x_str ?_ | with_reducible refine x_glo ?_ | with_reducible refine x_bin ?_ | with_reducible refine x_neg ?_ | with_reducible refine x_not ?_ | with_reducible refine x_cmp ?_ | with_reducible refine x_chain ?_ | with_reducible refine x_and ?_ | with_reducible refine x_or ?_ | with_reducible refine x_ite ?_ | with_reducible refine x_tup ?_ | with_reducible refine x_lst ?_ | with_reducible refine x_ix ?_ | with_reducible refine x_sq ?_ | with_reducible refine x_bi ?_ | with_reducible refine x_isi ?_ | with_reducible refine x_call ?_ | with_reducible refine x_sl ?_ | with_reducible refine x_ext ?_
  | with_reducible refine x_anil ?_ | with_reducible refine x_acons ?_ | with_reducible refine x_slst ?_ | with_reducible refine x_stup ?_ | with_reducible refine x_ono ?_ | with_reducible refine x_osome ?_ | with_reducible refine x_seq ?_ | with_reducible refine x_asg ?_ | with_reducible refine x_own ?_ | with_reducible refine x_ret ?_ | with_reducible refine x_if ?_ | with_reducible refine x_for ?_ | with_reducible refine x_exp ?_ | with_reducible refine x_unp ?_ | with_reducible refine x_par ?_ | with_reducible refine x_parN ?_ | with_reducible refine x_jrng1 ?_ | with_reducible refine x_jrngd ?_ | with_reducible refine x_irng1 ?_ | with_reducible refine x_irngd ?_ | with_reducible refine x_jit ?_ | with_reducible refine x_iit ?_ | with_reducible refine x_nil ?_
  | ((with_reducible apply x_var); · rfl) | ((with_reducible apply x_vvar); · rfl) | ((with_reducible apply x_vown); · rfl) | ((with_reducible apply x_v); · rfl) | ((with_reducible apply x_qlst); · rfl) | ((with_reducible apply x_qtup); · rfl) | ((with_reducible apply x_qown); · rfl) | ((with_reducible apply x_q); · rfl) | ((with_reducible apply x_aug1); · rfl) | ((with_reducible apply x_app1); · rfl)
  | with_reducible refine z_len ?_ | with_reducible refine z_add ?_ | with_reducible refine z_sub ?_ | with_reducible refine z_lt ?_ | with_reducible refine z_le ?_ | with_reducible refine z_gt ?_ | with_reducible refine z_ge ?_ | with_reducible refine z_eq ?_ | with_reducible refine z_ne ?_ | with_reducible refine z_eqB ?_ | with_reducible refine z_neB ?_ | with_reducible refine z_eqS ?_ | with_reducible refine y_int ?_
  | with_reducible refine y_bl (fun hk => ?_) (fun hk => ?_) | with_reducible refine y_tbl (fun hk => ?_) (fun hk => ?_)
  | ((with_reducible apply y_asg); · decide))
def bor (a b i : Nat) : Nat := if a % 10000 ^ i < b % 10000 ^ i then 1 else 0
theorem bor_step (a b i : Nat) : bor a b (i + 1) = if a / 10000 ^ i % 10000 < bor a b i + b / 10000 ^ i % 10000 then 1 else 0 := by
  unfold bor
  have p : 0 < 10000 ^ i := Nat.pow_pos (by decide)
  rw [Nat.mod_pow_succ, Nat.mod_pow_succ]
  have hu := Nat.mod_lt a p
  have hv := Nat.mod_lt b p
  generalize a / 10000 ^ i % 10000 = x at *
  generalize b / 10000 ^ i % 10000 = y at *
  generalize a % 10000 ^ i = u at *
  generalize b % 10000 ^ i = v at *
  generalize 10000 ^ i = P at *
  have key : (u + P * x < v + P * y) ↔ (x < (if u < v then 1 else 0) + y) := by
    rcases Nat.lt_trichotomy x y with q | q | q
    · have := Nat.mul_le_mul_left P (show x + 1 ≤ y from q)
      rw [Nat.mul_add] at this
      split <;> omega
    · subst q
      split <;> omega
    · have := Nat.mul_le_mul_left P (show y + 1 ≤ x from q)
      rw [Nat.mul_add] at this
      split <;> omega
  by_cases h : u + P * x < v + P * y
  · rw [if_pos h, if_pos (key.mp h)]
  · rw [if_neg h, if_neg (fun z => h (key.mpr z))]
theorem bor_dif {a b : Nat} (h : b ≤ a) (i : Nat) : (a - b) / 10000 ^ i + (b / 10000 ^ i + bor a b i) = a / 10000 ^ i := by
  unfold bor
  have p : 0 < 10000 ^ i := Nat.pow_pos (by decide)
  have hu := Nat.mod_lt a p
  have hv := Nat.mod_lt b p
  have ea := Nat.div_add_mod a (10000 ^ i)
  have eb := Nat.div_add_mod b (10000 ^ i)
  have hd : b / 10000 ^ i ≤ a / 10000 ^ i := Nat.div_le_div_right h
  generalize a / 10000 ^ i = x at *
  generalize b / 10000 ^ i = y at *
  generalize a % 10000 ^ i = u at *
  generalize b % 10000 ^ i = v at *
  generalize 10000 ^ i = P at *
  subst ea
  subst eb
  obtain ⟨t, rfl⟩ := Nat.exists_eq_add_of_le hd
  rw [Nat.mul_add] at *
  by_cases q : u < v
  · rw [if_pos q]
    cases t with
    | zero => omega
    | succ t =>
      rw [Nat.mul_add] at *
      have e : P * y + (P * t + P * 1) + u - (P * y + v) = (P + u - v) + P * t := by omega
      rw [e, Nat.add_mul_div_left _ _ p, Nat.div_eq_of_lt (by omega)]
      omega
  · rw [if_neg q]
    have e : P * y + P * t + u - (P * y + v) = (u - v) + P * t := by omega
    rw [e, Nat.add_mul_div_left _ _ p, Nat.div_eq_of_lt (by omega)]
    omega
def wf_sub : WF G := fun ds g Q => ∃ a b : Nat, ds = [rowD a, rowD b] ∧ b ≤ a ∧ rl a < 1000000 ∧ Q (rowD (a - b)) 0 g
theorem rl_le_of {a b : Nat} (h : b ≤ a) : rl b ≤ rl a := by
  rcases Nat.lt_or_ge (rl a) (rl b) with q | q
  · have := rl_mono q
    omega
  · exact q
theorem sp_sub : ∀ (ds : List D) (g : G) (Pq : Pd G), ds.length = 2 → wf_sub ds g Pq → VL.wS [(1, wf_trimmed), (2, wf_compare)] cs_sub (endP Pq) (env0 ck_sub.N.length ds) g := by
  rintro ds g Q _ ⟨a, b, rfl, hab, ha, q⟩
  have hb := rl_le_of hab
  have la : ((rowN a).map D.int).length = rl a := by rw [List.length_map]; rfl
  have lb : ((rowN b).map D.int).length = rl b := by rw [List.length_map]; rfl
  show VL.wS _ (.seq _ _) _ [.dat (rowD a) 1, .dat (rowD b) 1, .no, .no, .no, .no] _
  repeat trivial
  refine y_call rfl rfl ⟨a, b, rfl, ha, by omega, ?_⟩
  have c0 : ¬ cmpN a b < 0 := by
    unfold cmpN
    rw [if_neg (by omega)]
    split <;> decide
  repeat trivial
  · rename_i h
    exact absurd (of_decide_eq_true h) c0
  repeat trivial
  refine ⟨by decide, y_own (by simp) (by decide) ?_⟩
  repeat trivial
  rw [la]
  refine ⟨⟨by omega, by omega⟩, y_for (l := 2) (by decide) ?_⟩
  refine x_foL (fun i es g' => ∃ s4 s5, es = [.dat (rowD a) 1, .dat (rowD b) 1, .own ((dg i (a - b)).map D.int) 2, .dat (.int (bor a b i : Nat)) 2, s4, s5] ∧ NO s4 ∧ g' = g)
    ⟨.no, .no, by simp [dg, bor, Nat.mod_one], trivial, rfl⟩ ?_ ?_
  · rintro i d es g' K hd hK ⟨s4, s5, rfl, n4, rfl⟩
    have hi : i < rl a := by
      have := (List.getElem?_eq_some_iff.mp hd).1
      rw [rngD_len] at this
      omega
    rw [rngD_get (by omega)] at hd
    cases hd
    refine bind_name (noOwn_of fun x hx s e => ?_) ?_
    · rcases List.mem_cons.mp hx with z | hx
      · subst z; cases e; exact n4
      · cases hx
    rw [Int.zero_add]
    show VL.wS _ _ _ [.dat (rowD a) 1, .dat (rowD b) 1, .own _ 2, .dat _ 2, .dat (.int (i : Nat)) 2, s5] _
    repeat trivial
    refine y_ix (atI_int (k := i) (by show i < rl a; omega) rfl) ?_
    rw [rowN_getD hi]
    repeat trivial
    intro l2
    repeat trivial
    have bs := bor_step a b i
    have bd := bor_dif hab i
    refine z_mod (by decide) ⟨by rw [List.length_map, dg_len, sizeLine_eq]; omega, .inr rfl, ?_⟩
    show VL.wS _ _ _ [.dat (rowD a) 1, .dat (rowD b) 1, .own _ 2, .dat _ 2, .dat _ 2, .dat _ 2] _
    have f1 : (((a / 10000 ^ i % 10000 : Nat) : Int) - (bor a b i : Nat) - ((b / 10000 ^ i % 10000 : Nat) : Int)).fmod 10000 = (((a - b) / 10000 ^ i % 10000 : Nat) : Int) := by
      rw [Int.fmod_eq_emod_of_nonneg _ (by decide)]
      omega
    rw [f1]
    have own : ∀ z : Int, z = (bor a b (i + 1) : Nat) → K [.dat (rowD a) 1, .dat (rowD b) 1, .own ((dg i (a - b)).map D.int ++ [.int (((a - b) / 10000 ^ i % 10000 : Nat) : Int)]) 2, .dat (.int z) 2, .dat (.int (i : Nat)) 2, .dat (.int (((a / 10000 ^ i % 10000 : Nat) : Int) - (bor a b i : Nat) - ((b / 10000 ^ i % 10000 : Nat) : Int))) 2] g' := fun z hz => by
      rw [hz]
      refine hK _ _ ⟨.dat (.int (i : Nat)) 2, .dat (.int (((a / 10000 ^ i % 10000 : Nat) : Int) - (bor a b i : Nat) - ((b / 10000 ^ i % 10000 : Nat) : Int))) 2, ?_, (show NO (.dat (.int (i : Nat)) 2) from trivial), rfl⟩
      rw [dg_snoc, List.map_append]
      rfl
    repeat trivial
    · rename_i h
      have h2 := of_decide_eq_true h
      refine own 1 ?_
      rw [bs, if_pos (by omega)]
      rfl
    · rename_i h
      have h2 := of_decide_eq_false h
      repeat trivial
      refine own 0 ?_
      rw [bs, if_neg (by omega)]
      rfl
  · rintro es g' ⟨s4, s5, rfl, n4, rfl⟩
    rw [rngD_len, show ((rl a : Int) - 0).toNat = rl a by omega]
    repeat trivial
    refine y_call rfl rfl ⟨_, rfl, ?_⟩
    rw [trim_row (Nat.lt_of_le_of_lt (Nat.sub_le a b) (rl_lt a))]
    exact q
end T
namespace T
open PySem PySem.Spec PyProof.Rows VL
theorem z_abs {m : Int} {R1 : D → Nat → Prop} (q : R1 (.int (m.natAbs : Nat)) 2) : biF .abs [.int m] R1 := by
  show R1 (.int (if m < 0 then -m else m)) 2
  have e : (if m < 0 then -m else m) = (m.natAbs : Nat) := by split <;> omega
  rw [e]
  exact q
local macro_rules | `(tactic| trivial) => `(tactic| first
  | ((with_reducible apply x_digit); (focus rfl); (focus rfl))
  | with_reducible refine x_int ?_ | with_reducible refine x_bl ?_ | with_reducible refine x_non ?_ | with_reducible refine x_str ?_ | with_reducible refine x_glo ?_ | with_reducible refine x_bin ?_ | with_reducible refine x_neg ?_ | with_reducible refine x_not ?_ | with_reducible refine x_cmp ?_ | with_reducible refine x_chain ?_ | with_reducible refine x_and ?_ | with_reducible refine x_or ?_ | with_reducible refine x_ite ?_ | with_reducible refine x_tup ?_ | with_reducible refine x_lst ?_ | with_reducible refine x_ix ?_ | with_reducible refine x_sq ?_ | with_reducible refine x_bi ?_ | with_reducible refine x_isi ?_ | with_reducible refine x_call ?_ | with_reducible refine x_sl ?_ | with_reducible refine x_ext ?_
  | with_reducible refine x_anil ?_ | with_reducible refine x_acons ?_ | with_reducible refine x_slst ?_ | with_reducible refine x_stup ?_ | with_reducible refine x_ono ?_ | with_reducible refine x_osome ?_ | with_reducible refine x_seq ?_ | with_reducible refine x_asg ?_ | with_reducible refine x_own ?_ | with_reducible refine x_ret ?_ | with_reducible refine x_if ?_ | with_reducible refine x_for ?_ | with_reducible refine x_exp ?_ | with_reducible refine x_unp ?_ | with_reducible refine x_par ?_ | with_reducible refine x_parN ?_ | with_reducible refine x_jrng1 ?_ | with_reducible refine x_jrngd ?_ | with_reducible refine x_irng1 ?_ | with_reducible refine x_irngd ?_ | with_reducible refine x_jit ?_ | with_reducible refine x_iit ?_ | with_reducible refine x_nil ?_
  | ((with_reducible apply x_var); · rfl) | ((with_reducible apply x_vvar); · rfl) | ((with_reducible apply x_vown); · rfl) | ((with_reducible apply x_v); · rfl) | ((with_reducible apply x_qlst); · rfl) | ((with_reducible apply x_qtup); · rfl) | ((with_reducible apply x_qown); · rfl) | ((with_reducible apply x_q); · rfl) | ((with_reducible apply x_aug1); · rfl) | ((with_reducible apply x_app1); · rfl)
  | with_reducible refine z_len ?_ | with_reducible refine z_add ?_ | with_reducible refine z_sub ?_ | with_reducible refine z_lt ?_ | with_reducible refine z_le ?_ | with_reducible refine z_gt ?_ | with_reducible refine z_ge ?_ | with_reducible refine z_eq ?_ | with_reducible refine z_ne ?_ | with_reducible refine z_eqB ?_ | with_reducible refine z_neB ?_ | with_reducible refine z_eqS ?_ | with_reducible refine y_int ?_
  | with_reducible refine z_abs ?_
  | with_reducible refine y_bl (fun hk => ?_) (fun hk => ?_) | with_reducible refine y_tbl (fun hk => ?_) (fun hk => ?_)
  | ((with_reducible apply y_asg); · decide))
theorem rl_small {n : Nat} (h : n < 10000 ^ 1000) : rl n < 1000000 := by
  rcases Nat.eq_zero_or_pos n with z | z
  · subst z
    simp [rl, rowN_zero]
  · have h1 := Nat.lt_of_le_of_lt (rl_le n z) h
    rcases Nat.lt_or_ge (rl n) 1000000 with q | q
    · exact q
    · exact absurd h1 (Nat.not_lt.mpr (Nat.pow_le_pow_right (by decide) (by omega)))
def cmpZ (m n : Int) : Int := if m < n then -1 else if m = n then 0 else 1
def smI (m : Int) : Prop := m.natAbs < 10000 ^ 1000
def wf_order : WF G := fun ds g Q => ∃ m n : Int, ds = [.int m, .int n] ∧ smI m ∧ smI n ∧ Q (.int (cmpZ m n)) 2 g
theorem sp_order : ∀ (ds : List D) (g : G) (Pq : Pd G), ds.length = 2 → wf_order ds g Pq → VL.wS [(2, wf_compare), (1, wf_row_of)] cs_order (endP Pq) (env0 ck_order.N.length ds) g := by
  rintro ds g Q _ ⟨m, n, rfl, hm, hn, q⟩
  show VL.wS _ (.seq _ _) _ [.dat (.int m) 1, .dat (.int n) 1, .no] _
  repeat trivial
  · rename_i h1 h2
    have h3 := of_decide_eq_true h2
    have e : cmpZ m n = -1 := by
      unfold cmpZ
      rw [if_pos]
      simp [h3] at h1
      omega
    rw [e] at q
    exact q
  · rename_i h1 h2
    have h3 := of_decide_eq_false h2
    have e : cmpZ m n = 1 := by
      unfold cmpZ
      simp [h3] at h1
      rw [if_neg (by omega), if_neg (by omega)]
    rw [e] at q
    exact q
  rename_i h1
  repeat trivial
  refine y_call rfl rfl ⟨_, rfl, hm, ?_⟩
  repeat trivial
  refine y_call rfl rfl ⟨_, rfl, hn, ?_⟩
  repeat trivial
  refine y_call rfl rfl ⟨_, _, rfl, rl_small hm, rl_small hn, ?_⟩
  have same : (m < 0 ↔ n < 0) := by
    by_cases a : m < 0 <;> by_cases b : n < 0 <;> simp [a, b] at h1 ⊢
  repeat trivial
  · rename_i h2
    have h3 := of_decide_eq_true h2
    have e : cmpZ m n = -cmpN m.natAbs n.natAbs := by
      unfold cmpZ cmpN
      have := same.mp h3
      split <;> split <;> (try split) <;> (try split) <;> omega
    rw [e] at q
    exact q
  · rename_i h2
    have h3 := of_decide_eq_false h2
    have e : cmpZ m n = cmpN m.natAbs n.natAbs := by
      unfold cmpZ cmpN
      have : ¬ n < 0 := fun z => h3 (same.mpr z)
      split <;> split <;> (try split) <;> (try split) <;> omega
    rw [e] at q
    repeat trivial
/-- the sum of two numbers, by its size and whether it is told as below nought -/
def addB (m n : Int) : Bool := if (decide (m < 0)) = (decide (n < 0)) then decide (m < 0) else if n.natAbs ≤ m.natAbs then decide (m < 0) else decide (n < 0)
def wf_added : WF G := fun ds g Q => ∃ m n : Int, ds = [.int m, .int n] ∧ smI m ∧ smI n ∧ Q (.tup [rowD (m + n).natAbs, .bl (addB m n)]) 2 g
theorem sp_added : ∀ (ds : List D) (g : G) (Pq : Pd G), ds.length = 2 → wf_added ds g Pq → VL.wS [(2, wf_sub), (2, wf_compare), (2, wf_add), (1, wf_row_of)] cs_added (endP Pq) (env0 ck_added.N.length ds) g := by
  rintro ds g Q _ ⟨m, n, rfl, hm, hn, q⟩
  show VL.wS _ (.seq _ _) _ [.dat (.int m) 1, .dat (.int n) 1, .no, .no] _
  repeat trivial
  refine y_call rfl rfl ⟨_, rfl, hm, ?_⟩
  repeat trivial
  refine y_call rfl rfl ⟨_, rfl, hn, ?_⟩
  refine ⟨2, 2, ⟨by decide, .inl (by decide)⟩, ⟨by decide, .inl (by decide)⟩, ?_⟩
  show VL.wS _ _ _ [.dat (.int m) 1, .dat (.int n) 1, .dat (rowD m.natAbs) 2, .dat (rowD n.natAbs) 2] _
  repeat trivial
  · rename_i h
    have h2 : decide (m < 0) = decide (n < 0) := of_decide_eq_true h
    refine y_call rfl rfl ⟨_, _, rfl, rl_small hm, rl_small hn, ?_⟩
    repeat trivial
    refine ⟨by show 2 ≤ sizeLine; decide, ?_⟩
    have e : m.natAbs + n.natAbs = (m + n).natAbs := by
      by_cases a : m < 0 <;> by_cases b : n < 0 <;> simp [a, b] at h2 <;> omega
    rw [e]
    have e2 : addB m n = decide (m < 0) := if_pos h2
    rw [e2] at q
    exact q
  rename_i h
  have h2 : ¬ decide (m < 0) = decide (n < 0) := of_decide_eq_false h
  repeat trivial
  refine y_call rfl rfl ⟨_, _, rfl, rl_small hm, rl_small hn, ?_⟩
  repeat trivial
  · rename_i h3
    have h4 : n.natAbs ≤ m.natAbs := by
      have := of_decide_eq_true h3
      unfold cmpN at this
      split at this
      · exact absurd this (by decide)
      · omega
    refine y_call rfl rfl ⟨_, _, rfl, h4, rl_small hm, ?_⟩
    repeat trivial
    refine ⟨by show 2 ≤ sizeLine; decide, ?_⟩
    have e : m.natAbs - n.natAbs = (m + n).natAbs := by
      by_cases a : m < 0 <;> by_cases b : n < 0 <;> simp [a, b] at h2 <;> omega
    rw [e]
    have e2 : addB m n = decide (m < 0) := by unfold addB; rw [if_neg h2, if_pos h4]
    rw [e2] at q
    exact q
  · rename_i h3
    have h4 : ¬ n.natAbs ≤ m.natAbs := by
      have := of_decide_eq_false h3
      unfold cmpN at this
      split at this
      · omega
      · exact absurd (by split <;> decide) this
    repeat trivial
    refine y_call rfl rfl ⟨_, _, rfl, by omega, rl_small hn, ?_⟩
    repeat trivial
    refine ⟨by show 2 ≤ sizeLine; decide, ?_⟩
    have e : n.natAbs - m.natAbs = (m + n).natAbs := by
      by_cases a : m < 0 <;> by_cases b : n < 0 <;> simp [a, b] at h2 <;> omega
    rw [e]
    have e2 : addB m n = decide (n < 0) := by unfold addB; rw [if_neg h2, if_neg h4]
    rw [e2] at q
    exact q
end T
namespace T
open PySem PySem.Spec PyProof.Rows VL
theorem ps_ints : ∀ ns : List Int, D.ps (ns.map D.int) = ns.map PyData.int
  | [] => rfl
  | n :: ns => by simp [D.ps, D.p, ps_ints ns]
theorem pls_ints : ∀ ns : List Int, D.pls (ns.map D.int) = true
  | [] => rfl
  | n :: ns => by simp [D.pls, D.pl, pls_ints ns]
theorem lay_ints : ∀ ns : List Int, PyData.canLayAll0 (ns.map PyData.int) = true
  | [] => rfl
  | n :: ns => by simp [PyData.canLayAll0, PyData.canLay0, lay_ints ns]
theorem dep_ints : ∀ ns : List Int, PyData.depthAll (ns.map PyData.int) ≤ 1
  | [] => by simp [PyData.depthAll]
  | n :: ns => by
    have := dep_ints ns
    simp only [List.map_cons, PyData.depthAll, PyData.depth]
    omega
theorem eqv_ints : ∀ ns ms : List Int, PyData.eqvAll (ns.map PyData.int) (ms.map PyData.int) = decide (ns = ms)
  | [], [] => rfl
  | [], _ :: _ => rfl
  | _ :: _, [] => rfl
  | n :: ns, m :: ms => by
    simp only [List.map_cons, PyData.eqvAll, PyData.eqv, eqv_ints ns ms]
    by_cases h : n = m <;> by_cases h2 : ns = ms <;> simp [h, h2]
theorem z_eqL {ns ms : List Int} {Rb : Bool → Prop} (q : Rb (decide (ns = ms))) : cop .eq (.lst (ns.map D.int)) (.lst (ms.map D.int)) Rb := by
  have sh : ∀ ns : List Int, SeqAt.shaped (D.p (.lst (ns.map D.int))) = true := fun ns => by
    unfold SeqAt.shaped
    simp only [D.p, ps_ints, PyData.canLay0, lay_ints, Bool.true_and, decide_eq_true_eq, PyData.depth]
    have := dep_ints ns
    omega
  refine ⟨by simp [D.pl, pls_ints], by simp [D.pl, pls_ints], sh ns, sh ms, ?_⟩
  show Rb (PyData.eqv (.list (D.ps (ns.map D.int))) (.list (D.ps (ms.map D.int))))
  rw [ps_ints, ps_ints]
  show Rb (PyData.eqvAll _ _)
  rw [eqv_ints]
  exact q
local macro_rules | `(tactic| trivial) => `(tactic| first
  | ((with_reducible apply x_digit); (focus rfl); (focus rfl))
  | with_reducible refine x_int ?_ | with_reducible refine x_bl ?_ | with_reducible refine x_non ?_ | with_reducible refine x_str ?_ | with_reducible refine x_glo ?_ | with_reducible refine x_bin ?_ | with_reducible refine x_neg ?_ | with_reducible refine x_not ?_ | with_reducible refine x_cmp ?_ | with_reducible refine x_chain ?_ | with_reducible refine x_and ?_ | with_reducible refine x_or ?_ | with_reducible refine x_ite ?_ | with_reducible refine x_tup ?_ | with_reducible refine x_lst ?_ | with_reducible refine x_ix ?_ | with_reducible refine x_sq ?_ | with_reducible refine x_bi ?_ | with_reducible refine x_isi ?_ | with_reducible refine x_call ?_ | with_reducible refine x_sl ?_ | with_reducible refine x_ext ?_
  | with_reducible refine x_anil ?_ | with_reducible refine x_acons ?_ | with_reducible refine x_slst ?_ | with_reducible refine x_stup ?_ | with_reducible refine x_ono ?_ | with_reducible refine x_osome ?_ | with_reducible refine x_seq ?_ | with_reducible refine x_asg ?_ | with_reducible refine x_own ?_ | with_reducible refine x_ret ?_ | with_reducible refine x_if ?_ | with_reducible refine x_for ?_ | with_reducible refine x_exp ?_ | with_reducible refine x_unp ?_ | with_reducible refine x_par ?_ | with_reducible refine x_parN ?_ | with_reducible refine x_jrng1 ?_ | with_reducible refine x_jrngd ?_ | with_reducible refine x_irng1 ?_ | with_reducible refine x_irngd ?_ | with_reducible refine x_jit ?_ | with_reducible refine x_iit ?_ | with_reducible refine x_nil ?_
  | ((with_reducible apply x_var); · rfl) | ((with_reducible apply x_vvar); · rfl) | ((with_reducible apply x_vown); · rfl) | ((with_reducible apply x_v); · rfl) | ((with_reducible apply x_qlst); · rfl) | ((with_reducible apply x_qtup); · rfl) | ((with_reducible apply x_qown); · rfl) | ((with_reducible apply x_q); · rfl) | ((with_reducible apply x_aug1); · rfl) | ((with_reducible apply x_app1); · rfl)
  | with_reducible refine z_len ?_ | with_reducible refine z_add ?_ | with_reducible refine z_sub ?_ | with_reducible refine z_lt ?_ | with_reducible refine z_le ?_ | with_reducible refine z_gt ?_ | with_reducible refine z_ge ?_ | with_reducible refine z_eq ?_ | with_reducible refine z_ne ?_ | with_reducible refine z_eqB ?_ | with_reducible refine z_neB ?_ | with_reducible refine z_eqS ?_ | with_reducible refine y_int ?_
  | with_reducible refine z_abs ?_ | with_reducible refine z_eqL ?_
  | with_reducible refine y_bl (fun hk => ?_) (fun hk => ?_) | with_reducible refine y_tbl (fun hk => ?_) (fun hk => ?_)
  | ((with_reducible apply y_asg); · decide))
theorem rowN_inj : ∀ {x y : Nat}, rowN x = rowN y → x = y := by
  intro x
  induction x using Nat.strongRecOn with
  | ind x ih =>
    intro y h
    rcases Nat.eq_zero_or_pos x with hx | hx
    · subst hx
      rcases Nat.eq_zero_or_pos y with hy | hy
      · exact hy.symm
      · rw [rowN_zero] at h
        exact absurd h.symm (rowN_ne y hy)
    · rcases Nat.eq_zero_or_pos y with hy | hy
      · subst hy
        rw [rowN_zero] at h
        exact absurd h (rowN_ne x hx)
      · rw [rowN_step hx, rowN_step hy] at h
        simp only [List.cons.injEq] at h
        have := ih (x / 10000) (Nat.div_lt_self hx (by decide)) h.2
        have := h.1
        omega
theorem rl_zero {n : Nat} : rl n = 0 ↔ n = 0 := by
  constructor
  · intro h
    rcases Nat.eq_zero_or_pos n with q | q
    · exact q
    · rw [rl_step q] at h
      cases h
  · rintro rfl
    simp [rl, rowN_zero]
theorem addB_sign {m n : Int} (h : m + n ≠ 0) : addB m n = decide (m + n < 0) := by
  unfold addB
  by_cases a : m < 0 <;> by_cases b : n < 0
  · rw [if_pos (by simp [a, b])]
    exact decide_eq_decide.mpr (by omega)
  · rw [if_neg (by simp [a, b])]
    split
    · exact decide_eq_decide.mpr (by omega)
    · exact decide_eq_decide.mpr (by omega)
  · rw [if_neg (by simp [a, b])]
    split
    · exact decide_eq_decide.mpr (by omega)
    · exact decide_eq_decide.mpr (by omega)
  · rw [if_pos (by simp [a, b])]
    exact decide_eq_decide.mpr (by omega)
def wf_is_sum : WF G := fun ds g Q => ∃ m n c : Int, ds = [.int m, .int n, .int c] ∧ smI m ∧ smI n ∧ smI c ∧ Q (.bl (decide (m + n = c))) 2 g
theorem sp_is_sum : ∀ (ds : List D) (g : G) (Pq : Pd G), ds.length = 3 → wf_is_sum ds g Pq → VL.wS [(1, wf_row_of), (2, wf_added)] cs_is_sum (endP Pq) (env0 ck_is_sum.N.length ds) g := by
  rintro ds g Q _ ⟨m, n, c, rfl, hm, hn, hc, q⟩
  show VL.wS _ (.seq _ _) _ [.dat (.int m) 1, .dat (.int n) 1, .dat (.int c) 1, .no, .no] _
  repeat trivial
  refine y_call rfl rfl ⟨_, _, rfl, hm, hn, ?_⟩
  refine y_unp (l := 2) rfl (by decide) (noOwn_of fun i hi s e => ?_) ?_
  · rcases List.mem_cons.mp hi with z | hi
    · subst z; cases e; trivial
    · rcases List.mem_cons.mp hi with z | hi
      · subst z; cases e; trivial
      · cases hi
  show VL.wS _ _ _ [.dat (.int m) 1, .dat (.int n) 1, .dat (.int c) 1, .dat (rowD (m + n).natAbs) 2, .dat (.bl (addB m n)) 2] _
  repeat trivial
  refine y_call rfl rfl ⟨_, rfl, hc, ?_⟩
  repeat trivial
  · rename_i h1 h2
    have e1 := rowN_inj (of_decide_eq_true h1)
    have e2 : rl (m + n).natAbs = 0 := by
      have := of_decide_eq_true h2
      rw [List.length_map] at this
      exact Int.natCast_eq_zero.mp this
    have e3 := rl_zero.mp e2
    rw [decide_eq_true (show m + n = c by omega)] at q
    exact q
  · rename_i h1 h2
    have e1 := rowN_inj (of_decide_eq_true h1)
    have e3 : (m + n).natAbs ≠ 0 := fun z => of_decide_eq_false h2 (by
      rw [List.length_map]
      exact Int.natCast_eq_zero.mpr (rl_zero.mpr z))
    repeat trivial
    show Q (.bl (decide (addB m n = decide (c < 0)))) 2 g
    have e4 : decide (addB m n = decide (c < 0)) = decide (m + n = c) := by
      rw [addB_sign (by omega)]
      refine decide_eq_decide.mpr ?_
      rw [decide_eq_decide]
      omega
    rw [e4]
    exact q
  · rename_i h1
    have e1 : (m + n).natAbs ≠ c.natAbs := fun z => of_decide_eq_false h1 (by rw [z])
    rw [decide_eq_false (show ¬ m + n = c by omega)] at q
    exact q
end T
namespace T
open PySem PySem.Spec PyProof.Rows VL
local macro_rules | `(tactic| trivial) => `(tactic| first
  | ((with_reducible apply x_digit); (focus rfl); (focus rfl))
  | with_reducible refine x_int ?_ | with_reducible refine x_bl ?_ | with_reducible refine x_non ?_ | with_reducible refine x_str ?_ | with_reducible refine x_glo ?_ | with_reducible refine x_bin ?_ | with_reducible refine x_neg ?_ | with_reducible refine x_not ?_ | with_reducible refine x_cmp ?_ | with_reducible refine x_chain ?_ | with_reducible refine x_and ?_ | with_reducible refine x_or ?_ | with_reducible refine x_ite ?_ | with_reducible refine x_tup ?_ | with_reducible refine x_lst ?_ | with_reducible refine x_ix ?_ | with_reducible refine x_sq ?_ | with_reducible refine x_bi ?_ | with_reducible refine x_isi ?_ | with_reducible refine x_call ?_ | with_reducible refine x_sl ?_ | with_reducible refine x_ext ?_
  | with_reducible refine x_anil ?_ | with_reducible refine x_acons ?_ | with_reducible refine x_slst ?_ | with_reducible refine x_stup ?_ | with_reducible refine x_ono ?_ | with_reducible refine x_osome ?_ | with_reducible refine x_seq ?_ | with_reducible refine x_asg ?_ | with_reducible refine x_own ?_ | with_reducible refine x_ret ?_ | with_reducible refine x_if ?_ | with_reducible refine x_for ?_ | with_reducible refine x_exp ?_ | with_reducible refine x_unp ?_ | with_reducible refine x_par ?_ | with_reducible refine x_parN ?_ | with_reducible refine x_jrng1 ?_ | with_reducible refine x_jrngd ?_ | with_reducible refine x_irng1 ?_ | with_reducible refine x_irngd ?_ | with_reducible refine x_jit ?_ | with_reducible refine x_iit ?_ | with_reducible refine x_nil ?_
  | ((with_reducible apply x_var); · rfl) | ((with_reducible apply x_vvar); · rfl) | ((with_reducible apply x_vown); · rfl) | ((with_reducible apply x_v); · rfl) | ((with_reducible apply x_qlst); · rfl) | ((with_reducible apply x_qtup); · rfl) | ((with_reducible apply x_qown); · rfl) | ((with_reducible apply x_q); · rfl) | ((with_reducible apply x_aug1); · rfl) | ((with_reducible apply x_app1); · rfl)
  | with_reducible refine z_len ?_ | with_reducible refine z_add ?_ | with_reducible refine z_sub ?_ | with_reducible refine z_lt ?_ | with_reducible refine z_le ?_ | with_reducible refine z_gt ?_ | with_reducible refine z_ge ?_ | with_reducible refine z_eq ?_ | with_reducible refine z_ne ?_ | with_reducible refine z_eqB ?_ | with_reducible refine z_neB ?_ | with_reducible refine z_eqS ?_ | with_reducible refine y_int ?_
  | with_reducible refine z_abs ?_ | with_reducible refine z_eqL ?_
  | with_reducible refine y_bl (fun hk => ?_) (fun hk => ?_) | with_reducible refine y_tbl (fun hk => ?_) (fun hk => ?_)
  | ((with_reducible apply y_asg); · decide))
theorem x_rev {fs : List (Nat × WF G)} {es : VL.Env} {g : G} {Q : Pd G} {a : CE} (h : VL.wQ a (VL.wE fs a) es g fun t ds l g1 => t = false ∧ Q (.lst ds.reverse) l g1) : VL.wE fs (.rev a) es g Q := h
theorem log2_le {n k : Nat} (h : n < 2 ^ k) : n.log2 ≤ k := by
  rcases Nat.eq_zero_or_pos n with z | z
  · subst z
    exact Nat.zero_le _
  · exact Nat.le_of_lt ((Nat.log2_lt (by omega)).mpr h)
theorem mulW {i j : Int} {k l : Nat} (h1 : i.natAbs < 2 ^ k) (h2 : j.natAbs < 2 ^ l) (h : k + l < 1000000) : L2.CMulW i j := by
  have a := log2_le h1
  have b := log2_le h2
  unfold L2.CMulW
  omega
def restN (a p : Nat) (b : Bool) : Nat := if b = true then (p - a % p) % p else a % p
def wf_rest_of : WF G := fun ds g Q => ∃ (a p : Nat) (b : Bool), ds = [rowD a, .bl b, .int (p : Nat)] ∧ 0 < p ∧ p < 1000000000 ∧ Q (.int (restN a p b : Nat)) 2 g
theorem sp_rest_of : ∀ (ds : List D) (g : G) (Pq : Pd G), ds.length = 3 → wf_rest_of ds g Pq → VL.wS [] cs_rest_of (endP Pq) (env0 ck_rest_of.N.length ds) g := by
  rintro ds g Q _ ⟨a, p, b, rfl, p0, p1, q⟩
  have la : ((rowN a).map D.int).length = rl a := by rw [List.length_map]; rfl
  show VL.wS _ (.seq _ _) _ [.dat (rowD a) 1, .dat (.bl b) 1, .dat (.int (p : Nat)) 1, .no, .no] _
  repeat trivial
  refine x_rev ?_
  repeat trivial
  refine ⟨rfl, y_for (l := 1) (by decide) ?_⟩
  refine x_foL (fun i es g' => ∃ s4, es = [.dat (rowD a) 1, .dat (.bl b) 1, .dat (.int (p : Nat)) 1, .dat (.int ((a / 10000 ^ (rl a - i) % p : Nat) : Int)) 2, s4] ∧ NO s4 ∧ g' = g)
    ⟨.no, ?_, trivial, rfl⟩ ?_ ?_
  · rw [Nat.sub_zero, Nat.div_eq_of_lt (rl_lt a), Nat.zero_mod]
    rfl
  · rintro i d es g' K hd hK ⟨s4, rfl, n4, rfl⟩
    have hi : i < rl a := by
      have := (List.getElem?_eq_some_iff.mp hd).1
      rw [List.length_reverse, la] at this
      exact this
    obtain ⟨k, ek⟩ : ∃ k, rl a = i + (k + 1) := ⟨rl a - i - 1, by omega⟩
    have hd2 : d = .int ((a / 10000 ^ k % 10000 : Nat) : Int) := by
      rw [List.getElem?_reverse (by rw [la]; exact hi), la, show rl a - 1 - i = k by omega, List.getElem?_map] at hd
      have hk : k < (rowN a).length := by show k < rl a; omega
      rw [List.getElem?_eq_getElem hk] at hd
      have := rowN_getD (n := a) (i := k) (by omega)
      rw [List.getD_eq_getElem?_getD, List.getElem?_eq_getElem hk] at this
      simp only [Option.map_some, Option.some.injEq, Option.getD_some] at hd this
      rw [← hd, this]
    subst hd2
    refine bind_name (noOwn_of fun x hx s e => ?_) ?_
    · rcases List.mem_cons.mp hx with z | hx
      · subst z; cases e; exact n4
      · cases hx
    rw [show rl a - i = k + 1 by omega]
    show VL.wS _ _ _ [.dat (rowD a) 1, .dat (.bl b) 1, .dat (.int (p : Nat)) 1, .dat _ 2, .dat _ 1] _
    repeat trivial
    refine z_mul (mulW (k := 30) (l := 14) ?_ (by decide) (by decide)) ?_
    · have := Nat.mod_lt (a / 10000 ^ (k + 1)) p0
      show (a / 10000 ^ (k + 1) % p) < 2 ^ 30
      omega
    repeat trivial
    refine z_mod (by omega) ?_
    repeat trivial
    refine hK _ _ ⟨.dat (.int ((a / 10000 ^ k % 10000 : Nat) : Int)) 1, ?_, trivial, rfl⟩
    have e : (((a / 10000 ^ (k + 1) % p : Nat) : Int) * 10000 + ((a / 10000 ^ k % 10000 : Nat) : Int)).fmod (p : Int) = ((a / 10000 ^ (rl a - (i + 1)) % p : Nat) : Int) := by
      rw [show rl a - (i + 1) = k by omega]
      have f := fmodN (a / 10000 ^ (k + 1) % p * 10000 + a / 10000 ^ k % 10000) p
      rw [show ((a / 10000 ^ (k + 1) % p * 10000 + a / 10000 ^ k % 10000 : Nat) : Int) = ((a / 10000 ^ (k + 1) % p : Nat) : Int) * 10000 + ((a / 10000 ^ k % 10000 : Nat) : Int) by rw [Int.natCast_add, Int.natCast_mul]; rfl] at f
      rw [f]
      congr 1
      have t := top_digit (a := a) (k := k)
      rw [Nat.add_mod, Nat.mul_mod, Nat.mod_mod, ← Nat.mul_mod, ← Nat.add_mod, Nat.mul_comm, ← t]
    rw [e]
    rfl
  · rintro es g' ⟨s4, rfl, n4, rfl⟩
    rw [List.length_reverse, la, Nat.sub_self, Nat.pow_zero, Nat.div_one]
    repeat trivial
    · rename_i h
      refine z_mod (by omega) ?_
      have := Nat.mod_lt a p0
      have f := fmodN (p - a % p) p
      rw [show ((p - a % p : Nat) : Int) = (p : Int) - ((a % p : Nat) : Int) by omega] at f
      show Q (.int (((p : Int) - ((a % p : Nat) : Int)).fmod (p : Int))) 2 g'
      rw [f]
      unfold restN at q
      rw [if_pos h] at q
      exact q
    · rename_i h
      unfold restN at q
      rw [if_neg (by rw [h]; decide)] at q
      repeat trivial
end T
namespace T
open PySem PySem.Spec PyProof.Rows VL
local macro_rules | `(tactic| trivial) => `(tactic| first
  | ((with_reducible apply x_digit); (focus rfl); (focus rfl))
  | with_reducible refine x_int ?_ | with_reducible refine x_bl ?_ | with_reducible refine x_non ?_ | with_reducible refine x_str ?_ | with_reducible refine x_glo ?_ | with_reducible refine x_bin ?_ | with_reducible refine x_neg ?_ | with_reducible refine x_not ?_ | with_reducible refine x_cmp ?_ | with_reducible refine x_chain ?_ | with_reducible refine x_and ?_ | with_reducible refine x_or ?_ | with_reducible refine x_ite ?_ | with_reducible refine x_tup ?_ | with_reducible refine x_lst ?_ | with_reducible refine x_ix ?_ | with_reducible refine x_sq ?_ | with_reducible refine x_bi ?_ | with_reducible refine x_isi ?_ | with_reducible refine x_call ?_ | with_reducible refine x_sl ?_ | with_reducible refine x_ext ?_
  | with_reducible refine x_anil ?_ | with_reducible refine x_acons ?_ | with_reducible refine x_slst ?_ | with_reducible refine x_stup ?_ | with_reducible refine x_ono ?_ | with_reducible refine x_osome ?_ | with_reducible refine x_seq ?_ | with_reducible refine x_asg ?_ | with_reducible refine x_own ?_ | with_reducible refine x_ret ?_ | with_reducible refine x_if ?_ | with_reducible refine x_for ?_ | with_reducible refine x_exp ?_ | with_reducible refine x_unp ?_ | with_reducible refine x_par ?_ | with_reducible refine x_parN ?_ | with_reducible refine x_jrng1 ?_ | with_reducible refine x_jrngd ?_ | with_reducible refine x_irng1 ?_ | with_reducible refine x_irngd ?_ | with_reducible refine x_jit ?_ | with_reducible refine x_iit ?_ | with_reducible refine x_nil ?_
  | ((with_reducible apply x_var); · rfl) | ((with_reducible apply x_vvar); · rfl) | ((with_reducible apply x_vown); · rfl) | ((with_reducible apply x_v); · rfl) | ((with_reducible apply x_qlst); · rfl) | ((with_reducible apply x_qtup); · rfl) | ((with_reducible apply x_qown); · rfl) | ((with_reducible apply x_q); · rfl) | ((with_reducible apply x_aug1); · rfl) | ((with_reducible apply x_app1); · rfl)
  | with_reducible refine z_len ?_ | with_reducible refine z_add ?_ | with_reducible refine z_sub ?_ | with_reducible refine z_lt ?_ | with_reducible refine z_le ?_ | with_reducible refine z_gt ?_ | with_reducible refine z_ge ?_ | with_reducible refine z_eq ?_ | with_reducible refine z_ne ?_ | with_reducible refine z_eqB ?_ | with_reducible refine z_neB ?_ | with_reducible refine z_eqS ?_ | with_reducible refine y_int ?_
  | with_reducible refine z_abs ?_ | with_reducible refine z_eqL ?_
  | with_reducible refine y_bl (fun hk => ?_) (fun hk => ?_) | with_reducible refine y_tbl (fun hk => ?_) (fun hk => ?_)
  | ((with_reducible apply y_asg); · decide))
/-- no number from 2 on, of a square that is no more, divides it -/
def Trial (n : Nat) : Prop := 2 ≤ n ∧ n < 1000000 ∧ ∀ d, 2 ≤ d → d * d ≤ n → n % d ≠ 0
def wf_by_trial : WF G := fun ds g Q => ∃ (z : Int) (b : Bool), ds = [.int z] ∧ (b = true ↔ 0 ≤ z ∧ Trial z.toNat) ∧ Q (.bl b) 2 g
theorem sp_by_trial : ∀ (ds : List D) (g : G) (Pq : Pd G), ds.length = 1 → wf_by_trial ds g Pq → VL.wS [] cs_by_trial (endP Pq) (env0 ck_by_trial.N.length ds) g := by
  rintro ds g Q _ ⟨z, b, rfl, hb, q⟩
  show VL.wS _ (.seq _ _) _ [.dat (.int z) 1, .no] _
  repeat trivial
  have out : ¬ (2 ≤ z ∧ z < 1000000) → Q (.bl false) 2 g := fun h => by
    have e : b = false := by
      cases b with
      | false => rfl
      | true =>
        have := (hb.mp rfl).2
        unfold Trial at this
        omega
    rw [e] at q
    exact q
  refine ite_of (fun h => ?_) (fun h => ?_)
  · have h2 := of_decide_eq_true h
    repeat trivial
    refine ⟨_, rfl, y_tbl (fun h3 => ?_) (fun h3 => ?_)⟩
    · repeat trivial
      refine out fun y => ?_
      simp at h3
      omega
    have h4 : z < 1000000 := by simpa using h3
    repeat trivial
    obtain ⟨n, rfl⟩ : ∃ n : Nat, z = n := ⟨z.toNat, by omega⟩
    have hN : n < 1000000 := by omega
    clear h4 h3 out
    refine x_while (fun m es g' => ∃ d, es = [.dat (.int (n : Nat)) 1, .dat (.int (d : Nat)) 2] ∧ g' = g ∧ 2 ≤ d ∧ d ≤ n + 1 ∧ n + 1 - d ≤ m ∧ ∀ e, 2 ≤ e → e < d → n % e ≠ 0) (n + 1) ?_ ?_
    · refine ⟨2, ?_, rfl, Nat.le_refl _, ?_, ?_, fun e h5 h6 => absurd h6 (Nat.not_lt.mpr h5)⟩
      · rfl
      · omega
      · omega
    intro m es g' K hK hI
    obtain ⟨d, he, hg, d2, dn, hm, hd⟩ := hI
    subst he
    subst hg
    refine x_cmp (x_bin (x_vvar rfl (x_vvar rfl (z_mul (mulW (k := 30) (l := 30) ?_ ?_ (by decide)) ?_))))
    · show d < 2 ^ 30
      omega
    · show d < 2 ^ 30
      omega
    have cast : ((d : Nat) : Int) * (d : Nat) = ((d * d : Nat) : Int) := by rw [Int.natCast_mul]
    rw [cast]
    repeat trivial
    · rename_i h5
      have h6 : d * d ≤ n := Int.ofNat_le.mp (of_decide_eq_true h5)
      refine z_mod (by omega) ?_
      rw [fmodN]
      repeat trivial
      · rename_i h7
        have h8 : n % d = 0 := Int.natCast_eq_zero.mp (of_decide_eq_true h7)
        have e : b = false := by
          cases b with
          | false => rfl
          | true => exact absurd h8 ((hb.mp rfl).2.2.2 d d2 h6)
        rw [e] at q
        exact q
      · rename_i h7
        have h8 : n % d ≠ 0 := fun y => of_decide_eq_false h7 (Int.natCast_eq_zero.mpr y)
        repeat trivial
        have lt : d < n + 1 := by
          have := Nat.le_mul_self d
          omega
        refine hK (m - 1) _ _ (by omega) ⟨d + 1, rfl, rfl, by omega, by omega, by omega, fun e h9 h10 => ?_⟩
        rcases Nat.lt_or_ge e d with y | y
        · exact hd e h9 y
        · have : e = d := by omega
          rw [this]
          exact h8
    · rename_i h5
      have h6 : n < d * d := by
        have := of_decide_eq_false h5
        omega
      repeat trivial
      have e : b = true := hb.mpr ⟨by omega, by show 2 ≤ n; omega, by show n < 1000000; omega, fun e h9 h10 => hd e h9 (by
        rcases Nat.lt_or_ge e d with y | y
        · exact y
        · have := Nat.mul_le_mul y y
          have h11 : e * e ≤ n := h10
          omega)⟩
      rw [e] at q
      exact q
  · have h2 := of_decide_eq_false h
    refine ⟨_, rfl, y_tbl (fun _ => ?_) (fun z => nomatch z)⟩
    repeat trivial
    exact out (fun y => h2 y.1)
end T
namespace T
open PySem PySem.Spec PyProof.Rows VL
/-- what is carried behind i digits of a product by s -/
def tcar (a s i : Nat) : Nat := a % 10000 ^ i * s / 10000 ^ i
theorem tcar_quo (a s i : Nat) : a * s / 10000 ^ i = a / 10000 ^ i * s + tcar a s i := by
  unfold tcar
  have p : 0 < 10000 ^ i := Nat.pow_pos (by decide)
  have ea := Nat.div_add_mod a (10000 ^ i)
  generalize a / 10000 ^ i = x at *
  generalize a % 10000 ^ i = u at *
  generalize 10000 ^ i = P at *
  subst ea
  rw [Nat.add_mul, Nat.mul_assoc, Nat.mul_add_div p]
theorem tcar_digit (a s i : Nat) : a * s / 10000 ^ i % 10000 = (a / 10000 ^ i % 10000 * s + tcar a s i) % 10000 := by
  rw [tcar_quo]
  generalize a / 10000 ^ i = x
  have e : x * s % 10000 = x % 10000 * s % 10000 := by rw [Nat.mul_mod x s, Nat.mul_mod (x % 10000) s, Nat.mod_mod]
  omega
theorem tcar_step (a s i : Nat) : tcar a s (i + 1) = (a / 10000 ^ i % 10000 * s + tcar a s i) / 10000 := by
  unfold tcar
  have p : 0 < 10000 ^ i := Nat.pow_pos (by decide)
  rw [Nat.mod_pow_succ, Nat.pow_succ, ← Nat.div_div_eq_div_mul]
  congr 1
  rw [Nat.add_mul, Nat.mul_assoc, Nat.add_comm, Nat.mul_add_div p]
local macro_rules | `(tactic| trivial) => `(tactic| first
  | ((with_reducible apply x_digit); (focus rfl); (focus rfl))
  | with_reducible refine x_int ?_ | with_reducible refine x_bl ?_ | with_reducible refine x_non ?_ | with_reducible refine x_str ?_ | with_reducible refine x_glo ?_ | with_reducible refine x_bin ?_ | with_reducible refine x_neg ?_ | with_reducible refine x_not ?_ | with_reducible refine x_cmp ?_ | with_reducible refine x_chain ?_ | with_reducible refine x_and ?_ | with_reducible refine x_or ?_ | with_reducible refine x_ite ?_ | with_reducible refine x_tup ?_ | with_reducible refine x_lst ?_ | with_reducible refine x_ix ?_ | with_reducible refine x_sq ?_ | with_reducible refine x_bi ?_ | with_reducible refine x_isi ?_ | with_reducible refine x_call ?_ | with_reducible refine x_sl ?_ | with_reducible refine x_ext ?_
  | with_reducible refine x_anil ?_ | with_reducible refine x_acons ?_ | with_reducible refine x_slst ?_ | with_reducible refine x_stup ?_ | with_reducible refine x_ono ?_ | with_reducible refine x_osome ?_ | with_reducible refine x_seq ?_ | with_reducible refine x_asg ?_ | with_reducible refine x_own ?_ | with_reducible refine x_ret ?_ | with_reducible refine x_if ?_ | with_reducible refine x_for ?_ | with_reducible refine x_exp ?_ | with_reducible refine x_unp ?_ | with_reducible refine x_par ?_ | with_reducible refine x_parN ?_ | with_reducible refine x_jrng1 ?_ | with_reducible refine x_jrngd ?_ | with_reducible refine x_irng1 ?_ | with_reducible refine x_irngd ?_ | with_reducible refine x_jit ?_ | with_reducible refine x_iit ?_ | with_reducible refine x_nil ?_
  | ((with_reducible apply x_var); · rfl) | ((with_reducible apply x_vvar); · rfl) | ((with_reducible apply x_vown); · rfl) | ((with_reducible apply x_v); · rfl) | ((with_reducible apply x_qlst); · rfl) | ((with_reducible apply x_qtup); · rfl) | ((with_reducible apply x_qown); · rfl) | ((with_reducible apply x_q); · rfl) | ((with_reducible apply x_aug1); · rfl) | ((with_reducible apply x_app1); · rfl)
  | with_reducible refine z_len ?_ | with_reducible refine z_add ?_ | with_reducible refine z_sub ?_ | with_reducible refine z_lt ?_ | with_reducible refine z_le ?_ | with_reducible refine z_gt ?_ | with_reducible refine z_ge ?_ | with_reducible refine z_eq ?_ | with_reducible refine z_ne ?_ | with_reducible refine z_eqB ?_ | with_reducible refine z_neB ?_ | with_reducible refine z_eqS ?_ | with_reducible refine y_int ?_
  | with_reducible refine z_abs ?_ | with_reducible refine z_eqL ?_
  | with_reducible refine y_bl (fun hk => ?_) (fun hk => ?_) | with_reducible refine y_tbl (fun hk => ?_) (fun hk => ?_)
  | ((with_reducible apply y_asg); · decide))
def wf_times_of : WF G := fun ds g Q => ∃ a s : Nat, ds = [rowD a, .int (s : Nat)] ∧ 0 < s ∧ s < 1000000000 ∧ rl (a * s) < 1000000 ∧ Q (rowD (a * s)) 2 g
theorem sp_times_of : ∀ (ds : List D) (g : G) (Pq : Pd G), ds.length = 2 → wf_times_of ds g Pq → VL.wS [] cs_times_of (endP Pq) (env0 ck_times_of.N.length ds) g := by
  rintro ds g Q _ ⟨a, s, rfl, s0, s1, hl, q⟩
  have la : ((rowN a).map D.int).length = rl a := by rw [List.length_map]; rfl
  have al : a ≤ a * s := Nat.le_mul_of_pos_right a s0
  have hl2 := rl_le_of al
  show VL.wS _ (.seq _ _) _ [.dat (rowD a) 1, .dat (.int (s : Nat)) 1, .no, .no, .no, .no] _
  repeat trivial
  refine ⟨[], 2, 2, rfl, by simp, by decide, .inl (by decide), ⟨by decide, .inl (by decide)⟩, ?_⟩
  show VL.wS _ _ _ [.dat (rowD a) 1, .dat (.int (s : Nat)) 1, .own [] 2, .dat (.int 0) 2, .no, .no] _
  repeat trivial
  refine y_for (l := 1) (by decide) ?_
  refine x_foL (fun i es g' => ∃ s4 s5, es = [.dat (rowD a) 1, .dat (.int (s : Nat)) 1, .own ((dg i (a * s)).map D.int) 2, .dat (.int (tcar a s i : Nat)) 2, s4, s5] ∧ NO s4 ∧ g' = g)
    ⟨.no, .no, by simp [dg, tcar, Nat.mod_one], trivial, rfl⟩ ?_ ?_
  · rintro i d es g' K hd hK ⟨s4, s5, rfl, n4, rfl⟩
    have hi : i < rl a := by
      have := (List.getElem?_eq_some_iff.mp hd).1
      rw [la] at this
      exact this
    have hd2 : d = .int ((a / 10000 ^ i % 10000 : Nat) : Int) := by
      have hk : i < (rowN a).length := hi
      rw [List.getElem?_map, List.getElem?_eq_getElem hk] at hd
      have := rowN_getD (n := a) (i := i) hi
      rw [List.getD_eq_getElem?_getD, List.getElem?_eq_getElem hk] at this
      simp only [Option.map_some, Option.some.injEq, Option.getD_some] at hd this
      rw [← hd, this]
    subst hd2
    refine bind_name (noOwn_of fun x hx s e => ?_) ?_
    · rcases List.mem_cons.mp hx with z | hx
      · subst z; cases e; exact n4
      · cases hx
    show VL.wS _ _ _ [.dat (rowD a) 1, .dat (.int (s : Nat)) 1, .own _ 2, .dat _ 2, .dat _ 1, s5] _
    refine x_seq (x_asg (x_bin (x_v rfl (x_bin (x_vvar rfl (x_vvar rfl (z_mul (mulW (k := 14) (l := 30) ?_ ?_ (by decide)) (x_vvar rfl (z_add (y_asg (by decide) ?_)))))))))) 
    · show a / 10000 ^ i % 10000 < 2 ^ 14
      omega
    · show s < 2 ^ 30
      omega
    have cast : ((a / 10000 ^ i % 10000 : Nat) : Int) * (s : Nat) + (tcar a s i : Nat) = ((a / 10000 ^ i % 10000 * s + tcar a s i : Nat) : Int) := by rw [Int.natCast_add, Int.natCast_mul]
    rw [cast]
    show VL.wS _ _ _ [.dat (rowD a) 1, .dat (.int (s : Nat)) 1, .own _ 2, .dat _ 2, .dat _ 1, .dat _ 2] _
    repeat trivial
    refine z_mod (by decide) ⟨by rw [List.length_map, dg_len, sizeLine_eq]; omega, .inr rfl, ?_⟩
    show VL.wS _ _ _ [.dat (rowD a) 1, .dat (.int (s : Nat)) 1, .own _ 2, .dat _ 2, .dat _ 1, .dat _ 2] _
    repeat trivial
    refine hK _ _ ⟨.dat (.int ((a / 10000 ^ i % 10000 : Nat) : Int)) 1, .dat (.int ((a / 10000 ^ i % 10000 * s + tcar a s i : Nat) : Int)) 2, ?_, trivial, rfl⟩
    have f1 := fmodN (a / 10000 ^ i % 10000 * s + tcar a s i) 10000
    have f2 := fdivN (a / 10000 ^ i % 10000 * s + tcar a s i) 10000
    rw [← tcar_step] at f2
    rw [← tcar_digit] at f1
    show [_, _, Sl.own (_ ++ [D.int (Int.fmod ((a / 10000 ^ i % 10000 * s + tcar a s i : Nat) : Int) ((10000 : Nat) : Int))]) 2, Sl.dat (D.int (Int.fdiv ((a / 10000 ^ i % 10000 * s + tcar a s i : Nat) : Int) ((10000 : Nat) : Int))) 2, _, _] = _
    rw [f1, f2, dg_snoc, List.map_append]
    rfl
  · rintro es g' ⟨s4, s5, rfl, n4, rfl⟩
    rw [la]
    have c0 : tcar a s (rl a) = a * s / 10000 ^ rl a := by
      rw [tcar_quo, Nat.div_eq_of_lt (rl_lt a)]
      omega
    rw [c0]
    have low : rl a = 0 ∨ 10000 ^ (rl a - 1) ≤ a * s := by
      rcases Nat.eq_zero_or_pos a with z | z
      · exact .inl (rl_zero.mpr z)
      · exact .inr (Nat.le_trans (rl_le a z) al)
    refine x_seq ?_
    refine x_while (fun m es g2 => ∃ k, es = [.dat (rowD a) 1, .dat (.int (s : Nat)) 1, .own ((dg k (a * s)).map D.int) 2, .dat (.int ((a * s / 10000 ^ k : Nat) : Int)) 2, s4, s5] ∧ g2 = g' ∧ a * s / 10000 ^ k ≤ m ∧ (k = 0 ∨ 10000 ^ (k - 1) ≤ a * s)) (a * s / 10000 ^ rl a) ⟨rl a, rfl, rfl, Nat.le_refl _, low⟩ ?_
    intro m es g2 K hK hI
    obtain ⟨k, he, hg, hm, hk⟩ := hI
    subst he
    subst hg
    refine x_cmp (x_var rfl (x_int (z_gt (y_tbl (fun h => ?_) (fun h => ?_)))))
    · have h0 : 0 < a * s / 10000 ^ k := Int.natCast_pos.mp (of_decide_eq_true h)
      have h1 : 10000 ^ k ≤ a * s := by
        rcases Nat.lt_or_ge (a * s) (10000 ^ k) with z | z
        · rw [Nat.div_eq_of_lt z] at h0
          cases h0
        · exact z
      have kl : k < 1000000 := by
        rcases Nat.lt_or_ge k (rl (a * s)) with z | z
        · omega
        · have h2 := Nat.lt_of_lt_of_le (rl_lt (a * s)) (Nat.pow_le_pow_right (n := 10000) (by decide) z)
          omega
      repeat trivial
      refine z_mod (by decide) ⟨by rw [List.length_map, dg_len, sizeLine_eq]; omega, .inr rfl, ?_⟩
      show VL.wS _ _ _ [.dat (rowD a) 1, .dat (.int (s : Nat)) 1, .own _ 2, .dat _ 2, s4, s5] _
      repeat trivial
      refine hK (m - 1) _ _ (by omega) ⟨k + 1, ?_, rfl, ?_, .inr h1⟩
      · have f1 := fmodN (a * s / 10000 ^ k) 10000
        have f2 := fdivN (a * s / 10000 ^ k) 10000
        rw [Nat.div_div_eq_div_mul, ← Nat.pow_succ] at f2
        show [_, _, Sl.own (_ ++ [D.int (Int.fmod ((a * s / 10000 ^ k : Nat) : Int) ((10000 : Nat) : Int))]) 2, Sl.dat (D.int (Int.fdiv ((a * s / 10000 ^ k : Nat) : Int) ((10000 : Nat) : Int))) 2, _, _] = _
        rw [f1, f2, dg_snoc, List.map_append]
        rfl
      · rw [Nat.pow_succ, ← Nat.div_div_eq_div_mul]
        have := Nat.div_lt_self h0 (by decide : 1 < 10000)
        omega
    · have h0 : a * s / 10000 ^ k = 0 := Nat.eq_zero_of_not_pos fun z => of_decide_eq_false h (Int.natCast_pos.mpr z)
      have h1 : a * s < 10000 ^ k := by
        rcases Nat.lt_or_ge (a * s) (10000 ^ k) with z | z
        · exact z
        · have := Nat.div_pos z (Nat.pow_pos (by decide))
          omega
      have e : rowN (a * s) = dg k (a * s) := by rw [rowN_dg, rl_eq h1 hk]
      unfold rowD at q
      rw [e] at q
      repeat trivial
end T
namespace T
open PySem PySem.Spec PyProof.Rows VL
local macro_rules | `(tactic| trivial) => `(tactic| first
  | ((with_reducible apply x_digit); (focus rfl); (focus rfl))
  | with_reducible refine x_int ?_ | with_reducible refine x_bl ?_ | with_reducible refine x_non ?_ | with_reducible refine x_str ?_ | with_reducible refine x_glo ?_ | with_reducible refine x_bin ?_ | with_reducible refine x_neg ?_ | with_reducible refine x_not ?_ | with_reducible refine x_cmp ?_ | with_reducible refine x_chain ?_ | with_reducible refine x_and ?_ | with_reducible refine x_or ?_ | with_reducible refine x_ite ?_ | with_reducible refine x_tup ?_ | with_reducible refine x_lst ?_ | with_reducible refine x_ix ?_ | with_reducible refine x_sq ?_ | with_reducible refine x_bi ?_ | with_reducible refine x_isi ?_ | with_reducible refine x_call ?_ | with_reducible refine x_sl ?_ | with_reducible refine x_ext ?_
  | with_reducible refine x_anil ?_ | with_reducible refine x_acons ?_ | with_reducible refine x_slst ?_ | with_reducible refine x_stup ?_ | with_reducible refine x_ono ?_ | with_reducible refine x_osome ?_ | with_reducible refine x_seq ?_ | with_reducible refine x_asg ?_ | with_reducible refine x_own ?_ | with_reducible refine x_ret ?_ | with_reducible refine x_if ?_ | with_reducible refine x_for ?_ | with_reducible refine x_exp ?_ | with_reducible refine x_unp ?_ | with_reducible refine x_par ?_ | with_reducible refine x_parN ?_ | with_reducible refine x_jrng1 ?_ | with_reducible refine x_jrngd ?_ | with_reducible refine x_irng1 ?_ | with_reducible refine x_irngd ?_ | with_reducible refine x_jit ?_ | with_reducible refine x_iit ?_ | with_reducible refine x_nil ?_
  | ((with_reducible apply x_var); · rfl) | ((with_reducible apply x_vvar); · rfl) | ((with_reducible apply x_vown); · rfl) | ((with_reducible apply x_v); · rfl) | ((with_reducible apply x_qlst); · rfl) | ((with_reducible apply x_qtup); · rfl) | ((with_reducible apply x_qown); · rfl) | ((with_reducible apply x_q); · rfl) | ((with_reducible apply x_aug1); · rfl) | ((with_reducible apply x_app1); · rfl)
  | with_reducible refine z_len ?_ | with_reducible refine z_add ?_ | with_reducible refine z_sub ?_ | with_reducible refine z_lt ?_ | with_reducible refine z_le ?_ | with_reducible refine z_gt ?_ | with_reducible refine z_ge ?_ | with_reducible refine z_eq ?_ | with_reducible refine z_ne ?_ | with_reducible refine z_eqB ?_ | with_reducible refine z_neB ?_ | with_reducible refine z_eqS ?_ | with_reducible refine y_int ?_
  | with_reducible refine z_abs ?_ | with_reducible refine z_eqL ?_
  | with_reducible refine y_bl (fun hk => ?_) (fun hk => ?_) | with_reducible refine y_tbl (fun hk => ?_) (fun hk => ?_)
  | ((with_reducible apply y_asg); · decide))
def prodN (ps : List Nat) : Nat := ps.foldl (· * ·) 1
theorem prodN_snoc (ps : List Nat) (p : Nat) : prodN (ps ++ [p]) = prodN ps * p := by
  unfold prodN
  rw [List.foldl_append]
  rfl
theorem prodN_le {ps : List Nat} (h : ∀ p ∈ ps, 0 < p) : ∀ i, prodN (ps.take i) ≤ prodN ps := by
  have key : ∀ (qs : List Nat) (k : Nat), (∀ p ∈ qs, 0 < p) → k ≤ qs.foldl (· * ·) k := by
    intro qs
    induction qs with
    | nil => intro k _; exact Nat.le_refl _
    | cons q qs ih =>
      intro k hq
      exact Nat.le_trans (Nat.le_mul_of_pos_right k (hq q List.mem_cons_self)) (ih (k * q) fun p hp => hq p (List.mem_cons_of_mem _ hp))
  intro i
  have e : prodN ps = (ps.drop i).foldl (· * ·) (prodN (ps.take i)) := by
    unfold prodN
    rw [← List.foldl_append, List.take_append_drop]
  rw [e]
  exact key _ _ fun p hp => h p (List.mem_of_mem_drop hp)
def natT (ps : List Nat) : List D := ps.map fun p => D.int (p : Nat)
def wf_product_of : WF G := fun ds g Q => ∃ ps : List Nat, ds = [.tup (natT ps)] ∧ (∀ p ∈ ps, 0 < p ∧ p < 1000000000) ∧ prodN ps < 10000 ^ 1000 ∧ Q (rowD (prodN ps)) 2 g
theorem sp_product_of : ∀ (ds : List D) (g : G) (Pq : Pd G), ds.length = 1 → wf_product_of ds g Pq → VL.wS [(2, wf_times_of), (1, wf_row_of)] cs_product_of (endP Pq) (env0 ck_product_of.N.length ds) g := by
  rintro ds g Q _ ⟨ps, rfl, hp, hl, q⟩
  show VL.wS _ (.seq _ _) _ [.dat (.tup (natT ps)) 1, .no, .no] _
  repeat trivial
  refine y_call rfl rfl ⟨1, rfl, Nat.one_lt_pow (by decide) (by decide), ?_⟩
  refine y_asg (by decide) ?_
  show VL.wS _ _ _ [.dat (.tup (natT ps)) 1, .dat (rowD 1) 2, .no] _
  repeat trivial
  refine y_for (l := 1) (by decide) ?_
  refine x_foL (fun i es g' => ∃ s2, es = [.dat (.tup (natT ps)) 1, .dat (rowD (prodN (ps.take i))) 2, s2] ∧ NO s2 ∧ g' = g) ⟨.no, rfl, trivial, rfl⟩ ?_ ?_
  · rintro i d es g' K hd hK ⟨s2, rfl, n2, rfl⟩
    unfold natT at hd
    rw [List.getElem?_map] at hd
    obtain ⟨p, hi, rfl⟩ := Option.map_eq_some_iff.mp hd
    have hm := List.mem_of_getElem? hi
    obtain ⟨p0, p1⟩ := hp p hm
    have et : prodN (ps.take (i + 1)) = prodN (ps.take i) * p := by rw [List.take_add_one, hi]; exact prodN_snoc _ _
    refine bind_name (noOwn_of fun x hx s e => ?_) ?_
    · rcases List.mem_cons.mp hx with z | hx
      · subst z; cases e; exact n2
      · cases hx
    show VL.wS _ _ _ [.dat (.tup (natT ps)) 1, .dat (rowD (prodN (ps.take i))) 2, .dat (.int (p : Nat)) 1] _
    repeat trivial
    refine y_call rfl rfl ⟨_, p, rfl, p0, p1, ?_, ?_⟩
    · rw [← et]
      exact rl_small (Nat.lt_of_le_of_lt (prodN_le (fun p h => (hp p h).1) (i + 1)) hl)
    refine y_asg (by decide) ?_
    repeat trivial
    refine hK _ _ ⟨.dat (.int (p : Nat)) 1, ?_, trivial, rfl⟩
    rw [et]
    rfl
  · rintro es g' ⟨s2, rfl, n2, rfl⟩
    have e : (natT ps).length = ps.length := by unfold natT; rw [List.length_map]
    rw [e, List.take_length]
    repeat trivial
end T
namespace T
open PySem PySem.Spec PyProof.Rows VL
local macro_rules | `(tactic| trivial) => `(tactic| first
  | ((with_reducible apply x_digit); (focus rfl); (focus rfl))
  | with_reducible refine x_int ?_ | with_reducible refine x_bl ?_ | with_reducible refine x_non ?_ | with_reducible refine x_str ?_ | with_reducible refine x_glo ?_ | with_reducible refine x_bin ?_ | with_reducible refine x_neg ?_ | with_reducible refine x_not ?_ | with_reducible refine x_cmp ?_ | with_reducible refine x_chain ?_ | with_reducible refine x_and ?_ | with_reducible refine x_or ?_ | with_reducible refine x_ite ?_ | with_reducible refine x_tup ?_ | with_reducible refine x_lst ?_ | with_reducible refine x_ix ?_ | with_reducible refine x_sq ?_ | with_reducible refine x_bi ?_ | with_reducible refine x_isi ?_ | with_reducible refine x_call ?_ | with_reducible refine x_sl ?_ | with_reducible refine x_ext ?_
  | with_reducible refine x_anil ?_ | with_reducible refine x_acons ?_ | with_reducible refine x_slst ?_ | with_reducible refine x_stup ?_ | with_reducible refine x_ono ?_ | with_reducible refine x_osome ?_ | with_reducible refine x_seq ?_ | with_reducible refine x_asg ?_ | with_reducible refine x_own ?_ | with_reducible refine x_ret ?_ | with_reducible refine x_if ?_ | with_reducible refine x_for ?_ | with_reducible refine x_exp ?_ | with_reducible refine x_unp ?_ | with_reducible refine x_par ?_ | with_reducible refine x_parN ?_ | with_reducible refine x_jrng1 ?_ | with_reducible refine x_jrngd ?_ | with_reducible refine x_irng1 ?_ | with_reducible refine x_irngd ?_ | with_reducible refine x_jit ?_ | with_reducible refine x_iit ?_ | with_reducible refine x_nil ?_
  | ((with_reducible apply x_var); · rfl) | ((with_reducible apply x_vvar); · rfl) | ((with_reducible apply x_vown); · rfl) | ((with_reducible apply x_v); · rfl) | ((with_reducible apply x_qlst); · rfl) | ((with_reducible apply x_qtup); · rfl) | ((with_reducible apply x_qown); · rfl) | ((with_reducible apply x_q); · rfl) | ((with_reducible apply x_aug1); · rfl) | ((with_reducible apply x_app1); · rfl)
  | with_reducible refine z_len ?_ | with_reducible refine z_add ?_ | with_reducible refine z_sub ?_ | with_reducible refine z_lt ?_ | with_reducible refine z_le ?_ | with_reducible refine z_gt ?_ | with_reducible refine z_ge ?_ | with_reducible refine z_eq ?_ | with_reducible refine z_ne ?_ | with_reducible refine z_eqB ?_ | with_reducible refine z_neB ?_ | with_reducible refine z_eqS ?_ | with_reducible refine y_int ?_
  | with_reducible refine z_abs ?_ | with_reducible refine z_eqL ?_
  | with_reducible refine y_bl (fun hk => ?_) (fun hk => ?_) | with_reducible refine y_tbl (fun hk => ?_) (fun hk => ?_)
  | ((with_reducible apply y_asg); · decide))
/-- what is asked of the k-th prime -/
def pgood (zs : List Int) (k : Nat) : Prop := 1000 < zs.getD k 0 ∧ (0 < k → zs.getD (k - 1) 0 < zs.getD k 0) ∧ Trial (zs.getD k 0).toNat
def wf_are_small_primes : WF G := fun ds g Q => ∃ (zs : List Int) (b : Bool), ds = [.tup (zs.map D.int)] ∧ zs.length < 1000000 ∧ (b = true ↔ ∀ k, k < zs.length → pgood zs k) ∧ Q (.bl b) 2 g
theorem sp_are_small_primes : ∀ (ds : List D) (g : G) (Pq : Pd G), ds.length = 1 → wf_are_small_primes ds g Pq → VL.wS [(1, wf_by_trial)] cs_are_small_primes (endP Pq) (env0 ck_are_small_primes.N.length ds) g := by
  rintro ds g Q _ ⟨zs, b, rfl, hz, hb, q⟩
  have out : ∀ k, k < zs.length → ¬ pgood zs k → Q (.bl false) 2 g := fun k h1 h2 => by
    have e : b = false := by
      cases b with
      | false => rfl
      | true => exact absurd (hb.mp rfl k h1) h2
    rw [e] at q
    exact q
  show VL.wS _ (.seq _ _) _ [.dat (.tup (zs.map D.int)) 1, .no] _
  repeat trivial
  rw [List.length_map]
  refine ⟨⟨by omega, by omega⟩, y_for (l := 2) (by decide) ?_⟩
  refine x_foL (fun i es g' => ∃ s1, es = [.dat (.tup (zs.map D.int)) 1, s1] ∧ NO s1 ∧ g' = g ∧ ∀ k, k < i → pgood zs k) ⟨.no, rfl, trivial, rfl, fun k h => absurd h (Nat.not_lt_zero k)⟩ ?_ ?_
  · rintro i d es g' K hd hK ⟨s1, rfl, n1, rfl, hg⟩
    have hi : i < zs.length := by
      have := (List.getElem?_eq_some_iff.mp hd).1
      rw [rngD_len] at this
      omega
    rw [rngD_get (by omega)] at hd
    cases hd
    refine bind_name (noOwn_of fun x hx s e => ?_) ?_
    · rcases List.mem_cons.mp hx with z | hx
      · subst z; cases e; exact n1
      · cases hx
    rw [Int.zero_add]
    have out' := out i hi
    clear hb out
    show VL.wS _ _ _ [.dat (.tup (zs.map D.int)) 1, .dat (.int (i : Nat)) 2] _
    obtain ⟨t, ht⟩ : ∃ t : Bool, t = true ↔ 0 ≤ zs.getD i 0 ∧ Trial (zs.getD i 0).toNat := ⟨@decide (0 ≤ zs.getD i 0 ∧ Trial (zs.getD i 0).toNat) (Classical.propDecidable _), @decide_eq_true_iff _ (Classical.propDecidable _)⟩
    have no : ¬ pgood zs i → ∃ k, tru (D.bl true) = some k ∧ if k = true then VL.wS [(1, wf_by_trial)] (.seq (.ret (.bl false)) .nil) { nx := VL.wS [(1, wf_by_trial)] .nil { nx := K, rt := Q, bk := VL.wS [(1, wf_by_trial)] (.seq (.ret (.bl true)) .nil) (endP Q), ct := K }, rt := Q, bk := VL.wS [(1, wf_by_trial)] (.seq (.ret (.bl true)) .nil) (endP Q), ct := K } [.dat (.tup (zs.map D.int)) 1, .dat (.int (i : Nat)) 2] g' else VL.wS [(1, wf_by_trial)] .nil { nx := VL.wS [(1, wf_by_trial)] .nil { nx := K, rt := Q, bk := VL.wS [(1, wf_by_trial)] (.seq (.ret (.bl true)) .nil) (endP Q), ct := K }, rt := Q, bk := VL.wS [(1, wf_by_trial)] (.seq (.ret (.bl true)) .nil) (endP Q), ct := K } [.dat (.tup (zs.map D.int)) 1, .dat (.int (i : Nat)) 2] g' := fun h => ⟨true, rfl, ite_of (fun _ => out' h) (fun z => nomatch z)⟩
    have E : 1000 < zs.getD i 0 → (0 < i → zs.getD (i - 1) 0 < zs.getD i 0) → VL.wE [(1, wf_by_trial)] (.not (.call 0 (.cons (.ix (.var 0) (.var 1)) .nil))) [.dat (.tup (zs.map D.int)) 1, .dat (.int (i : Nat)) 2] g' (fun d _ g1 => ∃ k, tru d = some k ∧ if k = true then VL.wS [(1, wf_by_trial)] (.seq (.ret (.bl false)) .nil) { nx := VL.wS [(1, wf_by_trial)] .nil { nx := K, rt := Q, bk := VL.wS [(1, wf_by_trial)] (.seq (.ret (.bl true)) .nil) (endP Q), ct := K }, rt := Q, bk := VL.wS [(1, wf_by_trial)] (.seq (.ret (.bl true)) .nil) (endP Q), ct := K } [.dat (.tup (zs.map D.int)) 1, .dat (.int (i : Nat)) 2] g1 else VL.wS [(1, wf_by_trial)] .nil { nx := VL.wS [(1, wf_by_trial)] .nil { nx := K, rt := Q, bk := VL.wS [(1, wf_by_trial)] (.seq (.ret (.bl true)) .nil) (endP Q), ct := K }, rt := Q, bk := VL.wS [(1, wf_by_trial)] (.seq (.ret (.bl true)) .nil) (endP Q), ct := K } [.dat (.tup (zs.map D.int)) 1, .dat (.int (i : Nat)) 2] g1) := fun h1 h2 => by
      refine x_not (x_call (x_acons (x_ix (x_qtup rfl (x_var rfl (y_ix (atI_int (k := i) hi rfl) (x_anil (y_call rfl rfl ⟨_, t, rfl, ht, ?_⟩))))))))
      refine ⟨t, rfl, !t, rfl, ite_of (fun z => ?_) (fun z => ?_)⟩
      · refine out' fun y => ?_
        have : t = true := ht.mpr ⟨by omega, y.2.2⟩
        rw [this] at z
        cases z
      · have tt : t = true := by cases t <;> first | rfl | cases z
        refine hK _ _ ⟨.dat (.int (i : Nat)) 2, rfl, trivial, rfl, fun k hk => ?_⟩
        rcases Nat.lt_or_ge k i with y | y
        · exact hg k y
        · obtain rfl : k = i := by omega
          exact ⟨h1, h2, (ht.mp tt).2⟩
    refine x_seq (x_if (x_or (x_cmp (x_ix (x_qtup rfl (x_var rfl (y_ix (atI_int (k := i) hi rfl) (x_glo (z_le ⟨_, rfl, fun h => ?_, fun h => ?_⟩)))))))))
    · exact no fun y => by
        have := of_decide_eq_true h
        have := y.1
        omega
    · have g1 : 1000 < zs.getD i 0 := by
        have := of_decide_eq_false h
        omega
      refine x_or (x_and (x_cmp (x_var rfl (x_int (z_gt ⟨_, rfl, fun h2 => ?_, fun h2 => ⟨false, rfl, (fun z => nomatch z), fun _ => E g1 fun z => absurd (Int.natCast_pos.mpr z) (of_decide_eq_false h2)⟩⟩)))))
      have i0 : 0 < i := Int.natCast_pos.mp (of_decide_eq_true h2)
      refine x_cmp (x_ix (x_qtup rfl (x_var rfl (y_ix (atI_int (k := i) hi rfl) (x_ix (x_qtup rfl (x_bin (x_vvar rfl (x_v rfl (x_int (z_sub (y_ix (atI_int (k := i - 1) (by omega) (by omega)) (z_le ⟨_, rfl, fun h3 => ?_, fun h3 => ?_⟩)))))))))))))
      · exact no fun y => by
          have := of_decide_eq_true h3
          have := y.2.1 i0
          omega
      · exact E g1 fun _ => by
          have := of_decide_eq_false h3
          omega
  · rintro es g' ⟨s1, rfl, n1, rfl, hg⟩
    rw [rngD_len, show ((zs.length : Int) - 0).toNat = zs.length by omega] at hg
    have e : b = true := hb.mpr hg
    rw [e] at q
    repeat trivial
end T
namespace T
open PySem PySem.Spec PyProof.Rows VL
local macro_rules | `(tactic| trivial) => `(tactic| first
  | ((with_reducible apply x_digit); (focus rfl); (focus rfl))
  | with_reducible refine x_int ?_ | with_reducible refine x_bl ?_ | with_reducible refine x_non ?_ | with_reducible refine x_str ?_ | with_reducible refine x_glo ?_ | with_reducible refine x_bin ?_ | with_reducible refine x_neg ?_ | with_reducible refine x_not ?_ | with_reducible refine x_cmp ?_ | with_reducible refine x_chain ?_ | with_reducible refine x_and ?_ | with_reducible refine x_or ?_ | with_reducible refine x_ite ?_ | with_reducible refine x_tup ?_ | with_reducible refine x_lst ?_ | with_reducible refine x_ix ?_ | with_reducible refine x_sq ?_ | with_reducible refine x_bi ?_ | with_reducible refine x_isi ?_ | with_reducible refine x_call ?_ | with_reducible refine x_sl ?_ | with_reducible refine x_ext ?_
  | with_reducible refine x_anil ?_ | with_reducible refine x_acons ?_ | with_reducible refine x_slst ?_ | with_reducible refine x_stup ?_ | with_reducible refine x_ono ?_ | with_reducible refine x_osome ?_ | with_reducible refine x_seq ?_ | with_reducible refine x_asg ?_ | with_reducible refine x_own ?_ | with_reducible refine x_ret ?_ | with_reducible refine x_if ?_ | with_reducible refine x_for ?_ | with_reducible refine x_exp ?_ | with_reducible refine x_unp ?_ | with_reducible refine x_par ?_ | with_reducible refine x_parN ?_ | with_reducible refine x_jrng1 ?_ | with_reducible refine x_jrngd ?_ | with_reducible refine x_irng1 ?_ | with_reducible refine x_irngd ?_ | with_reducible refine x_jit ?_ | with_reducible refine x_iit ?_ | with_reducible refine x_nil ?_
  | ((with_reducible apply x_var); · rfl) | ((with_reducible apply x_vvar); · rfl) | ((with_reducible apply x_vown); · rfl) | ((with_reducible apply x_v); · rfl) | ((with_reducible apply x_qlst); · rfl) | ((with_reducible apply x_qtup); · rfl) | ((with_reducible apply x_qown); · rfl) | ((with_reducible apply x_q); · rfl) | ((with_reducible apply x_aug1); · rfl) | ((with_reducible apply x_app1); · rfl)
  | with_reducible refine z_len ?_ | with_reducible refine z_add ?_ | with_reducible refine z_sub ?_ | with_reducible refine z_lt ?_ | with_reducible refine z_le ?_ | with_reducible refine z_gt ?_ | with_reducible refine z_ge ?_ | with_reducible refine z_eq ?_ | with_reducible refine z_ne ?_ | with_reducible refine z_eqB ?_ | with_reducible refine z_neB ?_ | with_reducible refine z_eqS ?_ | with_reducible refine y_int ?_
  | with_reducible refine z_abs ?_ | with_reducible refine z_eqL ?_
  | with_reducible refine y_bl (fun hk => ?_) (fun hk => ?_) | with_reducible refine y_tbl (fun hk => ?_) (fun hk => ?_)
  | ((with_reducible apply y_asg); · decide))
def areInts : D → Bool
  | .tup xs => xs.all isInt
  | _ => false
/-- a tuple's items are plain, and not too many -/
def plainT (d : D) : Prop := known d = true ∧ ∀ xs, d = .tup xs → xs.length ≤ sizeLine ∧ ∀ x ∈ xs, known x = true
def wf_are_ints : WF G := fun ds g Q => ∃ d, ds = [d] ∧ plainT d ∧ Q (.bl (areInts d)) 2 g
theorem z_all {bs : List Bool} {R1 : D → Nat → Prop} (q : R1 (.bl (bs.all id)) 2) : sqf .all false (bs.map D.bl) 1 R1 := ⟨bs, rfl, q⟩
theorem sp_are_ints : ∀ (ds : List D) (g : G) (Pq : Pd G), ds.length = 1 → wf_are_ints ds g Pq → VL.wS [(1, wf_is_int)] cs_are_ints (endP Pq) (env0 ck_are_ints.N.length ds) g := by
  rintro ds g Q _ ⟨d, rfl, ⟨hk, hx⟩, q⟩
  obtain ⟨t, ht, h1, h2, h3, h4⟩ := isi_all hk
  show VL.wS _ (.seq _ _) _ [.dat d 1, .no] _
  refine x_seq (x_ret (x_v rfl (x_and (x_isi (x_var rfl ⟨t, _, ht, h4, _, rfl, fun h => ?_, fun h => ?_⟩)))))
  · obtain ⟨xs, rfl⟩ : ∃ xs, d = .tup xs := by
      cases d <;> first | exact ⟨_, rfl⟩ | cases h
    obtain ⟨hl, hm⟩ := hx xs rfl
    refine x_sq (x_q rfl (x_lc ⟨noOwn_of fun x hx s e => ?_, x_iit (x_qtup rfl ?_)⟩))
    · rcases List.mem_cons.mp hx with z | hx
      · subst z; cases e; trivial
      · cases hx
    refine x_lcl (fun x => .bl (isInt x)) 2 (by decide) (by simpa using hl) (.inr rfl) (fun x hxm K hK => ?_) ?_
    · refine bind_name (noOwn_of fun i hi s e => ?_) ?_
      · rcases List.mem_cons.mp hi with z | hi
        · subst z; cases e; trivial
        · cases hi
      show VL.wE _ _ [.dat (.tup xs) 1, .dat x 1] _ _
      refine x_call (x_acons (x_var rfl (x_anil (y_call rfl rfl ⟨x, rfl, hm x hxm, ?_⟩))))
      exact hK
    · rw [List.nil_append]
      refine ⟨xs.map isInt, by rw [List.map_map]; rfl, ?_⟩
      have e : (xs.map isInt).all id = areInts (.tup xs) := by
        show _ = xs.all isInt
        rw [List.all_map]
        rfl
      rw [e]
      exact q
  · have e : areInts d = false := by cases d <;> first | rfl | cases h
    rw [e] at q
    exact q
end T
namespace T
open PySem PySem.Spec PyProof.Rows VL
local macro_rules | `(tactic| trivial) => `(tactic| first
  | ((with_reducible apply x_digit); (focus rfl); (focus rfl))
  | with_reducible refine x_int ?_ | with_reducible refine x_bl ?_ | with_reducible refine x_non ?_ | with_reducible refine x_str ?_ | with_reducible refine x_glo ?_ | with_reducible refine x_bin ?_ | with_reducible refine x_neg ?_ | with_reducible refine x_not ?_ | with_reducible refine x_cmp ?_ | with_reducible refine x_chain ?_ | with_reducible refine x_and ?_ | with_reducible refine x_or ?_ | with_reducible refine x_ite ?_ | with_reducible refine x_tup ?_ | with_reducible refine x_lst ?_ | with_reducible refine x_ix ?_ | with_reducible refine x_sq ?_ | with_reducible refine x_bi ?_ | with_reducible refine x_isi ?_ | with_reducible refine x_call ?_ | with_reducible refine x_sl ?_ | with_reducible refine x_ext ?_
  | with_reducible refine x_anil ?_ | with_reducible refine x_acons ?_ | with_reducible refine x_slst ?_ | with_reducible refine x_stup ?_ | with_reducible refine x_ono ?_ | with_reducible refine x_osome ?_ | with_reducible refine x_seq ?_ | with_reducible refine x_asg ?_ | with_reducible refine x_own ?_ | with_reducible refine x_ret ?_ | with_reducible refine x_if ?_ | with_reducible refine x_for ?_ | with_reducible refine x_exp ?_ | with_reducible refine x_unp ?_ | with_reducible refine x_par ?_ | with_reducible refine x_parN ?_ | with_reducible refine x_jrng1 ?_ | with_reducible refine x_jrngd ?_ | with_reducible refine x_irng1 ?_ | with_reducible refine x_irngd ?_ | with_reducible refine x_jit ?_ | with_reducible refine x_iit ?_ | with_reducible refine x_nil ?_
  | ((with_reducible apply x_var); · rfl) | ((with_reducible apply x_vvar); · rfl) | ((with_reducible apply x_vown); · rfl) | ((with_reducible apply x_v); · rfl) | ((with_reducible apply x_qlst); · rfl) | ((with_reducible apply x_qtup); · rfl) | ((with_reducible apply x_qown); · rfl) | ((with_reducible apply x_q); · rfl) | ((with_reducible apply x_aug1); · rfl) | ((with_reducible apply x_app1); · rfl)
  | with_reducible refine z_len ?_ | with_reducible refine z_add ?_ | with_reducible refine z_sub ?_ | with_reducible refine z_lt ?_ | with_reducible refine z_le ?_ | with_reducible refine z_gt ?_ | with_reducible refine z_ge ?_ | with_reducible refine z_eq ?_ | with_reducible refine z_ne ?_ | with_reducible refine z_eqB ?_ | with_reducible refine z_neB ?_ | with_reducible refine z_eqS ?_ | with_reducible refine y_int ?_
  | with_reducible refine z_abs ?_ | with_reducible refine z_eqL ?_
  | with_reducible refine y_bl (fun hk => ?_) (fun hk => ?_) | with_reducible refine y_tbl (fun hk => ?_) (fun hk => ?_)
  | ((with_reducible apply y_asg); · decide))
def wf_law_digits : WF G := fun ds g Q => ∃ z : Int, ds = [.int z] ∧ Q (.int (rl z.natAbs : Nat)) 2 g
theorem z_max2 {m n : Int} {R1 : D → Nat → Prop} (q : R1 (.int (if n > m then n else m)) 2) : biF .max2 [.int m, .int n] R1 := q
theorem sp_law_digits : ∀ (ds : List D) (g : G) (Pq : Pd G), ds.length = 1 → wf_law_digits ds g Pq → VL.wS [] cs_law_digits (endP Pq) (env0 ck_law_digits.N.length ds) g := by
  rintro ds g Q _ ⟨z, rfl, q⟩
  show VL.wS _ (.seq _ _) _ [.dat (.int z) 1, .no, .no] _
  refine x_seq (x_par (x_int (x_bi (x_acons (x_var rfl (x_acons (x_neg (x_var rfl ⟨z, rfl, x_anil (z_max2 ⟨2, 2, ⟨by decide, .inl (by decide)⟩, ⟨by decide, .inl (by decide)⟩, ?_⟩)⟩))))))))
  have e : (if -z > z then -z else z) = (z.natAbs : Nat) := by split <;> omega
  rw [e]
  show VL.wS _ _ _ [.dat (.int z) 1, .dat (.int 0) 2, .dat (.int (z.natAbs : Nat)) 2] _
  generalize z.natAbs = n at q
  refine x_seq ?_
  refine x_while (fun m es g' => ∃ k : Nat, es = [.dat (.int z) 1, .dat (.int (k : Nat)) 2, .dat (.int ((n / 10000 ^ k : Nat) : Int)) 2] ∧ g' = g ∧ n / 10000 ^ k ≤ m ∧ (k = 0 ∨ 10000 ^ (k - 1) ≤ n)) n ⟨0, by simp, rfl, by simp, .inl rfl⟩ ?_
  intro m es g' K hK hI
  obtain ⟨k, he, hg, hm, hk⟩ := hI
  subst he
  subst hg
  refine x_cmp (x_var rfl (x_int (z_gt (y_tbl (fun h => ?_) (fun h => ?_)))))
  · have h0 : 0 < n / 10000 ^ k := Int.natCast_pos.mp (of_decide_eq_true h)
    have h1 : 10000 ^ k ≤ n := by
      rcases Nat.lt_or_ge n (10000 ^ k) with y | y
      · rw [Nat.div_eq_of_lt y] at h0
        cases h0
      · exact y
    refine x_seq (x_par (x_bin (x_vvar rfl (x_v rfl (x_int (z_add (x_bin (x_vvar rfl (x_v rfl (x_int (z_fdiv ⟨by decide, by decide +kernel⟩ ⟨2, 2, ⟨by decide, .inl (by decide)⟩, ⟨by decide, .inl (by decide)⟩, ?_⟩)))))))))))
    refine hK (m - 1) _ _ (by omega) ⟨k + 1, ?_, rfl, ?_, .inr h1⟩
    · have f2 := fdivN (n / 10000 ^ k) 10000
      rw [Nat.div_div_eq_div_mul, ← Nat.pow_succ] at f2
      show [_, _, Sl.dat (D.int (Int.fdiv ((n / 10000 ^ k : Nat) : Int) ((10000 : Nat) : Int))) 2] = _
      rw [f2]
      rfl
    · rw [Nat.pow_succ, ← Nat.div_div_eq_div_mul]
      have := Nat.div_lt_self h0 (by decide : 1 < 10000)
      omega
  · have h0 : n / 10000 ^ k = 0 := Nat.eq_zero_of_not_pos fun y => of_decide_eq_false h (Int.natCast_pos.mpr y)
    have h1 : n < 10000 ^ k := by
      rcases Nat.lt_or_ge n (10000 ^ k) with y | y
      · exact y
      · have := Nat.div_pos y (Nat.pow_pos (by decide))
        omega
    rw [rl_eq h1 hk] at q
    exact q
end T
namespace T
open PySem PySem.Spec PyProof.Rows VL
def dotZ (xs ys : List Int) : Int := ((List.range xs.length).map fun i => xs.getD i 0 * ys.getD i 0).sum
def wf_law_dot : WF G := fun ds g Q => ∃ xs ys : List Int, ds = [.tup (xs.map D.int), .tup (ys.map D.int)] ∧ xs.length = ys.length ∧ xs.length < 1000000 ∧ (∀ i, L2.CMulW (xs.getD i 0) (ys.getD i 0)) ∧ Q (.int (dotZ xs ys)) 2 g
theorem sp_law_dot : ∀ (ds : List D) (g : G) (Pq : Pd G), ds.length = 2 → wf_law_dot ds g Pq → VL.wS [] cs_law_dot (endP Pq) (env0 ck_law_dot.N.length ds) g := by
  rintro ds g Q _ ⟨xs, ys, rfl, hl, hn, hm, q⟩
  show VL.wS _ (.seq _ _) _ [.dat (.tup (xs.map D.int)) 1, .dat (.tup (ys.map D.int)) 1, .no] _
  refine x_seq (x_ret (x_v rfl (x_sq (x_q rfl (x_lc ⟨noOwn_of fun x hx s e => ?_, x_irng1 (x_sq (x_qtup rfl (z_len ?_)))⟩)))))
  · rcases List.mem_cons.mp hx with z | hx
    · subst z; cases e; trivial
    · cases hx
  rw [List.length_map]
  refine ⟨_, rfl, ⟨by omega, by omega⟩, ?_⟩
  refine x_lcl (fun d => match d with | .int k => .int (xs.getD k.toNat 0 * ys.getD k.toNat 0) | _ => .non) 2 (by decide) ?_ (.inr rfl) (fun d hd K hK => ?_) ?_
  · rw [rngD_len, sizeLine_eq]
    show 0 + _ ≤ _
    omega
  · unfold rngD at hd
    obtain ⟨i, hi, rfl⟩ := List.mem_map.mp hd
    rw [List.mem_range] at hi
    have hi2 : i < xs.length := by omega
    have e0 : (0 : Int) + (i : Nat) = (i : Nat) := Int.zero_add _
    rw [e0] at hK ⊢
    refine bind_name (noOwn_of fun x hx s e => ?_) ?_
    · rcases List.mem_cons.mp hx with z | hx
      · subst z; cases e; trivial
      · cases hx
    show VL.wE _ _ [.dat (.tup (xs.map D.int)) 1, .dat (.tup (ys.map D.int)) 1, .dat (.int (i : Nat)) 2] _ _
    refine x_bin (x_v rfl (x_ix (x_qtup rfl (x_var rfl (y_ix (atI_int (k := i) hi2 rfl) ?_)))))
    refine x_v rfl (x_ix (x_qtup rfl (x_var rfl (y_ix (atI_int (k := i) (by omega) rfl) (z_mul (hm i) ?_)))))
    exact hK
  · rw [List.nil_append]
    refine ⟨(List.range xs.length).map fun i => xs.getD i 0 * ys.getD i 0, ?_, q⟩
    unfold rngD
    rw [List.map_map, List.map_map, show ((xs.length : Int) - 0).toNat = xs.length by omega]
    refine List.map_congr_left fun i _ => ?_
    simp
end T
/-! Val: rules for comprehensions, loops and calls whose shape is common. -/
namespace VL
open PySem PySem.Spec PyProof.Rows

section
variable {fs : List (Nat × WF G)} {es : VL.Env} {g : G} {Q : Pd G} {a b c : CE} {P : Po G} {i j : Nat} {d : D} {l : Nat} {s : Sl}
theorem noOwn1 (h : es[i]? = some s) (hn : NO s) : noOwn es [i] := noOwn_of fun x hx s' e => by
  rcases List.mem_cons.mp hx with z | hx
  · subst z
    rw [h] at e
    cases e
    exact hn
  · cases hx
theorem noOwn2 {s2 : Sl} (h : es[i]? = some s) (hn : NO s) (h2 : es[j]? = some s2) (hn2 : NO s2) : noOwn es [i, j] := noOwn_of fun x hx s' e => by
  rcases List.mem_cons.mp hx with z | hx
  · subst z
    rw [h] at e
    cases e
    exact hn
  · rcases List.mem_cons.mp hx with z | hx
    · subst z
      rw [h2] at e
      cases e
      exact hn2
    · cases hx
theorem y_bind {kk : VL.Env → Prop} (h : es[i]? = some s) (hn : NO s) (q : kk (es.set i (.dat d l))) : bindT (.name i) d l es kk := ⟨noOwn1 h hn, q⟩
theorem wipe1 (es : VL.Env) (j : Nat) (x : Sl) : (wipeE es [j]).set j x = es.set j x := by
  show (es.set j .no).set j x = _
  rw [List.set_set]
theorem wipe1_get (h : es[j]? = some s) : (wipeE es [j])[j]? = some .no := by
  show (es.set j .no)[j]? = some .no
  rw [List.getElem?_set_self (List.getElem?_eq_some_iff.mp h).1]
/-- [elt for name in ..], one value an item -/
theorem y_lc {elt : CE} {ds : List D} {k : List D → Nat → G → Prop} (f : D → D) (lv : Nat) (h2 : lv ≤ 2) (h : es[j]? = some s)
    (hs : ds.length ≤ sizeLine) (hb : ∀ d ∈ ds, ∀ K : Pd G, K (f d) lv g → VL.wE fs elt (es.set j (.dat d l)) g K) (hq : k (ds.map f) (if ds = [] then 2 else lv) g) :
    lcl (fun d g k => bindT (.name j) d l (wipeE es [j]) fun es' => VL.wT fs .no es' g fun b g' => if b = true then VL.wE fs elt es' g' fun e le g'' => k (some (e, le)) g'' else k none g') ds [] 2 g k := by
  refine x_lcl f lv h2 (by simpa using hs) (.inr rfl) (fun d hd K hK => ?_) (by rw [List.nil_append]; exact hq)
  refine y_bind (wipe1_get h) trivial ?_
  rw [wipe1]
  show VL.wE fs elt _ _ _
  exact hb d hd _ hK
theorem x_lcn {it : CI} {cond : CO} (h : es[j]? = some s) (hn : NO s) (q : VL.wI fs it es g fun ds l g1 => lcl (fun d g k => bindT (.name j) d l (wipeE es [j]) fun es' => VL.wT fs cond es' g fun b g' => if b = true then VL.wE fs a es' g' fun e le g'' => k (some (e, le)) g'' else k none g') ds [] 2 g1 fun out lv g' => Q (.lst out) lv g') : VL.wE fs (.lc [j] (.name j) it cond a) es g Q := x_lc ⟨noOwn1 h hn, q⟩
variable {R1 : D → Nat → Prop}
theorem z_allM {p : D → Bool} {ds : List D} (q : R1 (.bl (ds.all p)) 2) : sqf .all false (ds.map fun d => .bl (p d)) l R1 := ⟨ds.map p, by rw [List.map_map]; rfl, by rw [List.all_map]; exact q⟩
theorem z_anyM {p : D → Bool} {ds : List D} (q : R1 (.bl (ds.any p)) 2) : sqf .any false (ds.map fun d => .bl (p d)) l R1 := ⟨ds.map p, by rw [List.map_map]; rfl, by rw [List.any_map]; exact q⟩
theorem z_sumM {p : D → Int} {ds : List D} (q : R1 (.int (ds.map p).sum) 2) : sqf .sum false (ds.map fun d => .int (p d)) l R1 := ⟨ds.map p, by rw [List.map_map]; rfl, q⟩
theorem z_tuple {t : Bool} {ds : List D} (q : R1 (.tup ds) l) : sqf .tuple t ds l R1 := q
theorem z_list {t : Bool} {ds : List D} (q : R1 (.lst ds) l) : sqf .list t ds l R1 := q
theorem z_int1 {n : Int} (q : R1 (.int n) 2) : biF .int1 [.int n] R1 := q
theorem z_absI {m : Int} (q : R1 (.int (m.natAbs : Nat)) 2) : biF .abs [.int m] R1 := by
  show R1 (.int (if m < 0 then -m else m)) 2
  have e : (if m < 0 then -m else m) = (m.natAbs : Int) := by split <;> omega
  rw [e]
  exact q
theorem z_max {m n : Int} (q : R1 (.int (max m n)) 2) : biF .max2 [.int m, .int n] R1 := by
  show R1 (.int (if n > m then n else m)) 2
  have e : (if n > m then n else m) = max m n := by split <;> omega
  rw [e]
  exact q
theorem z_min {m n : Int} (q : R1 (.int (min m n)) 2) : biF .min2 [.int m, .int n] R1 := by
  show R1 (.int (if n < m then n else m)) 2
  have e : (if n < m then n else m) = min m n := by split <;> omega
  rw [e]
  exact q
variable {Rb : Bool → Prop}
theorem z_eqI {x y : D} (hx : x.pl = true) (hy : y.pl = true) (sx : SeqAt.shaped x.p = true) (sy : SeqAt.shaped y.p = true) (q : Rb (PyData.eqv x.p y.p)) : cop .eq x y Rb := by
  show deq x y Rb
  cases x <;> cases y <;> first | exact ⟨hx, hy, sx, sy, q⟩ | (simpa [deq, D.p, PyData.eqv, Bool.beq_eq_decide_eq, BEq.beq, instBEqOfDecidableEq] using q)
theorem y_jlst {ds : List D} {W : Bool → List D → Nat → G → Prop} (q : W false ds l g) : (match D.lst ds with
    | .lst ds => W false ds l g
    | .tup ds => W true ds l g
    | .frz ns => W true (ns.map D.int) 2 g
    | _ => False) := q
theorem y_jtup {ds : List D} {W : Bool → List D → Nat → G → Prop} (q : W true ds l g) : (match D.tup ds with
    | .lst ds => W false ds l g
    | .tup ds => W true ds l g
    | .frz ns => W true (ns.map D.int) 2 g
    | _ => False) := q
theorem y_callf {f n : Nat} {w : WF G} {ds : List D} {R : Pd G} (h : fs[f]? = some (n, w)) (hl : ds.length = n) (q : w ds g R) : ∃ n' w', fs[f]? = some (n', w') ∧ ds.length = n' ∧ w' ds g R := ⟨n, w, h, hl, q⟩
theorem y_blT {A B : Bool → Prop} (h1 : A true) : ∃ k', D.bl true = .bl k' ∧ (k' = true → A k') ∧ (k' = false → B k') := ⟨true, rfl, fun _ => h1, fun z => nomatch z⟩
theorem y_blF {A B : Bool → Prop} (h1 : B false) : ∃ k', D.bl false = .bl k' ∧ (k' = true → A k') ∧ (k' = false → B k') := ⟨false, rfl, (fun z => nomatch z), fun _ => h1⟩
theorem y_tblT {A B : Prop} (h1 : A) : ∃ k', tru (D.bl true) = some k' ∧ if k' = true then A else B := ⟨true, rfl, ite_of (fun _ => h1) (fun z => nomatch z)⟩
theorem y_tblF {A B : Prop} (h1 : B) : ∃ k', tru (D.bl false) = some k' ∧ if k' = true then A else B := ⟨false, rfl, ite_of (fun z => nomatch z) (fun _ => h1)⟩
theorem y_blNF {A B : Bool → Prop} (h1 : A true) : ∃ k', D.bl (!false) = .bl k' ∧ (k' = true → A k') ∧ (k' = false → B k') := y_blT h1
theorem y_blNT {A B : Bool → Prop} (h1 : B false) : ∃ k', D.bl (!true) = .bl k' ∧ (k' = true → A k') ∧ (k' = false → B k') := y_blF h1
theorem y_tblNF {A B : Prop} (h1 : A) : ∃ k', tru (D.bl (!false)) = some k' ∧ if k' = true then A else B := y_tblT h1
theorem y_tblNT {A B : Prop} (h1 : B) : ∃ k', tru (D.bl (!true)) = some k' ∧ if k' = true then A else B := y_tblF h1
theorem z_eqST {x y : Str} {Rb : Bool → Prop} (h : decide (x = y) = true) (q : Rb true) : cop .eq (.str x) (.str y) Rb := by
  show Rb (decide (x = y))
  rw [h]
  exact q
theorem z_eqSF {x y : Str} {Rb : Bool → Prop} (h : decide (x = y) = false) (q : Rb false) : cop .eq (.str x) (.str y) Rb := by
  show Rb (decide (x = y))
  rw [h]
  exact q
theorem atI_0 {d : D} {xs : List D} : L2.atI (d :: xs) 0 = some d := by
  unfold L2.atI L2.ixN
  simp
theorem y_tru {R : Bool → Prop} {b : Bool} (q : R b) : ∃ b', tru (D.bl b) = some b' ∧ R b' := ⟨b, rfl, q⟩
theorem x_varo {ds : List D} (h : es[i]? = some (.own ds l)) (q : Q (.lst ds) 0 g) : VL.wE fs (.var i) es g Q := by
  unfold VL.wE
  rw [h]
  exact q
/-! data without objects, of no great length -/
mutual
def fit : D → Bool
  | .lst ds => decide (ds.length ≤ 1000000) && fits ds
  | .tup ds => decide (ds.length ≤ 1000000) && fits ds
  | .obj _ => false
  | .frz _ => false
  | _ => true
def fits : List D → Bool
  | [] => true
  | d :: ds => fit d && fits ds
end
theorem fits_mem : ∀ {ds : List D}, fits ds = true → ∀ d ∈ ds, fit d = true
  | [], _, d, h => by cases h
  | c :: ds, h, d, hd => by
    simp only [fits, Bool.and_eq_true] at h
    rcases List.mem_cons.mp hd with rfl | q
    · exact h.1
    · exact fits_mem h.2 d q
theorem fits_of : ∀ {ds : List D}, (∀ d ∈ ds, fit d = true) → fits ds = true
  | [], _ => rfl
  | c :: ds, h => by
    simp only [fits, Bool.and_eq_true]
    exact ⟨h c List.mem_cons_self, fits_of fun d hd => h d (List.mem_cons_of_mem _ hd)⟩
theorem fit_tup {ds : List D} (h : fit (.tup ds) = true) : ds.length ≤ 1000000 ∧ ∀ d ∈ ds, fit d = true := by
  simp only [fit, Bool.and_eq_true, decide_eq_true_eq] at h
  exact ⟨h.1, fits_mem h.2⟩
theorem fit_lst {ds : List D} (h : fit (.lst ds) = true) : ds.length ≤ 1000000 ∧ ∀ d ∈ ds, fit d = true := by
  simp only [fit, Bool.and_eq_true, decide_eq_true_eq] at h
  exact ⟨h.1, fits_mem h.2⟩
theorem fit_mk {ds : List D} (h : ds.length ≤ 1000000) (h2 : ∀ d ∈ ds, fit d = true) : fit (.tup ds) = true := by
  simp only [fit, Bool.and_eq_true, decide_eq_true_eq]
  exact ⟨h, fits_of h2⟩
theorem line6 {n : Nat} (h : n ≤ 1000000) : n ≤ sizeLine := by
  rw [sizeLine_eq]
  omega
mutual
theorem D.beq_refl : ∀ a : D, D.beq a a = true
  | .non => rfl
  | .bl a => by simp [D.beq]
  | .int a => by simp [D.beq]
  | .str a => by simp [D.beq]
  | .lst a => by simp [D.beq, D.beqs_refl a]
  | .tup a => by simp [D.beq, D.beqs_refl a]
  | .obj a => by simp [D.beq]
  | .frz a => by simp [D.beq]
theorem D.beqs_refl : ∀ a : List D, D.beqs a a = true
  | [] => rfl
  | a :: as => by simp [D.beqs, D.beq_refl a, D.beqs_refl as]
end
instance : DecidableEq D := fun a b => decidable_of_iff (D.beq a b = true) ⟨D.beq_eq, fun h => h ▸ D.beq_refl a⟩
mutual
/-- without truth values and objects -/
def D.nb : D → Bool
  | .bl _ => false
  | .obj _ => false
  | .frz _ => false
  | .lst ds => D.nbs ds
  | .tup ds => D.nbs ds
  | _ => true
def D.nbs : List D → Bool
  | [] => true
  | d :: ds => d.nb && D.nbs ds
end
mutual
theorem eqv_nb : ∀ {x y : D}, x.nb = true → y.nb = true → PyData.eqv x.p y.p = decide (x = y)
  | .non, y, _, hy => by cases y <;> first | (simp [D.nb] at hy; done) | (simp [D.p, PyData.eqv]; done) | skip
  | .int a, y, _, hy => by cases y <;> first | (simp [D.nb] at hy; done) | (simp [D.p, PyData.eqv, BEq.beq, instBEqOfDecidableEq])
  | .str a, y, _, hy => by cases y <;> first | (simp [D.nb] at hy; done) | (simp [D.p, PyData.eqv, BEq.beq, instBEqOfDecidableEq])
  | .lst a, y, hx, hy => by
    cases y <;> first | (simp [D.nb] at hy; done) | (simp [D.p, PyData.eqv]; done) | skip
    all_goals simp only [D.p, PyData.eqv, D.lst.injEq, D.tup.injEq]; exact (eqvs_nb (by simpa [D.nb] using hx) (by simpa [D.nb] using hy))
  | .tup a, y, hx, hy => by
    cases y <;> first | (simp [D.nb] at hy; done) | (simp [D.p, PyData.eqv]; done) | skip
    all_goals simp only [D.p, PyData.eqv, D.lst.injEq, D.tup.injEq]; exact (eqvs_nb (by simpa [D.nb] using hx) (by simpa [D.nb] using hy))
  | .bl a, y, hx, _ => by simp [D.nb] at hx
  | .obj a, y, hx, _ => by simp [D.nb] at hx
  | .frz a, y, hx, _ => by simp [D.nb] at hx
theorem eqvs_nb : ∀ {x y : List D}, D.nbs x = true → D.nbs y = true → PyData.eqvAll (D.ps x) (D.ps y) = decide (x = y)
  | [], [], _, _ => rfl
  | [], _ :: _, _, _ => rfl
  | _ :: _, [], _, _ => rfl
  | a :: as, b :: bs, hx, hy => by
    simp only [D.nbs, Bool.and_eq_true] at hx hy
    simp only [D.ps, PyData.eqvAll, eqv_nb hx.1 hy.1, eqvs_nb hx.2 hy.2]
    by_cases h : a = b <;> by_cases h2 : as = bs <;> simp [h, h2]
end
mutual
/-- how deep; whether == may look at it -/
def D.dep : D → Nat
  | .lst ds => D.deps ds + 1
  | .tup ds => D.deps ds + 1
  | _ => 0
def D.deps : List D → Nat
  | [] => 0
  | d :: ds => max d.dep (D.deps ds)
end
mutual
def D.leaf : D → Bool
  | .str s => PyData.strOk s
  | .obj _ => false
  | .frz _ => false
  | .lst ds => D.leafs ds
  | .tup ds => D.leafs ds
  | _ => true
def D.leafs : List D → Bool
  | [] => true
  | d :: ds => d.leaf && D.leafs ds
end
mutual
theorem leaf_p : ∀ {d : D}, d.leaf = true → d.pl = true ∧ d.p.canLay0 = true
  | .non, _ => ⟨rfl, by simp [D.p, PyData.canLay0]⟩
  | .bl _, _ => ⟨rfl, by simp [D.p, PyData.canLay0]⟩
  | .int _, _ => ⟨rfl, by simp [D.p, PyData.canLay0]⟩
  | .str s, h => ⟨rfl, by simpa [D.p, PyData.canLay0, D.leaf] using h⟩
  | .lst ds, h => by
    have := leafs_p (by simpa [D.leaf] using h)
    exact ⟨by simpa [D.pl] using this.1, by simpa [D.p, PyData.canLay0] using this.2⟩
  | .tup ds, h => by
    have := leafs_p (by simpa [D.leaf] using h)
    exact ⟨by simpa [D.pl] using this.1, by simpa [D.p, PyData.canLay0] using this.2⟩
  | .obj _, h => by simp [D.leaf] at h
  | .frz _, h => by simp [D.leaf] at h
theorem leafs_p : ∀ {ds : List D}, D.leafs ds = true → D.pls ds = true ∧ PyData.canLayAll0 (D.ps ds) = true
  | [], _ => ⟨rfl, by simp [D.ps, PyData.canLayAll0]⟩
  | d :: ds, h => by
    simp only [D.leafs, Bool.and_eq_true] at h
    have h1 := leaf_p h.1
    have h2 := leafs_p h.2
    simp [D.pls, D.ps, PyData.canLayAll0, h1, h2]
end
mutual
theorem dep_p : ∀ d : D, PyData.depth d.p ≤ d.dep + 1
  | .non => by simp [D.p, PyData.depth]
  | .bl _ => by simp [D.p, PyData.depth]
  | .int _ => by simp [D.p, PyData.depth]
  | .str s => by simp [D.p, PyData.depth]
  | .lst ds => by
    have := deps_p ds
    simp only [D.p, PyData.depth, D.dep]
    omega
  | .tup ds => by
    have := deps_p ds
    simp only [D.p, PyData.depth, D.dep]
    omega
  | .obj _ => by simp [D.p, PyData.depth, PyData.depthKv]
  | .frz _ => by simp [D.p, PyData.depth, PyData.depthKv]
theorem deps_p : ∀ ds : List D, PyData.depthAll (D.ps ds) ≤ D.deps ds + 1
  | [] => by simp [D.ps, PyData.depthAll]
  | d :: ds => by
    have h1 := dep_p d
    have h2 := deps_p ds
    simp only [D.ps, PyData.depthAll, D.deps]
    omega
end
/-- == may look at it -/
def okc (d : D) : Prop := d.leaf = true ∧ d.dep ≤ 60
theorem okc.sh {d : D} (h : okc d) : SeqAt.shaped d.p = true := by
  have h1 := (leaf_p h.1).2
  have h2 := dep_p d
  have h3 := h.2
  unfold SeqAt.shaped
  rw [h1, Bool.true_and]
  exact decide_eq_true (by omega)
theorem okc.pl {d : D} (h : okc d) : d.pl = true := (leaf_p h.1).1
variable {Rb : Bool → Prop}
theorem z_eqD {x y : D} (hx : okc x) (hy : okc y) (nx : x.nb = true) (ny : y.nb = true) (q : Rb (decide (x = y))) : cop .eq x y Rb := z_eqI hx.pl hy.pl hx.sh hy.sh (by rw [eqv_nb nx ny]; exact q)
theorem z_neD {x y : D} (hx : okc x) (hy : okc y) (nx : x.nb = true) (ny : y.nb = true) (q : Rb (!decide (x = y))) : cop .ne x y Rb := by
  have := z_eqD (Rb := fun c => Rb (!c)) hx hy nx ny q
  exact this
theorem any_eqv {x : D} (hx : x.nb = true) : ∀ {ds : List D}, D.nbs ds = true → (ds.any fun z => PyData.eqv z.p x.p) = decide (x ∈ ds)
  | [], _ => by simp
  | d :: ds, h => by
    simp only [D.nbs, Bool.and_eq_true] at h
    rw [List.any_cons, eqv_nb h.1 hx, any_eqv hx h.2]
    by_cases e : d = x
    · subst e; simp
    · have : ¬ x = d := fun z => e z.symm
      simp [e, this]
theorem z_inT {x : D} {ds : List D} (hx : okc x) (hy : okc (.tup ds)) (nx : x.nb = true) (ny : D.nbs ds = true) (q : Rb (decide (x ∈ ds))) : cop .in_ x (.tup ds) Rb := by
  refine (?_ : x.pl = true ∧ D.pls ds = true ∧ SeqAt.shaped x.p = true ∧ SeqAt.shaped (.tuple (D.ps ds)) = true ∧ Rb (ds.any fun z => PyData.eqv z.p x.p))
  refine ⟨hx.pl, by simpa [D.pl] using hy.pl, hx.sh, by simpa [D.p] using hy.sh, ?_⟩
  rw [any_eqv nx ny]
  exact q
theorem z_ninT {x : D} {ds : List D} (hx : okc x) (hy : okc (.tup ds)) (nx : x.nb = true) (ny : D.nbs ds = true) (q : Rb (!decide (x ∈ ds))) : cop .notin x (.tup ds) Rb := by
  refine (?_ : x.pl = true ∧ D.pls ds = true ∧ SeqAt.shaped x.p = true ∧ SeqAt.shaped (.tuple (D.ps ds)) = true ∧ Rb (!ds.any fun z => PyData.eqv z.p x.p))
  refine ⟨hx.pl, by simpa [D.pl] using hy.pl, hx.sh, by simpa [D.p] using hy.sh, ?_⟩
  rw [any_eqv nx ny]
  exact q
theorem z_inL {x : D} {ds : List D} (hx : okc x) (hy : okc (.lst ds)) (nx : x.nb = true) (ny : D.nbs ds = true) (q : Rb (decide (x ∈ ds))) : cop .in_ x (.lst ds) Rb := by
  refine (?_ : x.pl = true ∧ D.pls ds = true ∧ SeqAt.shaped x.p = true ∧ SeqAt.shaped (.list (D.ps ds)) = true ∧ Rb (ds.any fun z => PyData.eqv z.p x.p))
  refine ⟨hx.pl, by simpa [D.pl] using hy.pl, hx.sh, by simpa [D.p] using hy.sh, ?_⟩
  rw [any_eqv nx ny]
  exact q
end
end VL
namespace T
open PySem PySem.Spec PyProof.Rows VL
local macro_rules | `(tactic| sizeOf_list_dec) => `(tactic| first
  | with_reducible refine x_int ?_ | with_reducible refine x_bl ?_ | with_reducible refine x_non ?_ | with_reducible refine x_str ?_ | with_reducible refine x_glo ?_ | with_reducible refine x_bin ?_ | with_reducible refine x_neg ?_ | with_reducible refine x_not ?_ | with_reducible refine x_cmp ?_ | with_reducible refine x_chain ?_ | with_reducible refine x_and ?_ | with_reducible refine x_or ?_ | with_reducible refine x_ite ?_ | with_reducible refine x_tup ?_ | with_reducible refine x_lst ?_ | with_reducible refine x_ix ?_ | with_reducible refine x_sq ?_ | with_reducible refine x_bi ?_ | with_reducible refine x_isi ?_ | with_reducible refine x_call ?_ | with_reducible refine x_sl ?_ | with_reducible refine x_ext ?_
  | with_reducible refine x_anil ?_ | with_reducible refine x_acons ?_ | with_reducible refine x_slst ?_ | with_reducible refine x_stup ?_ | with_reducible refine x_ono ?_ | with_reducible refine x_osome ?_ | with_reducible refine x_seq ?_ | with_reducible refine x_asg ?_ | with_reducible refine x_own ?_ | with_reducible refine x_ret ?_ | with_reducible refine x_if ?_ | with_reducible refine x_for ?_ | with_reducible refine x_exp ?_ | with_reducible refine x_unp ?_ | with_reducible refine x_par ?_ | with_reducible refine x_parN ?_ | with_reducible refine x_jrng1 ?_ | with_reducible refine x_jrngd ?_ | with_reducible refine x_irng1 ?_ | with_reducible refine x_irngd ?_ | with_reducible refine x_jit ?_ | with_reducible refine x_iit ?_ | with_reducible refine x_nil ?_
  | ((with_reducible apply x_var); · rfl) | ((with_reducible apply x_varo); · rfl) | ((with_reducible apply x_vvar); · rfl) | ((with_reducible apply x_vown); · rfl) | ((with_reducible apply x_v); · rfl) | ((with_reducible apply x_qlst); · rfl) | ((with_reducible apply x_qtup); · rfl) | ((with_reducible apply x_qown); · rfl) | ((with_reducible apply x_q); · rfl) | ((with_reducible apply x_aug1); · rfl) | ((with_reducible apply x_app1); · rfl)
  | with_reducible refine z_len ?_ | with_reducible refine z_add ?_ | with_reducible refine z_sub ?_ | with_reducible refine z_lt ?_ | with_reducible refine z_le ?_ | with_reducible refine z_gt ?_ | with_reducible refine z_ge ?_ | with_reducible refine z_eq ?_ | with_reducible refine z_ne ?_ | with_reducible refine z_eqB ?_ | with_reducible refine z_neB ?_ | ((with_reducible apply z_eqST); (focus decide +kernel)) | ((with_reducible apply z_eqSF); (focus decide +kernel)) | with_reducible refine z_eqS ?_ | with_reducible refine y_int ?_
  | with_reducible refine z_absI ?_ | with_reducible refine z_max ?_ | with_reducible refine z_min ?_ | with_reducible refine z_tuple ?_ | with_reducible refine z_list ?_ | with_reducible refine z_int1 ?_
  | ((with_reducible apply x_lcn); (focus rfl); (focus first | exact trivial | assumption)) | ((with_reducible apply y_bind); (focus rfl); (focus first | exact trivial | assumption))
  | with_reducible refine y_tblNT ?_ | with_reducible refine y_tblNF ?_ | with_reducible refine y_blNT ?_ | with_reducible refine y_blNF ?_ | with_reducible refine y_tblT ?_ | with_reducible refine y_tblF ?_ | with_reducible refine y_blT ?_ | with_reducible refine y_blF ?_
  | with_reducible refine y_bl (fun hk => ?_) (fun hk => ?_) | with_reducible refine y_tbl (fun hk => ?_) (fun hk => ?_) | with_reducible refine y_tru ?_
  | ((with_reducible apply y_asg); · decide))
theorem fit_known {d : D} (h : fit d = true) : known d = true := by
  cases d <;> first | rfl | cases h
theorem fit_plainT {d : D} (h : fit d = true) : plainT d := ⟨fit_known h, fun xs e => by
  subst e
  obtain ⟨h1, h2⟩ := fit_tup h
  exact ⟨line6 h1, fun x hx => fit_known (h2 x hx)⟩⟩
def tlen : D → Nat
  | .tup xs => xs.length
  | .lst xs => xs.length
  | _ => 0
def tat : D → Nat → D
  | .tup xs, i => xs.getD i .non
  | _, _ => .non
def isTable : D → Bool
  | .tup rows => rows.all areInts && (decide (rows.length = 0) || rows.all fun r => decide (tlen r = tlen (rows.getD 0 .non)))
  | _ => false
def isPoly (d : D) : Bool := areInts d && (decide (tlen d = 0) || decide (tat d (tlen d - 1) ≠ .int 0))
def arePairs : D → Bool
  | .tup rows => rows.all fun r => areInts r && decide (tlen r = 2)
  | _ => false
theorem areInts_tup {d : D} (h : areInts d = true) : ∃ ns : List Int, d = .tup (ns.map D.int) := by
  cases d with
  | tup xs =>
    have key : ∀ xs : List D, xs.all isInt = true → ∃ ns : List Int, xs = ns.map D.int := by
      intro xs
      induction xs with
      | nil => intro _; exact ⟨[], rfl⟩
      | cons x xs ih =>
        intro h
        simp only [List.all_cons, Bool.and_eq_true] at h
        obtain ⟨ns, rfl⟩ := ih h.2
        cases x <;> first | (exfalso; have := h.1; simp [isInt] at this; done) | skip
        rename_i i
        exact ⟨i :: ns, rfl⟩
    obtain ⟨ns, rfl⟩ := key xs h
    exact ⟨ns, rfl⟩
  | _ => cases h
def wf_is_table : WF G := fun ds g Q => ∃ d, ds = [d] ∧ fit d = true ∧ Q (.bl (isTable d)) 2 g
theorem sp_is_table : ∀ (ds : List D) (g : G) (Pq : Pd G), ds.length = 1 → wf_is_table ds g Pq → VL.wS [(1, wf_are_ints)] cs_is_table (endP Pq) (env0 ck_is_table.N.length ds) g := by
  rintro ds g Q _ ⟨d, rfl, hf, q⟩
  obtain ⟨t, ht, h1, h2, h3, h4⟩ := isi_all (fit_known hf)
  show VL.wS _ (.seq _ _) _ [.dat d 1, .no] _
  repeat sizeOf_list_dec
  refine ⟨t, _, ht, h4, _, rfl, _, rfl, fun hk => ?_, fun hk => ?_⟩
  · have e : isTable d = false := by cases d <;> first | rfl | cases hk
    rw [e] at q
    exact ⟨_, rfl, q⟩
  · obtain ⟨rows, rfl⟩ : ∃ xs, d = .tup xs := by
      cases d <;> first | exact ⟨_, rfl⟩ | cases hk
    obtain ⟨hl, hm⟩ := fit_tup hf
    repeat sizeOf_list_dec
    refine y_lc (fun x => .bl (areInts x)) 2 (by decide) rfl (line6 hl) (fun x hx K hK => ?_) ?_
    · show VL.wE _ _ [.dat (.tup rows) 1, .dat x 1] _ _
      repeat sizeOf_list_dec
      exact y_call rfl rfl ⟨x, rfl, fit_plainT (hm x hx), hK⟩
    refine x_slst (z_allM ?_)
    refine ⟨_, rfl, ?_⟩
    cases hr : rows.all areInts with
    | false =>
      have e : isTable (.tup rows) = false := by simp [isTable, hr]
      rw [e] at q
      exact ⟨_, rfl, q⟩
    | true =>
      refine ⟨_, rfl, ?_⟩
      show VL.wS _ (.seq _ _) _ [.dat (.tup rows) 1, .no] _
      have e : isTable (.tup rows) = (decide (rows.length = 0) || rows.all fun r => decide (tlen r = tlen (rows.getD 0 .non))) := by simp [isTable, hr]
      rw [e] at q
      repeat sizeOf_list_dec
      · rename_i hk
        have : rows.length = 0 := Int.natCast_eq_zero.mp (of_decide_eq_true hk)
        rw [decide_eq_true this] at q
        exact q
      · rename_i hk
        have n0 : rows.length ≠ 0 := fun z => of_decide_eq_false hk (by rw [z]; rfl)
        rw [decide_eq_false n0, Bool.false_or] at q
        repeat sizeOf_list_dec
        refine y_lc (fun x => .bl (decide (tlen x = tlen (rows.getD 0 .non)))) 2 (by decide) rfl (line6 hl) (fun x hx K hK => ?_) ?_
        · show VL.wE _ _ [.dat (.tup rows) 1, .dat x 1] _ _
          have ha : ∀ x ∈ rows, ∃ ns : List Int, x = .tup (ns.map D.int) := fun x hx => areInts_tup (List.all_eq_true.mp hr x hx)
          obtain ⟨ns, rfl⟩ := ha x hx
          have h0 : rows[0]? = some (rows.getD 0 .non) := by
            cases rows with
            | nil => exact absurd rfl n0
            | cons a b => rfl
          obtain ⟨ms, hms⟩ := ha _ (List.mem_of_getElem? h0)
          repeat sizeOf_list_dec
          refine y_ix (e := rows.getD 0 .non) ?_ ?_
          · unfold L2.atI L2.ixN
            cases rows with
            | nil => exact absurd rfl n0
            | cons a b => simp
          rw [hms]
          repeat sizeOf_list_dec
          rw [hms] at hK
          have e2 : (decide (((List.map D.int ns).length : Int) = ((List.map D.int ms).length : Int))) = decide (tlen (.tup (ns.map D.int)) = tlen (.tup (ms.map D.int))) := by
            simp only [tlen]
            exact decide_eq_decide.mpr Int.ofNat_inj
          rw [e2]
          exact hK
        · exact x_slst (z_allM q)
def wf_is_poly : WF G := fun ds g Q => ∃ d, ds = [d] ∧ fit d = true ∧ Q (.bl (isPoly d)) 2 g
theorem atI_last {xs : List D} (h : 0 < xs.length) : L2.atI xs (-1) = some (xs.getD (xs.length - 1) .non) := by
  have h1 : xs.length - 1 < xs.length := by omega
  have e : L2.ixN xs.length (-1) = some (xs.length - 1) := by
    unfold L2.ixN
    simp
    omega
  unfold L2.atI
  rw [e]
  simp [List.getD, h1]
theorem sp_is_poly : ∀ (ds : List D) (g : G) (Pq : Pd G), ds.length = 1 → wf_is_poly ds g Pq → VL.wS [(1, wf_are_ints)] cs_is_poly (endP Pq) (env0 ck_is_poly.N.length ds) g := by
  rintro ds g Q _ ⟨d, rfl, hf, q⟩
  show VL.wS _ (.seq _ _) _ [.dat d 1] _
  repeat sizeOf_list_dec
  refine y_call rfl rfl ⟨d, rfl, fit_plainT hf, _, rfl, fun hk => ?_, fun hk => ?_⟩
  · obtain ⟨ns, rfl⟩ := areInts_tup hk
    have e : isPoly (.tup (ns.map D.int)) = (decide (ns.length = 0) || decide ((ns.map D.int).getD (ns.length - 1) .non ≠ .int 0)) := by
      unfold isPoly
      rw [hk, Bool.true_and]
      simp only [tlen, tat, List.length_map]
    rw [e] at q
    repeat sizeOf_list_dec
    · rename_i h
      have : ns.length = 0 := by simpa using of_decide_eq_true h
      rw [decide_eq_true this] at q
      exact q
    · rename_i h
      have n0 : 0 < ns.length := Nat.pos_of_ne_zero fun z => of_decide_eq_false h (by rw [List.length_map, z]; rfl)
      rw [decide_eq_false (by omega), Bool.false_or] at q
      repeat sizeOf_list_dec
      have h1 : ns.length - 1 < ns.length := by omega
      have eg : (ns.map D.int).getD (ns.length - 1) .non = .int (ns.getD (ns.length - 1) 0) := by simp [List.getD, h1]
      refine y_ix (e := .int (ns.getD (ns.length - 1) 0)) ?_ ?_
      · rw [atI_last (by rw [List.length_map]; exact n0), List.length_map, eg]
      repeat sizeOf_list_dec
      rw [eg] at q
      have e2 : decide (D.int (ns.getD (ns.length - 1) 0) ≠ D.int 0) = !decide (ns.getD (ns.length - 1) 0 = 0) := by
        by_cases z : ns.getD (ns.length - 1) 0 = 0 <;> simp [z]
      rw [e2] at q
      exact q
  · have e : isPoly d = false := by unfold isPoly; rw [hk, Bool.false_and]
    rw [e] at q
    exact q
def wf_are_pairs : WF G := fun ds g Q => ∃ d, ds = [d] ∧ fit d = true ∧ Q (.bl (arePairs d)) 2 g
theorem sp_are_pairs : ∀ (ds : List D) (g : G) (Pq : Pd G), ds.length = 1 → wf_are_pairs ds g Pq → VL.wS [(1, wf_are_ints)] cs_are_pairs (endP Pq) (env0 ck_are_pairs.N.length ds) g := by
  rintro ds g Q _ ⟨d, rfl, hf, q⟩
  obtain ⟨t, ht, h1, h2, h3, h4⟩ := isi_all (fit_known hf)
  show VL.wS _ (.seq _ _) _ [.dat d 1, .no] _
  repeat sizeOf_list_dec
  refine ⟨t, _, ht, h4, _, rfl, fun hk => ?_, fun hk => ?_⟩
  · obtain ⟨rows, rfl⟩ : ∃ xs, d = .tup xs := by
      cases d <;> first | exact ⟨_, rfl⟩ | cases hk
    obtain ⟨hl, hm⟩ := fit_tup hf
    repeat sizeOf_list_dec
    refine y_lc (fun r => .bl (areInts r && decide (tlen r = 2))) 2 (by decide) rfl (line6 hl) (fun x hx K hK => ?_) ?_
    · show VL.wE _ _ [.dat (.tup rows) 1, .dat x 1] _ _
      repeat sizeOf_list_dec
      refine y_call rfl rfl ⟨x, rfl, fit_plainT (hm x hx), _, rfl, fun hr => ?_, fun hr => ?_⟩
      · obtain ⟨ns, rfl⟩ := areInts_tup hr
        rw [hr, Bool.true_and] at hK
        repeat sizeOf_list_dec
        have e2 : (decide (((List.map D.int ns).length : Int) = 2)) = decide (tlen (.tup (ns.map D.int)) = 2) := by
          simp only [tlen]
          exact decide_eq_decide.mpr (by omega)
        rw [e2]
        exact hK
      · rw [hr, Bool.false_and] at hK
        exact hK
    · exact x_slst (z_allM q)
  · have e : arePairs d = false := by cases d <;> first | rfl | cases hk
    rw [e] at q
    exact q
def isSmall : D → Bool
  | .int i => decide (0 ≤ i ∧ i ≤ 10000)
  | _ => false
/-- a field of a kind -/
def isField (d : D) (k : Str) : Bool :=
  if k = "int" then isInt d else if k = "small" then isSmall d else if k = "ints" then areInts d else if k = "table" then isTable d else if k = "poly" then isPoly d else arePairs d
def wf_is_field : WF G := fun ds g Q => ∃ d k, ds = [d, .str k] ∧ fit d = true ∧ Q (.bl (isField d k)) 2 g
theorem sp_is_field : ∀ (ds : List D) (g : G) (Pq : Pd G), ds.length = 2 → wf_is_field ds g Pq → VL.wS [(1, wf_is_poly), (1, wf_are_pairs), (1, wf_is_table), (1, wf_are_ints), (1, wf_is_int)] cs_is_field (endP Pq) (env0 ck_is_field.N.length ds) g := by
  rintro ds g Q _ ⟨d, k, rfl, hf, q⟩
  show VL.wS _ (.seq _ _) _ [.dat d 1, .dat (.str k) 1] _
  unfold isField at q
  repeat sizeOf_list_dec
  · rename_i hk
    rw [if_pos (of_decide_eq_true hk)] at q
    repeat sizeOf_list_dec
    exact y_call rfl rfl ⟨d, rfl, fit_known hf, q⟩
  rename_i hk
  rw [if_neg (of_decide_eq_false hk)] at q
  repeat sizeOf_list_dec
  · rename_i hk
    rw [if_pos (of_decide_eq_true hk)] at q
    repeat sizeOf_list_dec
    refine y_call rfl rfl ⟨d, rfl, fit_known hf, _, rfl, fun hr => ?_, fun hr => ?_⟩
    · obtain ⟨i, rfl⟩ : ∃ i, d = .int i := by
        cases d <;> first | exact ⟨_, rfl⟩ | cases hr
      repeat sizeOf_list_dec
      refine ite_of (fun h0 => ?_) (fun h0 => ?_)
      · repeat sizeOf_list_dec
        have e : isSmall (.int i) = decide (i ≤ 10000) := by
          have := of_decide_eq_true h0
          exact decide_eq_decide.mpr ⟨fun z => z.2, fun z => ⟨this, z⟩⟩
        rw [e] at q
        exact q
      · have e : isSmall (.int i) = false := decide_eq_false fun z => of_decide_eq_false h0 z.1
        rw [e] at q
        exact q
    · have e : isSmall d = false := by cases d <;> first | rfl | cases hr
      rw [e] at q
      exact q
  rename_i hk
  rw [if_neg (of_decide_eq_false hk)] at q
  repeat sizeOf_list_dec
  · rename_i hk
    rw [if_pos (of_decide_eq_true hk)] at q
    repeat sizeOf_list_dec
    exact y_call rfl rfl ⟨d, rfl, fit_plainT hf, q⟩
  rename_i hk
  rw [if_neg (of_decide_eq_false hk)] at q
  repeat sizeOf_list_dec
  · rename_i hk
    rw [if_pos (of_decide_eq_true hk)] at q
    repeat sizeOf_list_dec
    exact y_call rfl rfl ⟨d, rfl, hf, q⟩
  rename_i hk
  rw [if_neg (of_decide_eq_false hk)] at q
  repeat sizeOf_list_dec
  · rename_i hk
    rw [if_pos (of_decide_eq_true hk)] at q
    repeat sizeOf_list_dec
    exact y_call rfl rfl ⟨d, rfl, hf, q⟩
  · rename_i hk
    rw [if_neg (of_decide_eq_false hk)] at q
    repeat sizeOf_list_dec
    exact y_call rfl rfl ⟨d, rfl, hf, q⟩
end T
namespace T
open PySem PySem.Spec PyProof.Rows VL
local macro_rules | `(tactic| sizeOf_list_dec) => `(tactic| first
  | with_reducible refine x_int ?_ | with_reducible refine x_bl ?_ | with_reducible refine x_non ?_ | with_reducible refine x_str ?_ | with_reducible refine x_glo ?_ | with_reducible refine x_bin ?_ | with_reducible refine x_neg ?_ | with_reducible refine x_not ?_ | with_reducible refine x_cmp ?_ | with_reducible refine x_chain ?_ | with_reducible refine x_and ?_ | with_reducible refine x_or ?_ | with_reducible refine x_ite ?_ | with_reducible refine x_tup ?_ | with_reducible refine x_lst ?_ | with_reducible refine x_ix ?_ | with_reducible refine x_sq ?_ | with_reducible refine x_bi ?_ | with_reducible refine x_isi ?_ | with_reducible refine x_call ?_ | with_reducible refine x_sl ?_ | with_reducible refine x_ext ?_
  | with_reducible refine x_anil ?_ | with_reducible refine x_acons ?_ | with_reducible refine x_slst ?_ | with_reducible refine x_stup ?_ | with_reducible refine x_ono ?_ | with_reducible refine x_osome ?_ | with_reducible refine x_seq ?_ | with_reducible refine x_asg ?_ | with_reducible refine x_own ?_ | with_reducible refine x_ret ?_ | with_reducible refine x_if ?_ | with_reducible refine x_for ?_ | with_reducible refine x_exp ?_ | with_reducible refine x_unp ?_ | with_reducible refine x_par ?_ | with_reducible refine x_parN ?_ | with_reducible refine x_jrng1 ?_ | with_reducible refine x_jrngd ?_ | with_reducible refine x_irng1 ?_ | with_reducible refine x_irngd ?_ | with_reducible refine x_jit ?_ | with_reducible refine x_iit ?_ | with_reducible refine x_nil ?_
  | ((with_reducible apply x_var); · rfl) | ((with_reducible apply x_varo); · rfl) | ((with_reducible apply x_vvar); · rfl) | ((with_reducible apply x_vown); · rfl) | ((with_reducible apply x_v); · rfl) | ((with_reducible apply x_qlst); · rfl) | ((with_reducible apply x_qtup); · rfl) | ((with_reducible apply x_qown); · rfl) | ((with_reducible apply x_q); · rfl) | ((with_reducible apply x_aug1); · rfl) | ((with_reducible apply x_app1); · rfl)
  | with_reducible refine z_len ?_ | with_reducible refine z_add ?_ | with_reducible refine z_sub ?_ | with_reducible refine z_lt ?_ | with_reducible refine z_le ?_ | with_reducible refine z_gt ?_ | with_reducible refine z_ge ?_ | with_reducible refine z_eq ?_ | with_reducible refine z_ne ?_ | with_reducible refine z_eqB ?_ | with_reducible refine z_neB ?_ | ((with_reducible apply z_eqST); (focus decide +kernel)) | ((with_reducible apply z_eqSF); (focus decide +kernel)) | with_reducible refine z_eqS ?_ | with_reducible refine y_int ?_
  | with_reducible refine z_absI ?_ | with_reducible refine z_max ?_ | with_reducible refine z_min ?_ | with_reducible refine z_tuple ?_ | with_reducible refine z_list ?_ | with_reducible refine z_int1 ?_
  | ((with_reducible apply x_lcn); (focus rfl); (focus first | exact trivial | assumption)) | ((with_reducible apply y_bind); (focus rfl); (focus first | exact trivial | assumption))
  | with_reducible refine y_tblNT ?_ | with_reducible refine y_tblNF ?_ | with_reducible refine y_blNT ?_ | with_reducible refine y_blNF ?_ | with_reducible refine y_tblT ?_ | with_reducible refine y_tblF ?_ | with_reducible refine y_blT ?_ | with_reducible refine y_blF ?_
  | with_reducible refine y_bl (fun hk => ?_) (fun hk => ?_) | with_reducible refine y_tbl (fun hk => ?_) (fun hk => ?_) | with_reducible refine y_tru ?_
  | ((with_reducible apply y_asg); · decide))
/-- the kinds of a word's fields -/
def kindsOf (d : D) : Option (List Str) := match d with
  | .str s => (kd_FORMS.lookup s).bind fun x => match x with
    | .tup ks => some (ks.map fun k => match k with | .str s => s | _ => "")
    | _ => none
  | _ => none
def isClaim : D → Bool
  | .tup xs => match kindsOf (xs.getD 0 .non) with
    | none => false
    | some ks => decide (xs.length = ks.length + 1) && ((List.range ks.length).all fun k => isField (xs.getD (1 + k) .non) (ks.getD k ""))
  | _ => false
theorem kd_all : kd_FORMS.all (fun x => match x.2 with
    | .tup ks => decide (ks.length ≤ 10) && ks.all fun k => match k with | .str s => true | _ => false
    | _ => false) = true := by decide +kernel
theorem lookup_mem {α : Type} {s : Str} : ∀ {l : List (Str × α)} {d : α}, l.lookup s = some d → (s, d) ∈ l
  | [], d, h => by cases h
  | (t, e) :: l, d, h => by
    unfold List.lookup at h
    split at h
    · rename_i q
      have : s = t := by simpa using q
      subst this
      cases h
      exact List.mem_cons_self
    · exact List.mem_cons_of_mem _ (lookup_mem h)
theorem kinds_some {s : Str} {d : D} (h : kd_FORMS.lookup s = some d) : ∃ ks : List Str, d = .tup (ks.map D.str) ∧ ks.length ≤ 10 ∧ kindsOf (.str s) = some ks := by
  have k := List.all_eq_true.mp kd_all _ (lookup_mem h)
  cases d with
  | tup xs =>
    simp only [Bool.and_eq_true, decide_eq_true_eq] at k
    have e : xs = (xs.map fun k => match k with | .str s => s | _ => ("" : Str)).map D.str := by
      rw [List.map_map]
      conv => lhs; rw [← List.map_id xs]
      refine List.map_congr_left fun x hx => ?_
      have := List.all_eq_true.mp k.2 x hx
      cases x <;> first | rfl | cases this
    refine ⟨_, by rw [← e], by simpa using k.1, ?_⟩
    unfold kindsOf
    simp only [h]
    rfl
  | _ => cases k
theorem kinds_none {s : Str} (h : kd_FORMS.lookup s = none) : kindsOf (.str s) = none := by
  unfold kindsOf
  simp only [h]
  rfl
theorem x_kin {fs : List (Nat × WF G)} {i : Nat} {x s : Str} {kvs : List (Str × D)} {neg : Bool} {g : G} {Q : Pd G} (q : Q (.bl (if neg = true then !(kvs.lookup s).isSome else (kvs.lookup s).isSome)) 2 g) : hS fs (.kin i x kvs neg) [.str s] g Q := q
theorem x_kix {fs : List (Nat × WF G)} {i : Nat} {x s : Str} {kvs : List (Str × D)} {d : D} {g : G} {Q : Pd G} (h : kvs.lookup s = some d) (q : Q d 2 g) : hS fs (.kix i x kvs) [.str s] g Q := ⟨d, h, q⟩
theorem atI_nat {xs : List D} {k : Nat} {z : Int} (h : k < xs.length) (e : z = (k : Int)) : L2.atI xs z = some (xs.getD k .non) := by
  subst e
  have e : L2.ixN xs.length (k : Int) = some k := by
    unfold L2.ixN
    simp [h]
  unfold L2.atI
  rw [e]
  simp [List.getD, h]
def wf_is_claim : WF G := fun ds g Q => ∃ d, ds = [d] ∧ fit d = true ∧ Q (.bl (isClaim d)) 2 g
theorem sp_is_claim : ∀ (ds : List D) (g : G) (Pq : Pd G), ds.length = 1 → wf_is_claim ds g Pq → VL.wS [(2, wf_is_field)] cs_is_claim (endP Pq) (env0 ck_is_claim.N.length ds) g := by
  rintro ds g Q _ ⟨d, rfl, hf, q⟩
  obtain ⟨t, ht, h1, h2, h3, h4⟩ := isi_all (fit_known hf)
  show VL.wS _ (.seq _ _) _ [.dat d 1, .no, .no] _
  repeat sizeOf_list_dec
  refine ⟨t, _, ht, h4, _, rfl, _, rfl, fun hk => ?_, fun hk => ?_⟩
  · have e : isClaim d = false := by cases d <;> first | rfl | cases hk
    rw [e] at q
    exact ⟨_, rfl, q⟩
  obtain ⟨xs, rfl⟩ : ∃ xs, d = .tup xs := by
    cases d <;> first | exact ⟨_, rfl⟩ | cases hk
  obtain ⟨hl, hm⟩ := fit_tup hf
  repeat sizeOf_list_dec
  · rename_i h
    have z : xs.length = 0 := Int.natCast_eq_zero.mp (of_decide_eq_true h)
    have : xs = [] := List.length_eq_zero_iff.mp z
    subst this
    exact q
  rename_i h
  have z : 0 < xs.length := Nat.pos_of_ne_zero fun z => of_decide_eq_false h (by rw [z]; rfl)
  repeat sizeOf_list_dec
  refine y_ix (e := xs.getD 0 .non) (atI_nat z rfl) ?_
  have f0 : fit (xs.getD 0 .non) = true := by
    refine hm _ (List.mem_of_getElem? (i := 0) ?_)
    simp [List.getD, z]
  obtain ⟨t0, ht0, a1, a2, a3, a4⟩ := isi_all (fit_known f0)
  refine ⟨t0, _, ht0, a3, _, rfl, _, rfl, fun hk => ?_, fun hk => ?_⟩
  · have e : isClaim (.tup xs) = false := by
      have : kindsOf (xs.getD 0 .non) = none := by
        cases hd : xs.getD 0 .non <;> rw [hd] at hk <;> first | rfl | cases hk
      simp only [isClaim, this]
    rw [e] at q
    exact ⟨_, rfl, q⟩
  obtain ⟨s, hs⟩ : ∃ s, xs.getD 0 .non = .str s := by
    cases hd : xs.getD 0 .non <;> rw [hd] at hk <;> first | exact ⟨_, rfl⟩ | cases hk
  repeat sizeOf_list_dec
  refine y_ix (e := xs.getD 0 .non) (atI_nat z rfl) ?_
  rw [hs]
  repeat sizeOf_list_dec
  refine x_kin ?_
  show ∃ k, tru (.bl (!(kd_FORMS.lookup s).isSome)) = some k ∧ _
  cases hlk : kd_FORMS.lookup s with
  | none =>
    have e : isClaim (.tup xs) = false := by
      simp only [isClaim, hs, kinds_none hlk]
    rw [e] at q
    exact ⟨_, rfl, q⟩
  | some fd =>
    obtain ⟨ks, rfl, kl, hks⟩ := kinds_some hlk
    refine ⟨_, rfl, ?_⟩
    show VL.wS _ (.seq _ _) _ [.dat (.tup xs) 1, .no, .no] _
    repeat sizeOf_list_dec
    refine y_ix (e := .str s) (hs ▸ atI_nat z rfl) ?_
    repeat sizeOf_list_dec
    refine x_kix hlk ?_
    refine y_asg (by decide) ?_
    show VL.wS _ (.seq _ _) _ [.dat (.tup xs) 1, .dat (.tup (ks.map D.str)) 2, .no] _
    have e : isClaim (.tup xs) = (decide (xs.length = ks.length + 1) && ((List.range ks.length).all fun k => isField (xs.getD (1 + k) .non) (ks.getD k ""))) := by
      simp only [isClaim, hs, hks]
    rw [e] at q
    repeat sizeOf_list_dec
    · rename_i hk
      have hk2 : xs.length = ks.length + 1 := by
        have := of_decide_eq_true hk
        rw [List.length_map] at this
        omega
      rw [decide_eq_true hk2, Bool.true_and] at q
      repeat sizeOf_list_dec
      rw [List.length_map]
      refine ⟨⟨by omega, by omega⟩, ?_⟩
      refine y_lc (fun x => match x with | .int k => .bl (isField (xs.getD (1 + k.toNat) .non) (ks.getD k.toNat "")) | _ => .non) 2 (by decide) rfl ?_ (fun x hx K hK => ?_) ?_
      · rw [rngD_len]
        exact line6 (by omega)
      · unfold rngD at hx
        obtain ⟨i, hi, rfl⟩ := List.mem_map.mp hx
        rw [List.mem_range] at hi
        have hi2 : i < ks.length := by omega
        rw [Int.zero_add] at hK ⊢
        show VL.wE _ _ [.dat (.tup xs) 1, .dat (.tup (ks.map D.str)) 2, .dat (.int (i : Nat)) 2] _ _
        repeat sizeOf_list_dec
        refine y_ix (e := xs.getD (1 + i) .non) (atI_nat (by omega) (by omega)) ?_
        repeat sizeOf_list_dec
        refine y_ix (e := .str (ks.getD i "")) ?_ ?_
        · rw [atI_nat (k := i) (by rw [List.length_map]; exact hi2) rfl]
          simp [List.getD, hi2]
        repeat sizeOf_list_dec
        refine y_call rfl rfl ⟨_, _, rfl, hm _ (List.mem_of_getElem? (i := 1 + i) ?_), hK⟩
        have : 1 + i < xs.length := by omega
        simp [List.getD, this]
      · have ee : (rngD 0 (ks.length : Nat)).map (fun x => match x with | .int k => D.bl (isField (xs.getD (1 + k.toNat) .non) (ks.getD k.toNat "")) | _ => .non) = ((List.range ks.length).map fun k => isField (xs.getD (1 + k) .non) (ks.getD k "")).map D.bl := by
          unfold rngD
          rw [List.map_map, List.map_map, show ((ks.length : Int) - 0).toNat = ks.length by omega]
          refine List.map_congr_left fun i _ => ?_
          simp
        rw [ee]
        refine x_slst ⟨_, rfl, ?_⟩
        rw [List.all_map]
        exact q
    · rename_i hk
      have hk2 : xs.length ≠ ks.length + 1 := fun z => by
        have := of_decide_eq_false hk
        rw [List.length_map] at this
        omega
      rw [decide_eq_false hk2, Bool.false_and] at q
      exact q
/-- a reason of the row at a place -/
def isReason (d : D) (at_ : Int) : Bool := match d with
  | .tup xs => decide (D.tup xs = .tup [.str "digits"]) || (decide (D.tup xs = .tup [.str "trial"]) ||
    ((decide (xs.getD 0 .non = .str "rows") || decide (xs.getD 0 .non = .str "rests")) && ((xs.drop 1).all (fun x => match x with | .int i => decide (0 ≤ i) | _ => false) &&
      (decide (xs.getD 0 .non = .str "rests") || (xs.drop 1).all (fun x => match x with | .int i => decide (i < at_) | _ => false)))))
  | _ => false
end T
namespace T
open PySem PySem.Spec PyProof.Rows VL
local macro_rules | `(tactic| sizeOf_list_dec) => `(tactic| first
  | with_reducible refine x_int ?_ | with_reducible refine x_bl ?_ | with_reducible refine x_non ?_ | with_reducible refine x_str ?_ | with_reducible refine x_glo ?_ | with_reducible refine x_bin ?_ | with_reducible refine x_neg ?_ | with_reducible refine x_not ?_ | with_reducible refine x_cmp ?_ | with_reducible refine x_chain ?_ | with_reducible refine x_and ?_ | with_reducible refine x_or ?_ | with_reducible refine x_ite ?_ | with_reducible refine x_tup ?_ | with_reducible refine x_lst ?_ | with_reducible refine x_ix ?_ | with_reducible refine x_sq ?_ | with_reducible refine x_bi ?_ | with_reducible refine x_isi ?_ | with_reducible refine x_call ?_ | with_reducible refine x_sl ?_ | with_reducible refine x_ext ?_
  | with_reducible refine x_anil ?_ | with_reducible refine x_acons ?_ | with_reducible refine x_slst ?_ | with_reducible refine x_stup ?_ | with_reducible refine x_ono ?_ | with_reducible refine x_osome ?_ | with_reducible refine x_seq ?_ | with_reducible refine x_asg ?_ | with_reducible refine x_own ?_ | with_reducible refine x_ret ?_ | with_reducible refine x_if ?_ | with_reducible refine x_for ?_ | with_reducible refine x_exp ?_ | with_reducible refine x_unp ?_ | with_reducible refine x_par ?_ | with_reducible refine x_parN ?_ | with_reducible refine x_jrng1 ?_ | with_reducible refine x_jrngd ?_ | with_reducible refine x_irng1 ?_ | with_reducible refine x_irngd ?_ | with_reducible refine x_jit ?_ | with_reducible refine x_iit ?_ | with_reducible refine x_nil ?_
  | ((with_reducible apply x_var); · rfl) | ((with_reducible apply x_varo); · rfl) | ((with_reducible apply x_vvar); · rfl) | ((with_reducible apply x_vown); · rfl) | ((with_reducible apply x_v); · rfl) | ((with_reducible apply x_qlst); · rfl) | ((with_reducible apply x_qtup); · rfl) | ((with_reducible apply x_qown); · rfl) | ((with_reducible apply x_q); · rfl) | ((with_reducible apply x_aug1); · rfl) | ((with_reducible apply x_app1); · rfl)
  | with_reducible refine z_len ?_ | with_reducible refine z_add ?_ | with_reducible refine z_sub ?_ | with_reducible refine z_lt ?_ | with_reducible refine z_le ?_ | with_reducible refine z_gt ?_ | with_reducible refine z_ge ?_ | with_reducible refine z_eq ?_ | with_reducible refine z_ne ?_ | with_reducible refine z_eqB ?_ | with_reducible refine z_neB ?_ | ((with_reducible apply z_eqST); (focus decide +kernel)) | ((with_reducible apply z_eqSF); (focus decide +kernel)) | with_reducible refine z_eqS ?_ | with_reducible refine y_int ?_
  | with_reducible refine z_absI ?_ | with_reducible refine z_max ?_ | with_reducible refine z_min ?_ | with_reducible refine z_tuple ?_ | with_reducible refine z_list ?_ | with_reducible refine z_int1 ?_
  | ((with_reducible apply x_lcn); (focus rfl); (focus first | exact trivial | assumption)) | ((with_reducible apply y_bind); (focus rfl); (focus first | exact trivial | assumption))
  | with_reducible refine y_tblNT ?_ | with_reducible refine y_tblNF ?_ | with_reducible refine y_blNT ?_ | with_reducible refine y_blNF ?_ | with_reducible refine y_tblT ?_ | with_reducible refine y_tblF ?_ | with_reducible refine y_blT ?_ | with_reducible refine y_blF ?_
  | with_reducible refine y_bl (fun hk => ?_) (fun hk => ?_) | with_reducible refine y_tbl (fun hk => ?_) (fun hk => ?_) | with_reducible refine y_tru ?_
  | ((with_reducible apply y_asg); · decide))
theorem eqv_one (s : Str) : ∀ x : D, PyData.eqv (D.tup [.str s]).p x.p = decide (x = .tup [.str s])
  | .tup [] => by simp [D.p, D.ps, PyData.eqv, PyData.eqvAll]
  | .tup [.str t] => by
    simp only [D.p, D.ps, PyData.eqv, PyData.eqvAll, Bool.and_true]
    by_cases h : t = s
    · subst h; simp
    · have : ¬ s = t := fun z => h z.symm
      simp [h, this]
  | .tup [.non] => by simp [D.p, D.ps, PyData.eqv, PyData.eqvAll]
  | .tup [.bl _] => by simp [D.p, D.ps, PyData.eqv, PyData.eqvAll]
  | .tup [.int _] => by simp [D.p, D.ps, PyData.eqv, PyData.eqvAll]
  | .tup [.lst _] => by simp [D.p, D.ps, PyData.eqv, PyData.eqvAll]
  | .tup [.tup _] => by simp [D.p, D.ps, PyData.eqv, PyData.eqvAll]
  | .tup [.obj _] => by simp [D.p, D.ps, PyData.eqv, PyData.eqvAll]
  | .tup [.frz _] => by simp [D.p, D.ps, PyData.eqv, PyData.eqvAll]
  | .tup (a :: b :: c) => by
    have e : PyData.eqv (D.tup [.str s]).p (D.tup (a :: b :: c)).p = (PyData.eqv (D.str s).p a.p && false) := rfl
    rw [e, Bool.and_false]
    simp
  | .non => by simp [D.p, PyData.eqv]
  | .bl _ => by simp [D.p, PyData.eqv]
  | .int _ => by simp [D.p, PyData.eqv]
  | .str _ => by simp [D.p, PyData.eqv]
  | .lst _ => by simp [D.p, PyData.eqv]
  | .obj _ => by simp [D.p, PyData.eqv]
  | .frz _ => by simp [D.p, PyData.eqv]
theorem eqv_str (s : Str) : ∀ x : D, PyData.eqv (D.str s).p x.p = decide (x = .str s)
  | .str t => by
    simp only [D.p, PyData.eqv]
    by_cases h : t = s
    · subst h; simp
    · have : ¬ s = t := fun z => h z.symm
      simp [h, this]
  | .non => by simp [D.p, PyData.eqv]
  | .bl _ => by simp [D.p, PyData.eqv]
  | .int _ => by simp [D.p, PyData.eqv]
  | .tup _ => by simp [D.p, PyData.eqv]
  | .lst _ => by simp [D.p, PyData.eqv]
  | .obj _ => by simp [D.p, PyData.eqv]
  | .frz _ => by simp [D.p, PyData.eqv]
theorem cut_drop {α : Type} (ds : List α) (k : Nat) : (ds.drop (HT.sIx ds.length 0 (some (k : Int)))).take (HT.sIx ds.length ds.length none - HT.sIx ds.length 0 (some (k : Int))) = ds.drop k := by
  rw [HT.sIx_none, HT.sIx_nat]
  rcases Nat.le_total k ds.length with h | h
  · rw [Nat.min_eq_left h, List.take_of_length_le (by rw [List.length_drop]; omega)]
  · rw [Nat.min_eq_right h, List.drop_of_length_le (Nat.le_refl _), List.drop_of_length_le h, Nat.sub_self, List.take_nil]
theorem cut_drop1 {α : Type} (ds : List α) : (ds.drop (HT.sIx ds.length 0 (some 1))).take (HT.sIx ds.length ds.length none - HT.sIx ds.length 0 (some 1)) = ds.drop 1 := cut_drop ds 1
theorem nn_int {x : D} (h : isInt x = true) : ∃ i, x = .int i := by cases x <;> first | exact ⟨_, rfl⟩ | cases h
def geI (k : Int) : D → Bool
  | .int i => decide (k ≤ i)
  | _ => false
def ltI (k : Int) : D → Bool
  | .int i => decide (i < k)
  | _ => false
theorem isReason_tup (xs : List D) (k : Int) : isReason (.tup xs) k = (decide (D.tup xs = .tup [.str "digits"]) || (decide (D.tup xs = .tup [.str "trial"]) ||
    ((decide (xs.getD 0 .non = .str "rows") || decide (xs.getD 0 .non = .str "rests")) && ((xs.drop 1).all (geI 0) && (decide (xs.getD 0 .non = .str "rests") || (xs.drop 1).all (ltI k)))))) := by
  have e1 : (fun x : D => match x with | .int i => decide (0 ≤ i) | _ => false) = geI 0 := by
    funext x; cases x <;> rfl
  have e2 : (fun x : D => match x with | .int i => decide (i < k) | _ => false) = ltI k := by
    funext x; cases x <;> rfl
  rw [← e1, ← e2]
  rfl
def wf_is_reason : WF G := fun ds g Q => ∃ d k, ds = [d, .int k] ∧ fit d = true ∧ okc d ∧ Q (.bl (isReason d k)) 2 g
theorem okc_item {xs : List D} (h : okc (.tup xs)) : ∀ x ∈ xs, okc x := by
  intro x hx
  have key : ∀ xs : List D, D.leafs xs = true → ∀ x ∈ xs, x.leaf = true ∧ x.dep ≤ D.deps xs := by
    intro xs
    induction xs with
    | nil => intro _ x hx; cases hx
    | cons y ys ih =>
      intro h x hx
      simp only [D.leafs, Bool.and_eq_true] at h
      simp only [D.deps]
      rcases List.mem_cons.mp hx with rfl | q
      · exact ⟨h.1, by omega⟩
      · have := ih h.2 x q
        exact ⟨this.1, by omega⟩
  have h1 := h.1
  have h2 := h.2
  simp only [D.leaf, D.dep] at h1 h2
  have := key xs h1 x hx
  exact ⟨this.1, by omega⟩
theorem sp_is_reason : ∀ (ds : List D) (g : G) (Pq : Pd G), ds.length = 2 → wf_is_reason ds g Pq → VL.wS [(1, wf_is_int)] cs_is_reason (endP Pq) (env0 ck_is_reason.N.length ds) g := by
  rintro ds g Q _ ⟨d, at_, rfl, hf, ho, q⟩
  obtain ⟨t, ht, h1, h2, h3, h4⟩ := isi_all (fit_known hf)
  show VL.wS _ (.seq _ _) _ [.dat d 1, .dat (.int at_) 1, .no] _
  repeat sizeOf_list_dec
  refine ⟨by decide, ?_⟩
  repeat sizeOf_list_dec
  refine ⟨by decide, ?_⟩
  repeat sizeOf_list_dec
  refine ⟨by decide, ?_⟩
  refine ⟨ho.pl, rfl, ho.sh, by decide +kernel, ?_⟩
  rw [show ([D.tup [.str "digits"], .tup [.str "trial"]].any fun z => PyData.eqv z.p d.p) = (decide (d = .tup [.str "digits"]) || decide (d = .tup [.str "trial"])) from by
    rw [List.any_cons, List.any_cons, List.any_nil, eqv_one, eqv_one, Bool.or_false]]
  refine y_tbl (fun hk => ?_) (fun hk => ?_)
  · repeat sizeOf_list_dec
    have e : isReason d at_ = true := by
      rw [Bool.or_eq_true, decide_eq_true_eq, decide_eq_true_eq] at hk
      rcases hk with h | h <;> (subst h; rw [isReason_tup]; simp)
    rw [e] at q
    exact q
  rw [Bool.or_eq_false_iff, decide_eq_false_iff_not, decide_eq_false_iff_not] at hk
  obtain ⟨hk1, hk2⟩ := hk
  repeat sizeOf_list_dec
  refine ⟨t, _, ht, h4, _, rfl, _, rfl, fun hk => ?_, fun hk => ?_⟩
  · have e : isReason d at_ = false := by cases d <;> first | rfl | cases hk
    rw [e] at q
    repeat sizeOf_list_dec
    exact q
  obtain ⟨xs, rfl⟩ : ∃ xs, d = .tup xs := by
    cases d <;> first | exact ⟨_, rfl⟩ | cases hk
  obtain ⟨hl, hm⟩ := fit_tup hf
  rw [isReason_tup, decide_eq_false hk1, Bool.false_or, decide_eq_false hk2, Bool.false_or] at q
  repeat sizeOf_list_dec
  · rename_i h
    have z : xs.length = 0 := Int.natCast_eq_zero.mp (of_decide_eq_true h)
    have : xs = [] := List.length_eq_zero_iff.mp z
    subst this
    exact q
  rename_i h
  have z : 0 < xs.length := Nat.pos_of_ne_zero fun z => of_decide_eq_false h (by rw [z]; rfl)
  have m0 : xs.getD 0 .non ∈ xs := List.mem_of_getElem? (i := 0) (by simp [List.getD, z])
  have o0 := okc_item ho _ m0
  repeat sizeOf_list_dec
  refine y_ix (e := xs.getD 0 .non) (atI_nat z rfl) ?_
  repeat sizeOf_list_dec
  refine ⟨by decide, ?_⟩
  refine ⟨o0.pl, rfl, o0.sh, by decide +kernel, ?_⟩
  rw [show ([D.str "rows", .str "rests"].any fun z => PyData.eqv z.p (xs.getD 0 .non).p) = (decide (xs.getD 0 .non = .str "rows") || decide (xs.getD 0 .non = .str "rests")) from by
    rw [List.any_cons, List.any_cons, List.any_nil, eqv_str, eqv_str, Bool.or_false]]
  cases hr : (decide (xs.getD 0 .non = .str "rows") || decide (xs.getD 0 .non = .str "rests")) with
  | false =>
    rw [hr, Bool.false_and] at q
    repeat sizeOf_list_dec
    exact q
  | true =>
    rw [hr, Bool.true_and] at q
    repeat sizeOf_list_dec
    rw [if_pos rfl, cut_drop1]
    repeat sizeOf_list_dec
    refine y_lc (fun x => .bl (geI 0 x)) 2 (by decide) rfl (line6 (by rw [List.length_drop]; omega)) (fun x hx K hK => ?_) ?_
    · show VL.wE _ _ [.dat (.tup xs) 1, .dat (.int at_) 1, .dat x 1] _ _
      repeat sizeOf_list_dec
      refine y_call rfl rfl ⟨x, rfl, fit_known (hm x (List.mem_of_mem_drop hx)), _, rfl, fun hr => ?_, fun hr => ?_⟩
      · obtain ⟨i, rfl⟩ := nn_int hr
        repeat sizeOf_list_dec
        exact hK
      · have e : geI 0 x = false := by cases x <;> first | rfl | cases hr
        rw [e] at hK
        exact hK
    refine x_slst (z_allM ?_)
    refine ⟨_, rfl, ?_⟩
    cases ha : (xs.drop 1).all (geI 0) with
    | false =>
      rw [ha, Bool.false_and] at q
      repeat sizeOf_list_dec
      exact q
    | true =>
      rw [ha, Bool.true_and] at q
      repeat sizeOf_list_dec
      refine y_ix (e := xs.getD 0 .non) (atI_nat z rfl) ?_
      repeat sizeOf_list_dec
      have hs : ∃ s : Str, xs.getD 0 .non = .str s := by
        rw [Bool.or_eq_true, decide_eq_true_eq, decide_eq_true_eq] at hr
        rcases hr with h | h <;> exact ⟨_, h⟩
      obtain ⟨s, hs⟩ := hs
      rw [hs] at q ⊢
      have es : decide (D.str s = .str "rests") = decide (s = "rests") := by
        by_cases h : s = "rests" <;> simp [h]
      rw [es] at q
      repeat sizeOf_list_dec
      · rename_i hk
        rw [hk] at q
        exact q
      · rename_i hk
        rw [hk, Bool.false_or] at q
        repeat sizeOf_list_dec
        rw [if_pos rfl, cut_drop1]
        repeat sizeOf_list_dec
        refine y_lc (fun x => .bl (ltI at_ x)) 2 (by decide) rfl (line6 (by rw [List.length_drop]; omega)) (fun x hx K hK => ?_) ?_
        · show VL.wE _ _ [.dat (.tup xs) 1, .dat (.int at_) 1, .dat x 1] _ _
          have : geI 0 x = true := List.all_eq_true.mp ha x hx
          obtain ⟨i, rfl⟩ : ∃ i, x = .int i := by cases x <;> first | exact ⟨_, rfl⟩ | cases this
          repeat sizeOf_list_dec
          exact hK
        · exact x_slst (z_allM q)
end T
namespace T
open PySem PySem.Spec PyProof.Rows VL
local macro_rules | `(tactic| sizeOf_list_dec) => `(tactic| first
  | with_reducible refine x_int ?_ | with_reducible refine x_bl ?_ | with_reducible refine x_non ?_ | with_reducible refine x_str ?_ | with_reducible refine x_glo ?_ | with_reducible refine x_bin ?_ | with_reducible refine x_neg ?_ | with_reducible refine x_not ?_ | with_reducible refine x_cmp ?_ | with_reducible refine x_chain ?_ | with_reducible refine x_and ?_ | with_reducible refine x_or ?_ | with_reducible refine x_ite ?_ | with_reducible refine x_tup ?_ | with_reducible refine x_lst ?_ | with_reducible refine x_ix ?_ | with_reducible refine x_sq ?_ | with_reducible refine x_bi ?_ | with_reducible refine x_isi ?_ | with_reducible refine x_call ?_ | with_reducible refine x_sl ?_ | with_reducible refine x_ext ?_
  | with_reducible refine x_anil ?_ | with_reducible refine x_acons ?_ | with_reducible refine x_slst ?_ | with_reducible refine x_stup ?_ | with_reducible refine x_ono ?_ | with_reducible refine x_osome ?_ | with_reducible refine x_seq ?_ | with_reducible refine x_asg ?_ | with_reducible refine x_own ?_ | with_reducible refine x_ret ?_ | with_reducible refine x_if ?_ | with_reducible refine x_for ?_ | with_reducible refine x_exp ?_ | with_reducible refine x_unp ?_ | with_reducible refine x_par ?_ | with_reducible refine x_parN ?_ | with_reducible refine x_jrng1 ?_ | with_reducible refine x_jrngd ?_ | with_reducible refine x_irng1 ?_ | with_reducible refine x_irngd ?_ | with_reducible refine x_jit ?_ | with_reducible refine x_iit ?_ | with_reducible refine x_nil ?_
  | ((with_reducible apply x_var); · rfl) | ((with_reducible apply x_varo); · rfl) | ((with_reducible apply x_vvar); · rfl) | ((with_reducible apply x_vown); · rfl) | ((with_reducible apply x_v); · rfl) | ((with_reducible apply x_qlst); · rfl) | ((with_reducible apply x_qtup); · rfl) | ((with_reducible apply x_qown); · rfl) | ((with_reducible apply x_q); · rfl) | ((with_reducible apply x_aug1); · rfl) | ((with_reducible apply x_app1); · rfl)
  | with_reducible refine z_len ?_ | with_reducible refine z_add ?_ | with_reducible refine z_sub ?_ | with_reducible refine z_lt ?_ | with_reducible refine z_le ?_ | with_reducible refine z_gt ?_ | with_reducible refine z_ge ?_ | with_reducible refine z_eq ?_ | with_reducible refine z_ne ?_ | with_reducible refine z_eqB ?_ | with_reducible refine z_neB ?_ | ((with_reducible apply z_eqST); (focus decide +kernel)) | ((with_reducible apply z_eqSF); (focus decide +kernel)) | with_reducible refine z_eqS ?_ | with_reducible refine y_int ?_
  | with_reducible refine z_absI ?_ | with_reducible refine z_max ?_ | with_reducible refine z_min ?_ | with_reducible refine z_tuple ?_ | with_reducible refine z_list ?_ | with_reducible refine z_int1 ?_
  | ((with_reducible apply x_lcn); (focus rfl); (focus first | exact trivial | assumption)) | ((with_reducible apply y_bind); (focus rfl); (focus first | exact trivial | assumption))
  | with_reducible refine y_tblNT ?_ | with_reducible refine y_tblNF ?_ | with_reducible refine y_blNT ?_ | with_reducible refine y_blNF ?_ | with_reducible refine y_tblT ?_ | with_reducible refine y_tblF ?_ | with_reducible refine y_blT ?_ | with_reducible refine y_blF ?_
  | with_reducible refine y_bl (fun hk => ?_) (fun hk => ?_) | with_reducible refine y_tbl (fun hk => ?_) (fun hk => ?_) | with_reducible refine y_tru ?_
  | ((with_reducible apply y_asg); · decide))
/-- how wide two factors are together, at most -/
def widN (xs ys : List Int) : Nat := ((List.range xs.length).map fun k => rl (xs.getD k 0).natAbs + rl (ys.getD k 0).natAbs).foldr max 0
theorem foldr_max : ∀ (l : List Nat) (m : Nat), (m = 0 ∨ m ∈ l) → (∀ y ∈ l, y ≤ m) → m = l.foldr max 0
  | [], m, h, _ => by
    rcases h with h | h
    · exact h
    · cases h
  | x :: l, m, h, hy => by
    show m = max x (l.foldr max 0)
    have hx := hy x List.mem_cons_self
    by_cases q : m = 0 ∨ m ∈ l
    · have := foldr_max l m q fun y h => hy y (List.mem_cons_of_mem _ h)
      omega
    · have mx : m = x := by
        rcases h with h | h
        · exact absurd (.inl h) q
        · rcases List.mem_cons.mp h with h | h
          · exact h
          · exact absurd (.inr h) q
      have le : ∀ l : List Nat, (∀ y ∈ l, y ≤ m) → l.foldr max 0 ≤ m := by
        intro l
        induction l with
        | nil => intro _; exact Nat.zero_le _
        | cons z l ih =>
          intro h
          have h1 := h z List.mem_cons_self
          have h2 := ih fun y hy => h y (List.mem_cons_of_mem _ hy)
          show max z (l.foldr max 0) ≤ m
          omega
      have := le l fun y h => hy y (List.mem_cons_of_mem _ h)
      omega
def bndN (xs ys : List Int) (c : Int) : Nat := xs.length * 10000 ^ widN xs ys + c.natAbs
theorem rowN_shift {n : Nat} (h : 0 < n) : ∀ k, rowN (n * 10000 ^ k) = List.replicate k 0 ++ rowN n
  | 0 => by simp
  | k + 1 => by
    have e : n * 10000 ^ (k + 1) = 10000 * (n * 10000 ^ k) := by rw [Nat.pow_succ, ← Nat.mul_assoc, Nat.mul_comm]
    have p : 0 < n * 10000 ^ k := Nat.mul_pos h (Nat.pow_pos (by decide))
    rw [rowN_step (by omega), e, Nat.mul_mod_right, Nat.mul_div_cancel_left _ (by decide), rowN_shift h k]
    rfl
def wf_bound_of : WF G := fun ds g Q => ∃ (xs ys : List Int) (c : Int), ds = [.tup (xs.map D.int), .tup (ys.map D.int), .int c] ∧ xs.length = ys.length ∧ xs.length < 10000 ∧ (∀ x ∈ xs, smI x) ∧ (∀ x ∈ ys, smI x) ∧ smI c ∧ Q (rowD (bndN xs ys c)) 2 g
theorem smI_getD {xs : List Int} (h : ∀ x ∈ xs, smI x) (k : Nat) : smI (xs.getD k 0) := by
  rcases Nat.lt_or_ge k xs.length with q | q
  · exact h _ (List.mem_of_getElem? (i := k) (by simp [List.getD, q]))
  · have : xs.getD k 0 = 0 := by simp [List.getD, q]
    rw [this]
    show 0 < 10000 ^ 1000
    exact Nat.pow_pos (by decide)
theorem rl_sm {n : Nat} (h : n < 10000 ^ 1000) : rl n ≤ 1000 := by
  rcases Nat.lt_or_ge 1000 (rl n) with q | q
  · have z : 0 < n := by
      rcases Nat.eq_zero_or_pos n with z | z
      · rw [z] at q
        have : rl 0 = 0 := rl_zero.mpr rfl
        omega
      · exact z
    have h1 := rl_le n z
    have h2 : 10000 ^ 1000 ≤ 10000 ^ (rl n - 1) := Nat.pow_le_pow_right (by decide) (by omega)
    omega
  · exact q
theorem z_addL {xs ys : List D} {l l' : Nat} {R1 : D → Nat → Prop} (h : xs.length + ys.length ≤ sizeLine) (q : R1 (.lst (xs ++ ys)) (min l l')) : bop .add (.lst xs) l (.lst ys) l' R1 := ⟨h, q⟩
theorem p4 : 10000 ≤ 10000 ^ 1000 := Nat.le_trans (Nat.le_of_eq (Nat.pow_one 10000).symm) (Nat.pow_le_pow_right (by decide) (by decide))
theorem x_rep {fs : List (Nat × WF G)} {as : CA} {n : CE} {es : VL.Env} {g : G} {Q : Pd G} (h : VL.wA fs as es g fun ds l g1 => ds.length ≤ sizeLine ∧ VL.wE fs n es g1 fun d _ g2 => ∃ k, d = .int k ∧ k < 2 ^ 63 ∧ -(2 ^ 63) ≤ k ∧ ds.length * k.toNat ≤ sizeLine ∧ Q (.lst (List.replicate k.toNat ds).flatten) l g2) : VL.wE fs (.rep as n) es g Q := h
theorem sp_bound_of : ∀ (ds : List D) (g : G) (Pq : Pd G), ds.length = 3 → wf_bound_of ds g Pq → VL.wS [(2, wf_add), (1, wf_row_of)] cs_bound_of (endP Pq) (env0 ck_bound_of.N.length ds) g := by
  rintro ds g Q _ ⟨xs, ys, c, rfl, hl, hn, hx, hy, hc, q⟩
  show VL.wS _ (.seq _ _) _ [.dat (.tup (xs.map D.int)) 1, .dat (.tup (ys.map D.int)) 1, .dat (.int c) 1, .no, .no] _
  repeat sizeOf_list_dec
  refine ⟨by decide, ?_⟩
  repeat sizeOf_list_dec
  rw [List.length_map]
  refine ⟨⟨by omega, by omega⟩, ?_⟩
  refine y_lc (fun x => match x with | .int k => .int ((rl (xs.getD k.toNat 0).natAbs + rl (ys.getD k.toNat 0).natAbs : Nat)) | _ => .non) 2 (by decide) rfl ?_ (fun x hx2 K hK => ?_) ?_
  · rw [rngD_len]
    exact line6 (by omega)
  · unfold rngD at hx2
    obtain ⟨i, hi, rfl⟩ := List.mem_map.mp hx2
    rw [List.mem_range] at hi
    have hi2 : i < xs.length := by omega
    rw [Int.zero_add] at hK ⊢
    show VL.wE _ _ [.dat (.tup (xs.map D.int)) 1, .dat (.tup (ys.map D.int)) 1, .dat (.int c) 1, .no, .dat (.int (i : Nat)) 2] _ _
    repeat sizeOf_list_dec
    refine y_ix (atI_int (k := i) hi2 rfl) ?_
    repeat sizeOf_list_dec
    refine y_call rfl rfl ⟨_, rfl, smI_getD hx i, ?_⟩
    repeat sizeOf_list_dec
    refine y_ix (atI_int (k := i) (by omega) rfl) ?_
    repeat sizeOf_list_dec
    refine y_call rfl rfl ⟨_, rfl, smI_getD hy i, ?_⟩
    repeat sizeOf_list_dec
    rw [List.length_map, List.length_map]
    have e : ((rowN (xs.getD i 0).natAbs).length : Int) + ((rowN (ys.getD i 0).natAbs).length : Int) = ((rl (xs.getD i 0).natAbs + rl (ys.getD i 0).natAbs : Nat) : Int) := by
      rw [Int.natCast_add]
      rfl
    rw [e]
    exact hK
  have em : (rngD 0 (xs.length : Nat)).map (fun x => match x with | .int k => D.int ((rl (xs.getD k.toNat 0).natAbs + rl (ys.getD k.toNat 0).natAbs : Nat)) | _ => .non) = ((List.range xs.length).map fun k => rl (xs.getD k 0).natAbs + rl (ys.getD k 0).natAbs).map fun n : Nat => D.int (n : Nat) := by
    unfold rngD
    rw [List.map_map, List.map_map, show ((xs.length : Int) - 0).toNat = xs.length by omega]
    refine List.map_congr_left fun i _ => ?_
    simp
  rw [em]
  generalize hL : ((List.range xs.length).map fun k => rl (xs.getD k 0).natAbs + rl (ys.getD k 0).natAbs) = L
  have lL : L.length = xs.length := by rw [← hL]; simp
  refine z_addL (by rw [List.length_map, sizeLine_eq]; show 1 + _ ≤ _; omega) ?_
  refine x_slst ⟨(0 :: L.map fun n : Nat => (n : Int)), by rw [List.map_cons, List.map_map]; rfl, Nat.succ_pos _, fun m hm hmax => ?_⟩
  obtain ⟨k, rfl⟩ : ∃ k : Nat, m = k := by
    rcases List.mem_cons.mp hm with h | h
    · exact ⟨0, h⟩
    · obtain ⟨n, _, e⟩ := List.mem_map.mp h
      exact ⟨n, e.symm⟩
  have ek : k = widN xs ys := by
    unfold widN
    rw [hL]
    refine foldr_max L k ?_ fun y hy => ?_
    · rcases List.mem_cons.mp hm with h | h
      · left; omega
      · right
        obtain ⟨n, h1, e⟩ := List.mem_map.mp h
        have : n = k := by omega
        rwa [← this]
    · have := hmax _ (List.mem_cons_of_mem _ (List.mem_map.mpr ⟨y, hy, rfl⟩))
      omega
  have k2 : k ≤ 2000 := by
    rcases List.mem_cons.mp hm with h | h
    · omega
    · obtain ⟨n, h1, e⟩ := List.mem_map.mp h
      rw [← hL] at h1
      obtain ⟨i, _, e2⟩ := List.mem_map.mp h1
      have a1 := rl_sm (smI_getD hx i)
      have a2 := rl_sm (smI_getD hy i)
      omega
  refine y_asg (by decide) ?_
  show VL.wS _ (.seq _ _) _ [.dat (.tup (xs.map D.int)) 1, .dat (.tup (ys.map D.int)) 1, .dat (.int c) 1, .dat (.int (k : Nat)) 2, .no] _
  have rc := rl_sm hc
  have rn : rl xs.length ≤ 1000 := rl_sm (Nat.lt_of_lt_of_le hn p4)
  have fin : ∀ a m : Nat, rl a < 1000000 → a + c.natAbs = bndN xs ys c → VL.wA [(2, wf_add), (1, wf_row_of)] (.cons (.call 1 (.cons (.bi .abs (.cons (.var 2) .nil)) .nil)) .nil) [.dat (.tup (xs.map D.int)) 1, .dat (.tup (ys.map D.int)) 1, .dat (.int c) 1, .dat (.int (k : Nat)) 2, .no] g fun ds l' g2 => ∃ n w, [(2, wf_add), (1, wf_row_of)][0]? = some (n, w) ∧ (rowD a :: ds).length = n ∧ w (rowD a :: ds) g2 fun d l g => Q d (if 2 ≤ l then 2 else min m l') g := fun a m ha he => by
    repeat sizeOf_list_dec
    refine y_call rfl rfl ⟨_, rfl, hc, ?_⟩
    repeat sizeOf_list_dec
    refine y_call rfl rfl ⟨a, c.natAbs, rfl, ha, by omega, ?_⟩
    rw [he]
    exact q
  have lev : ∀ l : Nat, (if 2 ≤ l then 2 else min 2 (min 2 2)) = 2 := fun l => by split <;> rfl
  repeat sizeOf_list_dec
  · rename_i h
    have z : 0 < xs.length := by
      have := of_decide_eq_true h
      rw [List.length_map] at this
      omega
    repeat sizeOf_list_dec
    refine x_rep ?_
    repeat sizeOf_list_dec
    refine ⟨by decide, ?_⟩
    repeat sizeOf_list_dec
    refine ⟨by omega, by omega, ?_, ?_⟩
    · show 1 * _ ≤ _
      rw [sizeLine_eq]
      omega
    repeat sizeOf_list_dec
    rw [List.length_map]
    refine y_call rfl rfl ⟨xs.length, rfl, Nat.lt_of_lt_of_le hn p4, ?_⟩
    have er : ((List.replicate ((k : Int)).toNat [D.int 0]).flatten ++ (rowN xs.length).map D.int) = (rowN (xs.length * 10000 ^ k)).map D.int := by
      rw [rowN_shift z, List.map_append, List.map_replicate]
      congr 1
      rw [show ((k : Int)).toNat = k by omega]
      clear k2 ek hmax hm fin
      induction k with
      | zero => rfl
      | succ k ih => rw [List.replicate_succ, List.flatten_cons, ih, List.replicate_succ]; rfl
    have ll : ((List.replicate ((k : Int)).toNat [D.int 0]).flatten).length = k := by
      rw [List.length_flatten, List.map_replicate, List.sum_replicate_nat]
      show _ * 1 = _
      omega
    refine z_addL ?_ ?_
    · rw [ll, List.length_map, sizeLine_eq]
      have : (rowN xs.length).length = rl xs.length := rfl
      omega
    rw [er]
    refine fin _ _ ?_ ?_
    · show (rowN _).length < _
      rw [rowN_shift z, List.length_append, List.length_replicate]
      have : (rowN xs.length).length = rl xs.length := rfl
      omega
    · unfold bndN
      rw [ek]
  · rename_i h
    have z : xs.length = 0 := by
      have := of_decide_eq_false h
      rw [List.length_map] at this
      omega
    repeat sizeOf_list_dec
    refine ⟨by decide, ?_⟩
    have e0 : ([] : List D) = (rowN 0).map D.int := by rw [rowN_zero]; rfl
    rw [e0]
    refine fin 0 _ ?_ ?_
    · rw [rl_zero.mpr rfl]
      decide
    · unfold bndN
      rw [z, Nat.zero_mul]
end T
namespace T
open PySem PySem.Spec PyProof.Rows VL
local macro_rules | `(tactic| sizeOf_list_dec) => `(tactic| first
  | with_reducible refine x_int ?_ | with_reducible refine x_bl ?_ | with_reducible refine x_non ?_ | with_reducible refine x_str ?_ | with_reducible refine x_glo ?_ | with_reducible refine x_bin ?_ | with_reducible refine x_neg ?_ | with_reducible refine x_not ?_ | with_reducible refine x_cmp ?_ | with_reducible refine x_chain ?_ | with_reducible refine x_and ?_ | with_reducible refine x_or ?_ | with_reducible refine x_ite ?_ | with_reducible refine x_tup ?_ | with_reducible refine x_lst ?_ | with_reducible refine x_ix ?_ | with_reducible refine x_sq ?_ | with_reducible refine x_bi ?_ | with_reducible refine x_isi ?_ | with_reducible refine x_call ?_ | with_reducible refine x_sl ?_ | with_reducible refine x_ext ?_
  | with_reducible refine x_anil ?_ | with_reducible refine x_acons ?_ | with_reducible refine x_slst ?_ | with_reducible refine x_stup ?_ | with_reducible refine x_ono ?_ | with_reducible refine x_osome ?_ | with_reducible refine x_seq ?_ | with_reducible refine x_asg ?_ | with_reducible refine x_own ?_ | with_reducible refine x_ret ?_ | with_reducible refine x_if ?_ | with_reducible refine x_for ?_ | with_reducible refine x_exp ?_ | with_reducible refine x_unp ?_ | with_reducible refine x_par ?_ | with_reducible refine x_parN ?_ | with_reducible refine x_jrng1 ?_ | with_reducible refine x_jrngd ?_ | with_reducible refine x_irng1 ?_ | with_reducible refine x_irngd ?_ | with_reducible refine x_jit ?_ | with_reducible refine x_iit ?_ | with_reducible refine x_nil ?_
  | ((with_reducible apply x_var); · rfl) | ((with_reducible apply x_varo); · rfl) | ((with_reducible apply x_vvar); · rfl) | ((with_reducible apply x_vown); · rfl) | ((with_reducible apply x_v); · rfl) | ((with_reducible apply x_qlst); · rfl) | ((with_reducible apply x_qtup); · rfl) | ((with_reducible apply x_qown); · rfl) | ((with_reducible apply x_q); · rfl) | ((with_reducible apply x_aug1); · rfl) | ((with_reducible apply x_app1); · rfl)
  | with_reducible refine z_len ?_ | with_reducible refine z_add ?_ | with_reducible refine z_sub ?_ | with_reducible refine z_lt ?_ | with_reducible refine z_le ?_ | with_reducible refine z_gt ?_ | with_reducible refine z_ge ?_ | with_reducible refine z_eq ?_ | with_reducible refine z_ne ?_ | with_reducible refine z_eqB ?_ | with_reducible refine z_neB ?_ | ((with_reducible apply z_eqST); (focus decide +kernel)) | ((with_reducible apply z_eqSF); (focus decide +kernel)) | with_reducible refine z_eqS ?_ | with_reducible refine y_int ?_
  | with_reducible refine z_absI ?_ | with_reducible refine z_max ?_ | with_reducible refine z_min ?_ | with_reducible refine z_tuple ?_ | with_reducible refine z_list ?_ | with_reducible refine z_int1 ?_
  | ((with_reducible apply x_lcn); (focus rfl); (focus first | exact trivial | assumption)) | ((with_reducible apply y_bind); (focus rfl); (focus first | exact trivial | assumption))
  | with_reducible refine y_tblNT ?_ | with_reducible refine y_tblNF ?_ | with_reducible refine y_blNT ?_ | with_reducible refine y_blNF ?_ | with_reducible refine y_tblT ?_ | with_reducible refine y_tblF ?_ | with_reducible refine y_blT ?_ | with_reducible refine y_blF ?_
  | with_reducible refine y_bl (fun hk => ?_) (fun hk => ?_) | with_reducible refine y_tbl (fun hk => ?_) (fun hk => ?_) | with_reducible refine y_tru ?_
  | ((with_reducible apply y_asg); · decide))
theorem rest_emod (x : Int) {p : Nat} (hp : 0 < p) : ((restN x.natAbs p (decide (x < 0)) : Nat) : Int) = x % (p : Nat) := by
  unfold restN
  by_cases h : x < 0
  · rw [decide_eq_true h, if_pos rfl, Int.natCast_emod, Int.ofNat_sub (Nat.le_of_lt (Nat.mod_lt _ hp)), Int.natCast_emod]
    have e : (x.natAbs : Int) = -x := by omega
    rw [e]
    obtain ⟨k, hk⟩ : ∃ k, (p : Int) - -x % (p : Int) = x + (p : Int) * k := ⟨1 + -x / (p : Int), by
      have := Int.emod_add_mul_ediv (-x) (p : Int)
      rw [Int.mul_add, Int.mul_one]
      omega⟩
    rw [hk, Int.add_mul_emod_self_left]
  · rw [decide_eq_false h, if_neg Bool.false_ne_true, Int.natCast_emod]
    have e : (x.natAbs : Int) = x := by omega
    rw [e]
def dotN (p : Nat) (xs ys : List Int) (i : Nat) : Nat := ((List.range i).map fun k => restN (xs.getD k 0).natAbs p (decide (xs.getD k 0 < 0)) * restN (ys.getD k 0).natAbs p (decide (ys.getD k 0 < 0))).sum
theorem dotN_step (p : Nat) (xs ys : List Int) (i : Nat) : dotN p xs ys (i + 1) = dotN p xs ys i + restN (xs.getD i 0).natAbs p (decide (xs.getD i 0 < 0)) * restN (ys.getD i 0).natAbs p (decide (ys.getD i 0 < 0)) := by
  unfold dotN
  rw [List.range_succ, List.map_append, List.sum_append_nat]
  simp
theorem sum_snoc (l : List Int) (x : Int) : (l ++ [x]).sum = l.sum + x := by
  induction l with
  | nil => simp
  | cons y l ih => rw [List.cons_append, List.sum_cons, ih, List.sum_cons, Int.add_assoc]
theorem dotN_mod {p : Nat} (hp : 0 < p) (xs ys : List Int) : ∀ i, ((dotN p xs ys i : Nat) : Int) % (p : Nat) = ((List.range i).map fun k => xs.getD k 0 * ys.getD k 0).sum % (p : Nat)
  | 0 => rfl
  | i + 1 => by
    rw [dotN_step, List.range_succ, List.map_append, List.map_singleton, sum_snoc, Int.natCast_add, Int.add_emod, dotN_mod hp xs ys i, Int.natCast_mul, rest_emod _ hp, rest_emod _ hp, ← Int.mul_emod, ← Int.add_emod]
theorem restN_lt {a p : Nat} {b : Bool} (hp : 0 < p) : restN a p b < p := by
  unfold restN
  split <;> exact Nat.mod_lt _ hp
theorem dotN_le {p : Nat} (hp : 0 < p) (xs ys : List Int) : ∀ i, dotN p xs ys i ≤ i * (p * p)
  | 0 => by simp [dotN]
  | i + 1 => by
    rw [dotN_step, Nat.succ_mul]
    have := dotN_le hp xs ys i
    have a := restN_lt (a := (xs.getD i 0).natAbs) (b := decide (xs.getD i 0 < 0)) hp
    have b := restN_lt (a := (ys.getD i 0).natAbs) (b := decide (ys.getD i 0 < 0)) hp
    have := Nat.mul_le_mul (Nat.le_of_lt a) (Nat.le_of_lt b)
    omega
/-- what by_rests looks at -/
def Rests (xs ys : List Int) (c : Int) (ps : List Int) : Prop := xs.length = ys.length ∧ (∀ k, k < ps.length → pgood ps k) ∧ (∀ p ∈ ps, (dotZ xs ys - c) % p = 0) ∧ bndN xs ys c < prodN (ps.map Int.toNat)
def wf_by_rests : WF G := fun ds g Q => ∃ (xs ys : List Int) (c : Int) (ps : List Int) (b : Bool), ds = [.tup (xs.map D.int), .tup (ys.map D.int), .int c, .tup (ps.map D.int)] ∧ xs.length < 10000 ∧ ps.length ≤ 600 ∧ (∀ x ∈ xs, smI x) ∧ (∀ x ∈ ys, smI x) ∧ smI c ∧
  (b = true ↔ Rests xs ys c ps) ∧ Q (.bl b) 2 g
theorem pgood_lt {ps : List Int} (h : ∀ k, k < ps.length → pgood ps k) : ∀ p ∈ ps, 1000 < p ∧ p < 1000000 := by
  intro p hp
  obtain ⟨k, hk, e⟩ := List.getElem_of_mem hp
  obtain ⟨h1, _, h2⟩ := h k hk
  have e2 : ps.getD k 0 = p := by rw [← e]; simp [List.getD, hk]
  rw [e2] at h1 h2
  have := h2.2.1
  omega
theorem prodN_cons (p : Nat) (ps : List Nat) : prodN (p :: ps) = p * prodN ps := by
  have key : ∀ (l : List Nat) (a : Nat), l.foldl (· * ·) a = a * l.foldl (· * ·) 1 := by
    intro l
    induction l with
    | nil => intro a; simp
    | cons x l ih =>
      intro a
      rw [List.foldl_cons, List.foldl_cons, ih, ih (1 * x), Nat.one_mul, Nat.mul_assoc]
  unfold prodN
  rw [List.foldl_cons, key, Nat.one_mul]
theorem prodN_lt : ∀ {ps : List Nat} {m : Nat}, (∀ p ∈ ps, p < 1000000) → prodN ps ≤ 1000000 ^ ps.length
  | [], _, _ => by simp [prodN]
  | p :: ps, m, h => by
    rw [prodN_cons, List.length_cons, Nat.pow_succ, Nat.mul_comm]
    exact Nat.mul_le_mul (prodN_lt (m := m) fun q hq => h q (List.mem_cons_of_mem _ hq)) (Nat.le_of_lt (h p List.mem_cons_self))
theorem mil_600 : 1000000 ^ 600 < 10000 ^ 1000 := by decide +kernel
theorem rl_of_lt {n k : Nat} (h : n < 10000 ^ k) : rl n ≤ k := by
  rcases Nat.lt_or_ge k (rl n) with q | q
  · have z : 0 < n := by
      rcases Nat.eq_zero_or_pos n with z | z
      · rw [z, rl_zero.mpr rfl] at q
        omega
      · exact z
    have h1 := rl_le n z
    have h2 : 10000 ^ k ≤ 10000 ^ (rl n - 1) := Nat.pow_le_pow_right (by decide) (by omega)
    omega
  · exact q
theorem wid_le {xs ys : List Int} (hx : ∀ x ∈ xs, smI x) (hy : ∀ x ∈ ys, smI x) : widN xs ys ≤ 2000 := by
  have le : ∀ l : List Nat, (∀ y ∈ l, y ≤ 2000) → l.foldr max 0 ≤ 2000 := by
    intro l
    induction l with
    | nil => intro _; exact Nat.zero_le _
    | cons z l ih =>
      intro h
      have h1 := h z List.mem_cons_self
      have h2 := ih fun y hy => h y (List.mem_cons_of_mem _ hy)
      show max z (l.foldr max 0) ≤ 2000
      omega
  refine le _ fun y h => ?_
  obtain ⟨i, _, rfl⟩ := List.mem_map.mp h
  have a1 := rl_sm (smI_getD hx i)
  have a2 := rl_sm (smI_getD hy i)
  omega
theorem bnd_rl {xs ys : List Int} {c : Int} (hn : xs.length < 10000) (hx : ∀ x ∈ xs, smI x) (hy : ∀ x ∈ ys, smI x) (hc : smI c) : rl (bndN xs ys c) < 1000000 := by
  have h1 : bndN xs ys c < 10000 ^ 2003 := by
    have a : xs.length * 10000 ^ widN xs ys ≤ 10000 * 10000 ^ 2000 := Nat.mul_le_mul (Nat.le_of_lt hn) (Nat.pow_le_pow_right (by decide) (wid_le hx hy))
    have b : c.natAbs < 10000 ^ 2000 := Nat.lt_of_lt_of_le hc (Nat.pow_le_pow_right (by decide) (by decide))
    have e : (10000 : Nat) ^ 2003 = 10000 * 10000 * 10000 * 10000 ^ 2000 := by rw [show 2003 = 2000 + 3 by decide, Nat.pow_add, Nat.mul_comm]
    rw [e]
    show xs.length * 10000 ^ widN xs ys + c.natAbs < _
    generalize 10000 ^ 2000 = B at *
    generalize 10000 ^ widN xs ys = W at *
    omega
  have := rl_of_lt h1
  omega
theorem iff_bool (P : Prop) : ∃ b : Bool, b = true ↔ P := ⟨@decide P (Classical.propDecidable _), @decide_eq_true_iff P (Classical.propDecidable _)⟩
def sgD : D → D
  | .int i => .tup [rowD i.natAbs, .bl (decide (i < 0))]
  | _ => .non
theorem sp_by_rests : ∀ (ds : List D) (g : G) (Pq : Pd G), ds.length = 4 → wf_by_rests ds g Pq → VL.wS [(2, wf_compare), (3, wf_bound_of), (1, wf_product_of), (3, wf_rest_of), (1, wf_row_of), (1, wf_are_small_primes)] cs_by_rests (endP Pq) (env0 ck_by_rests.N.length ds) g := by
  rintro ds g Q _ ⟨xs, ys, c, ps, b, rfl, hn, hp, hx, hy, hc, hb, q⟩
  have out : ¬ Rests xs ys c ps → Q (.bl false) 2 g := fun h => by
    have e : b = false := by
      cases b with
      | false => rfl
      | true => exact absurd (hb.mp rfl) h
    rw [e] at q
    exact q
  have out1 : ¬ xs.length = ys.length → Q (.bl false) 2 g := fun h => out fun z => h z.1
  have out2 : ¬ (∀ k, k < ps.length → pgood ps k) → Q (.bl false) 2 g := fun h => out fun z => h z.2.1
  have out3 : ∀ p ∈ ps, ¬ (dotZ xs ys - c) % p = 0 → Q (.bl false) 2 g := fun p hp h => out fun z => h (z.2.2.1 p hp)
  show VL.wS _ (.seq _ _) _ [.dat (.tup (xs.map D.int)) 1, .dat (.tup (ys.map D.int)) 1, .dat (.int c) 1, .dat (.tup (ps.map D.int)) 1, .no, .no, .no, .no, .no, .no, .no] _
  clear out
  repeat sizeOf_list_dec
  · rename_i h
    rw [List.length_map, List.length_map] at h
    refine out1 fun z => ?_
    rw [z] at h
    simp at h
  rename_i h
  have hl : xs.length = ys.length := by
    rw [List.length_map, List.length_map] at h
    simp only [Bool.not_eq_false', decide_eq_true_eq] at h
    omega
  clear h out1
  obtain ⟨b1, hb1⟩ := iff_bool (∀ k, k < ps.length → pgood ps k)
  repeat sizeOf_list_dec
  refine y_call rfl rfl ⟨ps, b1, rfl, by omega, hb1, ?_⟩
  refine ⟨_, rfl, ?_⟩
  cases b1 with
  | false =>
    repeat sizeOf_list_dec
    exact out2 fun z => nomatch hb1.mpr z
  | true =>
  have hg := hb1.mp rfl
  clear out2 hb1
  have pl := pgood_lt hg
  repeat sizeOf_list_dec
  have lm : ∀ zs : List Int, (zs.map D.int).length = zs.length := fun zs => List.length_map ..
  have row : ∀ zs : List Int, (∀ x ∈ zs, smI x) → ∀ x ∈ zs.map D.int, ∃ i, x = .int i ∧ smI i := fun zs hz x hx => by
    obtain ⟨i, hi, rfl⟩ := List.mem_map.mp hx
    exact ⟨i, rfl, hz i hi⟩
  have gt : ∀ (zs : List Int) (k : Nat), k < zs.length → ((zs.map D.int).map sgD)[k]? = some (.tup [rowD (zs.getD k 0).natAbs, .bl (decide (zs.getD k 0 < 0))]) := fun zs k hk => by
    simp [hk, List.getD, sgD]
  have atS : ∀ (zs : List Int) (k : Nat), k < zs.length → L2.atI ((zs.map D.int).map sgD) (k : Int) = some (.tup [rowD (zs.getD k 0).natAbs, .bl (decide (zs.getD k 0 < 0))]) := fun zs k hk => by
    have hk' : k < ((zs.map D.int).map sgD).length := by rw [List.length_map, List.length_map]; exact hk
    rw [atI_nat hk' rfl, List.getD, gt zs k hk]
    rfl
  refine y_lc sgD 2 (by decide) rfl (line6 (by rw [lm]; omega)) (fun x hx2 K hK => ?_) ?_
  · obtain ⟨i, rfl, hi⟩ := row xs hx x hx2
    show VL.wE _ _ [.dat (.tup (xs.map D.int)) 1, .dat (.tup (ys.map D.int)) 1, .dat (.int c) 1, .dat (.tup (ps.map D.int)) 1, .no, .dat (.int i) 1, .no, .no, .no, .no, .no] _ _
    repeat sizeOf_list_dec
    refine y_call rfl rfl ⟨i.natAbs, rfl, hi, ?_⟩
    repeat sizeOf_list_dec
    exact ⟨(by show 2 ≤ _; decide), hK⟩
  refine ⟨2, ⟨by decide, .inl (by split <;> decide)⟩, ?_⟩
  show VL.wS _ (.seq _ _) _ [.dat (.tup (xs.map D.int)) 1, .dat (.tup (ys.map D.int)) 1, .dat (.int c) 1, .dat (.tup (ps.map D.int)) 1, .dat (.lst ((xs.map D.int).map sgD)) 2, .no, .no, .no, .no, .no, .no] _
  repeat sizeOf_list_dec
  refine y_lc sgD 2 (by decide) rfl (line6 (by rw [lm]; omega)) (fun x hx2 K hK => ?_) ?_
  · obtain ⟨i, rfl, hi⟩ := row ys hy x hx2
    show VL.wE _ _ [.dat (.tup (xs.map D.int)) 1, .dat (.tup (ys.map D.int)) 1, .dat (.int c) 1, .dat (.tup (ps.map D.int)) 1, .dat (.lst ((xs.map D.int).map sgD)) 2, .dat (.int i) 1, .no, .no, .no, .no, .no] _ _
    repeat sizeOf_list_dec
    refine y_call rfl rfl ⟨i.natAbs, rfl, hi, ?_⟩
    repeat sizeOf_list_dec
    exact ⟨(by show 2 ≤ _; decide), hK⟩
  refine ⟨2, ⟨by decide, .inl (by split <;> decide)⟩, ?_⟩
  show VL.wS _ (.seq _ _) _ [.dat (.tup (xs.map D.int)) 1, .dat (.tup (ys.map D.int)) 1, .dat (.int c) 1, .dat (.tup (ps.map D.int)) 1, .dat (.lst ((xs.map D.int).map sgD)) 2, .no, .dat (.lst ((ys.map D.int).map sgD)) 2, .no, .no, .no, .no] _
  repeat sizeOf_list_dec
  refine y_call rfl rfl ⟨c.natAbs, rfl, hc, ?_⟩
  refine ⟨2, ⟨by decide, .inl (by decide)⟩, ?_⟩
  show VL.wS _ (.seq _ _) _ [.dat (.tup (xs.map D.int)) 1, .dat (.tup (ys.map D.int)) 1, .dat (.int c) 1, .dat (.tup (ps.map D.int)) 1, .dat (.lst ((xs.map D.int).map sgD)) 2, .no, .dat (.lst ((ys.map D.int).map sgD)) 2, .dat (rowD c.natAbs) 2, .no, .no, .no] _
  repeat sizeOf_list_dec
  refine y_for (l := 1) (by decide) ?_
  refine x_foL (fun i es g' => ∃ s8 s9 s10, es = [.dat (.tup (xs.map D.int)) 1, .dat (.tup (ys.map D.int)) 1, .dat (.int c) 1, .dat (.tup (ps.map D.int)) 1, .dat (.lst ((xs.map D.int).map sgD)) 2, .no, .dat (.lst ((ys.map D.int).map sgD)) 2, .dat (rowD c.natAbs) 2, s8, s9, s10] ∧ NO s8 ∧ NO s9 ∧ NO s10 ∧ g' = g ∧ ∀ k, k < i → (dotZ xs ys - c) % ps.getD k 0 = 0)
    ⟨_, _, _, rfl, trivial, trivial, trivial, rfl, fun k h => absurd h (Nat.not_lt_zero k)⟩ ?_ ?_
  · rintro i d es g1 K hd hK ⟨s8, s9, s10, rfl, n8, n9, n10, rfl, hi⟩
    have hip : i < ps.length := by
      have := (List.getElem?_eq_some_iff.mp hd).1
      rw [lm] at this
      exact this
    have hdp : d = .int (ps.getD i 0) := by
      rw [List.getElem?_map, List.getElem?_eq_getElem hip] at hd
      cases hd
      simp [List.getD, hip]
    subst hdp
    have hmem : ps.getD i 0 ∈ ps := List.mem_of_getElem? (i := i) (by simp [List.getD, hip])
    have hpp := pl _ hmem
    have out4 := out3 _ hmem
    obtain ⟨p, ep⟩ : ∃ p : Nat, ps.getD i 0 = p := ⟨(ps.getD i 0).toNat, by omega⟩
    have hdone : (dotZ xs ys - c) % (p : Int) = 0 → ∀ k, k < i + 1 → (dotZ xs ys - c) % ps.getD k 0 = 0 := fun h k hk => by
      rcases Nat.lt_or_ge k i with y | y
      · exact hi k y
      · obtain rfl : k = i := by omega
        rw [ep]
        exact h
    rw [ep] at hpp out4 ⊢
    clear hd hmem
    refine y_bind rfl n8 ?_
    show VL.wS _ (.seq _ _) _ [.dat (.tup (xs.map D.int)) 1, .dat (.tup (ys.map D.int)) 1, .dat (.int c) 1, .dat (.tup (ps.map D.int)) 1, .dat (.lst ((xs.map D.int).map sgD)) 2, .no, .dat (.lst ((ys.map D.int).map sgD)) 2, .dat (rowD c.natAbs) 2, .dat (.int (p : Nat)) 1, s9, s10] _
    repeat sizeOf_list_dec
    rw [lm]
    refine ⟨⟨by omega, by omega⟩, y_for (l := 2) (by decide) ?_⟩
    have hp0 : 0 < p := by omega
    refine x_foL (fun k es g' => ∃ s10, es = [.dat (.tup (xs.map D.int)) 1, .dat (.tup (ys.map D.int)) 1, .dat (.int c) 1, .dat (.tup (ps.map D.int)) 1, .dat (.lst ((xs.map D.int).map sgD)) 2, .no, .dat (.lst ((ys.map D.int).map sgD)) 2, .dat (rowD c.natAbs) 2, .dat (.int (p : Nat)) 1, .dat (.int (dotN p xs ys k : Nat)) 2, s10] ∧ NO s10 ∧ g' = g1) ⟨s10, rfl, n10, rfl⟩ ?_ ?_
    · rintro k d es g' K2 hd hK2 ⟨s10, rfl, n10, rfl⟩
      have hk : k < xs.length := by
        have := (List.getElem?_eq_some_iff.mp hd).1
        rw [rngD_len] at this
        omega
      rw [rngD_get (by omega)] at hd
      cases hd
      rw [Int.zero_add]
      refine y_bind rfl n10 ?_
      show VL.wS _ (.seq _ _) _ [.dat (.tup (xs.map D.int)) 1, .dat (.tup (ys.map D.int)) 1, .dat (.int c) 1, .dat (.tup (ps.map D.int)) 1, .dat (.lst ((xs.map D.int).map sgD)) 2, .no, .dat (.lst ((ys.map D.int).map sgD)) 2, .dat (rowD c.natAbs) 2, .dat (.int (p : Nat)) 1, .dat (.int (dotN p xs ys k : Nat)) 2, .dat (.int (k : Nat)) 2] _
      repeat sizeOf_list_dec
      refine y_ix (atS xs k hk) ?_
      repeat sizeOf_list_dec
      refine y_ix rfl ?_
      repeat sizeOf_list_dec
      refine y_ix (atS xs k hk) ?_
      repeat sizeOf_list_dec
      refine y_ix rfl ?_
      repeat sizeOf_list_dec
      refine y_call rfl rfl ⟨_, p, _, rfl, hp0, by omega, ?_⟩
      repeat sizeOf_list_dec
      refine y_ix (atS ys k (by omega)) ?_
      repeat sizeOf_list_dec
      refine y_ix rfl ?_
      repeat sizeOf_list_dec
      refine y_ix (atS ys k (by omega)) ?_
      repeat sizeOf_list_dec
      refine y_ix rfl ?_
      repeat sizeOf_list_dec
      refine y_call rfl rfl ⟨_, p, _, rfl, hp0, by omega, ?_⟩
      have lt1 := restN_lt (a := (xs.getD k 0).natAbs) (b := decide (xs.getD k 0 < 0)) hp0
      have lt2 := restN_lt (a := (ys.getD k 0).natAbs) (b := decide (ys.getD k 0 < 0)) hp0
      refine z_mul (mulW (k := 30) (l := 30) ?_ ?_ (by decide)) ?_
      · show _ < 1073741824
        omega
      · show _ < 1073741824
        omega
      repeat sizeOf_list_dec
      refine hK2 _ _ ⟨.dat (.int (k : Nat)) 2, ?_, trivial, rfl⟩
      have e : (if false = true then ((dotN p xs ys k : Nat) : Int) - ((restN (xs.getD k 0).natAbs p (decide (xs.getD k 0 < 0)) : Nat) : Int) * ((restN (ys.getD k 0).natAbs p (decide (ys.getD k 0 < 0)) : Nat) : Int) else ((dotN p xs ys k : Nat) : Int) + ((restN (xs.getD k 0).natAbs p (decide (xs.getD k 0 < 0)) : Nat) : Int) * ((restN (ys.getD k 0).natAbs p (decide (ys.getD k 0 < 0)) : Nat) : Int)) = ((dotN p xs ys (k + 1) : Nat) : Int) := by
        rw [if_neg Bool.false_ne_true, dotN_step, Int.natCast_add, Int.natCast_mul]
      rw [e]
      rfl
    · rintro es g' ⟨s10, rfl, n10, rfl⟩
      rw [rngD_len, show ((xs.length : Int) - 0).toNat = xs.length by omega]
      repeat sizeOf_list_dec
      refine z_mod (by omega) ?_
      repeat sizeOf_list_dec
      refine y_call rfl rfl ⟨c.natAbs, p, _, rfl, hp0, by omega, ?_⟩
      rw [fmodN]
      have key : (((dotN p xs ys xs.length % p : Nat) : Int) = ((restN c.natAbs p (decide (c < 0)) : Nat) : Int)) ↔ (dotZ xs ys - c) % (p : Int) = 0 := by
        rw [Int.natCast_emod, dotN_mod hp0, rest_emod c hp0]
        exact ⟨fun h => Int.emod_eq_emod_iff_emod_sub_eq_zero.mp h, fun h => Int.emod_eq_emod_iff_emod_sub_eq_zero.mpr h⟩
      repeat sizeOf_list_dec
      · rename_i h
        refine out4 fun z => ?_
        rw [decide_eq_true (key.mpr z)] at h
        cases h
      · rename_i h
        have h2 : ((dotN p xs ys xs.length % p : Nat) : Int) = ((restN c.natAbs p (decide (c < 0)) : Nat) : Int) := by
          have : decide (((dotN p xs ys xs.length % p : Nat) : Int) = ((restN c.natAbs p (decide (c < 0)) : Nat) : Int)) = true := by
            cases hh : decide (((dotN p xs ys xs.length % p : Nat) : Int) = ((restN c.natAbs p (decide (c < 0)) : Nat) : Int)) with
            | true => rfl
            | false => rw [hh] at h; cases h
          exact of_decide_eq_true this
        refine hK _ _ ⟨_, _, _, rfl, trivial, trivial, n10, rfl, hdone (key.mp h2)⟩
  · rintro es g' ⟨s8, s9, s10, rfl, n8, n9, n10, rfl, hi⟩
    rw [lm] at hi
    repeat sizeOf_list_dec
    have en : ps.map D.int = natT (ps.map Int.toNat) := by
      unfold natT
      rw [List.map_map]
      refine List.map_congr_left fun x hx => ?_
      have := pl x hx
      show D.int x = D.int (x.toNat : Int)
      rw [Int.toNat_of_nonneg (by omega)]
    have p6 : ∀ p ∈ ps.map Int.toNat, p < 1000000 := fun p hp => by
      obtain ⟨x, hx, rfl⟩ := List.mem_map.mp hp
      have := pl x hx
      omega
    have ple : prodN (ps.map Int.toNat) < 10000 ^ 1000 := by
      refine Nat.lt_of_le_of_lt (prodN_lt (m := 0) p6) (Nat.lt_of_le_of_lt ?_ mil_600)
      rw [List.length_map]
      exact Nat.pow_le_pow_right (by decide) hp
    refine y_call rfl rfl ⟨ps.map Int.toNat, by rw [en], fun p hp => ⟨?_, ?_⟩, ple, ?_⟩
    · obtain ⟨x, hx, rfl⟩ := List.mem_map.mp hp
      have := pl x hx
      omega
    · have := p6 p hp
      omega
    repeat sizeOf_list_dec
    refine y_call rfl rfl ⟨xs, ys, c, rfl, hl, hn, hx, hy, hc, ?_⟩
    refine y_call rfl rfl ⟨_, _, rfl, ?_, bnd_rl hn hx hy hc, ?_⟩
    · exact rl_small ple
    repeat sizeOf_list_dec
    have e : decide (0 < cmpN (prodN (ps.map Int.toNat)) (bndN xs ys c)) = b := by
      have hi' : ∀ p ∈ ps, (dotZ xs ys - c) % p = 0 := fun p hp => by
        obtain ⟨k, hk, e⟩ := List.getElem_of_mem hp
        have := hi k hk
        simp only [List.getD, List.getElem?_eq_getElem hk, Option.getD_some] at this
        rw [← e]
        exact this
      have hh : (b = true ↔ bndN xs ys c < prodN (ps.map Int.toNat)) := by
        rw [hb]
        exact ⟨fun z => z.2.2.2, fun z => ⟨hl, hg, hi', z⟩⟩
      have h3 : 0 < cmpN (prodN (ps.map Int.toNat)) (bndN xs ys c) ↔ bndN xs ys c < prodN (ps.map Int.toNat) := by
        unfold cmpN
        split
        · constructor <;> intro h <;> omega
        · split
          · constructor <;> intro h <;> omega
          · constructor <;> intro h <;> omega
      cases b with
      | true => exact decide_eq_true (h3.mpr (hh.mp rfl))
      | false => exact decide_eq_false fun z => nomatch hh.mpr (h3.mp z)
    rw [e]
    exact q
end T
/-! Val: the statements' rules, with what is wanted taken apart. -/
namespace VL
open PySem PySem.Spec PyProof.Rows

section
variable {fs : List (Nat × WF G)} {es : VL.Env} {g : G} {Q rt : Pd G} {nx bk ct : VL.Env → G → Prop} {a b c e : CE} {i j : Nat} {d : D} {l : Nat} {s : CT} {r x y : CS}
theorem s_nil (q : nx es g) : VL.wS fs .nil ⟨nx, rt, bk, ct⟩ es g := q
theorem s_nilE (q : Q .non 2 g) : VL.wS fs .nil (endP Q) es g := q
theorem s_seq (h : VL.wC fs s ⟨VL.wS fs r ⟨nx, rt, bk, ct⟩, rt, bk, ct⟩ es g) : VL.wS fs (.seq s r) ⟨nx, rt, bk, ct⟩ es g := h
theorem s_seqE (h : VL.wC fs s ⟨VL.wS fs r (endP Q), Q, fun _ _ => False, fun _ _ => False⟩ es g) : VL.wS fs (.seq s r) (endP Q) es g := h
theorem s_frz {ds : List D} {P : Po G} (h : es[i]? = some (.own ds l)) (q : VL.wS fs r P (es.set i (.dat (.lst ds) l)) g) : VL.wS fs (.frz i r) P es g := ⟨ds, l, h, q⟩
theorem s_asg (h : VL.wE fs a es g fun d l g' => ∃ l', lvOk d l l' ∧ nx (es.set i (.dat d l')) g') : VL.wC fs (.asg i a) ⟨nx, rt, bk, ct⟩ es g := h
theorem s_own (h : VL.wE fs a es g fun d l g' => ∃ ds l', d = .lst ds ∧ i < es.length ∧ 1 ≤ l' ∧ (l' ≤ l ∨ D.lfs ds = true) ∧ nx (es.set i (.own ds l')) g') : VL.wC fs (.own i a) ⟨nx, rt, bk, ct⟩ es g := h
theorem s_own2 (h : VL.wE fs a es g fun d l g' => ∃ dss, d = .lst (dss.map D.lst) ∧ i < es.length ∧ (∀ ds ∈ dss, D.lfs ds = true) ∧ nx (es.set i (.own2 dss 2)) g') : VL.wC fs (.own2 i a) ⟨nx, rt, bk, ct⟩ es g := h
theorem s_aug {neg : Bool} {n : Int} (h : es[i]? = some (.dat (.int n) l)) (q : VL.wE fs a es g fun d _ g1 => ∃ m, d = .int m ∧ nx (es.set i (.dat (.int (if neg = true then n - m else n + m)) 2)) g1) : VL.wC fs (.aug neg i a) ⟨nx, rt, bk, ct⟩ es g := ⟨n, l, h, q⟩
theorem s_augP {n : Int} (h : es[i]? = some (.dat (.int n) l)) (q : VL.wE fs a es g fun d _ g1 => ∃ m, d = .int m ∧ nx (es.set i (.dat (.int (n + m)) 2)) g1) : VL.wC fs (.aug false i a) ⟨nx, rt, bk, ct⟩ es g := ⟨n, l, h, q⟩
theorem s_augM {n : Int} (h : es[i]? = some (.dat (.int n) l)) (q : VL.wE fs a es g fun d _ g1 => ∃ m, d = .int m ∧ nx (es.set i (.dat (.int (n - m)) 2)) g1) : VL.wC fs (.aug true i a) ⟨nx, rt, bk, ct⟩ es g := ⟨n, l, h, q⟩
theorem s_for {tg : Tg} {it : CI} (h : wJ fs it es g fun t ds l g1 => ∃ l', 1 ≤ l' ∧ (l' ≤ l ∨ (t = true ∧ D.lfs ds = true)) ∧ foL tg l' (VL.wS fs y) ds ⟨nx, rt, bk, ct⟩ es g1) : VL.wC fs (.forr tg it y) ⟨nx, rt, bk, ct⟩ es g := h
theorem s_exp (h : VL.wE fs a es g fun _ _ g' => nx es g') : VL.wC fs (.exp a) ⟨nx, rt, bk, ct⟩ es g := h
theorem s_app {ds : List D} {lv : Nat} (h : es[i]? = some (.own ds lv)) (q : VL.wE fs a es g fun d l g1 => ds.length < sizeLine ∧ (lv ≤ l ∨ d.lf = true) ∧ nx (es.set i (.own (ds ++ [d]) lv)) g1) : VL.wC fs (.app i a) ⟨nx, rt, bk, ct⟩ es g := ⟨ds, lv, h, q⟩
theorem s_ret (h : VL.wV a (VL.wE fs a) es g rt) : VL.wC fs (.ret a) ⟨nx, rt, bk, ct⟩ es g := h
theorem s_retN (h : rt .non 2 g) : VL.wC fs .retN ⟨nx, rt, bk, ct⟩ es g := h
theorem s_brk (h : bk es g) : VL.wC fs .brk ⟨nx, rt, bk, ct⟩ es g := h
theorem s_cont (h : ct es g) : VL.wC fs .cont ⟨nx, rt, bk, ct⟩ es g := h
theorem s_pas (h : nx es g) : VL.wC fs .pas ⟨nx, rt, bk, ct⟩ es g := h
theorem s_if (h : VL.wE fs c es g fun d _ g1 => ∃ k, tru d = some k ∧ if k = true then VL.wS fs x ⟨nx, rt, bk, ct⟩ es g1 else VL.wS fs y ⟨nx, rt, bk, ct⟩ es g1) : VL.wC fs (.ite c x y) ⟨nx, rt, bk, ct⟩ es g := h
theorem s_unp {is : List Nat} (h : VL.wE fs a es g fun d l g' => ∃ ds l', d = .tup ds ∧ ds.length = is.length ∧ lvOk d l l' ∧ noOwn es is ∧ nx (setAll es is ds l') g') : VL.wC fs (.unp is a) ⟨nx, rt, bk, ct⟩ es g := h
theorem s_par (h : VL.wE fs a es g fun d1 l1 g1 => VL.wE fs b es g1 fun d2 l2 g2 => ∃ m1 m2, lvOk d1 l1 m1 ∧ lvOk d2 l2 m2 ∧ nx ((es.set i (.dat d1 m1)).set j (.dat d2 m2)) g2) : VL.wC fs (.par i j a b) ⟨nx, rt, bk, ct⟩ es g := h
theorem s_parN (h : VL.wE fs a es g fun d1 l1 g1 => VL.wE fs b es g1 fun d2 l2 g2 => ∃ ds m1 m2, d1 = .lst ds ∧ i < es.length ∧ 1 ≤ m1 ∧ (m1 ≤ l1 ∨ D.lfs ds = true) ∧ lvOk d2 l2 m2 ∧ nx ((es.set i (.own ds m1)).set j (.dat d2 m2)) g2) : VL.wC fs (.parN i j a b) ⟨nx, rt, bk, ct⟩ es g := h
theorem s_parO (h : VL.wE fs a es g fun d1 l1 g1 => VL.wE fs b es g1 fun d2 l2 g2 => ∃ m1 ds m2, lvOk d1 l1 m1 ∧ d2 = .lst ds ∧ j < es.length ∧ 1 ≤ m2 ∧ (m2 ≤ l2 ∨ D.lfs ds = true) ∧ nx ((es.set i (.dat d1 m1)).set j (.own ds m2)) g2) : VL.wC fs (.parO i j a b) ⟨nx, rt, bk, ct⟩ es g := h
theorem s_setix {ds : List D} {lv : Nat} (hi : es[i]? = some (.own ds lv)) (h : VL.wE fs e es g fun d l g1 => VL.wE fs a es g1 fun di _ g2 => ∃ j m, di = .int j ∧ L2.ixN ds.length j = some m ∧ (lv ≤ l ∨ d.lf = true) ∧ nx (es.set i (.own (ds.set m d) lv)) g2) : VL.wC fs (.setix i a e) ⟨nx, rt, bk, ct⟩ es g := by
  have : (VL.wE fs e es g fun d l g1 => ∃ ds lv, es[i]? = some (.own ds lv) ∧ VL.wE fs a es g1 fun di _ g2 => ∃ j m, di = .int j ∧ L2.ixN ds.length j = some m ∧ (lv ≤ l ∨ d.lf = true) ∧ nx (es.set i (.own (ds.set m d) lv)) g2) = VL.wE fs e es g fun d l g1 => VL.wE fs a es g1 fun di _ g2 => ∃ j m, di = .int j ∧ L2.ixN ds.length j = some m ∧ (lv ≤ l ∨ d.lf = true) ∧ nx (es.set i (.own (ds.set m d) lv)) g2 := by
    congr 1
    funext d l g1
    apply propext
    constructor
    · rintro ⟨ds', lv', e1, q⟩
      rw [hi] at e1
      cases e1
      exact q
    · exact fun q => ⟨ds, lv, hi, q⟩
  show VL.wE fs e es g _
  rw [this]
  exact h
theorem s_ext {h : Ht} {as : CA} (q : VL.wA fs as es g fun ds _ g1 => hT h ds g1 fun g2 => nx es g2) : VL.wC fs (.ext h as) ⟨nx, rt, bk, ct⟩ es g := q
theorem s_gfor {tg : Tg} (q : VL.wE fs a es g fun d _ g1 => ∃ p ds, d = .obj p ∧ g1 p = some (.lst ds) ∧ foG tg p ds (VL.wS fs y) ds ⟨nx, rt, bk, ct⟩ es g1) : VL.wC fs (.gfor tg a y) ⟨nx, rt, bk, ct⟩ es g := q
theorem s_gapp (q : VL.wE fs a es g fun d1 _ g1 => ∃ p ds0, d1 = .obj p ∧ g1 p = some (.lst ds0) ∧ VL.wE fs e es g1 fun d _ g2 => ∃ ds, g2 p = some (.lst ds) ∧ d.lf = true ∧ ds.length < sizeLine ∧ nx es (g2.put p (.lst (ds ++ [d])))) : VL.wC fs (.gapp a e) ⟨nx, rt, bk, ct⟩ es g := q
/-! loops -/
theorem s_while (I : Nat → VL.Env → G → Prop) (n : Nat) (h0 : I n es g)
    (step : ∀ (m : Nat) (es : VL.Env) (g : G) (K : VL.Env → G → Prop), (∀ m' es' g', m = m' + 1 → I m' es' g' → K es' g') → I m es g →
      VL.wE fs c es g fun d _ g1 => ∃ k, tru d = some k ∧ if k = true then VL.wS fs y ⟨K, rt, nx, K⟩ es g1 else nx es g1) : VL.wC fs (.whl c y) ⟨nx, rt, bk, ct⟩ es g := x_while I n h0 step
theorem s_foL {tg : Tg} {y : WSt G} {ds : List D} (I : Nat → VL.Env → G → Prop) (h0 : I 0 es g)
    (step : ∀ (i : Nat) (d : D) (es : VL.Env) (g : G) (K : VL.Env → G → Prop), ds[i]? = some d → (∀ es' g', I (i + 1) es' g' → K es' g') → I i es g → bindT tg d l es fun es' => y ⟨K, rt, nx, K⟩ es' g)
    (fin : ∀ es' g', I ds.length es' g' → nx es' g') : foL tg l y ds ⟨nx, rt, bk, ct⟩ es g := x_foL I h0 step fin
theorem s_foN {tg : Tg} {y : WSt G} (q : nx es g) : foL tg l y [] ⟨nx, rt, bk, ct⟩ es g := q
theorem s_foC {tg : Tg} {y : WSt G} {ds : List D} (q : bindT tg d l es fun es' => y ⟨foL tg l y ds ⟨nx, rt, bk, ct⟩, rt, nx, foL tg l y ds ⟨nx, rt, bk, ct⟩⟩ es' g) : foL tg l y (d :: ds) ⟨nx, rt, bk, ct⟩ es g := q
theorem small_nat {n : Nat} (h : n < 4611686018427387904) : small (n : Int) := ⟨by omega, by omega⟩
theorem y_lenL {ds : List D} {R : Prop} (h : Nat.ble ds.length 1000 = true) (q : R) : ds.length ≤ sizeLine ∧ R := ⟨Nat.le_trans (Nat.le_of_ble_eq_true h) (by rw [sizeLine_eq]; decide), q⟩
/-- a level is handed on -/
theorem y_set {R : Nat → Prop} (h : 1 ≤ l) (q : R l) : ∃ l', lvOk d l l' ∧ R l' := ⟨l, ⟨h, .inl (Nat.le_refl _)⟩, q⟩
theorem y_2 {d1 d2 : D} {l1 l2 : Nat} {R : Nat → Nat → Prop} (h1 : 1 ≤ l1) (h2 : 1 ≤ l2) (q : R l1 l2) : ∃ m1 m2, lvOk d1 l1 m1 ∧ lvOk d2 l2 m2 ∧ R m1 m2 := ⟨l1, l2, ⟨h1, .inl (Nat.le_refl _)⟩, ⟨h2, .inl (Nat.le_refl _)⟩, q⟩
theorem y_ownN {ds : List D} {R : List D → Nat → Prop} {n : Nat} (hi : i < n) (h : 1 ≤ l) (q : R ds l) : ∃ ds' l', D.lst ds = .lst ds' ∧ i < n ∧ 1 ≤ l' ∧ (l' ≤ l ∨ D.lfs ds' = true) ∧ R ds' l' := ⟨ds, l, rfl, hi, h, .inl (Nat.le_refl _), q⟩
theorem y_N2 {ds : List D} {d2 : D} {l1 l2 n : Nat} {R : List D → Nat → Nat → Prop} (hi : i < n) (h1 : 1 ≤ l1) (h2 : 1 ≤ l2) (q : R ds l1 l2) : ∃ ds' m1 m2, D.lst ds = .lst ds' ∧ i < n ∧ 1 ≤ m1 ∧ (m1 ≤ l1 ∨ D.lfs ds' = true) ∧ lvOk d2 l2 m2 ∧ R ds' m1 m2 := ⟨ds, l1, l2, rfl, hi, h1, .inl (Nat.le_refl _), ⟨h2, .inl (Nat.le_refl _)⟩, q⟩
end
end VL
namespace T
open PySem PySem.Spec PyProof.Rows VL
local macro_rules | `(tactic| sizeOf_list_dec) => `(tactic| first
  | with_reducible refine x_int ?_ | with_reducible refine x_bl ?_ | with_reducible refine x_non ?_ | with_reducible refine x_str ?_ | with_reducible refine x_glo ?_ | with_reducible refine x_bin ?_ | with_reducible refine x_neg ?_ | with_reducible refine x_not ?_ | with_reducible refine x_cmp ?_ | with_reducible refine x_chain ?_ | with_reducible refine x_and ?_ | with_reducible refine x_or ?_ | with_reducible refine x_ite ?_ | with_reducible refine x_tup ?_ | with_reducible refine x_lst ?_ | with_reducible refine x_ix ?_ | with_reducible refine x_sq ?_ | with_reducible refine x_bi ?_ | with_reducible refine x_isi ?_ | with_reducible refine x_call ?_ | with_reducible refine x_sl ?_ | with_reducible refine x_ext ?_
  | with_reducible refine x_anil ?_ | with_reducible refine x_acons ?_ | with_reducible refine x_slst ?_ | with_reducible refine x_stup ?_ | with_reducible refine x_ono ?_ | with_reducible refine x_osome ?_ | with_reducible refine s_seqE ?_ | with_reducible refine s_seq ?_ | with_reducible refine s_asg ?_ | with_reducible refine s_own ?_ | with_reducible refine s_ret ?_ | with_reducible refine s_retN ?_ | with_reducible refine s_brk ?_ | with_reducible refine s_cont ?_ | with_reducible refine s_pas ?_ | with_reducible refine s_if ?_ | with_reducible refine s_for ?_ | with_reducible refine s_exp ?_ | with_reducible refine s_unp ?_ | with_reducible refine s_par ?_ | with_reducible refine s_parN ?_ | with_reducible refine s_parO ?_ | with_reducible refine x_jrng1 ?_ | with_reducible refine x_jrngd ?_ | with_reducible refine x_irng1 ?_ | with_reducible refine x_irngd ?_ | with_reducible refine x_jit ?_ | with_reducible refine x_iit ?_ | with_reducible refine s_nilE ?_ | with_reducible refine s_nil ?_ | with_reducible refine s_ext ?_ | with_reducible refine s_gfor ?_ | with_reducible refine s_gapp ?_
  | ((with_reducible apply x_var); · rfl) | ((with_reducible apply x_varo); · rfl) | ((with_reducible apply x_vvar); · rfl) | ((with_reducible apply x_vown); · rfl) | ((with_reducible apply x_v); · rfl) | ((with_reducible apply x_qlst); · rfl) | ((with_reducible apply x_qtup); · rfl) | ((with_reducible apply x_qown); · rfl) | ((with_reducible apply x_q); · rfl) | ((with_reducible apply s_augP); · rfl) | ((with_reducible apply s_augM); · rfl) | ((with_reducible apply s_app); · rfl) | ((with_reducible apply s_frz); · rfl)
  | with_reducible refine z_len ?_ | with_reducible refine z_add ?_ | with_reducible refine z_sub ?_ | with_reducible refine z_lt ?_ | with_reducible refine z_le ?_ | with_reducible refine z_gt ?_ | with_reducible refine z_ge ?_ | with_reducible refine z_eq ?_ | with_reducible refine z_ne ?_ | with_reducible refine z_eqB ?_ | with_reducible refine z_neB ?_ | ((with_reducible apply z_eqST); (focus decide +kernel)) | ((with_reducible apply z_eqSF); (focus decide +kernel)) | with_reducible refine z_eqS ?_ | with_reducible refine y_int ?_
  | with_reducible refine z_absI ?_ | with_reducible refine z_max ?_ | with_reducible refine z_min ?_ | with_reducible refine z_tuple ?_ | with_reducible refine z_list ?_ | with_reducible refine z_int1 ?_
  | ((with_reducible apply x_lcn); (focus rfl); (focus first | exact trivial | assumption)) | ((with_reducible apply y_bind); (focus rfl); (focus first | exact trivial | assumption); (try dsimp only [List.set_cons_zero, List.set_cons_succ]))
  | ((with_reducible apply y_lenL); (focus rfl)) | with_reducible refine y_tblNT ?_ | with_reducible refine y_tblNF ?_ | with_reducible refine y_blNT ?_ | with_reducible refine y_blNF ?_ | with_reducible refine y_tblT ?_ | with_reducible refine y_tblF ?_ | with_reducible refine y_blT ?_ | with_reducible refine y_blF ?_
  | with_reducible refine y_bl (fun hk => ?_) (fun hk => ?_) | with_reducible refine y_tbl (fun hk => ?_) (fun hk => ?_) | ((with_reducible refine y_tru ?_); (try dsimp only))
  | ((with_reducible apply y_set); (focus exact Nat.le_of_ble_eq_true rfl); (try dsimp only [List.set_cons_zero, List.set_cons_succ])) | ((with_reducible apply y_2); (focus exact Nat.le_of_ble_eq_true rfl); (focus exact Nat.le_of_ble_eq_true rfl); (try dsimp only [List.set_cons_zero, List.set_cons_succ])) | ((with_reducible apply y_ownN); (focus exact Nat.le_of_ble_eq_true rfl); (focus exact Nat.le_of_ble_eq_true rfl); (try dsimp only [List.set_cons_zero, List.set_cons_succ])) | ((with_reducible apply y_N2); (focus exact Nat.le_of_ble_eq_true rfl); (focus exact Nat.le_of_ble_eq_true rfl); (focus exact Nat.le_of_ble_eq_true rfl); (try dsimp only [List.set_cons_zero, List.set_cons_succ])))
abbrev dSum (a b c : Int) : D := .tup [.str "sum", .int a, .int b, .int c]
abbrev dLess (a b : Int) : D := .tup [.str "less", .int a, .int b]
abbrev dDot (xs ys : List Int) (c : Int) : D := .tup [.str "dot", .tup (xs.map D.int), .tup (ys.map D.int), .int c]
abbrev dPrime (p : Int) : D := .tup [.str "prime", .int p]
abbrev dDig : D := .tup [.str "digits"]
abbrev dTrial : D := .tup [.str "trial"]
abbrev dRests (ps : List Int) : D := .tup (.str "rests" :: ps.map D.int)
/-- what a reason says of a claim -/
inductive RightIs : D → D → Bool → Prop
  | dot {xs ys ps : List Int} {c : Int} {b : Bool} : xs.length < 10000 → ps.length ≤ 600 → (∀ x ∈ xs, smI x) → (∀ x ∈ ys, smI x) → smI c → (b = true ↔ Rests xs ys c ps) → RightIs (dDot xs ys c) (dRests ps) b
  | nodot {a b c : Int} {ps : List Int} : RightIs (dSum a b c) (dRests ps) false
  | prime {p : Int} {b : Bool} : (b = true ↔ 0 ≤ p ∧ Trial p.toNat) → RightIs (dPrime p) dTrial b
  | sum {a b c : Int} : smI a → smI b → smI c → RightIs (dSum a b c) dDig (decide (a + b = c))
  | less {a b : Int} : smI a → smI b → RightIs (dLess a b) dDig (decide (a < b))
def wf_by_digits : WF G := fun ds g Q => ∃ (c : D) (b : Bool), ds = [c] ∧ RightIs c dDig b ∧ Q (.bl b) 2 g
theorem sp_by_digits : ∀ (ds : List D) (g : G) (Pq : Pd G), ds.length = 1 → wf_by_digits ds g Pq → VL.wS [(2, wf_order), (3, wf_is_sum)] cs_by_digits (endP Pq) (env0 ck_by_digits.N.length ds) g := by
  rintro ds g Q _ ⟨c, b, rfl, hr, q⟩
  show VL.wS _ (.seq _ _) _ [.dat c 1, .no] _
  cases hr with
  | @sum a b c ha hb hc =>
    repeat sizeOf_list_dec
    refine y_ix rfl ?_
    repeat sizeOf_list_dec
    refine y_ix rfl ?_
    repeat sizeOf_list_dec
    refine y_ix rfl ?_
    repeat sizeOf_list_dec
    refine y_ix rfl ?_
    repeat sizeOf_list_dec
    exact y_call rfl rfl ⟨a, b, c, rfl, ha, hb, hc, q⟩
  | @less a b ha hb =>
    repeat sizeOf_list_dec
    refine y_ix rfl ?_
    repeat sizeOf_list_dec
    refine y_ix rfl ?_
    repeat sizeOf_list_dec
    refine y_ix rfl ?_
    repeat sizeOf_list_dec
    refine y_call rfl rfl ⟨a, b, rfl, ha, hb, ?_⟩
    repeat sizeOf_list_dec
    have e : decide (cmpZ a b < 0) = decide (a < b) := by
      refine decide_eq_decide.mpr ?_
      unfold cmpZ
      split
      · constructor <;> intro h <;> omega
      · split
        · constructor <;> intro h <;> omega
        · constructor <;> intro h <;> omega
    rw [e]
    exact q
def wf_right : WF G := fun ds g Q => ∃ (c r cl : D) (b : Bool), ds = [c, r, cl] ∧ RightIs c r b ∧ Q (.bl b) 2 g
theorem sp_right : ∀ (ds : List D) (g : G) (Pq : Pd G), ds.length = 3 → wf_right ds g Pq → VL.wS [(1, wf_by_digits), (1, wf_by_trial), (4, wf_by_rests)] cs_right (endP Pq) (env0 ck_right.N.length ds) g := by
  rintro ds g Q _ ⟨c, r, cl, b, rfl, hr, q⟩
  show VL.wS _ (.seq _ _) _ [.dat c 1, .dat r 1, .dat cl 1, .no, .no, .no, .no] _
  have hr0 := hr
  cases hr with
  | @dot xs ys ps c b h1 h2 h3 h4 h5 h6 =>
    repeat sizeOf_list_dec
    refine y_ix rfl ?_
    repeat sizeOf_list_dec
    refine y_ix atI_0 ?_
    repeat sizeOf_list_dec
    refine y_ix rfl ?_
    repeat sizeOf_list_dec
    refine y_ix rfl ?_
    repeat sizeOf_list_dec
    refine y_ix rfl ?_
    repeat sizeOf_list_dec
    rw [if_pos rfl, cut_drop1]
    repeat sizeOf_list_dec
    exact y_call rfl rfl ⟨xs, ys, c, ps, b, rfl, h1, h2, h3, h4, h5, h6, q⟩
  | @nodot a b c ps =>
    repeat sizeOf_list_dec
    refine y_ix rfl ?_
    repeat sizeOf_list_dec
    refine y_ix atI_0 ?_
    repeat sizeOf_list_dec
    exact q
  | @prime p b h1 =>
    repeat sizeOf_list_dec
    refine y_ix rfl ?_
    repeat sizeOf_list_dec
    refine y_ix rfl ?_
    repeat sizeOf_list_dec
    refine y_ix rfl ?_
    repeat sizeOf_list_dec
    refine y_ix rfl ?_
    repeat sizeOf_list_dec
    exact y_call rfl rfl ⟨p, b, rfl, h1, q⟩
  | _ =>
    repeat sizeOf_list_dec
    refine y_ix rfl ?_
    repeat sizeOf_list_dec
    refine y_ix rfl ?_
    repeat sizeOf_list_dec
    refine y_ix rfl ?_
    repeat sizeOf_list_dec
    refine y_ix rfl ?_
    repeat sizeOf_list_dec
    exact y_call rfl rfl ⟨_, _, rfl, hr0, q⟩
/-- a paper of at most one row -/
inductive JudgeIs : D → D → Prop
  | list {xs : List D} : JudgeIs (.lst xs) (.int 0)
  | none : JudgeIs (.tup []) .non
  | int {i : Int} : JudgeIs (.tup [.int i]) (.int 0)
  | row {c r : D} {b : Bool} : c.lf = true → fit c = true → fit r = true → okc r → (isClaim c = true → isReason r 0 = true → RightIs c r b) → JudgeIs (.tup [.tup [c, r]]) (if isClaim c && (isReason r 0 && b) = true then .non else .int 0)
def wf_judge : WF G := fun ds g Q => ∃ d r, ds = [d] ∧ JudgeIs d r ∧ Q r 2 g
theorem sp_judge : ∀ (ds : List D) (g : G) (Pq : Pd G), ds.length = 1 → wf_judge ds g Pq → VL.wS [(3, wf_right), (2, wf_is_reason), (1, wf_is_claim)] cs_judge (endP Pq) (env0 ck_judge.N.length ds) g := by
  rintro ds g Q _ ⟨d, r, rfl, hr, q⟩
  have k := kit_tab
  simp only [List.all_cons, List.all_nil, Bool.and_true, Bool.and_eq_true, decide_eq_true_eq] at k
  obtain ⟨k1, k2, k3, k4, k5, k6⟩ := k
  show VL.wS _ (.seq _ _) _ [.dat d 1, .no, .no, .no] _
  cases hr with
  | list =>
    repeat sizeOf_list_dec
    refine ⟨_, _, rfl, k5.2, ?_⟩
    repeat sizeOf_list_dec
    exact q
  | none =>
    repeat sizeOf_list_dec
    refine ⟨_, _, rfl, k6.2, ?_⟩
    repeat sizeOf_list_dec
    refine ⟨small_nat (Nat.le_of_ble_eq_true rfl), y_for (l := 2) (by decide) ?_⟩
    exact q
  | @int i =>
    repeat sizeOf_list_dec
    refine ⟨_, _, rfl, k6.2, ?_⟩
    repeat sizeOf_list_dec
    refine ⟨small_nat (Nat.le_of_ble_eq_true rfl), y_for (l := 2) (by decide) ?_⟩
    show foL _ _ _ [.int (0 + (0 : Nat))] _ [.dat (.tup [.int i]) 1, .own [] 2, .no, .no] _
    refine s_foC (y_bind rfl trivial ?_)
    show VL.wS _ (.seq _ _) _ [.dat (.tup [.int i]) 1, .own [] 2, .dat (.int 0) 2, .no] _
    repeat sizeOf_list_dec
    refine y_ix rfl ?_
    repeat sizeOf_list_dec
    refine ⟨_, _, rfl, k3.2, ?_⟩
    repeat sizeOf_list_dec
    exact q
  | @row c r b hlf hc hr hor h =>
    repeat sizeOf_list_dec
    refine ⟨_, _, rfl, k6.2, ?_⟩
    repeat sizeOf_list_dec
    refine ⟨small_nat (Nat.le_of_ble_eq_true rfl), y_for (l := 2) (by decide) ?_⟩
    show foL _ _ _ [.int (0 + (0 : Nat))] _ [.dat (.tup [.tup [c, r]]) 1, .own [] 2, .no, .no] _
    refine s_foC (y_bind rfl trivial ?_)
    show VL.wS _ (.seq _ _) _ [.dat (.tup [.tup [c, r]]) 1, .own [] 2, .dat (.int 0) 2, .no] _
    repeat sizeOf_list_dec
    refine y_ix rfl ?_
    repeat sizeOf_list_dec
    refine ⟨_, _, rfl, k6.2, ?_⟩
    repeat sizeOf_list_dec
    · rename_i z
      exact absurd z (by simp)
    repeat sizeOf_list_dec
    refine y_ix rfl ?_
    repeat sizeOf_list_dec
    refine y_call rfl rfl ⟨c, rfl, hc, ?_⟩
    cases h1 : isClaim c with
    | false =>
      rw [h1] at q
      repeat sizeOf_list_dec
      exact q
    | true =>
      rw [h1] at q
      repeat sizeOf_list_dec
      refine y_ix rfl ?_
      repeat sizeOf_list_dec
      refine y_call rfl rfl ⟨r, 0, rfl, hr, hor, ?_⟩
      cases h2 : isReason r 0 with
      | false =>
        rw [h2] at q
        repeat sizeOf_list_dec
        exact q
      | true =>
        rw [h2] at q
        repeat sizeOf_list_dec
        refine y_ix rfl ?_
        repeat sizeOf_list_dec
        refine y_ix rfl ?_
        repeat sizeOf_list_dec
        refine y_call rfl rfl ⟨c, r, _, b, rfl, h h1 h2, ?_⟩
        cases b with
        | false =>
          repeat sizeOf_list_dec
          exact q
        | true =>
          repeat sizeOf_list_dec
          refine y_ix rfl ?_
          refine ⟨by decide, .inr hlf, ?_⟩
          exact q
end T
namespace T
open PySem PySem.Spec PyProof.Rows VL
local macro_rules | `(tactic| sizeOf_list_dec) => `(tactic| first
  | with_reducible refine x_int ?_ | with_reducible refine x_bl ?_ | with_reducible refine x_non ?_ | with_reducible refine x_str ?_ | with_reducible refine x_glo ?_ | with_reducible refine x_bin ?_ | with_reducible refine x_neg ?_ | with_reducible refine x_not ?_ | with_reducible refine x_cmp ?_ | with_reducible refine x_chain ?_ | with_reducible refine x_and ?_ | with_reducible refine x_or ?_ | with_reducible refine x_ite ?_ | with_reducible refine x_tup ?_ | with_reducible refine x_lst ?_ | with_reducible refine x_ix ?_ | with_reducible refine x_sq ?_ | with_reducible refine x_bi ?_ | with_reducible refine x_isi ?_ | with_reducible refine x_call ?_ | with_reducible refine x_sl ?_ | with_reducible refine x_ext ?_
  | with_reducible refine x_anil ?_ | with_reducible refine x_acons ?_ | with_reducible refine x_slst ?_ | with_reducible refine x_stup ?_ | with_reducible refine x_ono ?_ | with_reducible refine x_osome ?_ | with_reducible refine s_seqE ?_ | with_reducible refine s_seq ?_ | with_reducible refine s_asg ?_ | with_reducible refine s_own ?_ | with_reducible refine s_ret ?_ | with_reducible refine s_retN ?_ | with_reducible refine s_brk ?_ | with_reducible refine s_cont ?_ | with_reducible refine s_pas ?_ | with_reducible refine s_if ?_ | with_reducible refine s_for ?_ | with_reducible refine s_exp ?_ | with_reducible refine s_unp ?_ | with_reducible refine s_par ?_ | with_reducible refine s_parN ?_ | with_reducible refine s_parO ?_ | with_reducible refine x_jrng1 ?_ | with_reducible refine x_jrngd ?_ | with_reducible refine x_irng1 ?_ | with_reducible refine x_irngd ?_ | with_reducible refine x_jit ?_ | with_reducible refine x_iit ?_ | with_reducible refine s_nilE ?_ | with_reducible refine s_nil ?_ | with_reducible refine s_ext ?_ | with_reducible refine s_gfor ?_ | with_reducible refine s_gapp ?_
  | ((with_reducible apply x_var); · rfl) | ((with_reducible apply x_varo); · rfl) | ((with_reducible apply x_vvar); · rfl) | ((with_reducible apply x_vown); · rfl) | ((with_reducible apply x_v); · rfl) | ((with_reducible apply x_qlst); · rfl) | ((with_reducible apply x_qtup); · rfl) | ((with_reducible apply x_qown); · rfl) | ((with_reducible apply x_q); · rfl) | ((with_reducible apply s_augP); · rfl) | ((with_reducible apply s_augM); · rfl) | ((with_reducible apply s_app); · rfl) | ((with_reducible apply s_frz); · rfl)
  | with_reducible refine z_len ?_ | with_reducible refine z_add ?_ | with_reducible refine z_sub ?_ | with_reducible refine z_lt ?_ | with_reducible refine z_le ?_ | with_reducible refine z_gt ?_ | with_reducible refine z_ge ?_ | with_reducible refine z_eq ?_ | with_reducible refine z_ne ?_ | with_reducible refine z_eqB ?_ | with_reducible refine z_neB ?_ | ((with_reducible apply z_eqST); (focus decide +kernel)) | ((with_reducible apply z_eqSF); (focus decide +kernel)) | with_reducible refine z_eqS ?_ | with_reducible refine y_int ?_
  | with_reducible refine z_absI ?_ | with_reducible refine z_max ?_ | with_reducible refine z_min ?_ | with_reducible refine z_tuple ?_ | with_reducible refine z_list ?_ | with_reducible refine z_int1 ?_
  | ((with_reducible apply x_lcn); (focus rfl); (focus first | exact trivial | assumption)) | ((with_reducible apply y_bind); (focus rfl); (focus first | exact trivial | assumption); (try dsimp only [List.set_cons_zero, List.set_cons_succ]))
  | ((with_reducible apply y_lenL); (focus rfl)) | with_reducible refine y_tblNT ?_ | with_reducible refine y_tblNF ?_ | with_reducible refine y_blNT ?_ | with_reducible refine y_blNF ?_ | with_reducible refine y_tblT ?_ | with_reducible refine y_tblF ?_ | with_reducible refine y_blT ?_ | with_reducible refine y_blF ?_
  | with_reducible refine y_bl (fun hk => ?_) (fun hk => ?_) | with_reducible refine y_tbl (fun hk => ?_) (fun hk => ?_) | ((with_reducible refine y_tru ?_); (try dsimp only))
  | ((with_reducible apply y_set); (focus exact Nat.le_of_ble_eq_true rfl); (try dsimp only [List.set_cons_zero, List.set_cons_succ])) | ((with_reducible apply y_2); (focus exact Nat.le_of_ble_eq_true rfl); (focus exact Nat.le_of_ble_eq_true rfl); (try dsimp only [List.set_cons_zero, List.set_cons_succ])) | ((with_reducible apply y_ownN); (focus exact Nat.le_of_ble_eq_true rfl); (focus exact Nat.le_of_ble_eq_true rfl); (try dsimp only [List.set_cons_zero, List.set_cons_succ])) | ((with_reducible apply y_N2); (focus exact Nat.le_of_ble_eq_true rfl); (focus exact Nat.le_of_ble_eq_true rfl); (focus exact Nat.le_of_ble_eq_true rfl); (try dsimp only [List.set_cons_zero, List.set_cons_succ])))
abbrev drK (q : Addr) (n : Nat) : List (Str × D) := [("numbers", .obj q), ("at", .int (n : Nat))]
/-- the numbers to be drawn from, n drawn already -/
def Dr (p : Addr) (n : Nat) (g : G) : Prop := ∃ (q : Addr) (ns : List Int), q ≠ p ∧ g p = some (.dct (drK q n)) ∧ g q = some (.lst (ns.map D.int)) ∧ 0 < ns.length ∧ ns.length ≤ 1000 ∧ ∀ x ∈ ns, 0 ≤ x ∧ x < 1048576
theorem x_gkey {fs : List (Nat × WF G)} {s : Str} {p : Addr} {kvs : List (Str × D)} {d : D} {g : G} {Q : Pd G} (h : g p = some (.dct kvs)) (h2 : kvs.lookup s = some d) (q : Q d 2 g) : hS fs (.gkey s) [.obj p] g Q := ⟨kvs, d, h, h2, q⟩
theorem x_gix {fs : List (Nat × WF G)} {p : Addr} {i : Int} {ds : List D} {e : D} {g : G} {Q : Pd G} (h : g p = some (.lst ds)) (h2 : L2.atI ds i = some e) (q : Q e 2 g) : hS fs .gix [.obj p, .int i] g Q := ⟨ds, e, h, h2, q⟩
theorem x_glen {fs : List (Nat × WF G)} {p : Addr} {ds : List D} {g : G} {Q : Pd G} (h : g p = some (.lst ds)) (q : Q (.int ds.length) 2 g) : hS fs (.gsq .len) [.obj p] g Q := ⟨ds, h, q⟩
theorem t_gput {s : Str} {p : Addr} {kvs : List (Str × D)} {d : D} {g : G} {Q : G → Prop} (h : g p = some (.dct kvs)) (h1 : d.lf = true) (h2 : kvs.length < sizeLine) (q : Q (g.put p (.dct (putE s d kvs)))) : hT (.gput s) [d, .obj p] g Q := ⟨kvs, h, h1, h2, q⟩
def wf_law_next : WF G := fun ds g Q => ∃ (p : Addr) (n : Nat) (b : Int), ds = [.obj p, .int b] ∧ 0 < b ∧ n < 1000000000 ∧ Dr p n g ∧ ∀ (k : Int) (g' : G), 0 ≤ k → k < b → Dr p (n + 1) g' → (∀ a, a ≠ p → g' a = g a) → Q (.int k) 2 g'
theorem sp_law_next : ∀ (ds : List D) (g : G) (Pq : Pd G), ds.length = 2 → wf_law_next ds g Pq → VL.wS [] cs_law_next (endP Pq) (env0 ck_law_next.N.length ds) g := by
  rintro ds g Q _ ⟨p, n, b, rfl, b0, hn, ⟨q, ns, hqp, hp, hq, h0, hl, hx⟩, hQ⟩
  show VL.wS _ (.seq _ _) _ [.dat (.obj p) 1, .dat (.int b) 1, .no] _
  repeat' sizeOf_list_dec
  refine x_gkey hp rfl ?_
  repeat' sizeOf_list_dec
  refine t_gput hp rfl (by rw [sizeLine_eq]; show 2 < _; decide) ?_
  have e1 : putE "at" (.int ((n : Int) + 1)) (drK q n) = drK q (n + 1) := rfl
  rw [e1]
  have hp' : (g.put p (.dct (drK q (n + 1)))) p = some (.dct (drK q (n + 1))) := G.put_at
  have hq' : (g.put p (.dct (drK q (n + 1)))) q = some (.lst (ns.map D.int)) := by rw [G.put_ne hqp]; exact hq
  have fin : ∀ k : Int, 0 ≤ k → k < b → Q (.int k) 2 (g.put p (.dct (drK q (n + 1)))) := fun k k0 k1 => hQ k _ k0 k1 ⟨q, ns, hqp, hp', hq', h0, hl, hx⟩ fun a ha => G.put_ne ha
  generalize g.put p (.dct (drK q (n + 1))) = g1 at *
  repeat' sizeOf_list_dec
  refine x_gkey hp' rfl ?_
  repeat' sizeOf_list_dec
  refine x_gkey hp' rfl ?_
  repeat' sizeOf_list_dec
  refine x_glen hq' ?_
  rw [List.length_map]
  refine z_mod (by omega) ?_
  rw [fmodN]
  repeat' sizeOf_list_dec
  refine x_gix hq' (atI_int (k := n % ns.length) (Nat.mod_lt _ h0) rfl) ?_
  repeat' sizeOf_list_dec
  refine x_gkey hp' rfl ?_
  repeat' sizeOf_list_dec
  refine x_glen hq' ?_
  rw [List.length_map]
  refine z_fdiv ⟨by omega, Nat.lt_of_le_of_lt (log2_le (k := 30) (by show ns.length < 1073741824; omega)) (by decide)⟩ ?_
  rw [fdivN]
  refine z_mul (mulW (k := 30) (l := 30) (by decide) ?_ (by decide)) ?_
  · show n / ns.length < 1073741824
    have := Nat.div_le_self n ns.length
    omega
  repeat' sizeOf_list_dec
  refine z_mod (by omega) ?_
  refine fin _ ?_ ?_
  · rw [Int.fmod_eq_emod_of_nonneg _ (by omega)]
    exact Int.emod_nonneg _ (by omega)
  · rw [Int.fmod_eq_emod_of_nonneg _ (by omega)]
    exact Int.emod_lt_of_pos _ b0
def wf_law_pick : WF G := fun ds g Q => ∃ (p : Addr) (n : Nat) (xs : List D), ds = [.obj p, .lst xs] ∧ 0 < xs.length ∧ n < 1000000000 ∧ Dr p n g ∧ ∀ (k : Nat) (g' : G), k < xs.length → Dr p (n + 1) g' → (∀ a, a ≠ p → g' a = g a) → Q (xs.getD k .non) 1 g'
theorem sp_law_pick : ∀ (ds : List D) (g : G) (Pq : Pd G), ds.length = 2 → wf_law_pick ds g Pq → VL.wS [(2, wf_law_next)] cs_law_pick (endP Pq) (env0 ck_law_pick.N.length ds) g := by
  rintro ds g Q _ ⟨p, n, xs, rfl, x0, hn, hd, hQ⟩
  show VL.wS _ (.seq _ _) _ [.dat (.obj p) 1, .dat (.lst xs) 1] _
  repeat' sizeOf_list_dec
  refine y_call rfl rfl ⟨p, n, _, rfl, by omega, hn, hd, fun k g' k0 k1 d' ho => ?_⟩
  obtain ⟨i, rfl⟩ : ∃ i : Nat, k = i := ⟨k.toNat, by omega⟩
  exact y_ix (atI_nat (by omega) rfl) (hQ i g' (by omega) d' ho)
def wf_law_great : WF G := fun ds g Q => ∃ (p : Addr) (n : Nat), ds = [.obj p] ∧ n < 100000000 ∧ Dr p n g ∧ ∀ (z : Int) (n' : Nat) (g' : G), n' ≤ n + 6 → z.natAbs < 2 ^ 80 → Dr p n' g' → (∀ a, a ≠ p → g' a = g a) → Q (.int z) 2 g'
theorem sp_law_great : ∀ (ds : List D) (g : G) (Pq : Pd G), ds.length = 1 → wf_law_great ds g Pq → VL.wS [(2, wf_law_next)] cs_law_great (endP Pq) (env0 ck_law_great.N.length ds) g := by
  rintro ds g Q _ ⟨p, n, rfl, hn, hd, hQ⟩
  show VL.wS _ (.seq _ _) _ [.dat (.obj p) 1, .no, .no] _
  repeat' sizeOf_list_dec
  refine y_call rfl rfl ⟨p, n, _, rfl, by decide, by omega, hd, fun k g1 k0 k1 d1 o1 => ?_⟩
  refine ⟨k, rfl, ⟨by omega, by omega⟩, y_for (l := 2) (by decide) ?_⟩
  refine s_foL (fun i es g' => ∃ (z : Nat) (s2 : Sl), es = [.dat (.obj p) 1, .dat (.int (z : Nat)) 2, s2] ∧ NO s2 ∧ z < 1048576 ^ i ∧ Dr p (n + 1 + i) g' ∧ ∀ a, a ≠ p → g' a = g a) ⟨0, _, rfl, trivial, Nat.zero_lt_one, d1, o1⟩ ?_ ?_
  · rintro i d es g2 K hd2 hK ⟨z, s2, rfl, n2, hz, d2, o2⟩
    have hi : i < 4 := by
      have := (List.getElem?_eq_some_iff.mp hd2).1
      rw [rngD_len] at this
      omega
    refine y_bind rfl n2 ?_
    show VL.wS _ (.seq _ _) _ [.dat (.obj p) 1, .dat (.int (z : Nat)) 2, .dat d 2] _
    repeat' sizeOf_list_dec
    have zz : z < 2 ^ 80 := Nat.lt_of_lt_of_le hz (by
      have : (1048576 : Nat) ^ i ≤ 1048576 ^ 4 := Nat.pow_le_pow_right (by decide) (by omega)
      exact Nat.le_trans this (by decide))
    refine z_mul (mulW (k := 80) (l := 30) zz (by decide) (by decide)) ?_
    repeat' sizeOf_list_dec
    refine y_call rfl rfl ⟨p, n + 1 + i, _, rfl, by decide, by omega, d2, fun k g3 k0 k1 d3 o3 => ?_⟩
    repeat' sizeOf_list_dec
    obtain ⟨j, rfl⟩ : ∃ j : Nat, k = j := ⟨k.toNat, by omega⟩
    refine hK _ _ ⟨z * 1048576 + j, .dat d 2, ?_, trivial, ?_, d3, fun a ha => by rw [o3 a ha, o2 a ha]⟩
    · rw [Int.natCast_add, Int.natCast_mul]
      rfl
    · rw [Nat.pow_succ]
      have := Nat.mul_le_mul_right 1048576 (Nat.succ_le_of_lt hz)
      omega
  · rintro es g2 ⟨z, s2, rfl, n2, hz, d2, o2⟩
    rw [rngD_len] at hz d2
    have zz : z < 2 ^ 80 := Nat.lt_of_lt_of_le hz (by
      have : (1048576 : Nat) ^ (k - 0).toNat ≤ 1048576 ^ 4 := Nat.pow_le_pow_right (by decide) (by omega)
      exact Nat.le_trans this (by decide))
    repeat' sizeOf_list_dec
    refine y_call rfl rfl ⟨p, _, _, rfl, by decide, by omega, d2, fun k3 g3 k0 k1 d3 o3 => ?_⟩
    repeat' sizeOf_list_dec
    · exact hQ _ _ _ (by omega) zz d3 fun a ha => by rw [o3 a ha, o2 a ha]
    · exact hQ _ _ _ (by omega) (by rw [Int.natAbs_neg]; exact zz) d3 fun a ha => by rw [o3 a ha, o2 a ha]
end T
namespace T
def Prm (n : Nat) : Prop := 2 ≤ n ∧ ∀ d, 2 ≤ d → d * d ≤ n → n % d ≠ 0
theorem Prm.divs {n : Nat} (h : Prm n) {d : Nat} (hd : d ∣ n) : d = 1 ∨ d = n := by
  obtain ⟨e, he⟩ := hd
  have hn := h.1
  rcases Nat.lt_or_ge d 2 with q | q
  · rcases Nat.eq_zero_or_pos d with z | z
    · subst z; omega
    · left; omega
  · rcases Nat.lt_or_ge e 2 with q2 | q2
    · rcases Nat.eq_zero_or_pos e with z | z
      · subst z; omega
      · have : e = 1 := by omega
        subst this
        right; omega
    · exfalso
      rcases Nat.le_total d e with l | l
      · have : d * d ≤ n := by rw [he]; exact Nat.mul_le_mul_left d l
        exact h.2 d q this (by rw [he]; exact Nat.mul_mod_right d e)
      · have : e * e ≤ n := by rw [he]; exact Nat.mul_le_mul_right e l
        exact h.2 e q2 this (by rw [he]; exact Nat.mul_mod_left d e)
theorem Prm.cop {n : Nat} (h : Prm n) {a : Nat} (ha : ¬ n ∣ a) : Nat.Coprime n a := by
  rcases h.divs (Nat.gcd_dvd_left n a) with q | q
  · exact q
  · exact absurd (q ▸ Nat.gcd_dvd_right n a) ha
theorem Prm.mul {n : Nat} (h : Prm n) {a b : Nat} (hd : n ∣ a * b) : n ∣ a ∨ n ∣ b := by
  by_cases q : n ∣ a
  · exact .inl q
  · exact .inr ((h.cop q).dvd_of_dvd_mul_left hd)
theorem dvd_sub_of {n a b : Nat} (h : a % n = b % n) : n ∣ b - a := Nat.dvd_of_mod_eq_zero (Nat.sub_mod_eq_zero_of_mod_eq h.symm)
theorem mod_of_dvd {n a b : Nat} (l : a ≤ b) (h : n ∣ b - a) : a % n = b % n := by
  obtain ⟨k, hk⟩ := h
  have : b = n * k + a := by omega
  rw [this, Nat.mul_add_mod]
/-! a row without twins within another one as long -/
theorem perm_of {α : Type} [BEq α] [LawfulBEq α] : ∀ {l m : List α}, l.Nodup → (∀ x ∈ l, x ∈ m) → m.length ≤ l.length → l.Perm m
  | [], m, _, _, h => by
    have : m = [] := by
      cases m with
      | nil => rfl
      | cons a m => simp at h
    rw [this]
  | x :: l, m, hn, hs, h => by
    have hx : x ∈ m := hs x List.mem_cons_self
    rw [List.nodup_cons] at hn
    have p := List.perm_cons_erase hx
    refine List.Perm.trans (List.Perm.cons x (perm_of (m := m.erase x) hn.2 (fun y hy => ?_) ?_)) p.symm
    · have := hs y (List.mem_cons_of_mem _ hy)
      refine (List.mem_erase_of_ne fun e => ?_).mpr this
      subst e
      exact hn.1 hy
    · rw [List.length_erase_of_mem hx]
      simp only [List.length_cons] at h
      omega
def prodL (l : List Nat) : Nat := l.foldr (· * ·) 1
theorem prodL_cons (x : Nat) (l : List Nat) : prodL (x :: l) = x * prodL l := rfl
theorem prodL_perm {l m : List Nat} (p : l.Perm m) : prodL l = prodL m := by
  induction p with
  | nil => rfl
  | cons x _ ih => rw [prodL_cons, prodL_cons, ih]
  | swap x y l => rw [prodL_cons, prodL_cons, prodL_cons, prodL_cons, Nat.mul_left_comm]
  | trans _ _ h1 h2 => rw [h1, h2]
theorem prodL_mod (a n : Nat) : ∀ l : List Nat, prodL (l.map fun i => a * i % n) % n = a ^ l.length * prodL l % n
  | [] => by simp [prodL]
  | x :: l => by
    rw [List.map_cons, prodL_cons, Nat.mul_mod, prodL_mod a n l, Nat.mod_mod, ← Nat.mul_mod, List.length_cons, prodL_cons, Nat.pow_succ]
    congr 1
    rw [Nat.mul_assoc, Nat.mul_assoc, Nat.mul_left_comm x, Nat.mul_left_comm a]
theorem fermat {p a : Nat} (h : Prm p) (ha : ¬ p ∣ a) : a ^ (p - 1) % p = 1 := by
  have hp := h.1
  let L : List Nat := (List.range (p - 1)).map (· + 1)
  have hL : ∀ x, x ∈ L ↔ 0 < x ∧ x < p := fun x => by
    simp only [L, List.mem_map, List.mem_range]
    constructor
    · rintro ⟨y, h1, rfl⟩; omega
    · rintro ⟨h1, h2⟩; exact ⟨x - 1, by omega, by omega⟩
  have nL : L.Nodup := by
    refine List.Pairwise.map _ (fun a b hab e => hab ?_) (List.nodup_range)
    omega
  have lL : L.length = p - 1 := by simp [L]
  have pm : (L.map fun i => a * i % p).Perm L := by
    refine perm_of ?_ (fun x hx => ?_) (by simp)
    · refine List.pairwise_map.mpr (List.Pairwise.imp_of_mem (R := (· ≠ ·)) ?_ nL)
      intro x y hx hy ne e
      rw [hL] at hx hy
      have key : ∀ x y : Nat, x < y → y < p → a * x % p = a * y % p → False := fun x y l1 l2 e => by
        have : p ∣ a * (y - x) := by
          rw [Nat.mul_sub]
          exact dvd_sub_of e
        rcases h.mul this with q | q
        · exact ha q
        · have := Nat.le_of_dvd (by omega) q
          omega
      rcases Nat.lt_or_gt_of_ne ne with q | q
      · exact key x y q hy.2 e
      · exact key y x q hx.2 e.symm
    · obtain ⟨i, hi, rfl⟩ := List.mem_map.mp hx
      rw [hL] at hi
      rw [hL]
      refine ⟨Nat.pos_of_ne_zero fun e => ?_, Nat.mod_lt _ (by omega)⟩
      rcases h.mul (Nat.dvd_of_mod_eq_zero e) with q | q
      · exact ha q
      · have := Nat.le_of_dvd hi.1 q
        omega
  have e1 := prodL_mod a p L
  rw [prodL_perm pm, lL] at e1
  have cop : ∀ l : List Nat, (∀ x ∈ l, 0 < x ∧ x < p) → ¬ p ∣ prodL l := by
    intro l
    induction l with
    | nil =>
      intro _ hd
      have := Nat.le_of_dvd (by decide) hd
      simp [prodL] at this
      omega
    | cons x l ih =>
      intro hx hd
      rcases h.mul (by rw [prodL_cons] at hd; exact hd) with q | q
      · have := hx x List.mem_cons_self
        have := Nat.le_of_dvd (by omega) q
        omega
      · exact ih (fun y hy => hx y (List.mem_cons_of_mem _ hy)) q
  have nd := cop L fun x hx => (hL x).mp hx
  -- (a^(p-1) - 1) * P divisible
  have pos : 1 ≤ a ^ (p - 1) := Nat.pow_pos (Nat.pos_of_ne_zero fun e => ha (e ▸ Nat.dvd_zero p))
  have dv : p ∣ (a ^ (p - 1) - 1) * prodL L := by
    rw [Nat.sub_mul, Nat.one_mul]
    exact dvd_sub_of e1
  rcases h.mul dv with q | q
  · have e2 : 1 % p = a ^ (p - 1) % p := mod_of_dvd pos q
    rw [← e2]
    exact Nat.mod_eq_of_lt (by omega)
  · exact absurd q nd
theorem root1 {p x : Nat} (h : Prm p) (e : x * x % p = 1) : x % p = 1 ∨ x % p = p - 1 := by
  have hp := h.1
  have x0 : 0 < x := Nat.pos_of_ne_zero fun z => by subst z; simp at e
  have dv : p ∣ (x - 1) * (x + 1) := by
    have e2 : (x - 1) * (x + 1) = x * x - 1 := by
      obtain ⟨y, rfl⟩ : ∃ y, x = y + 1 := ⟨x - 1, by omega⟩
      simp only [Nat.add_sub_cancel]
      rw [Nat.add_mul, Nat.one_mul, Nat.mul_add, Nat.mul_add]
      omega
    rw [e2]
    refine dvd_sub_of ?_
    rw [e]
    exact Nat.mod_eq_of_lt (by omega)
  rcases h.mul dv with q | q
  · left
    have : 1 % p = x % p := mod_of_dvd x0 q
    rw [← this]
    exact Nat.mod_eq_of_lt (by omega)
  · right
    obtain ⟨k, hk⟩ := q
    have : x = p * (k - 1) + (p - 1) := by
      cases k with
      | zero => omega
      | succ k => simp only [Nat.add_sub_cancel]; rw [Nat.mul_succ] at hk; omega
    rw [this, Nat.mul_add_mod]
    exact Nat.mod_eq_of_lt (by omega)
/-- n behind the base a: odd and twos make n - 1 -/
def Strong (n odd twos a : Nat) : Prop := a ^ odd % n = 1 ∨ ∃ k, k < twos ∧ a ^ (odd * 2 ^ k) % n = n - 1
theorem strong_of {p a odd twos : Nat} (h : Prm p) (ha : ¬ p ∣ a) (e : odd * 2 ^ twos = p - 1) : Strong p odd twos a := by
  have key : ∀ t, (a ^ (odd * 2 ^ t) % p = 1) → a ^ odd % p = 1 ∨ ∃ k, k < t ∧ a ^ (odd * 2 ^ k) % p = p - 1 := by
    intro t
    induction t with
    | zero => intro h1; left; simpa using h1
    | succ t ih =>
      intro h1
      have : a ^ (odd * 2 ^ t) * a ^ (odd * 2 ^ t) % p = 1 := by
        rw [← Nat.pow_add, ← h1, ← Nat.mul_two, Nat.mul_assoc, ← Nat.pow_succ]
      rcases root1 h this with q | q
      · rcases ih q with r | ⟨k, h2, h3⟩
        · exact .inl r
        · exact .inr ⟨k, by omega, h3⟩
      · exact .inr ⟨t, by omega, q⟩
  exact key twos (by rw [e]; exact fermat h ha)
/-- who is strong keeps Fermat -/
theorem strong_fermat {n odd twos a : Nat} (hn : 2 ≤ n) (e : odd * 2 ^ twos = n - 1) (h : Strong n odd twos a) : a ^ (n - 1) % n = 1 := by
  have one : ∀ x m, x % n = 1 → x ^ m % n = 1 := fun x m h => by
    rw [Nat.pow_mod, h, Nat.one_pow]
    exact Nat.mod_eq_of_lt (by omega)
  rcases h with h | ⟨k, hk, h⟩
  · rw [← e, Nat.pow_mul]
    exact one _ _ h
  · have h2 : (a ^ (odd * 2 ^ k)) ^ 2 % n = 1 := by
      rw [Nat.pow_mod, h]
      obtain ⟨m, rfl⟩ : ∃ m, n = m + 1 := ⟨n - 1, by omega⟩
      simp only [Nat.add_sub_cancel]
      have : m ^ 2 = (m + 1) * (m - 1) + 1 := by
        cases m with
        | zero => omega
        | succ m =>
          simp only [Nat.add_sub_cancel, Nat.pow_succ, Nat.pow_zero, Nat.one_mul]
          simp only [Nat.add_mul, Nat.mul_add]
          omega
      rw [this, Nat.mul_add_mod]
      exact Nat.mod_eq_of_lt (by omega)
    rw [← e]
    obtain ⟨j, rfl⟩ : ∃ j, twos = k + 1 + j := ⟨twos - (k + 1), by omega⟩
    rw [Nat.pow_add, Nat.pow_succ, Nat.mul_assoc, ← Nat.mul_assoc odd, Nat.pow_mul, Nat.pow_mul]
    exact one _ _ h2
end T
namespace T
/-- a to the n - 1, modulo n -/
def fm (a n : Nat) : Nat := (a ^ 1000 % n) ^ ((n - 1) / 1000) % n * (a ^ ((n - 1) % 1000) % n) % n
theorem fm_eq (a n : Nat) : fm a n = a ^ (n - 1) % n := by
  unfold fm
  rw [← Nat.mul_mod, Nat.mul_mod, ← Nat.pow_mod, ← Nat.mul_mod, ← Nat.pow_mul, ← Nat.pow_add, Nat.div_add_mod]
/-- no base's power is 1 or less 1, square by square -/
def weakB (n : Nat) : Nat → Nat → Bool
  | 0, _ => true
  | t + 1, x => match Nat.beq x (n - 1) with
    | true => false
    | false => weakB n t (x * x % n)
def weak (n odd twos a : Nat) : Bool := match Nat.beq (a ^ odd % n) 1 with
  | true => false
  | false => weakB n twos (a ^ odd % n)
theorem weakB_ok {n : Nat} : ∀ {t x : Nat}, weakB n t x = true → x % n = x → ∀ k, k < t → x ^ (2 ^ k) % n ≠ n - 1
  | 0, _, _, _, k, hk => absurd hk (Nat.not_lt_zero k)
  | t + 1, x, h, hx, k, hk => by
    unfold weakB at h
    split at h
    · cases h
    · rename_i q
      cases k with
      | zero =>
        rw [Nat.pow_zero, Nat.pow_one, hx]
        exact fun e => by subst e; rw [Nat.beq_refl] at q; cases q
      | succ k =>
        have := weakB_ok h (Nat.mod_mod _ _) k (by omega)
        rw [← Nat.pow_mod, ← Nat.pow_two, ← Nat.pow_mul] at this
        rw [Nat.pow_succ, Nat.mul_comm]
        exact this
theorem weak_ok {n odd twos a : Nat} (h : weak n odd twos a = true) : ¬ Strong n odd twos a := by
  unfold weak at h
  split at h
  · cases h
  · rename_i q
    rintro (s | ⟨k, hk, s⟩)
    · rw [s] at q; cases q
    · refine weakB_ok h (Nat.mod_mod _ _) k hk ?_
      rw [← Nat.pow_mod, ← Nat.pow_mul]
      exact s
def split : Nat → Nat → Nat → Nat × Nat
  | 0, o, t => (o, t)
  | f + 1, o, t => match Nat.beq (o % 2) 0 with
    | true => split f (o / 2) (t + 1)
    | false => (o, t)
theorem split_ok {odd : Nat} (ho : odd % 2 = 1) : ∀ {f s t : Nat}, s ≤ f → split f (odd * 2 ^ s) t = (odd, t + s)
  | 0, s, t, h => by
    have : s = 0 := by omega
    subst this
    simp [split]
  | f + 1, 0, t, h => by
    unfold split
    simp [ho]
  | f + 1, s + 1, t, h => by
    unfold split
    have e : odd * 2 ^ (s + 1) = 2 * (odd * 2 ^ s) := by rw [Nat.pow_succ, ← Nat.mul_assoc, Nat.mul_comm]
    rw [e, Nat.mul_mod_right, Nat.mul_div_cancel_left _ (by decide)]
    show split f (odd * 2 ^ s) (t + 1) = _
    rw [split_ok ho (by omega)]
    congr 1
    omega
def ok2 (n : Nat) : Bool := weak n (split 20 (n - 1) 0).1 (split 20 (n - 1) 0).2 2 || weak n (split 20 (n - 1) 0).1 (split 20 (n - 1) 0).2 3
def ok1 (n : Nat) : Bool := match Nat.beq (Nat.gcd n 7420738134810) 1 with
  | false => true
  | true => match Nat.beq (fm 2 n) 1 with
    | false => true
    | true => ok2 n
def lp : Nat → Nat → Nat → Bool
  | 0, _, _ => true
  | k + 1, p, m => match ok1 (p * m) with
    | true => lp k p (m + 2)
    | false => false
theorem lp_ok : ∀ {k p m : Nat}, lp k p m = true → ∀ i, i < k → ok1 (p * (m + 2 * i)) = true
  | 0, _, _, _, i, h => absurd h (Nat.not_lt_zero i)
  | k + 1, p, m, h, i, hi => by
    unfold lp at h
    split at h
    · rename_i q
      cases i with
      | zero => exact q
      | succ i =>
        have := lp_ok h i (by omega)
        rw [show m + 2 * (i + 1) = m + 2 + 2 * i by omega]
        exact this
    · cases h
def bases : List Nat := [2, 3, 5, 7, 11, 13, 17, 19, 23, 29, 31, 37]
/-- whether it is a prime, of those below 1000 -/
def pb (n : Nat) : Bool := (List.range 32).all fun d => Nat.ble d 1 || (!Nat.ble (d * d) n || !Nat.beq (n % d) 0)
theorem all_lp : (List.range 1000).all (fun p => Nat.ble p 40 || (!pb p || lp ((1000000 / p - p) / 2 + 1) p p)) = true := by decide +kernel
theorem low_pb : (List.range 41).all (fun p => Nat.ble p 1 || (!pb p || bases.contains p)) = true := by decide +kernel
theorem low_base : (List.range 41).all (fun n => Nat.ble n 1 || bases.any fun q => Nat.beq (n % q) 0) = true := by decide +kernel
theorem pb_of {p : Nat} (h : Prm p) : pb p = true := by
  unfold pb
  rw [List.all_eq_true]
  intro d hd
  rcases Nat.lt_or_ge d 2 with q | q
  · have : Nat.ble d 1 = true := Nat.ble_eq.mpr (by omega)
    rw [this]; rfl
  · rcases Nat.lt_or_ge p (d * d) with r | r
    · have : Nat.ble (d * d) p = false := by
        cases e : Nat.ble (d * d) p with
        | false => rfl
        | true => have := Nat.ble_eq.mp e; omega
      rw [this]; simp
    · have : Nat.beq (p % d) 0 = false := by
        cases e : Nat.beq (p % d) 0 with
        | false => rfl
        | true => exact absurd (Nat.eq_of_beq_eq_true e) (h.2 d q r)
      rw [this]; simp
theorem base_prm : ∀ q ∈ bases, Prm q := by
  have key : ∀ q ∈ bases, 2 ≤ q ∧ q < 49 ∧ ((List.range 7).all fun d => Nat.ble d 1 || (!Nat.ble (d * d) q || !Nat.beq (q % d) 0)) = true := by decide
  intro q hq
  obtain ⟨h1, h2, h3⟩ := key q hq
  refine ⟨h1, fun d h4 h5 h6 => ?_⟩
  have hd : d < 7 := by
    rcases Nat.lt_or_ge d 7 with y | y
    · exact y
    · have := Nat.mul_le_mul y y
      omega
  have := List.all_eq_true.mp h3 d (List.mem_range.mpr hd)
  have e1 : Nat.ble d 1 = false := by
    cases e : Nat.ble d 1 with
    | false => rfl
    | true => have := Nat.ble_eq.mp e; omega
  rw [e1, Nat.ble_eq.mpr h5, h6] at this
  cases this
/-- the least divisor -/
theorem least_div (n : Nat) (h : ¬ Prm n) (h2 : 2 ≤ n) : ∃ d, Prm d ∧ d * d ≤ n ∧ n % d = 0 := by
  have ex : ∃ d, 2 ≤ d ∧ d * d ≤ n ∧ n % d = 0 := by
    by_cases q : ∃ d, 2 ≤ d ∧ d * d ≤ n ∧ n % d = 0
    · exact q
    · exact absurd ⟨h2, fun d h3 h4 h5 => q ⟨d, h3, h4, h5⟩⟩ h
  obtain ⟨d, hd⟩ := ex
  induction d using Nat.strongRecOn with
  | ind d ih =>
    by_cases p : Prm d
    · exact ⟨d, p, hd.2.1, hd.2.2⟩
    · by_cases q : ∃ e, 2 ≤ e ∧ e * e ≤ d ∧ d % e = 0
      · obtain ⟨e, h3, h4, h5⟩ := q
        have l1 : e < d := by
          have := Nat.mul_le_mul_right e h3
          omega
        refine ih e l1 ⟨h3, ?_, ?_⟩
        · have := Nat.mul_le_mul (Nat.le_of_lt l1) (Nat.le_of_lt l1)
          omega
        · have a := Nat.dvd_of_mod_eq_zero h5
          have b := Nat.dvd_of_mod_eq_zero hd.2.2
          exact Nat.mod_eq_zero_of_dvd (Nat.dvd_trans a b)
      · exact absurd ⟨hd.1, fun e h3 h4 h5 => q ⟨e, h3, h4, h5⟩⟩ p
theorem cop_bases {n : Nat} (h : ∀ q ∈ bases, n % q ≠ 0) : Nat.gcd n 7420738134810 = 1 := by
  have c : ∀ q ∈ bases, Nat.Coprime n q := fun q hq => Nat.Coprime.symm ((base_prm q hq).cop fun d => h q hq (Nat.mod_eq_zero_of_dvd d))
  have e : 7420738134810 = 2 * 3 * 5 * 7 * 11 * 13 * 17 * 19 * 23 * 29 * 31 * 37 := by decide
  rw [e]
  have m : ∀ {a b : Nat}, Nat.Coprime n a → Nat.Coprime n b → Nat.Coprime n (a * b) := fun h1 h2 => Nat.Coprime.mul_right h1 h2
  refine m (m (m (m (m (m (m (m (m (m (m ?_ ?_) ?_) ?_) ?_) ?_) ?_) ?_) ?_) ?_) ?_) ?_ <;> exact c _ (by decide)
theorem mr {n odd twos : Nat} (hn : n < 1000000) (h41 : 2 ≤ n) (hc : ∀ q ∈ bases, n % q ≠ 0) (he : odd * 2 ^ twos = n - 1) (ho : odd % 2 = 1)
    (s2 : Strong n odd twos 2) (s3 : Strong n odd twos 3) : Prm n := by
  refine Classical.byContradiction fun np => ?_
  obtain ⟨p, hp, h1, h2⟩ := least_div n np h41
  have p1000 : p < 1000 := by
    rcases Nat.lt_or_ge p 1000 with y | y
    · exact y
    · have := Nat.mul_le_mul y y
      omega
  have p40 : 40 < p := by
    rcases Nat.lt_or_ge 40 p with y | y
    · exact y
    · have z := List.all_eq_true.mp low_pb p (List.mem_range.mpr (by omega))
      have e1 : Nat.ble p 1 = false := by
        cases e : Nat.ble p 1 with
        | false => rfl
        | true => have := Nat.ble_eq.mp e; have := hp.1; omega
      rw [e1, pb_of hp] at z
      have : p ∈ bases := by simpa using z
      exact absurd h2 (hc p this)
  have z := List.all_eq_true.mp all_lp p (List.mem_range.mpr p1000)
  have e1 : Nat.ble p 40 = false := by
    cases e : Nat.ble p 40 with
    | false => rfl
    | true => have := Nat.ble_eq.mp e; omega
  rw [e1, pb_of hp] at z
  have z : lp ((1000000 / p - p) / 2 + 1) p p = true := z
  obtain ⟨m, rfl⟩ := Nat.dvd_of_mod_eq_zero h2
  have pm : p ≤ m := Nat.le_of_mul_le_mul_left h1 (by omega)
  have mle : m ≤ 1000000 / p := (Nat.le_div_iff_mul_le (by omega)).mpr (by rw [Nat.mul_comm]; omega)
  have odd1 : p * m % 2 = 1 := by have := hc 2 (by decide); omega
  have po : p % 2 = 1 := by
    rcases Nat.mod_two_eq_zero_or_one p with y | y
    · rw [Nat.mul_mod, y] at odd1; simp at odd1
    · exact y
  have mo : m % 2 = 1 := by
    rcases Nat.mod_two_eq_zero_or_one m with y | y
    · rw [Nat.mul_mod, y] at odd1; simp at odd1
    · exact y
  have k := lp_ok z ((m - p) / 2) (by omega)
  rw [show p + 2 * ((m - p) / 2) = m by omega] at k
  unfold ok1 at k
  rw [cop_bases hc] at k
  have f2 : fm 2 (p * m) = 1 := by rw [fm_eq]; exact strong_fermat h41 he s2
  rw [f2] at k
  have k : ok2 (p * m) = true := k
  have tw : twos ≤ 20 := by
    rcases Nat.le_total twos 20 with y | y
    · exact y
    · have := Nat.pow_le_pow_right (n := 2) (by decide) y
      have : 2 ^ twos ≤ p * m - 1 := by
        rw [← he]
        exact Nat.le_mul_of_pos_left _ (by omega)
      omega
  unfold ok2 at k
  rw [← he, split_ok ho tw, Nat.zero_add, Bool.or_eq_true] at k
  rcases k with k | k
  · exact weak_ok k s2
  · exact weak_ok k s3
end T
namespace T
open PySem PySem.Spec PyProof.Rows VL
local macro_rules | `(tactic| sizeOf_list_dec) => `(tactic| first
  | with_reducible refine x_int ?_ | with_reducible refine x_bl ?_ | with_reducible refine x_non ?_ | with_reducible refine x_str ?_ | with_reducible refine x_glo ?_ | with_reducible refine x_bin ?_ | with_reducible refine x_neg ?_ | with_reducible refine x_not ?_ | with_reducible refine x_cmp ?_ | with_reducible refine x_chain ?_ | with_reducible refine x_and ?_ | with_reducible refine x_or ?_ | with_reducible refine x_ite ?_ | with_reducible refine x_tup ?_ | with_reducible refine x_lst ?_ | with_reducible refine x_ix ?_ | with_reducible refine x_sq ?_ | with_reducible refine x_bi ?_ | with_reducible refine x_isi ?_ | with_reducible refine x_call ?_ | with_reducible refine x_sl ?_ | with_reducible refine x_ext ?_
  | with_reducible refine x_anil ?_ | with_reducible refine x_acons ?_ | with_reducible refine x_slst ?_ | with_reducible refine x_stup ?_ | with_reducible refine x_ono ?_ | with_reducible refine x_osome ?_ | with_reducible refine s_seqE ?_ | with_reducible refine s_seq ?_ | with_reducible refine s_asg ?_ | with_reducible refine s_own ?_ | with_reducible refine s_ret ?_ | with_reducible refine s_retN ?_ | with_reducible refine s_brk ?_ | with_reducible refine s_cont ?_ | with_reducible refine s_pas ?_ | with_reducible refine s_if ?_ | with_reducible refine s_for ?_ | with_reducible refine s_exp ?_ | with_reducible refine s_unp ?_ | with_reducible refine s_par ?_ | with_reducible refine s_parN ?_ | with_reducible refine s_parO ?_ | with_reducible refine x_jrng1 ?_ | with_reducible refine x_jrngd ?_ | with_reducible refine x_irng1 ?_ | with_reducible refine x_irngd ?_ | with_reducible refine x_jit ?_ | with_reducible refine x_iit ?_ | with_reducible refine s_nilE ?_ | with_reducible refine s_nil ?_ | with_reducible refine s_ext ?_ | with_reducible refine s_gfor ?_ | with_reducible refine s_gapp ?_
  | ((with_reducible apply x_var); · rfl) | ((with_reducible apply x_varo); · rfl) | ((with_reducible apply x_vvar); · rfl) | ((with_reducible apply x_vown); · rfl) | ((with_reducible apply x_v); · rfl) | ((with_reducible apply x_qlst); · rfl) | ((with_reducible apply x_qtup); · rfl) | ((with_reducible apply x_qown); · rfl) | ((with_reducible apply x_q); · rfl) | ((with_reducible apply s_augP); · rfl) | ((with_reducible apply s_augM); · rfl) | ((with_reducible apply s_app); · rfl) | ((with_reducible apply s_frz); · rfl)
  | with_reducible refine z_len ?_ | with_reducible refine z_add ?_ | with_reducible refine z_sub ?_ | with_reducible refine z_lt ?_ | with_reducible refine z_le ?_ | with_reducible refine z_gt ?_ | with_reducible refine z_ge ?_ | with_reducible refine z_eq ?_ | with_reducible refine z_ne ?_ | with_reducible refine z_eqB ?_ | with_reducible refine z_neB ?_ | ((with_reducible apply z_eqST); (focus decide +kernel)) | ((with_reducible apply z_eqSF); (focus decide +kernel)) | with_reducible refine z_eqS ?_ | with_reducible refine y_int ?_
  | with_reducible refine z_absI ?_ | with_reducible refine z_max ?_ | with_reducible refine z_min ?_ | with_reducible refine z_tuple ?_ | with_reducible refine z_list ?_ | with_reducible refine z_int1 ?_
  | ((with_reducible apply x_lcn); (focus rfl); (focus first | exact trivial | assumption)) | ((with_reducible apply y_bind); (focus rfl); (focus first | exact trivial | assumption); (try dsimp only [List.set_cons_zero, List.set_cons_succ]))
  | ((with_reducible apply y_lenL); (focus rfl)) | with_reducible refine y_tblNT ?_ | with_reducible refine y_tblNF ?_ | with_reducible refine y_blNT ?_ | with_reducible refine y_blNF ?_ | with_reducible refine y_tblT ?_ | with_reducible refine y_tblF ?_ | with_reducible refine y_blT ?_ | with_reducible refine y_blF ?_
  | with_reducible refine y_bl (fun hk => ?_) (fun hk => ?_) | with_reducible refine y_tbl (fun hk => ?_) (fun hk => ?_) | ((with_reducible refine y_tru ?_); (try dsimp only))
  | ((with_reducible apply y_set); (focus exact Nat.le_of_ble_eq_true rfl); (try dsimp only [List.set_cons_zero, List.set_cons_succ])) | ((with_reducible apply y_2); (focus exact Nat.le_of_ble_eq_true rfl); (focus exact Nat.le_of_ble_eq_true rfl); (try dsimp only [List.set_cons_zero, List.set_cons_succ])) | ((with_reducible apply y_ownN); (focus exact Nat.le_of_ble_eq_true rfl); (focus exact Nat.le_of_ble_eq_true rfl); (try dsimp only [List.set_cons_zero, List.set_cons_succ])) | ((with_reducible apply y_N2); (focus exact Nat.le_of_ble_eq_true rfl); (focus exact Nat.le_of_ble_eq_true rfl); (focus exact Nat.le_of_ble_eq_true rfl); (try dsimp only [List.set_cons_zero, List.set_cons_succ])))
/-- L bits, the greatest first -/
def bitsI (e L : Nat) : List Int := (List.range L).map fun i => ((e / 2 ^ (L - 1 - i) % 2 : Nat) : Int)
def lowI (e L : Nat) : List Int := (List.range L).map fun i => ((e / 2 ^ i % 2 : Nat) : Int)
theorem low_rev (e L : Nat) : (lowI e L).reverse = bitsI e L := by
  unfold lowI bitsI
  rw [← List.map_reverse]
  refine List.ext_getElem (by simp) fun i h1 h2 => ?_
  simp at h1 h2
  simp [List.getElem_reverse]
theorem low_snoc (e L : Nat) : lowI e (L + 1) = lowI e L ++ [((e / 2 ^ L % 2 : Nat) : Int)] := by
  unfold lowI
  rw [List.range_succ, List.map_append]
  rfl
def wf_law_bits : WF G := fun ds g Q => ∃ e : Nat, ds = [.int e] ∧ e < 2 ^ 100 ∧ ∀ L, e < 2 ^ L → L ≤ 101 → Q (.lst ((bitsI e L).map D.int)) 2 g
theorem sp_law_bits : ∀ (ds : List D) (g : G) (Pq : Pd G), ds.length = 1 → wf_law_bits ds g Pq → VL.wS [] cs_law_bits (endP Pq) (env0 ck_law_bits.N.length ds) g := by
  rintro ds g Q _ ⟨e, rfl, he, hQ⟩
  show VL.wS _ (.seq _ _) _ [.dat (.int (e : Nat)) 1, .no] _
  repeat' sizeOf_list_dec
  refine s_while (fun m es g' => ∃ L l0, es = [.dat (.int ((e / 2 ^ L : Nat) : Int)) l0, .own ((lowI e L).map D.int) 2] ∧ g' = g ∧ (L = 0 ∨ 2 ^ (L - 1) ≤ e) ∧ e / 2 ^ L ≤ m) e ⟨0, 1, by simp; rfl, rfl, .inl rfl, by simp⟩ ?_
  rintro m es g' K hK ⟨L, l0, rfl, rfl, hL, hm⟩
  have L1 : L ≤ 100 := by
    rcases hL with h | h
    · omega
    · rcases Nat.lt_or_ge 100 L with y | y
      · have : 2 ^ 100 ≤ 2 ^ (L - 1) := Nat.pow_le_pow_right (by decide) (by omega)
        omega
      · exact y
  repeat' sizeOf_list_dec
  · rename_i hk
    have h0 : 0 < e / 2 ^ L := Int.natCast_pos.mp (of_decide_eq_true hk)
    have h1 : 2 ^ L ≤ e := by
      rcases Nat.lt_or_ge e (2 ^ L) with y | y
      · rw [Nat.div_eq_of_lt y] at h0
        cases h0
      · exact y
    refine z_mod (by decide) ?_
    have f := fmodN (e / 2 ^ L) 2
    rw [show (((e / 2 ^ L : Nat) : Int)).fmod 2 = ((e / 2 ^ L % 2 : Nat) : Int) from f]
    refine ⟨by rw [List.length_map]; unfold lowI; rw [List.length_map, List.length_range, sizeLine_eq]; omega, .inl (Nat.le_refl _), ?_⟩
    repeat' sizeOf_list_dec
    refine z_fdiv ⟨by decide, by decide +kernel⟩ ?_
    have f2 := fdivN (e / 2 ^ L) 2
    rw [show (((e / 2 ^ L : Nat) : Int)).fdiv 2 = ((e / 2 ^ L / 2 : Nat) : Int) from f2]
    repeat' sizeOf_list_dec
    refine hK (m - 1) _ _ (by omega) ⟨L + 1, 2, ?_, rfl, .inr h1, ?_⟩
    · rw [low_snoc, List.map_append, Nat.pow_succ, ← Nat.div_div_eq_div_mul]
      rfl
    · rw [Nat.pow_succ, ← Nat.div_div_eq_div_mul]
      omega
  · rename_i hk
    have h0 : e / 2 ^ L = 0 := Nat.eq_zero_of_not_pos fun y => of_decide_eq_false hk (Int.natCast_pos.mpr y)
    have h1 : e < 2 ^ L := by
      rcases Nat.lt_or_ge e (2 ^ L) with y | y
      · exact y
      · have := Nat.div_pos y (Nat.pow_pos (by decide))
        omega
    repeat' sizeOf_list_dec
    refine x_rev ?_
    repeat' sizeOf_list_dec
    refine ⟨rfl, ?_⟩
    rw [← List.map_reverse, low_rev]
    exact hQ L h1 (by omega)
def wf_law_modpow : WF G := fun ds g Q => ∃ a e m : Nat, ds = [.int a, .int e, .int m] ∧ 0 < m ∧ m < 1073741824 ∧ a < 1073741824 ∧ e < 2 ^ 100 ∧ Q (.int ((a ^ e % m : Nat) : Int)) 2 g
theorem x_v' {fs : List (Nat × WF G)} {es : VL.Env} {g : G} {Q : Pd G} {c a b : CE} (q : VL.wE fs (.ite c a b) es g Q) : VL.wV (.ite c a b) (VL.wE fs (.ite c a b)) es g Q := x_v rfl q
theorem sp_law_modpow : ∀ (ds : List D) (g : G) (Pq : Pd G), ds.length = 3 → wf_law_modpow ds g Pq → VL.wS [(1, wf_law_bits)] cs_law_modpow (endP Pq) (env0 ck_law_modpow.N.length ds) g := by
  rintro ds g Q _ ⟨a, e, m, rfl, m0, m1, a1, he, q⟩
  show VL.wS _ (.seq _ _) _ [.dat (.int (a : Nat)) 1, .dat (.int (e : Nat)) 1, .dat (.int (m : Nat)) 1, .no, .no] _
  repeat' sizeOf_list_dec
  refine z_mod (by omega) ?_
  rw [show (1 : Int).fmod (m : Nat) = ((1 % m : Nat) : Int) from fmodN 1 m]
  repeat' sizeOf_list_dec
  refine y_call rfl rfl ⟨e, rfl, he, fun L hL hL2 => ?_⟩
  refine y_for (l := 2) (by decide) ?_
  have lb : (bitsI e L).length = L := by unfold bitsI; simp
  refine s_foL (fun i es g' => ∃ s4, es = [.dat (.int (a : Nat)) 1, .dat (.int (e : Nat)) 1, .dat (.int (m : Nat)) 1, .dat (.int ((a ^ (e / 2 ^ (L - i)) % m : Nat) : Int)) 2, s4] ∧ NO s4 ∧ g' = g) ⟨.no, ?_, trivial, rfl⟩ ?_ ?_
  · rw [Nat.sub_zero, Nat.div_eq_of_lt hL, Nat.pow_zero]
  · rintro i d es g' K hd hK ⟨s4, rfl, n4, rfl⟩
    have hi : i < L := by
      have := (List.getElem?_eq_some_iff.mp hd).1
      rw [List.length_map, lb] at this
      exact this
    have hd2 : d = .int ((e / 2 ^ (L - 1 - i) % 2 : Nat) : Int) := by
      unfold bitsI at hd
      rw [List.getElem?_map, List.getElem?_map, List.getElem?_range hi] at hd
      cases hd
      rfl
    subst hd2
    have nx : e / 2 ^ (L - (i + 1)) = 2 * (e / 2 ^ (L - i)) + e / 2 ^ (L - 1 - i) % 2 := by
      rw [show L - i = (L - 1 - i) + 1 by omega, show L - (i + 1) = L - 1 - i by omega, Nat.pow_succ, ← Nat.div_div_eq_div_mul]
      omega
    refine y_bind rfl n4 ?_
    show VL.wS _ (.seq _ _) _ [.dat (.int (a : Nat)) 1, .dat (.int (e : Nat)) 1, .dat (.int (m : Nat)) 1, .dat (.int ((a ^ (e / 2 ^ (L - i)) % m : Nat) : Int)) 2, .dat (.int ((e / 2 ^ (L - 1 - i) % 2 : Nat) : Int)) 2] _
    have hlt : a ^ (e / 2 ^ (L - i)) % m < 1073741824 := Nat.lt_trans (Nat.mod_lt _ m0) m1
    generalize hx : a ^ (e / 2 ^ (L - i)) % m = x at *
    have key : ∀ y : Nat, y = (if e / 2 ^ (L - 1 - i) % 2 = 1 then a else 1) → (x * x * y) % m = a ^ (e / 2 ^ (L - (i + 1))) % m := fun y hy => by
      rw [nx, Nat.pow_add, Nat.pow_mul', hx.symm]
      have e1 : a ^ (e / 2 ^ (L - 1 - i) % 2) = y := by
        rw [hy]
        rcases Nat.mod_two_eq_zero_or_one (e / 2 ^ (L - 1 - i)) with z | z <;> rw [z] <;> simp
      rw [e1]
      generalize a ^ (e / 2 ^ (L - i)) = A
      rw [Nat.mul_mod (A % m * (A % m)) y, ← Nat.mul_mod A A, ← Nat.mul_mod (A * A) y, Nat.pow_two]
    repeat' sizeOf_list_dec
    refine z_mul (mulW (k := 30) (l := 30) hlt hlt (by decide)) ?_
    have xx : x * x < 2 ^ 60 := Nat.lt_of_lt_of_le (Nat.mul_lt_mul'' hlt hlt) (by decide)
    repeat' sizeOf_list_dec
    · rename_i h
      have hb : e / 2 ^ (L - 1 - i) % 2 = 1 := by
        have := of_decide_eq_true h
        omega
      repeat' sizeOf_list_dec
      refine z_mul (mulW (k := 60) (l := 30) (by rw [← Int.natCast_mul]; exact xx) a1 (by decide)) ?_
      repeat' sizeOf_list_dec
      refine z_mod (by omega) ?_
      rw [← Int.natCast_mul, ← Int.natCast_mul, fmodN, key a (by rw [if_pos hb])]
      repeat' sizeOf_list_dec
      exact hK _ _ ⟨_, rfl, trivial, rfl⟩
    · rename_i h
      have hb : ¬ e / 2 ^ (L - 1 - i) % 2 = 1 := by
        have := of_decide_eq_false h
        omega
      repeat' sizeOf_list_dec
      refine z_mul (mulW (k := 60) (l := 30) (by rw [← Int.natCast_mul]; exact xx) (by decide) (by decide)) ?_
      repeat' sizeOf_list_dec
      refine z_mod (by omega) ?_
      rw [← Int.natCast_mul, show ((x * x : Nat) : Int) * 1 = ((x * x * 1 : Nat) : Int) by simp, fmodN, key 1 (by rw [if_neg hb])]
      repeat' sizeOf_list_dec
      exact hK _ _ ⟨_, rfl, trivial, rfl⟩
  · rintro es g' ⟨s4, rfl, n4, rfl⟩
    rw [List.length_map, lb, Nat.sub_self, Nat.pow_zero, Nat.div_one]
    repeat' sizeOf_list_dec
    exact q
end T
namespace T
open PySem PySem.Spec PyProof.Rows VL
local macro_rules | `(tactic| sizeOf_list_dec) => `(tactic| first
  | with_reducible refine x_int ?_ | with_reducible refine x_bl ?_ | with_reducible refine x_non ?_ | with_reducible refine x_str ?_ | with_reducible refine x_glo ?_ | with_reducible refine x_bin ?_ | with_reducible refine x_neg ?_ | with_reducible refine x_not ?_ | with_reducible refine x_cmp ?_ | with_reducible refine x_chain ?_ | with_reducible refine x_and ?_ | with_reducible refine x_or ?_ | with_reducible refine x_ite ?_ | with_reducible refine x_tup ?_ | with_reducible refine x_lst ?_ | with_reducible refine x_ix ?_ | with_reducible refine x_sq ?_ | with_reducible refine x_bi ?_ | with_reducible refine x_isi ?_ | with_reducible refine x_call ?_ | with_reducible refine x_sl ?_ | with_reducible refine x_ext ?_
  | with_reducible refine x_anil ?_ | with_reducible refine x_acons ?_ | with_reducible refine x_slst ?_ | with_reducible refine x_stup ?_ | with_reducible refine x_ono ?_ | with_reducible refine x_osome ?_ | with_reducible refine s_seqE ?_ | with_reducible refine s_seq ?_ | with_reducible refine s_asg ?_ | with_reducible refine s_own ?_ | with_reducible refine s_ret ?_ | with_reducible refine s_retN ?_ | with_reducible refine s_brk ?_ | with_reducible refine s_cont ?_ | with_reducible refine s_pas ?_ | with_reducible refine s_if ?_ | with_reducible refine s_for ?_ | with_reducible refine s_exp ?_ | with_reducible refine s_unp ?_ | with_reducible refine s_par ?_ | with_reducible refine s_parN ?_ | with_reducible refine s_parO ?_ | with_reducible refine x_jrng1 ?_ | with_reducible refine x_jrngd ?_ | with_reducible refine x_irng1 ?_ | with_reducible refine x_irngd ?_ | with_reducible refine x_jit ?_ | with_reducible refine x_iit ?_ | with_reducible refine s_nilE ?_ | with_reducible refine s_nil ?_ | with_reducible refine s_ext ?_ | with_reducible refine s_gfor ?_ | with_reducible refine s_gapp ?_
  | ((with_reducible apply x_var); · rfl) | ((with_reducible apply x_varo); · rfl) | ((with_reducible apply x_vvar); · rfl) | ((with_reducible apply x_vown); · rfl) | ((with_reducible apply x_v); · rfl) | ((with_reducible apply x_qlst); · rfl) | ((with_reducible apply x_qtup); · rfl) | ((with_reducible apply x_qown); · rfl) | ((with_reducible apply x_q); · rfl) | ((with_reducible apply s_augP); · rfl) | ((with_reducible apply s_augM); · rfl) | ((with_reducible apply s_app); · rfl) | ((with_reducible apply s_frz); · rfl)
  | with_reducible refine z_len ?_ | with_reducible refine z_add ?_ | with_reducible refine z_sub ?_ | with_reducible refine z_lt ?_ | with_reducible refine z_le ?_ | with_reducible refine z_gt ?_ | with_reducible refine z_ge ?_ | with_reducible refine z_eq ?_ | with_reducible refine z_ne ?_ | with_reducible refine z_eqB ?_ | with_reducible refine z_neB ?_ | ((with_reducible apply z_eqST); (focus decide +kernel)) | ((with_reducible apply z_eqSF); (focus decide +kernel)) | with_reducible refine z_eqS ?_ | with_reducible refine y_int ?_
  | with_reducible refine z_absI ?_ | with_reducible refine z_max ?_ | with_reducible refine z_min ?_ | with_reducible refine z_tuple ?_ | with_reducible refine z_list ?_ | with_reducible refine z_int1 ?_
  | ((with_reducible apply x_lcn); (focus rfl); (focus first | exact trivial | assumption)) | ((with_reducible apply y_bind); (focus rfl); (focus first | exact trivial | assumption); (try dsimp only [List.set_cons_zero, List.set_cons_succ]))
  | ((with_reducible apply y_lenL); (focus rfl)) | with_reducible refine y_tblNT ?_ | with_reducible refine y_tblNF ?_ | with_reducible refine y_blNT ?_ | with_reducible refine y_blNF ?_ | with_reducible refine y_tblT ?_ | with_reducible refine y_tblF ?_ | with_reducible refine y_blT ?_ | with_reducible refine y_blF ?_
  | with_reducible refine y_bl (fun hk => ?_) (fun hk => ?_) | with_reducible refine y_tbl (fun hk => ?_) (fun hk => ?_) | ((with_reducible refine y_tru ?_); (try dsimp only))
  | ((with_reducible apply y_set); (focus exact Nat.le_of_ble_eq_true rfl); (try dsimp only [List.set_cons_zero, List.set_cons_succ])) | ((with_reducible apply y_2); (focus exact Nat.le_of_ble_eq_true rfl); (focus exact Nat.le_of_ble_eq_true rfl); (try dsimp only [List.set_cons_zero, List.set_cons_succ])) | ((with_reducible apply y_ownN); (focus exact Nat.le_of_ble_eq_true rfl); (focus exact Nat.le_of_ble_eq_true rfl); (try dsimp only [List.set_cons_zero, List.set_cons_succ])) | ((with_reducible apply y_N2); (focus exact Nat.le_of_ble_eq_true rfl); (focus exact Nat.le_of_ble_eq_true rfl); (focus exact Nat.le_of_ble_eq_true rfl); (try dsimp only [List.set_cons_zero, List.set_cons_succ])))
theorem trial_iff {n : Nat} : Trial n ↔ Prm n ∧ n < 1000000 := ⟨fun h => ⟨⟨h.1, h.2.2⟩, h.2.1⟩, fun h => ⟨h.1.1, h.2, h.1.2⟩⟩
theorem z_inI {x a b : Int} {Rb : Bool → Prop} (q : Rb (decide (x = a) || decide (x = b))) : cop .in_ (.int x) (.lst [.int a, .int b]) Rb := by
  refine z_inL ⟨rfl, by show 0 ≤ 60; decide⟩ ⟨rfl, by show 1 ≤ 60; decide⟩ rfl rfl ?_
  have e : decide (D.int x ∈ [D.int a, D.int b]) = (decide (x = a) || decide (x = b)) := by
    by_cases h1 : x = a <;> by_cases h2 : x = b <;> simp [h1, h2]
  rw [e]
  exact q
/-- 1 at first, or less 1 at one of the squares -/
def FineT (n a odd k : Nat) : Prop := a ^ odd % n = 1 ∨ ∃ j, j ≤ k ∧ a ^ (odd * 2 ^ j) % n = n - 1
def wf_law_prime : WF G := fun ds g Q => ∃ (z : Int) (b : Bool), ds = [.int z] ∧ z < 1000000 ∧ (b = true ↔ 0 ≤ z ∧ Trial z.toNat) ∧ Q (.bl b) 2 g
theorem natT_get {ps : List Nat} {i : Nat} {d : D} (h : (natT ps)[i]? = some d) : ∃ p, ps[i]? = some p ∧ d = .int (p : Nat) := by
  unfold natT at h
  rw [List.getElem?_map] at h
  obtain ⟨p, h1, h2⟩ := Option.map_eq_some_iff.mp h
  exact ⟨p, h1, h2.symm⟩
theorem sp_law_prime : ∀ (ds : List D) (g : G) (Pq : Pd G), ds.length = 1 → wf_law_prime ds g Pq → VL.wS [(3, wf_law_modpow)] cs_law_prime (endP Pq) (env0 ck_law_prime.N.length ds) g := by
  rintro ds g Q _ ⟨z, b, rfl, hz, hb, q⟩
  have no : ¬ (0 ≤ z ∧ Trial z.toNat) → Q (.bl false) 2 g := fun h => by
    have e : b = false := by
      cases b with
      | false => rfl
      | true => exact absurd (hb.mp rfl) h
    rw [e] at q
    exact q
  have yes : 0 ≤ z ∧ Trial z.toNat → Q (.bl true) 2 g := fun h => by
    rw [hb.mpr h] at q
    exact q
  clear hb q
  show VL.wS _ (.seq _ _) _ [.dat (.int z) 1, .no, .no, .no, .no, .no, .no, .no] _
  repeat' sizeOf_list_dec
  · rename_i h
    have := of_decide_eq_true h
    refine no fun y => ?_
    have := y.2.1
    omega
  rename_i h
  have z2 : 2 ≤ z := by
    have := of_decide_eq_false h
    omega
  clear h
  obtain ⟨n, rfl⟩ : ∃ n : Nat, z = n := ⟨z.toNat, by omega⟩
  have n2 : 2 ≤ n := by omega
  have n6 : n < 1000000 := by omega
  have no : ¬ Prm n → Q (.bl false) 2 g := fun h => no fun y => h (trial_iff.mp y.2).1
  have yes : Prm n → Q (.bl true) 2 g := fun h => yes ⟨by omega, trial_iff.mpr ⟨h, n6⟩⟩
  clear hz z2
  repeat' sizeOf_list_dec
  refine y_for (l := 2) (by decide) ?_
  show foL _ _ _ (natT bases) _ _ _
  refine s_foL (fun i es g' => ∃ s1, es = [.dat (.int (n : Nat)) 1, s1, .no, .no, .no, .no, .no, .no] ∧ NO s1 ∧ g' = g ∧ ∀ j, j < i → ∀ p, bases[j]? = some p → n % p ≠ 0) ⟨.no, rfl, trivial, rfl, fun j h => absurd h (Nat.not_lt_zero j)⟩ ?_ ?_
  · rintro i d es g' K hd hK ⟨s1, rfl, n1, rfl, hi⟩
    obtain ⟨p, hp, rfl⟩ := natT_get hd
    have pm := base_prm p (List.mem_of_getElem? hp)
    refine y_bind rfl n1 ?_
    show VL.wS _ (.seq _ _) _ [.dat (.int (n : Nat)) 1, .dat (.int (p : Nat)) 2, .no, .no, .no, .no, .no, .no] _
    repeat' sizeOf_list_dec
    refine z_mod (by have := pm.1; omega) ?_
    rw [fmodN]
    repeat' sizeOf_list_dec
    · rename_i h
      have h0 : n % p = 0 := Int.natCast_eq_zero.mp (of_decide_eq_true h)
      by_cases e : n = p
      · subst e
        rw [decide_eq_true rfl]
        exact yes pm
      · rw [decide_eq_false (by omega)]
        refine no fun y => ?_
        rcases y.divs (Nat.dvd_of_mod_eq_zero h0) with h1 | h1
        · have := pm.1
          omega
        · exact e h1.symm
    · rename_i h
      have h0 : n % p ≠ 0 := fun y => of_decide_eq_false h (Int.natCast_eq_zero.mpr y)
      refine hK _ _ ⟨_, rfl, trivial, rfl, fun j hj r hr => ?_⟩
      rcases Nat.lt_or_ge j i with y | y
      · exact hi j y r hr
      · obtain rfl : j = i := by omega
        rw [hp] at hr
        cases hr
        exact h0
  · rintro es g' ⟨s1, rfl, n1, rfl, hi⟩
    have hc : ∀ p ∈ bases, n % p ≠ 0 := fun p hp => by
      obtain ⟨j, hj, e⟩ := List.getElem_of_mem hp
      exact hi j (by unfold natT; rw [List.length_map]; exact hj) p (by rw [List.getElem?_eq_getElem hj, e])
    clear hi
    have odd1 : n % 2 = 1 := by have := hc 2 (by decide); omega
    have n41 : 41 ≤ n := by
      rcases Nat.lt_or_ge n 41 with y | y
      · have w := List.all_eq_true.mp low_base n (List.mem_range.mpr y)
        have e1 : Nat.ble n 1 = false := by
          cases e : Nat.ble n 1 with
          | false => rfl
          | true => have := Nat.ble_eq.mp e; omega
        rw [e1, Bool.false_or, List.any_eq_true] at w
        obtain ⟨r, h1, h2⟩ := w
        exact absurd (Nat.eq_of_beq_eq_true h2) (hc r h1)
      · exact y
    repeat' sizeOf_list_dec
    refine s_while (fun m es g'' => ∃ odd twos, es = [.dat (.int (n : Nat)) 1, s1, .dat (.int (odd : Nat)) 2, .dat (.int (twos : Nat)) 2, .no, .no, .no, .no] ∧ g'' = g' ∧ odd * 2 ^ twos = n - 1 ∧ odd ≤ m) (n - 1) ⟨n - 1, 0, by rw [Int.ofNat_sub (by omega)]; rfl, rfl, by simp, Nat.le_refl _⟩ ?_
    rintro m es g'' K hK ⟨odd, twos, rfl, rfl, ht, hm⟩
    have o0 : 0 < odd := Nat.pos_of_ne_zero fun e => by rw [e, Nat.zero_mul] at ht; omega
    have on : odd ≤ n - 1 := by rw [← ht]; exact Nat.le_mul_of_pos_right _ (Nat.pow_pos (by decide))
    repeat' sizeOf_list_dec
    refine z_mod (by decide) ?_
    rw [show ((odd : Nat) : Int).fmod 2 = ((odd % 2 : Nat) : Int) from fmodN odd 2]
    repeat' sizeOf_list_dec
    · rename_i h
      have h0 : odd % 2 = 0 := Int.natCast_eq_zero.mp (of_decide_eq_true h)
      refine z_fdiv ⟨by decide, by decide +kernel⟩ ?_
      rw [show ((odd : Nat) : Int).fdiv 2 = ((odd / 2 : Nat) : Int) from fdivN odd 2]
      repeat' sizeOf_list_dec
      refine hK (m - 1) _ _ (by omega) ⟨odd / 2, twos + 1, rfl, rfl, ?_, by omega⟩
      rw [Nat.pow_succ, ← ht, ← Nat.mul_assoc, Nat.mul_right_comm]
      rw [show odd / 2 * 2 = odd by omega]
    · rename_i h
      have ho : odd % 2 = 1 := by
        have : odd % 2 ≠ 0 := fun y => of_decide_eq_false h (Int.natCast_eq_zero.mpr y)
        omega
      clear hK h hm
      have tw : 1 ≤ twos := by
        rcases Nat.eq_zero_or_pos twos with y | y
        · rw [y] at ht
          omega
        · exact y
      have tw20 : twos ≤ 20 := by
        rcases Nat.le_total twos 20 with y | y
        · exact y
        · have := Nat.pow_le_pow_right (n := 2) (by decide) y
          have : 2 ^ twos ≤ n - 1 := by
            rw [← ht]
            exact Nat.le_mul_of_pos_left _ o0
          omega
      repeat' sizeOf_list_dec
      refine y_for (l := 2) (by decide) ?_
      show foL _ _ _ (natT bases) _ _ _
      refine s_foL (fun i es g' => ∃ s4 s5 s6 s7, es = [.dat (.int (n : Nat)) 1, s1, .dat (.int (odd : Nat)) 2, .dat (.int (twos : Nat)) 2, s4, s5, s6, s7] ∧ NO s4 ∧ NO s5 ∧ NO s6 ∧ NO s7 ∧ g' = g'' ∧ ∀ j, j < i → ∀ a, bases[j]? = some a → Strong n odd twos a) ⟨_, _, _, _, rfl, trivial, trivial, trivial, trivial, rfl, fun j h => absurd h (Nat.not_lt_zero j)⟩ ?_ ?_
      · rintro i d es g3 K hd hK ⟨s4, s5, s6, s7, rfl, n4, n5, n6', n7, rfl, hi⟩
        obtain ⟨a, ha, rfl⟩ := natT_get hd
        have am := List.mem_of_getElem? ha
        have a37 : 2 ≤ a ∧ a ≤ 37 := by
          have : ∀ a ∈ bases, 2 ≤ a ∧ a ≤ 37 := by decide
          exact this a am
        refine y_bind rfl n4 ?_
        show VL.wS _ (.seq _ _) _ [.dat (.int (n : Nat)) 1, s1, .dat (.int (odd : Nat)) 2, .dat (.int (twos : Nat)) 2, .dat (.int (a : Nat)) 2, s5, s6, s7] _
        repeat' sizeOf_list_dec
        refine y_call rfl rfl ⟨a, odd, n, rfl, by omega, by omega, by omega, ?_, ?_⟩
        · exact Nat.lt_of_lt_of_le (show odd < 1000000 by omega) (by decide)
        repeat' sizeOf_list_dec
        refine z_inI ?_
        have e0 : (((a ^ odd % n : Nat) : Int) = (n : Int) - 1) ↔ a ^ odd % n = n - 1 := by omega
        have e1 : (((a ^ odd % n : Nat) : Int) = 1) ↔ a ^ odd % n = 1 := by omega
        have sw : (n : Int) - 1 = ((n - 1 : Nat) : Int) := by omega
        repeat' sizeOf_list_dec
        refine ⟨⟨by omega, by omega⟩, y_for (l := 2) (by decide) ?_⟩
        refine s_foL (fun k es g' => ∃ (f : Bool) (s7 : Sl), es = [.dat (.int (n : Nat)) 1, s1, .dat (.int (odd : Nat)) 2, .dat (.int (twos : Nat)) 2, .dat (.int (a : Nat)) 2, .dat (.int ((a ^ (odd * 2 ^ k) % n : Nat) : Int)) 2, .dat (.bl f) 2, s7] ∧ NO s7 ∧ g' = g3 ∧ (f = true ↔ FineT n a odd k)) ⟨(decide (((a ^ odd % n : Nat) : Int) = 1) || decide (((a ^ odd % n : Nat) : Int) = (n : Int) - 1)), s7, by rw [Nat.pow_zero, Nat.mul_one]; rfl, n7, rfl, ?_⟩ ?_ ?_
        · rw [Bool.or_eq_true, decide_eq_true_eq, decide_eq_true_eq, e0, e1]
          unfold FineT
          constructor
          · rintro (h | h)
            · exact .inl h
            · exact .inr ⟨0, Nat.le_refl _, by rw [Nat.pow_zero, Nat.mul_one]; exact h⟩
          · rintro (h | ⟨j, h1, h2⟩)
            · exact .inl h
            · obtain rfl : j = 0 := by omega
              rw [Nat.pow_zero, Nat.mul_one] at h2
              exact .inr h2
        · rintro k d es g4 K2 hd2 hK2 ⟨f, s7, rfl, n7, rfl, hf⟩
          refine y_bind rfl n7 ?_
          show VL.wS _ (.seq _ _) _ [.dat (.int (n : Nat)) 1, s1, .dat (.int (odd : Nat)) 2, .dat (.int (twos : Nat)) 2, .dat (.int (a : Nat)) 2, .dat (.int ((a ^ (odd * 2 ^ k) % n : Nat) : Int)) 2, .dat (.bl f) 2, .dat d 2] _
          have hlt : a ^ (odd * 2 ^ k) % n < 1073741824 := Nat.lt_trans (Nat.mod_lt _ (by omega)) (by omega)
          repeat' sizeOf_list_dec
          refine z_mul (mulW (k := 30) (l := 30) hlt hlt (by decide)) ?_
          repeat' sizeOf_list_dec
          refine z_mod (by omega) ?_
          rw [← Int.natCast_mul, fmodN, ← Nat.mul_mod, ← Nat.pow_two, ← Nat.pow_mul, show odd * 2 ^ k * 2 = odd * 2 ^ (k + 1) by rw [Nat.pow_succ, Nat.mul_assoc]]
          have e2 : (((a ^ (odd * 2 ^ (k + 1)) % n : Nat) : Int) = (n : Int) - 1) ↔ a ^ (odd * 2 ^ (k + 1)) % n = n - 1 := by omega
          have fs : FineT n a odd (k + 1) ↔ FineT n a odd k ∨ a ^ (odd * 2 ^ (k + 1)) % n = n - 1 := by
            unfold FineT
            constructor
            · rintro (h | ⟨j, h1, h2⟩)
              · exact .inl (.inl h)
              · rcases Nat.lt_or_ge k j with y | y
                · obtain rfl : j = k + 1 := by omega
                  exact .inr h2
                · exact .inl (.inr ⟨j, y, h2⟩)
            · rintro ((h | ⟨j, h1, h2⟩) | h)
              · exact .inl h
              · exact .inr ⟨j, by omega, h2⟩
              · exact .inr ⟨k + 1, Nat.le_refl _, h⟩
          cases f with
          | true =>
            repeat' sizeOf_list_dec
            exact hK2 _ _ ⟨true, _, rfl, trivial, rfl, by simp [fs, hf.mp rfl]⟩
          | false =>
            repeat' sizeOf_list_dec
            refine hK2 _ _ ⟨_, _, rfl, trivial, rfl, ?_⟩
            rw [decide_eq_true_eq, e2, fs]
            constructor
            · exact fun h => .inr h
            · rintro (h | h)
              · exact absurd (hf.mpr h) Bool.false_ne_true
              · exact h
        · rintro es g4 ⟨f, s7, rfl, n7, rfl, hf⟩
          rw [rngD_len] at hf ⊢
          have et : (((twos : Int) - 1) - 0).toNat = twos - 1 := by omega
          rw [et] at hf ⊢
          have hS : f = true ↔ Strong n odd twos a := by
            rw [hf]
            unfold FineT Strong
            constructor
            · rintro (h | ⟨j, h1, h2⟩)
              · exact .inl h
              · exact .inr ⟨j, by omega, h2⟩
            · rintro (h | ⟨j, h1, h2⟩)
              · exact .inl h
              · exact .inr ⟨j, by omega, h2⟩
          repeat' sizeOf_list_dec
          · rename_i h
            refine no fun y => ?_
            have : f = true := hS.mpr (strong_of y (fun d => by have := Nat.le_of_dvd (by omega) d; omega) ht)
            rw [this] at h
            cases h
          · rename_i h
            have hf1 : f = true := by cases f <;> first | rfl | cases h
            refine hK _ _ ⟨_, _, _, _, rfl, trivial, trivial, trivial, n7, rfl, fun j hj r hr => ?_⟩
            rcases Nat.lt_or_ge j i with y | y
            · exact hi j y r hr
            · obtain rfl : j = i := by omega
              rw [ha] at hr
              cases hr
              exact hS.mp hf1
      · rintro es g3 ⟨s4, s5, s6, s7, rfl, n4, n5, n6', n7, rfl, hi⟩
        repeat' sizeOf_list_dec
        exact yes (mr n6 n2 hc ht ho (hi 0 (by decide) 2 rfl) (hi 1 (by decide) 3 rfl))
end T
namespace T
open PySem PySem.Spec PyProof.Rows VL
local macro_rules | `(tactic| sizeOf_list_dec) => `(tactic| first
  | with_reducible refine x_int ?_ | with_reducible refine x_bl ?_ | with_reducible refine x_non ?_ | with_reducible refine x_str ?_ | with_reducible refine x_glo ?_ | with_reducible refine x_bin ?_ | with_reducible refine x_neg ?_ | with_reducible refine x_not ?_ | with_reducible refine x_cmp ?_ | with_reducible refine x_chain ?_ | with_reducible refine x_and ?_ | with_reducible refine x_or ?_ | with_reducible refine x_ite ?_ | with_reducible refine x_tup ?_ | with_reducible refine x_lst ?_ | with_reducible refine x_ix ?_ | with_reducible refine x_sq ?_ | with_reducible refine x_bi ?_ | with_reducible refine x_isi ?_ | with_reducible refine x_call ?_ | with_reducible refine x_sl ?_ | with_reducible refine x_ext ?_
  | with_reducible refine x_anil ?_ | with_reducible refine x_acons ?_ | with_reducible refine x_slst ?_ | with_reducible refine x_stup ?_ | with_reducible refine x_ono ?_ | with_reducible refine x_osome ?_ | with_reducible refine s_seqE ?_ | with_reducible refine s_seq ?_ | with_reducible refine s_asg ?_ | with_reducible refine s_own ?_ | with_reducible refine s_ret ?_ | with_reducible refine s_retN ?_ | with_reducible refine s_brk ?_ | with_reducible refine s_cont ?_ | with_reducible refine s_pas ?_ | with_reducible refine s_if ?_ | with_reducible refine s_for ?_ | with_reducible refine s_exp ?_ | with_reducible refine s_unp ?_ | with_reducible refine s_par ?_ | with_reducible refine s_parN ?_ | with_reducible refine s_parO ?_ | with_reducible refine x_jrng1 ?_ | with_reducible refine x_jrngd ?_ | with_reducible refine x_irng1 ?_ | with_reducible refine x_irngd ?_ | with_reducible refine x_jit ?_ | with_reducible refine x_iit ?_ | with_reducible refine s_nilE ?_ | with_reducible refine s_nil ?_ | with_reducible refine s_ext ?_ | with_reducible refine s_gfor ?_ | with_reducible refine s_gapp ?_
  | ((with_reducible apply x_var); · rfl) | ((with_reducible apply x_varo); · rfl) | ((with_reducible apply x_vvar); · rfl) | ((with_reducible apply x_vown); · rfl) | ((with_reducible apply x_v); · rfl) | ((with_reducible apply x_qlst); · rfl) | ((with_reducible apply x_qtup); · rfl) | ((with_reducible apply x_qown); · rfl) | ((with_reducible apply x_q); · rfl) | ((with_reducible apply s_augP); · rfl) | ((with_reducible apply s_augM); · rfl) | ((with_reducible apply s_app); · rfl) | ((with_reducible apply s_frz); · rfl)
  | with_reducible refine z_len ?_ | with_reducible refine z_add ?_ | with_reducible refine z_sub ?_ | with_reducible refine z_lt ?_ | with_reducible refine z_le ?_ | with_reducible refine z_gt ?_ | with_reducible refine z_ge ?_ | with_reducible refine z_eq ?_ | with_reducible refine z_ne ?_ | with_reducible refine z_eqB ?_ | with_reducible refine z_neB ?_ | ((with_reducible apply z_eqST); (focus decide +kernel)) | ((with_reducible apply z_eqSF); (focus decide +kernel)) | with_reducible refine z_eqS ?_ | with_reducible refine y_int ?_
  | with_reducible refine z_absI ?_ | with_reducible refine z_max ?_ | with_reducible refine z_min ?_ | with_reducible refine z_tuple ?_ | with_reducible refine z_list ?_ | with_reducible refine z_int1 ?_
  | ((with_reducible apply x_lcn); (focus rfl); (focus first | exact trivial | assumption)) | ((with_reducible apply y_bind); (focus rfl); (focus first | exact trivial | assumption); (try dsimp only [List.set_cons_zero, List.set_cons_succ]))
  | ((with_reducible apply y_lenL); (focus rfl)) | with_reducible refine y_tblNT ?_ | with_reducible refine y_tblNF ?_ | with_reducible refine y_blNT ?_ | with_reducible refine y_blNF ?_ | with_reducible refine y_tblT ?_ | with_reducible refine y_tblF ?_ | with_reducible refine y_blT ?_ | with_reducible refine y_blF ?_
  | with_reducible refine y_bl (fun hk => ?_) (fun hk => ?_) | with_reducible refine y_tbl (fun hk => ?_) (fun hk => ?_) | ((with_reducible refine y_tru ?_); (try dsimp only))
  | ((with_reducible apply y_set); (focus exact Nat.le_of_ble_eq_true rfl); (try dsimp only [List.set_cons_zero, List.set_cons_succ])) | ((with_reducible apply y_2); (focus exact Nat.le_of_ble_eq_true rfl); (focus exact Nat.le_of_ble_eq_true rfl); (try dsimp only [List.set_cons_zero, List.set_cons_succ])) | ((with_reducible apply y_ownN); (focus exact Nat.le_of_ble_eq_true rfl); (focus exact Nat.le_of_ble_eq_true rfl); (try dsimp only [List.set_cons_zero, List.set_cons_succ])) | ((with_reducible apply y_N2); (focus exact Nat.le_of_ble_eq_true rfl); (focus exact Nat.le_of_ble_eq_true rfl); (focus exact Nat.le_of_ble_eq_true rfl); (try dsimp only [List.set_cons_zero, List.set_cons_succ])))
theorem rng_map {n : Nat} (f : Nat → D) (h : D → D) (e : ∀ i : Nat, h (.int (i : Nat)) = f i) : (rngD 0 (n : Nat)).map h = (List.range n).map f := by
  unfold rngD
  rw [List.map_map, show ((n : Int) - 0).toNat = n by omega]
  refine List.map_congr_left fun i _ => ?_
  show h (.int (0 + (i : Nat))) = _
  rw [Int.zero_add, e]
theorem rng_mem {n : Nat} {x : D} (h : x ∈ rngD 0 (n : Nat)) : ∃ i : Nat, i < n ∧ x = .int (i : Nat) := by
  unfold rngD at h
  obtain ⟨i, hi, rfl⟩ := List.mem_map.mp h
  rw [List.mem_range] at hi
  exact ⟨i, by omega, by rw [Int.zero_add]⟩
def onI (f : Nat → D) : D → D
  | .int k => f k.toNat
  | _ => .non
theorem onI_nat (f : Nat → D) (i : Nat) : onI f (.int (i : Nat)) = f i := rfl
def wf_law_bound : WF G := wf_bound_of' where
  wf_bound_of' : WF G := fun ds g Q => ∃ (xs ys : List Int) (c : Int), ds = [.tup (xs.map D.int), .tup (ys.map D.int), .int c] ∧ xs.length = ys.length ∧ xs.length < 10000 ∧ (∀ x ∈ xs, smI x) ∧ (∀ x ∈ ys, smI x) ∧ Q (.int (bndN xs ys c : Nat)) 2 g
theorem sp_law_bound : ∀ (ds : List D) (g : G) (Pq : Pd G), ds.length = 3 → wf_law_bound ds g Pq → VL.wS [(1, wf_law_digits)] cs_law_bound (endP Pq) (env0 ck_law_bound.N.length ds) g := by
  rintro ds g Q _ ⟨xs, ys, c, rfl, hl, hn, hx, hy, q⟩
  show VL.wS _ (.seq _ _) _ [.dat (.tup (xs.map D.int)) 1, .dat (.tup (ys.map D.int)) 1, .dat (.int c) 1, .no, .no, .no] _
  repeat' sizeOf_list_dec
  rw [List.length_map]
  refine ⟨⟨by omega, by omega⟩, ?_⟩
  refine y_lc (onI fun k => .int ((rl (xs.getD k 0).natAbs + rl (ys.getD k 0).natAbs : Nat))) 2 (by decide) rfl ?_ (fun x hx2 K hK => ?_) ?_
  · rw [rngD_len]
    exact line6 (by omega)
  · obtain ⟨i, hi2, rfl⟩ := rng_mem hx2
    show VL.wE _ _ [.dat (.tup (xs.map D.int)) 1, .dat (.tup (ys.map D.int)) 1, .dat (.int c) 1, .no, .no, .dat (.int (i : Nat)) 2] _ _
    repeat' sizeOf_list_dec
    refine y_ix (atI_int (k := i) hi2 rfl) ?_
    repeat' sizeOf_list_dec
    refine y_call rfl rfl ⟨_, rfl, ?_⟩
    repeat' sizeOf_list_dec
    refine y_ix (atI_int (k := i) (by omega) rfl) ?_
    repeat' sizeOf_list_dec
    refine y_call rfl rfl ⟨_, rfl, ?_⟩
    repeat' sizeOf_list_dec
    rw [← Int.natCast_add]
    exact hK
  rw [rng_map (fun k => .int ((rl (xs.getD k 0).natAbs + rl (ys.getD k 0).natAbs : Nat))) _ (fun i => rfl)]
  have em : ((List.range xs.length).map fun k => D.int ((rl (xs.getD k 0).natAbs + rl (ys.getD k 0).natAbs : Nat))) = ((List.range xs.length).map fun k => rl (xs.getD k 0).natAbs + rl (ys.getD k 0).natAbs).map fun n : Nat => D.int (n : Nat) := by
    rw [List.map_map]
    rfl
  rw [em]
  generalize hL : ((List.range xs.length).map fun k => rl (xs.getD k 0).natAbs + rl (ys.getD k 0).natAbs) = L
  have lL : L.length = xs.length := by rw [← hL]; simp
  refine z_addL (by rw [List.length_map, sizeLine_eq]; show 1 + _ ≤ _; omega) ?_
  refine x_slst ⟨(0 :: L.map fun n : Nat => (n : Int)), by rw [List.map_cons, List.map_map]; rfl, Nat.succ_pos _, fun m hm hmax => ?_⟩
  obtain ⟨k, rfl⟩ : ∃ k : Nat, m = k := by
    rcases List.mem_cons.mp hm with h | h
    · exact ⟨0, h⟩
    · obtain ⟨n, _, e⟩ := List.mem_map.mp h
      exact ⟨n, e.symm⟩
  have ek : k = widN xs ys := by
    unfold widN
    rw [hL]
    refine foldr_max L k ?_ fun y hy => ?_
    · rcases List.mem_cons.mp hm with h | h
      · left; omega
      · right
        obtain ⟨n, h1, e⟩ := List.mem_map.mp h
        have : n = k := by omega
        rwa [← this]
    · have := hmax _ (List.mem_cons_of_mem _ (List.mem_map.mpr ⟨y, hy, rfl⟩))
      omega
  have k2 := wid_le hx hy
  rw [← ek] at k2
  repeat' sizeOf_list_dec
  rw [List.length_map]
  refine ⟨⟨by omega, by omega⟩, y_for (l := 2) (by decide) ?_⟩
  refine s_foL (fun i es g' => ∃ s5, es = [.dat (.tup (xs.map D.int)) 1, .dat (.tup (ys.map D.int)) 1, .dat (.int c) 1, .dat (.int (k : Nat)) 2, .dat (.int ((xs.length * 10000 ^ i : Nat) : Int)) 2, s5] ∧ NO s5 ∧ g' = g) ⟨.no, by rw [Nat.pow_zero, Nat.mul_one], trivial, rfl⟩ ?_ ?_
  · rintro i d es g' K hd hK ⟨s5, rfl, n5, rfl⟩
    have hi : i < k := by
      have := (List.getElem?_eq_some_iff.mp hd).1
      rw [rngD_len] at this
      omega
    refine y_bind rfl n5 ?_
    show VL.wS _ (.seq _ _) _ [.dat (.tup (xs.map D.int)) 1, .dat (.tup (ys.map D.int)) 1, .dat (.int c) 1, .dat (.int (k : Nat)) 2, .dat (.int ((xs.length * 10000 ^ i : Nat) : Int)) 2, .dat d 2] _
    repeat' sizeOf_list_dec
    refine z_mul (mulW (k := 100000) (l := 30) ?_ (by decide) (by decide)) ?_
    · show xs.length * 10000 ^ i < 2 ^ 100000
      have h1 : (10000 : Nat) ^ i ≤ 10000 ^ 2000 := Nat.pow_le_pow_right (by decide) (by omega)
      have h2 : xs.length * 10000 ^ i ≤ 10000 * 10000 ^ 2000 := Nat.mul_le_mul (Nat.le_of_lt hn) h1
      refine Nat.lt_of_le_of_lt h2 ?_
      decide +kernel
    repeat' sizeOf_list_dec
    refine hK _ _ ⟨.dat d 2, ?_, trivial, rfl⟩
    · rw [show (((xs.length * 10000 ^ i : Nat) : Int)) * 10000 = ((xs.length * 10000 ^ (i + 1) : Nat) : Int) by rw [Nat.pow_succ, ← Nat.mul_assoc]; omega]
  · rintro es g' ⟨s5, rfl, n5, rfl⟩
    rw [rngD_len, show ((k : Int) - 0).toNat = k by omega]
    repeat' sizeOf_list_dec
    have e : max c (-c) = (c.natAbs : Int) := by omega
    rw [e, ← Int.natCast_add, ek]
    exact q
/-! ### the primes that are taken -/
def somePs : List Nat := [10009, 10037, 10039, 10061, 10067, 10069, 10079, 10091, 10093, 10099, 10103, 10111, 10133, 10139, 10141, 10151, 10159, 10163, 10169, 10177]
def cntP (h : Nat) : Nat := (somePs.filter fun p => Nat.blt p h).length
theorem cnt_all : (List.range 200).all (fun i => Nat.ble (cntP (10000 + i + 1)) (cntP (10000 + i) + (if somePs.contains (10000 + i) then 1 else 0))) = true := by decide +kernel
theorem some_ge : ∀ q ∈ somePs, 10009 ≤ q := by decide
theorem cnt_low {h : Nat} (l : h ≤ 10009) : cntP h = 0 := by
  unfold cntP
  rw [List.filter_eq_nil_iff.mpr fun q hq => ?_]
  · rfl
  · have := some_ge q hq
    simp only [Nat.blt_eq]
    omega
theorem some_prm : ∀ p ∈ somePs, Prm p := by
  have key : somePs.all (fun p => Nat.ble 2 p && (Nat.blt p 16384 && (List.range 128).all fun d => Nat.ble d 1 || (!Nat.ble (d * d) p || !Nat.beq (p % d) 0))) = true := by decide +kernel
  intro q hq
  have h := List.all_eq_true.mp key q hq
  simp only [Bool.and_eq_true] at h
  obtain ⟨h1, h2, h3⟩ := h
  have h1 := Nat.ble_eq.mp h1
  have h2 : q < 16384 := Nat.ble_eq.mp h2
  refine ⟨h1, fun d h4 h5 h6 => ?_⟩
  have hd : d < 128 := by
    rcases Nat.lt_or_ge d 128 with y | y
    · exact y
    · have := Nat.mul_le_mul y y
      omega
  have := List.all_eq_true.mp h3 d (List.mem_range.mpr hd)
  have e1 : Nat.ble d 1 = false := by
    cases e : Nat.ble d 1 with
    | false => rfl
    | true => have := Nat.ble_eq.mp e; omega
  rw [e1, Nat.ble_eq.mpr h5, h6] at this
  cases this
theorem some_le : ∀ p ∈ somePs, 10000 ≤ p := by decide
theorem cnt_step {h : Nat} (l : h < 10200) : cntP (h + 1) ≤ cntP h + (if h ∈ somePs then 1 else 0) := by
  rcases Nat.lt_or_ge h 10000 with y | y
  · rw [cnt_low (by omega)]
    exact Nat.zero_le _
  · have := Nat.ble_eq.mp (List.all_eq_true.mp cnt_all (h - 10000) (List.mem_range.mpr (by omega)))
    rw [show 10000 + (h - 10000) = h by omega] at this
    simpa using this
theorem cnt_end : cntP 10200 = 20 := by decide +kernel
/-- ascending primes from 1009 on, not too many, of a product above a bound -/
structure PsOk (ps : List Nat) (bound : Nat) : Prop where
  asc : ps.Pairwise (· < ·)
  prm : ∀ p ∈ ps, Prm p ∧ 1009 ≤ p ∧ p < 10300
  len : ps.length ≤ 30
  big : bound < prodN ps
def wf_law_primes : WF G := fun ds g Q => ∃ (p : Addr) (n bound : Nat), ds = [.obj p, .int bound] ∧ bound < 2 ^ 250 ∧ n < 1000000000 ∧ Dr p n g ∧ ∀ (ps : List Nat) (g' : G), PsOk ps bound → Dr p (n + 1) g' → (∀ a, a ≠ p → g' a = g a) → Q (.lst (natT ps)) 2 g'
theorem sp_law_primes : ∀ (ds : List D) (g : G) (Pq : Pd G), ds.length = 2 → wf_law_primes ds g Pq → VL.wS [(1, wf_law_prime), (2, wf_law_next)] cs_law_primes (endP Pq) (env0 ck_law_primes.N.length ds) g := by
  rintro ds g Q _ ⟨p, n, bound, rfl, hb, hn, hd, hQ⟩
  show VL.wS _ (.seq _ _) _ [.dat (.obj p) 1, .dat (.int (bound : Nat)) 1, .no, .no, .no] _
  repeat' sizeOf_list_dec
  refine y_call rfl rfl ⟨p, n, _, rfl, by decide, hn, hd, fun k g1 k0 k1 d1 o1 => ?_⟩
  obtain ⟨s, rfl⟩ : ∃ s : Nat, k = s := ⟨k.toNat, by omega⟩
  repeat' sizeOf_list_dec
  refine s_while (fun m es g' => ∃ (ps : List Nat) (h : Nat), es = [.dat (.obj p) 1, .dat (.int (bound : Nat)) 1, .own (natT ps) 2, .dat (.int ((prodN ps : Nat) : Int)) 2, .dat (.int (h : Nat)) 2] ∧ g' = g1 ∧ ps.Pairwise (· < ·) ∧ (∀ q ∈ ps, Prm q ∧ 1009 ≤ q ∧ q < 10300 ∧ q < h) ∧ 2 ^ (9 * ps.length) ≤ prodN ps ∧ ps.length ≤ 30 ∧ 2 ^ (13 * cntP h) ≤ prodN ps ∧ 1009 ≤ h ∧ h ≤ 10200 ∧ 10200 - h ≤ m) 10200 ?_ ?_
  · refine ⟨[], 1009 + s, by rw [Int.natCast_add]; rfl, rfl, List.Pairwise.nil, (fun q h => nomatch h), Nat.le_refl _, by decide, ?_, by omega, by omega, by omega⟩
    have : cntP (1009 + s) = 0 := cnt_low (by omega)
    rw [this]
    exact Nat.le_refl _
  · rintro m es g' K hK ⟨ps, h, rfl, rfl, ha, hp, h9, hl, hc, h1, h2, hm⟩
    repeat' sizeOf_list_dec
    · rename_i hk
      have hle : prodN ps ≤ bound := Int.ofNat_le.mp (of_decide_eq_true hk)
      have h3 : h < 10200 := by
        rcases Nat.lt_or_ge h 10200 with y | y
        · exact y
        · have : h = 10200 := by omega
          rw [this, cnt_end] at hc
          have : 2 ^ 250 ≤ 2 ^ (13 * 20) := Nat.pow_le_pow_right (by decide) (by decide)
          omega
      have hl2 : ps.length ≤ 27 := by
        rcases Nat.lt_or_ge 27 ps.length with y | y
        · have : 2 ^ 250 ≤ 2 ^ (9 * ps.length) := Nat.pow_le_pow_right (by decide) (by omega)
          omega
        · exact y
      obtain ⟨b, hb2⟩ := iff_bool (0 ≤ (h : Int) ∧ Trial ((h : Int)).toNat)
      have hpb : b = true ↔ Prm h := by
        rw [hb2, show ((h : Int)).toNat = h by omega, trial_iff]
        exact ⟨fun z => z.2.1, fun z => ⟨by omega, z, by omega⟩⟩
      refine y_call rfl rfl ⟨(h : Nat), b, rfl, by omega, hb2, ?_⟩
      have hs := cnt_step h3
      cases b with
      | true =>
        have hpr := hpb.mp rfl
        repeat' sizeOf_list_dec
        refine ⟨by unfold natT; rw [List.length_map, sizeLine_eq]; omega, .inl (Nat.le_refl _), ?_⟩
        repeat' sizeOf_list_dec
        refine z_mul (mulW (k := 250) (l := 30) ?_ ?_ (by decide)) ?_
        · show prodN ps < 2 ^ 250
          omega
        · show h < 1073741824
          omega
        repeat' sizeOf_list_dec
        refine hK (m - 1) _ _ (by omega) ⟨ps ++ [h], h + 1, ?_, rfl, ?_, ?_, ?_, ?_, ?_, by omega, by omega, by omega⟩
        · rw [prodN_snoc, Int.natCast_mul]
          unfold natT
          rw [List.map_append]
          rfl
        · exact List.pairwise_append.mpr ⟨ha, List.pairwise_singleton _ _, fun q hq r hr => by
            rw [List.mem_singleton] at hr
            rw [hr]
            exact (hp q hq).2.2.2⟩
        · intro q hq
          rcases List.mem_append.mp hq with hq | hq
          · obtain ⟨a1, a2, a3, a4⟩ := hp q hq
            exact ⟨a1, a2, a3, by omega⟩
          · rw [List.mem_singleton] at hq
            rw [hq]
            exact ⟨hpr, h1, by omega, by omega⟩
        · rw [prodN_snoc, List.length_append, Nat.mul_add, Nat.pow_add]
          exact Nat.mul_le_mul h9 (by show 512 ≤ h; omega)
        · rw [List.length_append]
          show ps.length + 1 ≤ 30
          omega
        · rw [prodN_snoc]
          by_cases hi : h ∈ somePs
          · rw [if_pos hi] at hs
            have := some_le h hi
            have : 2 ^ (13 * cntP (h + 1)) ≤ 2 ^ (13 * cntP h + 13) := Nat.pow_le_pow_right (by decide) (by omega)
            refine Nat.le_trans this ?_
            rw [Nat.pow_add]
            exact Nat.mul_le_mul hc (by show 8192 ≤ h; omega)
          · rw [if_neg hi] at hs
            have : 2 ^ (13 * cntP (h + 1)) ≤ 2 ^ (13 * cntP h) := Nat.pow_le_pow_right (by decide) (by omega)
            exact Nat.le_trans this (Nat.le_trans hc (Nat.le_mul_of_pos_right _ (by omega)))
      | false =>
        have hpr : ¬ Prm h := fun z => nomatch hpb.mpr z
        repeat' sizeOf_list_dec
        have hi : h ∉ somePs := fun z => hpr (some_prm h z)
        rw [if_neg hi] at hs
        refine hK (m - 1) _ _ (by omega) ⟨ps, h + 1, rfl, rfl, ha, fun q hq => ?_, h9, hl, ?_, by omega, by omega, by omega⟩
        · obtain ⟨a1, a2, a3, a4⟩ := hp q hq
          exact ⟨a1, a2, a3, by omega⟩
        · have : 2 ^ (13 * cntP (h + 1)) ≤ 2 ^ (13 * cntP h) := Nat.pow_le_pow_right (by decide) (by omega)
          exact Nat.le_trans this hc
    · rename_i hk
      have hgt : bound < prodN ps := by
        have := of_decide_eq_false hk
        omega
      repeat' sizeOf_list_dec
      exact hQ ps _ ⟨ha, fun q hq => by
        obtain ⟨a1, a2, a3, a4⟩ := hp q hq
        exact ⟨a1, a2, a3⟩, hl, hgt⟩ d1 o1
end T
namespace T
open PySem PySem.Spec PyProof.Rows VL
local macro_rules | `(tactic| sizeOf_list_dec) => `(tactic| first
  | with_reducible refine x_int ?_ | with_reducible refine x_bl ?_ | with_reducible refine x_non ?_ | with_reducible refine x_str ?_ | with_reducible refine x_glo ?_ | with_reducible refine x_bin ?_ | with_reducible refine x_neg ?_ | with_reducible refine x_not ?_ | with_reducible refine x_cmp ?_ | with_reducible refine x_chain ?_ | with_reducible refine x_and ?_ | with_reducible refine x_or ?_ | with_reducible refine x_ite ?_ | with_reducible refine x_tup ?_ | with_reducible refine x_lst ?_ | with_reducible refine x_ix ?_ | with_reducible refine x_sq ?_ | with_reducible refine x_bi ?_ | with_reducible refine x_isi ?_ | with_reducible refine x_call ?_ | with_reducible refine x_sl ?_ | with_reducible refine x_ext ?_
  | with_reducible refine x_anil ?_ | with_reducible refine x_acons ?_ | with_reducible refine x_slst ?_ | with_reducible refine x_stup ?_ | with_reducible refine x_ono ?_ | with_reducible refine x_osome ?_ | with_reducible refine s_seqE ?_ | with_reducible refine s_seq ?_ | with_reducible refine s_asg ?_ | with_reducible refine s_own ?_ | with_reducible refine s_ret ?_ | with_reducible refine s_retN ?_ | with_reducible refine s_brk ?_ | with_reducible refine s_cont ?_ | with_reducible refine s_pas ?_ | with_reducible refine s_if ?_ | with_reducible refine s_for ?_ | with_reducible refine s_exp ?_ | with_reducible refine s_unp ?_ | with_reducible refine s_par ?_ | with_reducible refine s_parN ?_ | with_reducible refine s_parO ?_ | with_reducible refine x_jrng1 ?_ | with_reducible refine x_jrngd ?_ | with_reducible refine x_irng1 ?_ | with_reducible refine x_irngd ?_ | with_reducible refine x_jit ?_ | with_reducible refine x_iit ?_ | with_reducible refine s_nilE ?_ | with_reducible refine s_nil ?_ | with_reducible refine s_ext ?_ | with_reducible refine s_gfor ?_ | with_reducible refine s_gapp ?_
  | ((with_reducible apply x_var); · rfl) | ((with_reducible apply x_varo); · rfl) | ((with_reducible apply x_vvar); · rfl) | ((with_reducible apply x_vown); · rfl) | ((with_reducible apply x_v); · rfl) | ((with_reducible apply x_qlst); · rfl) | ((with_reducible apply x_qtup); · rfl) | ((with_reducible apply x_qown); · rfl) | ((with_reducible apply x_q); · rfl) | ((with_reducible apply s_augP); · rfl) | ((with_reducible apply s_augM); · rfl) | ((with_reducible apply s_app); · rfl) | ((with_reducible apply s_frz); · rfl)
  | with_reducible refine z_len ?_ | with_reducible refine z_add ?_ | with_reducible refine z_sub ?_ | with_reducible refine z_lt ?_ | with_reducible refine z_le ?_ | with_reducible refine z_gt ?_ | with_reducible refine z_ge ?_ | with_reducible refine z_eq ?_ | with_reducible refine z_ne ?_ | with_reducible refine z_eqB ?_ | with_reducible refine z_neB ?_ | ((with_reducible apply z_eqST); (focus decide +kernel)) | ((with_reducible apply z_eqSF); (focus decide +kernel)) | with_reducible refine z_eqS ?_ | with_reducible refine y_int ?_
  | with_reducible refine z_absI ?_ | with_reducible refine z_max ?_ | with_reducible refine z_min ?_ | with_reducible refine z_tuple ?_ | with_reducible refine z_list ?_ | with_reducible refine z_int1 ?_
  | ((with_reducible apply x_lcn); (focus rfl); (focus first | exact trivial | assumption)) | ((with_reducible apply y_bind); (focus rfl); (focus first | exact trivial | assumption); (try dsimp only [List.set_cons_zero, List.set_cons_succ]))
  | ((with_reducible apply y_lenL); (focus rfl)) | with_reducible refine y_tblNT ?_ | with_reducible refine y_tblNF ?_ | with_reducible refine y_blNT ?_ | with_reducible refine y_blNF ?_ | with_reducible refine y_tblT ?_ | with_reducible refine y_tblF ?_ | with_reducible refine y_blT ?_ | with_reducible refine y_blF ?_
  | with_reducible refine y_bl (fun hk => ?_) (fun hk => ?_) | with_reducible refine y_tbl (fun hk => ?_) (fun hk => ?_) | ((with_reducible refine y_tru ?_); (try dsimp only))
  | ((with_reducible apply y_set); (focus exact Nat.le_of_ble_eq_true rfl); (try dsimp only [List.set_cons_zero, List.set_cons_succ])) | ((with_reducible apply y_2); (focus exact Nat.le_of_ble_eq_true rfl); (focus exact Nat.le_of_ble_eq_true rfl); (try dsimp only [List.set_cons_zero, List.set_cons_succ])) | ((with_reducible apply y_ownN); (focus exact Nat.le_of_ble_eq_true rfl); (focus exact Nat.le_of_ble_eq_true rfl); (try dsimp only [List.set_cons_zero, List.set_cons_succ])) | ((with_reducible apply y_N2); (focus exact Nat.le_of_ble_eq_true rfl); (focus exact Nat.le_of_ble_eq_true rfl); (focus exact Nat.le_of_ble_eq_true rfl); (try dsimp only [List.set_cons_zero, List.set_cons_succ])))
theorem z_isN {a : D} {Rb : Bool → Prop} (q : Rb (match a with | .non => true | _ => false)) : cop .is_ a .non Rb := by
  cases a <;> exact q
theorem z_isntN {a : D} {Rb : Bool → Prop} (q : Rb (match a with | .non => false | _ => true)) : cop .isnt a .non Rb := by
  cases a <;> exact q
theorem if_res {a r b : Bool} {x y : D} : (if (a && decide ((r && b) = true)) = true then x else y) = if (a && (r && b)) = true then x else y := by cases a <;> cases r <;> cases b <;> rfl
def wf_law_taken : WF G := fun ds g Q => ∃ (c r : D) (b : Bool), ds = [c, r] ∧ c.lf = true ∧ fit c = true ∧ fit r = true ∧ okc r ∧ (isClaim c = true → isReason r 0 = true → RightIs c r b) ∧ Q (.bl (isClaim c && (isReason r 0 && b))) 2 g
theorem sp_law_taken : ∀ (ds : List D) (g : G) (Pq : Pd G), ds.length = 2 → wf_law_taken ds g Pq → VL.wS [(1, wf_judge)] cs_law_taken (endP Pq) (env0 ck_law_taken.N.length ds) g := by
  rintro ds g Q _ ⟨c, r, b, rfl, h1, h2, h3, h4, h5, q⟩
  show VL.wS _ (.seq _ _) _ [.dat c 1, .dat r 1, .no] _
  repeat' sizeOf_list_dec
  refine y_call rfl rfl ⟨_, _, rfl, .row h1 h2 h3 h4 h5, ?_⟩
  rw [if_res]
  cases hb : (isClaim c && (isReason r 0 && b)) with
  | true =>
    rw [hb] at q
    simp only [if_true, if_false, Bool.false_eq_true]
    repeat' sizeOf_list_dec
    refine z_inL ⟨rfl, by show 0 ≤ 60; decide⟩ ⟨rfl, by show 1 ≤ 60; decide⟩ rfl rfl ?_
    rw [show decide (D.non ∈ [D.non, D.int 0]) = true from rfl]
    repeat' sizeOf_list_dec
    refine z_isN ?_
    exact q
  | false =>
    rw [hb] at q
    simp only [if_true, if_false, Bool.false_eq_true]
    repeat' sizeOf_list_dec
    refine z_inL ⟨rfl, by show 0 ≤ 60; decide⟩ ⟨rfl, by show 1 ≤ 60; decide⟩ rfl rfl ?_
    rw [show decide (D.int 0 ∈ [D.non, D.int 0]) = true from rfl]
    repeat' sizeOf_list_dec
    refine z_isN ?_
    exact q
theorem kit_bool : [("bool", "bool", true), ("list", "bool", false), ("list", "int", false), ("list", "str", false), ("list", "dict", false), ("list", "list", true)].all (fun x => decide (isB x.1 [x.2.1] = some x.2.2)) = true := by decide +kernel
def wf_sameB : WF G := fun ds g Q => ∃ a b : Bool, ds = [.bl a, .bl b] ∧ Q (.bl (decide (a = b))) 2 g
theorem sp_sameB (w : WF G) : ∀ (ds : List D) (g : G) (Pq : Pd G), ds.length = 2 → wf_sameB ds g Pq → VL.wS [(2, w)] cs_law_same (endP Pq) (env0 ck_law_same.N.length ds) g := by
  rintro ds g Q _ ⟨a, b, rfl, q⟩
  have k := kit_bool
  simp only [List.all_cons, List.all_nil, Bool.and_true, Bool.and_eq_true, decide_eq_true_eq] at k
  show VL.wS _ (.seq _ _) _ [.dat (.bl a) 1, .dat (.bl b) 1, .no, .no] _
  repeat' sizeOf_list_dec
  refine z_isN ?_
  repeat' sizeOf_list_dec
  refine ⟨_, _, rfl, k.1, ?_⟩
  repeat' sizeOf_list_dec
  refine ⟨_, _, rfl, k.1, ?_⟩
  repeat' sizeOf_list_dec
  exact q
def wf_sameL : WF G := fun ds g Q => ∃ bs : List Bool, ds = [.lst (bs.map D.bl), .lst (bs.map D.bl)] ∧ bs.length < 1000 ∧ Q (.bl true) 2 g
theorem sp_sameL : ∀ (ds : List D) (g : G) (Pq : Pd G), ds.length = 2 → wf_sameL ds g Pq → VL.wS [(2, wf_sameB)] cs_law_same (endP Pq) (env0 ck_law_same.N.length ds) g := by
  rintro ds g Q _ ⟨bs, rfl, hl, q⟩
  have k := kit_bool
  simp only [List.all_cons, List.all_nil, Bool.and_true, Bool.and_eq_true, decide_eq_true_eq] at k
  obtain ⟨_, k1, k2, k3, k4, k5⟩ := k
  show VL.wS _ (.seq _ _) _ [.dat (.lst (bs.map D.bl)) 1, .dat (.lst (bs.map D.bl)) 1, .no, .no] _
  repeat' sizeOf_list_dec
  refine z_isN ?_
  repeat' sizeOf_list_dec
  refine ⟨_, _, rfl, k1, ?_⟩
  repeat' sizeOf_list_dec
  refine ⟨_, _, rfl, k2, ?_⟩
  repeat' sizeOf_list_dec
  refine ⟨_, _, rfl, k3, ?_⟩
  repeat' sizeOf_list_dec
  refine ⟨_, _, rfl, k4, ?_⟩
  repeat' sizeOf_list_dec
  refine ⟨_, _, rfl, k5, ?_⟩
  repeat' sizeOf_list_dec
  refine ⟨_, _, rfl, k5, ?_⟩
  repeat' sizeOf_list_dec
  · refine ⟨by rw [List.length_map]; exact ⟨by omega, by omega⟩, ?_⟩
    rw [List.length_map]
    refine y_lc (fun _ => .bl true) 2 (by decide) rfl ?_ (fun x hx2 K hK => ?_) ?_
    · rw [rngD_len]
      exact line6 (by omega)
    · obtain ⟨i, hi2, rfl⟩ := rng_mem hx2
      show VL.wE _ _ [.dat (.lst (bs.map D.bl)) 1, .dat (.lst (bs.map D.bl)) 1, .no, .dat (.int (i : Nat)) 2] _ _
      repeat' sizeOf_list_dec
      have e : L2.atI (bs.map D.bl) (i : Nat) = some (.bl (bs.getD i false)) := by
        rw [atI_nat (k := i) (by rw [List.length_map]; exact hi2) rfl]
        simp [List.getD, hi2]
      refine y_ix e ?_
      repeat' sizeOf_list_dec
      refine y_ix e ?_
      repeat' sizeOf_list_dec
      refine y_call rfl rfl ⟨_, _, rfl, ?_⟩
      rw [decide_eq_true rfl]
      exact hK
    · refine x_slst (z_allM (p := fun _ => true) ?_)
      have : (rngD 0 (bs.length : Nat)).all (fun _ => true) = true := List.all_eq_true.mpr fun _ _ => rfl
      rw [this]
      exact q
  · rename_i h
    exact absurd (of_decide_eq_false h) (by simp)
theorem x_trk {fs : List (Nat × WF G)} {c : CE} {es : VL.Env} {g : G} {Q : Pd G} (h : VL.wE fs c es g fun d _ g' => ∃ ds, d = .lst ds ∧ D.lfs ds = true ∧ ∀ p, g' p = none → Q (.obj p) 2 (g'.put p (.lst ds))) : VL.wE fs (.trk c) es g Q := h
theorem y_trk {ds : List D} {g' : G} {Q : Pd G} (h1 : D.lfs ds = true) (h : ∀ p, g' p = none → Q (.obj p) 2 (g'.put p (.lst ds))) : ∃ ds', D.lst ds = .lst ds' ∧ D.lfs ds' = true ∧ ∀ p, g' p = none → Q (.obj p) 2 (g'.put p (.lst ds')) := ⟨ds, rfl, h1, h⟩
theorem x_dsp {fs : List (Nat × WF G)} {ks : List Str} {ds : List D} {g : G} {Q : Pd G} (h : ks.length = ds.length) (h1 : D.lfs ds = true) (q : ∀ p, g p = none → Q (.obj p) 2 (g.put p (.dct (ks.zip ds)))) : hS fs (.dsp ks) ds g Q := ⟨h, h1, q⟩
theorem x_qfrz {fs : List (Nat × WF G)} {es : VL.Env} {g : G} {i l : Nat} {ns : List Int} {W : Bool → List D → Nat → G → Prop} (h : es[i]? = some (.dat (.frz ns) l)) (q : W false (ns.map D.int) 2 g) : VL.wQ (.var i) (VL.wE fs (.var i)) es g W := by
  unfold VL.wQ
  dsimp only
  rw [h]
  exact q
theorem cut_take8 {α : Type} (ds : List α) : (ds.drop (HT.sIx ds.length 0 none)).take (HT.sIx ds.length ds.length (some 8) - HT.sIx ds.length 0 none) = ds.take 8 := cut_take ds 8
def wf_law_draws : WF G := fun ds g Q => ∃ ns : List Int, ds = [.frz ns] ∧ ∀ p g', Dr p 0 g' → Q (.obj p) 2 g'
/-- what has been drawn together so far -/
def Num (q : Addr) (m : Nat) (g : G) : Prop := ∃ ns : List Int, g q = some (.lst (ns.map D.int)) ∧ ns.length = m ∧ ∀ x ∈ ns, 0 ≤ x ∧ x < 1048576
theorem num_put {q : Addr} {m : Nat} {g : G} {x : Int} {Qn : G → Prop} (hm : m ≤ 1000) (h : Num q m g) (h0 : 0 ≤ x) (h1 : x < 1048576) (k : ∀ g', Num q (m + 1) g' → Qn g') : ∃ ds, g q = some (.lst ds) ∧ (D.int x).lf = true ∧ ds.length < sizeLine ∧ Qn (g.put q (.lst (ds ++ [.int x]))) := by
  obtain ⟨ns, h2, h3, h4⟩ := h
  refine ⟨_, h2, rfl, by rw [List.length_map, sizeLine_eq]; omega, k _ ⟨ns ++ [x], ?_, by simp [h3], fun y hy => ?_⟩⟩
  · rw [G.put_at, List.map_append]
    rfl
  · rcases List.mem_append.mp hy with hy | hy
    · exact h4 y hy
    · rw [List.mem_singleton] at hy
      rw [hy]
      exact ⟨h0, h1⟩
theorem sp_law_draws : ∀ (ds : List D) (g : G) (Pq : Pd G), ds.length = 1 → wf_law_draws ds g Pq → VL.wS [] cs_law_draws (endP Pq) (env0 ck_law_draws.N.length ds) g := by
  rintro ds g Q _ ⟨ns, rfl, hQ⟩
  show VL.wS _ (.seq _ _) _ [.dat (.frz ns) 1, .no, .no, .no, .no, .no] _
  repeat' sizeOf_list_dec
  refine x_trk ?_
  repeat' sizeOf_list_dec
  refine ⟨[], rfl, rfl, fun q hq => ?_⟩
  repeat' sizeOf_list_dec
  refine x_qfrz rfl ?_
  repeat' sizeOf_list_dec
  rw [if_neg Bool.false_ne_true, cut_take8, ← List.map_take]
  repeat' sizeOf_list_dec
  have tl : (ns.take 8).length ≤ 8 := by rw [List.length_take]; omega
  refine z_addL (by rw [List.length_map, sizeLine_eq]; show _ + 1 ≤ _; omega) ?_
  repeat' sizeOf_list_dec
  refine y_for (l := 2) (by decide) ?_
  have ea : ((ns.take 8).map D.int ++ [.int 7]) = (ns.take 8 ++ [7]).map D.int := by rw [List.map_append]; rfl
  rw [ea]
  have hl : (ns.take 8 ++ [7]).length ≤ 9 := by rw [List.length_append]; show _ + 1 ≤ 9; omega
  have hl0 : 0 < (ns.take 8 ++ [7]).length := by rw [List.length_append]; exact Nat.succ_pos _
  generalize ns.take 8 ++ [7] = cs at hl hl0
  refine s_foL (fun i es g' => ∃ s2 s3 s4 s5, es = [.dat (.frz ns) 1, .dat (.obj q) 2, s2, s3, s4, s5] ∧ NO s2 ∧ NO s3 ∧ NO s4 ∧ NO s5 ∧ Num q (40 * i) g') ⟨_, _, _, _, rfl, trivial, trivial, trivial, trivial, [], G.put_at, rfl, fun x h => nomatch h⟩ ?_ ?_
  · rintro i d es g' K hd hK ⟨s2, s3, s4, s5, rfl, n2, n3, n4, n5, hN⟩
    have hi : i < 9 := by
      have := (List.getElem?_eq_some_iff.mp hd).1
      rw [List.length_map] at this
      omega
    rw [List.getElem?_map] at hd
    obtain ⟨c, _, rfl⟩ := Option.map_eq_some_iff.mp hd
    refine y_bind rfl n2 ?_
    show VL.wS _ (.seq _ _) _ [.dat (.frz ns) 1, .dat (.obj q) 2, .dat (.int c) 2, s3, s4, s5] _
    repeat' sizeOf_list_dec
    refine z_mod (by decide) ?_
    repeat' sizeOf_list_dec
    refine ⟨⟨by decide, by decide⟩, y_for (l := 2) (by decide) ?_⟩
    have m0 : 0 ≤ c.fmod 1000003 + 1 ∧ c.fmod 1000003 + 1 < 2147483648 := by
      rw [Int.fmod_eq_emod_of_nonneg _ (by decide)]
      have := Int.emod_nonneg c (b := 1000003) (by decide)
      have := Int.emod_lt_of_pos c (b := 1000003) (by decide)
      omega
    refine s_foL (fun k es g' => ∃ (r m : Int) (s5 : Sl), es = [.dat (.frz ns) 1, .dat (.obj q) 2, .dat (.int c) 2, .dat (.int r) 2, .dat (.int m) 2, s5] ∧ NO s5 ∧ 0 ≤ m ∧ m < 2147483648 ∧ Num q (40 * i + k) g') ⟨_, _, _, rfl, n5, m0.1, m0.2, hN⟩ ?_ ?_
    · rintro k d es g2 K2 hd2 hK2 ⟨r, m, s5, rfl, n5, hm0, hm1, hN2⟩
      have hk : k < 40 := by
        have := (List.getElem?_eq_some_iff.mp hd2).1
        rw [rngD_len] at this
        exact this
      rw [rngD_get (by show k < 40; exact hk)] at hd2
      cases hd2
      rw [Int.zero_add]
      refine y_bind rfl n5 ?_
      show VL.wS _ (.seq _ _) _ [.dat (.frz ns) 1, .dat (.obj q) 2, .dat (.int c) 2, .dat (.int r) 2, .dat (.int m) 2, .dat (.int (k : Nat)) 2] _
      repeat' sizeOf_list_dec
      · obtain ⟨zs, z1, _⟩ := id hN2
        refine ⟨q, _, rfl, z1, ?_⟩
        repeat' sizeOf_list_dec
        refine z_mod (by decide) ?_
        have f0 : 0 ≤ r.fmod 1048576 ∧ r.fmod 1048576 < 1048576 := by
          rw [Int.fmod_eq_emod_of_nonneg _ (by decide)]
          exact ⟨Int.emod_nonneg r (by decide), Int.emod_lt_of_pos r (by decide)⟩
        refine num_put (m := 40 * i + k) (by omega) hN2 f0.1 f0.2 fun g3 hN3 => ?_
        repeat' sizeOf_list_dec
        refine z_fdiv ⟨by decide, by decide +kernel⟩ ?_
        repeat' sizeOf_list_dec
        exact hK2 _ _ ⟨_, _, _, rfl, trivial, hm0, hm1, hN3⟩
      · refine z_mul (mulW (k := 40) (l := 40) (by omega) (by decide) (by decide)) ?_
        repeat' sizeOf_list_dec
        refine z_mul (mulW (k := 40) (l := 40) (by decide) (by omega) (by decide)) ?_
        repeat' sizeOf_list_dec
        refine z_mod (by decide) ?_
        generalize hx : (m * 48271 + 11 * ((k : Nat) : Int) + 7 + r).fmod 2147483647 = x
        have fx : 0 ≤ x ∧ x < 2147483647 := by
          rw [← hx, Int.fmod_eq_emod_of_nonneg _ (by decide)]
          exact ⟨Int.emod_nonneg _ (by decide), Int.emod_lt_of_pos _ (by decide)⟩
        repeat' sizeOf_list_dec
        obtain ⟨zs, z1, _⟩ := id hN2
        refine ⟨q, _, rfl, z1, ?_⟩
        repeat' sizeOf_list_dec
        refine z_mul (mulW (k := 40) (l := 70) (by omega) (by decide) (by decide)) ?_
        repeat' sizeOf_list_dec
        refine z_fdiv ⟨by decide, by decide +kernel⟩ ?_
        repeat' sizeOf_list_dec
        refine z_mod (by decide) ?_
        generalize hy : ((x * 2862933555777941757).fdiv 1024).fmod 1048576 = y
        have fy : 0 ≤ y ∧ y < 1048576 := by
          rw [← hy, Int.fmod_eq_emod_of_nonneg _ (by decide)]
          exact ⟨Int.emod_nonneg _ (by decide), Int.emod_lt_of_pos _ (by decide)⟩
        refine num_put (m := 40 * i + k) (by omega) hN2 fy.1 fy.2 fun g3 hN3 => ?_
        repeat' sizeOf_list_dec
        exact hK2 _ _ ⟨_, _, _, rfl, trivial, fx.1, by omega, hN3⟩
    · rintro es g2 ⟨r, m, s5, rfl, n5, hm0, hm1, hN2⟩
      rw [rngD_len] at hN2
      exact hK _ _ ⟨_, _, _, _, rfl, trivial, trivial, trivial, n5, hN2⟩
  · rintro es g' ⟨s2, s3, s4, s5, rfl, n2, n3, n4, n5, hN⟩
    rw [List.length_map] at hN
    obtain ⟨zs, z1, z2, z3⟩ := hN
    repeat' sizeOf_list_dec
    refine x_dsp rfl rfl fun p hp => ?_
    refine hQ p _ ⟨q, zs, fun e => ?_, G.put_at, ?_, by omega, by omega, z3⟩
    · subst e
      rw [z1] at hp
      cases hp
    · rw [G.put_ne fun e => by subst e; rw [z1] at hp; cases hp]
      exact z1
end T
namespace T
open PySem PySem.Spec PyProof.Rows VL
local macro_rules | `(tactic| sizeOf_list_dec) => `(tactic| first
  | with_reducible refine x_int ?_ | with_reducible refine x_bl ?_ | with_reducible refine x_non ?_ | with_reducible refine x_str ?_ | with_reducible refine x_glo ?_ | with_reducible refine x_bin ?_ | with_reducible refine x_neg ?_ | with_reducible refine x_not ?_ | with_reducible refine x_cmp ?_ | with_reducible refine x_chain ?_ | with_reducible refine x_and ?_ | with_reducible refine x_or ?_ | with_reducible refine x_ite ?_ | with_reducible refine x_tup ?_ | with_reducible refine x_lst ?_ | with_reducible refine x_ix ?_ | with_reducible refine x_sq ?_ | with_reducible refine x_bi ?_ | with_reducible refine x_isi ?_ | with_reducible refine x_call ?_ | with_reducible refine x_sl ?_ | with_reducible refine x_ext ?_
  | with_reducible refine x_anil ?_ | with_reducible refine x_acons ?_ | with_reducible refine x_slst ?_ | with_reducible refine x_stup ?_ | with_reducible refine x_ono ?_ | with_reducible refine x_osome ?_ | with_reducible refine s_seqE ?_ | with_reducible refine s_seq ?_ | with_reducible refine s_asg ?_ | with_reducible refine s_own ?_ | with_reducible refine s_ret ?_ | with_reducible refine s_retN ?_ | with_reducible refine s_brk ?_ | with_reducible refine s_cont ?_ | with_reducible refine s_pas ?_ | with_reducible refine s_if ?_ | with_reducible refine s_for ?_ | with_reducible refine s_exp ?_ | with_reducible refine s_unp ?_ | with_reducible refine s_par ?_ | with_reducible refine s_parN ?_ | with_reducible refine s_parO ?_ | with_reducible refine x_jrng1 ?_ | with_reducible refine x_jrngd ?_ | with_reducible refine x_irng1 ?_ | with_reducible refine x_irngd ?_ | with_reducible refine x_jit ?_ | with_reducible refine x_iit ?_ | with_reducible refine s_nilE ?_ | with_reducible refine s_nil ?_ | with_reducible refine s_ext ?_ | with_reducible refine s_gfor ?_ | with_reducible refine s_gapp ?_
  | ((with_reducible apply x_var); · rfl) | ((with_reducible apply x_varo); · rfl) | ((with_reducible apply x_vvar); · rfl) | ((with_reducible apply x_vown); · rfl) | ((with_reducible apply x_v); · rfl) | ((with_reducible apply x_qlst); · rfl) | ((with_reducible apply x_qtup); · rfl) | ((with_reducible apply x_qown); · rfl) | ((with_reducible apply x_q); · rfl) | ((with_reducible apply s_augP); · rfl) | ((with_reducible apply s_augM); · rfl) | ((with_reducible apply s_app); · rfl) | ((with_reducible apply s_frz); · rfl)
  | with_reducible refine z_len ?_ | with_reducible refine z_add ?_ | with_reducible refine z_sub ?_ | with_reducible refine z_lt ?_ | with_reducible refine z_le ?_ | with_reducible refine z_gt ?_ | with_reducible refine z_ge ?_ | with_reducible refine z_eq ?_ | with_reducible refine z_ne ?_ | with_reducible refine z_eqB ?_ | with_reducible refine z_neB ?_ | ((with_reducible apply z_eqST); (focus decide +kernel)) | ((with_reducible apply z_eqSF); (focus decide +kernel)) | with_reducible refine z_eqS ?_ | with_reducible refine y_int ?_
  | with_reducible refine z_absI ?_ | with_reducible refine z_max ?_ | with_reducible refine z_min ?_ | with_reducible refine z_tuple ?_ | with_reducible refine z_list ?_ | with_reducible refine z_int1 ?_
  | ((with_reducible apply x_lcn); (focus rfl); (focus first | exact trivial | assumption)) | ((with_reducible apply y_bind); (focus rfl); (focus first | exact trivial | assumption); (try dsimp only [List.set_cons_zero, List.set_cons_succ]))
  | ((with_reducible apply y_lenL); (focus rfl)) | with_reducible refine y_tblNT ?_ | with_reducible refine y_tblNF ?_ | with_reducible refine y_blNT ?_ | with_reducible refine y_blNF ?_ | with_reducible refine y_tblT ?_ | with_reducible refine y_tblF ?_ | with_reducible refine y_blT ?_ | with_reducible refine y_blF ?_
  | with_reducible refine y_bl (fun hk => ?_) (fun hk => ?_) | with_reducible refine y_tbl (fun hk => ?_) (fun hk => ?_) | ((with_reducible refine y_tru ?_); (try dsimp only))
  | ((with_reducible apply y_set); (focus exact Nat.le_of_ble_eq_true rfl); (try dsimp only [List.set_cons_zero, List.set_cons_succ])) | ((with_reducible apply y_2); (focus exact Nat.le_of_ble_eq_true rfl); (focus exact Nat.le_of_ble_eq_true rfl); (try dsimp only [List.set_cons_zero, List.set_cons_succ])) | ((with_reducible apply y_ownN); (focus exact Nat.le_of_ble_eq_true rfl); (focus exact Nat.le_of_ble_eq_true rfl); (try dsimp only [List.set_cons_zero, List.set_cons_succ])) | ((with_reducible apply y_N2); (focus exact Nat.le_of_ble_eq_true rfl); (focus exact Nat.le_of_ble_eq_true rfl); (focus exact Nat.le_of_ble_eq_true rfl); (try dsimp only [List.set_cons_zero, List.set_cons_succ])))
theorem asc_eq : ∀ {a b : List Int}, a.Pairwise (· < ·) → b.Pairwise (· < ·) → (∀ k, k ∈ a ↔ k ∈ b) → a = b
  | [], [], _, _, _ => rfl
  | [], y :: b, _, _, h => absurd ((h y).mpr List.mem_cons_self) (by simp)
  | x :: a, [], _, _, h => absurd ((h x).mp List.mem_cons_self) (by simp)
  | x :: a, y :: b, ha, hb, h => by
    rw [List.pairwise_cons] at ha hb
    have e : x = y := by
      rcases List.mem_cons.mp ((h x).mp List.mem_cons_self) with q | q
      · exact q
      · rcases List.mem_cons.mp ((h y).mpr List.mem_cons_self) with r | r
        · exact r.symm
        · have := hb.1 x q
          have := ha.1 y r
          omega
    subst e
    congr 1
    refine asc_eq ha.2 hb.2 fun k => ?_
    constructor
    · intro hk
      rcases List.mem_cons.mp ((h k).mp (List.mem_cons_of_mem _ hk)) with q | q
      · have := ha.1 k hk
        omega
      · exact q
    · intro hk
      rcases List.mem_cons.mp ((h k).mpr (List.mem_cons_of_mem _ hk)) with q | q
      · have := hb.1 k hk
        omega
      · exact q
theorem asc_iff : ∀ {ps : List Int}, ps.Pairwise (· < ·) ↔ ∀ k, k < ps.length → 0 < k → ps.getD (k - 1) 0 < ps.getD k 0
  | [] => by simp
  | [x] => by
    constructor
    · intro _ k hk h0
      simp at hk
      omega
    · intro _
      exact List.pairwise_singleton _ _
  | x :: y :: ps => by
    constructor
    · intro h k hk h0
      obtain ⟨j, rfl⟩ : ∃ j, k = j + 1 := ⟨k - 1, by omega⟩
      have hj : j + 1 < (x :: y :: ps).length := hk
      have := List.pairwise_iff_getElem.mp h j (j + 1) (by omega) hj (by omega)
      simpa [List.getD, List.getElem?_eq_getElem hj, List.getElem?_eq_getElem (show j < (x :: y :: ps).length by omega)] using this
    · intro h
      have h1 : x < y := h 1 (by simp) (by decide)
      have ih : (y :: ps).Pairwise (· < ·) := asc_iff.mpr fun k hk h0 => by
        have := h (k + 1) (by simp only [List.length_cons] at hk ⊢; omega) (by omega)
        obtain ⟨j, rfl⟩ : ∃ j, k = j + 1 := ⟨k - 1, by omega⟩
        simpa using this
      refine List.pairwise_cons.mpr ⟨fun z hz => ?_, ih⟩
      rcases List.mem_cons.mp hz with q | q
      · rw [q]; exact h1
      · have := (List.pairwise_cons.mp ih).1 z q
        omega
theorem rests_iff {xs ys : List Int} {c : Int} {ps : List Int} : Rests xs ys c ps ↔ xs.length = ys.length ∧ ps.Pairwise (· < ·) ∧ (∀ p ∈ ps, 1000 < p ∧ p < 1000000 ∧ Trial p.toNat ∧ (dotZ xs ys - c) % p = 0) ∧ bndN xs ys c < prodN (ps.map Int.toNat) := by
  unfold Rests
  constructor
  · rintro ⟨h1, h2, h3, h4⟩
    refine ⟨h1, asc_iff.mpr fun k hk h0 => (h2 k hk).2.1 h0, fun p hp => ?_, h4⟩
    obtain ⟨a, b⟩ := pgood_lt h2 p hp
    obtain ⟨k, hk, e⟩ := List.getElem_of_mem hp
    have := (h2 k hk).2.2
    have e2 : ps.getD k 0 = p := by rw [← e]; simp [List.getD, hk]
    rw [e2] at this
    exact ⟨a, b, this, h3 p hp⟩
  · rintro ⟨h1, h2, h3, h4⟩
    refine ⟨h1, fun k hk => ?_, fun p hp => (h3 p hp).2.2.2, h4⟩
    have m : ps.getD k 0 ∈ ps := List.mem_of_getElem? (i := k) (by simp [List.getD, hk])
    obtain ⟨a, b, d, _⟩ := h3 _ m
    exact ⟨a, fun h0 => asc_iff.mp h2 k hk h0, d⟩
theorem okL (ns : List Int) : okc (.lst (ns.map D.int)) := by
  have h1 : ∀ ns : List Int, D.leafs (ns.map D.int) = true := by
    intro ns
    induction ns with
    | nil => rfl
    | cons n ns ih => simp [D.leafs, D.leaf, ih]
  have h2 : ∀ ns : List Int, D.deps (ns.map D.int) = 0 := by
    intro ns
    induction ns with
    | nil => rfl
    | cons n ns ih => simp [D.deps, D.dep, ih]
  exact ⟨by simpa [D.leaf] using h1 ns, by simp [D.dep, h2]⟩
theorem nbs_ints : ∀ ns : List Int, D.nbs (ns.map D.int) = true
  | [] => rfl
  | n :: ns => by simp [D.nbs, D.nb, nbs_ints ns]
theorem nbL (ns : List Int) : (D.lst (ns.map D.int)).nb = true := by simpa [D.nb] using nbs_ints ns
theorem x_sset {fs : List (Nat × WF G)} {ns : List Int} {g : G} {Q : Pd G} (hl : ns.length < 64) (q : ∀ out : List Int, out.Pairwise (· < ·) → (∀ k, k ∈ out ↔ k ∈ ns) → Q (.lst (out.map D.int)) 2 g) : hS fs .sset [.lst (ns.map D.int)] g Q := ⟨ns, rfl, hl, q⟩
theorem sm_mul {x y : Int} (hx : smI x) (hy : smI y) : L2.CMulW x y := mulW (k := 13300) (l := 13300) (Nat.lt_trans hx (by decide +kernel)) (Nat.lt_trans hy (by decide +kernel)) (by decide)
def wf_law_due : WF G := fun ds g Q => ∃ (xs ys : List Int) (c : Int) (ps : List Int) (b : Bool), ds = [.tup (xs.map D.int), .tup (ys.map D.int), .int c, .lst (ps.map D.int)] ∧ xs.length < 10000 ∧ ps.length < 64 ∧ (∀ x ∈ xs, smI x) ∧ (∀ x ∈ ys, smI x) ∧
  (b = true ↔ Rests xs ys c ps) ∧ Q (.bl b) 2 g
theorem sp_law_due : ∀ (ds : List D) (g : G) (Pq : Pd G), ds.length = 4 → wf_law_due ds g Pq → VL.wS [(3, wf_law_bound), (2, wf_law_dot), (1, wf_law_prime)] cs_law_due (endP Pq) (env0 ck_law_due.N.length ds) g := by
  rintro ds g Q _ ⟨xs, ys, c, ps, b, rfl, hn, hl, hx, hy, hb, q⟩
  rw [rests_iff] at hb
  have no : ¬ (xs.length = ys.length ∧ ps.Pairwise (· < ·) ∧ (∀ p ∈ ps, 1000 < p ∧ p < 1000000 ∧ Trial p.toNat ∧ (dotZ xs ys - c) % p = 0) ∧ bndN xs ys c < prodN (ps.map Int.toNat)) → Q (.bl false) 2 g := fun h => by
    have e : b = false := by
      cases b with
      | false => rfl
      | true => exact absurd (hb.mp rfl) h
    rw [e] at q
    exact q
  show VL.wS _ (.seq _ _) _ [.dat (.tup (xs.map D.int)) 1, .dat (.tup (ys.map D.int)) 1, .dat (.int c) 1, .dat (.lst (ps.map D.int)) 1, .no, .no] _
  repeat' sizeOf_list_dec
  · rename_i h
    refine no fun z => ?_
    rw [List.length_map, List.length_map, z.1] at h
    simp at h
  rename_i h
  have hlen : xs.length = ys.length := by
    rw [List.length_map, List.length_map] at h
    simp only [Bool.not_eq_false', decide_eq_true_eq] at h
    omega
  clear h
  repeat' sizeOf_list_dec
  refine x_sset hl fun out ho hm => ?_
  refine z_neD (okL ps) (okL out) (nbL ps) (nbL out) ?_
  have eo : decide (D.lst (ps.map D.int) = D.lst (out.map D.int)) = true ↔ ps.Pairwise (· < ·) := by
    rw [decide_eq_true_eq]
    constructor
    · intro h
      have : ps = out := by
        simp only [D.lst.injEq] at h
        exact (List.map_inj_right (fun a b e => by cases e; rfl)).mp h
      rw [this]
      exact ho
    · intro h
      rw [asc_eq h ho fun k => (hm k).symm]
  cases hd : decide (D.lst (ps.map D.int) = D.lst (out.map D.int)) with
  | false =>
    repeat' sizeOf_list_dec
    refine no fun z => ?_
    have := eo.mpr z.2.1
    rw [hd] at this
    cases this
  | true =>
  have asc := eo.mp hd
  clear eo hd ho hm
  repeat' sizeOf_list_dec
  refine y_for (l := 1) (by decide) ?_
  refine s_foL (fun i es g' => ∃ s5, es = [.dat (.tup (xs.map D.int)) 1, .dat (.tup (ys.map D.int)) 1, .dat (.int c) 1, .dat (.lst (ps.map D.int)) 1, .dat (.int ((prodN ((ps.take i).map Int.toNat) : Nat) : Int)) 2, s5] ∧ NO s5 ∧ g' = g ∧ ∀ p ∈ ps.take i, 1000 < p ∧ p < 1000000 ∧ Trial p.toNat ∧ (dotZ xs ys - c) % p = 0) ⟨.no, rfl, trivial, rfl, fun p hp => by simp at hp⟩ ?_ ?_
  · rintro i d es g' K hd hK ⟨s5, rfl, n5, rfl, hi⟩
    rw [List.getElem?_map] at hd
    obtain ⟨p, hp, rfl⟩ := Option.map_eq_some_iff.mp hd
    have pm := List.mem_of_getElem? hp
    have il : i < ps.length := (List.getElem?_eq_some_iff.mp hp).1
    have no : ¬ (1000 < p ∧ p < 1000000 ∧ Trial p.toNat ∧ (dotZ xs ys - c) % p = 0) → Q (.bl false) 2 g' := fun h => no fun z => h (z.2.2.1 p pm)
    have tk : ps.take (i + 1) = ps.take i ++ [p] := by rw [List.take_add_one, hp]; rfl
    refine y_bind rfl n5 ?_
    show VL.wS _ (.seq _ _) _ [.dat (.tup (xs.map D.int)) 1, .dat (.tup (ys.map D.int)) 1, .dat (.int c) 1, .dat (.lst (ps.map D.int)) 1, .dat (.int ((prodN ((ps.take i).map Int.toNat) : Nat) : Int)) 2, .dat (.int p) 1] _
    repeat' sizeOf_list_dec
    refine ite_of (fun h1 => ?_) (fun h1 => ?_)
    · have g1 := of_decide_eq_true h1
      repeat' sizeOf_list_dec
      · rename_i h2
        refine no fun z => ?_
        simp at h2
        omega
      rename_i h2
      have g2 : p < 1000000 := by simpa using h2
      obtain ⟨t, ht⟩ := iff_bool (0 ≤ p ∧ Trial p.toNat)
      repeat' sizeOf_list_dec
      refine y_call rfl rfl ⟨p, t, rfl, g2, ht, ?_⟩
      cases t with
      | false =>
        repeat' sizeOf_list_dec
        refine no fun z => nomatch ht.mpr ⟨by omega, z.2.2.1⟩
      | true =>
        have g3 := (ht.mp rfl).2
        repeat' sizeOf_list_dec
        refine y_call rfl rfl ⟨xs, ys, rfl, hlen, by omega, fun i => sm_mul (smI_getD hx i) (smI_getD hy i), ?_⟩
        repeat' sizeOf_list_dec
        refine z_mod (by omega) ?_
        rw [Int.fmod_eq_emod_of_nonneg _ (by omega)]
        repeat' sizeOf_list_dec
        · rename_i h4
          refine no fun z => ?_
          rw [z.2.2.2] at h4
          simp at h4
        · rename_i h4
          have g4 : (dotZ xs ys - c) % p = 0 := by simpa using h4
          have pl : prodN ((ps.take i).map Int.toNat) ≤ 1000000 ^ 64 := by
            refine Nat.le_trans (prodN_lt (m := 0) fun r hr => ?_) (Nat.pow_le_pow_right (by decide) ?_)
            · obtain ⟨x, hx, rfl⟩ := List.mem_map.mp hr
              have := hi x hx
              omega
            · rw [List.length_map, List.length_take]
              omega
          refine z_mul (mulW (k := 1300) (l := 30) ?_ ?_ (by decide)) ?_
          · exact Nat.lt_of_le_of_lt pl (by decide +kernel)
          · show p.natAbs < 1073741824
            omega
          repeat' sizeOf_list_dec
          refine hK _ _ ⟨.dat (.int p) 1, ?_, trivial, rfl, fun r hr => ?_⟩
          · rw [tk, List.map_append, List.map_singleton, prodN_snoc, Int.natCast_mul, Int.toNat_of_nonneg (by omega)]
          · rw [tk] at hr
            rcases List.mem_append.mp hr with hr | hr
            · exact hi r hr
            · rw [List.mem_singleton] at hr
              rw [hr]
              exact ⟨g1, g2, g3, g4⟩
    · have g1 := of_decide_eq_false h1
      repeat' sizeOf_list_dec
      exact no fun z => g1 z.1
  · rintro es g' ⟨s5, rfl, n5, rfl, hi⟩
    rw [List.length_map, List.take_length] at *
    repeat' sizeOf_list_dec
    refine y_call rfl rfl ⟨xs, ys, c, rfl, hlen, hn, hx, hy, ?_⟩
    repeat' sizeOf_list_dec
    have e : decide (((bndN xs ys c : Nat) : Int) < ((prodN (ps.map Int.toNat) : Nat) : Int)) = b := by
      have : (((bndN xs ys c : Nat) : Int) < ((prodN (ps.map Int.toNat) : Nat) : Int)) ↔ b = true := by
        rw [hb, Int.ofNat_lt]
        exact ⟨fun h => ⟨hlen, asc, hi, h⟩, fun h => h.2.2.2⟩
      cases b with
      | true => exact decide_eq_true (this.mpr rfl)
      | false => exact decide_eq_false fun z => nomatch this.mp z
    rw [e]
    exact q
end T
namespace T
open PySem PySem.Spec PyProof.Rows VL
local macro_rules | `(tactic| sizeOf_list_dec) => `(tactic| first
  | with_reducible refine x_int ?_ | with_reducible refine x_bl ?_ | with_reducible refine x_non ?_ | with_reducible refine x_str ?_ | with_reducible refine x_glo ?_ | with_reducible refine x_bin ?_ | with_reducible refine x_neg ?_ | with_reducible refine x_not ?_ | with_reducible refine x_cmp ?_ | with_reducible refine x_chain ?_ | with_reducible refine x_and ?_ | with_reducible refine x_or ?_ | with_reducible refine x_ite ?_ | with_reducible refine x_tup ?_ | with_reducible refine x_lst ?_ | with_reducible refine x_ix ?_ | with_reducible refine x_sq ?_ | with_reducible refine x_bi ?_ | with_reducible refine x_isi ?_ | with_reducible refine x_call ?_ | with_reducible refine x_sl ?_ | with_reducible refine x_ext ?_
  | with_reducible refine x_anil ?_ | with_reducible refine x_acons ?_ | with_reducible refine x_slst ?_ | with_reducible refine x_stup ?_ | with_reducible refine x_ono ?_ | with_reducible refine x_osome ?_ | with_reducible refine s_seqE ?_ | with_reducible refine s_seq ?_ | with_reducible refine s_asg ?_ | with_reducible refine s_own ?_ | with_reducible refine s_ret ?_ | with_reducible refine s_retN ?_ | with_reducible refine s_brk ?_ | with_reducible refine s_cont ?_ | with_reducible refine s_pas ?_ | with_reducible refine s_if ?_ | with_reducible refine s_for ?_ | with_reducible refine s_exp ?_ | with_reducible refine s_unp ?_ | with_reducible refine s_par ?_ | with_reducible refine s_parN ?_ | with_reducible refine s_parO ?_ | with_reducible refine x_jrng1 ?_ | with_reducible refine x_jrngd ?_ | with_reducible refine x_irng1 ?_ | with_reducible refine x_irngd ?_ | with_reducible refine x_jit ?_ | with_reducible refine x_iit ?_ | with_reducible refine s_nilE ?_ | with_reducible refine s_nil ?_ | with_reducible refine s_ext ?_ | with_reducible refine s_gfor ?_ | with_reducible refine s_gapp ?_
  | ((with_reducible apply x_var); · rfl) | ((with_reducible apply x_varo); · rfl) | ((with_reducible apply x_vvar); · rfl) | ((with_reducible apply x_vown); · rfl) | ((with_reducible apply x_v); · rfl) | ((with_reducible apply x_qlst); · rfl) | ((with_reducible apply x_qtup); · rfl) | ((with_reducible apply x_qown); · rfl) | ((with_reducible apply x_q); · rfl) | ((with_reducible apply s_augP); · rfl) | ((with_reducible apply s_augM); · rfl) | ((with_reducible apply s_app); · rfl) | ((with_reducible apply s_frz); · rfl)
  | with_reducible refine z_len ?_ | with_reducible refine z_add ?_ | with_reducible refine z_sub ?_ | with_reducible refine z_lt ?_ | with_reducible refine z_le ?_ | with_reducible refine z_gt ?_ | with_reducible refine z_ge ?_ | with_reducible refine z_eq ?_ | with_reducible refine z_ne ?_ | with_reducible refine z_eqB ?_ | with_reducible refine z_neB ?_ | ((with_reducible apply z_eqST); (focus decide +kernel)) | ((with_reducible apply z_eqSF); (focus decide +kernel)) | with_reducible refine z_eqS ?_ | with_reducible refine y_int ?_
  | with_reducible refine z_absI ?_ | with_reducible refine z_max ?_ | with_reducible refine z_min ?_ | with_reducible refine z_tuple ?_ | with_reducible refine z_list ?_ | with_reducible refine z_int1 ?_
  | ((with_reducible apply x_lcn); (focus rfl); (focus first | exact trivial | assumption)) | ((with_reducible apply y_bind); (focus rfl); (focus first | exact trivial | assumption); (try dsimp only [List.set_cons_zero, List.set_cons_succ]))
  | ((with_reducible apply y_lenL); (focus rfl)) | with_reducible refine y_tblNT ?_ | with_reducible refine y_tblNF ?_ | with_reducible refine y_blNT ?_ | with_reducible refine y_blNF ?_ | with_reducible refine y_tblT ?_ | with_reducible refine y_tblF ?_ | with_reducible refine y_blT ?_ | with_reducible refine y_blF ?_
  | with_reducible refine y_bl (fun hk => ?_) (fun hk => ?_) | with_reducible refine y_tbl (fun hk => ?_) (fun hk => ?_) | ((with_reducible refine y_tru ?_); (try dsimp only))
  | ((with_reducible apply y_set); (focus exact Nat.le_of_ble_eq_true rfl); (try dsimp only [List.set_cons_zero, List.set_cons_succ])) | ((with_reducible apply y_2); (focus exact Nat.le_of_ble_eq_true rfl); (focus exact Nat.le_of_ble_eq_true rfl); (try dsimp only [List.set_cons_zero, List.set_cons_succ])) | ((with_reducible apply y_ownN); (focus exact Nat.le_of_ble_eq_true rfl); (focus exact Nat.le_of_ble_eq_true rfl); (try dsimp only [List.set_cons_zero, List.set_cons_succ])) | ((with_reducible apply y_N2); (focus exact Nat.le_of_ble_eq_true rfl); (focus exact Nat.le_of_ble_eq_true rfl); (focus exact Nat.le_of_ble_eq_true rfl); (try dsimp only [List.set_cons_zero, List.set_cons_succ])))
theorem k_sum : kindsOf (.str "sum") = some (["int", "int", "int"] : List Str) := by decide +kernel
theorem k_less : kindsOf (.str "less") = some (["int", "int"] : List Str) := by decide +kernel
theorem k_dot : kindsOf (.str "dot") = some (["ints", "ints", "int"] : List Str) := by decide +kernel
theorem k_prime : kindsOf (.str "prime") = some (["int"] : List Str) := by decide +kernel
theorem areInts_map (ns : List Int) : areInts (.tup (ns.map D.int)) = true := by
  show (ns.map D.int).all isInt = true
  rw [List.all_map, List.all_eq_true]
  intro x _
  rfl
theorem s_ints : ((("ints" : Str) = "int") = False) ∧ ((("ints" : Str) = "small") = False) := by
  constructor <;> exact eq_false (by decide +kernel)
theorem fld_int (z : Int) : isField (.int z) "int" = true := by
  unfold isField
  rw [if_pos rfl]
  rfl
theorem fld_ints (ns : List Int) : isField (.tup (ns.map D.int)) "ints" = true := by
  unfold isField
  simp only [s_ints.1, s_ints.2, if_false, if_true]
  exact areInts_map ns
theorem c_sum (a b c : Int) : isClaim (dSum a b c) = true := by
  have e : isClaim (dSum a b c) = ((isField (.int a) "int" && (isField (.int b) "int" && (isField (.int c) "int" && true)))) := by
    unfold dSum isClaim
    show (match kindsOf (.str "sum") with
      | none => false
      | some ks => _) = _
    rw [k_sum]
    rfl
  rw [e, fld_int, fld_int, fld_int]
  rfl
theorem c_less (a b : Int) : isClaim (dLess a b) = true := by
  have e : isClaim (dLess a b) = ((isField (.int a) "int" && (isField (.int b) "int" && true))) := by
    unfold dLess isClaim
    show (match kindsOf (.str "less") with
      | none => false
      | some ks => _) = _
    rw [k_less]
    rfl
  rw [e, fld_int, fld_int]
  rfl
theorem c_prime (a : Int) : isClaim (dPrime a) = true := by
  have e : isClaim (dPrime a) = (isField (.int a) "int" && true) := by
    unfold dPrime isClaim
    show (match kindsOf (.str "prime") with
      | none => false
      | some ks => _) = _
    rw [k_prime]
    rfl
  rw [e, fld_int]
  rfl
theorem c_dot (xs ys : List Int) (c : Int) : isClaim (dDot xs ys c) = true := by
  have e : isClaim (dDot xs ys c) = (isField (.tup (xs.map D.int)) "ints" && (isField (.tup (ys.map D.int)) "ints" && (isField (.int c) "int" && true))) := by
    unfold dDot isClaim
    show (match kindsOf (.str "dot") with
      | none => false
      | some ks => _) = _
    rw [k_dot]
    rfl
  rw [e, fld_ints, fld_ints, fld_int]
  rfl
theorem r_dig : isReason dDig 0 = true := by rw [isReason_tup]; decide +kernel
theorem r_trial : isReason dTrial 0 = true := by rw [isReason_tup]; decide +kernel
theorem r_rests {ps : List Int} (h : ∀ p ∈ ps, 0 ≤ p) : isReason (dRests ps) 0 = true := by
  rw [isReason_tup]
  have e1 : (D.str "rests" :: ps.map D.int).getD 0 .non = .str "rests" := rfl
  have e2 : ((D.str "rests" :: ps.map D.int).drop 1).all (geI 0) = true := by
    show (ps.map D.int).all (geI 0) = true
    rw [List.all_map, List.all_eq_true]
    intro x hx
    exact decide_eq_true (h x hx)
  rw [e1, e2, decide_eq_true rfl]
  simp
theorem fit_ints {ns : List Int} (h : ns.length ≤ 1000000) : fit (.tup (ns.map D.int)) = true := fit_mk (by rw [List.length_map]; exact h) fun d hd => by
  obtain ⟨x, _, rfl⟩ := List.mem_map.mp hd
  rfl
theorem fits_ints (ns : List Int) : fits (ns.map D.int) = true := fits_of fun d hd => by
  obtain ⟨x, _, rfl⟩ := List.mem_map.mp hd
  rfl
theorem fit_dot {xs ys : List Int} (c : Int) (hx : xs.length ≤ 1000000) (hy : ys.length ≤ 1000000) : fit (dDot xs ys c) = true := fit_mk (by show 4 ≤ 1000000; decide) fun d hd => by
  simp only [List.mem_cons, List.not_mem_nil, or_false] at hd
  rcases hd with rfl | rfl | rfl | rfl
  · rfl
  · exact fit_ints hx
  · exact fit_ints hy
  · rfl
theorem fit_rests {ps : List Int} (h : ps.length < 1000) : fit (dRests ps) = true := fit_mk (by rw [List.length_cons, List.length_map]; omega) fun d hd => by
  rcases List.mem_cons.mp hd with rfl | hd
  · rfl
  · obtain ⟨x, _, rfl⟩ := List.mem_map.mp hd
    rfl
theorem lfs_ints (ns : List Int) : D.lfs (ns.map D.int) = true := by
  rw [lfs_all, List.all_map, List.all_eq_true]
  intro x _
  rfl
theorem lf_dot (xs ys : List Int) (c : Int) : (dDot xs ys c).lf = true := by
  simp [D.lf, D.lfs, lfs_ints]
theorem leafs_ints (ns : List Int) : D.leafs (ns.map D.int) = true := by
  induction ns with
  | nil => rfl
  | cons n ns ih => simp [D.leafs, D.leaf, ih]
theorem deps_ints (ns : List Int) : D.deps (ns.map D.int) = 0 := by
  induction ns with
  | nil => rfl
  | cons n ns ih => simp [D.deps, D.dep, ih]
theorem ok_rests (ps : List Int) : okc (dRests ps) := by
  refine ⟨?_, ?_⟩
  · have : PyData.strOk "rests" = true := by decide +kernel
    simp [D.leaf, D.leafs, leafs_ints, this]
  · simp [D.dep, D.deps, deps_ints]
theorem ok_dig : okc dDig := ⟨by decide +kernel, by decide +kernel⟩
theorem ok_trial : okc dTrial := ⟨by decide +kernel, by decide +kernel⟩
theorem x_taken {c r : D} {b : Bool} {g : G} {R : Pd G} (h1 : c.lf = true) (h2 : fit c = true) (h3 : fit r = true) (h4 : okc r) (hc : isClaim c = true) (hr : isReason r 0 = true) (h : RightIs c r b) (q : R (.bl b) 2 g) : wf_law_taken [c, r] g R := by
  refine ⟨c, r, b, rfl, h1, h2, h3, h4, fun _ _ => h, ?_⟩
  rw [hc, hr, Bool.true_and, Bool.true_and]
  exact q
/-- the pieces for dots -/
theorem t_dot {xs ys ps : List Int} {c : Int} {b : Bool} {g : G} {R : Pd G} (h1 : xs.length < 10000) (h2 : ys.length < 10000) (h3 : ps.length < 64) (h4 : ∀ p ∈ ps, 0 ≤ p) (h5 : ∀ x ∈ xs, smI x) (h6 : ∀ x ∈ ys, smI x) (h7 : smI c) (hb : b = true ↔ Rests xs ys c ps) (q : R (.bl b) 2 g) : wf_law_taken [dDot xs ys c, dRests ps] g R :=
  x_taken (lf_dot xs ys c) (fit_dot c (by omega) (by omega)) (fit_rests (by omega)) (ok_rests ps) (c_dot xs ys c) (r_rests h4) (.dot h1 (by omega) h5 h6 h7 hb) q
theorem sm80 {z : Int} (h : z.natAbs < 2 ^ 80) : smI z := Nat.lt_trans h (by decide +kernel)
theorem smB {z : Int} (h : z.natAbs < 2 ^ 5000) : smI z := Nat.lt_trans h (by decide +kernel)
theorem dotZ_le {xs ys : List Int} (hl : xs.length ≤ 3) (hx : ∀ x ∈ xs, x.natAbs < 2 ^ 80) (hy : ∀ x ∈ ys, x.natAbs < 2 ^ 80) : (dotZ xs ys).natAbs ≤ 3 * 2 ^ 160 := by
  have g : ∀ {zs : List Int}, (∀ x ∈ zs, x.natAbs < 2 ^ 80) → ∀ k, (zs.getD k 0).natAbs ≤ 2 ^ 80 := fun {zs} h k => by
    rcases Nat.lt_or_ge k zs.length with q | q
    · exact Nat.le_of_lt (h _ (List.mem_of_getElem? (i := k) (by simp [List.getD, q])))
    · simp [List.getD, q]
  have key : ∀ n, (((List.range n).map fun i => xs.getD i 0 * ys.getD i 0).sum).natAbs ≤ n * 2 ^ 160 := by
    intro n
    induction n with
    | zero => simp
    | succ n ih =>
      rw [List.range_succ, List.map_append, List.map_singleton, sum_snoc]
      have h1 := Int.natAbs_add_le (((List.range n).map fun i => xs.getD i 0 * ys.getD i 0).sum) (xs.getD n 0 * ys.getD n 0)
      have h2 : (xs.getD n 0 * ys.getD n 0).natAbs ≤ 2 ^ 80 * 2 ^ 80 := by
        rw [Int.natAbs_mul]
        exact Nat.mul_le_mul (g hx n) (g hy n)
      have e : (2 : Nat) ^ 80 * 2 ^ 80 = 2 ^ 160 := by rw [← Nat.pow_add]
      rw [e] at h2
      rw [Nat.succ_mul]
      omega
  have := key xs.length
  have h2 : xs.length * 2 ^ 160 ≤ 3 * 2 ^ 160 := Nat.mul_le_mul_right _ hl
  exact Nat.le_trans this h2
theorem bnd_le {xs ys : List Int} {c : Int} (hl : xs.length ≤ 3) (hx : ∀ x ∈ xs, x.natAbs < 2 ^ 80) (hy : ∀ x ∈ ys, x.natAbs < 2 ^ 80) (hc : c.natAbs ≤ 3 * 2 ^ 160) : bndN xs ys c < 2 ^ 250 := by
  have r7 : ∀ {zs : List Int}, (∀ x ∈ zs, x.natAbs < 2 ^ 80) → ∀ k, rl (zs.getD k 0).natAbs ≤ 7 := fun {zs} h k => by
    refine rl_of_lt ?_
    rcases Nat.lt_or_ge k zs.length with q | q
    · exact Nat.lt_trans (h _ (List.mem_of_getElem? (i := k) (by simp [List.getD, q]))) (by decide +kernel)
    · simp [List.getD, q]
  have le : ∀ l : List Nat, (∀ y ∈ l, y ≤ 14) → l.foldr max 0 ≤ 14 := by
    intro l
    induction l with
    | nil => intro _; exact Nat.zero_le _
    | cons z l ih =>
      intro h
      have h1 := h z List.mem_cons_self
      have h2 := ih fun y hy => h y (List.mem_cons_of_mem _ hy)
      show max z (l.foldr max 0) ≤ 14
      omega
  have w : widN xs ys ≤ 14 := le _ fun y h => by
    obtain ⟨i, _, rfl⟩ := List.mem_map.mp h
    have a1 := r7 hx i
    have a2 := r7 hy i
    omega
  have a : xs.length * 10000 ^ widN xs ys ≤ 3 * 10000 ^ 14 := Nat.mul_le_mul hl (Nat.pow_le_pow_right (by decide) w)
  show xs.length * 10000 ^ widN xs ys + c.natAbs < 2 ^ 250
  have b1 : 3 * 10000 ^ 14 ≤ 2 ^ 249 := by decide +kernel
  have b2 : 3 * 2 ^ 160 < 2 ^ 249 := by decide +kernel
  have b3 : (2 : Nat) ^ 250 = 2 ^ 249 + 2 ^ 249 := by decide +kernel
  generalize 10000 ^ widN xs ys = W at *
  omega
def pzI (ps : List Nat) : List Int := ps.map fun p : Nat => (p : Int)
theorem natT_eq (ps : List Nat) : natT ps = (pzI ps).map D.int := by
  unfold natT pzI
  rw [List.map_map]
  rfl
theorem pz_nat (ps : List Nat) : (pzI ps).map Int.toNat = ps := by
  unfold pzI
  rw [List.map_map]
  conv => rhs; rw [← List.map_id ps]
  exact List.map_congr_left fun p _ => by simp
theorem ps_rests {xs ys : List Int} {ps : List Nat} (hl : xs.length = ys.length) (h : PsOk ps (bndN xs ys (dotZ xs ys))) : Rests xs ys (dotZ xs ys) (pzI ps) := by
  rw [rests_iff]
  refine ⟨hl, ?_, fun p hp => ?_, by rw [pz_nat]; exact h.big⟩
  · unfold pzI
    exact List.Pairwise.map _ (fun a b hab => Int.ofNat_lt.mpr hab) h.asc
  · obtain ⟨q, hq, rfl⟩ := List.mem_map.mp hp
    obtain ⟨a, b, c⟩ := h.prm q hq
    refine ⟨by omega, by omega, ?_, by rw [Int.sub_self, Int.zero_emod]⟩
    rw [Int.toNat_natCast]
    exact trial_iff.mpr ⟨a, by omega⟩
theorem neg1 {α : Type} (ds : List α) : HT.sIx ds.length ds.length (some (-1)) = ds.length - 1 ∧ HT.sIx ds.length 0 (some (-1)) = ds.length - 1 := by
  constructor <;> (unfold HT.sIx; simp; omega)
theorem cut_but {α : Type} (ds : List α) : (ds.drop (HT.sIx ds.length 0 none)).take (HT.sIx ds.length ds.length (some (-1)) - HT.sIx ds.length 0 none) = ds.take (ds.length - 1) := by
  rw [(neg1 ds).1, HT.sIx_none, List.drop_zero, Nat.sub_zero]
theorem cut_last {α : Type} (ds : List α) : (ds.drop (HT.sIx ds.length 0 (some (-1)))).take (HT.sIx ds.length ds.length none - HT.sIx ds.length 0 (some (-1))) = ds.drop (ds.length - 1) := by
  rw [(neg1 ds).2, HT.sIx_none, List.take_of_length_le (by rw [List.length_drop]; omega)]
section
variable {fs : List (Nat × WF G)} {es : VL.Env} {g : G} {j l : Nat} {s : Sl}
/-- a comprehension whose turns change what stands outside -/
theorem y_lcS {elt : CE} {ds : List D} {k : List D → Nat → G → Prop} (I : Nat → List D → G → Prop) (lv : Nat) (h2 : lv ≤ 2) (h : es[j]? = some s) (hs : ds.length ≤ sizeLine) (h0 : I 0 [] g)
    (step : ∀ (i : Nat) (d : D) (acc : List D) (g : G) (K : Pd G), ds[i]? = some d → I i acc g → (∀ e g', I (i + 1) (acc ++ [e]) g' → K e lv g') → VL.wE fs elt (es.set j (.dat d l)) g K)
    (fin : ∀ acc g', acc.length = ds.length → I ds.length acc g' → k acc (if ds = [] then 2 else lv) g') :
    lcl (fun d g k => bindT (.name j) d l (wipeE es [j]) fun es' => VL.wT fs .no es' g fun b g' => if b = true then VL.wE fs elt es' g' fun e le g'' => k (some (e, le)) g'' else k none g') ds [] 2 g k := by
  have key : ∀ (n i : Nat) (acc : List D) (m : Nat) (g : G), ds.length - i = n → i ≤ ds.length → acc.length = i → (m = if i = 0 then 2 else lv) → I i acc g →
      lcl (fun d g k => bindT (.name j) d l (wipeE es [j]) fun es' => VL.wT fs .no es' g fun b g' => if b = true then VL.wE fs elt es' g' fun e le g'' => k (some (e, le)) g'' else k none g') (ds.drop i) acc m g k := by
    intro n
    induction n with
    | zero =>
      intro i acc m g hn hi hl hm hI
      obtain rfl : i = ds.length := by omega
      rw [List.drop_length]
      show k acc m g
      rw [hm]
      have := fin acc g hl hI
      by_cases e : ds = []
      · subst e; exact this
      · rw [if_neg e] at this
        rw [if_neg (fun z => e (List.length_eq_zero_iff.mp z))]
        exact this
    | succ n ih =>
      intro i acc m g hn hi hl hm hI
      have hlt : i < ds.length := by omega
      rw [List.drop_eq_getElem_cons hlt]
      unfold lcl
      refine y_bind (wipe1_get h) trivial ?_
      rw [wipe1]
      show VL.wE fs elt _ _ _
      refine step i ds[i] acc g _ (List.getElem?_eq_getElem hlt) hI fun e g' hI' => ?_
      refine ⟨by omega, ih (i + 1) _ _ g' (by omega) hlt (by simp [hl]) ?_ hI'⟩
      rw [if_neg (Nat.succ_ne_zero i), hm]
      split <;> omega
  exact key _ 0 [] 2 g rfl (Nat.zero_le _) rfl rfl h0
end
end T
namespace T
open PySem PySem.Spec PyProof.Rows VL
local macro_rules | `(tactic| sizeOf_list_dec) => `(tactic| first
  | with_reducible refine x_int ?_ | with_reducible refine x_bl ?_ | with_reducible refine x_non ?_ | with_reducible refine x_str ?_ | with_reducible refine x_glo ?_ | with_reducible refine x_bin ?_ | with_reducible refine x_neg ?_ | with_reducible refine x_not ?_ | with_reducible refine x_cmp ?_ | with_reducible refine x_chain ?_ | with_reducible refine x_and ?_ | with_reducible refine x_or ?_ | with_reducible refine x_ite ?_ | with_reducible refine x_tup ?_ | with_reducible refine x_lst ?_ | with_reducible refine x_ix ?_ | with_reducible refine x_sq ?_ | with_reducible refine x_bi ?_ | with_reducible refine x_isi ?_ | with_reducible refine x_call ?_ | with_reducible refine x_sl ?_ | with_reducible refine x_ext ?_
  | with_reducible refine x_anil ?_ | with_reducible refine x_acons ?_ | with_reducible refine x_slst ?_ | with_reducible refine x_stup ?_ | with_reducible refine x_ono ?_ | with_reducible refine x_osome ?_ | with_reducible refine s_seqE ?_ | with_reducible refine s_seq ?_ | with_reducible refine s_asg ?_ | with_reducible refine s_own ?_ | with_reducible refine s_ret ?_ | with_reducible refine s_retN ?_ | with_reducible refine s_brk ?_ | with_reducible refine s_cont ?_ | with_reducible refine s_pas ?_ | with_reducible refine s_if ?_ | with_reducible refine s_for ?_ | with_reducible refine s_exp ?_ | with_reducible refine s_unp ?_ | with_reducible refine s_par ?_ | with_reducible refine s_parN ?_ | with_reducible refine s_parO ?_ | with_reducible refine x_jrng1 ?_ | with_reducible refine x_jrngd ?_ | with_reducible refine x_irng1 ?_ | with_reducible refine x_irngd ?_ | with_reducible refine x_jit ?_ | with_reducible refine x_iit ?_ | with_reducible refine s_nilE ?_ | with_reducible refine s_nil ?_ | with_reducible refine s_ext ?_ | with_reducible refine s_gfor ?_ | with_reducible refine s_gapp ?_
  | ((with_reducible apply x_var); · rfl) | ((with_reducible apply x_varo); · rfl) | ((with_reducible apply x_vvar); · rfl) | ((with_reducible apply x_vown); · rfl) | ((with_reducible apply x_v); · rfl) | ((with_reducible apply x_qlst); · rfl) | ((with_reducible apply x_qtup); · rfl) | ((with_reducible apply x_qown); · rfl) | ((with_reducible apply x_q); · rfl) | ((with_reducible apply s_augP); · rfl) | ((with_reducible apply s_augM); · rfl) | ((with_reducible apply s_app); · rfl) | ((with_reducible apply s_frz); · rfl)
  | with_reducible refine z_len ?_ | with_reducible refine z_add ?_ | with_reducible refine z_sub ?_ | with_reducible refine z_lt ?_ | with_reducible refine z_le ?_ | with_reducible refine z_gt ?_ | with_reducible refine z_ge ?_ | with_reducible refine z_eq ?_ | with_reducible refine z_ne ?_ | with_reducible refine z_eqB ?_ | with_reducible refine z_neB ?_ | ((with_reducible apply z_eqST); (focus decide +kernel)) | ((with_reducible apply z_eqSF); (focus decide +kernel)) | with_reducible refine z_eqS ?_ | with_reducible refine y_int ?_
  | with_reducible refine z_absI ?_ | with_reducible refine z_max ?_ | with_reducible refine z_min ?_ | with_reducible refine z_tuple ?_ | with_reducible refine z_list ?_ | with_reducible refine z_int1 ?_
  | ((with_reducible apply x_lcn); (focus rfl); (focus first | exact trivial | assumption)) | ((with_reducible apply y_bind); (focus rfl); (focus first | exact trivial | assumption); (try dsimp only [List.set_cons_zero, List.set_cons_succ]))
  | ((with_reducible apply y_lenL); (focus rfl)) | with_reducible refine y_tblNT ?_ | with_reducible refine y_tblNF ?_ | with_reducible refine y_blNT ?_ | with_reducible refine y_blNF ?_ | with_reducible refine y_tblT ?_ | with_reducible refine y_tblF ?_ | with_reducible refine y_blT ?_ | with_reducible refine y_blF ?_
  | with_reducible refine y_bl (fun hk => ?_) (fun hk => ?_) | with_reducible refine y_tbl (fun hk => ?_) (fun hk => ?_) | ((with_reducible refine y_tru ?_); (try dsimp only))
  | ((with_reducible apply y_set); (focus exact Nat.le_of_ble_eq_true rfl); (try dsimp only [List.set_cons_zero, List.set_cons_succ])) | ((with_reducible apply y_2); (focus exact Nat.le_of_ble_eq_true rfl); (focus exact Nat.le_of_ble_eq_true rfl); (try dsimp only [List.set_cons_zero, List.set_cons_succ])) | ((with_reducible apply y_ownN); (focus exact Nat.le_of_ble_eq_true rfl); (focus exact Nat.le_of_ble_eq_true rfl); (try dsimp only [List.set_cons_zero, List.set_cons_succ])) | ((with_reducible apply y_N2); (focus exact Nat.le_of_ble_eq_true rfl); (focus exact Nat.le_of_ble_eq_true rfl); (focus exact Nat.le_of_ble_eq_true rfl); (try dsimp only [List.set_cons_zero, List.set_cons_succ])))
theorem z_addT {xs ys : List D} {l l' : Nat} {R1 : D → Nat → Prop} (h : xs.length + ys.length ≤ sizeLine) (q : R1 (.tup (xs ++ ys)) (min l l')) : bop .add (.tup xs) l (.tup ys) l' R1 := ⟨h, q⟩
theorem z_isB {x y : Bool} {Rb : Bool → Prop} (q : Rb (decide (x = y))) : cop .is_ (.bl x) (.bl y) Rb := q
theorem z_isntB {x y : Bool} {Rb : Bool → Prop} (q : Rb (!decide (x = y))) : cop .isnt (.bl x) (.bl y) Rb := q
theorem y_bind2 {es : VL.Env} {i j : Nat} {s s' : Sl} {d1 d2 : D} {l : Nat} {kk : VL.Env → Prop} (h : es[i]? = some s) (hn : NO s) (h2 : es[j]? = some s') (hn2 : NO s') (q : kk ((es.set i (.dat d1 l)).set j (.dat d2 l))) : bindT (.tup [i, j]) (.tup [d1, d2]) l es kk := ⟨[d1, d2], rfl, rfl, noOwn2 h hn h2 hn2, q⟩
def fsL : List (Nat × WF G) := [(1, wf_judge), (2, wf_sameL), (2, wf_law_taken), (1, wf_law_prime), (2, wf_law_pick), (2, wf_law_next), (4, wf_law_due), (2, wf_law_primes), (3, wf_law_bound), (2, wf_law_dot), (1, wf_law_great), (1, wf_law_draws)]
/-- what is left of the slots -/
def NOs (l : List Sl) : Prop := ∀ s ∈ l, NO s
def wf_law : WF G := fun ds g Q => ∃ ns : List Int, ds = [.frz ns] ∧ ∀ g', Q (.bl true) 2 g'
theorem len_pz (ps : List Nat) : (pzI ps).length = ps.length := by unfold pzI; rw [List.length_map]
theorem pz_ge {ps : List Nat} : ∀ x ∈ pzI ps, 0 ≤ x := fun x hx => by
  obtain ⟨q, _, rfl⟩ := List.mem_map.mp hx
  exact Int.natCast_nonneg q
theorem lmI (zs : List Int) : (zs.map D.int).length = zs.length := List.length_map ..
theorem tk_line {zs : List Int} (h : zs.length < 1000) : [D.str "rests"].length + (zs.map D.int).length ≤ sizeLine := by
  rw [lmI, sizeLine_eq]
  show 1 + _ ≤ _
  omega

variable {ns : List Int} {p : Addr}
/-- the loop over sums -/
theorem law_sums {g : G} {nx rt bk ct} {s2 s5 s6 s7 s8 s9 s10 s11 s12 s13 s14 s15 s16 : Sl} {a b : Int} {y : CS} (hy : y = .seq (.ite (.cmp .ne (.call 2 (.cons (.tup (.cons (.str "sum") (.cons (.var 3) (.cons (.var 4) (.cons (.var 5) .nil))))) (.cons (.tup (.cons (.str "digits") .nil)) .nil))) (.cmp .eq (.bin .add (.var 3) (.var 4)) (.var 5))) (.seq (.ret (.bl false)) .nil) .nil) .nil)
    (n5 : NO s5) (ha : smI a) (hb : smI b) {zs : List Int} (hz : ∀ z ∈ zs, smI z)
    (k : ∀ s5, NO s5 → nx [.dat (.frz ns) 1, .dat (.obj p) 2, s2, .dat (.int a) 2, .dat (.int b) 2, s5, s6, s7, s8, s9, s10, s11, s12, s13, s14, s15, s16] g) : foL (.name 5) 2 (VL.wS fsL y) (zs.map D.int) ⟨nx, rt, bk, ct⟩ [.dat (.frz ns) 1, .dat (.obj p) 2, s2, .dat (.int a) 2, .dat (.int b) 2, s5, s6, s7, s8, s9, s10, s11, s12, s13, s14, s15, s16] g := by
  subst hy
  refine s_foL (fun i es g' => ∃ s5, es = [.dat (.frz ns) 1, .dat (.obj p) 2, s2, .dat (.int a) 2, .dat (.int b) 2, s5, s6, s7, s8, s9, s10, s11, s12, s13, s14, s15, s16] ∧ NO s5 ∧ g' = g) ⟨s5, rfl, n5, rfl⟩ ?_ ?_
  · rintro i d es g' K hd hK ⟨s5, rfl, n5, rfl⟩
    rw [List.getElem?_map] at hd
    obtain ⟨z, h1, rfl⟩ := Option.map_eq_some_iff.mp hd
    have sz := hz z (List.mem_of_getElem? h1)
    refine y_bind rfl n5 ?_
    show VL.wS fsL (.seq _ _) _ [.dat (.frz ns) 1, .dat (.obj p) 2, s2, .dat (.int a) 2, .dat (.int b) 2, .dat (.int z) 2, s6, s7, s8, s9, s10, s11, s12, s13, s14, s15, s16] _
    repeat' sizeOf_list_dec
    refine y_call rfl rfl (x_taken (c := dSum a b z) (r := dDig) rfl rfl rfl ok_dig (c_sum a b z) r_dig (.sum ha hb sz) ?_)
    repeat' sizeOf_list_dec
    · rename_i h
      rw [decide_eq_true rfl] at h
      cases h
    · exact hK _ _ ⟨_, rfl, trivial, rfl⟩
  · rintro es g' ⟨s5, rfl, n5, rfl⟩
    exact k s5 n5
/-- the loop over orders -/
theorem law_less {g : G} {nx rt bk ct} {s2 s5 s6 s7 s8 s9 s10 s11 s12 s13 s14 s15 s16 : Sl} {a b : Int} {y : CS} (hy : y = .seq (.ite (.cmp .ne (.call 2 (.cons (.tup (.cons (.str "less") (.cons (.var 6) (.cons (.var 15) .nil)))) (.cons (.tup (.cons (.str "digits") .nil)) .nil))) (.cmp .lt (.var 6) (.var 15))) (.seq (.ret (.bl false)) .nil) .nil) .nil)
    (n6 : NO s6) (n15 : NO s15) {zs : List (Int × Int)} (hz : ∀ z ∈ zs, smI z.1 ∧ smI z.2)
    (k : ∀ s6 s15, NO s6 → NO s15 → nx [.dat (.frz ns) 1, .dat (.obj p) 2, s2, .dat (.int a) 2, .dat (.int b) 2, s5, s6, s7, s8, s9, s10, s11, s12, s13, s14, s15, s16] g) : foL (.tup [6, 15]) 2 (VL.wS fsL y) (zs.map fun z => .tup [.int z.1, .int z.2]) ⟨nx, rt, bk, ct⟩ [.dat (.frz ns) 1, .dat (.obj p) 2, s2, .dat (.int a) 2, .dat (.int b) 2, s5, s6, s7, s8, s9, s10, s11, s12, s13, s14, s15, s16] g := by
  subst hy
  refine s_foL (fun i es g' => ∃ s6 s15, es = [.dat (.frz ns) 1, .dat (.obj p) 2, s2, .dat (.int a) 2, .dat (.int b) 2, s5, s6, s7, s8, s9, s10, s11, s12, s13, s14, s15, s16] ∧ NO s6 ∧ NO s15 ∧ g' = g) ⟨s6, s15, rfl, n6, n15, rfl⟩ ?_ ?_
  · rintro i d es g' K hd hK ⟨s6, s15, rfl, n6, n15, rfl⟩
    rw [List.getElem?_map] at hd
    obtain ⟨z, h1, rfl⟩ := Option.map_eq_some_iff.mp hd
    obtain ⟨z1, z2⟩ := hz z (List.mem_of_getElem? h1)
    refine y_bind2 rfl n6 rfl n15 ?_
    show VL.wS fsL (.seq _ _) _ [.dat (.frz ns) 1, .dat (.obj p) 2, s2, .dat (.int a) 2, .dat (.int b) 2, s5, .dat (.int z.1) 2, s7, s8, s9, s10, s11, s12, s13, s14, .dat (.int z.2) 2, s16] _
    repeat' sizeOf_list_dec
    refine y_call rfl rfl (x_taken (c := dLess z.1 z.2) (r := dDig) rfl rfl rfl ok_dig (c_less z.1 z.2) r_dig (.less z1 z2) ?_)
    repeat' sizeOf_list_dec
    · rename_i h
      rw [decide_eq_true rfl] at h
      cases h
    · exact hK _ _ ⟨_, _, rfl, trivial, trivial, rfl⟩
  · rintro es g' ⟨s6, s15, rfl, n6, n15, rfl⟩
    exact k s6 s15 n6 n15
/-- the loop over rows of primes -/
theorem law_rows {g : G} {nx rt bk ct} {s2 s6 s8 s11 s12 s13 s14 s15 s16 : Sl} {a b c : Int} {xs ys : List Int} {ps : List Nat} {y : CS} (hy : y = .seq (.ite (.cmp .ne (.call 2 (.cons (.tup (.cons (.str "dot") (.cons (.var 7) (.cons (.var 9) (.cons (.var 5) .nil))))) (.cons (.bin .add (.tup (.cons (.str "rests") .nil)) (.sq .tuple (.var 12))) .nil))) (.call 6 (.cons (.var 7) (.cons (.var 9) (.cons (.var 5) (.cons (.var 12) .nil)))))) (.seq (.ret (.bl false)) .nil) .nil) .nil)
    (n12 : NO s12) (h1 : xs.length < 10000) (h2 : ys.length < 10000) (h5 : ∀ x ∈ xs, smI x) (h6 : ∀ x ∈ ys, smI x) (h7 : smI c) {qs : List (List Int)} (hq : ∀ q ∈ qs, q.length < 64 ∧ ∀ x ∈ q, 0 ≤ x)
    (k : ∀ s12, NO s12 → nx [.dat (.frz ns) 1, .dat (.obj p) 2, s2, .dat (.int a) 2, .dat (.int b) 2, .dat (.int c) 2, s6, .dat (.tup (xs.map D.int)) 2, s8, .dat (.tup (ys.map D.int)) 2, .dat (.lst ((pzI ps).map D.int)) 2, s11, s12, s13, s14, s15, s16] g) : foL (.name 12) 2 (VL.wS fsL y) (qs.map fun q => .lst (q.map D.int)) ⟨nx, rt, bk, ct⟩ [.dat (.frz ns) 1, .dat (.obj p) 2, s2, .dat (.int a) 2, .dat (.int b) 2, .dat (.int c) 2, s6, .dat (.tup (xs.map D.int)) 2, s8, .dat (.tup (ys.map D.int)) 2, .dat (.lst ((pzI ps).map D.int)) 2, s11, s12, s13, s14, s15, s16] g := by
  subst hy
  refine s_foL (fun i es g' => ∃ s12, es = [.dat (.frz ns) 1, .dat (.obj p) 2, s2, .dat (.int a) 2, .dat (.int b) 2, .dat (.int c) 2, s6, .dat (.tup (xs.map D.int)) 2, s8, .dat (.tup (ys.map D.int)) 2, .dat (.lst ((pzI ps).map D.int)) 2, s11, s12, s13, s14, s15, s16] ∧ NO s12 ∧ g' = g) ⟨s12, rfl, n12, rfl⟩ ?_ ?_
  · rintro i d es g' K hd hK ⟨s12, rfl, n12, rfl⟩
    rw [List.getElem?_map] at hd
    obtain ⟨q, hq1, rfl⟩ := Option.map_eq_some_iff.mp hd
    obtain ⟨ql, q0⟩ := hq q (List.mem_of_getElem? hq1)
    obtain ⟨t, ht⟩ := iff_bool (Rests xs ys c q)
    refine y_bind rfl n12 ?_
    show VL.wS fsL (.seq _ _) _ [.dat (.frz ns) 1, .dat (.obj p) 2, s2, .dat (.int a) 2, .dat (.int b) 2, .dat (.int c) 2, s6, .dat (.tup (xs.map D.int)) 2, s8, .dat (.tup (ys.map D.int)) 2, .dat (.lst ((pzI ps).map D.int)) 2, s11, .dat (.lst (q.map D.int)) 2, s13, s14, s15, s16] _
    repeat' sizeOf_list_dec
    refine z_addT (tk_line (by omega)) ?_
    repeat' sizeOf_list_dec
    refine y_call rfl rfl (t_dot h1 h2 ql q0 h5 h6 h7 ht ?_)
    repeat' sizeOf_list_dec
    refine y_call rfl rfl ⟨xs, ys, c, q, t, rfl, h1, ql, h5, h6, ht, ?_⟩
    repeat' sizeOf_list_dec
    · rename_i h
      rw [decide_eq_true rfl] at h
      cases h
    · exact hK _ _ ⟨_, rfl, trivial, rfl⟩
  · rintro es g' ⟨s12, rfl, n12, rfl⟩
    exact k s12 n12
/-- the loop over other sums -/
theorem law_other {g : G} {nx rt bk ct} {s2 s6 s8 s11 s12 s13 s14 s15 s16 : Sl} {a b c : Int} {xs ys : List Int} {ps : List Nat} {y : CS} (hy : y = .seq (.ite (.cmp .ne (.call 2 (.cons (.tup (.cons (.str "dot") (.cons (.var 7) (.cons (.var 9) (.cons (.var 15) .nil))))) (.cons (.bin .add (.tup (.cons (.str "rests") .nil)) (.sq .tuple (.var 10))) .nil))) (.call 6 (.cons (.var 7) (.cons (.var 9) (.cons (.var 15) (.cons (.var 10) .nil)))))) (.seq (.ret (.bl false)) .nil) .nil) .nil)
    (n15 : NO s15) (h1 : xs.length < 10000) (h2 : ys.length < 10000) (h5 : ∀ x ∈ xs, smI x) (h6 : ∀ x ∈ ys, smI x) (hp : ps.length < 64) {zs : List Int} (hz : ∀ z ∈ zs, smI z)
    (k : ∀ s15, NO s15 → nx [.dat (.frz ns) 1, .dat (.obj p) 2, s2, .dat (.int a) 2, .dat (.int b) 2, .dat (.int c) 2, s6, .dat (.tup (xs.map D.int)) 2, s8, .dat (.tup (ys.map D.int)) 2, .dat (.lst ((pzI ps).map D.int)) 2, s11, s12, s13, s14, s15, s16] g) : foL (.name 15) 2 (VL.wS fsL y) (zs.map D.int) ⟨nx, rt, bk, ct⟩ [.dat (.frz ns) 1, .dat (.obj p) 2, s2, .dat (.int a) 2, .dat (.int b) 2, .dat (.int c) 2, s6, .dat (.tup (xs.map D.int)) 2, s8, .dat (.tup (ys.map D.int)) 2, .dat (.lst ((pzI ps).map D.int)) 2, s11, s12, s13, s14, s15, s16] g := by
  subst hy
  refine s_foL (fun i es g' => ∃ s15, es = [.dat (.frz ns) 1, .dat (.obj p) 2, s2, .dat (.int a) 2, .dat (.int b) 2, .dat (.int c) 2, s6, .dat (.tup (xs.map D.int)) 2, s8, .dat (.tup (ys.map D.int)) 2, .dat (.lst ((pzI ps).map D.int)) 2, s11, s12, s13, s14, s15, s16] ∧ NO s15 ∧ g' = g) ⟨s15, rfl, n15, rfl⟩ ?_ ?_
  · rintro i d es g' K hd hK ⟨s15, rfl, n15, rfl⟩
    rw [List.getElem?_map] at hd
    obtain ⟨z, hz1, rfl⟩ := Option.map_eq_some_iff.mp hd
    have sz := hz z (List.mem_of_getElem? hz1)
    obtain ⟨t, ht⟩ := iff_bool (Rests xs ys z (pzI ps))
    refine y_bind rfl n15 ?_
    show VL.wS fsL (.seq _ _) _ [.dat (.frz ns) 1, .dat (.obj p) 2, s2, .dat (.int a) 2, .dat (.int b) 2, .dat (.int c) 2, s6, .dat (.tup (xs.map D.int)) 2, s8, .dat (.tup (ys.map D.int)) 2, .dat (.lst ((pzI ps).map D.int)) 2, s11, s12, s13, s14, .dat (.int z) 2, s16] _
    repeat' sizeOf_list_dec
    refine z_addT (tk_line (by rw [len_pz]; omega)) ?_
    repeat' sizeOf_list_dec
    refine y_call rfl rfl (t_dot h1 h2 (by rw [len_pz]; exact hp) pz_ge h5 h6 sz ht ?_)
    repeat' sizeOf_list_dec
    refine y_call rfl rfl ⟨xs, ys, z, pzI ps, t, rfl, h1, by rw [len_pz]; exact hp, h5, h6, ht, ?_⟩
    repeat' sizeOf_list_dec
    · rename_i h
      rw [decide_eq_true rfl] at h
      cases h
    · exact hK _ _ ⟨_, rfl, trivial, rfl⟩
  · rintro es g' ⟨s15, rfl, n15, rfl⟩
    exact k s15 n15
end T
namespace T
open PySem PySem.Spec PyProof.Rows VL
local macro_rules | `(tactic| sizeOf_list_dec) => `(tactic| first
  | with_reducible refine x_int ?_ | with_reducible refine x_bl ?_ | with_reducible refine x_non ?_ | with_reducible refine x_str ?_ | with_reducible refine x_glo ?_ | with_reducible refine x_bin ?_ | with_reducible refine x_neg ?_ | with_reducible refine x_not ?_ | with_reducible refine x_cmp ?_ | with_reducible refine x_chain ?_ | with_reducible refine x_and ?_ | with_reducible refine x_or ?_ | with_reducible refine x_ite ?_ | with_reducible refine x_tup ?_ | with_reducible refine x_lst ?_ | with_reducible refine x_ix ?_ | with_reducible refine x_sq ?_ | with_reducible refine x_bi ?_ | with_reducible refine x_isi ?_ | with_reducible refine x_call ?_ | with_reducible refine x_sl ?_ | with_reducible refine x_ext ?_
  | with_reducible refine x_anil ?_ | with_reducible refine x_acons ?_ | with_reducible refine x_slst ?_ | with_reducible refine x_stup ?_ | with_reducible refine x_ono ?_ | with_reducible refine x_osome ?_ | with_reducible refine s_seqE ?_ | with_reducible refine s_seq ?_ | with_reducible refine s_asg ?_ | with_reducible refine s_own ?_ | with_reducible refine s_ret ?_ | with_reducible refine s_retN ?_ | with_reducible refine s_brk ?_ | with_reducible refine s_cont ?_ | with_reducible refine s_pas ?_ | with_reducible refine s_if ?_ | with_reducible refine s_for ?_ | with_reducible refine s_exp ?_ | with_reducible refine s_unp ?_ | with_reducible refine s_par ?_ | with_reducible refine s_parN ?_ | with_reducible refine s_parO ?_ | with_reducible refine x_jrng1 ?_ | with_reducible refine x_jrngd ?_ | with_reducible refine x_irng1 ?_ | with_reducible refine x_irngd ?_ | with_reducible refine x_jit ?_ | with_reducible refine x_iit ?_ | with_reducible refine s_nilE ?_ | with_reducible refine s_nil ?_ | with_reducible refine s_ext ?_ | with_reducible refine s_gfor ?_ | with_reducible refine s_gapp ?_
  | ((with_reducible apply x_var); · rfl) | ((with_reducible apply x_varo); · rfl) | ((with_reducible apply x_vvar); · rfl) | ((with_reducible apply x_vown); · rfl) | ((with_reducible apply x_v); · rfl) | ((with_reducible apply x_qlst); · rfl) | ((with_reducible apply x_qtup); · rfl) | ((with_reducible apply x_qown); · rfl) | ((with_reducible apply x_q); · rfl) | ((with_reducible apply s_augP); · rfl) | ((with_reducible apply s_augM); · rfl) | ((with_reducible apply s_app); · rfl) | ((with_reducible apply s_frz); · rfl)
  | with_reducible refine z_len ?_ | with_reducible refine z_add ?_ | with_reducible refine z_sub ?_ | with_reducible refine z_lt ?_ | with_reducible refine z_le ?_ | with_reducible refine z_gt ?_ | with_reducible refine z_ge ?_ | with_reducible refine z_eq ?_ | with_reducible refine z_ne ?_ | with_reducible refine z_eqB ?_ | with_reducible refine z_neB ?_ | ((with_reducible apply z_eqST); (focus decide +kernel)) | ((with_reducible apply z_eqSF); (focus decide +kernel)) | with_reducible refine z_eqS ?_ | with_reducible refine y_int ?_
  | with_reducible refine z_absI ?_ | with_reducible refine z_max ?_ | with_reducible refine z_min ?_ | with_reducible refine z_tuple ?_ | with_reducible refine z_list ?_ | with_reducible refine z_int1 ?_
  | ((with_reducible apply x_lcn); (focus rfl); (focus first | exact trivial | assumption)) | ((with_reducible apply y_bind); (focus rfl); (focus first | exact trivial | assumption); (try dsimp only [List.set_cons_zero, List.set_cons_succ]))
  | ((with_reducible apply y_lenL); (focus rfl)) | with_reducible refine y_tblNT ?_ | with_reducible refine y_tblNF ?_ | with_reducible refine y_blNT ?_ | with_reducible refine y_blNF ?_ | with_reducible refine y_tblT ?_ | with_reducible refine y_tblF ?_ | with_reducible refine y_blT ?_ | with_reducible refine y_blF ?_
  | with_reducible refine y_bl (fun hk => ?_) (fun hk => ?_) | with_reducible refine y_tbl (fun hk => ?_) (fun hk => ?_) | ((with_reducible refine y_tru ?_); (try dsimp only))
  | ((with_reducible apply y_set); (focus exact Nat.le_of_ble_eq_true rfl); (try dsimp only [List.set_cons_zero, List.set_cons_succ])) | ((with_reducible apply y_2); (focus exact Nat.le_of_ble_eq_true rfl); (focus exact Nat.le_of_ble_eq_true rfl); (try dsimp only [List.set_cons_zero, List.set_cons_succ])) | ((with_reducible apply y_ownN); (focus exact Nat.le_of_ble_eq_true rfl); (focus exact Nat.le_of_ble_eq_true rfl); (try dsimp only [List.set_cons_zero, List.set_cons_succ])) | ((with_reducible apply y_N2); (focus exact Nat.le_of_ble_eq_true rfl); (focus exact Nat.le_of_ble_eq_true rfl); (focus exact Nat.le_of_ble_eq_true rfl); (try dsimp only [List.set_cons_zero, List.set_cons_succ])))
theorem sm_add {x y : Int} (hx : x.natAbs < 2 ^ 4000) (hy : y.natAbs < 2 ^ 4000) : smI (x + y) ∧ smI (x - y) ∧ smI (-x - y) ∧ smI (x + y + 1) := by
  have e : (2 : Nat) ^ 4002 = 4 * 2 ^ 4000 := by decide +kernel
  have l : (2 : Nat) ^ 4002 < 10000 ^ 1000 := by decide +kernel
  have p : 0 < (2 : Nat) ^ 4000 := by decide +kernel
  unfold smI
  generalize (2 : Nat) ^ 4000 = A at *
  generalize (2 : Nat) ^ 4002 = B at *
  generalize (10000 : Nat) ^ 1000 = C at *
  refine ⟨?_, ?_, ?_, ?_⟩ <;> omega
theorem up80 {z : Int} (h : z.natAbs < 2 ^ 80) : z.natAbs < 2 ^ 4000 := Nat.lt_of_lt_of_le h (by decide +kernel)
theorem mapI_snoc (zs : List Int) (x : Int) : (zs ++ [x]).map D.int = zs.map D.int ++ [D.int x] := by rw [List.map_append]; rfl
theorem r0 : Rests [] [] 0 [] := by
  rw [rests_iff]
  refine ⟨rfl, List.Pairwise.nil, (fun p h => nomatch h), ?_⟩
  decide +kernel
theorem r1 : ¬ Rests [] [] 1 [1009] := by
  rw [rests_iff]
  intro h
  have := (h.2.2.1 1009 List.mem_cons_self).2.2.2
  revert this
  decide +kernel
theorem no_trial {z : Int} (h : ¬ (0 ≤ z ∧ z < 1000000)) : (false = true ↔ 0 ≤ z ∧ Trial z.toNat) := by
  constructor
  · intro z; cases z
  · rintro ⟨h1, h2⟩
    have := h2.2.1
    omega
theorem t_prime {z : Int} {b : Bool} {g : G} {R : Pd G} (hb : b = true ↔ 0 ≤ z ∧ Trial z.toNat) (q : R (.bl b) 2 g) : wf_law_taken [dPrime z, dTrial] g R := x_taken rfl rfl rfl ok_trial (c_prime z) r_trial (.prime hb) q
theorem sp_law : ∀ (ds : List D) (g : G) (Pq : Pd G), ds.length = 1 → wf_law ds g Pq → VL.wS fsL cs_law (endP Pq) (env0 ck_law.N.length ds) g := by
  rintro ds g Q _ ⟨ns, rfl, hQ⟩
  show VL.wS fsL (.seq _ _) _ [.dat (.frz ns) 1, .no, .no, .no, .no, .no, .no, .no, .no, .no, .no, .no, .no, .no, .no, .no, .no] _
  repeat' sizeOf_list_dec
  refine y_call rfl rfl ⟨ns, rfl, fun p g1 d0 => ?_⟩
  repeat' sizeOf_list_dec
  refine ⟨⟨by decide, by decide⟩, y_for (l := 2) (by decide) ?_⟩
  refine s_foL (fun i es g' => ∃ (s2 s3 s4 s5 s6 s7 s8 s9 s10 s11 s12 s13 s14 s15 s16 : Sl) (n : Nat), es = [.dat (.frz ns) 1, .dat (.obj p) 2, s2, s3, s4, s5, s6, s7, s8, s9, s10, s11, s12, s13, s14, s15, s16] ∧ (NO s2 ∧ NO s3 ∧ NO s4 ∧ NO s5 ∧ NO s6 ∧ NO s7 ∧ NO s8 ∧ NO s9 ∧ NO s10 ∧ NO s11 ∧ NO s12 ∧ NO s13 ∧ NO s14 ∧ NO s15 ∧ NO s16) ∧ n ≤ 1000 * i ∧ Dr p n g') ⟨.no, .no, .no, .no, .no, .no, .no, .no, .no, .no, .no, .no, .no, .no, .no, 0, rfl, ⟨trivial, trivial, trivial, trivial, trivial, trivial, trivial, trivial, trivial, trivial, trivial, trivial, trivial, trivial, trivial⟩, by omega, d0⟩ ?_ ?_
  · rintro i d es g2 K hd hK ⟨s2, s3, s4, s5, s6, s7, s8, s9, s10, s11, s12, s13, s14, s15, s16, n, rfl, ⟨n2, n3, n4, n5, n6, n7, n8, n9, n10, n11, n12, n13, n14, n15, n16⟩, hn, d2⟩
    have hi : i < 8 := by
      have := (List.getElem?_eq_some_iff.mp hd).1
      rw [rngD_len] at this
      exact this
    have hK' : ∀ (s2 s3 s4 s5 s6 s7 s8 s9 s10 s11 s12 s13 s14 s15 s16 : Sl) (n' : Nat) (g' : G), NO s2 ∧ NO s3 ∧ NO s4 ∧ NO s5 ∧ NO s6 ∧ NO s7 ∧ NO s8 ∧ NO s9 ∧ NO s10 ∧ NO s11 ∧ NO s12 ∧ NO s13 ∧ NO s14 ∧ NO s15 ∧ NO s16 → n' ≤ n + 100 → Dr p n' g' → K [.dat (.frz ns) 1, .dat (.obj p) 2, s2, s3, s4, s5, s6, s7, s8, s9, s10, s11, s12, s13, s14, s15, s16] g' := fun s2 s3 s4 s5 s6 s7 s8 s9 s10 s11 s12 s13 s14 s15 s16 n' g' h1 h2 h3 => hK _ _ ⟨s2, s3, s4, s5, s6, s7, s8, s9, s10, s11, s12, s13, s14, s15, s16, n', rfl, h1, by omega, h3⟩
    clear hK
    refine y_bind rfl n2 ?_
    show VL.wS fsL (.seq _ _) _ [.dat (.frz ns) 1, .dat (.obj p) 2, .dat d 2, s3, s4, s5, s6, s7, s8, s9, s10, s11, s12, s13, s14, s15, s16] _
    generalize hs2 : Sl.dat d 2 = s2 
    have n2 : NO s2 := by rw [← hs2]; trivial
    clear hs2
    repeat' sizeOf_list_dec
    refine y_call rfl rfl ⟨p, n, rfl, by omega, d2, fun a n1 g3 k1 za d3 _ => ?_⟩
    repeat' sizeOf_list_dec
    refine y_call rfl rfl ⟨p, n1, rfl, by omega, d3, fun b n2' g4 k2 zb d4 _ => ?_⟩
    repeat' sizeOf_list_dec
    obtain ⟨sm1, sm2, sm3, sm4⟩ := sm_add (up80 za) (up80 zb)
    refine y_for (l := 2) (by decide) ?_
    show foL (.name 5) 2 _ ([a + b, a + b + 1, a - b, -a - b].map D.int) _ _ _
    refine law_sums rfl n5 (sm80 za) (sm80 zb) (fun z hz => ?_) fun s5 n5 => ?_
    · simp only [List.mem_cons, List.not_mem_nil, or_false] at hz
      rcases hz with rfl | rfl | rfl | rfl
      · exact sm1
      · exact sm4
      · exact sm2
      · exact sm3
    have sa1 : smI (a + 1) := by
      have := (sm_add (up80 za) (y := 1) (by decide +kernel)).1
      exact this
    have san : smI (-a) := by show (-a).natAbs < _; rw [Int.natAbs_neg]; exact sm80 za
    repeat' sizeOf_list_dec
    refine y_for (l := 2) (by decide) ?_
    show foL (.tup [6, 15]) 2 _ ([(a, b), (b, a), (a, a), (a, a + 1), (-a, a)].map fun z => D.tup [.int z.1, .int z.2]) _ _ _
    refine law_less rfl n6 n15 (fun z hz => ?_) fun s6 s15 n6 n15 => ?_
    · simp only [List.mem_cons, List.not_mem_nil, or_false] at hz
      rcases hz with rfl | rfl | rfl | rfl | rfl
      · exact ⟨sm80 za, sm80 zb⟩
      · exact ⟨sm80 zb, sm80 za⟩
      · exact ⟨sm80 za, sm80 za⟩
      · exact ⟨sm80 za, sa1⟩
      · exact ⟨san, sm80 za⟩
    repeat' sizeOf_list_dec
    refine y_call rfl rfl ⟨p, n2', _, rfl, by decide, by omega, d4, fun k g5 k0 k1' d5 _ => ?_⟩
    refine ⟨k, rfl, ⟨by omega, by omega⟩, ?_⟩
    refine y_lcS (fun i acc g' => ∃ zs : List Int, acc = zs.map D.int ∧ (∀ z ∈ zs, z.natAbs < 2 ^ 80) ∧ ∃ n', n' ≤ n2' + 1 + 6 * i ∧ Dr p n' g') 2 (by decide) rfl (line6 (by rw [rngD_len]; omega)) ⟨[], rfl, (fun z h => nomatch h), n2' + 1, by omega, d5⟩ ?_ ?_
    · rintro i d acc g6 K hd ⟨zs, rfl, hz, n3, h3, d6⟩ hk
      have hi : i < 4 := by
        have := (List.getElem?_eq_some_iff.mp hd).1
        rw [rngD_len] at this
        omega
      show VL.wE fsL _ [.dat (.frz ns) 1, .dat (.obj p) 2, s2, .dat (.int a) 2, .dat (.int b) 2, s5, s6, s7, .dat d 2, s9, s10, s11, s12, s13, s14, s15, s16] _ _
      repeat' sizeOf_list_dec
      refine y_call rfl rfl ⟨p, n3, rfl, by omega, d6, fun z n4 g7 h4 z80 d7 _ => ?_⟩
      refine hk _ _ ⟨zs ++ [z], (mapI_snoc zs z).symm, fun y hy => ?_, n4, by omega, d7⟩
      rcases List.mem_append.mp hy with hy | hy
      · exact hz y hy
      · rw [List.mem_singleton] at hy
        rw [hy]
        exact z80
    rintro acc g6 hl ⟨xs, rfl, hx, n3', h3, d6⟩
    rw [List.length_map, rngD_len] at hl
    rw [rngD_len] at h3
    have lv : (if rngD 0 k = [] then 2 else 2) = 2 := by split <;> rfl
    rw [lv]
    repeat' sizeOf_list_dec
    refine y_lcS (fun i acc g' => ∃ zs : List Int, acc = zs.map D.int ∧ (∀ z ∈ zs, z.natAbs < 2 ^ 80) ∧ ∃ n', n' ≤ n3' + 6 * i ∧ Dr p n' g') 2 (by decide) rfl (line6 (by rw [lmI]; omega)) ⟨[], rfl, (fun z h => nomatch h), n3', by omega, d6⟩ ?_ ?_
    · rintro i d acc g6 K hd ⟨zs, rfl, hz, n4, h4, d6⟩ hk
      have hi : i < 4 := by
        have := (List.getElem?_eq_some_iff.mp hd).1
        rw [lmI] at this
        omega
      show VL.wE fsL _ [.dat (.frz ns) 1, .dat (.obj p) 2, s2, .dat (.int a) 2, .dat (.int b) 2, s5, .dat d 2, .dat (.tup (xs.map D.int)) 2, s8, s9, s10, s11, s12, s13, s14, s15, s16] _ _
      repeat' sizeOf_list_dec
      refine y_call rfl rfl ⟨p, n4, rfl, by omega, d6, fun z n5 g7 h5 z80 d7 _ => ?_⟩
      refine hk _ _ ⟨zs ++ [z], (mapI_snoc zs z).symm, fun y hy => ?_, n5, by omega, d7⟩
      rcases List.mem_append.mp hy with hy | hy
      · exact hz y hy
      · rw [List.mem_singleton] at hy
        rw [hy]
        exact z80
    rintro acc g7 hl2 ⟨ys, rfl, hy, n4', h4, d7⟩
    rw [lmI, lmI] at hl2
    rw [lmI] at h4
    have lv : (if xs.map D.int = [] then 2 else 2) = 2 := by split <;> rfl
    rw [lv]
    have sx : ∀ x ∈ xs, smI x := fun x h => sm80 (hx x h)
    have sy : ∀ x ∈ ys, smI x := fun x h => sm80 (hy x h)
    have x3 : xs.length ≤ 3 := by omega
    have cle := dotZ_le x3 hx hy
    have c4 : (dotZ xs ys).natAbs < 2 ^ 4000 := Nat.lt_of_le_of_lt cle (by decide +kernel)
    have sc : smI (dotZ xs ys) := smB (Nat.lt_trans c4 (by decide +kernel))
    have ble := bnd_le x3 hx hy cle
    repeat' sizeOf_list_dec
    refine y_call rfl rfl ⟨xs, ys, rfl, by omega, by omega, fun i => sm_mul (smI_getD sx i) (smI_getD sy i), ?_⟩
    repeat' sizeOf_list_dec
    refine y_call rfl rfl ⟨xs, ys, _, rfl, by omega, by omega, sx, sy, ?_⟩
    repeat' sizeOf_list_dec
    refine y_call rfl rfl ⟨p, n4', _, rfl, ble, by omega, d7, fun ps g8 pok d8 _ => ?_⟩
    rw [natT_eq]
    have rok := ps_rests (by omega) pok
    have pl := pok.len
    generalize hc : dotZ xs ys = c at *
    repeat' sizeOf_list_dec
    refine z_addT (tk_line (by rw [len_pz]; omega)) ?_
    repeat' sizeOf_list_dec
    refine y_call rfl rfl (t_dot (b := true) (by omega) (by omega) (by rw [len_pz]; omega) pz_ge sx sy sc (iff_of_true rfl rok) ?_)
    repeat' sizeOf_list_dec
    refine z_isntB ?_
    rw [decide_eq_true (rfl : true = true)]
    repeat' sizeOf_list_dec
    rw [if_neg Bool.false_ne_true, cut_but, lmI, ← List.map_take]
    repeat' sizeOf_list_dec
    refine z_addL (by rw [lmI, len_pz, sizeLine_eq]; show _ + 1 ≤ _; omega) ?_
    rw [← mapI_snoc]
    repeat' sizeOf_list_dec
    refine z_addL (by rw [lmI, len_pz, sizeLine_eq]; show _ + 1 ≤ _; omega) ?_
    rw [← mapI_snoc]
    repeat' sizeOf_list_dec
    refine x_rev ?_
    repeat' sizeOf_list_dec
    refine ⟨rfl, ?_⟩
    rw [← List.map_reverse]
    repeat' sizeOf_list_dec
    rw [if_neg Bool.false_ne_true, cut_last, lmI, ← List.map_drop]
    refine z_addL (by rw [lmI, lmI, List.length_drop, len_pz, sizeLine_eq]; omega) ?_
    rw [← List.map_append]
    repeat' sizeOf_list_dec
    refine z_addL (by rw [lmI, len_pz, sizeLine_eq]; show 1 + _ ≤ _; omega) ?_
    repeat' sizeOf_list_dec
    refine z_addL (by rw [lmI, len_pz, sizeLine_eq]; show 1 + _ ≤ _; omega) ?_
    repeat' sizeOf_list_dec
    refine z_addL (by rw [lmI, len_pz, sizeLine_eq]; show _ + 1 ≤ _; omega) ?_
    rw [← mapI_snoc]
    repeat' sizeOf_list_dec
    refine y_for (l := 2) (by decide) ?_
    show foL (.name 12) 2 _ ([(pzI ps).take ((pzI ps).length - 1), pzI ps ++ [1000003], pzI ps ++ [1001], (pzI ps).reverse, pzI ps ++ (pzI ps).drop ((pzI ps).length - 1), 997 :: pzI ps, 1003 :: pzI ps, pzI ps ++ [999983]].map fun q => D.lst (q.map D.int)) _ _ _
    refine law_rows rfl n12 (by omega) (by omega) sx sy sc (fun q hq => ?_) fun s12 n12 => ?_
    · have lp := len_pz ps
      have ge := pz_ge (ps := ps)
      simp only [List.mem_cons, List.not_mem_nil, or_false] at hq
      have ap : ∀ z : Int, 0 ≤ z → (pzI ps ++ [z]).length < 64 ∧ ∀ x ∈ pzI ps ++ [z], 0 ≤ x := fun z hz => ⟨by rw [List.length_append, lp]; show _ + 1 < 64; omega, fun x hx => by
        rcases List.mem_append.mp hx with hx | hx
        · exact ge x hx
        · rw [List.mem_singleton] at hx; omega⟩
      have co : ∀ z : Int, 0 ≤ z → (z :: pzI ps).length < 64 ∧ ∀ x ∈ z :: pzI ps, 0 ≤ x := fun z hz => ⟨by rw [List.length_cons, lp]; omega, fun x hx => by
        rcases List.mem_cons.mp hx with hx | hx
        · omega
        · exact ge x hx⟩
      rcases hq with rfl | rfl | rfl | rfl | rfl | rfl | rfl | rfl
      · exact ⟨by rw [List.length_take]; omega, fun x hx => ge x (List.mem_of_mem_take hx)⟩
      · exact ap _ (by decide)
      · exact ap _ (by decide)
      · exact ⟨by rw [List.length_reverse]; omega, fun x hx => ge x (List.mem_reverse.mp hx)⟩
      · refine ⟨by rw [List.length_append, List.length_drop]; omega, fun x hx => ?_⟩
        rcases List.mem_append.mp hx with hx | hx
        · exact ge x hx
        · exact ge x (List.mem_of_mem_drop hx)
      · exact co _ (by decide)
      · exact co _ (by decide)
      · exact ap _ (by decide)
    repeat' sizeOf_list_dec
    rw [if_neg Bool.false_ne_true, cut_but, lmI, ← List.map_take]
    refine y_for (l := 2) (by decide) ?_
    have tl : ((pzI ps).take ((pzI ps).length - 1)).length ≤ 30 := by rw [List.length_take, len_pz]; omega
    have tb : ∀ x ∈ (pzI ps).take ((pzI ps).length - 1), 0 ≤ x ∧ x ≤ 1000000 := fun x hx => by
      obtain ⟨q, hq, rfl⟩ := List.mem_map.mp (List.mem_of_mem_take hx)
      have := (pok.prm q hq).2.2
      omega
    generalize (pzI ps).take ((pzI ps).length - 1) = ts at tl tb
    refine s_foL (fun i es g' => ∃ (w : Nat) (s11 s14 : Sl), es = [.dat (.frz ns) 1, .dat (.obj p) 2, s2, .dat (.int a) 2, .dat (.int b) 2, .dat (.int c) 2, s6, .dat (.tup (xs.map D.int)) 2, s8, .dat (.tup (ys.map D.int)) 2, .dat (.lst ((pzI ps).map D.int)) 2, s11, s12, .dat (.int (w : Nat)) 2, s14, s15, s16] ∧ NO s11 ∧ NO s14 ∧ w ≤ 1000000 ^ i ∧ g' = g8) ⟨1, _, s14, rfl, trivial, n14, Nat.le_refl _, rfl⟩ ?_ ?_
    · rintro i d es g9 K2 hd hK2 ⟨w, s11, s14, rfl, n11, n14, hw, rfl⟩
      rw [List.getElem?_map] at hd
      obtain ⟨q, hq, rfl⟩ := Option.map_eq_some_iff.mp hd
      have il : i < 30 := by
        have := (List.getElem?_eq_some_iff.mp hq).1
        omega
      obtain ⟨q0, q1⟩ := tb q (List.mem_of_getElem? hq)
      obtain ⟨r, rfl⟩ : ∃ r : Nat, q = r := ⟨q.toNat, by omega⟩
      refine y_bind rfl n14 ?_
      show VL.wS fsL (.seq _ _) _ [.dat (.frz ns) 1, .dat (.obj p) 2, s2, .dat (.int a) 2, .dat (.int b) 2, .dat (.int c) 2, s6, .dat (.tup (xs.map D.int)) 2, s8, .dat (.tup (ys.map D.int)) 2, .dat (.lst ((pzI ps).map D.int)) 2, s11, s12, .dat (.int (w : Nat)) 2, .dat (.int (r : Nat)) 2, s15, s16] _
      repeat' sizeOf_list_dec
      have w30 : w ≤ 1000000 ^ 30 := Nat.le_trans hw (Nat.pow_le_pow_right (by decide) (by omega))
      refine z_mul (mulW (k := 700) (l := 30) (Nat.lt_of_le_of_lt w30 (by decide +kernel)) (by show r < 1073741824; omega) (by decide)) ?_
      repeat' sizeOf_list_dec
      refine hK2 _ _ ⟨w * r, s11, .dat (.int (r : Nat)) 2, by rw [Int.natCast_mul], n11, trivial, ?_, rfl⟩
      rw [Nat.pow_succ]
      exact Nat.mul_le_mul hw (by omega)
    · rintro es g9 ⟨w, s11, s14, rfl, n11, n14, hw, rfl⟩
      have w30 : w ≤ 1000000 ^ 30 := Nat.le_trans hw (Nat.pow_le_pow_right (by decide) (by rw [lmI]; exact tl))
      have w4 : ((w : Nat) : Int).natAbs < 2 ^ 4000 := Nat.lt_of_le_of_lt w30 (by decide +kernel)
      clear hw w30 tb tl
      repeat' sizeOf_list_dec
      refine y_for (l := 2) (by decide) ?_
      show foL (.name 15) 2 _ ([c + 1, c + (w : Nat), c - (w : Nat), -c].map D.int) _ _ _
      obtain ⟨q1, q2, _, _⟩ := sm_add c4 w4
      refine law_other rfl n15 (by omega) (by omega) sx sy (by omega) (fun z hz => ?_) fun s15 n15 => ?_
      · simp only [List.mem_cons, List.not_mem_nil, or_false] at hz
        rcases hz with rfl | rfl | rfl | rfl
        · exact (sm_add c4 (y := 1) (by decide +kernel)).1
        · exact q1
        · exact q2
        · show (-c).natAbs < _
          rw [Int.natAbs_neg]
          exact sc
      repeat' sizeOf_list_dec
      refine z_addT (by rw [lmI, sizeLine_eq]; show _ + 1 ≤ _; omega) ?_
      repeat' sizeOf_list_dec
      refine z_addT (tk_line (by rw [len_pz]; omega)) ?_
      repeat' sizeOf_list_dec
      have ex : (xs.map D.int ++ [D.int 1]) = (xs ++ [1]).map D.int := (mapI_snoc xs 1).symm
      rw [ex]
      have lx1 : (xs ++ [1]).length = xs.length + 1 := by rw [List.length_append]; rfl
      have sx1 : ∀ x ∈ xs ++ [1], smI x := fun x hx => by
        rcases List.mem_append.mp hx with hx | hx
        · exact sx x hx
        · rw [List.mem_singleton] at hx
          rw [hx]
          exact sm80 (by decide +kernel)
      refine y_call rfl rfl (t_dot (b := false) (by omega) (by omega) (by rw [len_pz]; omega) pz_ge sx1 sy sc ⟨(fun z => nomatch z), fun z => by have := z.1; omega⟩ ?_)
      repeat' sizeOf_list_dec
      refine z_isntB ?_
      rw [decide_eq_true (rfl : false = false)]
      repeat' sizeOf_list_dec
      refine y_call rfl rfl (x_taken (c := dSum a b (a + b)) (r := dRests []) rfl rfl rfl (ok_rests []) (c_sum a b (a + b)) (r_rests fun p h => nomatch h) .nodot ?_)
      repeat' sizeOf_list_dec
      refine z_isntB ?_
      rw [decide_eq_true (rfl : false = false)]
      repeat' sizeOf_list_dec
      refine y_call rfl rfl ⟨p, _, _, rfl, by decide, by omega, d8, fun k3 g10 e0 e1 d9 _ => ?_⟩
      repeat' sizeOf_list_dec
      refine y_call rfl rfl ⟨p, _, _, rfl, by decide, by omega, d9, fun k4 g11 e2 e3 d10 _ => ?_⟩
      repeat' sizeOf_list_dec
      refine y_call rfl rfl ⟨p, _, _, rfl, by show 0 < 3; decide, by omega, d10, fun j g12 ej d11 _ => ?_⟩
      obtain ⟨z, hz, z0, z1⟩ : ∃ z : Int, [D.int k3, .int k4, .int (999983 - 2)].getD j .non = .int z ∧ 0 ≤ z ∧ z < 999998 := by
        match j, ej with
        | 0, _ => exact ⟨_, rfl, e0, by omega⟩
        | 1, _ => exact ⟨_, rfl, e2, e3⟩
        | 2, _ => exact ⟨_, rfl, by decide, by decide⟩
      rw [hz]
      repeat' sizeOf_list_dec
      obtain ⟨t, ht⟩ := iff_bool (0 ≤ 2 + z ∧ Trial (2 + z).toNat)
      refine y_call rfl rfl (t_prime ht ?_)
      repeat' sizeOf_list_dec
      refine y_call rfl rfl ⟨2 + z, t, rfl, by omega, ht, ?_⟩
      refine z_neB ?_
      rw [decide_eq_true (rfl : t = t)]
      repeat' sizeOf_list_dec
      refine y_call rfl rfl (t_prime (b := false) (no_trial (by omega)) ?_)
      repeat' sizeOf_list_dec
      refine z_isntB ?_
      rw [decide_eq_true (rfl : false = false)]
      repeat' sizeOf_list_dec
      exact hK' _ _ _ _ _ _ _ _ _ _ _ _ _ _ _ _ _ (by refine ⟨?_, ?_, ?_, ?_, ?_, ?_, ?_, ?_, ?_, ?_, ?_, ?_, ?_, ?_, ?_⟩ <;> first | assumption | trivial) (by omega) d11
  · rintro es g2 ⟨s2, s3, s4, s5, s6, s7, s8, s9, s10, s11, s12, s13, s14, s15, s16, n, rfl, ⟨n2, n3, n4, n5, n6, n7, n8, n9, n10, n11, n12, n13, n14, n15, n16⟩, hn, d2⟩
    repeat' sizeOf_list_dec
    refine y_call rfl rfl (t_dot (xs := []) (ys := []) (ps := []) (c := 0) (b := true) (by decide) (by decide) (by decide) (fun p h => nomatch h) (fun p h => nomatch h) (fun p h => nomatch h) (sm80 (by decide +kernel)) (iff_of_true rfl r0) ?_)
    repeat' sizeOf_list_dec
    refine y_call rfl rfl (t_dot (xs := []) (ys := []) (ps := [1009]) (c := 1) (b := false) (by decide) (by decide) (by decide) (by decide) (fun p h => nomatch h) (fun p h => nomatch h) (sm80 (by decide +kernel)) ⟨(fun z => nomatch z), fun z => absurd z r1⟩ ?_)
    repeat' sizeOf_list_dec
    refine y_call rfl rfl (t_prime (z := 1000003) (b := false) (no_trial (by omega)) ?_)
    repeat' sizeOf_list_dec
    refine y_call rfl rfl ⟨[true, false, false], rfl, by decide, ?_⟩
    repeat' sizeOf_list_dec
    refine y_call rfl rfl ⟨_, _, rfl, .none, ?_⟩
    repeat' sizeOf_list_dec
    refine z_isN ?_
    repeat' sizeOf_list_dec
    refine y_call rfl rfl ⟨_, _, rfl, .list, ?_⟩
    repeat' sizeOf_list_dec
    · refine y_call rfl rfl ⟨_, _, rfl, .int, ?_⟩
      repeat' sizeOf_list_dec
      exact hQ _
    · rename_i h
      exact absurd h (by decide)
end T
/-! Val: what the top leaves; the defs' promises joined. -/
namespace VL
open PySem PySem.Spec PyProof.Rows L2

/-! ### data in the written part -/
mutual
theorem datB_ok {K : PySem.W.Frag} : ∀ {d : D} {u : Value}, datB K d u = true → ∃ v, RelV v u ∧ ∀ (H : Hp) (Z : Addr → Prop), Rp K H Z d v
  | .non, u, h => by
    cases u <;> first | exact ⟨.non, rfl, fun _ _ => .non⟩ | (simp [datB] at h)
  | .bl b, u, h => by
    cases u <;> first | (simp [datB] at h; done) | skip
    simp [datB] at h
    exact ⟨.bl b, by rw [h]; rfl, fun _ _ => .bl b⟩
  | .int i, u, h => by
    cases u <;> first | (simp [datB] at h; done) | skip
    simp [datB] at h
    exact ⟨.int i, ⟨_, by rw [h]⟩, fun _ _ => .int i⟩
  | .str s, u, h => by
    cases u <;> first | (simp [datB] at h; done) | skip
    simp [datB] at h
    exact ⟨.str s, ⟨_, by rw [h]⟩, fun _ _ => .str s⟩
  | .tup ds, u, h => by
    cases u <;> first | (simp [datB] at h; done) | skip
    rename_i a
    simp only [datB] at h
    split at h
    · rename_i c _ its _ _ e
      simp only [Bool.and_eq_true, decide_eq_true_eq] at h
      obtain ⟨h1, h2, h3⟩ := h
      obtain ⟨vs, h4, h5⟩ := datsB_ok h3
      exact ⟨.ref a, rfl, fun H Z => .tup (xs := vs) (.inr ⟨_, its, _, e, congrArg Value.type h1, rfl, h2, h4⟩) (h5 H Z)⟩
    · cases h
  | .lst ds, u, h => by cases u <;> simp [datB] at h
  | .obj a, u, h => by cases u <;> simp [datB] at h
  | .frz a, u, h => by cases u <;> simp [datB] at h
theorem datsB_ok {K : PySem.W.Frag} : ∀ {ds : List D} {us : List Value}, datsB K ds us = true → ∃ vs, Vals vs us ∧ ∀ (H : Hp) (Z : Addr → Prop), RpA K H Z ds vs
  | [], [], _ => ⟨[], .nil, fun _ _ => .nil⟩
  | [], _ :: _, h => by simp [datsB] at h
  | _ :: _, [], h => by simp [datsB] at h
  | d :: ds, u :: us, h => by
    simp only [datsB, Bool.and_eq_true] at h
    obtain ⟨v, h1, h2⟩ := datB_ok h.1
    obtain ⟨vs, h3, h4⟩ := datsB_ok h.2
    exact ⟨v :: vs, .cons h1 h3, fun H Z => .cons (h2 H Z) (h4 H Z)⟩
end
theorem entB_ok {K : PySem.W.Frag} : ∀ {es : List DictEntry} {kvs : List (Str × D)}, entB K es kvs = true → es.any (·.refKey) = false ∧ ∀ s : Str,
    (kvs.lookup s = none ∧ es.find? (·.key.isStr s) = none) ∨ ∃ d e v, kvs.lookup s = some d ∧ es.find? (·.key.isStr s) = some e ∧ RelV v e.val ∧ ∀ (H : Hp) (Z : Addr → Prop), Rp K H Z d v
  | [], [], _ => ⟨rfl, fun s => .inl ⟨rfl, rfl⟩⟩
  | [], _ :: _, h => by simp [entB] at h
  | _ :: _, [], h => by simp [entB] at h
  | e :: es, (k, d) :: kvs, h => by
    simp only [entB, Bool.and_eq_true] at h
    obtain ⟨h1, h2, h3⟩ := h
    obtain ⟨i1, i2⟩ := entB_ok h3
    obtain ⟨v, v1, v2⟩ := datB_ok h2
    obtain ⟨eh, ek, ev⟩ := e
    cases ek <;> first | (simp at h1; done) | skip
    rename_i x t
    have hx : x = k := by simpa using h1
    subst hx
    refine ⟨?_, fun s => ?_⟩
    · rw [List.any_cons, i1]
      rfl
    · by_cases q : s = x
      · subst q
        refine .inr ⟨d, _, v, ?_, ?_, v1, v2⟩
        · simp [List.lookup]
        · rw [List.find?_cons]
          simp [Value.isStr]
      · have e1 : (s == x) = false := by simp [q]
        have e2 : (Value.str x t).isStr s = false := by
          simp only [Value.isStr]
          simpa using fun z : x = s => q z.symm
        rcases i2 s with ⟨a, b⟩ | ⟨d', e', v', a, b, c⟩
        · exact .inl ⟨by simp [List.lookup, e1, a], by rw [List.find?_cons]; simp [e2, b]⟩
        · exact .inr ⟨d', e', v', by simp [List.lookup, e1, a], by rw [List.find?_cons]; simp [e2, b], c⟩
theorem kdC_of {w : World} {K : PySem.W.Frag} {mg : Str → Option Value} {x : Str} {kvs : List (Str × D)} (hg : mg x = some (.ref (He.ga K x))) (T : ∃ es n, KDict K w (He.ga K x) es n) (c : kvB' K x kvs = true) : KdC w K mg kvs x := by
  obtain ⟨es, n, T⟩ := T
  refine ⟨_, es, n, hg, T, fun s => ?_⟩
  unfold kvB' at c
  rw [T.at_] at c
  obtain ⟨c1, c2⟩ := entB_ok c
  unfold PySem.W.nsIn
  rw [T.at_]
  dsimp only
  rcases c2 s with ⟨a, b⟩ | ⟨d, e, v, a, b, c, r⟩
  · rw [b]
    dsimp only
    rw [c1]
    exact ⟨none, rfl, .inl ⟨a, rfl⟩⟩
  · rw [b]
    exact ⟨some e.val, rfl, .inr ⟨d, e.val, v, a, rfl, c, r⟩⟩
/-! ### promises joined -/
section
variable {P : Program} {w : World} {K : PySem.W.Frag} {mg : Str → Option Value} {base : Heap}
/-- the def at x keeps this promise -/
def Got (P : Program) (w : World) (K : PySem.W.Frag) (mg : Str → Option Value) (base : Heap) (k : Nat) (x : Str) (n : Nat) (wf : WF G) : Prop :=
  ∃ (f : Addr) (fd : FuncData) (ps : List Str), FnOk P w K mg base (L2.CX P w) k f fd ps (spF K (ghK K mg) n wf) ∧ mg x = some (.ref f) ∧ PySem.W.keepIn K (.ref f) = true ∧ Binds K fd ps []
theorem Got.tab {j k n : Nat} {x : Str} {wf : WF G} (g : Got P w K mg base j x n wf) (h : j ≤ k) : TabE P w K mg base k n wf (.fn x) := by
  obtain ⟨f, fd, ps, h1, h2, h3, h4⟩ := g
  exact ⟨j, f, fd, ps, h, h1, h2, h3, h4⟩
theorem tab_nil {k : Nat} : Tab P w K mg base k [] [] := ⟨rfl, fun i x n wf h => by simp at h⟩
theorem tab_cons {j k n : Nat} {x : Str} {wf : WF G} {nm : List Nm} {fs : List (Nat × WF G)} (g : Got P w K mg base j x n wf) (h : j ≤ k) (t : Tab P w K mg base k nm fs) : Tab P w K mg base k (.fn x :: nm) ((n, wf) :: fs) := by
  refine ⟨by rw [List.length_cons, List.length_cons, t.len], fun i y m wf' h1 h2 => ?_⟩
  cases i with
  | zero =>
    cases h1
    cases h2
    exact g.tab h
  | succ i => exact t.fn i y m wf' h1 h2
/-- nothing is asked of it -/
theorem got_no {x : Str} {n : Nat} {f : Addr} {fd : FuncData} {ps : List Str} (g : mg x = some (.ref f)) (kp : PySem.W.keepIn K (.ref f) = true) (b : Binds K fd ps []) : Got P w K mg base 0 x n fun _ _ _ => False := by
  have no : ∀ {vs H Q E}, ¬ spF K (ghK K mg) n (fun _ _ _ => False) vs H Q E := fun h => by
    obtain ⟨_, ds, g, Z0, P, _, _, _, h, _⟩ := h
    exact h
  exact ⟨f, fd, ps, ⟨fun vs H Q E h => absurd h no, fun A outer s H args us vs Q E _ _ _ _ h => absurd h no⟩, g, kp, b⟩
theorem fn_cx0 {k n : Nat} {f : Addr} {fd : FuncData} {ps : List Str} {wf : WF G} (F : FnOk P w K mg base (L2.CX P w) k f fd ps (spF K (ghK K mg) n wf)) : FnOk P w K mg base CX0 k f fd ps (spF K (ghK K mg) n wf) := by
  refine ⟨fun vs H Q E h => F.len vs H Q E h, fun A outer s H args us vs Q E hr he hb hv hs => codeAny_mono (F.run A outer s H args us vs Q (fun _ _ _ => False) hr he hb hv hs) fun r s' h => ?_⟩
  cases r with
  | ok fl => cases fl <;> exact h
  | error e =>
    obtain ⟨a, B, H', cls, d, _, _, _, _, _, _, _, z⟩ := h
    exact z
theorem got_of {x : Str} {st : Stmt} {f : Addr} {fd : FuncData} {ps : List Str} {k : Nat} {ck : Ck} {cs : CS} {fs : List (Nat × WF G)} {wf : WF G} (F : FunD K x x (defArgs st) (defBody st) (defScope st) [] [] f fd) (g : mg x = some (.ref f))
    (b : Binds K fd ps []) (S : FnScope ck.N ps (defScope st)) (chk : chkS ck cs (defScope st) (defBody st) = true) (bl : ∀ x ∈ ck.bl, mg x = none) (tab : Tab P w K mg base k ck.nm fs) (ats : ck.ats = [])
    (gi : ∀ x n, (x, n) ∈ ck.gi → ∃ u, mg x = some u ∧ RelV (.int n) u) (kd : ∀ (i : Nat) (x : Str) (kvs : List (Str × D)), ck.kd[i]? = some (x, kvs) → KdC w K mg kvs x)
    (spec : ∀ (ds : List D) (g : G) (Pq : Pd G), ds.length = ps.length → wf ds g Pq → VL.wS fs cs (endP Pq) (env0 ck.N.length ds) g) : Got P w K mg base (k + 1) x ps.length wf := by
  exact ⟨f, fd, ps, fn_ok F S chk bl tab (fun c x h => by rw [ats] at h; cases h) gi kd spec, g, F.kp, b⟩
end
/-- the script's own list -/
theorem frz_of {K : PySem.W.Frag} {H : Hp} {a : Addr} {xs : List V} (o : Only H) (h : SqL K H a xs) : SqF K H a xs := by
  rcases h with (h | ⟨u, h⟩) | h
  · rcases o a with e | ⟨v, ys, e⟩
    · rw [h] at e; cases e
    · rw [h] at e; cases e
  · exact .inl ⟨u, h⟩
  · exact .inr h
/-- a law: its promise at the script -/
theorem law_frz {K : PySem.W.Frag} {mg : Str → Option Value} {wf : WF G} (hw : ∀ (ns : List Int) (g : G) (Q : Pd G), ns.length ≤ 63 → (∀ g', Q (.bl true) 2 g') → wf [.frz ns] g Q) (H : Hp) (a : Addr) (ns : List Int) (hl : ns.length ≤ 63) (o : Only H) (h : SqL K H a (ns.map V.int)) :
    spF K (ghK K mg) 1 wf [.ref a] H (fun v _ => v = .bl true) fun _ _ _ => False := by
  refine ⟨rfl, [.frz ns], (fun _ => none), (fun _ => False), (fun d _ _ => d = .bl true), (fun a z => absurd rfl z), (fun a c e => nomatch e), .cons (.frz (frz_of o h)) .nil, hw ns _ _ hl fun _ => rfl, fun d l g' v H' e st r => ?_⟩
  subst e
  cases r
  rfl
end VL
set_option maxHeartbeats 0
namespace T
open PySem PySem.Spec PyProof.Rows L2 VL
section
variable {P : Program} {w : World} {K : PySem.W.Frag} {h base : Heap} {mg : Str → Option Value}
theorem fa_ok (c : He.SaysT faH fnH tsH w K) {f : He.Fa} (hf : f ∈ faH) : f.ok K = true := List.all_eq_true.mp (He.ba (show ((faH.all fun f => f.ok K) && fnH.all fun d => d.ok K) = true from congrArg (fun z : He.AlD => z.1) c.d)).1 f hf
theorem gl_ok' (X : K.In h) (G : h.Ns mainGlobals mg) (c : He.SaysT faH fnH tsH w K) {x : Str} (hx : x ∈ glH) : mg x = some (.ref (He.ga K x)) := He.glo_ok X G (fa_ok c (List.mem_append_left _ (List.mem_map_of_mem hx)))
theorem bl_ok (X : K.In h) (G : h.Ns mainGlobals mg) (c : He.SaysT faH fnH tsH w K) {x : Str} (hx : x ∈ blH) : mg x = none := He.free_ok X G (fa_ok c (List.mem_append_right _ (List.mem_append_left _ (List.mem_map_of_mem hx))))
theorem gi_ok (X : K.In h) (G : h.Ns mainGlobals mg) (c : He.SaysT faH fnH tsH w K) {x : Str} {n : Int} (hx : (x, n) ∈ giH) : ∃ u, mg x = some u ∧ RelV (.int n) u := by
  obtain ⟨t, e⟩ := He.int_ok X G (fa_ok c (f := .int x n) (List.mem_append_right _ (List.mem_append_right _ (List.mem_map_of_mem (f := fun z : Str × Int => He.Fa.int z.1 z.2) hx))))
  exact ⟨_, e, t, rfl⟩
theorem kd_ok_FORMS (X : K.In h) (G : h.Ns mainGlobals mg) (c : He.SaysT faH fnH tsH w K) (e : ∀ f ∈ exH, f K = true) : KdC w K mg kd_FORMS "FORMS" := kdC_of (gl_ok' X G c (by decide +kernel)) (c.tab 0 rfl) (e _ (List.mem_of_getElem? (i := 0) rfl))
theorem sub_compare_gi : ∀ z ∈ ck_compare.gi, z ∈ giH := by decide +kernel
theorem sub_compare_bl : ∀ z ∈ ck_compare.bl, z ∈ blH := by decide +kernel
theorem in_compare : ("compare" : Str) ∈ glH := by decide +kernel
theorem fb_compare (c : He.SaysT faH fnH tsH w K) : ∃ fd, FunD K "compare" "compare" (defArgs st_compare) (defBody st_compare) (defScope st_compare) [] [] (He.ga K "compare") fd ∧ Binds K fd ["one", "other"] [] := by
  obtain ⟨fd, F⟩ := c.d.def_ 0 rfl
  exact ⟨fd, F, F.bindsN (ps := ["one", "other"]) fun _ _ _ _ _ _ us hl => match us, hl with | [_, _], _ => rfl⟩
theorem got_compare (X : K.In h) (G : h.Ns mainGlobals mg) (c : He.SaysT faH fnH tsH w K) (e : ∀ f ∈ exH, f K = true) : Got P w K mg base 1 "compare" 2 wf_compare := by
  obtain ⟨fd, F, b⟩ := fb_compare c
  exact got_of (k := 0) F (gl_ok' X G c in_compare) b sc_compare ch_compare (fun x hx => bl_ok X G c (sub_compare_bl x hx)) tab_nil rfl (fun x n h => gi_ok X G c (sub_compare_gi (x, n) h)) (fun i x kvs h => by simp [ck_compare] at h) (sp_compare)
theorem sub_trimmed_gi : ∀ z ∈ ck_trimmed.gi, z ∈ giH := by decide +kernel
theorem sub_trimmed_bl : ∀ z ∈ ck_trimmed.bl, z ∈ blH := by decide +kernel
theorem in_trimmed : ("trimmed" : Str) ∈ glH := by decide +kernel
theorem fb_trimmed (c : He.SaysT faH fnH tsH w K) : ∃ fd, FunD K "trimmed" "trimmed" (defArgs st_trimmed) (defBody st_trimmed) (defScope st_trimmed) [] [] (He.ga K "trimmed") fd ∧ Binds K fd ["row"] [] := by
  obtain ⟨fd, F⟩ := c.d.def_ 1 rfl
  exact ⟨fd, F, F.bindsN (ps := ["row"]) fun _ _ _ _ _ _ us hl => match us, hl with | [_], _ => rfl⟩
theorem got_trimmed (X : K.In h) (G : h.Ns mainGlobals mg) (c : He.SaysT faH fnH tsH w K) (e : ∀ f ∈ exH, f K = true) : Got P w K mg base 1 "trimmed" 1 wf_trimmed := by
  obtain ⟨fd, F, b⟩ := fb_trimmed c
  exact got_of (k := 0) F (gl_ok' X G c in_trimmed) b sc_trimmed ch_trimmed (fun x hx => bl_ok X G c (sub_trimmed_bl x hx)) tab_nil rfl (fun x n h => gi_ok X G c (sub_trimmed_gi (x, n) h)) (fun i x kvs h => by simp [ck_trimmed] at h) (sp_trimmed)
theorem sub_row_of_gi : ∀ z ∈ ck_row_of.gi, z ∈ giH := by decide +kernel
theorem sub_row_of_bl : ∀ z ∈ ck_row_of.bl, z ∈ blH := by decide +kernel
theorem in_row_of : ("row_of" : Str) ∈ glH := by decide +kernel
theorem fb_row_of (c : He.SaysT faH fnH tsH w K) : ∃ fd, FunD K "row_of" "row_of" (defArgs st_row_of) (defBody st_row_of) (defScope st_row_of) [] [] (He.ga K "row_of") fd ∧ Binds K fd ["number"] [] := by
  obtain ⟨fd, F⟩ := c.d.def_ 2 rfl
  exact ⟨fd, F, F.bindsN (ps := ["number"]) fun _ _ _ _ _ _ us hl => match us, hl with | [_], _ => rfl⟩
theorem got_row_of (X : K.In h) (G : h.Ns mainGlobals mg) (c : He.SaysT faH fnH tsH w K) (e : ∀ f ∈ exH, f K = true) : Got P w K mg base 2 "row_of" 1 wf_row_of := by
  obtain ⟨fd, F, b⟩ := fb_row_of c
  exact got_of (k := 1) F (gl_ok' X G c in_row_of) b sc_row_of ch_row_of (fun x hx => bl_ok X G c (sub_row_of_bl x hx)) (tab_cons (got_trimmed X G c e) (by decide) tab_nil) rfl (fun x n h => gi_ok X G c (sub_row_of_gi (x, n) h)) (fun i x kvs h => by simp [ck_row_of] at h) (sp_row_of)
theorem sub_order_gi : ∀ z ∈ ck_order.gi, z ∈ giH := by decide +kernel
theorem sub_order_bl : ∀ z ∈ ck_order.bl, z ∈ blH := by decide +kernel
theorem in_order : ("order" : Str) ∈ glH := by decide +kernel
theorem fb_order (c : He.SaysT faH fnH tsH w K) : ∃ fd, FunD K "order" "order" (defArgs st_order) (defBody st_order) (defScope st_order) [] [] (He.ga K "order") fd ∧ Binds K fd ["one", "other"] [] := by
  obtain ⟨fd, F⟩ := c.d.def_ 3 rfl
  exact ⟨fd, F, F.bindsN (ps := ["one", "other"]) fun _ _ _ _ _ _ us hl => match us, hl with | [_, _], _ => rfl⟩
theorem got_order (X : K.In h) (G : h.Ns mainGlobals mg) (c : He.SaysT faH fnH tsH w K) (e : ∀ f ∈ exH, f K = true) : Got P w K mg base 3 "order" 2 wf_order := by
  obtain ⟨fd, F, b⟩ := fb_order c
  exact got_of (k := 2) F (gl_ok' X G c in_order) b sc_order ch_order (fun x hx => bl_ok X G c (sub_order_bl x hx)) (tab_cons (got_compare X G c e) (by decide) (tab_cons (got_row_of X G c e) (by decide) tab_nil)) rfl (fun x n h => gi_ok X G c (sub_order_gi (x, n) h)) (fun i x kvs h => by simp [ck_order] at h) (sp_order)
theorem sub_sub_gi : ∀ z ∈ ck_sub.gi, z ∈ giH := by decide +kernel
theorem sub_sub_bl : ∀ z ∈ ck_sub.bl, z ∈ blH := by decide +kernel
theorem in_sub : ("sub" : Str) ∈ glH := by decide +kernel
theorem fb_sub (c : He.SaysT faH fnH tsH w K) : ∃ fd, FunD K "sub" "sub" (defArgs st_sub) (defBody st_sub) (defScope st_sub) [] [] (He.ga K "sub") fd ∧ Binds K fd ["one", "other"] [] := by
  obtain ⟨fd, F⟩ := c.d.def_ 4 rfl
  exact ⟨fd, F, F.bindsN (ps := ["one", "other"]) fun _ _ _ _ _ _ us hl => match us, hl with | [_, _], _ => rfl⟩
theorem got_sub (X : K.In h) (G : h.Ns mainGlobals mg) (c : He.SaysT faH fnH tsH w K) (e : ∀ f ∈ exH, f K = true) : Got P w K mg base 2 "sub" 2 wf_sub := by
  obtain ⟨fd, F, b⟩ := fb_sub c
  exact got_of (k := 1) F (gl_ok' X G c in_sub) b sc_sub ch_sub (fun x hx => bl_ok X G c (sub_sub_bl x hx)) (tab_cons (got_trimmed X G c e) (by decide) (tab_cons (got_compare X G c e) (by decide) tab_nil)) rfl (fun x n h => gi_ok X G c (sub_sub_gi (x, n) h)) (fun i x kvs h => by simp [ck_sub] at h) (sp_sub)
theorem sub_add_gi : ∀ z ∈ ck_add.gi, z ∈ giH := by decide +kernel
theorem sub_add_bl : ∀ z ∈ ck_add.bl, z ∈ blH := by decide +kernel
theorem in_add : ("add" : Str) ∈ glH := by decide +kernel
theorem fb_add (c : He.SaysT faH fnH tsH w K) : ∃ fd, FunD K "add" "add" (defArgs st_add) (defBody st_add) (defScope st_add) [] [] (He.ga K "add") fd ∧ Binds K fd ["one", "other"] [] := by
  obtain ⟨fd, F⟩ := c.d.def_ 5 rfl
  exact ⟨fd, F, F.bindsN (ps := ["one", "other"]) fun _ _ _ _ _ _ us hl => match us, hl with | [_, _], _ => rfl⟩
theorem got_add (X : K.In h) (G : h.Ns mainGlobals mg) (c : He.SaysT faH fnH tsH w K) (e : ∀ f ∈ exH, f K = true) : Got P w K mg base 1 "add" 2 wf_add := by
  obtain ⟨fd, F, b⟩ := fb_add c
  exact got_of (k := 0) F (gl_ok' X G c in_add) b sc_add ch_add (fun x hx => bl_ok X G c (sub_add_bl x hx)) tab_nil rfl (fun x n h => gi_ok X G c (sub_add_gi (x, n) h)) (fun i x kvs h => by simp [ck_add] at h) (sp_add)
theorem sub_added_gi : ∀ z ∈ ck_added.gi, z ∈ giH := by decide +kernel
theorem sub_added_bl : ∀ z ∈ ck_added.bl, z ∈ blH := by decide +kernel
theorem in_added : ("added" : Str) ∈ glH := by decide +kernel
theorem fb_added (c : He.SaysT faH fnH tsH w K) : ∃ fd, FunD K "added" "added" (defArgs st_added) (defBody st_added) (defScope st_added) [] [] (He.ga K "added") fd ∧ Binds K fd ["one", "other"] [] := by
  obtain ⟨fd, F⟩ := c.d.def_ 6 rfl
  exact ⟨fd, F, F.bindsN (ps := ["one", "other"]) fun _ _ _ _ _ _ us hl => match us, hl with | [_, _], _ => rfl⟩
theorem got_added (X : K.In h) (G : h.Ns mainGlobals mg) (c : He.SaysT faH fnH tsH w K) (e : ∀ f ∈ exH, f K = true) : Got P w K mg base 3 "added" 2 wf_added := by
  obtain ⟨fd, F, b⟩ := fb_added c
  exact got_of (k := 2) F (gl_ok' X G c in_added) b sc_added ch_added (fun x hx => bl_ok X G c (sub_added_bl x hx)) (tab_cons (got_sub X G c e) (by decide) (tab_cons (got_compare X G c e) (by decide) (tab_cons (got_add X G c e) (by decide) (tab_cons (got_row_of X G c e) (by decide) tab_nil)))) rfl (fun x n h => gi_ok X G c (sub_added_gi (x, n) h)) (fun i x kvs h => by simp [ck_added] at h) (sp_added)
theorem sub_is_sum_gi : ∀ z ∈ ck_is_sum.gi, z ∈ giH := by decide +kernel
theorem sub_is_sum_bl : ∀ z ∈ ck_is_sum.bl, z ∈ blH := by decide +kernel
theorem in_is_sum : ("is_sum" : Str) ∈ glH := by decide +kernel
theorem fb_is_sum (c : He.SaysT faH fnH tsH w K) : ∃ fd, FunD K "is_sum" "is_sum" (defArgs st_is_sum) (defBody st_is_sum) (defScope st_is_sum) [] [] (He.ga K "is_sum") fd ∧ Binds K fd ["a", "b", "c"] [] := by
  obtain ⟨fd, F⟩ := c.d.def_ 7 rfl
  exact ⟨fd, F, F.bindsN (ps := ["a", "b", "c"]) fun _ _ _ _ _ _ us hl => match us, hl with | [_, _, _], _ => rfl⟩
theorem got_is_sum (X : K.In h) (G : h.Ns mainGlobals mg) (c : He.SaysT faH fnH tsH w K) (e : ∀ f ∈ exH, f K = true) : Got P w K mg base 4 "is_sum" 3 wf_is_sum := by
  obtain ⟨fd, F, b⟩ := fb_is_sum c
  exact got_of (k := 3) F (gl_ok' X G c in_is_sum) b sc_is_sum ch_is_sum (fun x hx => bl_ok X G c (sub_is_sum_bl x hx)) (tab_cons (got_row_of X G c e) (by decide) (tab_cons (got_added X G c e) (by decide) tab_nil)) rfl (fun x n h => gi_ok X G c (sub_is_sum_gi (x, n) h)) (fun i x kvs h => by simp [ck_is_sum] at h) (sp_is_sum)
theorem sub_by_digits_gi : ∀ z ∈ ck_by_digits.gi, z ∈ giH := by decide +kernel
theorem sub_by_digits_bl : ∀ z ∈ ck_by_digits.bl, z ∈ blH := by decide +kernel
theorem in_by_digits : ("by_digits" : Str) ∈ glH := by decide +kernel
theorem fb_by_digits (c : He.SaysT faH fnH tsH w K) : ∃ fd, FunD K "by_digits" "by_digits" (defArgs st_by_digits) (defBody st_by_digits) (defScope st_by_digits) [] [] (He.ga K "by_digits") fd ∧ Binds K fd ["claim"] [] := by
  obtain ⟨fd, F⟩ := c.d.def_ 8 rfl
  exact ⟨fd, F, F.bindsN (ps := ["claim"]) fun _ _ _ _ _ _ us hl => match us, hl with | [_], _ => rfl⟩
theorem got_by_digits (X : K.In h) (G : h.Ns mainGlobals mg) (c : He.SaysT faH fnH tsH w K) (e : ∀ f ∈ exH, f K = true) : Got P w K mg base 5 "by_digits" 1 wf_by_digits := by
  obtain ⟨fd, F, b⟩ := fb_by_digits c
  exact got_of (k := 4) F (gl_ok' X G c in_by_digits) b sc_by_digits ch_by_digits (fun x hx => bl_ok X G c (sub_by_digits_bl x hx)) (tab_cons (got_order X G c e) (by decide) (tab_cons (got_is_sum X G c e) (by decide) tab_nil)) rfl (fun x n h => gi_ok X G c (sub_by_digits_gi (x, n) h)) (fun i x kvs h => by simp [ck_by_digits] at h) (sp_by_digits)
theorem sub_by_trial_gi : ∀ z ∈ ck_by_trial.gi, z ∈ giH := by decide +kernel
theorem sub_by_trial_bl : ∀ z ∈ ck_by_trial.bl, z ∈ blH := by decide +kernel
theorem in_by_trial : ("by_trial" : Str) ∈ glH := by decide +kernel
theorem fb_by_trial (c : He.SaysT faH fnH tsH w K) : ∃ fd, FunD K "by_trial" "by_trial" (defArgs st_by_trial) (defBody st_by_trial) (defScope st_by_trial) [] [] (He.ga K "by_trial") fd ∧ Binds K fd ["number"] [] := by
  obtain ⟨fd, F⟩ := c.d.def_ 9 rfl
  exact ⟨fd, F, F.bindsN (ps := ["number"]) fun _ _ _ _ _ _ us hl => match us, hl with | [_], _ => rfl⟩
theorem got_by_trial (X : K.In h) (G : h.Ns mainGlobals mg) (c : He.SaysT faH fnH tsH w K) (e : ∀ f ∈ exH, f K = true) : Got P w K mg base 1 "by_trial" 1 wf_by_trial := by
  obtain ⟨fd, F, b⟩ := fb_by_trial c
  exact got_of (k := 0) F (gl_ok' X G c in_by_trial) b sc_by_trial ch_by_trial (fun x hx => bl_ok X G c (sub_by_trial_bl x hx)) tab_nil rfl (fun x n h => gi_ok X G c (sub_by_trial_gi (x, n) h)) (fun i x kvs h => by simp [ck_by_trial] at h) (sp_by_trial)
theorem sub_bound_of_gi : ∀ z ∈ ck_bound_of.gi, z ∈ giH := by decide +kernel
theorem sub_bound_of_bl : ∀ z ∈ ck_bound_of.bl, z ∈ blH := by decide +kernel
theorem in_bound_of : ("bound_of" : Str) ∈ glH := by decide +kernel
theorem fb_bound_of (c : He.SaysT faH fnH tsH w K) : ∃ fd, FunD K "bound_of" "bound_of" (defArgs st_bound_of) (defBody st_bound_of) (defScope st_bound_of) [] [] (He.ga K "bound_of") fd ∧ Binds K fd ["xs", "ys", "c"] [] := by
  obtain ⟨fd, F⟩ := c.d.def_ 10 rfl
  exact ⟨fd, F, F.bindsN (ps := ["xs", "ys", "c"]) fun _ _ _ _ _ _ us hl => match us, hl with | [_, _, _], _ => rfl⟩
theorem got_bound_of (X : K.In h) (G : h.Ns mainGlobals mg) (c : He.SaysT faH fnH tsH w K) (e : ∀ f ∈ exH, f K = true) : Got P w K mg base 3 "bound_of" 3 wf_bound_of := by
  obtain ⟨fd, F, b⟩ := fb_bound_of c
  exact got_of (k := 2) F (gl_ok' X G c in_bound_of) b sc_bound_of ch_bound_of (fun x hx => bl_ok X G c (sub_bound_of_bl x hx)) (tab_cons (got_add X G c e) (by decide) (tab_cons (got_row_of X G c e) (by decide) tab_nil)) rfl (fun x n h => gi_ok X G c (sub_bound_of_gi (x, n) h)) (fun i x kvs h => by simp [ck_bound_of] at h) (sp_bound_of)
theorem sub_times_of_gi : ∀ z ∈ ck_times_of.gi, z ∈ giH := by decide +kernel
theorem sub_times_of_bl : ∀ z ∈ ck_times_of.bl, z ∈ blH := by decide +kernel
theorem in_times_of : ("times_of" : Str) ∈ glH := by decide +kernel
theorem fb_times_of (c : He.SaysT faH fnH tsH w K) : ∃ fd, FunD K "times_of" "times_of" (defArgs st_times_of) (defBody st_times_of) (defScope st_times_of) [] [] (He.ga K "times_of") fd ∧ Binds K fd ["row", "small"] [] := by
  obtain ⟨fd, F⟩ := c.d.def_ 11 rfl
  exact ⟨fd, F, F.bindsN (ps := ["row", "small"]) fun _ _ _ _ _ _ us hl => match us, hl with | [_, _], _ => rfl⟩
theorem got_times_of (X : K.In h) (G : h.Ns mainGlobals mg) (c : He.SaysT faH fnH tsH w K) (e : ∀ f ∈ exH, f K = true) : Got P w K mg base 1 "times_of" 2 wf_times_of := by
  obtain ⟨fd, F, b⟩ := fb_times_of c
  exact got_of (k := 0) F (gl_ok' X G c in_times_of) b sc_times_of ch_times_of (fun x hx => bl_ok X G c (sub_times_of_bl x hx)) tab_nil rfl (fun x n h => gi_ok X G c (sub_times_of_gi (x, n) h)) (fun i x kvs h => by simp [ck_times_of] at h) (sp_times_of)
theorem sub_product_of_gi : ∀ z ∈ ck_product_of.gi, z ∈ giH := by decide +kernel
theorem sub_product_of_bl : ∀ z ∈ ck_product_of.bl, z ∈ blH := by decide +kernel
theorem in_product_of : ("product_of" : Str) ∈ glH := by decide +kernel
theorem fb_product_of (c : He.SaysT faH fnH tsH w K) : ∃ fd, FunD K "product_of" "product_of" (defArgs st_product_of) (defBody st_product_of) (defScope st_product_of) [] [] (He.ga K "product_of") fd ∧ Binds K fd ["primes"] [] := by
  obtain ⟨fd, F⟩ := c.d.def_ 12 rfl
  exact ⟨fd, F, F.bindsN (ps := ["primes"]) fun _ _ _ _ _ _ us hl => match us, hl with | [_], _ => rfl⟩
theorem got_product_of (X : K.In h) (G : h.Ns mainGlobals mg) (c : He.SaysT faH fnH tsH w K) (e : ∀ f ∈ exH, f K = true) : Got P w K mg base 3 "product_of" 1 wf_product_of := by
  obtain ⟨fd, F, b⟩ := fb_product_of c
  exact got_of (k := 2) F (gl_ok' X G c in_product_of) b sc_product_of ch_product_of (fun x hx => bl_ok X G c (sub_product_of_bl x hx)) (tab_cons (got_times_of X G c e) (by decide) (tab_cons (got_row_of X G c e) (by decide) tab_nil)) rfl (fun x n h => gi_ok X G c (sub_product_of_gi (x, n) h)) (fun i x kvs h => by simp [ck_product_of] at h) (sp_product_of)
theorem sub_rest_of_gi : ∀ z ∈ ck_rest_of.gi, z ∈ giH := by decide +kernel
theorem sub_rest_of_bl : ∀ z ∈ ck_rest_of.bl, z ∈ blH := by decide +kernel
theorem in_rest_of : ("rest_of" : Str) ∈ glH := by decide +kernel
theorem fb_rest_of (c : He.SaysT faH fnH tsH w K) : ∃ fd, FunD K "rest_of" "rest_of" (defArgs st_rest_of) (defBody st_rest_of) (defScope st_rest_of) [] [] (He.ga K "rest_of") fd ∧ Binds K fd ["row", "below", "prime"] [] := by
  obtain ⟨fd, F⟩ := c.d.def_ 13 rfl
  exact ⟨fd, F, F.bindsN (ps := ["row", "below", "prime"]) fun _ _ _ _ _ _ us hl => match us, hl with | [_, _, _], _ => rfl⟩
theorem got_rest_of (X : K.In h) (G : h.Ns mainGlobals mg) (c : He.SaysT faH fnH tsH w K) (e : ∀ f ∈ exH, f K = true) : Got P w K mg base 1 "rest_of" 3 wf_rest_of := by
  obtain ⟨fd, F, b⟩ := fb_rest_of c
  exact got_of (k := 0) F (gl_ok' X G c in_rest_of) b sc_rest_of ch_rest_of (fun x hx => bl_ok X G c (sub_rest_of_bl x hx)) tab_nil rfl (fun x n h => gi_ok X G c (sub_rest_of_gi (x, n) h)) (fun i x kvs h => by simp [ck_rest_of] at h) (sp_rest_of)
theorem sub_are_small_primes_gi : ∀ z ∈ ck_are_small_primes.gi, z ∈ giH := by decide +kernel
theorem sub_are_small_primes_bl : ∀ z ∈ ck_are_small_primes.bl, z ∈ blH := by decide +kernel
theorem in_are_small_primes : ("are_small_primes" : Str) ∈ glH := by decide +kernel
theorem fb_are_small_primes (c : He.SaysT faH fnH tsH w K) : ∃ fd, FunD K "are_small_primes" "are_small_primes" (defArgs st_are_small_primes) (defBody st_are_small_primes) (defScope st_are_small_primes) [] [] (He.ga K "are_small_primes") fd ∧ Binds K fd ["numbers"] [] := by
  obtain ⟨fd, F⟩ := c.d.def_ 14 rfl
  exact ⟨fd, F, F.bindsN (ps := ["numbers"]) fun _ _ _ _ _ _ us hl => match us, hl with | [_], _ => rfl⟩
theorem got_are_small_primes (X : K.In h) (G : h.Ns mainGlobals mg) (c : He.SaysT faH fnH tsH w K) (e : ∀ f ∈ exH, f K = true) : Got P w K mg base 2 "are_small_primes" 1 wf_are_small_primes := by
  obtain ⟨fd, F, b⟩ := fb_are_small_primes c
  exact got_of (k := 1) F (gl_ok' X G c in_are_small_primes) b sc_are_small_primes ch_are_small_primes (fun x hx => bl_ok X G c (sub_are_small_primes_bl x hx)) (tab_cons (got_by_trial X G c e) (by decide) tab_nil) rfl (fun x n h => gi_ok X G c (sub_are_small_primes_gi (x, n) h)) (fun i x kvs h => by simp [ck_are_small_primes] at h) (sp_are_small_primes)
theorem sub_by_rests_gi : ∀ z ∈ ck_by_rests.gi, z ∈ giH := by decide +kernel
theorem sub_by_rests_bl : ∀ z ∈ ck_by_rests.bl, z ∈ blH := by decide +kernel
theorem in_by_rests : ("by_rests" : Str) ∈ glH := by decide +kernel
theorem fb_by_rests (c : He.SaysT faH fnH tsH w K) : ∃ fd, FunD K "by_rests" "by_rests" (defArgs st_by_rests) (defBody st_by_rests) (defScope st_by_rests) [] [] (He.ga K "by_rests") fd ∧ Binds K fd ["xs", "ys", "c", "primes"] [] := by
  obtain ⟨fd, F⟩ := c.d.def_ 15 rfl
  exact ⟨fd, F, F.bindsN (ps := ["xs", "ys", "c", "primes"]) fun _ _ _ _ _ _ us hl => match us, hl with | [_, _, _, _], _ => rfl⟩
theorem got_by_rests (X : K.In h) (G : h.Ns mainGlobals mg) (c : He.SaysT faH fnH tsH w K) (e : ∀ f ∈ exH, f K = true) : Got P w K mg base 4 "by_rests" 4 wf_by_rests := by
  obtain ⟨fd, F, b⟩ := fb_by_rests c
  exact got_of (k := 3) F (gl_ok' X G c in_by_rests) b sc_by_rests ch_by_rests (fun x hx => bl_ok X G c (sub_by_rests_bl x hx)) (tab_cons (got_compare X G c e) (by decide) (tab_cons (got_bound_of X G c e) (by decide) (tab_cons (got_product_of X G c e) (by decide) (tab_cons (got_rest_of X G c e) (by decide) (tab_cons (got_row_of X G c e) (by decide) (tab_cons (got_are_small_primes X G c e) (by decide) tab_nil)))))) rfl (fun x n h => gi_ok X G c (sub_by_rests_gi (x, n) h)) (fun i x kvs h => by simp [ck_by_rests] at h) (sp_by_rests)
theorem sub_right_gi : ∀ z ∈ ck_right.gi, z ∈ giH := by decide +kernel
theorem sub_right_bl : ∀ z ∈ ck_right.bl, z ∈ blH := by decide +kernel
theorem in_right : ("right" : Str) ∈ glH := by decide +kernel
theorem fb_right (c : He.SaysT faH fnH tsH w K) : ∃ fd, FunD K "right" "right" (defArgs st_right) (defBody st_right) (defScope st_right) [] [] (He.ga K "right") fd ∧ Binds K fd ["claim", "reason", "claims"] [] := by
  obtain ⟨fd, F⟩ := c.d.def_ 16 rfl
  exact ⟨fd, F, F.bindsN (ps := ["claim", "reason", "claims"]) fun _ _ _ _ _ _ us hl => match us, hl with | [_, _, _], _ => rfl⟩
theorem got_right (X : K.In h) (G : h.Ns mainGlobals mg) (c : He.SaysT faH fnH tsH w K) (e : ∀ f ∈ exH, f K = true) : Got P w K mg base 6 "right" 3 wf_right := by
  obtain ⟨fd, F, b⟩ := fb_right c
  exact got_of (k := 5) F (gl_ok' X G c in_right) b sc_right ch_right (fun x hx => bl_ok X G c (sub_right_bl x hx)) (tab_cons (got_by_digits X G c e) (by decide) (tab_cons (got_by_trial X G c e) (by decide) (tab_cons (got_by_rests X G c e) (by decide) tab_nil))) rfl (fun x n h => gi_ok X G c (sub_right_gi (x, n) h)) (fun i x kvs h => by simp [ck_right] at h) (sp_right)
theorem sub_is_int_gi : ∀ z ∈ ck_is_int.gi, z ∈ giH := by decide +kernel
theorem sub_is_int_bl : ∀ z ∈ ck_is_int.bl, z ∈ blH := by decide +kernel
theorem in_is_int : ("is_int" : Str) ∈ glH := by decide +kernel
theorem fb_is_int (c : He.SaysT faH fnH tsH w K) : ∃ fd, FunD K "is_int" "is_int" (defArgs st_is_int) (defBody st_is_int) (defScope st_is_int) [] [] (He.ga K "is_int") fd ∧ Binds K fd ["thing"] [] := by
  obtain ⟨fd, F⟩ := c.d.def_ 17 rfl
  exact ⟨fd, F, F.bindsN (ps := ["thing"]) fun _ _ _ _ _ _ us hl => match us, hl with | [_], _ => rfl⟩
theorem got_is_int (X : K.In h) (G : h.Ns mainGlobals mg) (c : He.SaysT faH fnH tsH w K) (e : ∀ f ∈ exH, f K = true) : Got P w K mg base 1 "is_int" 1 wf_is_int := by
  obtain ⟨fd, F, b⟩ := fb_is_int c
  exact got_of (k := 0) F (gl_ok' X G c in_is_int) b sc_is_int ch_is_int (fun x hx => bl_ok X G c (sub_is_int_bl x hx)) tab_nil rfl (fun x n h => gi_ok X G c (sub_is_int_gi (x, n) h)) (fun i x kvs h => by simp [ck_is_int] at h) (sp_is_int)
theorem sub_is_reason_gi : ∀ z ∈ ck_is_reason.gi, z ∈ giH := by decide +kernel
theorem sub_is_reason_bl : ∀ z ∈ ck_is_reason.bl, z ∈ blH := by decide +kernel
theorem in_is_reason : ("is_reason" : Str) ∈ glH := by decide +kernel
theorem fb_is_reason (c : He.SaysT faH fnH tsH w K) : ∃ fd, FunD K "is_reason" "is_reason" (defArgs st_is_reason) (defBody st_is_reason) (defScope st_is_reason) [] [] (He.ga K "is_reason") fd ∧ Binds K fd ["thing", "at"] [] := by
  obtain ⟨fd, F⟩ := c.d.def_ 18 rfl
  exact ⟨fd, F, F.bindsN (ps := ["thing", "at"]) fun _ _ _ _ _ _ us hl => match us, hl with | [_, _], _ => rfl⟩
theorem got_is_reason (X : K.In h) (G : h.Ns mainGlobals mg) (c : He.SaysT faH fnH tsH w K) (e : ∀ f ∈ exH, f K = true) : Got P w K mg base 2 "is_reason" 2 wf_is_reason := by
  obtain ⟨fd, F, b⟩ := fb_is_reason c
  exact got_of (k := 1) F (gl_ok' X G c in_is_reason) b sc_is_reason ch_is_reason (fun x hx => bl_ok X G c (sub_is_reason_bl x hx)) (tab_cons (got_is_int X G c e) (by decide) tab_nil) rfl (fun x n h => gi_ok X G c (sub_is_reason_gi (x, n) h)) (fun i x kvs h => by simp [ck_is_reason] at h) (sp_is_reason)
theorem sub_are_ints_gi : ∀ z ∈ ck_are_ints.gi, z ∈ giH := by decide +kernel
theorem sub_are_ints_bl : ∀ z ∈ ck_are_ints.bl, z ∈ blH := by decide +kernel
theorem in_are_ints : ("are_ints" : Str) ∈ glH := by decide +kernel
theorem fb_are_ints (c : He.SaysT faH fnH tsH w K) : ∃ fd, FunD K "are_ints" "are_ints" (defArgs st_are_ints) (defBody st_are_ints) (defScope st_are_ints) [] [] (He.ga K "are_ints") fd ∧ Binds K fd ["thing"] [] := by
  obtain ⟨fd, F⟩ := c.d.def_ 19 rfl
  exact ⟨fd, F, F.bindsN (ps := ["thing"]) fun _ _ _ _ _ _ us hl => match us, hl with | [_], _ => rfl⟩
theorem got_are_ints (X : K.In h) (G : h.Ns mainGlobals mg) (c : He.SaysT faH fnH tsH w K) (e : ∀ f ∈ exH, f K = true) : Got P w K mg base 2 "are_ints" 1 wf_are_ints := by
  obtain ⟨fd, F, b⟩ := fb_are_ints c
  exact got_of (k := 1) F (gl_ok' X G c in_are_ints) b sc_are_ints ch_are_ints (fun x hx => bl_ok X G c (sub_are_ints_bl x hx)) (tab_cons (got_is_int X G c e) (by decide) tab_nil) rfl (fun x n h => gi_ok X G c (sub_are_ints_gi (x, n) h)) (fun i x kvs h => by simp [ck_are_ints] at h) (sp_are_ints)
theorem sub_is_poly_gi : ∀ z ∈ ck_is_poly.gi, z ∈ giH := by decide +kernel
theorem sub_is_poly_bl : ∀ z ∈ ck_is_poly.bl, z ∈ blH := by decide +kernel
theorem in_is_poly : ("is_poly" : Str) ∈ glH := by decide +kernel
theorem fb_is_poly (c : He.SaysT faH fnH tsH w K) : ∃ fd, FunD K "is_poly" "is_poly" (defArgs st_is_poly) (defBody st_is_poly) (defScope st_is_poly) [] [] (He.ga K "is_poly") fd ∧ Binds K fd ["thing"] [] := by
  obtain ⟨fd, F⟩ := c.d.def_ 20 rfl
  exact ⟨fd, F, F.bindsN (ps := ["thing"]) fun _ _ _ _ _ _ us hl => match us, hl with | [_], _ => rfl⟩
theorem got_is_poly (X : K.In h) (G : h.Ns mainGlobals mg) (c : He.SaysT faH fnH tsH w K) (e : ∀ f ∈ exH, f K = true) : Got P w K mg base 3 "is_poly" 1 wf_is_poly := by
  obtain ⟨fd, F, b⟩ := fb_is_poly c
  exact got_of (k := 2) F (gl_ok' X G c in_is_poly) b sc_is_poly ch_is_poly (fun x hx => bl_ok X G c (sub_is_poly_bl x hx)) (tab_cons (got_are_ints X G c e) (by decide) tab_nil) rfl (fun x n h => gi_ok X G c (sub_is_poly_gi (x, n) h)) (fun i x kvs h => by simp [ck_is_poly] at h) (sp_is_poly)
theorem sub_are_pairs_gi : ∀ z ∈ ck_are_pairs.gi, z ∈ giH := by decide +kernel
theorem sub_are_pairs_bl : ∀ z ∈ ck_are_pairs.bl, z ∈ blH := by decide +kernel
theorem in_are_pairs : ("are_pairs" : Str) ∈ glH := by decide +kernel
theorem fb_are_pairs (c : He.SaysT faH fnH tsH w K) : ∃ fd, FunD K "are_pairs" "are_pairs" (defArgs st_are_pairs) (defBody st_are_pairs) (defScope st_are_pairs) [] [] (He.ga K "are_pairs") fd ∧ Binds K fd ["thing"] [] := by
  obtain ⟨fd, F⟩ := c.d.def_ 21 rfl
  exact ⟨fd, F, F.bindsN (ps := ["thing"]) fun _ _ _ _ _ _ us hl => match us, hl with | [_], _ => rfl⟩
theorem got_are_pairs (X : K.In h) (G : h.Ns mainGlobals mg) (c : He.SaysT faH fnH tsH w K) (e : ∀ f ∈ exH, f K = true) : Got P w K mg base 3 "are_pairs" 1 wf_are_pairs := by
  obtain ⟨fd, F, b⟩ := fb_are_pairs c
  exact got_of (k := 2) F (gl_ok' X G c in_are_pairs) b sc_are_pairs ch_are_pairs (fun x hx => bl_ok X G c (sub_are_pairs_bl x hx)) (tab_cons (got_are_ints X G c e) (by decide) tab_nil) rfl (fun x n h => gi_ok X G c (sub_are_pairs_gi (x, n) h)) (fun i x kvs h => by simp [ck_are_pairs] at h) (sp_are_pairs)
theorem sub_is_table_gi : ∀ z ∈ ck_is_table.gi, z ∈ giH := by decide +kernel
theorem sub_is_table_bl : ∀ z ∈ ck_is_table.bl, z ∈ blH := by decide +kernel
theorem in_is_table : ("is_table" : Str) ∈ glH := by decide +kernel
theorem fb_is_table (c : He.SaysT faH fnH tsH w K) : ∃ fd, FunD K "is_table" "is_table" (defArgs st_is_table) (defBody st_is_table) (defScope st_is_table) [] [] (He.ga K "is_table") fd ∧ Binds K fd ["thing"] [] := by
  obtain ⟨fd, F⟩ := c.d.def_ 22 rfl
  exact ⟨fd, F, F.bindsN (ps := ["thing"]) fun _ _ _ _ _ _ us hl => match us, hl with | [_], _ => rfl⟩
theorem got_is_table (X : K.In h) (G : h.Ns mainGlobals mg) (c : He.SaysT faH fnH tsH w K) (e : ∀ f ∈ exH, f K = true) : Got P w K mg base 3 "is_table" 1 wf_is_table := by
  obtain ⟨fd, F, b⟩ := fb_is_table c
  exact got_of (k := 2) F (gl_ok' X G c in_is_table) b sc_is_table ch_is_table (fun x hx => bl_ok X G c (sub_is_table_bl x hx)) (tab_cons (got_are_ints X G c e) (by decide) tab_nil) rfl (fun x n h => gi_ok X G c (sub_is_table_gi (x, n) h)) (fun i x kvs h => by simp [ck_is_table] at h) (sp_is_table)
theorem sub_is_field_gi : ∀ z ∈ ck_is_field.gi, z ∈ giH := by decide +kernel
theorem sub_is_field_bl : ∀ z ∈ ck_is_field.bl, z ∈ blH := by decide +kernel
theorem in_is_field : ("is_field" : Str) ∈ glH := by decide +kernel
theorem fb_is_field (c : He.SaysT faH fnH tsH w K) : ∃ fd, FunD K "is_field" "is_field" (defArgs st_is_field) (defBody st_is_field) (defScope st_is_field) [] [] (He.ga K "is_field") fd ∧ Binds K fd ["thing", "kind"] [] := by
  obtain ⟨fd, F⟩ := c.d.def_ 23 rfl
  exact ⟨fd, F, F.bindsN (ps := ["thing", "kind"]) fun _ _ _ _ _ _ us hl => match us, hl with | [_, _], _ => rfl⟩
theorem got_is_field (X : K.In h) (G : h.Ns mainGlobals mg) (c : He.SaysT faH fnH tsH w K) (e : ∀ f ∈ exH, f K = true) : Got P w K mg base 4 "is_field" 2 wf_is_field := by
  obtain ⟨fd, F, b⟩ := fb_is_field c
  exact got_of (k := 3) F (gl_ok' X G c in_is_field) b sc_is_field ch_is_field (fun x hx => bl_ok X G c (sub_is_field_bl x hx)) (tab_cons (got_is_poly X G c e) (by decide) (tab_cons (got_are_pairs X G c e) (by decide) (tab_cons (got_is_table X G c e) (by decide) (tab_cons (got_are_ints X G c e) (by decide) (tab_cons (got_is_int X G c e) (by decide) tab_nil))))) rfl (fun x n h => gi_ok X G c (sub_is_field_gi (x, n) h)) (fun i x kvs h => by simp [ck_is_field] at h) (sp_is_field)
theorem sub_is_claim_gi : ∀ z ∈ ck_is_claim.gi, z ∈ giH := by decide +kernel
theorem sub_is_claim_bl : ∀ z ∈ ck_is_claim.bl, z ∈ blH := by decide +kernel
theorem in_is_claim : ("is_claim" : Str) ∈ glH := by decide +kernel
theorem fb_is_claim (c : He.SaysT faH fnH tsH w K) : ∃ fd, FunD K "is_claim" "is_claim" (defArgs st_is_claim) (defBody st_is_claim) (defScope st_is_claim) [] [] (He.ga K "is_claim") fd ∧ Binds K fd ["thing"] [] := by
  obtain ⟨fd, F⟩ := c.d.def_ 24 rfl
  exact ⟨fd, F, F.bindsN (ps := ["thing"]) fun _ _ _ _ _ _ us hl => match us, hl with | [_], _ => rfl⟩
theorem got_is_claim (X : K.In h) (G : h.Ns mainGlobals mg) (c : He.SaysT faH fnH tsH w K) (e : ∀ f ∈ exH, f K = true) : Got P w K mg base 5 "is_claim" 1 wf_is_claim := by
  obtain ⟨fd, F, b⟩ := fb_is_claim c
  exact got_of (k := 4) F (gl_ok' X G c in_is_claim) b sc_is_claim ch_is_claim (fun x hx => bl_ok X G c (sub_is_claim_bl x hx)) (tab_cons (got_is_field X G c e) (by decide) tab_nil) rfl (fun x n h => gi_ok X G c (sub_is_claim_gi (x, n) h)) (fun i x kvs h => match i, h with | 0, h => by cases h; exact kd_ok_FORMS X G c e) (sp_is_claim)
theorem sub_judge_gi : ∀ z ∈ ck_judge.gi, z ∈ giH := by decide +kernel
theorem sub_judge_bl : ∀ z ∈ ck_judge.bl, z ∈ blH := by decide +kernel
theorem in_judge : ("judge" : Str) ∈ glH := by decide +kernel
theorem fb_judge (c : He.SaysT faH fnH tsH w K) : ∃ fd, FunD K "judge" "judge" (defArgs st_judge) (defBody st_judge) (defScope st_judge) [] [] (He.ga K "judge") fd ∧ Binds K fd ["paper"] [] := by
  obtain ⟨fd, F⟩ := c.d.def_ 25 rfl
  exact ⟨fd, F, F.bindsN (ps := ["paper"]) fun _ _ _ _ _ _ us hl => match us, hl with | [_], _ => rfl⟩
theorem got_judge (X : K.In h) (G : h.Ns mainGlobals mg) (c : He.SaysT faH fnH tsH w K) (e : ∀ f ∈ exH, f K = true) : Got P w K mg base 7 "judge" 1 wf_judge := by
  obtain ⟨fd, F, b⟩ := fb_judge c
  exact got_of (k := 6) F (gl_ok' X G c in_judge) b sc_judge ch_judge (fun x hx => bl_ok X G c (sub_judge_bl x hx)) (tab_cons (got_right X G c e) (by decide) (tab_cons (got_is_reason X G c e) (by decide) (tab_cons (got_is_claim X G c e) (by decide) tab_nil))) rfl (fun x n h => gi_ok X G c (sub_judge_gi (x, n) h)) (fun i x kvs h => by simp [ck_judge] at h) (sp_judge)
theorem sub_law_same_gi : ∀ z ∈ ck_law_same.gi, z ∈ giH := by decide +kernel
theorem sub_law_same_bl : ∀ z ∈ ck_law_same.bl, z ∈ blH := by decide +kernel
theorem in_law_same : ("_law_same" : Str) ∈ glH := by decide +kernel
theorem fb_law_same (c : He.SaysT faH fnH tsH w K) : ∃ fd, FunD K "_law_same" "_law_same" (defArgs st_law_same) (defBody st_law_same) (defScope st_law_same) [] [] (He.ga K "_law_same") fd ∧ Binds K fd ["x", "due"] [] := by
  obtain ⟨fd, F⟩ := c.d.def_ 26 rfl
  exact ⟨fd, F, F.bindsN (ps := ["x", "due"]) fun _ _ _ _ _ _ us hl => match us, hl with | [_, _], _ => rfl⟩
theorem got_law_same_no (X : K.In h) (G : h.Ns mainGlobals mg) (c : He.SaysT faH fnH tsH w K) (e : ∀ f ∈ exH, f K = true) : Got P w K mg base 0 "_law_same" 2 fun _ _ _ => False := by
  obtain ⟨fd, F, b⟩ := fb_law_same c
  exact got_no (gl_ok' X G c in_law_same) F.kp b
theorem got_law_same_B (X : K.In h) (G : h.Ns mainGlobals mg) (c : He.SaysT faH fnH tsH w K) (e : ∀ f ∈ exH, f K = true) : Got P w K mg base 1 "_law_same" 2 wf_sameB := by
  obtain ⟨fd, F, b⟩ := fb_law_same c
  exact got_of (k := 0) F (gl_ok' X G c in_law_same) b sc_law_same ch_law_same (fun x hx => bl_ok X G c (sub_law_same_bl x hx)) (tab_cons (got_law_same_no X G c e) (by decide) tab_nil) rfl (fun x n h => gi_ok X G c (sub_law_same_gi (x, n) h)) (fun i x kvs h => by simp [ck_law_same] at h) (sp_sameB _)
theorem got_law_same_L (X : K.In h) (G : h.Ns mainGlobals mg) (c : He.SaysT faH fnH tsH w K) (e : ∀ f ∈ exH, f K = true) : Got P w K mg base 2 "_law_same" 2 wf_sameL := by
  obtain ⟨fd, F, b⟩ := fb_law_same c
  exact got_of (k := 1) F (gl_ok' X G c in_law_same) b sc_law_same ch_law_same (fun x hx => bl_ok X G c (sub_law_same_bl x hx)) (tab_cons (got_law_same_B X G c e) (by decide) tab_nil) rfl (fun x n h => gi_ok X G c (sub_law_same_gi (x, n) h)) (fun i x kvs h => by simp [ck_law_same] at h) (sp_sameL)
theorem sub_law_taken_gi : ∀ z ∈ ck_law_taken.gi, z ∈ giH := by decide +kernel
theorem sub_law_taken_bl : ∀ z ∈ ck_law_taken.bl, z ∈ blH := by decide +kernel
theorem in_law_taken : ("_law_taken" : Str) ∈ glH := by decide +kernel
theorem fb_law_taken (c : He.SaysT faH fnH tsH w K) : ∃ fd, FunD K "_law_taken" "_law_taken" (defArgs st_law_taken) (defBody st_law_taken) (defScope st_law_taken) [] [] (He.ga K "_law_taken") fd ∧ Binds K fd ["claim", "reason"] [] := by
  obtain ⟨fd, F⟩ := c.d.def_ 27 rfl
  exact ⟨fd, F, F.bindsN (ps := ["claim", "reason"]) fun _ _ _ _ _ _ us hl => match us, hl with | [_, _], _ => rfl⟩
theorem got_law_taken (X : K.In h) (G : h.Ns mainGlobals mg) (c : He.SaysT faH fnH tsH w K) (e : ∀ f ∈ exH, f K = true) : Got P w K mg base 8 "_law_taken" 2 wf_law_taken := by
  obtain ⟨fd, F, b⟩ := fb_law_taken c
  exact got_of (k := 7) F (gl_ok' X G c in_law_taken) b sc_law_taken ch_law_taken (fun x hx => bl_ok X G c (sub_law_taken_bl x hx)) (tab_cons (got_judge X G c e) (by decide) tab_nil) rfl (fun x n h => gi_ok X G c (sub_law_taken_gi (x, n) h)) (fun i x kvs h => by simp [ck_law_taken] at h) (sp_law_taken)
theorem sub_law_bits_gi : ∀ z ∈ ck_law_bits.gi, z ∈ giH := by decide +kernel
theorem sub_law_bits_bl : ∀ z ∈ ck_law_bits.bl, z ∈ blH := by decide +kernel
theorem in_law_bits : ("_law_bits" : Str) ∈ glH := by decide +kernel
theorem fb_law_bits (c : He.SaysT faH fnH tsH w K) : ∃ fd, FunD K "_law_bits" "_law_bits" (defArgs st_law_bits) (defBody st_law_bits) (defScope st_law_bits) [] [] (He.ga K "_law_bits") fd ∧ Binds K fd ["number"] [] := by
  obtain ⟨fd, F⟩ := c.d.def_ 28 rfl
  exact ⟨fd, F, F.bindsN (ps := ["number"]) fun _ _ _ _ _ _ us hl => match us, hl with | [_], _ => rfl⟩
theorem got_law_bits (X : K.In h) (G : h.Ns mainGlobals mg) (c : He.SaysT faH fnH tsH w K) (e : ∀ f ∈ exH, f K = true) : Got P w K mg base 1 "_law_bits" 1 wf_law_bits := by
  obtain ⟨fd, F, b⟩ := fb_law_bits c
  exact got_of (k := 0) F (gl_ok' X G c in_law_bits) b sc_law_bits ch_law_bits (fun x hx => bl_ok X G c (sub_law_bits_bl x hx)) tab_nil rfl (fun x n h => gi_ok X G c (sub_law_bits_gi (x, n) h)) (fun i x kvs h => by simp [ck_law_bits] at h) (sp_law_bits)
theorem sub_law_modpow_gi : ∀ z ∈ ck_law_modpow.gi, z ∈ giH := by decide +kernel
theorem sub_law_modpow_bl : ∀ z ∈ ck_law_modpow.bl, z ∈ blH := by decide +kernel
theorem in_law_modpow : ("_law_modpow" : Str) ∈ glH := by decide +kernel
theorem fb_law_modpow (c : He.SaysT faH fnH tsH w K) : ∃ fd, FunD K "_law_modpow" "_law_modpow" (defArgs st_law_modpow) (defBody st_law_modpow) (defScope st_law_modpow) [] [] (He.ga K "_law_modpow") fd ∧ Binds K fd ["a", "e", "m"] [] := by
  obtain ⟨fd, F⟩ := c.d.def_ 29 rfl
  exact ⟨fd, F, F.bindsN (ps := ["a", "e", "m"]) fun _ _ _ _ _ _ us hl => match us, hl with | [_, _, _], _ => rfl⟩
theorem got_law_modpow (X : K.In h) (G : h.Ns mainGlobals mg) (c : He.SaysT faH fnH tsH w K) (e : ∀ f ∈ exH, f K = true) : Got P w K mg base 2 "_law_modpow" 3 wf_law_modpow := by
  obtain ⟨fd, F, b⟩ := fb_law_modpow c
  exact got_of (k := 1) F (gl_ok' X G c in_law_modpow) b sc_law_modpow ch_law_modpow (fun x hx => bl_ok X G c (sub_law_modpow_bl x hx)) (tab_cons (got_law_bits X G c e) (by decide) tab_nil) rfl (fun x n h => gi_ok X G c (sub_law_modpow_gi (x, n) h)) (fun i x kvs h => by simp [ck_law_modpow] at h) (sp_law_modpow)
theorem sub_law_prime_gi : ∀ z ∈ ck_law_prime.gi, z ∈ giH := by decide +kernel
theorem sub_law_prime_bl : ∀ z ∈ ck_law_prime.bl, z ∈ blH := by decide +kernel
theorem in_law_prime : ("_law_prime" : Str) ∈ glH := by decide +kernel
theorem fb_law_prime (c : He.SaysT faH fnH tsH w K) : ∃ fd, FunD K "_law_prime" "_law_prime" (defArgs st_law_prime) (defBody st_law_prime) (defScope st_law_prime) [] [] (He.ga K "_law_prime") fd ∧ Binds K fd ["n"] [] := by
  obtain ⟨fd, F⟩ := c.d.def_ 30 rfl
  exact ⟨fd, F, F.bindsN (ps := ["n"]) fun _ _ _ _ _ _ us hl => match us, hl with | [_], _ => rfl⟩
theorem got_law_prime (X : K.In h) (G : h.Ns mainGlobals mg) (c : He.SaysT faH fnH tsH w K) (e : ∀ f ∈ exH, f K = true) : Got P w K mg base 3 "_law_prime" 1 wf_law_prime := by
  obtain ⟨fd, F, b⟩ := fb_law_prime c
  exact got_of (k := 2) F (gl_ok' X G c in_law_prime) b sc_law_prime ch_law_prime (fun x hx => bl_ok X G c (sub_law_prime_bl x hx)) (tab_cons (got_law_modpow X G c e) (by decide) tab_nil) rfl (fun x n h => gi_ok X G c (sub_law_prime_gi (x, n) h)) (fun i x kvs h => by simp [ck_law_prime] at h) (sp_law_prime)
theorem sub_law_next_gi : ∀ z ∈ ck_law_next.gi, z ∈ giH := by decide +kernel
theorem sub_law_next_bl : ∀ z ∈ ck_law_next.bl, z ∈ blH := by decide +kernel
theorem in_law_next : ("_law_next" : Str) ∈ glH := by decide +kernel
theorem fb_law_next (c : He.SaysT faH fnH tsH w K) : ∃ fd, FunD K "_law_next" "_law_next" (defArgs st_law_next) (defBody st_law_next) (defScope st_law_next) [] [] (He.ga K "_law_next") fd ∧ Binds K fd ["draws", "bound"] [] := by
  obtain ⟨fd, F⟩ := c.d.def_ 31 rfl
  exact ⟨fd, F, F.bindsN (ps := ["draws", "bound"]) fun _ _ _ _ _ _ us hl => match us, hl with | [_, _], _ => rfl⟩
theorem got_law_next (X : K.In h) (G : h.Ns mainGlobals mg) (c : He.SaysT faH fnH tsH w K) (e : ∀ f ∈ exH, f K = true) : Got P w K mg base 1 "_law_next" 2 wf_law_next := by
  obtain ⟨fd, F, b⟩ := fb_law_next c
  exact got_of (k := 0) F (gl_ok' X G c in_law_next) b sc_law_next ch_law_next (fun x hx => bl_ok X G c (sub_law_next_bl x hx)) tab_nil rfl (fun x n h => gi_ok X G c (sub_law_next_gi (x, n) h)) (fun i x kvs h => by simp [ck_law_next] at h) (sp_law_next)
theorem sub_law_pick_gi : ∀ z ∈ ck_law_pick.gi, z ∈ giH := by decide +kernel
theorem sub_law_pick_bl : ∀ z ∈ ck_law_pick.bl, z ∈ blH := by decide +kernel
theorem in_law_pick : ("_law_pick" : Str) ∈ glH := by decide +kernel
theorem fb_law_pick (c : He.SaysT faH fnH tsH w K) : ∃ fd, FunD K "_law_pick" "_law_pick" (defArgs st_law_pick) (defBody st_law_pick) (defScope st_law_pick) [] [] (He.ga K "_law_pick") fd ∧ Binds K fd ["draws", "things"] [] := by
  obtain ⟨fd, F⟩ := c.d.def_ 32 rfl
  exact ⟨fd, F, F.bindsN (ps := ["draws", "things"]) fun _ _ _ _ _ _ us hl => match us, hl with | [_, _], _ => rfl⟩
theorem got_law_pick (X : K.In h) (G : h.Ns mainGlobals mg) (c : He.SaysT faH fnH tsH w K) (e : ∀ f ∈ exH, f K = true) : Got P w K mg base 2 "_law_pick" 2 wf_law_pick := by
  obtain ⟨fd, F, b⟩ := fb_law_pick c
  exact got_of (k := 1) F (gl_ok' X G c in_law_pick) b sc_law_pick ch_law_pick (fun x hx => bl_ok X G c (sub_law_pick_bl x hx)) (tab_cons (got_law_next X G c e) (by decide) tab_nil) rfl (fun x n h => gi_ok X G c (sub_law_pick_gi (x, n) h)) (fun i x kvs h => by simp [ck_law_pick] at h) (sp_law_pick)
theorem sub_law_digits_gi : ∀ z ∈ ck_law_digits.gi, z ∈ giH := by decide +kernel
theorem sub_law_digits_bl : ∀ z ∈ ck_law_digits.bl, z ∈ blH := by decide +kernel
theorem in_law_digits : ("_law_digits" : Str) ∈ glH := by decide +kernel
theorem fb_law_digits (c : He.SaysT faH fnH tsH w K) : ∃ fd, FunD K "_law_digits" "_law_digits" (defArgs st_law_digits) (defBody st_law_digits) (defScope st_law_digits) [] [] (He.ga K "_law_digits") fd ∧ Binds K fd ["number"] [] := by
  obtain ⟨fd, F⟩ := c.d.def_ 33 rfl
  exact ⟨fd, F, F.bindsN (ps := ["number"]) fun _ _ _ _ _ _ us hl => match us, hl with | [_], _ => rfl⟩
theorem got_law_digits (X : K.In h) (G : h.Ns mainGlobals mg) (c : He.SaysT faH fnH tsH w K) (e : ∀ f ∈ exH, f K = true) : Got P w K mg base 1 "_law_digits" 1 wf_law_digits := by
  obtain ⟨fd, F, b⟩ := fb_law_digits c
  exact got_of (k := 0) F (gl_ok' X G c in_law_digits) b sc_law_digits ch_law_digits (fun x hx => bl_ok X G c (sub_law_digits_bl x hx)) tab_nil rfl (fun x n h => gi_ok X G c (sub_law_digits_gi (x, n) h)) (fun i x kvs h => by simp [ck_law_digits] at h) (sp_law_digits)
theorem sub_law_bound_gi : ∀ z ∈ ck_law_bound.gi, z ∈ giH := by decide +kernel
theorem sub_law_bound_bl : ∀ z ∈ ck_law_bound.bl, z ∈ blH := by decide +kernel
theorem in_law_bound : ("_law_bound" : Str) ∈ glH := by decide +kernel
theorem fb_law_bound (c : He.SaysT faH fnH tsH w K) : ∃ fd, FunD K "_law_bound" "_law_bound" (defArgs st_law_bound) (defBody st_law_bound) (defScope st_law_bound) [] [] (He.ga K "_law_bound") fd ∧ Binds K fd ["xs", "ys", "c"] [] := by
  obtain ⟨fd, F⟩ := c.d.def_ 34 rfl
  exact ⟨fd, F, F.bindsN (ps := ["xs", "ys", "c"]) fun _ _ _ _ _ _ us hl => match us, hl with | [_, _, _], _ => rfl⟩
theorem got_law_bound (X : K.In h) (G : h.Ns mainGlobals mg) (c : He.SaysT faH fnH tsH w K) (e : ∀ f ∈ exH, f K = true) : Got P w K mg base 2 "_law_bound" 3 wf_law_bound := by
  obtain ⟨fd, F, b⟩ := fb_law_bound c
  exact got_of (k := 1) F (gl_ok' X G c in_law_bound) b sc_law_bound ch_law_bound (fun x hx => bl_ok X G c (sub_law_bound_bl x hx)) (tab_cons (got_law_digits X G c e) (by decide) tab_nil) rfl (fun x n h => gi_ok X G c (sub_law_bound_gi (x, n) h)) (fun i x kvs h => by simp [ck_law_bound] at h) (sp_law_bound)
theorem sub_law_dot_gi : ∀ z ∈ ck_law_dot.gi, z ∈ giH := by decide +kernel
theorem sub_law_dot_bl : ∀ z ∈ ck_law_dot.bl, z ∈ blH := by decide +kernel
theorem in_law_dot : ("_law_dot" : Str) ∈ glH := by decide +kernel
theorem fb_law_dot (c : He.SaysT faH fnH tsH w K) : ∃ fd, FunD K "_law_dot" "_law_dot" (defArgs st_law_dot) (defBody st_law_dot) (defScope st_law_dot) [] [] (He.ga K "_law_dot") fd ∧ Binds K fd ["xs", "ys"] [] := by
  obtain ⟨fd, F⟩ := c.d.def_ 35 rfl
  exact ⟨fd, F, F.bindsN (ps := ["xs", "ys"]) fun _ _ _ _ _ _ us hl => match us, hl with | [_, _], _ => rfl⟩
theorem got_law_dot (X : K.In h) (G : h.Ns mainGlobals mg) (c : He.SaysT faH fnH tsH w K) (e : ∀ f ∈ exH, f K = true) : Got P w K mg base 1 "_law_dot" 2 wf_law_dot := by
  obtain ⟨fd, F, b⟩ := fb_law_dot c
  exact got_of (k := 0) F (gl_ok' X G c in_law_dot) b sc_law_dot ch_law_dot (fun x hx => bl_ok X G c (sub_law_dot_bl x hx)) tab_nil rfl (fun x n h => gi_ok X G c (sub_law_dot_gi (x, n) h)) (fun i x kvs h => by simp [ck_law_dot] at h) (sp_law_dot)
theorem sub_law_due_gi : ∀ z ∈ ck_law_due.gi, z ∈ giH := by decide +kernel
theorem sub_law_due_bl : ∀ z ∈ ck_law_due.bl, z ∈ blH := by decide +kernel
theorem in_law_due : ("_law_due" : Str) ∈ glH := by decide +kernel
theorem fb_law_due (c : He.SaysT faH fnH tsH w K) : ∃ fd, FunD K "_law_due" "_law_due" (defArgs st_law_due) (defBody st_law_due) (defScope st_law_due) [] [] (He.ga K "_law_due") fd ∧ Binds K fd ["xs", "ys", "c", "primes"] [] := by
  obtain ⟨fd, F⟩ := c.d.def_ 36 rfl
  exact ⟨fd, F, F.bindsN (ps := ["xs", "ys", "c", "primes"]) fun _ _ _ _ _ _ us hl => match us, hl with | [_, _, _, _], _ => rfl⟩
theorem got_law_due (X : K.In h) (G : h.Ns mainGlobals mg) (c : He.SaysT faH fnH tsH w K) (e : ∀ f ∈ exH, f K = true) : Got P w K mg base 4 "_law_due" 4 wf_law_due := by
  obtain ⟨fd, F, b⟩ := fb_law_due c
  exact got_of (k := 3) F (gl_ok' X G c in_law_due) b sc_law_due ch_law_due (fun x hx => bl_ok X G c (sub_law_due_bl x hx)) (tab_cons (got_law_bound X G c e) (by decide) (tab_cons (got_law_dot X G c e) (by decide) (tab_cons (got_law_prime X G c e) (by decide) tab_nil))) rfl (fun x n h => gi_ok X G c (sub_law_due_gi (x, n) h)) (fun i x kvs h => by simp [ck_law_due] at h) (sp_law_due)
theorem sub_law_primes_gi : ∀ z ∈ ck_law_primes.gi, z ∈ giH := by decide +kernel
theorem sub_law_primes_bl : ∀ z ∈ ck_law_primes.bl, z ∈ blH := by decide +kernel
theorem in_law_primes : ("_law_primes" : Str) ∈ glH := by decide +kernel
theorem fb_law_primes (c : He.SaysT faH fnH tsH w K) : ∃ fd, FunD K "_law_primes" "_law_primes" (defArgs st_law_primes) (defBody st_law_primes) (defScope st_law_primes) [] [] (He.ga K "_law_primes") fd ∧ Binds K fd ["draws", "bound"] [] := by
  obtain ⟨fd, F⟩ := c.d.def_ 37 rfl
  exact ⟨fd, F, F.bindsN (ps := ["draws", "bound"]) fun _ _ _ _ _ _ us hl => match us, hl with | [_, _], _ => rfl⟩
theorem got_law_primes (X : K.In h) (G : h.Ns mainGlobals mg) (c : He.SaysT faH fnH tsH w K) (e : ∀ f ∈ exH, f K = true) : Got P w K mg base 4 "_law_primes" 2 wf_law_primes := by
  obtain ⟨fd, F, b⟩ := fb_law_primes c
  exact got_of (k := 3) F (gl_ok' X G c in_law_primes) b sc_law_primes ch_law_primes (fun x hx => bl_ok X G c (sub_law_primes_bl x hx)) (tab_cons (got_law_prime X G c e) (by decide) (tab_cons (got_law_next X G c e) (by decide) tab_nil)) rfl (fun x n h => gi_ok X G c (sub_law_primes_gi (x, n) h)) (fun i x kvs h => by simp [ck_law_primes] at h) (sp_law_primes)
theorem sub_law_great_gi : ∀ z ∈ ck_law_great.gi, z ∈ giH := by decide +kernel
theorem sub_law_great_bl : ∀ z ∈ ck_law_great.bl, z ∈ blH := by decide +kernel
theorem in_law_great : ("_law_great" : Str) ∈ glH := by decide +kernel
theorem fb_law_great (c : He.SaysT faH fnH tsH w K) : ∃ fd, FunD K "_law_great" "_law_great" (defArgs st_law_great) (defBody st_law_great) (defScope st_law_great) [] [] (He.ga K "_law_great") fd ∧ Binds K fd ["draws"] [] := by
  obtain ⟨fd, F⟩ := c.d.def_ 38 rfl
  exact ⟨fd, F, F.bindsN (ps := ["draws"]) fun _ _ _ _ _ _ us hl => match us, hl with | [_], _ => rfl⟩
theorem got_law_great (X : K.In h) (G : h.Ns mainGlobals mg) (c : He.SaysT faH fnH tsH w K) (e : ∀ f ∈ exH, f K = true) : Got P w K mg base 2 "_law_great" 1 wf_law_great := by
  obtain ⟨fd, F, b⟩ := fb_law_great c
  exact got_of (k := 1) F (gl_ok' X G c in_law_great) b sc_law_great ch_law_great (fun x hx => bl_ok X G c (sub_law_great_bl x hx)) (tab_cons (got_law_next X G c e) (by decide) tab_nil) rfl (fun x n h => gi_ok X G c (sub_law_great_gi (x, n) h)) (fun i x kvs h => by simp [ck_law_great] at h) (sp_law_great)
theorem sub_law_draws_gi : ∀ z ∈ ck_law_draws.gi, z ∈ giH := by decide +kernel
theorem sub_law_draws_bl : ∀ z ∈ ck_law_draws.bl, z ∈ blH := by decide +kernel
theorem in_law_draws : ("_law_draws" : Str) ∈ glH := by decide +kernel
theorem fb_law_draws (c : He.SaysT faH fnH tsH w K) : ∃ fd, FunD K "_law_draws" "_law_draws" (defArgs st_law_draws) (defBody st_law_draws) (defScope st_law_draws) [] [] (He.ga K "_law_draws") fd ∧ Binds K fd ["script"] [] := by
  obtain ⟨fd, F⟩ := c.d.def_ 39 rfl
  exact ⟨fd, F, F.bindsN (ps := ["script"]) fun _ _ _ _ _ _ us hl => match us, hl with | [_], _ => rfl⟩
theorem got_law_draws (X : K.In h) (G : h.Ns mainGlobals mg) (c : He.SaysT faH fnH tsH w K) (e : ∀ f ∈ exH, f K = true) : Got P w K mg base 1 "_law_draws" 1 wf_law_draws := by
  obtain ⟨fd, F, b⟩ := fb_law_draws c
  exact got_of (k := 0) F (gl_ok' X G c in_law_draws) b sc_law_draws ch_law_draws (fun x hx => bl_ok X G c (sub_law_draws_bl x hx)) tab_nil rfl (fun x n h => gi_ok X G c (sub_law_draws_gi (x, n) h)) (fun i x kvs h => by simp [ck_law_draws] at h) (sp_law_draws)
theorem sub_law_gi : ∀ z ∈ ck_law.gi, z ∈ giH := by decide +kernel
theorem sub_law_bl : ∀ z ∈ ck_law.bl, z ∈ blH := by decide +kernel
theorem in_law : ("law" : Str) ∈ glH := by decide +kernel
theorem fb_law (c : He.SaysT faH fnH tsH w K) : ∃ fd, FunD K "law" "law" (defArgs st_law) (defBody st_law) (defScope st_law) [] [] (He.ga K "law") fd ∧ Binds K fd ["script"] [] := by
  obtain ⟨fd, F⟩ := c.d.def_ 40 rfl
  exact ⟨fd, F, F.bindsN (ps := ["script"]) fun _ _ _ _ _ _ us hl => match us, hl with | [_], _ => rfl⟩
theorem ok_law {fd : FuncData} (F : FunD K "law" "law" (defArgs st_law) (defBody st_law) (defScope st_law) [] [] (He.ga K "law") fd) (X : K.In h) (G : h.Ns mainGlobals mg) (c : He.SaysT faH fnH tsH w K) (e : ∀ f ∈ exH, f K = true) : FnOk P w K mg base CX0 9 (He.ga K "law") fd ["script"] (spF K (ghK K mg) 1 wf_law) :=
  fn_cx0 (fn_ok (k := 8) F sc_law ch_law (fun x hx => bl_ok X G c (sub_law_bl x hx)) (tab_cons (got_judge X G c e) (by decide) (tab_cons (got_law_same_L X G c e) (by decide) (tab_cons (got_law_taken X G c e) (by decide) (tab_cons (got_law_prime X G c e) (by decide) (tab_cons (got_law_pick X G c e) (by decide) (tab_cons (got_law_next X G c e) (by decide) (tab_cons (got_law_due X G c e) (by decide) (tab_cons (got_law_primes X G c e) (by decide) (tab_cons (got_law_bound X G c e) (by decide) (tab_cons (got_law_dot X G c e) (by decide) (tab_cons (got_law_great X G c e) (by decide) (tab_cons (got_law_draws X G c e) (by decide) tab_nil)))))))))))) (fun c x h => by cases h) (fun x n h => gi_ok X G c (sub_law_gi (x, n) h)) (fun i x kvs h => by simp [ck_law] at h) (sp_law))
end
end T
open PySem PySem.W PySem.Calls PyProof.Rows VL
theorem PySem.Challenge.cw_papersums_k51_whole_rests_and_digits_jud_holds : PySem.Challenge.rw_papersums_k51_whole_rests_and_digits_jud.Holds := by
  refine T.hL fun said => ?_
  refine HandSHeadRun.head_any (r := OpenLaw.row PySem.Challenge.rw_papersums_k51_whole_rests_and_digits_jud) (q := T.q) (H := T.hkH) (ob := obV 2 T.faH T.fnH T.tsH T.exH) (M := 12000) (loose := T.nmH) (d := T.dl) (kwd := []) obV_eq
    T.hE T.hF T.runH T.hD T.hP T.hK (by rfl) said T.hO T.hB T.hW ?hc
  case hc =>
    refine L2.walk_ofE (l := PySem.Challenge.rw_papersums_k51_whole_rests_and_digits_jud) (n := 63) (k := 9) (x := "script") (CX := L2.CX0) rfl (by decide) T.hA ⟨rfl, by decide, by decide⟩ ?F (fun _ _ _ _ z => z)
    intro w mg fa h Y G hmg0
    obtain ⟨K, KX, c, e⟩ := Y
    have hmg : mg ("law" : PySem.Str) = some (.ref fa) := by
      have e : T.dl.name = ("law" : PySem.Str) := by kernel_rfl
      rw [← e]
      exact hmg0
    have ea := hmg.symm.trans (T.gl_ok' KX G c T.in_law)
    cases ea
    obtain ⟨fd, F⟩ := c.d.def_ 40 rfl
    have b := L2.FunD.bindsA (ps := ["script"]) F fun _ _ _ _ _ _ us hl => match us, hl with | [_], _ => rfl
    exact ⟨K, fd, _, KX, fun s u => b s [u] rfl, fun H a ns hl o hS => law_frz (wf := T.wf_law) (fun ns g Q _ hQ => ⟨ns, rfl, hQ⟩) H a ns hl o hS, fun base _ _ => T.ok_law F KX G c e⟩
